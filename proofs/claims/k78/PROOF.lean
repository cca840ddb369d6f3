import PyProof.Rows.All
import Wide.All
import OpenK.AllK
import Wide.FinOn
import HandS.ForMost
import HandS.Exc
import HandS.TryOnly
import HandS.TryMany
import HandS.ExcOwn
import HandS.ExcField
import HandS.IsInst
import HandS.Strs
import HandS.Replace
import HandS.Text
import KE.DataCmp
import HandS.WordsExc
import KE.KExcSuper
import KE.OsGo
import HandS.Style
import HandS.SortInts
import HandS.WideBits
import HandS.Zip
import KE.SortData
import KE.DataMinMax
import PyProof.Draws
import KE.GoesZip
import PyProof.EnumMake
import HandS.More
import HandS.Codes
import HandS.Deep
import HandS.Conv
import HandS.ExcInit
import KE.RegKSuper
import KE.KExcLine
import PySem.Challenge.RW_kinwork_k78_whole_rings
set_option Elab.async false
set_option linter.all false
set_option maxRecDepth 100000
set_option maxHeartbeats 8000000
/-! KL, part a: deep values, what stands for them in a heap, abstract frames, what an evaluation leaves. -/
namespace KL
open PySem L2

/-- a value as data: no addresses but those of classes -/
inductive D where
  | non | bl (b : Bool) | int (i : Int) | str (x : Str)
  | lst (xs : List D) | tup (xs : List D)
  | lsx (xs : List D)
  | dk (kvs : List (Key × D)) | dt (kvs : List (List Key × D))
  | obj (x : Str) (fs : List (Str × D))
  | fn (a : Addr)
  | unk
deriving Inhabited

/-- all that is tracked stays -/
def Ex (H H' : Hp) : Prop := ∀ a o, H a = some o → H' a = some o
theorem Ex.refl (H : Hp) : Ex H H := fun _ _ h => h
theorem Ex.trans {H H1 H2 : Hp} (a : Ex H H1) (b : Ex H1 H2) : Ex H H2 := fun x o h => b x o (a x o h)
theorem Ex.new {H : Hp} {p : Addr} {o : HO} (h : H p = none) : Ex H (upd H p o) := fun a u e => by
  rw [upd_ne (ne_of_none e h)]; exact e
theorem Ex.rd {H H' : Hp} {a : Addr} {u : HO} (e : Ex H H') (h : Rd H a u) : Rd H' a u := by
  rcases h with h | ⟨o, h⟩
  · exact .inl (e a _ h)
  · exact .inr ⟨o, e a _ h⟩
theorem Ex.sl {K : PySem.W.Frag} {H H' : Hp} {a : Addr} {xs : List V} (e : Ex H H') (h : SqL K H a xs) : SqL K H' a xs := by
  rcases h with h | h
  · exact .inl (e.rd h)
  · exact .inr h
theorem Ex.st {K : PySem.W.Frag} {H H' : Hp} {a : Addr} {xs : List V} (e : Ex H H') (h : SqT K H a xs) : SqT K H' a xs := by
  rcases h with h | h
  · exact .inl (e.rd h)
  · exact .inr h
theorem Ex.none {H H' : Hp} {a : Addr} (e : Ex H H') (h : H' a = Option.none) : H a = Option.none := by
  cases q : H a with
  | none => rfl
  | some o => rw [e a o q] at h; cases h

/-- the value v, in the heap F, is the data d -/
inductive Rep (K : PySem.W.Frag) (F : Hp) : V → D → Prop
  | non : Rep K F .non .non
  | bl (b : Bool) : Rep K F (.bl b) (.bl b)
  | int (i : Int) : Rep K F (.int i) (.int i)
  | str (x : Str) : Rep K F (.str x) (.str x)
  | lst {a : Addr} {vs : List V} {ds : List D} : F a = some (.lst vs) → vs.length = ds.length → (∀ (i : Nat) v d, vs[i]? = some v → ds[i]? = some d → Rep K F v d) → Rep K F (.ref a) (.lst ds)
  | lsx {a : Addr} {vs : List V} {ds : List D} : SqL K F a vs → vs.length = ds.length → (∀ (i : Nat) v d, vs[i]? = some v → ds[i]? = some d → Rep K F v d) → Rep K F (.ref a) (.lsx ds)
  | tup {a : Addr} {vs : List V} {ds : List D} : SqT K F a vs → vs.length = ds.length → (∀ (i : Nat) v d, vs[i]? = some v → ds[i]? = some d → Rep K F v d) → Rep K F (.ref a) (.tup ds)
  | dk {a : Addr} {kvs : List (Key × V)} {kds : List (Key × D)} : Rd F a (.dK kvs) → kvs.length = kds.length →
      (∀ (i : Nat) p q, kvs[i]? = some p → kds[i]? = some q → p.1 = q.1) → (∀ (i : Nat) p q, kvs[i]? = some p → kds[i]? = some q → Rep K F p.2 q.2) → Rep K F (.ref a) (.dk kds)
  | obj {a C dx : Addr} {x : Str} {fvs : List (Str × V)} {fds : List (Str × D)} : PySem.W.nsIn K mainGlobals x = some (some (.ref C)) → F a = some (.ins C dx fvs) → fvs.length = fds.length →
      (∀ (i : Nat) p q, fvs[i]? = some p → fds[i]? = some q → p.1 = q.1) → (∀ (i : Nat) p q, fvs[i]? = some p → fds[i]? = some q → Rep K F p.2 q.2) → Rep K F (.ref a) (.obj x fds)
  | unk (v : V) : Rep K F v .unk
  | fn (a : Addr) : Rep K F (.ref a) (.fn a)
def Reps (K : PySem.W.Frag) (F : Hp) (vs : List V) (ds : List D) : Prop := vs.length = ds.length ∧ ∀ (i : Nat) v d, vs[i]? = some v → ds[i]? = some d → Rep K F v d
section
variable {K : PySem.W.Frag} {F F' H : Hp} {v : V} {d : D} {vs ws : List V} {ds es : List D}
theorem Rep.mono (e : Ex F F') (h : Rep K F v d) : Rep K F' v d := by
  induction h with
  | non => exact .non
  | bl b => exact .bl b
  | int i => exact .int i
  | str x => exact .str x
  | lst h1 h2 h3 ih => exact .lst (e _ _ h1) h2 ih
  | lsx h1 h2 h3 ih => exact .lsx (e.sl h1) h2 ih
  | tup h1 h2 h3 ih => exact .tup (e.st h1) h2 ih
  | dk h1 h2 h3 h4 ih => exact .dk (e.rd h1) h2 h3 ih
  | obj h0 h1 h2 h3 h4 ih => exact .obj h0 (e _ _ h1) h2 h3 ih
  | unk v => exact .unk v
  | fn a => exact .fn a
theorem Reps.mono (e : Ex F F') (h : Reps K F vs ds) : Reps K F' vs ds := ⟨h.1, fun i v d h1 h2 => (h.2 i v d h1 h2).mono e⟩
theorem Reps.nil : Reps K F [] [] := ⟨rfl, fun i v d h => by simp at h⟩
theorem Reps.cons (h : Rep K F v d) (hs : Reps K F vs ds) : Reps K F (v :: vs) (d :: ds) := by
  refine ⟨by simp [hs.1], fun i w e h1 h2 => ?_⟩
  cases i with
  | zero => simp at h1 h2; subst h1; subst h2; exact h
  | succ i => exact hs.2 i w e (by simpa using h1) (by simpa using h2)
theorem Reps.cons_inv {e : D} (h : Reps K F vs (e :: ds)) : ∃ w ws, vs = w :: ws ∧ Rep K F w e ∧ Reps K F ws ds := by
  cases vs with
  | nil => simp [Reps] at h
  | cons w ws =>
    refine ⟨w, ws, rfl, h.2 0 w e rfl rfl, ?_, fun i v d h1 h2 => h.2 (i + 1) v d (by simpa using h1) (by simpa using h2)⟩
    have := h.1; simpa using this
theorem Reps.nil_inv (h : Reps K F vs []) : vs = [] := by
  have := h.1; simpa using this
theorem Reps.append (h1 : Reps K F vs ds) (h2 : Reps K F ws es) : Reps K F (vs ++ ws) (ds ++ es) := by
  refine ⟨by simp [h1.1, h2.1], fun i v d e1 e2 => ?_⟩
  by_cases hi : i < vs.length
  · rw [List.getElem?_append_left hi] at e1
    rw [List.getElem?_append_left (by rw [← h1.1]; exact hi)] at e2
    exact h1.2 i v d e1 e2
  · rw [List.getElem?_append_right (by omega)] at e1
    rw [List.getElem?_append_right (by have := h1.1; omega)] at e2
    have e3 := h1.1
    rw [e3] at e1
    exact h2.2 _ v d e1 e2
theorem Reps.get (h : Reps K F vs ds) {i : Nat} {d : D} (e : ds[i]? = some d) : ∃ v, vs[i]? = some v ∧ Rep K F v d := by
  have hi := (List.getElem?_eq_some_iff.mp e).1
  have hv : i < vs.length := by rw [h.1]; exact hi
  exact ⟨vs[i], List.getElem?_eq_getElem hv, h.2 i _ d (List.getElem?_eq_getElem hv) e⟩
theorem Reps.set (h : Reps K F vs ds) (i : Nat) (hv : Rep K F v d) : Reps K F (vs.set i v) (ds.set i d) := by
  refine ⟨by simp [h.1], fun j w e h1 h2 => ?_⟩
  by_cases hj : i = j
  · subst hj
    by_cases hi : i < vs.length
    · rw [List.getElem?_set_self hi] at h1
      rw [List.getElem?_set_self (by rw [← h.1]; exact hi)] at h2
      cases h1; cases h2; exact hv
    · rw [List.getElem?_eq_none (by simp; omega)] at h1; cases h1
  · rw [List.getElem?_set_ne hj] at h1 h2
    exact h.2 j w e h1 h2
theorem Reps.take (n : Nat) (h : Reps K F vs ds) : Reps K F (vs.take n) (ds.take n) := by
  refine ⟨by simp [h.1], fun i v d h1 h2 => ?_⟩
  rw [List.getElem?_take] at h1 h2
  split at h1
  · rename_i hi; rw [if_pos hi] at h2; exact h.2 i v d h1 h2
  · cases h1
theorem Reps.drop (n : Nat) (h : Reps K F vs ds) : Reps K F (vs.drop n) (ds.drop n) := by
  refine ⟨by simp [h.1], fun i v d h1 h2 => ?_⟩
  rw [List.getElem?_drop] at h1 h2
  exact h.2 _ v d h1 h2
theorem Reps.dropLast (h : Reps K F vs ds) : Reps K F vs.dropLast ds.dropLast := by
  have := h.take (vs.length - 1)
  rw [List.dropLast_eq_take, List.dropLast_eq_take, ← h.1]
  exact this
theorem Reps.reverse (h : Reps K F vs ds) : Reps K F vs.reverse ds.reverse := by
  refine ⟨by simp [h.1], fun i v d h1 h2 => ?_⟩
  have hi : i < vs.length := by
    have := (List.getElem?_eq_some_iff.mp h1).1; simpa using this
  rw [List.getElem?_reverse hi] at h1
  rw [List.getElem?_reverse (by rw [← h.1]; exact hi)] at h2
  have e3 := h.1
  rw [e3] at h1
  exact h.2 _ v d h1 h2
theorem Reps.map {α : Type} {l : List α} {f : α → V} {g : α → D} (h : ∀ x ∈ l, Rep K F (f x) (g x)) : Reps K F (l.map f) (l.map g) := by
  induction l with
  | nil => exact .nil
  | cons a l ih => exact .cons (h a (by simp)) (ih fun x hx => h x (by simp [hx]))
/-- an item read by its value -/
theorem rep_ref_lst (h : Rep K F v (.lst ds)) : ∃ a vs, v = .ref a ∧ F a = some (.lst vs) ∧ Reps K F vs ds := by
  cases h with
  | lst h1 h2 h3 => exact ⟨_, _, rfl, h1, h2, h3⟩
theorem rep_ref_lsx (h : Rep K F v (.lsx ds)) : ∃ a vs, v = .ref a ∧ SqL K F a vs ∧ Reps K F vs ds := by
  cases h with
  | lsx h1 h2 h3 => exact ⟨_, _, rfl, h1, h2, h3⟩
theorem rep_ref_tup (h : Rep K F v (.tup ds)) : ∃ a vs, v = .ref a ∧ SqT K F a vs ∧ Reps K F vs ds := by
  cases h with
  | tup h1 h2 h3 => exact ⟨_, _, rfl, h1, h2, h3⟩
end

/-! ### slots -/
/-- what is known of a slot: nothing; frozen data; an own list (mine, or handed in by the caller); an exception that is handled -/
inductive Exc where
  | mk (cls : Str) (fs : List (Str × D))
deriving Inhabited
/-- what is owned: a list, an object that is being made (some of its fields) -/
inductive OwnV where
  | l (xs : List D) | s (x : Str) (fs : List (Str × D))
deriving Inhabited
inductive Cell where
  | no | va (d : D) | owv (o : OwnV) | pav (o : OwnV) | xc (x : Exc)
deriving Inhabited
abbrev Cell.ow (xs : List D) : Cell := .owv (.l xs)
abbrev Cell.pa (xs : List D) : Cell := .pav (.l xs)
abbrev Cell.so (x : Str) (fs : List (Str × D)) : Cell := .pav (.s x fs)
def Cell.own? : Cell → Option OwnV
  | .owv o => some o
  | .pav o => some o
  | _ => none
def Cell.list? : Cell → Option (List D)
  | .owv (.l xs) => some xs
  | .pav (.l xs) => some xs
  | _ => none
theorem Cell.own_of_list {c : Cell} {xs : List D} (h : c.list? = some xs) : c.own? = some (.l xs) := by
  cases c with
  | owv o => cases o with
    | l ys => cases h; rfl
    | s x fs => cases h
  | pav o => cases o with
    | l ys => cases h; rfl
    | s x fs => cases h
  | _ => cases h
/-- the object of the heap is that own thing -/
inductive OwnOk (K : PySem.W.Frag) (F : Hp) : HO → OwnV → Prop
  | l {vs : List V} {xs : List D} : Reps K F vs xs → OwnOk K F (.lst vs) (.l xs)
  | s {C dx : Addr} {x : Str} {fvs : List (Str × V)} {fds : List (Str × D)} : PySem.W.nsIn K mainGlobals x = some (some (.ref C)) → fvs.length = fds.length → (∀ (i : Nat) p q, fvs[i]? = some p → fds[i]? = some q → p.1 = q.1) →
      (∀ (i : Nat) p q, fvs[i]? = some p → fds[i]? = some q → Rep K F p.2 q.2) → OwnOk K F (.ins C dx fvs) (.s x fds)
theorem OwnOk.mono {K : PySem.W.Frag} {F F' : Hp} {u : HO} {o : OwnV} (e : Ex F F') (h : OwnOk K F u o) : OwnOk K F' u o := by
  cases h with
  | l h => exact .l (h.mono e)
  | s h1 h2 h3 h4 => exact .s h1 h2 h3 fun i p q a b => (h4 i p q a b).mono e
theorem OwnOk.lst {K : PySem.W.Frag} {F : Hp} {u : HO} {xs : List D} (h : OwnOk K F u (.l xs)) : ∃ vs, u = .lst vs ∧ Reps K F vs xs := by
  cases h with
  | l h => exact ⟨_, rfl, h⟩
abbrev DEnv := List Cell
/-- what the layer leans on: the written part, the classes of exceptions by name, the exception that is handled (its address, class, dict) -/
structure Lx where
  K : PySem.W.Frag
  ct : Str → Option Addr
  xa : Option (Addr × Value × Option Addr)
/-- an exception as data -/
def XOk (L : Lx) (F : Hp) (c : Value) (dd : Option Addr) : Exc → Prop
  | .mk cls fs => ∃ C d fvs, c = .ref C ∧ L.ct cls = some C ∧ dd = some d ∧ F d = some (.xd fvs) ∧ fvs.length = fs.length ∧
      (∀ (i : Nat) p q, fvs[i]? = some p → fs[i]? = some q → p.1 = q.1) ∧ (∀ (i : Nat) p q, fvs[i]? = some p → fs[i]? = some q → Rep L.K F p.2 q.2)
theorem XOk.mono {L : Lx} {F F' : Hp} {c : Value} {dd : Option Addr} {x : Exc} (e : Ex F F') (h : XOk L F c dd x) : XOk L F' c dd x := by
  cases x with
  | mk cls fs =>
    obtain ⟨C, d, fvs, h1, h2, h3, h4, h5, h6, h7⟩ := h
    exact ⟨C, d, fvs, h1, h2, h3, e _ _ h4, h5, h6, fun i p q a b => (h7 i p q a b).mono e⟩
def CellOk (L : Lx) (F H : Hp) (o : Option V) : Cell → Prop
  | .no => True
  | .va d => ∃ v, o = some v ∧ Rep L.K F v d
  | .owv w => ∃ a u, o = some (.ref a) ∧ H a = some u ∧ F a = none ∧ OwnOk L.K F u w
  | .pav w => ∃ a u, o = some (.ref a) ∧ H a = some u ∧ F a = none ∧ OwnOk L.K F u w
  | .xc x => ∃ a c dd, L.xa = some (a, c, dd) ∧ o = some (.ref a) ∧ XOk L F c dd x
def slot (σ : St) (i : Nat) : Option V := (σ[i]?).join
theorem slot_set {σ : St} {i j : Nat} {v : V} (hi : i < σ.length) : slot (σ.set i (some v)) j = if j = i then some v else slot σ j := by
  unfold slot
  by_cases h : j = i
  · subst h; rw [if_pos rfl, List.getElem?_set_self hi]; rfl
  · rw [if_neg h, List.getElem?_set_ne (Ne.symm h)]
theorem slot_some {σ : St} {i : Nat} {v : V} (h : slot σ i = some v) : σ[i]? = some (some v) := by
  unfold slot at h
  cases q : σ[i]? with
  | none => rw [q] at h; cases h
  | some o => rw [q] at h; cases o with
    | none => cases h
    | some w => cases h; rfl
/-- a is the list of an own slot -/
def Own (σ : St) (Δ : DEnv) (a : Addr) : Prop := ∃ i c w, Δ[i]? = some c ∧ c.own? = some w ∧ slot σ i = some (.ref a)
structure EnvOk (L : Lx) (F : Hp) (σ : St) (Δ : DEnv) (H : Hp) : Prop where
  ex : Ex F H
  len : σ.length = Δ.length
  cells : ∀ (i : Nat) c, Δ[i]? = some c → CellOk L F H (slot σ i) c
  apart : ∀ (i j : Nat) c c' xs ys a, i ≠ j → Δ[i]? = some c → Δ[j]? = some c' → c.own? = some xs → c'.own? = some ys → slot σ i = some (.ref a) → slot σ j ≠ some (.ref a)
theorem CellOk.own {L : Lx} {F H : Hp} {o : Option V} {c : Cell} {w : OwnV} (h : CellOk L F H o c) (e : c.own? = some w) : ∃ a u, o = some (.ref a) ∧ H a = some u ∧ F a = none ∧ OwnOk L.K F u w := by
  cases c with
  | owv ys => cases e; exact h
  | pav ys => cases e; exact h
  | _ => cases e
theorem EnvOk.own {L : Lx} {F H : Hp} {σ : St} {Δ : DEnv} (h : EnvOk L F σ Δ H) {a : Addr} (o : Own σ Δ a) : ∃ u, H a = some u ∧ F a = none := by
  obtain ⟨i, c, xs, h1, h2, h3⟩ := o
  obtain ⟨b, vs, e1, e2, e3, _⟩ := (h.cells i c h1).own h2
  rw [h3] at e1; cases e1
  exact ⟨vs, e2, e3⟩
/-- what an evaluation may do: frozen things stay, all but the own lists stays, what is frozen or own anew was new or own -/
structure Step (σ : St) (Δ : DEnv) (F H : Hp) (σ' : St) (Δ' : DEnv) (F' H' : Hp) : Prop where
  fr : Ex F F'
  kp : ∀ b o, H b = some o → ¬ Own σ Δ b → H' b = some o
  fn : ∀ b o, F' b = some o → F b = some o ∨ H b = none ∨ Own σ Δ b
  ow : ∀ b, Own σ' Δ' b → Own σ Δ b ∨ H b = none
  pa : ∀ (i : Nat) xs, Δ[i]? = some (Cell.pav xs) → ∃ xs', Δ'[i]? = some (Cell.pav xs') ∧ slot σ' i = slot σ i
  pb : ∀ (i : Nat) xs, Δ'[i]? = some (Cell.pav xs) → ∃ xs', Δ[i]? = some (Cell.pav xs')
  th : ∀ b o, H b = some o → ∃ o', H' b = some o'
section
variable {σ σ1 σ2 : St} {Δ Δ1 Δ2 : DEnv} {F F1 F2 H H1 H2 : Hp}
theorem Step.refl : Step σ Δ F H σ Δ F H := ⟨Ex.refl F, fun _ _ h _ => h, fun _ _ h => .inl h, fun _ h => .inl h, fun _ xs h => ⟨xs, h, rfl⟩, fun _ xs h => ⟨xs, h⟩, fun _ o h => ⟨o, h⟩⟩
theorem Step.trans (a : Step σ Δ F H σ1 Δ1 F1 H1) (b : Step σ1 Δ1 F1 H1 σ2 Δ2 F2 H2) : Step σ Δ F H σ2 Δ2 F2 H2 := by
  have back : ∀ b, H1 b = none → H b = none := fun c h => by
    cases q : H c with
    | none => rfl
    | some o => obtain ⟨o', e⟩ := a.th c o q; rw [h] at e; cases e
  refine ⟨a.fr.trans b.fr, fun c o h n => ?_, fun c o h => ?_, fun c h => ?_, fun i xs h => ?_, fun i xs h => ?_, fun c o h => ?_⟩
  · refine b.kp c o (a.kp c o h n) fun w => ?_
    rcases a.ow c w with z | z
    · exact n z
    · rw [h] at z; cases z
  · rcases b.fn c o h with z | z | z
    · exact a.fn c o z
    · exact .inr (.inl (back c z))
    · rcases a.ow c z with y | y
      · exact .inr (.inr y)
      · exact .inr (.inl y)
  · rcases b.ow c h with z | z
    · exact a.ow c z
    · exact .inr (back c z)
  · obtain ⟨x1, e1, e2⟩ := a.pa i xs h
    obtain ⟨x2, e3, e4⟩ := b.pa i x1 e1
    exact ⟨x2, e3, e4.trans e2⟩
  · obtain ⟨x1, e1⟩ := b.pb i xs h
    exact a.pb i x1 e1
  · obtain ⟨o1, e1⟩ := a.th c o h
    exact b.th c o1 e1
theorem Step.hn (a : Step σ Δ F H σ1 Δ1 F1 H1) {b : Addr} (h : H1 b = none) : H b = none := by
  cases q : H b with
  | none => rfl
  | some o => obtain ⟨o', e⟩ := a.th b o q; rw [h] at e; cases e
end
/-- a change of the heap that leaves all: the frame stays as it is known -/
theorem EnvOk.grow {L : Lx} {F F' H H' : Hp} {σ : St} {Δ : DEnv} (h : EnvOk L F σ Δ H) (e : Ex H H') (f : Ex F F') (fh : Ex F' H') (fn : ∀ b o, F' b = some o → F b = some o ∨ H b = none) : EnvOk L F' σ Δ H' := by
  refine ⟨fh, h.len, fun i c hc => ?_, h.apart⟩
  have q := h.cells i c hc
  have own : ∀ w, (∃ a u, slot σ i = some (.ref a) ∧ H a = some u ∧ F a = none ∧ OwnOk L.K F u w) → ∃ a u, slot σ i = some (.ref a) ∧ H' a = some u ∧ F' a = none ∧ OwnOk L.K F' u w := by
    rintro xs ⟨a, vs, e1, e2, e3, e4⟩
    refine ⟨a, vs, e1, e _ _ e2, ?_, e4.mono f⟩
    cases z : F' a with
    | none => rfl
    | some o =>
      rcases fn a o z with y | y
      · rw [e3] at y; cases y
      · rw [e2] at y; cases y
  cases c with
  | no => trivial
  | va d => obtain ⟨v, e1, e2⟩ := q; exact ⟨v, e1, e2.mono f⟩
  | owv xs => exact own xs q
  | pav xs => exact own xs q
  | xc x => obtain ⟨a, c, dd, e1, e2, e3⟩ := q; exact ⟨a, c, dd, e1, e2, e3.mono f⟩
theorem Step.grow {F F' H H' : Hp} {σ : St} {Δ : DEnv} (e : Ex H H') (f : Ex F F') (fn : ∀ b o, F' b = some o → F b = some o ∨ H b = none) : Step σ Δ F H σ Δ F' H' :=
  ⟨f, fun b o h _ => e b o h, fun b o h => (fn b o h).elim .inl fun z => .inr (.inl z), fun _ h => .inl h, fun _ xs h => ⟨xs, h, rfl⟩, fun _ xs h => ⟨xs, h⟩, fun b o h => ⟨o, e b o h⟩⟩
/-- a new object that is frozen at once -/
theorem grow_new {F H : Hp} {p : Addr} {o : HO} (ex : Ex F H) (hp : H p = none) : Ex H (upd H p o) ∧ Ex F (upd F p o) ∧ Ex (upd F p o) (upd H p o) ∧ ∀ b u, upd F p o b = some u → F b = some u ∨ H b = none := by
  refine ⟨Ex.new hp, Ex.new (ex.none hp), fun b u e => ?_, fun b u e => ?_⟩
  · by_cases hb : b = p
    · subst hb; rw [upd_same] at e ⊢; exact e
    · rw [upd_ne hb] at e ⊢; exact ex b u e
  · by_cases hb : b = p
    · subst hb; exact .inr hp
    · rw [upd_ne hb] at e; exact .inl e

/-! ### results -/
inductive Res (α : Type) where
  | stuck | ok (a : α) (Δ : DEnv) | ex (x : Exc) (Δ : DEnv)
def Res.bind {α β : Type} (r : Res α) (f : α → DEnv → Res β) : Res β := match r with
  | .stuck => .stuck
  | .ok a Δ => f a Δ
  | .ex x Δ => .ex x Δ
/-- what must hold behind an evaluation that is told by r: Q at a value, W at an exception -/
def Want {α : Type} (L : Lx) (W : WX) (σ : St) (Δ : DEnv) (F H : Hp) (r : Res α) (Q : α → DEnv → Hp → Hp → Prop) : Prop := match r with
  | .stuck => False
  | .ok a Δ' => ∀ F' H', EnvOk L F' σ Δ' H' → Step σ Δ F H σ Δ' F' H' → Q a Δ' F' H'
  | .ex x Δ' => ∀ c dd F' H', EnvOk L F' σ Δ' H' → Step σ Δ F H σ Δ' F' H' → XOk L F' c dd x → W c dd σ H'
section
variable {α β : Type} {L : Lx} {W : WX} {σ : St} {Δ : DEnv} {F H : Hp}
theorem Want.bind {r : Res α} {f : α → DEnv → Res β} {Q : β → DEnv → Hp → Hp → Prop} (h : Want L W σ Δ F H (r.bind f) Q) : Want L W σ Δ F H r (fun a Δ1 F1 H1 => Want L W σ Δ1 F1 H1 (f a Δ1) Q) := by
  cases r with
  | stuck => exact h
  | ex x Δ' => exact h
  | ok a Δ1 =>
    intro F1 H1 e1 s1
    have h' : Want L W σ Δ F H (f a Δ1) Q := h
    show Want L W σ Δ1 F1 H1 (f a Δ1) Q
    cases q : f a Δ1 with
    | stuck => rw [q] at h'; exact h'
    | ok b Δ2 => rw [q] at h'; exact fun F2 H2 e2 s2 => h' F2 H2 e2 (s1.trans s2)
    | ex x Δ2 => rw [q] at h'; exact fun c dd F2 H2 e2 s2 xo => h' c dd F2 H2 e2 (s1.trans s2) xo
theorem Want.mono {r : Res α} {Q Q' : α → DEnv → Hp → Hp → Prop} (h : Want L W σ Δ F H r Q) (hq : ∀ a Δ' F' H', EnvOk L F' σ Δ' H' → Q a Δ' F' H' → Q' a Δ' F' H') : Want L W σ Δ F H r Q' := by
  cases r with
  | stuck => exact h
  | ex x Δ' => exact h
  | ok a Δ1 => exact fun F' H' e s => hq a Δ1 F' H' e (h F' H' e s)
theorem Want.here {a : α} {Q : α → DEnv → Hp → Hp → Prop} (env : EnvOk L F σ Δ H) (h : Want L W σ Δ F H (.ok a Δ) Q) : Q a Δ F H := h F H env .refl
end
end KL
/-! KL, part b: expressions. -/
namespace KL
open PySem L2

/-- a readable thing: frozen data, or a list (perhaps an own one) of frozen items -/
def RepR (L : Lx) (F H : Hp) (v : V) (d : D) : Prop := Rep L.K F v d ∨ ∃ a vs xs, v = .ref a ∧ d = .lst xs ∧ H a = some (.lst vs) ∧ Reps L.K F vs xs
theorem RepR.of {L : Lx} {F H : Hp} {v : V} {d : D} (h : Rep L.K F v d) : RepR L F H v d := .inl h
theorem RepR.lst {L : Lx} {F H : Hp} {v : V} {ds : List D} (e : Ex F H) (h : RepR L F H v (.lst ds)) : ∃ a vs, v = .ref a ∧ H a = some (.lst vs) ∧ Reps L.K F vs ds := by
  rcases h with h | ⟨a, vs, xs, e1, e2, e3, e4⟩
  · obtain ⟨a, vs, e1, e2, e3⟩ := rep_ref_lst h
    exact ⟨a, vs, e1, e _ _ e2, e3⟩
  · cases e2; exact ⟨a, vs, e1, e3, e4⟩
theorem RepR.lsx {L : Lx} {F H : Hp} {v : V} {ds : List D} (e : Ex F H) (h : RepR L F H v (.lsx ds)) : ∃ a vs, v = .ref a ∧ SqL L.K H a vs ∧ Reps L.K F vs ds := by
  rcases h with h | ⟨a, vs, xs, e1, e2, e3, e4⟩
  · obtain ⟨a, vs, e1, e2, e3⟩ := rep_ref_lsx h
    exact ⟨a, vs, e1, e.sl e2, e3⟩
  · cases e2
theorem RepR.tup {L : Lx} {F H : Hp} {v : V} {ds : List D} (e : Ex F H) (h : RepR L F H v (.tup ds)) : ∃ a vs, v = .ref a ∧ SqT L.K H a vs ∧ Reps L.K F vs ds := by
  rcases h with h | ⟨a, vs, xs, e1, e2, e3, e4⟩
  · obtain ⟨a, vs, e1, e2, e3⟩ := rep_ref_tup h
    exact ⟨a, vs, e1, e.st e2, e3⟩
  · cases e2
theorem RepR.int {L : Lx} {F H : Hp} {v : V} {i : Int} (h : RepR L F H v (.int i)) : v = .int i := by
  rcases h with h | ⟨a, vs, xs, e1, e2, e3, e4⟩
  · cases h; rfl
  · cases e2
theorem RepR.str {L : Lx} {F H : Hp} {v : V} {x : Str} (h : RepR L F H v (.str x)) : v = .str x := by
  rcases h with h | ⟨a, vs, xs, e1, e2, e3, e4⟩
  · cases h; rfl
  · cases e2
theorem RepR.bl {L : Lx} {F H : Hp} {v : V} {b : Bool} (h : RepR L F H v (.bl b)) : v = .bl b := by
  rcases h with h | ⟨a, vs, xs, e1, e2, e3, e4⟩
  · cases h; rfl
  · cases e2
theorem RepR.non {L : Lx} {F H : Hp} {v : V} (h : RepR L F H v .non) : v = .non := by
  rcases h with h | ⟨a, vs, xs, e1, e2, e3, e4⟩
  · cases h; rfl
  · cases e2

/-! ### soundness of a reading -/
def Snd (L : Lx) (W : WX) (te : TE) (m : DEnv → Res D) : Prop := ∀ (σ : L2.St) (Δ : DEnv) (F H : Hp) (Q : VK), EnvOk L F σ Δ H → Want L W σ Δ F H (m Δ) (fun d _ F' H' => ∀ v, Rep L.K F' v d → Q v H') → te σ H Q
def SndR (L : Lx) (W : WX) (te : TE) (m : DEnv → Res D) : Prop := ∀ (σ : L2.St) (Δ : DEnv) (F H : Hp) (Q : VK), EnvOk L F σ Δ H → Want L W σ Δ F H (m Δ) (fun d _ F' H' => ∀ v, RepR L F' H' v d → Q v H') → te σ H Q
def SndF (L : Lx) (W : WX) (te : TE) (m : DEnv → Res (List D)) : Prop := ∀ (σ : L2.St) (Δ : DEnv) (F H : Hp) (Q : VK), EnvOk L F σ Δ H →
  Want L W σ Δ F H (m Δ) (fun ds Δ' F' H' => ∀ p vs, H p = none → ¬ Own σ Δ' p → F' p = none → H' p = some (.lst vs) → Reps L.K F' vs ds → Q (.ref p) H') → te σ H Q
def SndT (L : Lx) (W : WX) (tt : TT) (m : DEnv → Res Bool) : Prop := ∀ (σ : L2.St) (Δ : DEnv) (F H : Hp) (Q : Bool → Hp → Prop), EnvOk L F σ Δ H → Want L W σ Δ F H (m Δ) (fun b _ F' H' => Q b H') → tt σ H Q
def SndA (L : Lx) (W : WX) (ta : TA) (m : DEnv → Res (List D)) : Prop := ∀ (σ : L2.St) (Δ : DEnv) (F H : Hp) (Q : List V → Hp → Prop), EnvOk L F σ Δ H → Want L W σ Δ F H (m Δ) (fun ds _ F' H' => ∀ vs, Reps L.K F' vs ds → Q vs H') → ta σ H Q

structure DE (X : Cx) (L : Lx) (W : WX) (e : Expr) (m : DEnv → Res D) : Prop where ex : ∃ te, PE X e te ∧ Snd L W te m
structure DR (X : Cx) (L : Lx) (W : WX) (e : Expr) (m : DEnv → Res D) : Prop where ex : ∃ te, PE X e te ∧ SndR L W te m
structure DF (X : Cx) (L : Lx) (W : WX) (e : Expr) (m : DEnv → Res (List D)) : Prop where ex : ∃ te, PE X e te ∧ SndF L W te m
structure DT (X : Cx) (L : Lx) (W : WX) (e : Expr) (m : DEnv → Res Bool) : Prop where ex : ∃ tt, PT X e tt ∧ SndT L W tt m
structure DA (X : Cx) (L : Lx) (W : WX) (es : List Expr) (m : DEnv → Res (List D)) : Prop where ex : ∃ ta, PA X es ta ∧ SndA L W ta m

/-- what the layer wants of the place: the written part, a little room -/
structure Cxt (X : Cx) (L : Lx) (W : WX) : Prop where
  k : L.K = X.K
  hu : X.A.units + 66 < cLine

def Res.map {α β : Type} (f : α → β) (r : Res α) : Res β := r.bind fun a Δ => .ok (f a) Δ
def Res.opt {α : Type} (o : Option α) (Δ : DEnv) : Res α := match o with
  | some a => .ok a Δ
  | none => .stuck
def Res.nox {α : Type} : Res α → Res α
  | .ex _ _ => .stuck
  | r => r

section
variable {X : Cx} {L : Lx} {W : WX} {σ : L2.St} {Δ Δ' : DEnv} {F H : Hp} {ta tb tc te : TE} {ma mb mc m : DEnv → Res D}
theorem Snd.r (h : Snd L W te m) : SndR L W te m := fun σ Δ F H Q e w => h σ Δ F H Q e (w.mono fun d Δ' F' H' _ q v r => q v (.inl r))
theorem DE.r {e : Expr} (h : DE X L W e m) : DR X L W e m := ⟨let ⟨te, h1, h2⟩ := h.ex; ⟨te, h1, h2.r⟩⟩
theorem EnvOk.frz {p : Addr} {vs : List V} (env : EnvOk L F σ Δ H) (ho : ¬ Own σ Δ p) (hf : F p = none) (hh : H p = some (.lst vs)) : EnvOk L (upd F p (.lst vs)) σ Δ H := by
  have exF : Ex F (upd F p (.lst vs)) := Ex.new hf
  have exH : Ex (upd F p (.lst vs)) H := fun b o e => by
    by_cases hb : b = p
    · subst hb; rw [upd_same] at e; rw [← e]; exact hh
    · rw [upd_ne hb] at e; exact env.ex b o e
  refine ⟨exH, env.len, fun i c hc => ?_, env.apart⟩
  have k := env.cells i c hc
  have own : ∀ xs, c.own? = some xs → (∃ a u, slot σ i = some (.ref a) ∧ H a = some u ∧ F a = none ∧ OwnOk L.K F u xs) → ∃ a u, slot σ i = some (.ref a) ∧ H a = some u ∧ upd F p (.lst vs) a = none ∧ OwnOk L.K (upd F p (.lst vs)) u xs := by
    rintro xs hl ⟨a, ws, e1, e2, e3, e4⟩
    refine ⟨a, ws, e1, e2, ?_, e4.mono exF⟩
    have : a ≠ p := fun z => ho ⟨i, c, xs, hc, hl, by rw [← z]; exact e1⟩
    rw [upd_ne this]; exact e3
  cases c with
  | no => trivial
  | va d => obtain ⟨v, e1, e2⟩ := k; exact ⟨v, e1, e2.mono exF⟩
  | owv xs => exact own xs rfl k
  | pav xs => exact own xs rfl k
  | xc x => obtain ⟨a, c, dd, e1, e2, e3⟩ := k; exact ⟨a, c, dd, e1, e2, e3.mono exF⟩
theorem Step.frz {σ' : L2.St} {F' H' : Hp} {p : Addr} {o : HO} (s : Step σ Δ F H σ' Δ' F' H') (hf : F' p = none) (hp : H p = none ∨ Own σ Δ p) : Step σ Δ F H σ' Δ' (upd F' p o) H' :=
  ⟨s.fr.trans (Ex.new hf), s.kp, fun b u e => by
    by_cases hb : b = p
    · subst hb; rcases hp with z | z
      · exact .inr (.inl z)
      · exact .inr (.inr z)
    · rw [upd_ne hb] at e; exact s.fn b u e, s.ow, s.pa, s.pb, s.th⟩
/-- a fresh list is frozen -/
theorem SndF.e {mf : DEnv → Res (List D)} (h : SndF L W te mf) : Snd L W te (fun Δ => (mf Δ).map .lst) := by
  intro σ Δ F H Q env w
  refine h σ Δ F H Q env ?_
  replace w : Want L W σ Δ F H ((mf Δ).map D.lst) _ := w
  cases q : mf Δ with
  | stuck => rw [q] at w; exact w
  | ex x Δ' => rw [q] at w; exact w
  | ok ds Δ' =>
    rw [q] at w
    intro F' H' env' s' p vs hp ho hf hh hr
    refine w _ H' (env'.frz ho hf hh) (s'.frz hf (.inl hp)) _ ?_
    exact .lst upd_same hr.1 fun i v d h1 h2 => (hr.2 i v d h1 h2).mono (Ex.new hf)
theorem DF.e {e : Expr} {mf : DEnv → Res (List D)} (h : DF X L W e mf) : DE X L W e (fun Δ => (mf Δ).map .lst) := ⟨let ⟨te, h1, h2⟩ := h.ex; ⟨te, h1, h2.e⟩⟩

/-! ### constants and names -/
theorem snd_c {v : V} {d : D} (h : ∀ F, Rep L.K F v d) : Snd L W (tC v) (fun Δ => .ok d Δ) := fun σ Δ F H Q env w => w F H env .refl v (h F)
theorem de_int {i : Int} {j pos} : DE X L W (.Constant (.int i) j pos) (fun Δ => .ok (.int i) Δ) := ⟨_, pe_int, snd_c fun _ => .int i⟩
theorem de_bl {b : Bool} {j pos} : DE X L W (.Constant (.bool b) j pos) (fun Δ => .ok (.bl b) Δ) := ⟨_, pe_bl, snd_c fun _ => .bl b⟩
theorem de_non {j pos} : DE X L W (.Constant .none j pos) (fun Δ => .ok .non Δ) := ⟨_, pe_non, snd_c fun _ => .non⟩
theorem de_str {x : Str} {j pos} : DE X L W (.Constant (.str x) j pos) (fun Δ => .ok (.str x) Δ) := ⟨_, pe_str, snd_c fun _ => .str x⟩
/-- a constant of the module -/
theorem de_glob {x : Str} {v : V} {u : Value} {d : D} {pos : Pos} (hg : Gl X x) (hm : X.mg x = some u) (r : RelV v u) (h : ∀ F, Rep L.K F v d) (hd : (x == ("__debug__" : Str)) = false) : DE X L W (.Name x pos) (fun Δ => .ok d Δ) :=
  ⟨_, pe_glob hg hm r hd, snd_c h⟩

def rdC : Cell → Option D
  | .va d => some d
  | .owv (.l xs) => some (.lst xs)
  | .pav (.l xs) => some (.lst xs)
  | _ => none
/-- what a slot may be read as -/
def rdR (Δ : DEnv) (i : Nat) : Option D := (Δ[i]?).bind rdC
theorem EnvOk.rd {i : Nat} {d : D} (env : EnvOk L F σ Δ H) (h : rdR Δ i = some d) : ∃ v, slot σ i = some v ∧ RepR L F H v d := by
  unfold rdR at h
  cases q : Δ[i]? with
  | none => rw [q] at h; cases h
  | some c =>
    rw [q] at h
    have k := env.cells i c q
    cases c with
    | no => cases h
    | xc x => cases h
    | va e => cases h; obtain ⟨v, e1, e2⟩ := k; exact ⟨v, e1, .inl e2⟩
    | owv w => cases w with
      | l xs => cases h; obtain ⟨a, u, e1, e2, e3, e4⟩ := k; obtain ⟨vs, rfl, e5⟩ := e4.lst; exact ⟨_, e1, .inr ⟨a, vs, xs, rfl, rfl, e2, e5⟩⟩
      | s x fs => cases h
    | pav w => cases w with
      | l xs => cases h; obtain ⟨a, u, e1, e2, e3, e4⟩ := k; obtain ⟨vs, rfl, e5⟩ := e4.lst; exact ⟨_, e1, .inr ⟨a, vs, xs, rfl, rfl, e2, e5⟩⟩
      | s x fs => cases h
def varR (i : Nat) : DEnv → Res D := fun Δ => .opt (rdR Δ i) Δ
theorem sndR_var {i : Nat} : SndR L W (tVar i) (varR i) := by
  intro σ Δ F H Q env w
  unfold varR at w
  cases q : rdR Δ i with
  | none => rw [q] at w; exact w.elim
  | some d =>
    rw [q] at w
    obtain ⟨v, e1, e2⟩ := env.rd q
    exact ⟨v, slot_some e1, w F H env .refl v e2⟩
/-- a name as a value: an own list is frozen -/
def varM (i : Nat) : DEnv → Res D := fun Δ => match Δ[i]? with
  | some (.va d) => .ok d Δ
  | some (.owv (.l xs)) => .ok (.lst xs) (Δ.set i (.va (.lst xs)))
  | _ => .stuck
theorem list_set_get {α : Type} {l : List α} {i j : Nat} {x y : α} (h : (l.set i x)[j]? = some y) : (j = i ∧ y = x) ∨ (j ≠ i ∧ l[j]? = some y) := by
  by_cases hj : i = j
  · subst hj
    by_cases hi : i < l.length
    · rw [List.getElem?_set_self hi] at h; cases h; exact .inl ⟨rfl, rfl⟩
    · rw [List.getElem?_eq_none (by simpa using hi)] at h; cases h
  · rw [List.getElem?_set_ne hj] at h; exact .inr ⟨Ne.symm hj, h⟩
theorem EnvOk.freeze {i : Nat} {xs : List D} (env : EnvOk L F σ Δ H) (h : Δ[i]? = some (.ow xs)) : ∃ a vs, slot σ i = some (.ref a) ∧ H a = some (.lst vs) ∧ F a = none ∧ Reps L.K F vs xs ∧
    EnvOk L (upd F a (.lst vs)) σ (Δ.set i (.va (.lst xs))) H ∧ Step σ Δ F H σ (Δ.set i (.va (.lst xs))) (upd F a (.lst vs)) H := by
  obtain ⟨a, u, e1, e2, e3, e0⟩ := env.cells i _ h
  obtain ⟨vs, rfl, e4⟩ := e0.lst
  have exF : Ex F (upd F a (.lst vs)) := Ex.new e3
  have own : Own σ Δ a := ⟨i, _, _, h, rfl, e1⟩
  refine ⟨a, vs, e1, e2, e3, e4, ⟨fun b o e => ?_, by rw [List.length_set]; exact env.len, fun j c hc => ?_, fun j k c c' ys zs b hjk hj hk hl hl' e => ?_⟩, ?_⟩
  · by_cases hb : b = a
    · subst hb; rw [upd_same] at e; rw [← e]; exact e2
    · rw [upd_ne hb] at e; exact env.ex b o e
  · rcases list_set_get hc with ⟨rfl, rfl⟩ | ⟨hj, hc⟩
    · exact ⟨_, e1, .lst upd_same e4.1 fun i v d h1 h2 => (e4.2 i v d h1 h2).mono exF⟩
    · have k := env.cells j c hc
      have ownj : ∀ ys, c.own? = some ys → (∃ b u, slot σ j = some (.ref b) ∧ H b = some u ∧ F b = none ∧ OwnOk L.K F u ys) → ∃ b u, slot σ j = some (.ref b) ∧ H b = some u ∧ upd F a (.lst vs) b = none ∧ OwnOk L.K (upd F a (.lst vs)) u ys := by
        rintro ys hl ⟨b, ws, g1, g2, g3, g4⟩
        refine ⟨b, ws, g1, g2, ?_, g4.mono exF⟩
        have : b ≠ a := fun z => env.apart i j _ c _ ys a (Ne.symm hj) h hc rfl hl e1 (by rw [← z]; exact g1)
        rw [upd_ne this]; exact g3
      cases c with
      | no => trivial
      | va d => obtain ⟨v, g1, g2⟩ := k; exact ⟨v, g1, g2.mono exF⟩
      | owv ys => exact ownj ys rfl k
      | pav ys => exact ownj ys rfl k
      | xc x => obtain ⟨b, c, dd, g1, g2, g3⟩ := k; exact ⟨b, c, dd, g1, g2, g3.mono exF⟩
  · rcases list_set_get hj with ⟨rfl, rfl⟩ | ⟨nj, hj⟩
    · cases hl
    · rcases list_set_get hk with ⟨rfl, rfl⟩ | ⟨nk, hk⟩
      · cases hl'
      · exact env.apart j k c c' ys zs b hjk hj hk hl hl' e
  · refine ⟨exF, fun b o e _ => e, fun b o e => ?_, fun b ⟨j, c, ys, hc, hl, e⟩ => .inl ?_, fun j ys hj => ?_, fun j ys hj => ?_, fun b o e => ⟨o, e⟩⟩
    · by_cases hb : b = a
      · subst hb; exact .inr (.inr own)
      · rw [upd_ne hb] at e; exact .inl e
    · rcases list_set_get hc with ⟨rfl, rfl⟩ | ⟨nj, hc⟩
      · cases hl
      · exact ⟨j, c, ys, hc, hl, e⟩
    · have nj : i ≠ j := fun z => by subst z; rw [h] at hj; cases hj
      exact ⟨ys, by rw [List.getElem?_set_ne nj]; exact hj, rfl⟩
    · rcases list_set_get hj with ⟨rfl, e⟩ | ⟨nj, hj⟩
      · cases e
      · exact ⟨ys, hj⟩
theorem snd_var {i : Nat} : Snd L W (tVar i) (varM i) := by
  intro σ Δ F H Q env w
  unfold varM at w
  split at w
  · rename_i d q
    obtain ⟨v, e1, e2⟩ := env.cells i _ q
    exact ⟨v, slot_some e1, w F H env .refl v e2⟩
  · rename_i xs q
    obtain ⟨a, vs, e1, e2, e3, e4, env2, st⟩ := env.freeze q
    exact ⟨_, slot_some e1, w _ H env2 st _ (.lst upd_same e4.1 fun i v d h1 h2 => (e4.2 i v d h1 h2).mono (Ex.new e3))⟩
  · exact w.elim
theorem de_var {i : Nat} {x : Str} {pos : Pos} (hN : X.N[i]? = some x) (hv : Vis X.env.scope x) (hd : (x == ("__debug__" : Str)) = false) (hcd : (x == ("__classdict__" : Str)) = false) : DE X L W (.Name x pos) (varM i) := ⟨_, pe_var hN hv hd hcd, snd_var⟩
theorem dr_var {i : Nat} {x : Str} {pos : Pos} (hN : X.N[i]? = some x) (hv : Vis X.env.scope x) (hd : (x == ("__debug__" : Str)) = false) (hcd : (x == ("__classdict__" : Str)) = false) : DR X L W (.Name x pos) (varR i) := ⟨_, pe_var hN hv hd hcd, sndR_var⟩

/-! ### operations on two values -/
/-- what a heap may gain -/
structure Gro (F H F' H' : Hp) : Prop where
  h : Ex H H'
  f : Ex F F'
  fh : Ex F' H'
  n : ∀ b o, F' b = some o → F b = some o ∨ H b = none
theorem Gro.refl (e : Ex F H) : Gro F H F H := ⟨Ex.refl H, Ex.refl F, e, fun _ _ h => .inl h⟩
theorem Gro.new {p : Addr} {o : HO} (e : Ex F H) (hp : H p = none) : Gro F H (upd F p o) (upd H p o) :=
  let ⟨a, b, c, d⟩ := grow_new (o := o) e hp
  ⟨a, b, c, d⟩
theorem EnvOk.gro {F' H' : Hp} (env : EnvOk L F σ Δ H) (g : Gro F H F' H') : EnvOk L F' σ Δ H' := env.grow g.h g.f g.fh g.n
theorem Step.gro {F' H' : Hp} (g : Gro F H F' H') : Step σ Δ F H σ Δ F' H' := Step.grow g.h g.f g.n
def OpS (L : Lx) (r : R2) (f : D → D → Option D) : Prop := ∀ (F H : Hp) (x y : V) (dx dy d : D) (Q : VK), Ex F H → f dx dy = some d → RepR L F H x dx → RepR L F H y dy →
  (∀ v F' H', Gro F H F' H' → Rep L.K F' v d → Q v H') → r x y H Q
def OpF (L : Lx) (r : R2) (f : D → D → Option (List D)) : Prop := ∀ (F H : Hp) (x y : V) (dx dy : D) (ds : List D) (Q : VK), Ex F H → f dx dy = some ds → RepR L F H x dx → RepR L F H y dy →
  (∀ p vs, H p = none → Reps L.K F vs ds → Q (.ref p) (upd H p (.lst vs))) → r x y H Q
def opM {α : Type} (f : D → D → Option α) (ma mb : DEnv → Res D) : DEnv → Res α := fun Δ => (ma Δ).bind fun x Δ1 => (mb Δ1).bind fun y Δ2 => .opt (f x y) Δ2
/-- the first operand a name: it is read behind the second one -/
def opV {α : Type} (f : D → D → Option α) (i : Nat) (mb : DEnv → Res D) : DEnv → Res α := fun Δ => match rdR Δ i with
  | none => .stuck
  | some _ => (mb Δ).bind fun y Δ1 => .opt ((rdR Δ1 i).bind fun x => f x y) Δ1
theorem Rep.r {F H : Hp} {v : V} {d : D} (h : Rep L.K F v d) : RepR L F H v d := .inl h
theorem snd_op {r : R2} {f : D → D → Option D} (hf : OpS L r f) (ha : Snd L W ta ma) (hb : SndR L W tb mb) : Snd L W (tOp r ta tb) (opM f ma mb) := by
  intro σ Δ F H Q env w
  refine ha σ Δ F H _ env (w.bind.mono fun x Δ1 F1 H1 env1 w1 v rv => ?_)
  refine hb σ Δ1 F1 H1 _ env1 ?_
  -- what the first operand is stays, whatever the second one does
  have w2 := w1.bind
  cases q : mb Δ1 with
  | stuck => rw [q] at w2; exact w2
  | ex x Δ' => rw [q] at w2; exact w2
  | ok y Δ2 =>
    rw [q] at w2
    intro F2 H2 env2 s2 u ru
    have w3 : Want L W σ Δ2 F2 H2 (.opt (f x y) Δ2) _ := w2 F2 H2 env2 s2
    cases g : f x y with
    | none => rw [g] at w3; exact w3.elim
    | some d =>
      rw [g] at w3
      exact hf F2 H2 v u x y d Q env2.ex g (rv.mono s2.fr).r ru fun z F' H' gr rz => w3 F' H' (env2.gro gr) (.gro gr) z rz
theorem snd_opV {r : R2} {f : D → D → Option D} {i : Nat} (hf : OpS L r f) (hb : SndR L W tb mb) : Snd L W (tOp r (tVar i) tb) (opV f i mb) := by
  intro σ Δ F H Q env w
  unfold opV at w
  cases q0 : rdR Δ i with
  | none => rw [q0] at w; exact w.elim
  | some d0 =>
    rw [q0] at w
    obtain ⟨v, e1, _⟩ := env.rd q0
    refine ⟨v, slot_some e1, hb σ Δ F H _ env ?_⟩
    have w2 := w.bind
    cases q : mb Δ with
    | stuck => rw [q] at w2; exact w2
    | ex x Δ' => rw [q] at w2; exact w2
    | ok y Δ2 =>
      rw [q] at w2
      intro F2 H2 env2 s2 u ru
      have w3 : Want L W σ Δ2 F2 H2 (.opt ((rdR Δ2 i).bind fun x => f x y) Δ2) _ := w2 F2 H2 env2 s2
      cases q1 : rdR Δ2 i with
      | none => rw [q1] at w3; exact w3.elim
      | some x =>
        rw [q1] at w3
        obtain ⟨v', e2, rv⟩ := env2.rd q1
        rw [e1] at e2; cases e2
        cases g : f x y with
        | none => rw [Option.bind_some, g] at w3; exact w3.elim
        | some d =>
          rw [Option.bind_some, g] at w3
          exact hf F2 H2 v u x y d Q env2.ex g rv ru fun z F' H' gr rz => w3 F' H' (env2.gro gr) (.gro gr) z rz
/-- a new list beside all that is known -/
theorem fresh_env {p : Addr} {vs : List V} (env : EnvOk L F σ Δ H) (hp : H p = none) : EnvOk L F σ Δ (upd H p (.lst vs)) ∧ Step σ Δ F H σ Δ F (upd H p (.lst vs)) ∧ ¬ Own σ Δ p ∧ F p = none := by
  have e : Ex H (upd H p (.lst vs)) := Ex.new hp
  refine ⟨env.grow e (Ex.refl F) (env.ex.trans e) fun b o h => .inl h, Step.grow e (Ex.refl F) fun b o h => .inl h, fun o => ?_, env.ex.none hp⟩
  obtain ⟨vs, h, _⟩ := env.own o
  rw [hp] at h; cases h
theorem sndF_op {r : R2} {f : D → D → Option (List D)} (hf : OpF L r f) (ha : Snd L W ta ma) (hb : SndR L W tb mb) : SndF L W (tOp r ta tb) (opM f ma mb) := by
  intro σ Δ F H Q env w
  refine ha σ Δ F H _ env ?_
  have w0 := w
  unfold opM at w0
  cases qa : ma Δ with
  | stuck => rw [qa] at w0; exact w0
  | ex x Δ' => rw [qa] at w0; exact w0
  | ok x Δ1 =>
    rw [qa] at w0
    intro F1 H1 env1 s1 v rv
    refine hb σ Δ1 F1 H1 _ env1 ?_
    have w1 : Want L W σ Δ F H ((mb Δ1).bind fun y Δ2 => .opt (f x y) Δ2) _ := w0
    cases qb : mb Δ1 with
    | stuck => rw [qb] at w1; exact w1
    | ex x Δ' => rw [qb] at w1; exact fun c dd F2 H2 env2 s2 xo => w1 c dd F2 H2 env2 (s1.trans s2) xo
    | ok y Δ2 =>
      rw [qb] at w1
      intro F2 H2 env2 s2 u ru
      have w3 : Want L W σ Δ F H (.opt (f x y) Δ2) _ := w1
      cases g : f x y with
      | none => rw [g] at w3; exact w3.elim
      | some ds =>
        rw [g] at w3
        refine hf F2 H2 v u x y ds Q env2.ex g (rv.mono s2.fr).r ru fun p vs hp rp => ?_
        obtain ⟨a1, a2, a3, a4⟩ := fresh_env (vs := vs) env2 hp
        exact w3 F2 _ a1 ((s1.trans s2).trans a2) p vs ((s1.trans s2).hn hp) a3 a4 upd_same rp
theorem sndF_opV {r : R2} {f : D → D → Option (List D)} {i : Nat} (hf : OpF L r f) (hb : SndR L W tb mb) : SndF L W (tOp r (tVar i) tb) (opV f i mb) := by
  intro σ Δ F H Q env w
  unfold opV at w
  cases q0 : rdR Δ i with
  | none => rw [q0] at w; exact w.elim
  | some d0 =>
    rw [q0] at w
    obtain ⟨v, e1, _⟩ := env.rd q0
    refine ⟨v, slot_some e1, hb σ Δ F H _ env ?_⟩
    have w2 : Want L W σ Δ F H ((mb Δ).bind fun y Δ1 => .opt ((rdR Δ1 i).bind fun x => f x y) Δ1) _ := w
    cases q : mb Δ with
    | stuck => rw [q] at w2; exact w2
    | ex x Δ' => rw [q] at w2; exact w2
    | ok y Δ2 =>
      rw [q] at w2
      intro F2 H2 env2 s2 u ru
      have w3 : Want L W σ Δ F H (.opt ((rdR Δ2 i).bind fun x => f x y) Δ2) _ := w2
      cases q1 : rdR Δ2 i with
      | none => rw [q1] at w3; exact w3.elim
      | some x =>
        rw [q1, Option.bind_some] at w3
        obtain ⟨v', e2, rv⟩ := env2.rd q1
        rw [e1] at e2; cases e2
        cases g : f x y with
        | none => rw [g] at w3; exact w3.elim
        | some ds =>
          rw [g] at w3
          refine hf F2 H2 v u x y ds Q env2.ex g rv ru fun p vs hp rp => ?_
          obtain ⟨a1, a2, a3, a4⟩ := fresh_env (vs := vs) env2 hp
          exact w3 F2 _ a1 (s2.trans a2) p vs (s2.hn hp) a3 a4 upd_same rp
end
end KL
/-! KL, part c: the operations. -/
namespace KL
open PySem L2

theorem line_eq : sizeLine = 16777216 := sizeLine_eq
section
variable {X : Cx} {L : Lx} {W : WX}
theorem opr_or {f : Value → Value → Sem Value} {r r' : R2} (h : OpR X f r) (h' : OpR X f r') : OpR X f (fun x y H Q => r x y H Q ∨ r' x y H Q) := by
  intro pins s σ H x y v u Q I rx ry q
  rcases q with q | q
  · exact h pins s σ H x y v u Q I rx ry q
  · exact h' pins s σ H x y v u Q I rx ry q
/-- operations whose answer is no object -/
theorem OpS.flat {r : R2} {f : D → D → Option D} (h : ∀ F H x y dx dy d (Q : VK), Ex F H → f dx dy = some d → RepR L F H x dx → RepR L F H y dy → ∃ v, (∀ F, Rep L.K F v d) ∧ (Q v H → r x y H Q)) : OpS L r f := by
  intro F H x y dx dy d Q ex hf rx ry q
  obtain ⟨v, h1, h2⟩ := h F H x y dx dy d Q ex hf rx ry
  exact h2 (q v F H (.refl ex) (h1 F))

/-! ### numbers -/
def rAddA (K : PySem.W.Frag) : R2 := fun x y H Q => (∃ i j, x = .int i ∧ y = .int j ∧ Q (.int (i + j)) H) ∨ (∃ i j, x = .str i ∧ y = .str j ∧ i.length + j.length ≤ sizeLine ∧ Q (.str (i ++ j)) H) ∨ rCatT K x y H Q
theorem op_addA : OpR X (binaryOp .Add) (rAddA X.K) := opr_or op_add (opr_or op_add_str op_catT)
def addD : D → D → Option D
  | .int i, .int j => some (.int (i + j))
  | .str x, .str y => if x.length + y.length ≤ 16777216 then some (.str (x ++ y)) else none
  | .tup xs, .tup ys => if xs.length + ys.length ≤ 16777216 ∧ xs.isEmpty = false then some (.tup (xs ++ ys)) else none
  | _, _ => none
theorem RepR.ntup {F H : Hp} {v : V} {ds : List D} (h : RepR L F H v (.tup ds)) : Rep L.K F v (.tup ds) := by
  rcases h with h | ⟨a, vs, xs, e1, e2, e3, e4⟩
  · exact h
  · cases e2
theorem ops_add : OpS L (rAddA L.K) addD := by
  intro F H x y dx dy d Q ex hf rx ry q
  unfold addD at hf
  split at hf
  · cases hf; rw [rx.int, ry.int]; exact .inl ⟨_, _, rfl, rfl, q _ F H (.refl ex) (.int _)⟩
  · split at hf
    · rename_i hl; cases hf; rw [rx.str, ry.str]; exact .inr (.inl ⟨_, _, rfl, rfl, by rw [line_eq]; exact hl, q _ F H (.refl ex) (.str _)⟩)
    · cases hf
  · rename_i xs ys
    split at hf
    · rename_i hl; cases hf
      obtain ⟨a, vs, e1, e2, e3⟩ := rx.tup ex
      obtain ⟨b, ws, e4, e5, e6⟩ := ry.tup ex
      refine .inr (.inr ⟨a, b, vs, ws, e1, e4, e2, e5, fun z => ?_, by rw [line_eq, e3.1, e6.1]; exact hl.1, fun z => ?_, fun z p hp => ?_⟩)
      · subst z; have := e3.1; cases xs <;> simp_all
      · subst z
        have : ys = [] := by have := e6.1; cases ys <;> simp_all
        subst this
        rw [List.append_nil] at q
        rw [← e1]
        exact q _ F H (.refl ex) rx.ntup
      · have rr := e3.append e6
        exact q _ _ _ (.new ex hp) (.tup (SqT.of upd_same) rr.1 fun i v d h1 h2 => (rr.2 i v d h1 h2).mono (Ex.new (ex.none hp)))
    · cases hf
  · cases hf
def intD (C : Int → Int → Bool) (g : Int → Int → D) : D → D → Option D
  | .int i, .int j => if C i j then some (g i j) else none
  | _, _ => none
theorem ops_int {C : Int → Int → Prop} {g : Int → Int → Int} {c : Int → Int → Bool} (hc : ∀ i j, c i j = true → C i j) : OpS L (rI C fun i j => .int (g i j)) (intD c fun i j => .int (g i j)) := by
  intro F H x y dx dy d Q ex hf rx ry q
  unfold intD at hf
  split at hf
  · split at hf
    · rename_i h; cases hf; rw [rx.int, ry.int]; exact ⟨_, _, rfl, rfl, hc _ _ h, q _ F H (.refl ex) (.int _)⟩
    · cases hf
  · cases hf
theorem ops_int0 {g : Int → Int → Int} : OpS L (rI0 fun i j => .int (g i j)) (intD (fun _ _ => true) fun i j => .int (g i j)) := by
  intro F H x y dx dy d Q ex hf rx ry q
  unfold intD at hf
  split at hf
  · rw [if_pos rfl] at hf; cases hf; rw [rx.int, ry.int]; exact ⟨_, _, rfl, rfl, q _ F H (.refl ex) (.int _)⟩
  · cases hf
theorem ops_intB {g : Int → Int → Bool} : OpS L (rI0 fun i j => .bl (g i j)) (intD (fun _ _ => true) fun i j => .bl (g i j)) := by
  intro F H x y dx dy d Q ex hf rx ry q
  unfold intD at hf
  split at hf
  · rw [if_pos rfl] at hf; cases hf; rw [rx.int, ry.int]; exact ⟨_, _, rfl, rfl, q _ F H (.refl ex) (.bl _)⟩
  · cases hf
def subD : D → D → Option D := intD (fun _ _ => true) fun i j => .int (i - j)
theorem ops_sub : OpS L (rI0 fun i j => .int (i - j)) subD := ops_int0
def mulC (i j : Int) : Bool := decide ((-18446744073709551616 < i ∧ i < 18446744073709551616) ∨ (-18446744073709551616 < j ∧ j < 18446744073709551616))
def mulD : D → D → Option D := intD mulC fun i j => .int (i * j)
theorem ops_mul : OpS L (rI CMul fun i j => .int (i * j)) mulD := ops_int fun i j h => by
  have h := of_decide_eq_true h
  show (-(2 ^ 64) < i ∧ i < 2 ^ 64) ∨ (-(2 ^ 64) < j ∧ j < 2 ^ 64)
  omega
def divD : D → D → Option D := intD (fun _ j => decide (0 < j ∧ j < 1073741824)) fun i j => .int (i / j)
theorem ops_div : OpS L (rI CDiv fun i j => .int (i / j)) divD := ops_int fun i j h => (of_decide_eq_true h : 0 < j ∧ j < 1073741824)
def modD : D → D → Option D := intD (fun _ j => decide (0 < j)) fun i j => .int (i % j)
theorem ops_mod : OpS L (rI (fun _ j => 0 < j) fun i j => .int (i % j)) modD := ops_int fun i j h => of_decide_eq_true h
def powD : D → D → Option D := intD (fun i j => decide (0 ≤ j ∧ j ≤ 1000000 ∧ i.natAbs < 18446744073709551616)) fun i j => .int (i ^ j.toNat)
theorem ops_pow : OpS L (rI CPow fun i j => .int (i ^ j.toNat)) powD := ops_int fun i j h => by
  have h := of_decide_eq_true h
  show 0 ≤ j ∧ j ≤ 1000000 ∧ i.natAbs < 2 ^ 64
  omega

/-! ### lists joined, repeated -/
def catF : D → D → Option (List D)
  | .lst xs, .lst ys => if xs.length + ys.length ≤ 16777216 then some (xs ++ ys) else none
  | _, _ => none
theorem opf_cat : OpF L rCat catF := by
  intro F H x y dx dy ds Q ex hf rx ry q
  unfold catF at hf
  split at hf
  · split at hf
    · rename_i hl; cases hf
      obtain ⟨a, vs, e1, e2, e3⟩ := rx.lst ex
      obtain ⟨b, ws, e4, e5, e6⟩ := ry.lst ex
      exact ⟨a, b, vs, ws, e1, e4, e2, e5, by rw [line_eq, e3.1, e6.1]; exact hl, fun p hp => q p _ hp (e3.append e6)⟩
    · cases hf
  · cases hf
def repL {α : Type} (xs : List α) : Nat → List α
  | 0 => []
  | n + 1 => xs ++ repL xs n
theorem repL_len {α : Type} (xs : List α) (n : Nat) : (repL xs n).length = xs.length * n := by
  induction n with
  | zero => rfl
  | succ n ih => rw [repL, List.length_append, ih, Nat.mul_succ]; omega
def repF : D → D → Option (List D)
  | .lst xs, .int k => if -4611686018427387904 ≤ k ∧ k < 4611686018427387904 ∧ xs.length * k.toNat ≤ 16777216 then some (List.replicate k.toNat xs).flatten else none
  | _, _ => none

/-! ### comparisons -/
def ltD : D → D → Option D := intD (fun _ _ => true) fun i j => .bl (decide (i < j))
def leD : D → D → Option D := intD (fun _ _ => true) fun i j => .bl (decide (i ≤ j))
def gtD : D → D → Option D := intD (fun _ _ => true) fun i j => .bl (decide (j < i))
def geD : D → D → Option D := intD (fun _ _ => true) fun i j => .bl (decide (j ≤ i))
theorem ops_lt : OpS L (rI0 fun i j => .bl (decide (i < j))) ltD := ops_intB
theorem ops_le : OpS L (rI0 fun i j => .bl (decide (i ≤ j))) leD := ops_intB
theorem ops_gt : OpS L (rI0 fun i j => .bl (decide (j < i))) gtD := ops_intB
theorem ops_ge : OpS L (rI0 fun i j => .bl (decide (j ≤ i))) geD := ops_intB

/-- flat data as values -/
def flatOf : D → Option V
  | .non => some .non
  | .bl b => some (.bl b)
  | .int i => some (.int i)
  | .str x => some (.str x)
  | _ => none
theorem flat_rep {F H : Hp} {v w : V} {d : D} (h : RepR L F H v d) (e : flatOf d = some w) : v = w := by
  cases d with
  | non => cases e; exact h.non
  | bl b => cases e; exact h.bl
  | int i => cases e; exact h.int
  | str x => cases e; exact h.str
  | _ => cases e
theorem flat_flatV {d : D} {w : V} (e : flatOf d = some w) : flatV w = true := by
  cases d <;> first | (cases e; rfl) | cases e
def flatsOf : List D → Option (List V)
  | [] => some []
  | d :: ds => (flatOf d).bind fun v => (flatsOf ds).map (v :: ·)
theorem flats_rep {F : Hp} : ∀ {ds : List D} {vs ws : List V}, Reps L.K F vs ds → flatsOf ds = some ws → vs = ws ∧ ws.all flatV = true
  | [], vs, ws, h, e => by cases e; exact ⟨h.nil_inv, rfl⟩
  | d :: ds, vs, ws, h, e => by
    obtain ⟨w, r, rfl, h1, h2⟩ := h.cons_inv
    unfold flatsOf at e
    cases q : flatOf d with
    | none => rw [q] at e; cases e
    | some v =>
      rw [q, Option.bind_some] at e
      cases q2 : flatsOf ds with
      | none => rw [q2] at e; cases e
      | some us =>
        rw [q2] at e; cases e
        obtain ⟨e1, e2⟩ := flats_rep h2 q2
        have e3 := flat_rep (H := F) (RepR.of h1) q
        subst e1 e3
        exact ⟨rfl, by rw [List.all_cons, flat_flatV q, e2]; rfl⟩
/-! data for == -/
mutual
def toPy : D → Option PyData
  | .non => some .none
  | .bl b => some (.bool b)
  | .int i => some (.int i)
  | .str x => some (.str x)
  | .lst xs => (toPys xs).map .list
  | .tup xs => (toPys xs).map .tuple
  | _ => none
def toPys : List D → Option (List PyData)
  | [] => some []
  | d :: ds => (toPy d).bind fun p => (toPys ds).map (p :: ·)
end
mutual
theorem toPy_dp {F H : Hp} (ex : Ex F H) : ∀ (d : D) (v : V) (p : PyData), Rep L.K F v d → toPy d = some p → Dp L.K H v p
  | .non, v, p, h, e => by cases h; simp [toPy] at e; subst e; exact .non
  | .bl b, v, p, h, e => by cases h; simp [toPy] at e; subst e; exact .bl b
  | .int i, v, p, h, e => by cases h; simp [toPy] at e; subst e; exact .int i
  | .str x, v, p, h, e => by cases h; simp [toPy] at e; subst e; exact .str x
  | .lst ds, v, p, h, e => by
    obtain ⟨a, vs, rfl, h1, h2⟩ := rep_ref_lst h
    simp only [toPy, Option.map_eq_some_iff] at e
    obtain ⟨ps, e1, rfl⟩ := e
    exact .lst (SqL.of (ex _ _ h1)) (toPys_dp ex ds vs ps h2 e1)
  | .tup ds, v, p, h, e => by
    obtain ⟨a, vs, rfl, h1, h2⟩ := rep_ref_tup h
    simp only [toPy, Option.map_eq_some_iff] at e
    obtain ⟨ps, e1, rfl⟩ := e
    exact .tup (ex.st h1) (toPys_dp ex ds vs ps h2 e1)
  | .dk _, _, _, _, e => by simp [toPy] at e
  | .lsx _, _, _, _, e => by simp [toPy] at e
  | .dt _, _, _, _, e => by simp [toPy] at e
  | .obj _ _, _, _, _, e => by simp [toPy] at e
  | .fn _, _, _, _, e => by simp [toPy] at e
theorem toPys_dp {F H : Hp} (ex : Ex F H) : ∀ (ds : List D) (vs : List V) (ps : List PyData), Reps L.K F vs ds → toPys ds = some ps → DpAll L.K H vs ps
  | [], vs, ps, h, e => by simp [toPys] at e; subst e; rw [h.nil_inv]; exact .nil
  | d :: ds, vs, ps, h, e => by
    obtain ⟨w, r, rfl, h1, h2⟩ := h.cons_inv
    simp only [toPys, Option.bind_eq_some_iff, Option.map_eq_some_iff] at e
    obtain ⟨p, e1, qs, e2, rfl⟩ := e
    exact .cons (toPy_dp ex d w p h1 e1) (toPys_dp ex ds r qs h2 e2)
end
theorem toPy_dpR {F H : Hp} (ex : Ex F H) {d : D} {v : V} {p : PyData} (h : RepR L F H v d) (e : toPy d = some p) : Dp L.K H v p := by
  rcases h with h | ⟨a, vs, xs, e1, e2, e3, e4⟩
  · exact toPy_dp ex d v p h e
  · subst e1 e2
    simp only [toPy, Option.map_eq_some_iff] at e
    obtain ⟨ps, e5, rfl⟩ := e
    exact .lst (SqL.of e3) (toPys_dp ex xs vs ps e4 e5)
/-- == : scalars of one kind at once, the rest as data -/
def eqB (x y : D) : Option Bool := match x, y with
  | .int i, .int j => some (decide (i = j))
  | .str i, .str j => some (decide (i = j))
  | .bl i, .bl j => some (decide (i = j))
  | .non, .non => some true
  | .non, .int _ => some false | .non, .str _ => some false | .non, .bl _ => some false
  | .int _, .non => some false | .str _, .non => some false | .bl _, .non => some false
  | .int _, .str _ => some false | .str _, .int _ => some false
  | x, y => match toPy x, toPy y with
    | some p, some q => if SeqAt.shaped p && SeqAt.shaped q then some (PyData.eqv p q) else none
    | _, _ => none
def eqD (x y : D) : Option D := (eqB x y).map .bl
def neD (x y : D) : Option D := (eqB x y).map fun b => .bl (!b)
def rEqA (K : PySem.W.Frag) : R2 := fun x y H Q => rEq x y H Q ∨ rEqD K x y H Q
def rNeA (K : PySem.W.Frag) : R2 := fun x y H Q => rNe x y H Q ∨ rNeD K x y H Q
theorem eqB_ok {F H : Hp} {x y : V} {dx dy : D} {b : Bool} (ex : Ex F H) (hf : eqB dx dy = some b) (rx : RepR L F H x dx) (ry : RepR L F H y dy) :
    (scal x y = true ∧ decide (x = y) = b) ∨ ∃ d e, Dp L.K H x d ∧ Dp L.K H y e ∧ SeqAt.shaped d = true ∧ SeqAt.shaped e = true ∧ PyData.eqv d e = b := by
  unfold eqB at hf
  split at hf
  · cases hf; rw [rx.int, ry.int]; exact .inl ⟨rfl, by simp⟩
  · cases hf; rw [rx.str, ry.str]; exact .inl ⟨rfl, by simp⟩
  · cases hf; rw [rx.bl, ry.bl]; exact .inl ⟨rfl, by simp⟩
  · cases hf; rw [rx.non, ry.non]; exact .inl ⟨rfl, by simp⟩
  · cases hf; rw [rx.non, ry.int]; exact .inl ⟨rfl, by simp⟩
  · cases hf; rw [rx.non, ry.str]; exact .inl ⟨rfl, by simp⟩
  · cases hf; rw [rx.non, ry.bl]; exact .inl ⟨rfl, by simp⟩
  · cases hf; rw [rx.int, ry.non]; exact .inl ⟨rfl, by simp⟩
  · cases hf; rw [rx.str, ry.non]; exact .inl ⟨rfl, by simp⟩
  · cases hf; rw [rx.bl, ry.non]; exact .inl ⟨rfl, by simp⟩
  · cases hf; rw [rx.int, ry.str]; exact .inl ⟨rfl, by simp⟩
  · cases hf; rw [rx.str, ry.int]; exact .inl ⟨rfl, by simp⟩
  · split at hf
    · rename_i p q e1 e2
      split at hf
      · rename_i hs; cases hf
        have hs := Bool.and_eq_true_iff.mp hs
        exact .inr ⟨p, q, toPy_dpR ex rx e1, toPy_dpR ex ry e2, hs.1, hs.2, rfl⟩
      · cases hf
    · cases hf
theorem op_eqA (hu : X.A.units + 64 < cLine) : OpR X (compareOp .Eq) (rEqA X.K) := opr_or op_eq (op_eqD hu)
theorem op_neA (hu : X.A.units + 64 < cLine) : OpR X (compareOp .NotEq) (rNeA X.K) := opr_or op_ne (op_neD hu)
theorem ops_eq : OpS L (rEqA L.K) eqD := by
  intro F H x y dx dy d Q ex hf rx ry q
  obtain ⟨b, hb, rfl⟩ := Option.map_eq_some_iff.mp hf
  have q' := q _ F H (.refl ex) (.bl b)
  rcases eqB_ok ex hb rx ry with ⟨h1, h2⟩ | ⟨d, e, h1, h2, h3, h4, h5⟩
  · exact .inl ⟨h1, by rw [h2]; exact q'⟩
  · exact .inr ⟨d, e, h1, h2, h3, h4, by rw [h5]; exact q'⟩
theorem ops_ne : OpS L (rNeA L.K) neD := by
  intro F H x y dx dy d Q ex hf rx ry q
  obtain ⟨b, hb, rfl⟩ := Option.map_eq_some_iff.mp hf
  have q' := q _ F H (.refl ex) (.bl !b)
  rcases eqB_ok ex hb rx ry with ⟨h1, h2⟩ | ⟨d, e, h1, h2, h3, h4, h5⟩
  · exact .inl ⟨h1, by rw [h2]; exact q'⟩
  · exact .inr ⟨d, e, h1, h2, h3, h4, by rw [h5]; exact q'⟩

/-! ### in -/
def inB (x y : D) : Option Bool := match y with
  | .str z => match x with
    | .str c => if c.cps.size = 1 then some (decide (c.cps.getD 0 0 ∈ z.cps.toList)) else none
    | _ => none
  | .lst ds => (flatOf x).bind fun v => (flatsOf ds).map fun vs => inV v vs
  | .tup ds => (flatOf x).bind fun v => (flatsOf ds).map fun vs => inV v vs
  | _ => none
def inD (x y : D) : Option D := (inB x y).map .bl
def ninD (x y : D) : Option D := (inB x y).map fun b => .bl (!b)
def rInA (K : PySem.W.Frag) : R2 := fun x y H Q => rIn K false x y H Q ∨ ∃ (c : Nat) (z : Str), x = .str ⟨#[c]⟩ ∧ y = .str z ∧ Q (.bl (decide (c ∈ z.cps.toList))) H
def rNinA (K : PySem.W.Frag) : R2 := fun x y H Q => rIn K true x y H Q ∨ ∃ (c : Nat) (z : Str), x = .str ⟨#[c]⟩ ∧ y = .str z ∧ Q (.bl (!decide (c ∈ z.cps.toList))) H
theorem op_inA : OpR X (compareOp .In) (rInA X.K) := opr_or op_in_seq op_in_sign
theorem op_ninA : OpR X (compareOp .NotIn) (rNinA X.K) := opr_or op_notIn_seq op_notIn_sign
theorem one_sign {c : Str} (h : c.cps.size = 1) : c = ⟨#[c.cps.getD 0 0]⟩ := by
  obtain ⟨a⟩ := c
  obtain ⟨l⟩ := a
  simp only [List.size_toArray] at h
  match l, h with
  | [x], _ => rfl
theorem inB_ok {F H : Hp} {x y : V} {dx dy : D} {b : Bool} (ex : Ex F H) (hf : inB dx dy = some b) (rx : RepR L F H x dx) (ry : RepR L F H y dy) :
    (∃ p xs, y = .ref p ∧ (SqL L.K H p xs ∨ SqT L.K H p xs) ∧ flatV x = true ∧ xs.all flatV = true ∧ inV x xs = b) ∨ ∃ (c : Nat) (z : Str), x = .str ⟨#[c]⟩ ∧ y = .str z ∧ decide (c ∈ z.cps.toList) = b := by
  unfold inB at hf
  split at hf
  · split at hf
    · split at hf
      · rename_i h; cases hf; rw [rx.str, ry.str]; exact .inr ⟨_, _, congrArg V.str (one_sign h), rfl, rfl⟩
      · cases hf
    · cases hf
  · simp only [Option.bind_eq_some_iff, Option.map_eq_some_iff] at hf
    obtain ⟨v, h1, vs, h2, rfl⟩ := hf
    obtain ⟨a, ws, e1, e2, e3⟩ := ry.lst ex
    obtain ⟨rfl, e5⟩ := flats_rep e3 h2
    rw [flat_rep rx h1]
    exact .inl ⟨a, ws, e1, .inl (SqL.of e2), flat_flatV h1, e5, rfl⟩
  · simp only [Option.bind_eq_some_iff, Option.map_eq_some_iff] at hf
    obtain ⟨v, h1, vs, h2, rfl⟩ := hf
    obtain ⟨a, ws, e1, e2, e3⟩ := ry.tup ex
    obtain ⟨rfl, e5⟩ := flats_rep e3 h2
    rw [flat_rep rx h1]
    exact .inl ⟨a, ws, e1, .inr e2, flat_flatV h1, e5, rfl⟩
  · cases hf
theorem ops_in : OpS L (rInA L.K) inD := by
  intro F H x y dx dy d Q ex hf rx ry q
  obtain ⟨b, hb, rfl⟩ := Option.map_eq_some_iff.mp hf
  have q' := q _ F H (.refl ex) (.bl b)
  rcases inB_ok ex hb rx ry with ⟨p, xs, h1, h2, h3, h4, h5⟩ | ⟨c, z, h1, h2, h3⟩
  · exact .inl ⟨p, xs, h1, h2, h3, h4, by rw [if_neg Bool.false_ne_true, h5]; exact q'⟩
  · exact .inr ⟨c, z, h1, h2, by rw [h3]; exact q'⟩
theorem ops_nin : OpS L (rNinA L.K) ninD := by
  intro F H x y dx dy d Q ex hf rx ry q
  obtain ⟨b, hb, rfl⟩ := Option.map_eq_some_iff.mp hf
  have q' := q _ F H (.refl ex) (.bl !b)
  rcases inB_ok ex hb rx ry with ⟨p, xs, h1, h2, h3, h4, h5⟩ | ⟨c, z, h1, h2, h3⟩
  · exact .inl ⟨p, xs, h1, h2, h3, h4, by rw [if_pos rfl, h5]; exact q'⟩
  · exact .inr ⟨c, z, h1, h2, by rw [h3]; exact q'⟩

/-! ### is None -/
def isNonD : D → D → Option D
  | .non, .non => some (.bl true)
  | .bl _, .non => some (.bl false) | .int _, .non => some (.bl false) | .str _, .non => some (.bl false)
  | .lst _, .non => some (.bl false) | .tup _, .non => some (.bl false) | .obj _ _, .non => some (.bl false) | .dk _, .non => some (.bl false)
  | _, _ => none
def isB : D → D → Option Bool
  | .non, .non => some true
  | .bl _, .non => some false | .int _, .non => some false | .str _, .non => some false
  | .lst _, .non => some false | .tup _, .non => some false | .obj _ _, .non => some false | .dk _, .non => some false
  | _, _ => none
theorem isB_ok {F H : Hp} {x y : V} {dx dy : D} {b : Bool} (hf : isB dx dy = some b) (rx : RepR L F H x dx) (ry : RepR L F H y dy) : y = .non ∧ decide (x = .non) = b := by
  have hx : ∀ {d : D}, RepR L F H x d → (∃ xs, d = .lst xs) ∨ (∃ xs, d = .tup xs) ∨ (∃ C fs, d = .obj C fs) ∨ (∃ k, d = .dk k) → decide (x = .non) = false := fun {d} r h => by
    have : ∃ a, x = .ref a := by
      rcases r with r | ⟨a, vs, xs, e1, _⟩
      · rcases h with ⟨xs, rfl⟩ | ⟨xs, rfl⟩ | ⟨C, fs, rfl⟩ | ⟨k, rfl⟩ <;> cases r <;> exact ⟨_, rfl⟩
      · exact ⟨a, e1⟩
    obtain ⟨a, rfl⟩ := this
    rfl
  unfold isB at hf
  split at hf
  · cases hf; rw [rx.non]; exact ⟨ry.non, rfl⟩
  · cases hf; rw [rx.bl]; exact ⟨ry.non, rfl⟩
  · cases hf; rw [rx.int]; exact ⟨ry.non, rfl⟩
  · cases hf; rw [rx.str]; exact ⟨ry.non, rfl⟩
  · cases hf; exact ⟨ry.non, hx rx (.inl ⟨_, rfl⟩)⟩
  · cases hf; exact ⟨ry.non, hx rx (.inr (.inl ⟨_, rfl⟩))⟩
  · cases hf; exact ⟨ry.non, hx rx (.inr (.inr (.inl ⟨_, _, rfl⟩)))⟩
  · cases hf; exact ⟨ry.non, hx rx (.inr (.inr (.inr ⟨_, rfl⟩)))⟩
  · cases hf
def isD (x y : D) : Option D := (isB x y).map .bl
def isntD (x y : D) : Option D := (isB x y).map fun b => .bl (!b)
theorem ops_is : OpS L (fun x y H Q => y = .non ∧ Q (.bl (decide (x = .non))) H) isD := by
  intro F H x y dx dy d Q ex hf rx ry q
  obtain ⟨b, hb, rfl⟩ := Option.map_eq_some_iff.mp hf
  obtain ⟨h1, h2⟩ := isB_ok hb rx ry
  exact ⟨h1, by rw [h2]; exact q _ F H (.refl ex) (.bl b)⟩
theorem ops_isnt : OpS L (fun x y H Q => y = .non ∧ Q (.bl (!decide (x = .non))) H) isntD := by
  intro F H x y dx dy d Q ex hf rx ry q
  obtain ⟨b, hb, rfl⟩ := Option.map_eq_some_iff.mp hf
  obtain ⟨h1, h2⟩ := isB_ok hb rx ry
  exact ⟨h1, by rw [h2]; exact q _ F H (.refl ex) (.bl !b)⟩

/-! ### a place of a sequence -/
def ixD : D → D → Option D
  | .lst xs, .int i => atI xs i
  | .tup xs, .int i => atI xs i
  | .lsx xs, .int i => atI xs i
  | .str z, .int i => if z.length ≤ 16777216 then (atI z.cps.toList i).map fun c => .str ⟨#[c]⟩ else none
  | _, _ => none
theorem atI_reps {F : Hp} {vs : List V} {ds : List D} {i : Int} {d : D} (h : Reps L.K F vs ds) (e : atI ds i = some d) : ∃ v, atI vs i = some v ∧ Rep L.K F v d := by
  unfold atI at e ⊢
  rw [h.1]
  cases q : ixN ds.length i with
  | none => rw [q] at e; cases e
  | some j => rw [q, Option.bind_some] at e; rw [Option.bind_some]; exact h.get e
theorem ops_ix : OpS L (rIx L.K) ixD := by
  intro F H x y dx dy d Q ex hf rx ry q
  unfold ixD at hf
  split at hf
  · obtain ⟨a, vs, e1, e2, e3⟩ := rx.lst ex
    obtain ⟨v, h1, h2⟩ := atI_reps e3 hf
    exact .inl ⟨a, vs, _, v, e1, ry.int, SqL.of e2, h1, q v F H (.refl ex) h2⟩
  · obtain ⟨a, vs, e1, e2, e3⟩ := rx.tup ex
    obtain ⟨v, h1, h2⟩ := atI_reps e3 hf
    exact .inr (.inl ⟨a, vs, _, v, e1, ry.int, e2, h1, q v F H (.refl ex) h2⟩)
  · obtain ⟨a, vs, e1, e2, e3⟩ := rx.lsx ex
    obtain ⟨v, h1, h2⟩ := atI_reps e3 hf
    exact .inl ⟨a, vs, _, v, e1, ry.int, e2, h1, q v F H (.refl ex) h2⟩
  · split at hf
    · rename_i hl
      obtain ⟨c, h1, rfl⟩ := Option.map_eq_some_iff.mp hf
      exact .inr (.inr ⟨_, _, c, rx.str, ry.int, by rw [line_eq]; exact hl, h1, q _ F H (.refl ex) (.str _)⟩)
    · cases hf
  · cases hf
end
end KL
/-! KL, part d: expressions put together. -/
namespace KL
open PySem L2

section
variable {X : Cx} {L : Lx} {W : WX} {σ : L2.St} {Δ Δ' : DEnv} {F H : Hp} {a b c e : Expr} {es : List Expr} {ma mb mc me : DEnv → Res D} {pos p : Pos} {x : Str} {i : Nat}
/-! ### two operands -/
theorem d_bin {op : Operator} {r : R2} {f : D → D → Option D} (ho : OpR X (binaryOp op) r) (hf : OpS L r f) (ha : DE X L W a ma) (hb : DR X L W b mb) : DE X L W (.BinOp a op b pos) (opM f ma mb) :=
  let ⟨_, p1, s1⟩ := ha.ex
  let ⟨_, p2, s2⟩ := hb.ex
  ⟨_, pe_op ho p1 p2, snd_op hf s1 s2⟩
theorem d_binV {op : Operator} {r : R2} {f : D → D → Option D} (ho : OpR X (binaryOp op) r) (hf : OpS L r f) (hN : X.N[i]? = some x) (hv : Vis X.env.scope x) (hd : (x == ("__debug__" : Str)) = false) (hcd : (x == ("__classdict__" : Str)) = false) (hb : DR X L W b mb) :
    DE X L W (.BinOp (.Name x p) op b pos) (opV f i mb) :=
  let ⟨_, p2, s2⟩ := hb.ex
  ⟨_, pe_op ho (pe_var hN hv hd hcd) p2, snd_opV hf s2⟩
theorem d_cmp {op : CmpOp} {r : R2} {f : D → D → Option D} (ho : OpR X (compareOp op) r) (hf : OpS L r f) (hm : behindInMarks op b = false) (ha : DE X L W a ma) (hb : DR X L W b mb) : DE X L W (.Compare a [op] [b] pos) (opM f ma mb) :=
  let ⟨_, p1, s1⟩ := ha.ex
  let ⟨_, p2, s2⟩ := hb.ex
  ⟨_, pe_cmpR ho p1 p2 hm, snd_op hf s1 s2⟩
theorem d_cmpV {op : CmpOp} {r : R2} {f : D → D → Option D} (ho : OpR X (compareOp op) r) (hf : OpS L r f) (hm : behindInMarks op b = false) (hN : X.N[i]? = some x) (hv : Vis X.env.scope x) (hd : (x == ("__debug__" : Str)) = false) (hcd : (x == ("__classdict__" : Str)) = false) (hb : DR X L W b mb) :
    DE X L W (.Compare (.Name x p) [op] [b] pos) (opV f i mb) :=
  let ⟨_, p2, s2⟩ := hb.ex
  ⟨_, pe_cmpR ho (pe_var hN hv hd hcd) p2 hm, snd_opV hf s2⟩
theorem d_ix (hs : PlainIx b) (ha : DE X L W a ma) (hb : DR X L W b mb) (hk : L.K = X.K := by rfl) : DE X L W (.Subscript a b pos) (opM ixD ma mb) :=
  let ⟨_, p1, s1⟩ := ha.ex
  let ⟨_, p2, s2⟩ := hb.ex
  ⟨_, pe_ix ix_seq p1 p2 hs, snd_op (hk ▸ ops_ix) s1 s2⟩
theorem d_ixV (hs : PlainIx b) (hN : X.N[i]? = some x) (hv : Vis X.env.scope x) (hd : (x == ("__debug__" : Str)) = false) (hcd : (x == ("__classdict__" : Str)) = false) (hb : DR X L W b mb) (hk : L.K = X.K := by rfl) :
    DE X L W (.Subscript (.Name x p) b pos) (opV ixD i mb) :=
  let ⟨_, p2, s2⟩ := hb.ex
  ⟨_, pe_ix ix_seq (pe_var hN hv hd hcd) p2 hs, snd_opV (hk ▸ ops_ix) s2⟩

/-! ### tests -/
def asB (m : DEnv → Res D) : DEnv → Res Bool := fun Δ => (m Δ).bind fun d Δ1 => match d with
  | .bl b => .ok b Δ1
  | _ => .stuck
theorem snd_asB {te : TE} {m : DEnv → Res D} (h : Snd L W te m) : SndT L W (tTest te) (asB m) := by
  intro σ Δ F H Q env w
  refine h σ Δ F H _ env (w.bind.mono fun d Δ' F' H' env' q v r => ?_)
  cases d with
  | bl b => cases r; exact ⟨b, rfl, q F' H' env' .refl⟩
  | _ => exact q.elim
theorem t_cmp {op : CmpOp} {r : R2} {f : D → D → Option D} (ho : OpR X (compareOp op) r) (hf : OpS L r f) (hm : behindInMarks op b = false) (ha : DE X L W a ma) (hb : DR X L W b mb) : DT X L W (.Compare a [op] [b] pos) (asB (opM f ma mb)) :=
  let ⟨_, p1, s1⟩ := ha.ex
  let ⟨_, p2, s2⟩ := hb.ex
  ⟨_, pt_cmpR ho p1 p2 hm, snd_asB (snd_op hf s1 s2)⟩
theorem t_cmpV {op : CmpOp} {r : R2} {f : D → D → Option D} (ho : OpR X (compareOp op) r) (hf : OpS L r f) (hm : behindInMarks op b = false) (hN : X.N[i]? = some x) (hv : Vis X.env.scope x) (hd : (x == ("__debug__" : Str)) = false) (hcd : (x == ("__classdict__" : Str)) = false) (hb : DR X L W b mb) :
    DT X L W (.Compare (.Name x p) [op] [b] pos) (asB (opV f i mb)) :=
  let ⟨_, p2, s2⟩ := hb.ex
  ⟨_, pt_cmpR ho (pe_var hN hv hd hcd) p2 hm, snd_asB (snd_opV hf s2)⟩
/-- truth -/
def truD : D → Option Bool
  | .non => some false
  | .bl b => some b
  | .int i => some (i != 0)
  | .str x => if x.length ≤ 16777216 then some ((x.length : Int) != 0) else none
  | .lst xs => some (!xs.isEmpty)
  | .tup xs => some (!xs.isEmpty)
  | _ => none
def truM (m : DEnv → Res D) : DEnv → Res Bool := fun Δ => (m Δ).bind fun d Δ1 => .opt (truD d) Δ1
theorem isEmpty_len {α β : Type} {xs : List α} {ys : List β} (h : xs.length = ys.length) : xs.isEmpty = ys.isEmpty := by
  cases xs <;> cases ys <;> simp_all
theorem truD_ok {v : V} {d : D} {k : Bool} (ex : Ex F H) (hf : truD d = some k) (r : RepR L F H v d) : TruV L.K v H k := by
  cases d with
  | non => cases hf; rw [r.non]; exact rfl
  | bl b => cases hf; rw [r.bl]; exact rfl
  | int i => cases hf; rw [r.int]; exact rfl
  | str x =>
    replace hf : (if x.length ≤ 16777216 then some ((x.length : Int) != 0) else none) = some k := hf
    split at hf
    · rename_i hl; cases hf; rw [r.str]; exact ⟨by rw [line_eq]; exact hl, rfl⟩
    · cases hf
  | lst xs =>
    cases hf
    obtain ⟨a, vs, rfl, h1, h2⟩ := r.lst ex
    exact .inl ⟨vs, SqL.of h1, by rw [isEmpty_len h2.1]⟩
  | tup xs =>
    cases hf
    obtain ⟨a, vs, rfl, h1, h2⟩ := r.tup ex
    exact .inr (.inl ⟨vs, h1, by rw [isEmpty_len h2.1]⟩)
  | _ => cases hf
theorem t_truth (h : DR X L W e me) (he : ∀ whole, isTrue e X.env whole = (do let v ← whole; standAt e.pos; holding [v] (truthy v))) (hk : L.K = X.K := by rfl) : DT X L W e (truM me) := by
  obtain ⟨te, p1, s1⟩ := h.ex
  refine ⟨_, pt_truth p1 he, ?_⟩
  intro σ Δ F H Q env w
  refine s1 σ Δ F H _ env (w.bind.mono fun d Δ' F' H' env' q v r => ?_)
  cases g : truD d with
  | none => rw [g] at q; exact q.elim
  | some k => rw [g] at q; exact ⟨k, hk ▸ truD_ok env'.ex g r, q F' H' env' .refl⟩
def notM (m : DEnv → Res Bool) : DEnv → Res Bool := fun Δ => (m Δ).map (!·)
theorem t_not {m : DEnv → Res Bool} (h : DT X L W e m) : DT X L W (.UnaryOp .Not e pos) (notM m) := by
  obtain ⟨te, p1, s1⟩ := h.ex
  refine ⟨_, pt_not p1, fun σ Δ F H Q env w => ?_⟩
  exact s1 σ Δ F H _ env (w.bind.mono fun d Δ' F' H' env' q => q F' H' env' .refl)
structure DW (X : Cx) (L : Lx) (W : WX) (e : Expr) (m : DEnv → Res Bool) : Prop where ex : ∃ tt, PW X e tt ∧ SndT L W tt m
theorem DW.t {m : DEnv → Res Bool} (h : DW X L W e m) : DT X L W e m := ⟨let ⟨_, p1, s1⟩ := h.ex; ⟨_, p1.pt, s1⟩⟩
def andM (m n : DEnv → Res Bool) : DEnv → Res Bool := fun Δ => (m Δ).bind fun c Δ1 => if c = true then n Δ1 else .ok false Δ1
def orM (m n : DEnv → Res Bool) : DEnv → Res Bool := fun Δ => (m Δ).bind fun c Δ1 => if c = true then .ok true Δ1 else n Δ1
theorem w_and1 {m : DEnv → Res Bool} (h : DT X L W a m) : DW X L W (.BoolOp .And [a] pos) m := ⟨let ⟨_, p1, s1⟩ := h.ex; ⟨_, pw_and1 p1, s1⟩⟩
theorem w_or1 {m : DEnv → Res Bool} (h : DT X L W a m) : DW X L W (.BoolOp .Or [a] pos) m := ⟨let ⟨_, p1, s1⟩ := h.ex; ⟨_, pw_or1 p1, s1⟩⟩
theorem w_and {m n : DEnv → Res Bool} (h : DT X L W a m) (h2 : DW X L W (.BoolOp .And (b :: es) pos) n) : DW X L W (.BoolOp .And (a :: b :: es) pos) (andM m n) := by
  obtain ⟨_, p1, s1⟩ := h.ex
  obtain ⟨_, p2, s2⟩ := h2.ex
  refine ⟨_, pw_and p1 p2, fun σ Δ F H Q env w => ?_⟩
  refine s1 σ Δ F H _ env (w.bind.mono fun k Δ' F' H' env' q => ?_)
  cases k with
  | true => exact s2 σ Δ' F' H' Q env' q
  | false => exact q F' H' env' .refl
theorem w_or {m n : DEnv → Res Bool} (h : DT X L W a m) (h2 : DW X L W (.BoolOp .Or (b :: es) pos) n) : DW X L W (.BoolOp .Or (a :: b :: es) pos) (orM m n) := by
  obtain ⟨_, p1, s1⟩ := h.ex
  obtain ⟨_, p2, s2⟩ := h2.ex
  refine ⟨_, pw_or p1 p2, fun σ Δ F H Q env w => ?_⟩
  refine s1 σ Δ F H _ env (w.bind.mono fun k Δ' F' H' env' q => ?_)
  cases k with
  | true => exact q F' H' env' .refl
  | false => exact s2 σ Δ' F' H' Q env' q
/-! as values: bools -/
def andV (m n : DEnv → Res D) : DEnv → Res D := fun Δ => (m Δ).bind fun d Δ1 => match d with
  | .bl true => n Δ1
  | .bl false => .ok (.bl false) Δ1
  | _ => .stuck
def orV (m n : DEnv → Res D) : DEnv → Res D := fun Δ => (m Δ).bind fun d Δ1 => match d with
  | .bl true => .ok (.bl true) Δ1
  | .bl false => n Δ1
  | _ => .stuck
def notV (m : DEnv → Res D) : DEnv → Res D := fun Δ => (m Δ).bind fun d Δ1 => match d with
  | .bl b => .ok (.bl !b) Δ1
  | _ => .stuck
theorem d_one {op : BoolOp} (h : DE X L W a ma) : DE X L W (.BoolOp op [a] pos) ma := ⟨let ⟨_, p1, s1⟩ := h.ex; ⟨_, pe_one p1, s1⟩⟩
theorem d_and (h : DE X L W a ma) (h2 : DE X L W (.BoolOp .And (b :: es) pos) mb) : DE X L W (.BoolOp .And (a :: b :: es) pos) (andV ma mb) := by
  obtain ⟨_, p1, s1⟩ := h.ex
  obtain ⟨_, p2, s2⟩ := h2.ex
  refine ⟨_, pe_and p1 p2, fun σ Δ F H Q env w => ?_⟩
  refine s1 σ Δ F H _ env (w.bind.mono fun d Δ' F' H' env' q v r => ?_)
  cases d with
  | bl k =>
    cases r
    refine ⟨k, rfl, ?_⟩
    cases k with
    | true => exact s2 σ Δ' F' H' Q env' q
    | false => exact q F' H' env' .refl _ (.bl false)
  | _ => exact q.elim
theorem d_or (h : DE X L W a ma) (h2 : DE X L W (.BoolOp .Or (b :: es) pos) mb) : DE X L W (.BoolOp .Or (a :: b :: es) pos) (orV ma mb) := by
  obtain ⟨_, p1, s1⟩ := h.ex
  obtain ⟨_, p2, s2⟩ := h2.ex
  refine ⟨_, pe_or p1 p2, fun σ Δ F H Q env w => ?_⟩
  refine s1 σ Δ F H _ env (w.bind.mono fun d Δ' F' H' env' q v r => ?_)
  cases d with
  | bl k =>
    cases r
    refine ⟨k, rfl, ?_⟩
    cases k with
    | true => exact q F' H' env' .refl _ (.bl true)
    | false => exact s2 σ Δ' F' H' Q env' q
  | _ => exact q.elim
theorem d_not (h : DE X L W a ma) : DE X L W (.UnaryOp .Not a pos) (notV ma) := by
  obtain ⟨_, p1, s1⟩ := h.ex
  refine ⟨_, pe_not p1, fun σ Δ F H Q env w => ?_⟩
  refine s1 σ Δ F H _ env (w.bind.mono fun d Δ' F' H' env' q v r => ?_)
  cases d with
  | bl k => cases r; exact ⟨k, rfl, q F' H' env' .refl _ (.bl _)⟩
  | _ => exact q.elim
def ifM {α : Type} (c : DEnv → Res Bool) (m n : DEnv → Res α) : DEnv → Res α := fun Δ => (c Δ).bind fun k Δ1 => if k = true then m Δ1 else n Δ1
theorem d_if {mt : DEnv → Res Bool} (ht : DT X L W c mt) (ha : DE X L W a ma) (hb : DE X L W b mb) : DE X L W (.IfExp c a b pos) (ifM mt ma mb) := by
  obtain ⟨_, p0, s0⟩ := ht.ex
  obtain ⟨_, p1, s1⟩ := ha.ex
  obtain ⟨_, p2, s2⟩ := hb.ex
  refine ⟨_, pe_ifExp p0 p1 p2, fun σ Δ F H Q env w => ?_⟩
  refine s0 σ Δ F H _ env (w.bind.mono fun k Δ' F' H' env' q => ?_)
  cases k with
  | true => exact s1 σ Δ' F' H' Q env' q
  | false => exact s2 σ Δ' F' H' Q env' q

/-! ### arguments, displays -/
theorem a_nil : DA X L W [] (fun Δ => .ok [] Δ) := ⟨_, pa_nil, fun σ Δ F H Q env w => w F H env .refl [] .nil⟩
def consM (m : DEnv → Res D) (n : DEnv → Res (List D)) : DEnv → Res (List D) := fun Δ => (m Δ).bind fun d Δ1 => (n Δ1).map (d :: ·)
theorem a_cons {n : DEnv → Res (List D)} (h : DE X L W e me) (hs : DA X L W es n) (hst : starEach (e :: es) X.env = (false, eval e X.env) :: starEach es X.env := by rfl) : DA X L W (e :: es) (consM me n) := by
  obtain ⟨_, p1, s1⟩ := h.ex
  obtain ⟨_, p2, s2⟩ := hs.ex
  refine ⟨_, pa_cons p1 p2 hst, fun σ Δ F H Q env w => ?_⟩
  refine s1 σ Δ F H _ env (w.bind.mono fun d Δ1 F1 H1 env1 w1 v r => ?_)
  refine s2 σ Δ1 F1 H1 _ env1 ?_
  have w2 : Want L W σ Δ1 F1 H1 ((n Δ1).map (d :: ·)) _ := w1
  cases q : n Δ1 with
  | stuck => rw [q] at w2; exact w2
  | ex x Δ' => rw [q] at w2; exact w2
  | ok ds Δ2 =>
    rw [q] at w2
    intro F2 H2 env2 st2 vs rs
    exact w2 F2 H2 env2 st2 (v :: vs) (.cons (r.mono st2.fr) rs)
def gd {α : Type} (c : Bool) (r : Res α) : Res α := if c = true then r else .stuck
def tupM (n : DEnv → Res (List D)) : DEnv → Res D := fun Δ => (n Δ).bind fun ds Δ1 => gd (decide (ds.length ≤ 16777216)) (.ok (.tup ds) Δ1)
theorem d_tup {n : DEnv → Res (List D)} {x1} (h : DA X L W es n) : DE X L W (.Tuple es x1 pos) (tupM n) := by
  obtain ⟨_, p1, s1⟩ := h.ex
  refine ⟨_, pe_tup p1, fun σ Δ F H Q env w => ?_⟩
  refine s1 σ Δ F H _ env (w.bind.mono fun ds Δ1 F1 H1 env1 w1 vs rs => ?_)
  unfold gd at w1
  split at w1
  · rename_i hl
    refine ⟨by rw [line_eq, rs.1]; exact of_decide_eq_true hl, fun p hp => ?_⟩
    have g : Gro F1 H1 _ _ := .new (o := .tup vs) env1.ex hp
    exact w1 _ _ (env1.gro g) (.gro g) _ (.tup (SqT.of upd_same) rs.1 fun i v d h1 h2 => (rs.2 i v d h1 h2).mono g.f)
  · exact w1.elim
def lstM (n : DEnv → Res (List D)) : DEnv → Res (List D) := fun Δ => (n Δ).bind fun ds Δ1 => gd (decide (ds.length ≤ 16777216)) (.ok ds Δ1)
theorem f_lst {n : DEnv → Res (List D)} (h : DA X L W es n) : DF X L W (.List es pos) (lstM n) := by
  obtain ⟨_, p1, s1⟩ := h.ex
  refine ⟨_, pe_lst p1, fun σ Δ F H Q env w => ?_⟩
  refine s1 σ Δ F H _ env ?_
  have w0 : Want L W σ Δ F H (lstM n Δ) _ := w
  unfold lstM at w0
  cases q : n Δ with
  | stuck => rw [q] at w0; exact w0
  | ex x Δ' => rw [q] at w0; exact w0
  | ok ds Δ1 =>
    rw [q] at w0
    intro F1 H1 env1 st1 vs rs
    have w1 : Want L W σ Δ F H (gd (decide (ds.length ≤ 16777216)) (.ok ds Δ1)) _ := w0
    unfold gd at w1
    split at w1
    · rename_i hl
      refine ⟨by rw [line_eq, rs.1]; exact of_decide_eq_true hl, fun p hp => ?_⟩
      obtain ⟨a1, a2, a3, a4⟩ := fresh_env (vs := vs) env1 hp
      exact w1 F1 _ a1 (st1.trans a2) p vs (st1.hn hp) a3 a4 upd_same rs
    · exact w1.elim

/-! ### built-ins of one argument -/
def CallS1 (L : Lx) (r : List V → Hp → VK → Prop) (g : D → Option D) : Prop := ∀ (F H : Hp) (v : V) (d z : D) (Q : VK), Ex F H → g d = some z → RepR L F H v d → (∀ u F' H', Gro F H F' H' → Rep L.K F' u z → Q u H') → r [v] H Q
def call1 (g : D → Option D) (m : DEnv → Res D) : DEnv → Res D := fun Δ => (m Δ).bind fun d Δ1 => .opt (g d) Δ1
theorem snd_call1 {r : List V → Hp → VK → Prop} {g : D → Option D} {te : TE} (hs : CallS1 L r g) (h : SndR L W te me) : Snd L W (tCB r (tCons te tNil)) (call1 g me) := by
  intro σ Δ F H Q env w
  refine h σ Δ F H _ env (w.bind.mono fun d Δ1 F1 H1 env1 w1 v rv => ?_)
  cases q : g d with
  | none => rw [q] at w1; exact w1.elim
  | some z => rw [q] at w1; exact hs F1 H1 v d z Q env1.ex q rv fun u F' H' gr ru => w1 F' H' (env1.gro gr) (.gro gr) u ru
theorem d_callB1 {r : List V → Hp → VK → Prop} {g : D → Option D} {id : String} (hc : CallR X (.builtin id) r) (hs : CallS1 L r g) (hg : Gl X x) (hm : X.mg x = none) (hv : bootBuiltins x = some (.builtin id)) (hn : x ≠ "__name__") (hdb : (x == ("__debug__" : Str)) = false) (h : DR X L W e me)
    (hst : starEach (e :: []) X.env = (false, eval e X.env) :: starEach [] X.env := by rfl) (hpl : (backTo pos (starEach [] X.env)).any (·.1) = false := by rfl) : DE X L W (.Call (.Name x p) [e] [] pos) (call1 g me) :=
  let ⟨_, p1, s1⟩ := h.ex
  ⟨_, pe_callB hc hg hm hv (pa_cons p1 pa_nil hst) hn hdb hst hpl, snd_call1 hs s1⟩
theorem d_callT1 {r : List V → Hp → VK → Prop} {g : D → Option D} {T : String} (hc : CallR X (.type T) r) (hs : CallS1 L r g) (hg : Gl X x) (hm : X.mg x = none) (hv : bootBuiltins x = some (.type T)) (hn : x ≠ "__name__") (hdb : (x == ("__debug__" : Str)) = false) (h : DR X L W e me)
    (hst : starEach (e :: []) X.env = (false, eval e X.env) :: starEach [] X.env := by rfl) (hpl : (backTo pos (starEach [] X.env)).any (·.1) = false := by rfl) : DE X L W (.Call (.Name x p) [e] [] pos) (call1 g me) :=
  let ⟨_, p1, s1⟩ := h.ex
  ⟨_, pe_callTy hc hg hm hv (pa_cons p1 pa_nil hst) hn hdb hst hpl, snd_call1 hs s1⟩
def lenD : D → Option D
  | .str x => if x.length ≤ 16777216 then some (.int x.length) else none
  | .lst xs => some (.int xs.length)
  | .tup xs => some (.int xs.length)
  | .lsx xs => some (.int xs.length)
  | _ => none
theorem calls_len : CallS1 L (fun xs H Q => ∃ x n, xs = [x] ∧ LenV L.K x H n ∧ Q (.int n) H) lenD := by
  intro F H v d z Q ex hf rv q
  unfold lenD at hf
  split at hf
  · split at hf
    · rename_i hl; cases hf; rw [rv.str]; exact ⟨_, _, rfl, ⟨by rw [line_eq]; exact hl, rfl⟩, q _ F H (.refl ex) (.int _)⟩
    · cases hf
  · cases hf
    obtain ⟨a, vs, rfl, h1, h2⟩ := rv.lst ex
    exact ⟨_, _, rfl, .inl ⟨vs, SqL.of h1, rfl⟩, by rw [h2.1]; exact q _ F H (.refl ex) (.int _)⟩
  · cases hf
    obtain ⟨a, vs, rfl, h1, h2⟩ := rv.tup ex
    exact ⟨_, _, rfl, .inr ⟨vs, h1, rfl⟩, by rw [h2.1]; exact q _ F H (.refl ex) (.int _)⟩
  · cases hf
    obtain ⟨a, vs, rfl, h1, h2⟩ := rv.lsx ex
    exact ⟨_, _, rfl, .inl ⟨vs, h1, rfl⟩, by rw [h2.1]; exact q _ F H (.refl ex) (.int _)⟩
  · cases hf
def absD : D → Option D
  | .int i => some (.int (if i < 0 then -i else i))
  | _ => none
theorem calls_abs : CallS1 L (fun xs H Q => ∃ i, xs = [.int i] ∧ Q (.int (if i < 0 then -i else i)) H) absD := by
  intro F H v d z Q ex hf rv q
  unfold absD at hf
  split at hf
  · cases hf; rw [rv.int]; exact ⟨_, rfl, q _ F H (.refl ex) (.int _)⟩
  · cases hf
def intD1 : D → Option D
  | .int i => some (.int i)
  | .bl k => some (.int (if k then 1 else 0))
  | _ => none
theorem calls_int : CallS1 L (fun xs H Q => (∃ i, xs = [.int i] ∧ Q (.int i) H) ∨ ∃ k, xs = [.bl k] ∧ Q (.int (if k then 1 else 0)) H) intD1 := by
  intro F H v d z Q ex hf rv q
  unfold intD1 at hf
  split at hf
  · cases hf; rw [rv.int]; exact .inl ⟨_, rfl, q _ F H (.refl ex) (.int _)⟩
  · cases hf; rw [rv.bl]; exact .inr ⟨_, rfl, q _ F H (.refl ex) (.int _)⟩
  · cases hf

/-! ### isinstance -/
def tyD : D → Option String
  | .non => some "NoneType"
  | .bl _ => some "bool"
  | .int _ => some "int"
  | .str _ => some "str"
  | .lst _ => some "list"
  | .tup _ => some "tuple"
  | _ => none
def isiB (T : String) (d : D) : Option Bool := (tyD d).bind fun t => kitB t T
def isiM (T : String) (m : DEnv → Res D) : DEnv → Res D := call1 (fun d => (isiB T d).map .bl) m
theorem tyx_of {v : V} {d : D} {t : String} (ex : Ex F H) (h : tyD d = some t) (r : RepR L F H v d) : TyX L.K H v (.type t) := by
  cases d with
  | non => cases h; rw [r.non]; exact .base .non
  | bl b => cases h; rw [r.bl]; exact .base (.bl b)
  | int i => cases h; rw [r.int]; exact .base (.int i)
  | str x => cases h; rw [r.str]; exact .base (.str x)
  | lst xs =>
    cases h
    obtain ⟨a, vs, rfl, h1, h2⟩ := r.lst ex
    exact .base (.lst h1)
  | tup xs =>
    cases h
    obtain ⟨a, vs, rfl, h1, h2⟩ := r.tup ex
    rcases h1 with (h1 | ⟨o, h1⟩) | ⟨o, its, n, h1, h3, _⟩
    · exact .base (.tup h1)
    · exact .fTuple h1
    · exact .kTuple h1 h3
  | _ => cases h
theorem d_isi {T : String} {t : Str} {pt : Pos} (hg : Gl X x) (hm : X.mg x = none) (hv : bootBuiltins x = some (.builtin "isinstance")) (hn : x ≠ "__name__") (hdb : (x == ("__debug__" : Str)) = false) (hgT : Gl X t) (hmT : X.mg t = none) (hvT : bootBuiltins t = some (.type T)) (hnT : t ≠ "__name__") (hdT : (t == ("__debug__" : Str)) = false) (h : DE X L W e me)
    (hst : starEach (e :: [.Name t pt]) X.env = (false, eval e X.env) :: starEach [.Name t pt] X.env := by rfl) (hst2 : starEach (Expr.Name t pt :: []) X.env = (false, eval (.Name t pt) X.env) :: starEach [] X.env := by rfl)
    (hpl : (backTo pos (starEach [.Name t pt] X.env)).any (·.1) = false := by rfl) (hk : L.K = X.K := by rfl) : DE X L W (.Call (.Name x p) [e, .Name t pt] [] pos) (isiM T me) := by
  obtain ⟨_, p1, s1⟩ := h.ex
  refine ⟨_, pe_callB call_isi hg hm hv (pa_cons p1 (pa_cons (pe_bltn (v := .ty T) hgT hmT hvT rfl hnT hdT) pa_nil hst2) hst) hn hdb hst hpl, fun σ Δ F H Q env w => ?_⟩
  refine s1 σ Δ F H _ env (w.bind.mono fun d Δ1 F1 H1 env1 w1 v rv => ?_)
  replace w1 : Want L W σ Δ1 F1 H1 (Res.opt ((isiB T d).map D.bl) Δ1) _ := w1
  cases q : isiB T d with
  | none => rw [q] at w1; exact w1.elim
  | some k =>
    rw [q] at w1
    obtain ⟨t1, h1, h2⟩ := Option.bind_eq_some_iff.mp q
    exact ⟨v, .ty T, .type t1, .type T, k, rfl, .ty T, hk ▸ tyx_of env1.ex h1 rv.r, kit_ty h2, w1 F1 H1 env1 .refl _ (.bl k)⟩
end
end KL
/-! KL, part e: statements, loops, own lists. -/
namespace KL
open PySem L2

inductive SRes where
  | stuck | nx (Δ : DEnv) | rt (d : D) (Δ : DEnv) | rf (ds : List D) (Δ : DEnv) | bk (Δ : DEnv) | ct (Δ : DEnv) | ex (x : Exc) (Δ : DEnv)
def WantS (L : Lx) (W : WX) (σ : L2.St) (Δ : DEnv) (F H : Hp) (r : SRes) (D : Ends) : Prop := match r with
  | .stuck => False
  | .nx Δ' => ∀ σ' F' H', EnvOk L F' σ' Δ' H' → Step σ Δ F H σ' Δ' F' H' → D.nx σ' H'
  | .bk Δ' => ∀ σ' F' H', EnvOk L F' σ' Δ' H' → Step σ Δ F H σ' Δ' F' H' → D.bk σ' H'
  | .ct Δ' => ∀ σ' F' H', EnvOk L F' σ' Δ' H' → Step σ Δ F H σ' Δ' F' H' → D.ct σ' H'
  | .rt d Δ' => ∀ σ' v F' H', EnvOk L F' σ' Δ' H' → Step σ Δ F H σ' Δ' F' H' → Rep L.K F' v d → D.rt v H'
  | .rf ds Δ' => ∀ σ' p vs F' H', EnvOk L F' σ' Δ' H' → Step σ Δ F H σ' Δ' F' H' → (H p = none ∨ Own σ Δ p) → F' p = none → H' p = some (.lst vs) → (∀ (j : Nat) ys, Δ'[j]? = some (Cell.pav ys) → slot σ' j ≠ some (.ref p)) → Reps L.K F' vs ds → D.rt (.ref p) H'
  | .ex x Δ' => ∀ σ' c dd F' H', EnvOk L F' σ' Δ' H' → Step σ Δ F H σ' Δ' F' H' → XOk L F' c dd x → W c dd σ' H'
def SndS (L : Lx) (W : WX) (ts : TS) (m : DEnv → SRes) : Prop := ∀ (σ : L2.St) (Δ : DEnv) (F H : Hp) (D : Ends), EnvOk L F σ Δ H → WantS L W σ Δ F H (m Δ) D → ts D σ H
structure DS (X : Cx) (L : Lx) (W : WX) (st : Stmt) (m : DEnv → SRes) : Prop where ex : ∃ ts, PS X st ts ∧ SndS L W ts m
structure DSs (X : Cx) (L : Lx) (W : WX) (st : List Stmt) (m : DEnv → SRes) : Prop where ex : ∃ ts, PSs X st ts ∧ SndS L W ts m

def Res.s {α : Type} (r : Res α) (f : α → DEnv → SRes) : SRes := match r with
  | .stuck => .stuck
  | .ok a Δ => f a Δ
  | .ex x Δ => .ex x Δ
def SRes.seq (r : SRes) (f : DEnv → SRes) : SRes := match r with
  | .nx Δ => f Δ
  | r => r
/-- a loop's turn, then k -/
def SRes.loop (r : SRes) (k : DEnv → SRes) : SRes := match r with
  | .nx Δ => k Δ
  | .ct Δ => k Δ
  | .bk Δ => .nx Δ
  | r => r

section
variable {α : Type} {X : Cx} {L : Lx} {W : WX} {σ σ' σ1 : L2.St} {Δ Δ' Δ1 : DEnv} {F F' F1 H H' H1 : Hp} {E : Ends}
theorem WantS.later {r : SRes} (h : WantS L W σ Δ F H r E) (s : Step σ Δ F H σ1 Δ1 F1 H1) : WantS L W σ1 Δ1 F1 H1 r E := by
  cases r with
  | stuck => exact h
  | nx Δ' => exact fun σ' F' H' e t => h σ' F' H' e (s.trans t)
  | bk Δ' => exact fun σ' F' H' e t => h σ' F' H' e (s.trans t)
  | ct Δ' => exact fun σ' F' H' e t => h σ' F' H' e (s.trans t)
  | rt d Δ' => exact fun σ' v F' H' e t r => h σ' v F' H' e (s.trans t) r
  | rf ds Δ' => exact fun σ' p vs F' H' e t hp => h σ' p vs F' H' e (s.trans t) (hp.elim (fun z => .inl (s.hn z)) fun z => (s.ow p z).elim .inr .inl)
  | ex x Δ' => exact fun σ' c dd F' H' e t x => h σ' c dd F' H' e (s.trans t) x
/-- an expression, then what follows -/
theorem Want.ofS {r : Res α} {f : α → DEnv → SRes} (h : WantS L W σ Δ F H (r.s f) E) : Want L W σ Δ F H r (fun a Δ1 F1 H1 => WantS L W σ Δ1 F1 H1 (f a Δ1) E) := by
  cases r with
  | stuck => exact h
  | ok a Δ1 => exact fun F1 H1 e s => WantS.later h s
  | ex x Δ1 => exact fun c dd F1 H1 e s xo => h σ c dd F1 H1 e s xo
theorem WantS.seq {r : SRes} {f : DEnv → SRes} {N : L2.St → Hp → Prop} (h : WantS L W σ Δ F H (r.seq f) E) (hN : ∀ σ1 Δ1 F1 H1, EnvOk L F1 σ1 Δ1 H1 → WantS L W σ1 Δ1 F1 H1 (f Δ1) E → N σ1 H1) : WantS L W σ Δ F H r { E with nx := N } := by
  cases r with
  | nx Δ1 => exact fun σ1 F1 H1 e s => hN σ1 Δ1 F1 H1 e (WantS.later h s)
  | _ => exact h
theorem WantS.loop {r : SRes} {k : DEnv → SRes} {N : L2.St → Hp → Prop} (h : WantS L W σ Δ F H (r.loop k) E) (hN : ∀ σ1 Δ1 F1 H1, EnvOk L F1 σ1 Δ1 H1 → Step σ Δ F H σ1 Δ1 F1 H1 → WantS L W σ1 Δ1 F1 H1 (k Δ1) E → N σ1 H1) :
    WantS L W σ Δ F H r { E with nx := N, ct := N, bk := E.nx } := by
  cases r with
  | nx Δ1 => exact fun σ1 F1 H1 e s => hN σ1 Δ1 F1 H1 e s (WantS.later h s)
  | ct Δ1 => exact fun σ1 F1 H1 e s => hN σ1 Δ1 F1 H1 e s (WantS.later h s)
  | _ => exact h

/-! ### stores -/
def canSet (Δ : DEnv) (i : Nat) : Bool := match Δ[i]? with
  | some (.pav _) => false
  | none => false
  | _ => true
theorem canSet_lt {i : Nat} (h : canSet Δ i = true) : i < Δ.length := by
  by_cases hi : i < Δ.length
  · exact hi
  · unfold canSet at h; rw [List.getElem?_eq_none (by omega)] at h; cases h
theorem canSet_pa {i : Nat} {xs : OwnV} (h : canSet Δ i = true) : Δ[i]? ≠ some (.pav xs) := fun e => by
  unfold canSet at h; rw [e] at h; cases h
theorem set_slot {i j : Nat} {v : V} (hi : i < σ.length) : slot (σ.set i (some v)) j = if j = i then some v else slot σ j := slot_set hi
theorem EnvOk.setC {i : Nat} {c : Cell} {v : V} (env : EnvOk L F σ Δ H) (hi : canSet Δ i = true) (hc : CellOk L F H (some v) c) (hown : ∀ xs a, c.own? = some xs → v = .ref a → ¬ Own σ Δ a) : EnvOk L F (σ.set i (some v)) (Δ.set i c) H := by
  have hl := canSet_lt hi
  have hs : i < σ.length := by rw [env.len]; exact hl
  refine ⟨env.ex, by rw [List.length_set, List.length_set]; exact env.len, fun j c' hj => ?_, fun j k c1 c2 xs ys a hjk hj hk h1 h2 e1 e2 => ?_⟩
  · rcases list_set_get hj with ⟨rfl, rfl⟩ | ⟨nj, hj⟩
    · rw [set_slot hs, if_pos rfl]; exact hc
    · rw [set_slot hs, if_neg nj]; exact env.cells j c' hj
  · rw [set_slot hs] at e1 e2
    rcases list_set_get hj with ⟨ej, ec⟩ | ⟨nj, gj⟩
    · rcases list_set_get hk with ⟨ek, ec'⟩ | ⟨nk, gk⟩
      · exact hjk (ej.trans ek.symm)
      · rw [if_pos ej] at e1
        rw [if_neg nk] at e2
        subst ec
        exact hown xs a h1 (Option.some.inj e1) ⟨k, c2, ys, gk, h2, e2⟩
    · rw [if_neg nj] at e1
      rcases list_set_get hk with ⟨ek, ec⟩ | ⟨nk, gk⟩
      · rw [if_pos ek] at e2
        subst ec
        exact hown ys a h2 (Option.some.inj e2) ⟨j, c1, xs, gj, h1, e1⟩
      · rw [if_neg nk] at e2
        exact env.apart j k c1 c2 xs ys a hjk gj gk h1 h2 e1 e2
/-- a store's step: what was own stays so, or was new -/
theorem Step.setC {i : Nat} {c : Cell} {v : V} (s : Step σ Δ F H σ1 Δ1 F1 H1) (hl : σ1.length = Δ1.length) (hi : canSet Δ1 i = true) (hown : ∀ xs, c.own? = some xs → ∃ a, v = .ref a ∧ (Own σ Δ a ∨ H a = none)) (hpa : ∀ xs, c ≠ .pav xs) :
    Step σ Δ F H (σ1.set i (some v)) (Δ1.set i c) F1 H1 := by
  have hs : i < σ1.length := by rw [hl]; exact canSet_lt hi
  refine ⟨s.fr, s.kp, s.fn, fun b ⟨j, c', ys, hj, h1, e⟩ => ?_, fun j ys hj => ?_, fun j ys hj => ?_, s.th⟩
  · rw [set_slot hs] at e
    rcases list_set_get hj with ⟨rfl, rfl⟩ | ⟨nj, hj⟩
    · rw [if_pos rfl] at e
      obtain ⟨a, e1, e2⟩ := hown ys h1
      rw [e1] at e; cases e; exact e2
    · rw [if_neg nj] at e
      exact s.ow b ⟨j, c', ys, hj, h1, e⟩
  · obtain ⟨xs', e1, e2⟩ := s.pa j ys hj
    have nj : j ≠ i := fun z => by subst z; exact absurd e1 (canSet_pa hi)
    exact ⟨xs', by rw [List.getElem?_set_ne (Ne.symm nj)]; exact e1, by rw [set_slot hs, if_neg nj]; exact e2⟩
  · rcases list_set_get hj with ⟨rfl, e⟩ | ⟨nj, hj⟩
    · exact absurd e.symm (hpa ys)
    · exact s.pb j ys hj
def setM (i : Nat) (d : D) (Δ : DEnv) : SRes := if canSet Δ i = true then .nx (Δ.set i (.va d)) else .stuck
def setO (i : Nat) (ds : List D) (Δ : DEnv) : SRes := if canSet Δ i = true then .nx (Δ.set i (.ow ds)) else .stuck

variable {e : Expr} {me : DEnv → Res D} {mf : DEnv → Res (List D)} {pos pos' : Pos} {x : Str} {i : Nat} {st : Stmt} {sts : List Stmt} {m n : DEnv → SRes}
theorem snd_set {te : TE} (h : Snd L W te me) : SndS L W (tAsg te (gName i)) (fun Δ => (me Δ).s fun d Δ1 => setM i d Δ1) := by
  intro σ Δ F H D env w
  refine h σ Δ F H _ env ((Want.ofS w).mono fun d Δ1 F1 H1 env1 w1 v r => ?_)
  unfold setM at w1
  split at w1
  · rename_i hi
    exact w1 _ F1 H1 (env1.setC hi ⟨v, rfl, r⟩ fun xs a h _ => by cases h) (Step.setC .refl env1.len hi (fun xs h => by cases h) fun xs h => by cases h)
  · exact w1.elim
theorem snd_setF {te : TE} (h : SndF L W te mf) : SndS L W (tAsg te (gName i)) (fun Δ => (mf Δ).s fun d Δ1 => setO i d Δ1) := by
  intro σ Δ F H D env w
  refine h σ Δ F H _ env ?_
  replace w : WantS L W σ Δ F H ((mf Δ).s fun d Δ1 => setO i d Δ1) D := w
  cases q : mf Δ with
  | stuck => rw [q] at w; exact w
  | ex x Δ' => rw [q] at w; exact fun c dd F1 H1 e s xo => w σ c dd F1 H1 e s xo
  | ok ds Δ1 =>
    rw [q] at w
    intro F1 H1 env1 st1 p vs hp ho hf hh rs
    replace w : WantS L W σ Δ F H (setO i ds Δ1) D := w
    unfold setO at w
    split at w
    · rename_i hi
      refine w _ F1 H1 (env1.setC hi ⟨p, _, rfl, hh, hf, .l rs⟩ fun xs a _ e o => ?_) (st1.setC env1.len hi (fun xs h => ⟨p, rfl, .inr hp⟩) fun xs h => by cases h)
      cases e; exact ho o
    · exact w.elim
theorem s_set (hN : X.N.Nodup) (hi : X.N[i]? = some x) (hx : Loc X.env.scope x) (h : DE X L W e me) (hs : swapsWith e (some (.Name x pos')) pos.line X.env = pure false := by rfl) (hf : X.fn x = true ∨ X.env.scope.names.lookup x = some .local := by first | exact .inl rfl | exact .inr rfl | assumption) :
    DS X L W (.Assign [.Name x pos'] e pos) (fun Δ => (me Δ).s fun d Δ1 => setM i d Δ1) := ⟨let ⟨_, p1, s1⟩ := h.ex; ⟨_, ps_set hN hi hx p1 hs hf, snd_set s1⟩⟩
theorem s_setF (hN : X.N.Nodup) (hi : X.N[i]? = some x) (hx : Loc X.env.scope x) (h : DF X L W e mf) (hs : swapsWith e (some (.Name x pos')) pos.line X.env = pure false := by rfl) (hf : X.fn x = true ∨ X.env.scope.names.lookup x = some .local := by first | exact .inl rfl | exact .inr rfl | assumption) :
    DS X L W (.Assign [.Name x pos'] e pos) (fun Δ => (mf Δ).s fun d Δ1 => setO i d Δ1) := ⟨let ⟨_, p1, s1⟩ := h.ex; ⟨_, ps_set hN hi hx p1 hs hf, snd_setF s1⟩⟩

/-! ### blocks and plain statements -/
theorem ss_nil : DSs X L W [] .nx := ⟨_, pss_nil, fun σ Δ F H D env w => w σ F H env .refl⟩
theorem ss_cons (h : DS X L W st m) (hs : DSs X L W sts n) : DSs X L W (st :: sts) (fun Δ => (m Δ).seq n) := by
  obtain ⟨_, p1, s1⟩ := h.ex
  obtain ⟨_, p2, s2⟩ := hs.ex
  exact ⟨_, pss_cons p1 p2, fun σ Δ F H D env w => s1 σ Δ F H _ env (w.seq fun σ1 Δ1 F1 H1 e1 w1 => s2 σ1 Δ1 F1 H1 D e1 w1)⟩
theorem ss_one (h : DS X L W st m) : DSs X L W [st] m := ⟨let ⟨_, p1, s1⟩ := h.ex; ⟨_, pss_one p1, s1⟩⟩
theorem s_pass : DS X L W (.Pass pos) .nx := ⟨_, ps_pass, fun σ Δ F H D env w => w σ F H env .refl⟩
theorem s_break : DS X L W (.Break pos) .bk := ⟨_, ps_break, fun σ Δ F H D env w => w σ F H env .refl⟩
theorem s_continue : DS X L W (.Continue pos) .ct := ⟨_, ps_continue, fun σ Δ F H D env w => w σ F H env .refl⟩
theorem s_expr (h : DE X L W e me) (hs : swapsWith e none pos.line X.env = pure false := by rfl) : DS X L W (.Expr e pos) (fun Δ => (me Δ).s fun _ Δ1 => .nx Δ1) := by
  obtain ⟨_, p1, s1⟩ := h.ex
  exact ⟨_, ps_expr p1 hs, fun σ Δ F H D env w => s1 σ Δ F H _ env ((Want.ofS w).mono fun d Δ1 F1 H1 env1 w1 v r => w1 σ F1 H1 env1 .refl)⟩
theorem s_ret (h : DE X L W e me) : DS X L W (.Return (some e) pos) (fun Δ => (me Δ).s .rt) := by
  obtain ⟨_, p1, s1⟩ := h.ex
  exact ⟨_, ps_ret p1, fun σ Δ F H D env w => s1 σ Δ F H _ env ((Want.ofS w).mono fun d Δ1 F1 H1 env1 w1 v r => w1 σ v F1 H1 env1 .refl r)⟩
theorem s_retN : DS X L W (.Return none pos) (.rt .non) := ⟨_, ps_retN, fun σ Δ F H D env w => w σ .non F H env .refl .non⟩
theorem own_pa {p : Addr} (env : EnvOk L F σ Δ H) (h : ¬ Own σ Δ p) (j : Nat) (ys : OwnV) (hj : Δ[j]? = some (Cell.pav ys)) : slot σ j ≠ some (.ref p) := fun e => h ⟨j, _, ys, hj, rfl, e⟩
theorem s_retF (h : DF X L W e mf) : DS X L W (.Return (some e) pos) (fun Δ => (mf Δ).s .rf) := by
  obtain ⟨_, p1, s1⟩ := h.ex
  refine ⟨_, ps_ret p1, fun σ Δ F H D env w => s1 σ Δ F H _ env ?_⟩
  replace w : WantS L W σ Δ F H ((mf Δ).s .rf) D := w
  cases q : mf Δ with
  | stuck => rw [q] at w; exact w
  | ex x Δ' => rw [q] at w; exact fun c dd F1 H1 e s xo => w σ c dd F1 H1 e s xo
  | ok ds Δ1 =>
    rw [q] at w
    exact fun F1 H1 env1 st1 p vs hp ho hf hh rs => w σ p vs F1 H1 env1 st1 (.inl hp) hf hh (own_pa env1 ho) rs
/-- return of an own list -/
def retO (i : Nat) : DEnv → SRes := fun Δ => match Δ[i]? with
  | some (.owv (.l xs)) => .rf xs Δ
  | _ => .stuck
theorem s_retO (hN : X.N[i]? = some x) (hv : Vis X.env.scope x) (hd : (x == ("__debug__" : Str)) = false) (hcd : (x == ("__classdict__" : Str)) = false) : DS X L W (.Return (some (.Name x pos')) pos) (retO i) := by
  refine ⟨_, ps_ret (pe_var hN hv hd hcd), fun σ Δ F H D env w => ?_⟩
  unfold retO at w
  split at w
  · rename_i xs q
    obtain ⟨a, u, e1, e2, e3, e0⟩ := env.cells i _ q
    obtain ⟨vs, rfl, e4⟩ := e0.lst
    refine ⟨.ref a, slot_some e1, w σ a vs F H env .refl (.inr ⟨i, _, _, q, rfl, e1⟩) e3 e2 (fun j ys hj e => ?_) e4⟩
    have nj : i ≠ j := fun z => by subst z; rw [q] at hj; cases hj
    exact env.apart i j _ _ _ ys a nj q hj rfl rfl e1 e
  · exact w.elim
theorem s_if {c : Expr} {a b : List Stmt} {mt : DEnv → Res Bool} (hc : DT X L W c mt) (ha : DSs X L W a m) (hb : DSs X L W b n) : DS X L W (.If c a b pos) (fun Δ => (mt Δ).s fun k Δ1 => if k = true then m Δ1 else n Δ1) := by
  obtain ⟨_, p0, s0⟩ := hc.ex
  obtain ⟨_, p1, s1⟩ := ha.ex
  obtain ⟨_, p2, s2⟩ := hb.ex
  refine ⟨_, ps_if p0 p1 p2, fun σ Δ F H D env w => s0 σ Δ F H _ env ((Want.ofS w).mono fun k Δ1 F1 H1 env1 w1 => ?_)⟩
  cases k with
  | true => exact s1 σ Δ1 F1 H1 D env1 w1
  | false => exact s2 σ Δ1 F1 H1 D env1 w1

/-! ### targets -/
def SndG (L : Lx) (g : TG) (tgt : D → DEnv → Option DEnv) : Prop := ∀ (σ : L2.St) (Δ Δ' : DEnv) (F H : Hp) (v : V) (d : D) (Q : L2.St → Hp → Prop), EnvOk L F σ Δ H → Rep L.K F v d → tgt d Δ = some Δ' →
  (∀ σ', EnvOk L F σ' Δ' H → Step σ Δ F H σ' Δ' F H → Q σ' H) → g v σ H Q
def SndGs (L : Lx) (g : TGs) (tgt : List D → DEnv → Option DEnv) : Prop := ∀ (σ : L2.St) (Δ Δ' : DEnv) (F H : Hp) (vs : List V) (ds : List D) (Q : L2.St → Hp → Prop), EnvOk L F σ Δ H → Reps L.K F vs ds → tgt ds Δ = some Δ' →
  (∀ σ', EnvOk L F σ' Δ' H → Step σ Δ F H σ' Δ' F H → Q σ' H) → g vs σ H Q
structure DG (X : Cx) (L : Lx) (tg : Expr) (tgt : D → DEnv → Option DEnv) : Prop where ex : ∃ g, PG X tg g ∧ SndG L g tgt
structure DGs (X : Cx) (L : Lx) (tgs : List Expr) (tgt : List D → DEnv → Option DEnv) : Prop where ex : ∃ g, PGs X tgs g ∧ SndGs L g tgt
def tgN (i : Nat) : D → DEnv → Option DEnv := fun d Δ => if canSet Δ i = true then some (Δ.set i (.va d)) else none
theorem g_name (hN : X.N.Nodup) (hi : X.N[i]? = some x) (hx : Loc X.env.scope x) (hf : X.fn x = true ∨ X.env.scope.names.lookup x = some .local := by first | exact .inl rfl | exact .inr rfl | assumption) : DG X L (.Name x pos) (tgN i) := by
  refine ⟨_, pg_name hN hi hx hf, fun σ Δ Δ' F H v d Q env r ht q => ?_⟩
  unfold tgN at ht
  split at ht
  · rename_i hi; cases ht
    exact q _ (env.setC hi ⟨v, rfl, r⟩ fun xs a h _ => by cases h) (Step.setC .refl env.len hi (fun xs h => by cases h) fun xs h => by cases h)
  · cases ht
def tgsNil : List D → DEnv → Option DEnv := fun ds Δ => match ds with
  | [] => some Δ
  | _ => none
def tgsCons (t : D → DEnv → Option DEnv) (u : List D → DEnv → Option DEnv) : List D → DEnv → Option DEnv := fun ds Δ => match ds with
  | d :: r => (t d Δ).bind (u r)
  | [] => none
theorem gs_nil : DGs X L [] tgsNil := by
  refine ⟨_, pgs_nil, fun σ Δ Δ' F H vs ds Q env r ht q => ?_⟩
  cases ds with
  | nil => cases ht; exact ⟨r.nil_inv, q σ env .refl⟩
  | cons d ds => cases ht
theorem gs_cons {tg : Expr} {tgs : List Expr} {t : D → DEnv → Option DEnv} {u : List D → DEnv → Option DEnv} (h : DG X L tg t) (hs : DGs X L tgs u) (hst : (assignEach (tg :: tgs) X.env).map (·.2) = assign tg X.env :: (assignEach tgs X.env).map (·.2) := by rfl) : DGs X L (tg :: tgs) (tgsCons t u) := by
  obtain ⟨g1, p1, s1⟩ := h.ex
  obtain ⟨g2, p2, s2⟩ := hs.ex
  refine ⟨_, pgs_cons p1 p2 hst, fun σ Δ Δ' F H vs ds Q env r ht q => ?_⟩
  cases ds with
  | nil => cases ht
  | cons d ds =>
    obtain ⟨Δ1, h1, h2⟩ := Option.bind_eq_some_iff.mp ht
    obtain ⟨v, ws, rfl, r1, r2⟩ := r.cons_inv
    exact ⟨v, ws, rfl, s1 σ Δ Δ1 F H v d _ env r1 h1 fun σ1 env1 st1 => s2 σ1 Δ1 Δ' F H ws ds Q env1 r2 h2 fun σ2 env2 st2 => q σ2 env2 (st1.trans st2)⟩
def tgT (n : Nat) (u : List D → DEnv → Option DEnv) : D → DEnv → Option DEnv := fun d Δ => match d with
  | .tup ds => if ds.length = n then u ds Δ else none
  | _ => none
theorem g_tup {tgs : List Expr} {k : Nat} {u : List D → DEnv → Option DEnv} {n : Nat} (h : DGs X L tgs u) (hc : X.calm = true := by rfl) (hn : (assignEach tgs X.env).length = n := by rfl) (hst : (assignEach tgs X.env).findIdx? (·.1) = none := by rfl) (hk : L.K = X.K := by rfl) :
    DG X L (.Tuple tgs k pos) (tgT n u) := by
  obtain ⟨g1, p1, s1⟩ := h.ex
  refine ⟨_, pg_tup hc p1 hn hst, fun σ Δ Δ' F H v d Q env r ht q => ?_⟩
  unfold tgT at ht
  split at ht
  · rename_i ds
    split at ht
    · rename_i hl
      obtain ⟨a, vs, rfl, h1, h2⟩ := rep_ref_tup r
      exact ⟨a, vs, rfl, hk ▸ env.ex.st h1, by rw [h2.1]; exact hl, s1 σ Δ Δ' F H vs ds Q env h2 ht q⟩
    · cases ht
  · cases ht
def asgM (me : DEnv → Res D) (tgt : D → DEnv → Option DEnv) : DEnv → SRes := fun Δ => (me Δ).s fun d Δ1 => match tgt d Δ1 with
  | some Δ2 => .nx Δ2
  | none => .stuck
theorem s_asg {tg : Expr} {tgt : D → DEnv → Option DEnv} (h : DE X L W e me) (hg : DG X L tg tgt) (hs : swapsWithSole [tg] e pos.line X.env = pure false := by rfl) (hw : swappedStores [tg] e X.env = pure none := by rfl)
    (h1 : (assignEach [tg] X.env).map (·.2) = [assign tg X.env] := by rfl) : DS X L W (.Assign [tg] e pos) (asgM me tgt) := by
  obtain ⟨_, p1, s1⟩ := h.ex
  obtain ⟨_, p2, s2⟩ := hg.ex
  refine ⟨_, ps_asg p1 p2 hs hw h1, fun σ Δ F H D env w => s1 σ Δ F H _ env ((Want.ofS w).mono fun d Δ1 F1 H1 env1 w1 v r => ?_)⟩
  cases q : tgt d Δ1 with
  | none => rw [q] at w1; exact w1.elim
  | some Δ2 => rw [q] at w1; exact s2 σ Δ1 Δ2 F1 H1 v d D.nx env1 r q fun σ2 env2 st2 => w1 σ2 F1 H1 env2 st2

/-! ### what is walked -/
/-- J gives out the items ds, one after the other -/
def ItOk (L : Lx) (F1 : Hp) (J : It) (ds : List D) : Prop := ∀ (i : Nat) (F' H' : Hp), Ex F1 F' → Ex F' H' →
  (∀ d, ds[i]? = some d → J.go i H' ∧ ∀ x H'', J.yld i H' x H'' → ∃ F'', Gro F' H' F'' H'' ∧ Rep L.K F'' x d) ∧ (ds.length ≤ i → J.stop i H')
def SndI (L : Lx) (W : WX) (wi : TI) (m : DEnv → Res (List D)) : Prop := ∀ (σ : L2.St) (Δ : DEnv) (F H : Hp) (R : It → Hp → Prop), EnvOk L F σ Δ H →
  Want L W σ Δ F H (m Δ) (fun ds _ F' H' => ∀ J, ItOk L F' J ds → R J H') → wi σ H R
structure DI (X : Cx) (L : Lx) (W : WX) (tg iter : Expr) (m : DEnv → Res (List D)) : Prop where ex : ∃ wi, PI X tg iter wi ∧ SndI L W wi m
theorem pi_or {tg iter : Expr} {wi wj : TI} (h : PI X tg iter wi) (h' : PI X tg iter wj) : PI X tg iter (fun σ H R => wi σ H R ∨ wj σ H R) := ⟨fun pins s σ H R I w => w.elim (h.run pins s σ H R I) (h'.run pins s σ H R I)⟩
/-- a frozen list or tuple -/
def seqM (m : DEnv → Res D) : DEnv → Res (List D) := fun Δ => (m Δ).bind fun d Δ1 => match d with
  | .lst ds => .ok ds Δ1
  | .tup ds => .ok ds Δ1
  | _ => .stuck
theorem i_seq {tg : Expr} (h : DE X L W e me) (hk : L.K = X.K := by rfl) : DI X L W tg e (seqM me) := by
  obtain ⟨te, p1, s1⟩ := h.ex
  refine ⟨_, pi_or (pi_list p1) (pi_tup p1), fun σ Δ F H R env w => ?_⟩
  replace w : Want L W σ Δ F H (seqM me Δ) _ := w
  unfold seqM at w
  -- which of the two is known ahead
  cases q : me Δ with
  | stuck => rw [q] at w; exact w.elim
  | ex x Δ' =>
    rw [q] at w
    exact .inl (s1 σ Δ F H _ env (by rw [q]; exact w))
  | ok d Δ1 =>
    rw [q] at w
    cases d with
    | lst ds =>
      refine .inl (s1 σ Δ F H _ env ?_)
      rw [q]
      intro F1 H1 env1 st1 v r
      obtain ⟨a, vs, rfl, h1, h2⟩ := rep_ref_lst r
      refine ⟨a, rfl, ⟨vs, SqL.of (env1.ex _ _ h1)⟩, w F1 H1 env1 st1 _ fun i F' H' e1 e2 => ⟨fun d hd => ?_, fun hl => ⟨vs, SqL.of ((e1.trans e2) _ _ h1), by rw [h2.1]; exact hl⟩⟩⟩
      obtain ⟨u, hu, ru⟩ := h2.get hd
      refine ⟨⟨vs, u, SqL.of ((e1.trans e2) _ _ h1), hu⟩, fun x H'' y => ?_⟩
      obtain ⟨rfl, y⟩ := y
      have := y vs (SqL.of ((e1.trans e2) _ _ h1))
      rw [hu] at this; cases this
      exact ⟨F', .refl e2, ru.mono e1⟩
    | tup ds =>
      refine .inr (s1 σ Δ F H _ env ?_)
      rw [q]
      intro F1 H1 env1 st1 v r
      obtain ⟨a, vs, rfl, h1, h2⟩ := rep_ref_tup r
      refine ⟨a, rfl, ⟨vs, hk ▸ env1.ex.st h1⟩, w F1 H1 env1 st1 _ fun i F' H' e1 e2 => ⟨fun d hd => ?_, fun hl => ⟨vs, hk ▸ (e1.trans e2).st h1, by rw [h2.1]; exact hl⟩⟩⟩
      obtain ⟨u, hu, ru⟩ := h2.get hd
      refine ⟨⟨vs, u, hk ▸ (e1.trans e2).st h1, hu⟩, fun x H'' y => ?_⟩
      obtain ⟨rfl, y⟩ := y
      have := y vs (hk ▸ (e1.trans e2).st h1)
      rw [hu] at this; cases this
      exact ⟨F', .refl e2, ru.mono e1⟩
    | _ => exact w.elim
/-- range -/
def rangeL (lo : Int) : Nat → List D := fun n => (List.range n).map fun i => .int (lo + (i : Nat))
theorem itok_range {lo : Int} {n : Nat} : ItOk L F (Itr lo n) (rangeL lo n) := by
  intro i F' H' e1 e2
  refine ⟨fun d hd => ?_, fun hl => ?_⟩
  · unfold rangeL at hd
    rw [List.getElem?_map] at hd
    cases q : (List.range n)[i]? with
    | none => rw [q] at hd; cases hd
    | some j =>
      rw [q] at hd
      cases hd
      have hi : i < n := by have := (List.getElem?_eq_some_iff.mp q).1; simpa using this
      have hj : j = i := by rw [List.getElem?_range hi] at q; cases q; rfl
      subst hj
      exact ⟨hi, fun x H'' ⟨e3, e4⟩ => by subst e3 e4; exact ⟨F', .refl e2, .int _⟩⟩
  · show n ≤ i
    unfold rangeL at hl
    simpa using hl
def range1M (m : DEnv → Res D) : DEnv → Res (List D) := fun Δ => (m Δ).bind fun d Δ1 => match d with
  | .int j => gd (decide (-4611686018427387904 ≤ j ∧ j < 4611686018427387904)) (.ok (rangeL 0 j.toNat) Δ1)
  | _ => .stuck
theorem i_range1 {tg a : Expr} {ma : DEnv → Res D} {p : Pos} (hg : Gl X "range") (hm : X.mg "range" = none) (h : DE X L W a ma) (hs : starEach [a] X.env = [(false, eval a X.env)] := by rfl) : DI X L W tg (.Call (.Name "range" p) [a] [] pos) (range1M ma) := by
  obtain ⟨te, p1, s1⟩ := h.ex
  refine ⟨_, pi_range1 hg hm (pa_cons p1 pa_nil (hs.trans rfl)) hs, fun σ Δ F H R env w => ?_⟩
  refine s1 σ Δ F H _ env (w.bind.mono fun d Δ1 F1 H1 env1 w1 v r => ?_)
  cases d with
  | int j =>
    cases r
    replace w1 : Want L W σ Δ1 F1 H1 (gd (decide (-4611686018427387904 ≤ j ∧ j < 4611686018427387904)) (.ok (rangeL 0 j.toNat) Δ1)) _ := w1
    unfold gd at w1
    split at w1
    · rename_i hb
      have hb := of_decide_eq_true hb
      exact ⟨j, rfl, by omega, by omega, w1 F1 H1 env1 .refl _ itok_range⟩
    · exact w1.elim
  | _ => exact w1.elim
def range2M (m n : DEnv → Res D) : DEnv → Res (List D) := fun Δ => (m Δ).bind fun d Δ1 => (n Δ1).bind fun d2 Δ2 => match d, d2 with
  | .int i, .int j => gd (decide (-4611686018427387904 ≤ i ∧ i < 4611686018427387904 ∧ -4611686018427387904 ≤ j ∧ j < 4611686018427387904)) (.ok (rangeL i (j - i).toNat) Δ2)
  | _, _ => .stuck
theorem i_range2 {tg a b : Expr} {ma mb : DEnv → Res D} {p : Pos} (hg : Gl X "range") (hm : X.mg "range" = none) (h : DE X L W a ma) (h' : DE X L W b mb) (hs : starEach [a, b] X.env = [(false, eval a X.env), (false, eval b X.env)] := by rfl) (hs2 : starEach [b] X.env = [(false, eval b X.env)] := by rfl) :
    DI X L W tg (.Call (.Name "range" p) [a, b] [] pos) (range2M ma mb) := by
  obtain ⟨te, p1, s1⟩ := h.ex
  obtain ⟨te2, p2, s2⟩ := h'.ex
  refine ⟨_, pi_range2 hg hm (pa_cons p1 (pa_cons p2 pa_nil (hs2.trans rfl)) (by rw [hs, hs2])) hs hs2, fun σ Δ F H R env w => ?_⟩
  refine s1 σ Δ F H _ env (w.bind.mono fun d Δ1 F1 H1 env1 w1 v r => ?_)
  refine s2 σ Δ1 F1 H1 _ env1 (w1.bind.mono fun d2 Δ2 F2 H2 env2 w2 v2 r2 => ?_)
  cases d with
  | int i =>
    cases d2 with
    | int j =>
      cases r; cases r2
      replace w2 : Want L W σ Δ2 F2 H2 (gd (decide (-4611686018427387904 ≤ i ∧ i < 4611686018427387904 ∧ -4611686018427387904 ≤ j ∧ j < 4611686018427387904)) (.ok (rangeL i (j - i).toNat) Δ2)) _ := w2
      unfold gd at w2
      split at w2
      · rename_i hb
        have hb := of_decide_eq_true hb
        exact ⟨i, j, rfl, by omega, w2 F2 H2 env2 .refl _ itok_range⟩
      · exact w2.elim
    | _ => exact w2.elim
  | _ => exact w2.elim

/-! ### for, while -/
def forM (tgt : D → DEnv → Option DEnv) (body : DEnv → SRes) : List D → DEnv → SRes
  | [], Δ => .nx Δ
  | d :: ds, Δ => match tgt d Δ with
    | none => .stuck
    | some Δ1 => (body Δ1).loop (forM tgt body ds)
theorem s_for {tg iter : Expr} {body : List Stmt} {mi : DEnv → Res (List D)} {tgt : D → DEnv → Option DEnv} (hp : PassesOwn (model X.prog X.w) X.A X.env X.xe) (hi : DI X L W tg iter mi) (hg : DG X L tg tgt) (hb : DSs X L W body m)
    (hc : X.calm = true := by rfl) (hs : ∀ x, foldedSetIterable iter X.env x = pure x := by intro _; rfl) : DS X L W (.For tg iter body [] pos) (fun Δ => (mi Δ).s (forM tgt m)) := by
  obtain ⟨wi, p1, s1⟩ := hi.ex
  obtain ⟨g, p2, s2⟩ := hg.ex
  obtain ⟨tb, p3, s3⟩ := hb.ex
  refine ⟨_, ps_for hp hc p1 p2 p3 hs, fun σ Δ F H D env w => ?_⟩
  refine s1 σ Δ F H _ env ((Want.ofS w).mono fun ds Δ1 F1 H1 env1 w1 J hJ => ?_)
  refine ⟨fun i k σ' H' => k = ds.length - i ∧ i ≤ ds.length ∧ ∃ Δ' F', Ex F1 F' ∧ EnvOk L F' σ' Δ' H' ∧ WantS L W σ' Δ' F' H' (forM tgt m (ds.drop i) Δ') D, ⟨_, rfl, Nat.zero_le _, Δ1, F1, Ex.refl _, env1, w1⟩, ?_⟩
  rintro i k σ' H' ⟨rfl, hi, Δ', F', ex, env', w'⟩
  obtain ⟨j1, j2⟩ := hJ i F' H' ex env'.ex
  by_cases hlt : i < ds.length
  · have hd : ds[i]? = some ds[i] := List.getElem?_eq_getElem hlt
    obtain ⟨go, yl⟩ := j1 _ hd
    refine .inr ⟨go, fun σ2 H2 => ∃ Δ2 F2, Ex F1 F2 ∧ EnvOk L F2 σ2 Δ2 H2 ∧ WantS L W σ2 Δ2 F2 H2 (forM tgt m (ds.drop (i + 1)) Δ2) D, fun σ2 H2 q => ⟨_, by omega, rfl, hlt, q⟩, fun x H'' y => ?_⟩
    obtain ⟨F'', gr, rx⟩ := yl x H'' y
    have env2 := env'.gro gr
    have w2 := w'.later (Step.gro gr)
    rw [List.drop_eq_getElem_cons hlt] at w2
    unfold forM at w2
    cases qt : tgt ds[i] Δ' with
    | none => rw [qt] at w2; exact w2.elim
    | some Δ3 =>
      rw [qt] at w2
      refine s2 σ' Δ' Δ3 F'' H'' x _ _ env2 rx qt fun σ3 env3 st3 => s3 σ3 Δ3 F'' H'' _ env3 ?_
      exact (w2.later st3).loop fun σ4 Δ4 F4 H4 env4 st4 w4 => ⟨Δ4, F4, (ex.trans gr.f).trans st4.fr, env4, w4⟩
  · have e : i = ds.length := by omega
    subst e
    rw [List.drop_length] at w'
    exact .inl ⟨j2 (Nat.le_refl _), w' σ' F' H' env' .refl⟩
def whileM (c : DEnv → Res Bool) (body : DEnv → SRes) : Nat → DEnv → SRes
  | 0, _ => .stuck
  | n + 1, Δ => (c Δ).s fun b Δ1 => if b = true then (body Δ1).loop (whileM c body n) else .nx Δ1
theorem s_while {c : Expr} {body : List Stmt} {mt : DEnv → Res Bool} {n : Nat} (hp : PassesOwn (model X.prog X.w) X.A X.env X.xe) (hc : DT X L W c mt) (hb : DSs X L W body m) : DS X L W (.While c body [] pos) (whileM mt m n) := by
  obtain ⟨tc, p1, s1⟩ := hc.ex
  obtain ⟨tb, p2, s2⟩ := hb.ex
  refine ⟨_, ps_while hp p1 p2, fun σ Δ F H D env w => ?_⟩
  refine ⟨fun k σ' H' => ∃ Δ' F', EnvOk L F' σ' Δ' H' ∧ WantS L W σ' Δ' F' H' (whileM mt m k Δ') D, ⟨n, Δ, F, env, w⟩, ?_⟩
  rintro k σ' H' ⟨Δ', F', env', w'⟩
  cases k with
  | zero => exact w'.elim
  | succ k =>
    refine s1 σ' Δ' F' H' _ env' ((Want.ofS w').mono fun b Δ1 F1 H1 env1 w1 => ?_)
    cases b with
    | true =>
      rw [if_pos rfl]
      refine ⟨fun σ2 H2 => ∃ Δ2 F2, EnvOk L F2 σ2 Δ2 H2 ∧ WantS L W σ2 Δ2 F2 H2 (whileM mt m k Δ2) D, fun σ2 H2 q => ⟨k, Nat.lt_succ_self k, q⟩, s2 σ' Δ1 F1 H1 _ env1 ?_⟩
      exact WantS.loop w1 fun σ2 Δ2 F2 H2 env2 _ w2 => ⟨Δ2, F2, env2, w2⟩
    | false => exact w1 σ' F1 H1 env1 .refl
end
end KL
/-! KL, part f: own lists changed, slices, comprehensions, calls of defs. -/
namespace KL
open PySem L2

def getL (Δ : DEnv) (i : Nat) : Option (List D) := (Δ[i]?).bind Cell.list?
def setW (Δ : DEnv) (i : Nat) (w : OwnV) : DEnv := match Δ[i]? with
  | some (.owv _) => Δ.set i (.owv w)
  | some (.pav _) => Δ.set i (.pav w)
  | _ => Δ
abbrev setL (Δ : DEnv) (i : Nat) (xs : List D) : DEnv := setW Δ i (.l xs)
section
variable {X : Cx} {L : Lx} {W : WX} {σ σ' σ1 : L2.St} {Δ Δ' Δ1 : DEnv} {F F' F1 H H' H1 : Hp} {E : Ends} {e : Expr} {es : List Expr} {me : DEnv → Res D} {mf : DEnv → Res (List D)} {pos pos' p : Pos} {x : Str} {i : Nat}
theorem EnvOk.getL {xs : List D} (env : EnvOk L F σ Δ H) (h : getL Δ i = some xs) : ∃ a vs, slot σ i = some (.ref a) ∧ H a = some (.lst vs) ∧ F a = none ∧ Reps L.K F vs xs := by
  obtain ⟨c, h1, h2⟩ := Option.bind_eq_some_iff.mp h
  obtain ⟨a, u, e1, e2, e3, e4⟩ := (env.cells i c h1).own (Cell.own_of_list h2)
  obtain ⟨vs, rfl, e5⟩ := e4.lst
  exact ⟨a, vs, e1, e2, e3, e5⟩
theorem EnvOk.mutW {w0 w : OwnV} {a : Addr} {u0 u : HO} {c : Cell} (env : EnvOk L F σ Δ H) (h1 : Δ[i]? = some c) (h2 : c.own? = some w0) (hs : slot σ i = some (.ref a)) (ha : H a = some u0) (hf : F a = none) (rs : OwnOk L.K F u w) :
    EnvOk L F σ (setW Δ i w) (upd H a u) ∧ Step σ Δ F H σ (setW Δ i w) F (upd H a u) := by
  obtain ⟨c', hc', hl', hset, hpa⟩ : ∃ c', setW Δ i w = Δ.set i c' ∧ c'.own? = some w ∧ CellOk L F (upd H a u) (slot σ i) c' ∧ (∀ zs, c' = .pav zs ↔ (zs = w ∧ ∃ us, c = .pav us)) := by
    unfold setW; rw [h1]
    cases c with
    | owv us => exact ⟨.owv w, rfl, rfl, ⟨a, u, hs, upd_same, hf, rs⟩, fun zs => ⟨fun q => (by cases q), fun q => (by obtain ⟨_, us, q⟩ := q; cases q)⟩⟩
    | pav us => exact ⟨.pav w, rfl, rfl, ⟨a, u, hs, upd_same, hf, rs⟩, fun zs => ⟨fun q => by cases q; exact ⟨rfl, us, rfl⟩, fun q => by rw [q.1]⟩⟩
    | _ => cases h2
  rw [hc']
  have own : Own σ Δ a := ⟨i, c, w0, h1, h2, hs⟩
  refine ⟨⟨fun b o q => ?_, by rw [List.length_set]; exact env.len, fun j cj hj => ?_, fun j k c1 c2 as bs b hjk hj hk q1 q2 e1 => ?_⟩, ?_⟩
  · rw [upd_ne (fun z => by rw [z, hf] at q; cases q)]; exact env.ex b o q
  · rcases list_set_get hj with ⟨rfl, rfl⟩ | ⟨nj, hj⟩
    · exact hset
    · have k := env.cells j cj hj
      have keep : ∀ us, cj.own? = some us → (∃ b u', slot σ j = some (.ref b) ∧ H b = some u' ∧ F b = none ∧ OwnOk L.K F u' us) → ∃ b u', slot σ j = some (.ref b) ∧ upd H a u b = some u' ∧ F b = none ∧ OwnOk L.K F u' us := by
        rintro us hu ⟨b, u', g1, g2, g3, g4⟩
        refine ⟨b, u', g1, ?_, g3, g4⟩
        rw [upd_ne (fun z => env.apart i j c cj w0 us a (Ne.symm nj) h1 hj h2 hu hs (by rw [← z]; exact g1))]; exact g2
      cases cj with
      | no => trivial
      | va d => exact k
      | owv us => exact keep us rfl k
      | pav us => exact keep us rfl k
      | xc x => exact k
  · have back : ∀ (j : Nat) (cj : Cell) (as : OwnV), (Δ.set i c')[j]? = some cj → cj.own? = some as → ∃ c0 as0, Δ[j]? = some c0 ∧ c0.own? = some as0 := fun j cj as hj q => by
      rcases list_set_get hj with ⟨rfl, _⟩ | ⟨_, hj⟩
      · exact ⟨c, w0, h1, h2⟩
      · exact ⟨cj, as, hj, q⟩
    obtain ⟨d1, a1, x1, y1⟩ := back j c1 as hj q1
    obtain ⟨d2, a2, x2, y2⟩ := back k c2 bs hk q2
    exact env.apart j k d1 d2 a1 a2 b hjk x1 x2 y1 y2 e1
  · refine ⟨Ex.refl F, fun b o q n => ?_, fun b o q => .inl q, fun b ⟨j, cj, as, hj, q, e⟩ => .inl ?_, fun j ys hj => ?_, fun j zs hj => ?_, fun b o q => ?_⟩
    · rw [upd_ne (fun z => n (by rw [z]; exact own))]; exact q
    · rcases list_set_get hj with ⟨rfl, _⟩ | ⟨_, hj⟩
      · exact ⟨_, c, w0, h1, h2, e⟩
      · exact ⟨j, cj, as, hj, q, e⟩
    · by_cases ej : j = i
      · subst ej
        rw [h1] at hj; cases hj
        have hl : j < Δ.length := (List.getElem?_eq_some_iff.mp h1).1
        exact ⟨w, by rw [List.getElem?_set_self hl, (hpa w).mpr ⟨rfl, ys, rfl⟩], rfl⟩
      · exact ⟨ys, by rw [List.getElem?_set_ne (Ne.symm ej)]; exact hj, rfl⟩
    · rcases list_set_get hj with ⟨ej, q⟩ | ⟨nj, hj⟩
      · obtain ⟨_, us, e2⟩ := (hpa zs).mp q.symm
        rw [ej]; exact ⟨us, by rw [h1, e2]⟩
      · exact ⟨zs, hj⟩
    · by_cases ej : b = a
      · exact ⟨_, by rw [ej]; exact upd_same⟩
      · exact ⟨o, by rw [upd_ne ej]; exact q⟩
theorem EnvOk.mut {xs ys : List D} {a : Addr} {vs ws : List V} (env : EnvOk L F σ Δ H) (h : KL.getL Δ i = some xs) (hs : slot σ i = some (.ref a)) (ha : H a = some (.lst vs)) (hf : F a = none) (rs : Reps L.K F ws ys) :
    EnvOk L F σ (setL Δ i ys) (upd H a (.lst ws)) ∧ Step σ Δ F H σ (setL Δ i ys) F (upd H a (.lst ws)) := by
  obtain ⟨c, h1, h2⟩ := Option.bind_eq_some_iff.mp h
  exact env.mutW h1 (Cell.own_of_list h2) hs ha hf (.l rs)
/-! ### methods of own lists -/
theorem tyV_own {xs : List D} (env : EnvOk L F σ Δ H) (h : getL Δ i = some xs) : ∃ a vs, slot σ i = some (.ref a) ∧ H a = some (.lst vs) ∧ F a = none ∧ Reps L.K F vs xs ∧ tyV L.K "list" (.ref a) H := by
  obtain ⟨a, vs, e1, e2, e3, e4⟩ := env.getL h
  exact ⟨a, vs, e1, e2, e3, e4, .inl ⟨rfl, vs, SqL.of e2⟩⟩
def appendM (i : Nat) (me : DEnv → Res D) : DEnv → Res D := fun Δ => match getL Δ i with
  | none => .stuck
  | some _ => (me Δ).bind fun d Δ1 => match getL Δ1 i with
    | none => .stuck
    | some xs => gd (decide (xs.length < 16777216)) (.ok .non (setL Δ1 i (xs ++ [d])))
theorem snd_append {te : TE} (h : Snd L W te me) : Snd L W (tBM L.K "list" rAppend (tVar i) (tCons te tNil)) (appendM i me) := by
  intro σ Δ F H Q env w
  unfold appendM at w
  cases q : getL Δ i with
  | none => rw [q] at w; exact w.elim
  | some ys =>
    rw [q] at w
    obtain ⟨a, us, e1, e2, e3, e4, ty⟩ := tyV_own env q
    refine ⟨.ref a, slot_some e1, ty, h σ Δ F H _ env (w.bind.mono fun d Δ1 F1 H1 env1 w1 v r => ?_)⟩
    cases q1 : getL Δ1 i with
    | none => rw [q1] at w1; exact w1.elim
    | some xs =>
      rw [q1] at w1
      obtain ⟨b, vs, g1, g2, g3, g4⟩ := env1.getL q1
      rw [e1] at g1; cases g1
      replace w1 : Want L W σ Δ1 F1 H1 (gd (decide (xs.length < 16777216)) (.ok D.non (setL Δ1 i (xs ++ [d])))) _ := w1
      unfold gd at w1
      split at w1
      · rename_i hl
        obtain ⟨env2, st2⟩ := env1.mut q1 e1 g2 g3 (g4.append (.cons r .nil))
        exact ⟨a, vs, v, rfl, rfl, g2, by rw [line_eq, g4.1]; exact of_decide_eq_true hl, w1 F1 _ env2 st2 _ Rep.non⟩
      · exact w1.elim
theorem d_append {n : Str} {apos : Pos} (hnm : n = "append") (hN : X.N[i]? = some x) (hv : Vis X.env.scope x) (hd : (x == ("__debug__" : Str)) = false) (hcd : (x == ("__classdict__" : Str)) = false) (h : DE X L W e me)
    (hbase : attributeBase (.Name x p) n X.env (eval (.Name x p) X.env) = eval (.Name x p) X.env := by rfl)
    (hfew : ((backTo pos (starEach (e :: []) X.env)).all (fun x => !x.1) && (backToKw pos (keywordEach [] X.env)).all (fun x => x.1.isSome) && decide ((e :: []).length + ([] : List Keyword).length + (if ([] : List Keyword).isEmpty then 0 else 1) < 30)) = true := by rfl)
    (hline : (apos.endLine == pos.line) = true := by rfl) (hs : starEach (e :: []) X.env = (false, eval e X.env) :: starEach [] X.env := by rfl) (hplain : (backTo pos (starEach [] X.env)).any (·.1) = false := by rfl) (hk : L.K = X.K := by rfl) :
    DE X L W (.Call (.Attribute (.Name x p) n apos) [e] [] pos) (appendM i me) := by
  subst hnm
  obtain ⟨_, p1, s1⟩ := h.ex
  refine ⟨_, pe_bm PySem.F.plainAttrs_list PySem.F.slot_list_append PySem.F.type_list_append mt_append (pe_var hN hv hd hcd) (pa_cons p1 pa_nil hs) hbase hfew hline hs hplain, ?_⟩
  rw [← hk]; exact snd_append s1
/-- pop() -/
def popM (i : Nat) : DEnv → Res D := fun Δ => match getL Δ i with
  | none => .stuck
  | some xs => match xs.getLast? with
    | none => .stuck
    | some d => .ok d (setL Δ i xs.dropLast)
theorem snd_pop : Snd L W (tBM0 L.K "list" rPop (tVar i)) (popM i) := by
  intro σ Δ F H Q env w
  unfold popM at w
  cases q : getL Δ i with
  | none => rw [q] at w; exact w.elim
  | some xs =>
    rw [q] at w
    obtain ⟨a, vs, e1, e2, e3, e4, ty⟩ := tyV_own env q
    replace w : Want L W σ Δ F H (match xs.getLast? with | none => .stuck | some d => .ok d (setL Δ i xs.dropLast)) _ := w
    cases q1 : xs.getLast? with
    | none => rw [q1] at w; exact w.elim
    | some d =>
      rw [q1] at w
      rw [List.getLast?_eq_getElem?] at q1
      obtain ⟨v, g1, g2⟩ := e4.get q1
      obtain ⟨env2, st2⟩ := env.mut q e1 e2 e3 e4.dropLast
      exact ⟨.ref a, slot_some e1, ty, a, vs, v, rfl, rfl, e2, by rw [e4.1]; exact g1, w F _ env2 st2 v g2⟩
theorem d_pop {n : Str} {apos : Pos} (hnm : n = "pop") (hN : X.N[i]? = some x) (hv : Vis X.env.scope x) (hd : (x == ("__debug__" : Str)) = false) (hcd : (x == ("__classdict__" : Str)) = false)
    (hbase : attributeBase (.Name x p) n X.env (eval (.Name x p) X.env) = eval (.Name x p) X.env := by rfl) (hline : (apos.endLine == pos.line) = true := by rfl) (hk : L.K = X.K := by rfl) :
    DE X L W (.Call (.Attribute (.Name x p) n apos) [] [] pos) (popM i) := by
  subst hnm
  refine ⟨_, pe_bm0 PySem.F.plainAttrs_list PySem.F.slot_list_pop PySem.F.type_list_pop mt_pop (pe_var hN hv hd hcd) hbase hline, ?_⟩
  rw [← hk]; exact snd_pop
/-- reverse() -/
def reverseM (i : Nat) : DEnv → Res D := fun Δ => match getL Δ i with
  | none => .stuck
  | some xs => .ok .non (setL Δ i xs.reverse)
theorem snd_reverse : Snd L W (tBM0 L.K "list" rReverse (tVar i)) (reverseM i) := by
  intro σ Δ F H Q env w
  unfold reverseM at w
  cases q : getL Δ i with
  | none => rw [q] at w; exact w.elim
  | some xs =>
    rw [q] at w
    obtain ⟨a, vs, e1, e2, e3, e4, ty⟩ := tyV_own env q
    obtain ⟨env2, st2⟩ := env.mut q e1 e2 e3 e4.reverse
    exact ⟨.ref a, slot_some e1, ty, a, vs, rfl, rfl, e2, w F _ env2 st2 _ .non⟩
theorem d_reverse {n : Str} {apos : Pos} (hnm : n = "reverse") (hN : X.N[i]? = some x) (hv : Vis X.env.scope x) (hd : (x == ("__debug__" : Str)) = false) (hcd : (x == ("__classdict__" : Str)) = false)
    (hbase : attributeBase (.Name x p) n X.env (eval (.Name x p) X.env) = eval (.Name x p) X.env := by rfl) (hline : (apos.endLine == pos.line) = true := by rfl) (hk : L.K = X.K := by rfl) :
    DE X L W (.Call (.Attribute (.Name x p) n apos) [] [] pos) (reverseM i) := by
  subst hnm
  refine ⟨_, pe_bm0 PySem.F.plainAttrs_list PySem.F.slot_list_reverse PySem.F.type_list_reverse mt_reverse (pe_var hN hv hd hcd) hbase hline, ?_⟩
  rw [← hk]; exact snd_reverse

/-! ### slices -/
def SndO (L : Lx) (W : WX) (to : TO) (m : DEnv → Res (Option Int)) : Prop := ∀ (σ : L2.St) (Δ : DEnv) (F H : Hp) (Q : Option Int → Hp → Prop), EnvOk L F σ Δ H → Want L W σ Δ F H (m Δ) (fun o _ F' H' => Q o H') → to σ H Q
structure DO (X : Cx) (L : Lx) (W : WX) (e : Option Expr) (m : DEnv → Res (Option Int)) : Prop where ex : ∃ to, PO X e to ∧ SndO L W to m
theorem o_none : DO X L W none (fun Δ => .ok none Δ) := ⟨_, po_none, fun σ Δ F H Q env w => w F H env .refl⟩
def someM (m : DEnv → Res D) : DEnv → Res (Option Int) := fun Δ => (m Δ).bind fun d Δ1 => match d with
  | .int i => .ok (some i) Δ1
  | _ => .stuck
theorem o_some (h : DE X L W e me) : DO X L W (some e) (someM me) := by
  obtain ⟨_, p1, s1⟩ := h.ex
  refine ⟨_, po_some p1, fun σ Δ F H Q env w => s1 σ Δ F H _ env (w.bind.mono fun d Δ1 F1 H1 env1 w1 v r => ?_)⟩
  cases d with
  | int i => cases r; exact ⟨i, rfl, w1 F1 H1 env1 .refl⟩
  | _ => exact w1.elim
def cutL {α : Type} (xs : List α) (lo hi : Option Int) : List α := (xs.drop (HT.sIx xs.length 0 lo)).take (HT.sIx xs.length xs.length hi - HT.sIx xs.length 0 lo)
/-- a slice of a text -/
def slSD (d : D) (lo hi : Option Int) : Option D := match d with
  | .str z => if z.length ≤ 16777216 then some (.str (cutS z lo hi)) else none
  | _ => none
def slM {α : Type} (f : D → Option Int → Option Int → Option α) (me : DEnv → Res D) (ml mh : DEnv → Res (Option Int)) : DEnv → Res α := fun Δ => (me Δ).bind fun d Δ1 => (ml Δ1).bind fun lo Δ2 => (mh Δ2).bind fun hi Δ3 => .opt (f d lo hi) Δ3
theorem d_slS {lo hi : Option Expr} {ml mh : DEnv → Res (Option Int)} {p2 : Pos} (h : DE X L W e me) (hl : DO X L W lo ml) (hh : DO X L W hi mh) : DE X L W (.Subscript e (.Slice lo hi none p2) pos) (slM slSD me ml mh) := by
  obtain ⟨_, p1, s1⟩ := h.ex
  obtain ⟨_, q2, s2⟩ := hl.ex
  obtain ⟨_, q3, s3⟩ := hh.ex
  refine ⟨_, pe_slice sl_str p1 q2 q3, fun σ Δ F H Q env w => ?_⟩
  refine s1 σ Δ F H _ env (w.bind.mono fun d Δ1 F1 H1 env1 w1 v r => ?_)
  refine s2 σ Δ1 F1 H1 _ env1 (w1.bind.mono fun lo Δ2 F2 H2 env2 w2 => ?_)
  refine s3 σ Δ2 F2 H2 _ env2 (w2.bind.mono fun hi Δ3 F3 H3 env3 w3 => ?_)
  cases d with
  | str z =>
    cases r
    replace w3 : Want L W σ Δ3 F3 H3 (.opt (if z.length ≤ 16777216 then some (D.str (cutS z lo hi)) else none) Δ3) _ := w3
    split at w3
    · rename_i hl; exact ⟨z, rfl, by rw [line_eq]; exact hl, w3 F3 H3 env3 .refl _ (Rep.str _)⟩
    · exact w3.elim
  | _ => exact w3.elim
theorem cutL_reps {vs : List V} {ds : List D} (h : Reps L.K F vs ds) (lo hi : Option Int) : Reps L.K F (cutV vs lo hi) (cutL ds lo hi) := by
  unfold cutV cutL
  rw [h.1]
  exact (h.drop _).take _
def slLD (d : D) (lo hi : Option Int) : Option (List D) := match d with
  | .lst ds => some (cutL ds lo hi)
  | _ => none
/-- a slice of a list that a name holds -/
def slV (i : Nat) (ml mh : DEnv → Res (Option Int)) : DEnv → Res (List D) := fun Δ => match rdR Δ i with
  | none => .stuck
  | some _ => (ml Δ).bind fun lo Δ2 => (mh Δ2).bind fun hi Δ3 => .opt ((rdR Δ3 i).bind fun d => slLD d lo hi) Δ3
/-- the step so far is kept in hand -/
theorem Want.keep {α : Type} {r : Res α} {Q : α → DEnv → Hp → Hp → Prop} (h : Want L W σ Δ F H r (fun a Δ' F' H' => Step σ Δ F H σ Δ' F' H' → Q a Δ' F' H')) : Want L W σ Δ F H r Q := by
  cases r with
  | stuck => exact h
  | ex x Δ' => exact h
  | ok a Δ1 => exact fun F1 H1 e s => h F1 H1 e s s
theorem Want.from {α : Type} {r : Res α} {Q : α → DEnv → Hp → Hp → Prop} (h : Want L W σ Δ F H r Q) (s : Step σ Δ F H σ Δ1 F1 H1) : Want L W σ Δ1 F1 H1 r Q := by
  cases r with
  | stuck => exact h
  | ex x Δ' => exact fun c dd F2 H2 e t xo => h c dd F2 H2 e (s.trans t) xo
  | ok a Δ2 => exact fun F2 H2 e t => h F2 H2 e (s.trans t)
theorem f_slV {lo hi : Option Expr} {ml mh : DEnv → Res (Option Int)} {p2 : Pos} (hN : X.N[i]? = some x) (hv : Vis X.env.scope x) (hd : (x == ("__debug__" : Str)) = false) (hcd : (x == ("__classdict__" : Str)) = false) (hl : DO X L W lo ml) (hh : DO X L W hi mh) :
    DF X L W (.Subscript (.Name x p) (.Slice lo hi none p2) pos) (slV i ml mh) := by
  obtain ⟨_, q2, s2⟩ := hl.ex
  obtain ⟨_, q3, s3⟩ := hh.ex
  refine ⟨_, pe_slice sl_list (pe_var hN hv hd hcd) q2 q3, fun σ Δ F H Q env w => ?_⟩
  unfold slV at w
  cases q0 : rdR Δ i with
  | none => rw [q0] at w; exact w.elim
  | some d0 =>
    rw [q0] at w
    obtain ⟨v, e1, _⟩ := env.rd q0
    replace w : Want L W σ Δ F H ((ml Δ).bind fun lo Δ2 => (mh Δ2).bind fun hi Δ3 => .opt ((rdR Δ3 i).bind fun d => slLD d lo hi) Δ3) _ := w
    refine ⟨v, slot_some e1, s2 σ Δ F H _ env (Want.keep (w.bind.mono fun lo Δ2 F2 H2 env2 w2 st2 => ?_))⟩
    refine s3 σ Δ2 F2 H2 _ env2 (Want.keep (w2.bind.mono fun hi Δ3 F3 H3 env3 w3 st3 => ?_))
    cases q1 : rdR Δ3 i with
    | none => rw [q1] at w3; exact w3.elim
    | some d =>
      rw [q1, Option.bind_some] at w3
      obtain ⟨v', e2, rv⟩ := env3.rd q1
      rw [e1] at e2; cases e2
      cases d with
      | lst ds =>
        obtain ⟨a, vs, rfl, h1, h2⟩ := rv.lst env3.ex
        have rr := cutL_reps h2 lo hi
        refine ⟨a, vs, rfl, SqL.of h1, fun p hp => ?_⟩
        obtain ⟨a1, a2, a3, a4⟩ := fresh_env (vs := cutV vs lo hi) env3 hp
        exact w3 F3 _ a1 a2 p _ ((st2.trans st3).hn hp) a3 a4 upd_same rr
      | _ => exact w3.elim
end
end KL
/-! KL, part g: comprehensions, defs and their calls. -/
namespace KL
open PySem L2

/-! ### comprehensions: the block's own slots vs are empty within, and as they were behind -/
def wipeD (Δ : DEnv) : List Nat → DEnv
  | [] => Δ
  | v :: vs => (wipeD Δ vs).set v .no
def restD (Δ Δ' : DEnv) : List Nat → DEnv
  | [] => Δ'
  | v :: vs => match Δ[v]? with
    | some c => (restD Δ Δ' vs).set v c
    | none => restD Δ Δ' vs
def plainC : Option Cell → Bool
  | some .no => true
  | some (.va _) => true
  | _ => false
section
variable {X : Cx} {L : Lx} {W : WX} {σ σ' σ1 σ2 : L2.St} {Δ Δ' Δ1 : DEnv} {F F' F1 H H' H1 : Hp} {E : Ends}
theorem wipeD_get {vs : List Nat} {j : Nat} : (wipeD Δ vs)[j]? = if j ∈ vs ∧ j < Δ.length then some .no else Δ[j]? := by
  have len : ∀ us, (wipeD Δ us).length = Δ.length := fun us => by
    induction us with
    | nil => rfl
    | cons u us ih => rw [wipeD, List.length_set]; exact ih
  induction vs with
  | nil => simp [wipeD]
  | cons v vs ih =>
    rw [wipeD]
    by_cases hj : v = j
    · subst hj
      by_cases hl : v < Δ.length
      · rw [List.getElem?_set_self (by rw [len]; exact hl), if_pos ⟨by simp, hl⟩]
      · rw [List.getElem?_eq_none (by rw [List.length_set, len]; omega), if_neg (fun z => hl z.2), List.getElem?_eq_none (by omega)]
    · rw [List.getElem?_set_ne hj, ih]
      by_cases hm : j ∈ vs ∧ j < Δ.length
      · rw [if_pos hm, if_pos ⟨by simp [hm.1], hm.2⟩]
      · rw [if_neg hm, if_neg (fun z => hm ⟨by simpa [Ne.symm hj] using z.1, z.2⟩)]
theorem wipeD_len (vs : List Nat) : (wipeD Δ vs).length = Δ.length := by
  induction vs with
  | nil => rfl
  | cons u us ih => rw [wipeD, List.length_set]; exact ih
theorem restD_len (vs : List Nat) : (restD Δ Δ' vs).length = Δ'.length := by
  induction vs with
  | nil => rfl
  | cons u us ih =>
    rw [restD]
    split
    · rw [List.length_set]; exact ih
    · exact ih
theorem restD_get {vs : List Nat} {j : Nat} (hl : Δ'.length = Δ.length) : (restD Δ Δ' vs)[j]? = if j ∈ vs then Δ[j]? else Δ'[j]? := by
  induction vs with
  | nil => simp [restD]
  | cons v vs ih =>
    rw [restD]
    by_cases hj : v = j
    · subst hj
      rw [if_pos (by simp)]
      cases q : Δ[v]? with
      | some c =>
        have hv := (List.getElem?_eq_some_iff.mp q).1
        show ((restD Δ Δ' vs).set v c)[v]? = _
        rw [List.getElem?_set_self (by rw [restD_len, hl]; exact hv)]
      | none =>
        show (restD Δ Δ' vs)[v]? = _
        have := List.getElem?_eq_none_iff.mp q
        rw [List.getElem?_eq_none (by rw [restD_len, hl]; exact this)]
    · have e : (match Δ[v]? with | some c => (restD Δ Δ' vs).set v c | none => restD Δ Δ' vs)[j]? = (restD Δ Δ' vs)[j]? := by
        split
        · rw [List.getElem?_set_ne hj]
        · rfl
      rw [e, ih]
      by_cases hm : j ∈ vs
      · rw [if_pos hm, if_pos (by simp [hm])]
      · rw [if_neg hm, if_neg (by simp [hm, Ne.symm hj])]
theorem wipe_slot {vs : List Nat} {j : Nat} : slot (wipe σ vs) j = if j ∈ vs then none else slot σ j := by
  induction vs with
  | nil => simp [wipe]
  | cons v vs ih =>
    rw [wipe]
    by_cases hj : v = j
    · subst hj
      rw [if_pos (by simp)]
      unfold slot
      by_cases hl : v < (wipe σ vs).length
      · rw [List.getElem?_set_self hl]; rfl
      · rw [List.getElem?_eq_none (by rw [List.length_set]; omega)]; rfl
    · have e : slot ((wipe σ vs).set v none) j = slot (wipe σ vs) j := by unfold slot; rw [List.getElem?_set_ne hj]
      rw [e, ih]
      by_cases hm : j ∈ vs
      · rw [if_pos hm, if_pos (by simp [hm])]
      · rw [if_neg hm, if_neg (by simp [hm, Ne.symm hj])]
theorem wipe_slot_eq {vs : List Nat} (h : wipe σ2 vs = wipe σ vs) {j : Nat} (hj : j ∉ vs) : slot σ2 j = slot σ j := by
  have a := wipe_slot (σ := σ2) (vs := vs) (j := j)
  have b := wipe_slot (σ := σ) (vs := vs) (j := j)
  rw [if_neg hj] at a b
  rw [← a, ← b, h]
theorem EnvOk.wipe {vs : List Nat} (env : EnvOk L F σ Δ H) : EnvOk L F (wipe σ vs) (wipeD Δ vs) H := by
  have get : ∀ (j : Nat) c, (wipeD Δ vs)[j]? = some c → c = .no ∨ (j ∉ vs ∧ Δ[j]? = some c) := fun j c h => by
    rw [wipeD_get] at h
    split at h
    · cases h; exact .inl rfl
    · rename_i hn
      refine .inr ⟨fun z => hn ⟨z, (List.getElem?_eq_some_iff.mp h).1⟩, h⟩
  refine ⟨env.ex, by rw [wipe_length, wipeD_len]; exact env.len, fun j c hc => ?_, fun j k c c' xs ys a hjk hj hk h1 h2 e1 e2 => ?_⟩
  · rcases get j c hc with rfl | ⟨n, h⟩
    · trivial
    · rw [wipe_slot, if_neg n]; exact env.cells j c h
  · rcases get j c hj with rfl | ⟨n1, g1⟩
    · cases h1
    · rcases get k c' hk with rfl | ⟨n2, g2⟩
      · cases h2
      · rw [wipe_slot, if_neg n1] at e1
        rw [wipe_slot, if_neg n2] at e2
        exact env.apart j k c c' xs ys a hjk g1 g2 h1 h2 e1 e2
theorem own_wipe {vs : List Nat} {b : Addr} (h : Own (wipe σ vs) (wipeD Δ vs) b) : Own σ Δ b := by
  obtain ⟨j, c, xs, h1, h2, h3⟩ := h
  rw [wipeD_get] at h1
  split at h1
  · cases h1; cases h2
  · rename_i hn
    have n : j ∉ vs := fun z => hn ⟨z, (List.getElem?_eq_some_iff.mp h1).1⟩
    rw [wipe_slot, if_neg n] at h3
    exact ⟨j, c, xs, h1, h2, h3⟩
theorem own_unwipe {vs : List Nat} {b : Addr} (hp : ∀ v ∈ vs, plainC Δ[v]? = true) (h : Own σ Δ b) : Own (wipe σ vs) (wipeD Δ vs) b := by
  obtain ⟨j, c, xs, h1, h2, h3⟩ := h
  have n : j ∉ vs := fun z => by
    have := hp j z
    rw [h1] at this
    cases c with
    | owv _ => exact Bool.noConfusion (show false = true from this)
    | pav _ => exact Bool.noConfusion (show false = true from this)
    | _ => cases h2
  refine ⟨j, c, xs, ?_, h2, by rw [wipe_slot, if_neg n]; exact h3⟩
  rw [wipeD_get, if_neg (fun z => n z.1)]; exact h1
/-- behind a turn of the block -/
theorem EnvOk.rest {vs : List Nat} {Δ2 : DEnv} {F2 H2 : Hp} (hp : ∀ v ∈ vs, plainC Δ[v]? = true) (env : EnvOk L F σ Δ H) (st : Step (L2.wipe σ vs) (wipeD Δ vs) F H σ2 Δ2 F2 H2) (env2 : EnvOk L F2 σ2 Δ2 H2) (hw : L2.wipe σ2 vs = L2.wipe σ vs) :
    EnvOk L F2 σ (restD Δ Δ2 vs) H2 ∧ Step σ Δ F H σ (restD Δ Δ2 vs) F2 H2 := by
  have hl : Δ2.length = Δ.length := by
    rw [← env2.len, ← env.len, ← wipe_length σ2 vs, hw, wipe_length]
  have cell : ∀ (j : Nat) c, (restD Δ Δ2 vs)[j]? = some c → (j ∈ vs ∧ Δ[j]? = some c ∧ c.own? = none) ∨ (j ∉ vs ∧ Δ2[j]? = some c) := fun j c h => by
    rw [restD_get hl] at h
    split at h
    · rename_i hj
      have := hp j hj
      rw [h] at this
      exact .inl ⟨hj, h, by cases c <;> first | rfl | cases this⟩
    · rename_i hj; exact .inr ⟨hj, h⟩
  refine ⟨⟨env2.ex, by rw [restD_len, hl]; exact env.len, fun j c hc => ?_, fun j k c c' xs ys a hjk hj hk h1 h2 e1 e2 => ?_⟩, ?_⟩
  · rcases cell j c hc with ⟨h1, h2, h3⟩ | ⟨h1, h2⟩
    · have q := env.cells j c h2
      have := hp j h1
      rw [h2] at this
      cases c with
      | no => trivial
      | va d => obtain ⟨v, g1, g2⟩ := q; exact ⟨v, g1, g2.mono st.fr⟩
      | _ => cases this
    · rw [← wipe_slot_eq hw h1]; exact env2.cells j c h2
  · rcases cell j c hj with ⟨g1, g2, g3⟩ | ⟨g1, g2⟩
    · rw [g3] at h1; cases h1
    · rcases cell k c' hk with ⟨g4, g5, g6⟩ | ⟨g4, g5⟩
      · rw [g6] at h2; cases h2
      · rw [← wipe_slot_eq hw g1] at e1
        rw [← wipe_slot_eq hw g4] at e2
        exact env2.apart j k c c' xs ys a hjk g2 g5 h1 h2 e1 e2
  · refine ⟨st.fr, fun b o h n => st.kp b o h fun z => n (own_wipe z), fun b o h => ?_, fun b ⟨j, c, xs, hj, h1, e1⟩ => ?_, fun j xs hj => ?_, fun j xs hj => ?_, st.th⟩
    · rcases st.fn b o h with z | z | z
      · exact .inl z
      · exact .inr (.inl z)
      · exact .inr (.inr (own_wipe z))
    · rcases cell j c hj with ⟨g1, g2, g3⟩ | ⟨g1, g2⟩
      · rw [g3] at h1; cases h1
      · rcases st.ow b ⟨j, c, xs, g2, h1, by rw [wipe_slot_eq hw g1]; exact e1⟩ with z | z
        · exact .inl (own_wipe z)
        · exact .inr z
    · have n : j ∉ vs := fun z => by have := hp j z; rw [hj] at this; cases this
      obtain ⟨xs', g1, g2⟩ := st.pa j xs (by rw [wipeD_get, if_neg (fun z => n z.1)]; exact hj)
      exact ⟨xs', by rw [restD_get hl, if_neg n]; exact g1, rfl⟩
    · rcases cell j _ hj with ⟨g1, g2, g3⟩ | ⟨g1, g2⟩
      · cases g3
      · obtain ⟨xs', g3⟩ := st.pb j xs g2
        rw [wipeD_get, if_neg (fun z => g1 z.1)] at g3
        exact ⟨xs', g3⟩
def compM (vs : List Nat) (tgt : D → DEnv → Option DEnv) (cond : DEnv → Res Bool) (elt : DEnv → Res D) : List D → List D → DEnv → Res (List D)
  | [], acc, Δ => .ok acc Δ
  | d :: ds, acc, Δ => match tgt d (wipeD Δ vs) with
    | none => .stuck
    | some Δ1 => (cond Δ1).nox.bind fun b Δ2 => if b = true then (elt Δ2).nox.bind fun y Δ3 => compM vs tgt cond elt ds (acc ++ [y]) (restD Δ Δ3 vs) else compM vs tgt cond elt ds acc (restD Δ Δ2 vs)
/-- guards: the block's slots hold no own list; the list stays below the line -/
def lcM (vs : List Nat) (mi : DEnv → Res (List D)) (tgt : D → DEnv → Option DEnv) (cond : DEnv → Res Bool) (elt : DEnv → Res D) : DEnv → Res (List D) := fun Δ => (mi Δ).bind fun ds Δ1 => gd (decide (ds.length < 16777216) && vs.all fun v => plainC Δ1[v]?) (compM vs tgt cond elt ds [] Δ1)
abbrev WF : WX := fun _ _ _ _ => False
/-- the parts of a block are told at the block's frame, what is wanted at the one around -/
theorem Want.cross {α β : Type} {W' : WX} {Δ3 : DEnv} {F3 H3 : Hp} {r : Res α} {f : α → DEnv → Res β} {Q : β → DEnv → Hp → Hp → Prop} (h : Want L W σ Δ F H (r.nox.bind f) Q) :
    Want L W' σ2 Δ3 F3 H3 r (fun a Δ4 F4 H4 => Step σ2 Δ3 F3 H3 σ2 Δ4 F4 H4 → Want L W σ Δ F H (f a Δ4) Q) := by
  cases r with
  | stuck => exact h
  | ex x Δ' => exact h.elim
  | ok a Δ1 => exact fun F1 H1 e s _ => h
theorem Step.hid {Dl : Addr} {o : HO} (s : Step σ Δ F H σ1 Δ1 F1 H1) (hD : H Dl = none) : Step σ Δ F H σ1 Δ1 F1 (upd H1 Dl o) :=
  ⟨s.fr, fun b u h n => by rw [upd_ne (ne_of_none h hD)]; exact s.kp b u h n, s.fn, s.ow, s.pa, s.pb, fun b u h => by rw [upd_ne (ne_of_none h hD)]; exact s.th b u h⟩
theorem EnvOk.hid {Dl : Addr} {o : HO} (env : EnvOk L F σ Δ H) (ho : ¬ Own σ Δ Dl) (hf : F Dl = none) : EnvOk L F σ Δ (upd H Dl o) := by
  refine ⟨fun b u h => by rw [upd_ne (ne_of_none h hf)]; exact env.ex b u h, env.len, fun i c hc => ?_, env.apart⟩
  have k := env.cells i c hc
  have keep : ∀ us, c.own? = some us → (∃ b u, slot σ i = some (.ref b) ∧ H b = some u ∧ F b = none ∧ OwnOk L.K F u us) → ∃ b u, slot σ i = some (.ref b) ∧ upd H Dl o b = some u ∧ F b = none ∧ OwnOk L.K F u us := by
    rintro us hu ⟨b, ws', g1, g2, g3, g4⟩
    refine ⟨b, ws', g1, ?_, g3, g4⟩
    rw [upd_ne (fun z => ho ⟨i, c, us, hc, hu, by rw [← z]; exact g1⟩)]; exact g2
  cases c with
  | no => trivial
  | va d => exact k
  | owv us => exact keep us rfl k
  | pav us => exact keep us rfl k
  | xc x => exact k
theorem restD_plain {vs : List Nat} {Δ2 : DEnv} (hl : Δ2.length = Δ.length) (hp : ∀ v ∈ vs, plainC Δ[v]? = true) : ∀ v ∈ vs, plainC (restD Δ Δ2 vs)[v]? = true := fun v hv => by
  rw [restD_get hl, if_pos hv]; exact hp v hv

variable {tg iter elt : Expr} {ifs : List Expr} {scope : Scope} {own : List (Str × Nat)} {pos : Pos} {mi : DEnv → Res (List D)} {tgt : D → DEnv → Option DEnv} {mc : DEnv → Res Bool} {me : DEnv → Res D}
structure DTs (X : Cx) (L : Lx) (W : WX) (es : List Expr) (m : DEnv → Res Bool) : Prop where ex : ∃ tt, PTs X es tt ∧ SndT L W tt m
theorem ts_nil : DTs X L W [] (fun Δ => .ok true Δ) := ⟨_, pts_nil, fun σ Δ F H Q env w => w F H env .refl⟩
theorem ts_one {c : Expr} (h : DT X L W c mc) : DTs X L W [c] mc := ⟨let ⟨_, p1, s1⟩ := h.ex; ⟨_, pts_one p1, s1⟩⟩
/-- a target within the block's own slots -/
def TgIn (vs : List Nat) (g : TG) : Prop := ∀ (σw : L2.St) (v : V) (σ' : L2.St) (H : Hp) (Q : L2.St → Hp → Prop), wipe σ' vs = σw → g v σ' H (fun σ2 H2 => wipe σ2 vs = σw → Q σ2 H2) → g v σ' H fun σ2 H2 => wipe σ2 vs = σw ∧ Q σ2 H2
def TgsIn (vs : List Nat) (g : TGs) : Prop := ∀ (σw : L2.St) (us : List V) (σ' : L2.St) (H : Hp) (Q : L2.St → Hp → Prop), wipe σ' vs = σw → g us σ' H (fun σ2 H2 => wipe σ2 vs = σw → Q σ2 H2) → g us σ' H fun σ2 H2 => wipe σ2 vs = σw ∧ Q σ2 H2
theorem wipe_get {vs : List Nat} {j : Nat} : (wipe σ vs)[j]? = if j ∈ vs ∧ j < σ.length then some none else σ[j]? := by
  induction vs with
  | nil => simp [wipe]
  | cons v vs ih =>
    rw [wipe]
    by_cases hj : v = j
    · subst hj
      by_cases hl : v < σ.length
      · rw [List.getElem?_set_self (by rw [wipe_length]; exact hl), if_pos ⟨by simp, hl⟩]
      · rw [List.getElem?_eq_none (by rw [List.length_set, wipe_length]; omega), if_neg (fun z => hl z.2), List.getElem?_eq_none (by omega)]
    · rw [List.getElem?_set_ne hj, ih]
      by_cases hm : j ∈ vs ∧ j < σ.length
      · rw [if_pos hm, if_pos ⟨by simp [hm.1], hm.2⟩]
      · rw [if_neg hm, if_neg (fun z => hm ⟨by simpa [Ne.symm hj] using z.1, z.2⟩)]
theorem wipe_set {vs : List Nat} {i : Nat} {x : Option V} (hi : i ∈ vs) : wipe (σ.set i x) vs = wipe σ vs := by
  apply List.ext_getElem?
  intro j
  rw [wipe_get, wipe_get, List.length_set]
  by_cases hm : j ∈ vs ∧ j < σ.length
  · rw [if_pos hm, if_pos hm]
  · rw [if_neg hm, if_neg hm]
    by_cases hj : i = j
    · subst hj
      have : ¬ i < σ.length := fun z => hm ⟨hi, z⟩
      rw [List.getElem?_eq_none (by rw [List.length_set]; omega), List.getElem?_eq_none (by omega)]
    · rw [List.getElem?_set_ne hj]
theorem wipe_wipe {vs : List Nat} : wipe (wipe σ vs) vs = wipe σ vs := by
  apply List.ext_getElem?
  intro j
  rw [wipe_get, wipe_length]
  by_cases hm : j ∈ vs ∧ j < σ.length
  · rw [if_pos hm, wipe_get, if_pos hm]
  · rw [if_neg hm]
theorem tgin_name {vs : List Nat} {i : Nat} (hi : i ∈ vs) : TgIn vs (gName i) := fun σw v σ' H Q h q => by
  have e : wipe (σ'.set i (some v)) vs = σw := by rw [wipe_set hi]; exact h
  exact ⟨e, q e⟩
theorem tgsin_nil {vs : List Nat} : TgsIn vs gNil := fun σw us σ' H Q h q => ⟨q.1, h, q.2 h⟩
theorem tgsin_cons {vs : List Nat} {g : TG} {gs : TGs} (h : TgIn vs g) (hs : TgsIn vs gs) (mono : ∀ (v : V) (σ' : L2.St) (H : Hp) (Q Q' : L2.St → Hp → Prop), (∀ σ2 H2, Q σ2 H2 → Q' σ2 H2) → g v σ' H Q → g v σ' H Q') : TgsIn vs (gCons g gs) := fun σw us σ' H Q e q => by
  obtain ⟨v, r, h1, h2⟩ := q
  exact ⟨v, r, h1, mono _ _ _ _ _ (fun σ2 H2 z => hs σw r σ2 H2 Q z.1 z.2) (h σw v σ' H _ e (mono _ _ _ _ _ (fun σ2 H2 z _ => z) h2))⟩
theorem tgin_tup {vs : List Nat} {K : PySem.W.Frag} {n : Nat} {gs : TGs} (hs : TgsIn vs gs) : TgIn vs (gTup K n gs) := fun σw v σ' H Q e q => by
  obtain ⟨a, xs, h1, h2, h3, h4⟩ := q
  exact ⟨a, xs, h1, h2, h3, hs σw xs σ' H Q e h4⟩
/-- what a turn's parts mean, whatever the block's frame is -/
theorem snd_lc {wi : TI} {g : TG} {tt : TT} {te : TE} {vs : List Nat} (hi : SndI L W wi mi) (hg : SndG L g tgt) (ht : SndT L WF tt mc) (he : Snd L WF te me) (hgw : TgIn vs g) :
    SndF L W (tLc wi g tt te vs) (lcM vs mi tgt mc me) := by
  intro σ Δ F H Q env w
  refine hi σ Δ F H _ env ?_
  replace w : Want L W σ Δ F H ((mi Δ).bind fun ds Δ1 => gd (decide (ds.length < 16777216) && vs.all fun v => plainC Δ1[v]?) (compM vs tgt mc me ds [] Δ1)) _ := w
  cases qi : mi Δ with
  | stuck => rw [qi] at w; exact w
  | ex x Δ' => rw [qi] at w; exact w
  | ok ds Δ1 =>
  rw [qi] at w
  intro F1 H1 env1 st1 J hJ Dl hD
  replace w : Want L W σ Δ F H (gd (decide (ds.length < 16777216) && vs.all fun v => plainC Δ1[v]?) (compM vs tgt mc me ds [] Δ1)) _ := w
  unfold gd at w
  split at w
  case isFalse => exact w.elim
  rename_i hgd
  obtain ⟨hz, hpl⟩ := Bool.and_eq_true_iff.mp hgd
  have hz := of_decide_eq_true hz
  have hpl : ∀ v ∈ vs, plainC Δ1[v]? = true := List.all_eq_true.mp hpl
  have hD0 := st1.hn hD
  obtain ⟨a1, a2, a3, a4⟩ := fresh_env (vs := []) env1 hD
  refine ⟨fun i k H' => k = ds.length - i ∧ i ≤ ds.length ∧ ∃ Δ' F' accv acc, Ex F1 F' ∧ EnvOk L F' σ Δ' H' ∧ Step σ Δ F H σ Δ' F' H' ∧ (∀ v ∈ vs, plainC Δ'[v]? = true) ∧ H' Dl = some (.lst accv) ∧ F' Dl = none ∧ ¬ Own σ Δ' Dl ∧ Reps L.K F' accv acc ∧ acc.length ≤ i ∧
      Want L W σ Δ F H (compM vs tgt mc me (ds.drop i) acc Δ') (fun ds Δ' F' H' => ∀ p vs, H p = none → ¬ Own σ Δ' p → F' p = none → H' p = some (.lst vs) → Reps L.K F' vs ds → Q (.ref p) H'),
    ⟨_, rfl, Nat.zero_le _, Δ1, F1, [], [], Ex.refl _, a1, st1.trans a2, hpl, upd_same, a4, a3, .nil, Nat.le_refl _, w⟩, ?_⟩
  rintro i k H' ⟨rfl, hi, Δ', F', accv, acc, ex, env', st', hpl', hDl, hFl, hOl, hrep, hlen, w'⟩
  obtain ⟨j1, j2⟩ := hJ i F' H' ex env'.ex
  by_cases hlt : i < ds.length
  case neg =>
    have e : i = ds.length := by omega
    subst e
    rw [List.drop_length] at w'
    exact .inl ⟨j2 (Nat.le_refl _), w' F' H' env' st' Dl accv hD0 hOl hFl hDl hrep⟩
  obtain ⟨go, yl⟩ := j1 _ (List.getElem?_eq_getElem hlt)
  refine .inr ⟨go, fun H2 => ∃ Δ' F' accv acc, Ex F1 F' ∧ EnvOk L F' σ Δ' H2 ∧ Step σ Δ F H σ Δ' F' H2 ∧ (∀ v ∈ vs, plainC Δ'[v]? = true) ∧ H2 Dl = some (.lst accv) ∧ F' Dl = none ∧ ¬ Own σ Δ' Dl ∧ Reps L.K F' accv acc ∧ acc.length ≤ i + 1 ∧
      Want L W σ Δ F H (compM vs tgt mc me (ds.drop (i + 1)) acc Δ') (fun ds Δ' F' H' => ∀ p vs, H p = none → ¬ Own σ Δ' p → F' p = none → H' p = some (.lst vs) → Reps L.K F' vs ds → Q (.ref p) H'), fun H2 q => ⟨_, by omega, rfl, hlt, q⟩, fun x H'' y => ?_⟩
  obtain ⟨F'', gr, rx⟩ := yl x H'' y
  have env2 := env'.gro gr
  have stg : Step σ Δ' F' H' σ Δ' F'' H'' := Step.gro gr
  have hDl2 : H'' Dl = some (.lst accv) := gr.h _ _ hDl
  have hFl2 : F'' Dl = none := by
    cases q : F'' Dl with
    | none => rfl
    | some o => rcases gr.n Dl o q with z | z
                · rw [hFl] at z; cases z
                · rw [hDl] at z; cases z
  rw [List.drop_eq_getElem_cons hlt] at w'
  unfold compM at w'
  cases qt : tgt ds[i] (wipeD Δ' vs) with
  | none => rw [qt] at w'; exact w'.elim
  | some Δ3 =>
    rw [qt] at w'
    refine hgw _ x _ H'' _ wipe_wipe (hg (wipe σ vs) (wipeD Δ' vs) Δ3 F'' H'' x _ _ env2.wipe rx qt fun σ3 env3 st3 hw => ?_)
    -- the end of a turn: the frame around, from the block's
    have fin : ∀ {Δ5 : DEnv} {F5 H5 : Hp}, EnvOk L F5 σ3 Δ5 H5 → Step σ3 Δ3 F'' H'' σ3 Δ5 F5 H5 → EnvOk L F5 σ (restD Δ' Δ5 vs) H5 ∧ Step σ Δ F H σ (restD Δ' Δ5 vs) F5 H5 ∧ (∀ v ∈ vs, plainC (restD Δ' Δ5 vs)[v]? = true) ∧
        H5 Dl = some (.lst accv) ∧ F5 Dl = none ∧ ¬ Own σ (restD Δ' Δ5 vs) Dl ∧ Ex F' F5 := fun {Δ5 F5 H5} env5 st5 => by
      have stA := st3.trans st5
      obtain ⟨r1, r2⟩ := EnvOk.rest hpl' env2 stA env5 hw
      have hOw : ¬ Own (wipe σ vs) (wipeD Δ' vs) Dl := fun z => hOl (own_wipe z)
      have r3 : H5 Dl = some (.lst accv) := stA.kp Dl _ hDl2 hOw
      refine ⟨r1, (st'.trans stg).trans r2, restD_plain (by rw [← env5.len, ← env'.len, ← wipe_length σ3 vs, hw, wipe_length]) hpl', r3, ?_, fun z => ?_, gr.f.trans stA.fr⟩
      · cases q : F5 Dl with
        | none => rfl
        | some o =>
          rcases stA.fn Dl o q with z | z | z
          · rw [hFl2] at z; cases z
          · rw [hDl2] at z; cases z
          · exact absurd z hOw
      · rcases r2.ow Dl z with y | y
        · exact hOl y
        · rw [hDl2] at y; cases y
    refine ht σ3 Δ3 F'' H'' _ env3 (Want.keep ((Want.cross w').mono fun b Δ4 F4 H4 env4 wb st4 => ?_))
    have w4 := wb st4
    cases b with
    | false =>
      obtain ⟨r1, r2, r3, r4, r5, r6, r7⟩ := fin env4 st4
      exact ⟨_, F4, accv, acc, ex.trans r7, r1, r2, r3, r4, r5, r6, hrep.mono r7, by omega, w4⟩
    | true =>
      refine he σ3 Δ4 F4 H4 _ env4 (Want.keep ((Want.cross w4).mono fun y Δ5 F5 H5 env5 wy st5 v rv => ?_))
      have w5 := wy st5
      obtain ⟨r1, r2, r3, r4, r5, r6, r7⟩ := fin env5 (st4.trans st5)
      refine ⟨accv, r4, by rw [line_eq, hrep.1]; omega, ?_⟩
      exact ⟨_, F5, accv ++ [v], acc ++ [y], ex.trans r7, r1.hid r6 r5, r2.hid hD0, r3, upd_same, r5, r6, (hrep.mono r7).append (.cons rv .nil), by rw [List.length_append, List.length_singleton]; omega, w5⟩

/-! ### one reading for all places -/
def teM (L : Lx) (W : WX) (m : DEnv → Res D) : TE := fun σ H Q => ∃ Δ F, EnvOk L F σ Δ H ∧ Want L W σ Δ F H (m Δ) (fun d _ F' H' => ∀ v, Rep L.K F' v d → Q v H')
def ttM (L : Lx) (W : WX) (m : DEnv → Res Bool) : TT := fun σ H Q => ∃ Δ F, EnvOk L F σ Δ H ∧ Want L W σ Δ F H (m Δ) (fun b _ F' H' => Q b H')
theorem DE.one {e : Expr} {m : DEnv → Res D} (h : DE X L W e m) : PE X e (teM L W m) := by
  obtain ⟨te, p, s⟩ := h.ex
  exact ⟨fun pins s0 σ H Q I q => by obtain ⟨Δ, F, env, w⟩ := q; exact p.run pins s0 σ H Q I (s σ Δ F H Q env w)⟩
theorem DTs.one {es : List Expr} {m : DEnv → Res Bool} (h : DTs X L W es m) : PTs X es (ttM L W m) := by
  obtain ⟨te, p, s⟩ := h.ex
  exact ⟨fun pins s0 σ H Q I q => by obtain ⟨Δ, F, env, w⟩ := q; exact p.run pins s0 σ H Q I (s σ Δ F H Q env w)⟩
theorem snd_teM {m : DEnv → Res D} : Snd L W (teM L W m) m := fun σ Δ F H Q env w => ⟨Δ, F, env, w⟩
theorem snd_ttM {m : DEnv → Res Bool} : SndT L W (ttM L W m) m := fun σ Δ F H Q env w => ⟨Δ, F, env, w⟩
/-- a block's target -/
structure BG (X : Cx) (scope : Scope) (L : Lx) (vs : List Nat) (tg : Expr) (tgt : D → DEnv → Option DEnv) : Prop where
  ex : ∃ g, (∀ (s : Shared) (H : Hp) (C : Addr) (cl : List (Str × Addr)) (fp : List Addr), PG (X.blk s H scope (compEnvC scope cl C X.env) fp) tg g) ∧ SndG L g tgt ∧ TgIn vs g ∧ ∀ (v : V) (σ' : L2.St) (H : Hp) (Q Q' : L2.St → Hp → Prop), (∀ σ2 H2, Q σ2 H2 → Q' σ2 H2) → g v σ' H Q → g v σ' H Q'
structure BGs (X : Cx) (scope : Scope) (L : Lx) (vs : List Nat) (tgs : List Expr) (tgt : List D → DEnv → Option DEnv) : Prop where
  ex : ∃ g, (∀ (s : Shared) (H : Hp) (C : Addr) (cl : List (Str × Addr)) (fp : List Addr), PGs (X.blk s H scope (compEnvC scope cl C X.env) fp) tgs g) ∧ SndGs L g tgt ∧ TgsIn vs g ∧ ∀ (us : List V) (σ' : L2.St) (H : Hp) (Q Q' : L2.St → Hp → Prop), (∀ σ2 H2, Q σ2 H2 → Q' σ2 H2) → g us σ' H Q → g us σ' H Q'
theorem sndg_name {i : Nat} : SndG L (gName i) (tgN i) := fun σ Δ Δ' F H v d Q env r ht q => by
  unfold tgN at ht
  split at ht
  · rename_i hi; cases ht
    exact q _ (env.setC hi ⟨v, rfl, r⟩ fun xs a h _ => by cases h) (Step.setC .refl env.len hi (fun xs h => by cases h) fun xs h => by cases h)
  · cases ht
theorem b_name {i : Nat} {x : Str} {vs : List Nat} {pos : Pos} (hN : X.N.Nodup) (hi : X.N[i]? = some x) (hx : ∀ (s : Shared) (H : Hp) (C : Addr) (cl : List (Str × Addr)) (fp : List Addr), Loc (X.blk s H scope (compEnvC scope cl C X.env) fp).env.scope x)
    (hf : ∀ (s : Shared) (H : Hp) (C : Addr) (cl : List (Str × Addr)) (fp : List Addr), (X.blk s H scope (compEnvC scope cl C X.env) fp).fn x = true ∨ (X.blk s H scope (compEnvC scope cl C X.env) fp).env.scope.names.lookup x = some .local) (hv : i ∈ vs) : BG X scope L vs (.Name x pos) (tgN i) :=
  ⟨gName i, fun s H C cl fp => pg_name hN hi (hx s H C cl fp) (hf s H C cl fp), sndg_name, tgin_name hv, fun v σ' H Q Q' h q => h _ _ q⟩
theorem bs_nil {vs : List Nat} : BGs X scope L vs [] tgsNil := by
  refine ⟨gNil, fun s H C cl fp => pgs_nil, fun σ Δ Δ' F H us ds Q env r ht q => ?_, tgsin_nil, fun us σ' H Q Q' h q => ⟨q.1, h _ _ q.2⟩⟩
  cases ds with
  | nil => cases ht; exact ⟨r.nil_inv, q σ env .refl⟩
  | cons d ds => cases ht
theorem bs_cons {vs : List Nat} {tgs : List Expr} {t : D → DEnv → Option DEnv} {u : List D → DEnv → Option DEnv} (h : BG X scope L vs tg t) (hs : BGs X scope L vs tgs u)
    (hst : ∀ (s : Shared) (H : Hp) (C : Addr) (cl : List (Str × Addr)) (fp : List Addr), (assignEach (tg :: tgs) (X.blk s H scope (compEnvC scope cl C X.env) fp).env).map (·.2) = assign tg (X.blk s H scope (compEnvC scope cl C X.env) fp).env :: (assignEach tgs (X.blk s H scope (compEnvC scope cl C X.env) fp).env).map (·.2) := by intros; rfl) :
    BGs X scope L vs (tg :: tgs) (tgsCons t u) := by
  obtain ⟨g1, p1, s1, i1, m1⟩ := h.ex
  obtain ⟨g2, p2, s2, i2, m2⟩ := hs.ex
  refine ⟨gCons g1 g2, fun s H C cl fp => pgs_cons (p1 s H C cl fp) (p2 s H C cl fp) (hst s H C cl fp), fun σ Δ Δ' F H us ds Q env r ht q => ?_, tgsin_cons i1 i2 m1, fun us σ' H Q Q' hq q => ?_⟩
  · cases ds with
    | nil => cases ht
    | cons d ds =>
      obtain ⟨Δ1, h1, h2⟩ := Option.bind_eq_some_iff.mp ht
      obtain ⟨v, ws, rfl, r1, r2⟩ := r.cons_inv
      exact ⟨v, ws, rfl, s1 σ Δ Δ1 F H v d _ env r1 h1 fun σ1 env1 st1 => s2 σ1 Δ1 Δ' F H ws ds Q env1 r2 h2 fun σ2 env2 st2 => q σ2 env2 (st1.trans st2)⟩
  · obtain ⟨v, r, h1, h2⟩ := q
    exact ⟨v, r, h1, m1 _ _ _ _ _ (fun σ2 H2 z => m2 _ _ _ _ _ hq z) h2⟩
theorem b_tup {vs : List Nat} {tgs : List Expr} {k : Nat} {u : List D → DEnv → Option DEnv} {n : Nat} {pos : Pos} (h : BGs X scope L vs tgs u) (hc : X.calm = true := by rfl)
    (hn : ∀ (s : Shared) (H : Hp) (C : Addr) (cl : List (Str × Addr)) (fp : List Addr), (assignEach tgs (X.blk s H scope (compEnvC scope cl C X.env) fp).env).length = n := by intros; rfl)
    (hst : ∀ (s : Shared) (H : Hp) (C : Addr) (cl : List (Str × Addr)) (fp : List Addr), (assignEach tgs (X.blk s H scope (compEnvC scope cl C X.env) fp).env).findIdx? (·.1) = none := by intros; rfl) (hk : L.K = X.K := by rfl) :
    BG X scope L vs (.Tuple tgs k pos) (tgT n u) := by
  obtain ⟨g1, p1, s1, i1, m1⟩ := h.ex
  refine ⟨gTup X.K n g1, fun s H C cl fp => pg_tup (X := X.blk s H scope (compEnvC scope cl C X.env) fp) hc (p1 s H C cl fp) (hn s H C cl fp) (hst s H C cl fp), fun σ Δ Δ' F H v d Q env r ht q => ?_, tgin_tup i1, fun v σ' H Q Q' hq q => ?_⟩
  · unfold tgT at ht
    split at ht
    · rename_i ds
      split at ht
      · rename_i hl
        obtain ⟨a, vs, rfl, h1, h2⟩ := rep_ref_tup r
        exact ⟨a, vs, rfl, hk ▸ env.ex.st h1, by rw [h2.1]; exact hl, s1 σ Δ Δ' F H vs ds Q env h2 ht q⟩
      · cases ht
    · cases ht
  · obtain ⟨a, xs, h1, h2, h3, h4⟩ := q
    exact ⟨a, xs, h1, h2, h3, m1 _ _ _ _ _ hq h4⟩
theorem f_lc (hN : X.N.Nodup) (hi : DI X L W tg iter mi) (ok : BlkOk X.N X.env.scope scope own) (hg : BG X scope L (own.map (·.2)) tg tgt)
    (ht : ∀ (s : Shared) (H : Hp) (C : Addr) (cl : List (Str × Addr)) (fp : List Addr), DTs (X.blk s H scope (compEnvC scope cl C X.env) fp) L WF ifs mc)
    (he : ∀ (s : Shared) (H : Hp) (C : Addr) (cl : List (Str × Addr)) (fp : List Addr), DE (X.blk s H scope (compEnvC scope cl C X.env) fp) L WF elt me) (hc : X.calm = true := by rfl) (hs : ∀ x, foldedSetIterable iter X.env x = pure x := by intro _; rfl) :
    DF X L W (.ListComp elt [⟨tg, iter, ifs, 0⟩] scope pos) (lcM (own.map (·.2)) mi tgt mc me) := by
  obtain ⟨wi, p1, s1⟩ := hi.ex
  obtain ⟨g, p2, s2, i2, _⟩ := hg.ex
  exact ⟨_, pe_lc hc hN p1 ok p2 (fun s H C cl fp => (ht s H C cl fp).one) (fun s H C cl fp => (he s H C cl fp).one) hs, snd_lc s1 s2 snd_ttM snd_teM i2⟩
/-- name = [..], an own list -/
theorem s_setLc {i : Nat} {y : Str} {py spos : Pos} (hN : X.N.Nodup) (hy : X.N[i]? = some y) (hyl : X.env.scope.names.lookup y = some .local) (hsw : swapsWith (.ListComp elt [⟨tg, iter, ifs, 0⟩] scope pos) (some (.Name y py)) spos.line X.env = pure true) (hi : DI X L W tg iter mi) (ok : BlkOk X.N X.env.scope scope own) (hg : BG X scope L (own.map (·.2)) tg tgt)
    (ht : ∀ (s : Shared) (H : Hp) (C : Addr) (cl : List (Str × Addr)) (fp : List Addr), DTs (X.blk s H scope (compEnvC scope cl C X.env) fp) L WF ifs mc)
    (he : ∀ (s : Shared) (H : Hp) (C : Addr) (cl : List (Str × Addr)) (fp : List Addr), DE (X.blk s H scope (compEnvC scope cl C X.env) fp) L WF elt me) (hc : X.calm = true := by rfl) (hs : ∀ x, foldedSetIterable iter X.env x = pure x := by intro _; rfl) :
    DS X L W (.Assign [.Name y py] (.ListComp elt [⟨tg, iter, ifs, 0⟩] scope pos) spos) (fun Δ => (lcM (own.map (·.2)) mi tgt mc me Δ).s fun d Δ1 => setO i d Δ1) := by
  obtain ⟨wi, p1, s1⟩ := hi.ex
  obtain ⟨g, p2, s2, i2, _⟩ := hg.ex
  exact ⟨_, ps_setLc hc hN hy hyl hsw p1 ok p2 (fun s H C cl fp => (ht s H C cl fp).one) (fun s H C cl fp => (he s H C cl fp).one) hs, snd_setF (snd_lc s1 s2 snd_ttM snd_teM i2)⟩
end
end KL
/-! KL, part h: what a def promises, its body, its calls. -/
namespace KL
open PySem L2

inductive FRes where
  | stuck | ok (d : D) (cs : DEnv) | fr (ds : List D) (cs : DEnv) | ex (x : Exc) (cs : DEnv)
def WantF (L : Lx) (vs : List V) (cs : DEnv) (F H : Hp) (r : FRes) (Q : VK) (E : XK) : Prop := match r with
  | .stuck => False
  | .ok d cs' => ∀ v F' H', EnvOk L F' (vs.map some) cs' H' → Step (vs.map some) cs F H (vs.map some) cs' F' H' → Rep L.K F' v d → Q v H'
  | .fr ds cs' => ∀ p ws F' H', EnvOk L F' (vs.map some) cs' H' → Step (vs.map some) cs F H (vs.map some) cs' F' H' → H p = none → F' p = none → H' p = some (.lst ws) → Reps L.K F' ws ds → Q (.ref p) H'
  | .ex x cs' => ∀ c dd F' H', EnvOk L F' (vs.map some) cs' H' → Step (vs.map some) cs F H (vs.map some) cs' F' H' → XOk L F' c dd x → E c dd H'
/-- the promise: what mf tells of the arguments' cells -/
def spD (L : Lx) (n : Nat) (mf : DEnv → FRes) : Sp := fun vs H Q E => vs.length = n ∧ ∃ cs F, EnvOk L F (vs.map some) cs H ∧ (∀ (i : Nat) xs, cs[i]? ≠ some (Cell.owv xs)) ∧ WantF L vs cs F H (mf cs) Q E
def kpD (n : Nat) (Δ : DEnv) : DEnv := (List.range n).map fun (i : Nat) => match (Δ[i]? : Option Cell) with
  | some (Cell.pav xs) => Cell.pav xs
  | _ => Cell.no
def bodyF (n N : Nat) (ms : DEnv → SRes) : DEnv → FRes := fun cs => match ms (cs ++ List.replicate (N - n) .no) with
  | .nx Δ => .ok .non (kpD n Δ)
  | .rt d Δ => .ok d (kpD n Δ)
  | .rf ds Δ => .fr ds (kpD n Δ)
  | .ex x Δ => .ex x (kpD n Δ)
  | _ => .stuck
section
variable {L : Lx} {F F' H H' : Hp} {vs : List V} {cs : DEnv} {n : Nat}
theorem kpD_get {Δ : DEnv} {i : Nat} {c : Cell} (h : (kpD n Δ)[i]? = some c) : c = .no ∨ ∃ xs, c = .pav xs ∧ Δ[i]? = some (.pav xs) ∧ i < n := by
  unfold kpD at h
  rw [List.getElem?_map] at h
  cases q : (List.range n)[i]? with
  | none => rw [q] at h; cases h
  | some j =>
    rw [q] at h
    have hi : i < n := by have := (List.getElem?_eq_some_iff.mp q).1; simpa using this
    have hj : j = i := by rw [List.getElem?_range hi] at q; cases q; rfl
    subst hj
    replace h : some (match (Δ[j]? : Option Cell) with | some (Cell.pav xs) => Cell.pav xs | _ => Cell.no) = some c := h
    split at h
    · rename_i xs e; cases h; exact .inr ⟨xs, rfl, e, hi⟩
    · cases h; exact .inl rfl
theorem kpD_pa {Δ : DEnv} {i : Nat} {xs : OwnV} (h : Δ[i]? = some (.pav xs)) (hi : i < n) : (kpD n Δ)[i]? = some (.pav xs) := by
  unfold kpD
  rw [List.getElem?_map, List.getElem?_range hi]
  show some (match (Δ[i]? : Option Cell) with | some (Cell.pav xs) => Cell.pav xs | _ => Cell.no) = _
  rw [h]
theorem slot_start {N : List Str} {i : Nat} : slot (L2.start N vs) i = slot (vs.map some) i := by
  unfold slot L2.start
  by_cases h : i < vs.length
  · rw [List.getElem?_append_left (by simpa using h)]
  · rw [List.getElem?_append_right (by simpa using h), List.getElem?_replicate, List.getElem?_eq_none (l := vs.map some) (by simpa using h)]
    split <;> rfl
theorem app_no {m i : Nat} {c : Cell} (h : (cs ++ List.replicate m Cell.no)[i]? = some c) : c = .no ∨ cs[i]? = some c := by
  by_cases hi : i < cs.length
  · rw [List.getElem?_append_left hi] at h; exact .inr h
  · rw [List.getElem?_append_right (by omega), List.getElem?_replicate] at h
    split at h
    · cases h; exact .inl rfl
    · cases h
theorem env_start {N : List Str} (env : EnvOk L F (vs.map some) cs H) : EnvOk L F (L2.start N vs) (cs ++ List.replicate (N.length - vs.length) .no) H := by
  have hl := env.len
  rw [List.length_map] at hl
  refine ⟨env.ex, by unfold L2.start; rw [List.length_append, List.length_append, List.length_map, List.length_replicate, List.length_replicate, hl], fun i c hc => ?_, fun i j c c' xs ys a hij hi hj h1 h2 e1 e2 => ?_⟩
  · rw [slot_start]
    rcases app_no hc with rfl | h
    · trivial
    · exact env.cells i c h
  · rw [slot_start] at e1 e2
    rcases app_no hi with rfl | g1
    · cases h1
    · rcases app_no hj with rfl | g2
      · cases h2
      · exact env.apart i j c c' xs ys a hij g1 g2 h1 h2 e1 e2
theorem own_start {N : List Str} {m : Nat} {b : Addr} (h : Own (L2.start N vs) (cs ++ List.replicate m .no) b) : Own (vs.map some) cs b := by
  obtain ⟨i, c, xs, h1, h2, h3⟩ := h
  rcases app_no h1 with rfl | g
  · cases h2
  · exact ⟨i, c, xs, g, h2, by rw [← slot_start (N := N)]; exact h3⟩
theorem own_start' {N : List Str} {m : Nat} {b : Addr} (h : Own (vs.map some) cs b) : Own (L2.start N vs) (cs ++ List.replicate m .no) b := by
  obtain ⟨i, c, xs, h1, h2, h3⟩ := h
  exact ⟨i, c, xs, by rw [List.getElem?_append_left (List.getElem?_eq_some_iff.mp h1).1]; exact h1, h2, by rw [slot_start]; exact h3⟩
theorem env_end {N : List Str} {m : Nat} {σ' : L2.St} {Δ' : DEnv} (hn : vs.length = n) (env : EnvOk L F (vs.map some) cs H) (env' : EnvOk L F' σ' Δ' H') (st : Step (L2.start N vs) (cs ++ List.replicate m .no) F H σ' Δ' F' H') :
    EnvOk L F' (vs.map some) (kpD n Δ') H' ∧ Step (vs.map some) cs F H (vs.map some) (kpD n Δ') F' H' := by
  have hl := env.len
  rw [List.length_map] at hl
  have same : ∀ (i : Nat) xs, Δ'[i]? = some (Cell.pav xs) → slot σ' i = slot (vs.map some) i := fun i xs h => by
    obtain ⟨ys, e⟩ := st.pb i xs h
    obtain ⟨zs, e1, e2⟩ := st.pa i ys e
    rw [e2, slot_start]
  refine ⟨⟨env'.ex, by unfold kpD; rw [List.length_map, List.length_map, List.length_range, hn], fun i c hc => ?_, fun i j c c' xs ys a hij hi hj h1 h2 e1 e2 => ?_⟩, ⟨st.fr, fun b o h no => st.kp b o h fun z => no (own_start z), fun b o h => ?_, fun b ⟨i, c, xs, hi, h1, e1⟩ => ?_, fun i xs h => ?_, fun i xs h => ?_, st.th⟩⟩
  · rcases kpD_get hc with rfl | ⟨xs, rfl, h, hi⟩
    · trivial
    · rw [← same i xs h]; exact env'.cells i _ h
  · rcases kpD_get hi with rfl | ⟨xs', rfl, g1, _⟩
    · cases h1
    · rcases kpD_get hj with rfl | ⟨ys', rfl, g2, _⟩
      · cases h2
      · rw [← same i _ g1] at e1
        rw [← same j _ g2] at e2
        exact env'.apart i j _ _ xs ys a hij g1 g2 h1 h2 e1 e2
  · rcases st.fn b o h with z | z | z
    · exact .inl z
    · exact .inr (.inl z)
    · exact .inr (.inr (own_start z))
  · rcases kpD_get hi with rfl | ⟨xs', rfl, g1, _⟩
    · cases h1
    · rcases st.ow b ⟨i, _, xs, g1, h1, by rw [same i _ g1]; exact e1⟩ with z | z
      · exact .inl (own_start z)
      · exact .inr z
  · have hi : i < cs.length := (List.getElem?_eq_some_iff.mp h).1
    obtain ⟨ys, e1, e2⟩ := st.pa i xs (by rw [List.getElem?_append_left hi]; exact h)
    exact ⟨ys, kpD_pa e1 (by omega), rfl⟩
  · rcases kpD_get h with q | ⟨xs', q, g1, _⟩
    · cases q
    · obtain ⟨ys, e⟩ := st.pb i xs' g1
      rcases app_no e with q2 | q2
      · cases q2
      · exact ⟨ys, q2⟩
end
section
variable {P : Program} {w : World} {K : PySem.W.Frag} {mg : Str → Option Value} {base : Heap} {L : Lx}
/-- a def keeps what its body's reading tells -/
theorem fn_body {x qual : Str} {st : Stmt} {f : Addr} {fd : FuncData} {N ps : List Str} {k : Nat} {ms : DEnv → SRes} (Fn : Fun K x qual st f fd) (S : FnScope N ps (defScope st))
    (hb : ∀ (cdv : Value) (A : Around) (outer : List PySem.Env) (s : Shared) (H : Hp) (E : XK), Room k (A.deeper (PyProof.Rows.envOfC qual (defScope st) s.heap.objs.size f cdv)) →
      Takes (cxOf (L2.CX P w) P w K mg base N qual (defScope st) f cdv A outer s H E) (fun cls d _ H => E cls d H) →
      DSs (cxOf (L2.CX P w) P w K mg base N qual (defScope st) f cdv A outer s H E) L (fun cls d _ H => E cls d H) (defBody st) ms) :
    FnOk P w K mg base (L2.CX P w) (k + 1) f fd ps (spD L ps.length (bodyF ps.length N.length ms)) := by
  refine Fn.okX S (fun vs H Q E h => h.1) (fun cdv A outer s H vs Q E hr h => ?_)
  obtain ⟨ts, p, sd⟩ := (hb cdv A outer s H E hr (takes_of rfl rfl rfl rfl)).ex
  refine ⟨ts, p, ?_⟩
  obtain ⟨hn, cs, F, env, now, wf⟩ := h
  have env0 := env_start (N := N) env
  refine sd (L2.start N vs) _ F H _ env0 ?_
  unfold bodyF at wf
  rw [← hn] at wf
  generalize hms : ms (cs ++ List.replicate (N.length - vs.length) Cell.no) = r at wf ⊢
  cases r with
  | stuck => exact wf
  | bk Δ => exact wf.elim
  | ct Δ => exact wf.elim
  | nx Δ => exact fun σ' F' H' e t => let ⟨a, b⟩ := env_end hn env e t; wf .non F' H' (hn ▸ a) (hn ▸ b) .non
  | rt d Δ => exact fun σ' v F' H' e t r => let ⟨a, b⟩ := env_end hn env e t; wf v F' H' (hn ▸ a) (hn ▸ b) r
  | ex x Δ => exact fun σ' c dd F' H' e t xo => let ⟨a, b⟩ := env_end hn env e t; wf c dd F' H' (hn ▸ a) (hn ▸ b) xo
  | rf ds Δ =>
    intro σ' p ws F' H' e t hp hf hh hpa rs
    obtain ⟨a, b⟩ := env_end hn env e t
    refine wf p ws F' H' (hn ▸ a) (hn ▸ b) ?_ hf hh rs
    rcases hp with z | z
    · exact z
    · obtain ⟨i, c, xs, h1, h2, h3⟩ := z
      rcases app_no h1 with rfl | g
      · cases h2
      · cases c with
        | owv ys => exact absurd g (now i ys)
        | pav ys =>
          obtain ⟨zs, e1, e2⟩ := t.pa i ys h1
          exact absurd (e2.trans h3) (hpa i zs e1)
        | _ => cases h2
end

/-! ### calls: an argument is a value, or an own list that the callee may change -/
abbrev Arg := Sum D Nat
def getO (Δ : DEnv) (i : Nat) : Option OwnV := (Δ[i]?).bind Cell.own?
def aV (m : DEnv → Res D) (r : DEnv → Res (List Arg)) : DEnv → Res (List Arg) := fun Δ => (m Δ).bind fun d Δ1 => (r Δ1).map (Sum.inl d :: ·)
def aO (i : Nat) (r : DEnv → Res (List Arg)) : DEnv → Res (List Arg) := fun Δ => match getO Δ i with
  | none => .stuck
  | some _ => (r Δ).map (Sum.inr i :: ·)
def argOk (L : Lx) (F : Hp) (σ : L2.St) (v : V) : Arg → Prop
  | .inl d => Rep L.K F v d
  | .inr i => slot σ i = some v
def ArgsOk (L : Lx) (F : Hp) (σ : L2.St) (vs : List V) (zs : List Arg) : Prop := vs.length = zs.length ∧ ∀ (k : Nat) v z, vs[k]? = some v → zs[k]? = some z → argOk L F σ v z
def SndC (L : Lx) (W : WX) (ta : TA) (m : DEnv → Res (List Arg)) : Prop := ∀ (σ : L2.St) (Δ : DEnv) (F H : Hp) (Q : List V → Hp → Prop), EnvOk L F σ Δ H → Want L W σ Δ F H (m Δ) (fun zs _ F' H' => ∀ vs, ArgsOk L F' σ vs zs → Q vs H') → ta σ H Q
structure DC (X : Cx) (L : Lx) (W : WX) (es : List Expr) (m : DEnv → Res (List Arg)) : Prop where
  ex : ∃ ta, PA X es ta ∧ SndC L W ta m
  ln : ∀ Δ zs Δ1, m Δ = .ok zs Δ1 → zs.length = es.length
section
variable {X : Cx} {L : Lx} {W : WX} {σ : L2.St} {Δ Δ' Δ1 : DEnv} {F F' H H' : Hp} {e : Expr} {es : List Expr} {me : DEnv → Res D} {r : DEnv → Res (List Arg)} {x : Str} {p pos : Pos} {i : Nat} {zs : List Arg} {vs : List V}
theorem EnvOk.getO {w : OwnV} (env : EnvOk L F σ Δ H) (h : KL.getO Δ i = some w) : ∃ a u, slot σ i = some (.ref a) ∧ H a = some u ∧ F a = none ∧ OwnOk L.K F u w := by
  obtain ⟨c, h1, h2⟩ := Option.bind_eq_some_iff.mp h
  exact (env.cells i c h1).own h2
theorem argsOk_cons {v : V} {z : Arg} (h : argOk L F σ v z) (hs : ArgsOk L F σ vs zs) : ArgsOk L F σ (v :: vs) (z :: zs) := by
  refine ⟨by simp [hs.1], fun k u y h1 h2 => ?_⟩
  cases k with
  | zero => simp at h1 h2; subst h1; subst h2; exact h
  | succ k => exact hs.2 k u y (by simpa using h1) (by simpa using h2)
theorem c_nil : DC X L W [] (fun Δ => .ok [] Δ) := ⟨⟨_, pa_nil, fun σ Δ F H Q env w => w F H env .refl [] ⟨rfl, fun k v z h => by simp at h⟩⟩, fun Δ zs Δ1 h => by cases h; rfl⟩
theorem c_val (h : DE X L W e me) (hs : DC X L W es r) (hst : starEach (e :: es) X.env = (false, eval e X.env) :: starEach es X.env := by rfl) : DC X L W (e :: es) (aV me r) := by
  obtain ⟨_, p1, s1⟩ := h.ex
  obtain ⟨_, p2, s2⟩ := hs.ex
  refine ⟨⟨_, pa_cons p1 p2 hst, fun σ Δ F H Q env w => ?_⟩, fun Δ zs Δ2 h => ?_⟩
  case refine_2 =>
    unfold aV at h
    cases q : me Δ with
    | stuck => rw [q] at h; cases h
    | ex x Δ' => rw [q] at h; cases h
    | ok d Δ1 =>
      rw [q] at h
      replace h : (r Δ1).map (Sum.inl d :: ·) = .ok zs Δ2 := h
      cases q2 : r Δ1 with
      | stuck => rw [q2] at h; cases h
      | ex x Δ' => rw [q2] at h; cases h
      | ok ys Δ3 => rw [q2] at h; cases h; exact congrArg (· + 1) (hs.ln _ _ _ q2)
  refine s1 σ Δ F H _ env (w.bind.mono fun d Δ1 F1 H1 env1 w1 v rv => ?_)
  refine s2 σ Δ1 F1 H1 _ env1 ?_
  have w2 : Want L W σ Δ1 F1 H1 ((r Δ1).map (Sum.inl d :: ·)) _ := w1
  cases q : r Δ1 with
  | stuck => rw [q] at w2; exact w2
  | ex x Δ' => rw [q] at w2; exact w2
  | ok zs Δ2 =>
    rw [q] at w2
    intro F2 H2 env2 st2 vs rs
    exact w2 F2 H2 env2 st2 (v :: vs) (argsOk_cons (rv.mono st2.fr) rs)
theorem c_own (hN : X.N[i]? = some x) (hv : Vis X.env.scope x) (hd : (x == ("__debug__" : Str)) = false) (hcd : (x == ("__classdict__" : Str)) = false) (hs : DC X L W es r)
    (hst : starEach (Expr.Name x p :: es) X.env = (false, eval (.Name x p) X.env) :: starEach es X.env := by rfl) : DC X L W (.Name x p :: es) (aO i r) := by
  obtain ⟨_, p2, s2⟩ := hs.ex
  refine ⟨⟨_, pa_cons (pe_var hN hv hd hcd) p2 hst, fun σ Δ F H Q env w => ?_⟩, fun Δ zs Δ2 h => ?_⟩
  case refine_2 =>
    unfold aO at h
    split at h
    · cases h
    · cases q2 : r Δ with
      | stuck => rw [q2] at h; cases h
      | ex x Δ' => rw [q2] at h; cases h
      | ok ys Δ3 => rw [q2] at h; cases h; exact congrArg (· + 1) (hs.ln _ _ _ q2)
  unfold aO at w
  cases q0 : getO Δ i with
  | none => rw [q0] at w; exact w.elim
  | some xs =>
    rw [q0] at w
    obtain ⟨a, us, e1, _⟩ := env.getO q0
    refine ⟨.ref a, slot_some e1, s2 σ Δ F H _ env ?_⟩
    have w2 : Want L W σ Δ F H ((r Δ).map (Sum.inr i :: ·)) _ := w
    cases q : r Δ with
    | stuck => rw [q] at w2; exact w2
    | ex x Δ' => rw [q] at w2; exact w2
    | ok zs Δ2 =>
      rw [q] at w2
      intro F2 H2 env2 st2 vs rs
      exact w2 F2 H2 env2 st2 (.ref a :: vs) (argsOk_cons (z := .inr i) e1 rs)
/-- the callee's cells -/
def cellsOf (Δ : DEnv) : List Arg → Option DEnv
  | [] => some []
  | .inl d :: zs => (cellsOf Δ zs).map (Cell.va d :: ·)
  | .inr i :: zs => (getO Δ i).bind fun xs => (cellsOf Δ zs).map (Cell.pav xs :: ·)
def slotsOf : List Arg → List Nat
  | [] => []
  | .inl _ :: zs => slotsOf zs
  | .inr i :: zs => i :: slotsOf zs
def backD : List Arg → DEnv → DEnv → DEnv
  | .inr i :: zs, .pav xs :: cs, Δ => backD zs cs (setW Δ i xs)
  | _ :: zs, _ :: cs, Δ => backD zs cs Δ
  | _, _, Δ => Δ
theorem cellsOf_get : ∀ {zs : List Arg} {cs : DEnv}, cellsOf Δ zs = some cs → cs.length = zs.length ∧ ∀ (k : Nat) z c, zs[k]? = some z → cs[k]? = some c → (∃ d, z = .inl d ∧ c = .va d) ∨ ∃ i xs, z = .inr i ∧ c = .pav xs ∧ getO Δ i = some xs
  | [], cs, h => by cases h; exact ⟨rfl, fun k z c h => by simp at h⟩
  | .inl d :: zs, cs, h => by
    obtain ⟨cs', h1, rfl⟩ := Option.map_eq_some_iff.mp h
    obtain ⟨l, q⟩ := cellsOf_get h1
    refine ⟨by simp [l], fun k z c e1 e2 => ?_⟩
    cases k with
    | zero => simp at e1 e2; subst e1 e2; exact .inl ⟨d, rfl, rfl⟩
    | succ k => exact q k z c (by simpa using e1) (by simpa using e2)
  | .inr i :: zs, cs, h => by
    obtain ⟨xs, h0, h2⟩ := Option.bind_eq_some_iff.mp h
    obtain ⟨cs', h3, rfl⟩ := Option.map_eq_some_iff.mp h2
    obtain ⟨l, q⟩ := cellsOf_get h3
    refine ⟨by simp [l], fun k z c e1 e2 => ?_⟩
    cases k with
    | zero => simp at e1 e2; subst e1 e2; exact .inr ⟨i, xs, rfl, rfl, h0⟩
    | succ k => exact q k z c (by simpa using e1) (by simpa using e2)
theorem mem_slots {i : Nat} : ∀ {zs : List Arg}, i ∈ slotsOf zs ↔ ∃ k : Nat, zs[k]? = some (.inr i)
  | [] => by simp [slotsOf]
  | .inl d :: zs => by
    rw [slotsOf, mem_slots]
    constructor
    · rintro ⟨k, h⟩; exact ⟨k + 1, by simpa using h⟩
    · rintro ⟨k, h⟩
      cases k with
      | zero => simp at h
      | succ k => exact ⟨k, by simpa using h⟩
  | .inr j :: zs => by
    rw [slotsOf, List.mem_cons, mem_slots]
    constructor
    · rintro (rfl | ⟨k, h⟩)
      · exact ⟨0, rfl⟩
      · exact ⟨k + 1, by simpa using h⟩
    · rintro ⟨k, h⟩
      cases k with
      | zero => simp at h; exact .inl h.symm
      | succ k => exact .inr ⟨k, by simpa using h⟩
theorem slots_inj : ∀ {zs : List Arg} {i k k' : Nat}, (slotsOf zs).Nodup → zs[k]? = some (.inr i) → zs[k']? = some (.inr i) → k = k'
  | [], i, k, k', _, h, _ => by simp at h
  | z :: zs, i, 0, 0, _, _, _ => rfl
  | z :: zs, i, 0, k' + 1, nd, h, h' => by
    simp at h h'
    subst h
    exact absurd (mem_slots.mpr ⟨k', h'⟩) (List.nodup_cons.mp nd).1
  | z :: zs, i, k + 1, 0, nd, h, h' => by
    simp at h h'
    subst h'
    exact absurd (mem_slots.mpr ⟨k, h⟩) (List.nodup_cons.mp nd).1
  | z :: zs, i, k + 1, k' + 1, nd, h, h' => by
    have nd' : (slotsOf zs).Nodup := by
      cases z with
      | inl d => exact nd
      | inr j => exact (List.nodup_cons.mp nd).2
    exact congrArg (· + 1) (slots_inj (k := k) (k' := k') nd' (by simpa using h) (by simpa using h'))
def putC (w : OwnV) : Cell → Cell
  | .owv _ => .owv w
  | .pav _ => .pav w
  | c => c
theorem setW_get {w : OwnV} {j : Nat} : (setW Δ i w)[j]? = if j = i then (Δ[i]?).map (putC w) else Δ[j]? := by
  unfold setW
  by_cases hj : j = i
  · subst hj
    rw [if_pos rfl]
    cases q : Δ[j]? with
    | none => exact q
    | some c =>
      have hl := (List.getElem?_eq_some_iff.mp q).1
      cases c with
      | owv ys => show (Δ.set j (.owv w))[j]? = _; rw [List.getElem?_set_self hl]; rfl
      | pav ys => show (Δ.set j (.pav w))[j]? = _; rw [List.getElem?_set_self hl]; rfl
      | _ => exact q
  · rw [if_neg hj]
    split
    · rw [List.getElem?_set_ne (Ne.symm hj)]
    · rw [List.getElem?_set_ne (Ne.symm hj)]
    · rfl
theorem setW_len {w : OwnV} : (setW Δ i w).length = Δ.length := by
  unfold setW; split <;> simp
theorem backD_len : ∀ {zs : List Arg} {cs Δ : DEnv}, (backD zs cs Δ).length = Δ.length := by
  intro zs
  induction zs with
  | nil => intro cs Δ; cases cs <;> rfl
  | cons z zs ih =>
    intro cs Δ
    cases cs with
    | nil => cases z <;> rfl
    | cons c cs =>
      cases z with
      | inl d => exact ih
      | inr i => cases c <;> first | exact ih | (show (backD zs cs (setW Δ i _)).length = _; rw [ih, setW_len])
theorem backD_out {j : Nat} : ∀ {zs : List Arg} {cs Δ : DEnv}, j ∉ slotsOf zs → (backD zs cs Δ)[j]? = Δ[j]? := by
  intro zs
  induction zs with
  | nil => intro cs Δ _; cases cs <;> rfl
  | cons z zs ih =>
    intro cs Δ h
    cases cs with
    | nil => cases z <;> rfl
    | cons c cs =>
      cases z with
      | inl d => exact ih h
      | inr i =>
        rw [slotsOf, List.mem_cons, not_or] at h
        cases c with
        | pav xs => show (backD zs cs (setW Δ i xs))[j]? = _; rw [ih h.2, setW_get, if_neg h.1]
        | _ => exact ih h.2
theorem backD_in {j k : Nat} : ∀ {zs : List Arg} {cs Δ : DEnv} {xs : OwnV}, (slotsOf zs).Nodup → zs[k]? = some (.inr j) → cs[k]? = some (.pav xs) → (backD zs cs Δ)[j]? = (Δ[j]?).map (putC xs) := by
  intro zs
  induction zs generalizing k with
  | nil => intro cs Δ xs _ h; simp at h
  | cons z zs ih =>
    intro cs Δ xs nd h1 h2
    cases cs with
    | nil => simp at h2
    | cons c cs =>
      cases k with
      | zero =>
        simp at h1 h2; subst h1 h2
        show (backD zs cs (setW Δ j xs))[j]? = _
        rw [backD_out (List.nodup_cons.mp nd).1, setW_get, if_pos rfl]
      | succ k =>
        have g1 : zs[k]? = some (.inr j) := by simpa using h1
        have g2 : cs[k]? = some (.pav xs) := by simpa using h2
        cases z with
        | inl d => exact ih nd g1 g2
        | inr i =>
          have nd' := (List.nodup_cons.mp nd).2
          have ne : j ≠ i := fun e => (List.nodup_cons.mp nd).1 (mem_slots.mpr ⟨k, by rw [← e]; exact g1⟩)
          cases c with
          | pav ys => show (backD zs cs (setW Δ i ys))[j]? = _; rw [ih nd' g1 g2, setW_get, if_neg ne]
          | _ => exact ih nd' g1 g2
/-- the arguments, as the callee knows them -/
theorem env_args {cs : DEnv} (env : EnvOk L F σ Δ H) (nd : (slotsOf zs).Nodup) (hc : cellsOf Δ zs = some cs) (ha : ArgsOk L F σ vs zs) : EnvOk L F (vs.map some) cs H ∧ (∀ (i : Nat) xs, cs[i]? ≠ some (Cell.owv xs)) ∧ ∀ b, Own (vs.map some) cs b → Own σ Δ b := by
  obtain ⟨hl, get⟩ := cellsOf_get hc
  have at_ : ∀ (k : Nat) c, cs[k]? = some c → ∃ v z, vs[k]? = some v ∧ zs[k]? = some z ∧ argOk L F σ v z ∧ ((∃ d, z = .inl d ∧ c = .va d) ∨ ∃ i xs, z = .inr i ∧ c = .pav xs ∧ getO Δ i = some xs) := fun k c h => by
    have hk := (List.getElem?_eq_some_iff.mp h).1
    have hz : k < zs.length := by omega
    have hv : k < vs.length := by rw [ha.1]; exact hz
    exact ⟨vs[k], zs[k], List.getElem?_eq_getElem hv, List.getElem?_eq_getElem hz, ha.2 k _ _ (List.getElem?_eq_getElem hv) (List.getElem?_eq_getElem hz), get k _ c (List.getElem?_eq_getElem hz) h⟩
  have slv : ∀ {k : Nat} {v : V}, vs[k]? = some v → slot (vs.map some) k = some v := fun {k v} h => by unfold slot; rw [List.getElem?_map, h]; rfl
  refine ⟨⟨env.ex, by rw [List.length_map, hl, ha.1], fun k c h => ?_, fun k k' c c' xs ys a hk hi hj h1 h2 e1 e2 => ?_⟩, fun k xs h => ?_, fun b ⟨k, c, xs, h, h1, e1⟩ => ?_⟩
  · obtain ⟨v, z, g1, g2, g3, ⟨d, rfl, rfl⟩ | ⟨i, xs, rfl, rfl, g4⟩⟩ := at_ k c h
    · exact ⟨v, slv g1, g3⟩
    · obtain ⟨a, us, e1, e2, e3, e4⟩ := env.getO g4
      rw [slv g1]
      exact ⟨a, us, (show some v = _ from (show slot σ i = some v from g3) ▸ e1), e2, e3, e4⟩
  · obtain ⟨v, z, g1, g2, g3, ⟨d, rfl, rfl⟩ | ⟨i, xs', rfl, rfl, g4⟩⟩ := at_ k c hi
    · cases h1
    obtain ⟨v', z', f1, f2, f3, ⟨d, rfl, rfl⟩ | ⟨i', ys', rfl, rfl, f4⟩⟩ := at_ k' c' hj
    · cases h2
    rw [slv g1] at e1
    rw [slv f1] at e2
    cases e1; cases e2
    obtain ⟨c1, q1, q2⟩ := Option.bind_eq_some_iff.mp g4
    obtain ⟨c2, q3, q4⟩ := Option.bind_eq_some_iff.mp f4
    have ne : i ≠ i' := fun z => hk (slots_inj nd g2 (by rw [z]; exact f2))
    exact env.apart i i' c1 c2 _ _ a ne q1 q3 q2 q4 g3 f3
  · obtain ⟨v, z, g1, g2, g3, ⟨d, rfl, q⟩ | ⟨i, xs', rfl, q, g4⟩⟩ := at_ k _ h
    · cases q
    · cases q
  · obtain ⟨v, z, g1, g2, g3, ⟨d, rfl, rfl⟩ | ⟨i, xs', rfl, rfl, g4⟩⟩ := at_ k c h
    · cases h1
    · obtain ⟨c1, q1, q2⟩ := Option.bind_eq_some_iff.mp g4
      rw [slv g1] at e1; cases e1
      exact ⟨i, c1, xs', q1, q2, g3⟩
/-- the frame behind the call -/
theorem env_back {cs cs' : DEnv} (env : EnvOk L F σ Δ H) (nd : (slotsOf zs).Nodup) (hc : cellsOf Δ zs = some cs) (ha : ArgsOk L F σ vs zs) (env' : EnvOk L F' (vs.map some) cs' H') (st : Step (vs.map some) cs F H (vs.map some) cs' F' H') :
    EnvOk L F' σ (backD zs cs' Δ) H' ∧ Step σ Δ F H σ (backD zs cs' Δ) F' H' := by
  obtain ⟨hl, get⟩ := cellsOf_get hc
  obtain ⟨_, _, own⟩ := env_args env nd hc ha
  have slv : ∀ {k : Nat} {v : V}, vs[k]? = some v → slot (vs.map some) k = some v := fun {k v} h => by unfold slot; rw [List.getElem?_map, h]; rfl
  -- an own slot that was handed on
  have inside : ∀ (k i : Nat), zs[k]? = some (Sum.inr i) → ∃ (v : V) (c0 : Cell) (xs xs' : OwnV), vs[k]? = some v ∧ slot σ i = some v ∧ Δ[i]? = some c0 ∧ c0.own? = some xs ∧ cs'[k]? = some (Cell.pav xs') ∧ (backD zs cs' Δ)[i]? = some (putC xs' c0) := fun k i h => by
    have hk := (List.getElem?_eq_some_iff.mp h).1
    have hv : k < vs.length := by rw [ha.1]; exact hk
    have hcs : k < cs.length := by omega
    rcases get k _ _ h (List.getElem?_eq_getElem hcs) with ⟨d, q, _⟩ | ⟨i', xs, q1, q2, q3⟩
    · cases q
    · cases q1
      obtain ⟨c0, g1, g2⟩ := Option.bind_eq_some_iff.mp q3
      obtain ⟨xs', g3, _⟩ := st.pa k xs (by rw [List.getElem?_eq_getElem hcs, q2])
      refine ⟨vs[k], c0, xs, xs', List.getElem?_eq_getElem hv, ha.2 k _ _ (List.getElem?_eq_getElem hv) h, g1, g2, g3, ?_⟩
      rw [backD_in nd h g3, g1]; rfl
  have put_list : ∀ {c0 : Cell} {xs xs' : OwnV}, c0.own? = some xs → (putC xs' c0).own? = some xs' := fun {c0 xs xs'} h => by cases c0 <;> first | rfl | cases h
  -- an own slot that was not
  have nown : ∀ (j : Nat) c xs b, Δ[j]? = some c → c.own? = some xs → slot σ j = some (.ref b) → j ∉ slotsOf zs → ¬ Own (vs.map some) cs b := fun j c xs b h1 h2 h3 h4 ⟨k, ck, ys, g1, g2, g3⟩ => by
    have hk := (List.getElem?_eq_some_iff.mp g1).1
    have hz : k < zs.length := by omega
    have hv : k < vs.length := by rw [ha.1]; exact hz
    rcases get k _ _ (List.getElem?_eq_getElem hz) g1 with ⟨d, q, q2⟩ | ⟨i, zs', q1, q2, q3⟩
    · subst q2; cases g2
    · obtain ⟨c0, f1, f2⟩ := Option.bind_eq_some_iff.mp q3
      have f3 : slot σ i = some vs[k] := by
        have := ha.2 k _ _ (List.getElem?_eq_getElem hv) (List.getElem?_eq_getElem hz)
        rw [q1] at this; exact this
      rw [slv (List.getElem?_eq_getElem hv)] at g3
      have ne : i ≠ j := fun z => h4 (by rw [← z]; exact mem_slots.mpr ⟨k, by rw [List.getElem?_eq_getElem hz, q1]⟩)
      exact env.apart i j c0 c _ _ b ne f1 h1 f2 h2 (f3.trans g3) h3
  have cell : ∀ (j : Nat) c, (backD zs cs' Δ)[j]? = some c → (j ∉ slotsOf zs ∧ Δ[j]? = some c) ∨ ∃ (k : Nat) (v : V) (c0 : Cell) (xs xs' : OwnV), zs[k]? = some (Sum.inr j) ∧ vs[k]? = some v ∧ slot σ j = some v ∧ Δ[j]? = some c0 ∧ c0.own? = some xs ∧ cs'[k]? = some (Cell.pav xs') ∧ c = putC xs' c0 := fun j c h => by
    by_cases hj : j ∈ slotsOf zs
    · obtain ⟨k, hk⟩ := mem_slots.mp hj
      obtain ⟨v, c0, xs, xs', g1, g2, g3, g4, g5, g6⟩ := inside k j hk
      rw [g6] at h; cases h
      exact .inr ⟨k, v, c0, xs, xs', hk, g1, g2, g3, g4, g5, rfl⟩
    · rw [backD_out hj] at h; exact .inl ⟨hj, h⟩
  have lst0 : ∀ (j : Nat) c ys, (backD zs cs' Δ)[j]? = some c → c.own? = some ys → ∃ c0 xs, Δ[j]? = some c0 ∧ c0.own? = some xs := fun j c ys h h2 => by
    rcases cell j c h with ⟨_, g⟩ | ⟨k, v, c0, xs, xs', _, _, _, g3, g4, _, _⟩
    · exact ⟨c, ys, g, h2⟩
    · exact ⟨c0, xs, g3, g4⟩
  refine ⟨⟨env'.ex, by rw [backD_len]; exact env.len, fun j c h => ?_, fun j k c c' xs ys a hjk hj hk h1 h2 e1 e2 => ?_⟩, ?_⟩
  · rcases cell j c h with ⟨hj, g⟩ | ⟨k, v, c0, xs, xs', g0, g1, g2, g3, g4, g5, rfl⟩
    · have q := env.cells j c g
      have keep : ∀ us, c.own? = some us → (∃ b u, slot σ j = some (.ref b) ∧ H b = some u ∧ F b = none ∧ OwnOk L.K F u us) → ∃ b u, slot σ j = some (.ref b) ∧ H' b = some u ∧ F' b = none ∧ OwnOk L.K F' u us := by
        rintro us hu ⟨b, ws, f1, f2, f3, f4⟩
        have no := nown j c us b g hu f1 hj
        refine ⟨b, ws, f1, st.kp b _ f2 no, ?_, f4.mono st.fr⟩
        cases z : F' b with
        | none => rfl
        | some o =>
          rcases st.fn b o z with y | y | y
          · rw [f3] at y; cases y
          · rw [f2] at y; cases y
          · exact absurd y no
      cases c with
      | no => trivial
      | va d => obtain ⟨v, f1, f2⟩ := q; exact ⟨v, f1, f2.mono st.fr⟩
      | owv us => exact keep us rfl q
      | pav us => exact keep us rfl q
      | xc x => obtain ⟨a, c, dd, f1, f2, f3⟩ := q; exact ⟨a, c, dd, f1, f2, f3.mono st.fr⟩
    · obtain ⟨a, ws, f1, f2, f3, f4⟩ := env'.cells k _ g5
      rw [slv g1] at f1
      rw [g2]
      cases c0 with
      | owv us => exact ⟨a, ws, f1, f2, f3, f4⟩
      | pav us => exact ⟨a, ws, f1, f2, f3, f4⟩
      | _ => cases g4
  · obtain ⟨c3, a3, g1, g2⟩ := lst0 j c xs hj h1
    obtain ⟨c4, a4, g3, g4⟩ := lst0 k c' ys hk h2
    exact env.apart j k c3 c4 a3 a4 a hjk g1 g3 g2 g4 e1 e2
  · refine ⟨st.fr, fun b o h n => st.kp b o h fun z => n (own b z), fun b o h => ?_, fun b ⟨j, c, xs, hj, h1, e1⟩ => ?_, fun j xs hj => ?_, fun j xs hj => ?_, st.th⟩
    · rcases st.fn b o h with z | z | z
      · exact .inl z
      · exact .inr (.inl z)
      · exact .inr (.inr (own b z))
    · obtain ⟨c0, a0, g1, g2⟩ := lst0 j c xs hj h1
      exact .inl ⟨j, c0, a0, g1, g2, e1⟩
    · by_cases hs : j ∈ slotsOf zs
      · obtain ⟨k, hk⟩ := mem_slots.mp hs
        obtain ⟨v, c0, as, xs', g1, g2, g3, g4, g5, g6⟩ := inside k j hk
        rw [hj] at g3; cases g3
        exact ⟨xs', g6, rfl⟩
      · exact ⟨xs, by rw [backD_out hs]; exact hj, rfl⟩
    · rcases cell j _ hj with ⟨_, g⟩ | ⟨k, v, c0, as, xs', g0, g1, g2, g3, g4, g5, q⟩
      · exact ⟨xs, g⟩
      · cases c0 with
        | pav us => exact ⟨us, g3⟩
        | owv us => cases q
        | _ => cases g4
def FRes.toR (zs : List Arg) (Δ : DEnv) : FRes → Res D
  | .ok d cs => .ok d (backD zs cs Δ)
  | .ex x cs => .ex x (backD zs cs Δ)
  | _ => .stuck
def FRes.toF (zs : List Arg) (Δ : DEnv) : FRes → Res (List D)
  | .fr ds cs => .ok ds (backD zs cs Δ)
  | .ex x cs => .ex x (backD zs cs Δ)
  | _ => .stuck
def callG {α : Type} (g : List Arg → DEnv → FRes → Res α) (mf : DEnv → FRes) (m : DEnv → Res (List Arg)) : DEnv → Res α := fun Δ => (m Δ).bind fun zs Δ1 => match cellsOf Δ1 zs with
  | none => .stuck
  | some cs => if (slotsOf zs).Nodup then g zs Δ1 (mf cs) else .stuck
abbrev callM := callG FRes.toR
abbrev callF := callG FRes.toF
theorem snd_call {ta : TA} {n : Nat} {mf : DEnv → FRes} {m : DEnv → Res (List Arg)} (hn : ∀ zs Δ Δ1, m Δ = .ok zs Δ1 → zs.length = n) (h : SndC L W ta m) : Snd L W (tCallS (spD L n mf) (WE W) ta) (callM mf m) := by
  intro σ Δ F H Q env w
  refine h σ Δ F H _ env ?_
  unfold callM callG at w
  cases q : m Δ with
  | stuck => rw [q] at w; exact w.elim
  | ex x Δ' => rw [q] at w; exact w
  | ok zs Δ1 =>
    rw [q] at w
    intro F1 H1 env1 st1 vs ha
    replace w : Want L W σ Δ F H (match cellsOf Δ1 zs with | none => .stuck | some cs => if (slotsOf zs).Nodup then FRes.toR zs Δ1 (mf cs) else .stuck) _ := w
    refine ⟨by rw [ha.1]; exact hn zs Δ Δ1 q, ?_⟩
    cases qc : cellsOf Δ1 zs with
    | none => rw [qc] at w; exact w.elim
    | some cs =>
      rw [qc] at w
      replace w : Want L W σ Δ F H (if (slotsOf zs).Nodup then FRes.toR zs Δ1 (mf cs) else .stuck) _ := w
      split at w
      case isFalse => exact w.elim
      rename_i nd
      obtain ⟨e1, e2, e3⟩ := env_args env1 nd qc ha
      refine ⟨cs, F1, e1, e2, ?_⟩
      generalize mf cs = r at w ⊢
      cases r with
      | stuck => exact w
      | fr ds cs' => exact w.elim
      | ok d cs' =>
        intro v F' H' env' st' rv
        obtain ⟨b1, b2⟩ := env_back env1 nd qc ha env' st'
        exact w F' H' b1 (st1.trans b2) v rv
      | ex x cs' =>
        intro c dd F' H' env' st' xo
        obtain ⟨b1, b2⟩ := env_back env1 nd qc ha env' st'
        exact w c dd F' H' b1 (st1.trans b2) xo
theorem snd_callF {ta : TA} {n : Nat} {mf : DEnv → FRes} {m : DEnv → Res (List Arg)} (hn : ∀ zs Δ Δ1, m Δ = .ok zs Δ1 → zs.length = n) (h : SndC L W ta m) : SndF L W (tCallS (spD L n mf) (WE W) ta) (callF mf m) := by
  intro σ Δ F H Q env w
  refine h σ Δ F H _ env ?_
  unfold callF callG at w
  cases q : m Δ with
  | stuck => rw [q] at w; exact w.elim
  | ex x Δ' => rw [q] at w; exact w
  | ok zs Δ1 =>
    rw [q] at w
    intro F1 H1 env1 st1 vs ha
    replace w : Want L W σ Δ F H (match cellsOf Δ1 zs with | none => .stuck | some cs => if (slotsOf zs).Nodup then FRes.toF zs Δ1 (mf cs) else .stuck) _ := w
    refine ⟨by rw [ha.1]; exact hn zs Δ Δ1 q, ?_⟩
    cases qc : cellsOf Δ1 zs with
    | none => rw [qc] at w; exact w.elim
    | some cs =>
      rw [qc] at w
      replace w : Want L W σ Δ F H (if (slotsOf zs).Nodup then FRes.toF zs Δ1 (mf cs) else .stuck) _ := w
      split at w
      case isFalse => exact w.elim
      rename_i nd
      obtain ⟨e1, e2, e3⟩ := env_args env1 nd qc ha
      refine ⟨cs, F1, e1, e2, ?_⟩
      generalize mf cs = r at w ⊢
      cases r with
      | stuck => exact w
      | ok d cs' => exact w.elim
      | fr ds cs' =>
        intro p ws F' H' env' st' hp hf hh rs
        obtain ⟨b1, b2⟩ := env_back env1 nd qc ha env' st'
        refine w F' H' b1 (st1.trans b2) p ws (st1.hn hp) (fun z => ?_) hf hh rs
        rcases b2.ow p z with y | y
        · obtain ⟨us, y, _⟩ := env1.own y; rw [hp] at y; cases y
        · obtain ⟨us, y', _⟩ := b1.own z
          obtain ⟨j, c, xs, h1, h2, h3⟩ := z
          exact absurd hp (fun _ => by
            rcases b2.ow p ⟨j, c, xs, h1, h2, h3⟩ with u | u
            · obtain ⟨us', u', _⟩ := env1.own u; rw [hp] at u'; cases u'
            · -- p was nowhere: the slot held its list before, too
              by_cases hj : j ∈ slotsOf zs
              · obtain ⟨k, hk⟩ := mem_slots.mp hj
                have hk' := (List.getElem?_eq_some_iff.mp hk).1
                have hv : k < vs.length := by rw [ha.1]; exact hk'
                have g := ha.2 k _ _ (List.getElem?_eq_getElem hv) hk
                obtain ⟨hl, get⟩ := cellsOf_get qc
                rcases get k _ _ hk (List.getElem?_eq_getElem (by omega)) with ⟨d, q1, _⟩ | ⟨i', xs1, q1, q2, q3⟩
                · cases q1
                · cases q1
                  obtain ⟨a, us2, f1, f2, f3, f4⟩ := env1.getO q3
                  rw [h3] at f1; cases f1
                  rw [hp] at f2; cases f2
              · rw [backD_out hj] at h1
                obtain ⟨us2, f2, _⟩ := env1.own ⟨j, c, xs, h1, h2, h3⟩
                rw [hp] at f2; cases f2)
      | ex x cs' =>
        intro c dd F' H' env' st' xo
        obtain ⟨b1, b2⟩ := env_back env1 nd qc ha env' st'
        exact w c dd F' H' b1 (st1.trans b2) xo
end
end KL
/-! KL, part i: the own error whose __init__ says super().__init__(what) and self.what = what. -/
namespace KL
section
open PySem PySem.W PySem.Calls PyProof.Rows PySem.HandSPX

def xiA (p1 p2 : Pos) : Arguments := ⟨[], [⟨"self", none, p1⟩, ⟨"what", none, p2⟩], none, [], [], none, []⟩
def xiB (a1 a2 a3 a4 a5 a6 b1 b2 b3 b4 : Pos) : List Stmt :=
  [.Expr (.Call (.Attribute (.Call (.Name "super" a1) [] [] a2) "__init__" a3) [.Name "what" a4] [] a5) a6, .Assign [.Attribute (.Name "self" b1) "what" b2] (.Name "what" b3) b4]
def xiS : Scope := ⟨.function, [(Str.ofString "self", .local), (Str.ofString "what", .local), (Str.ofString "__class__", .free), (Str.ofString "super", .globalImplicit)], false, false, []⟩
/-- what the written part says of the class at C, called x, and of its __init__, at fI -/
structure XTxt (prog : Program) (K : Frag) (mg : Str → Option Value) (x : Str) (C fI : Addr) : Prop where
  gC : mg x = some (.ref C)
  cls : ∃ nm q N bs bm sn sub ab col dd k0 k1 k2 k3 k5, K.lookup C = some (excClassObj nm q C N bs bm true sn sub ab col dd k0 k1 k2 k3 k5 "ValueError.__new__") ∧ refsVE bm = true
  xi : excInitIn K C veTail "ValueError.__new__" = true
  sa : findIn K (.ref C) "__setattr__" = some (some (.builtin "object.__setattr__"))
  ga : findIn K (.ref C) "__getattribute__" = some (some (.builtin "BaseException.__getattribute__"))
  gg : findIn K (.ref C) "__getattr__" = some none
  noN : findIn K (.ref C) "what" = some none
  iC : findIn K (.ref C) "__init__" = some (some (.ref fI))
  tC : typeIn K (.ref fI) = some (.type "function")
  kC : keepIn K (.ref C) = true
  exC : subIn K (.ref C) (.type "BaseException") = some true
  exV : subIn K (.ref C) (.type "ValueError") = some true
  slf : mroIn K C (.ref C) = some true
  tyC : typeIn K (.ref C) = some (.type "type")
  hdC : hasDictIn K C = true
  sup : ks_superIn K C C "__init__" = some (some (.builtin "ValueError.__init__"))
  gS : mg "super" = none
  opq : nsIn K cStatics "thirdparty.any" = some none
  top : (prog.main.scope.names.lookup ("super" : Str)).isSome = false
  fn : ∃ (oc : Value) (od : Option Addr) (qual : Str) (doc pm : Value) (an : Option Addr) (ct : Value) (osl : Array (Option Value)) (cda cc : Addr) (p1 p2 a1 a2 a3 a4 a5 a6 b1 b2 b3 b4 : Pos), (a3.endLine == a5.line) = true ∧
    K.lookup fI = some ⟨oc, od, .func (ksFn "__init__" qual (xiA p1 p2) (xiB a1 a2 a3 a4 a5 a6 b1 b2 b3 b4) xiS .none .none doc pm an (.ref cda) ct cc), osl⟩ ∧ codeIn K (.ref cda) qual = true ∧
    (∃ (ccl : Value) (cdd : Option Addr) (vs : Array Value) (ccs : Array (Option Value)) (file : Str) (tf : Tok), K.lookup cda = some ⟨ccl, cdd, .fields vs, ccs⟩ ∧ vs[2]? = some (.str file tf) ∧ ((prog.main.file : Str) == file) = true) ∧
    ∃ (cl : Value) (cld : Option Addr) (csl : Array (Option Value)), K.lookup cc = some ⟨cl, cld, .cell (some (.ref C)), csl⟩
section
variable {prog : Program} {w : World} {A : Around} {E : Value → Shared → Prop} {s : Shared} {h₀ : Heap} {L : Addr} {m mg mb : Str → Option Value} {news : List (Addr × Obj)} {K : Frag} {x C D f cc cda so : Addr} {ox : Obj} {odx : Option Obj}
/-- super(), in a frame that is known -/
theorem sup_node {body : List Stmt} {q : Str} {scope : Scope} {p0 p1 : Pos} {attr : Str} {whole : Sem Value} {fd : FuncData} {ar : PySem.Arg} {vs : Array Value} {file : Str} {tf : Tok} {oc ccl cl : Value} {od cdd cld : Option Addr} {osl ccs csl : Array (Option Value)} {cdD : ClassData} {Q : Value → Shared → Prop}
    (fr : Fr h₀ L s.heap m) (kin : K.In h₀) (nw : News h₀ L s.heap news) (hG : s.heap.Ns mainGlobals mg) (hgs : mg "super" = none) (hB : s.heap.Ns builtinsNs mb) (hbs : mb "super" = some (.type "super"))
    (lf : K.lookup f = some ⟨oc, od, .func fd, osl⟩) (hp : (fd.params.posonlyargs ++ fd.params.args).head? = some ar) (hv : m ar.arg = some (.ref x)) (at_ : InstAt s.heap x ox C odx)
    (lc : K.lookup cda = some ⟨ccl, cdd, .fields vs, ccs⟩) (hvs : vs[2]? = some (.str file tf)) (hfile : ((prog.main.file : Str) == file) = true)
    (ll : K.lookup cc = some ⟨cl, cld, .cell (some (.ref D)), csl⟩) (hD : clsIn K D = some cdD) (hsub : mroIn K C (.ref D) = some true)
    (hat : (attr == ("__class__" : Str)) = false) (hks : scope.names.lookup ("super" : Str) = some .globalImplicit) (hkc : scope.names.lookup ("__class__" : Str) = some .free) (hka : scope.names.lookup ar.arg = some .local) (hk : scope.kind = .function)
    (htop : (prog.main.scope.names.lookup ("super" : Str)).isSome = false)
    (go : ∀ so h', Fr h₀ L h' m → News h₀ L h' ((so, ks_superObj D x C) :: news) → (∀ p ∈ news, p.1 < so) → Q (.ref so) { s with heap := h' }) :
    _root_.PySem.wpAt (model prog w) A (.func body (ksEnv q scope L f (.ref cda) cc)) (attributeBase (.Call (.Name "super" p0) [] [] p1) attr (ksEnv q scope L f (.ref cda) cc) whole) Q E s := by
  have kn : K.In s.heap := kin.keeps fr.keep
  obtain ⟨hp0, g, d, t, os⟩ := s
  obtain ⟨oD, hD1, hD2⟩ : ∃ oD, hp0.get? D = some oD ∧ oD.data = .cls cdD := by
    unfold clsIn at hD
    split at hD
    case h_1 c d cd' sl ho => cases hD; exact ⟨_, kn _ _ ho, rfl⟩
    case h_2 => cases hD
  refine ks_wpAt_super_base (env := ksEnv q scope L f (.ref cda) cc) hks hkc hat rfl (kn _ _ lf) rfl hp rfl (kn _ _ lc) rfl hvs hfile htop (ks_loadName_global hk hks (loadGlobal_builtin (env := ksEnv q scope L f (.ref cda) cc) hG hgs hB hbs ⟨rfl, ?_⟩))
  refine wpAny_loadName_free hk hkc rfl ⟨_, kn _ _ ll, rfl⟩ (wpAny_loadName_local hk hka fr.ns hv (ks_wpAny_isType_cls hD1 hD2 ⟨rfl, ?_⟩))
  refine ks_wpAny_call_super hD1 hD2 at_.at_ at_.cls (fun c e => ?_) (looks_mroIn kn hsub) (fun h' e k => ?_)
  · have no := at_.no
    unfold notCls at no; rw [e] at no; exact Bool.noConfusion no
  · obtain ⟨f1, n1, l1⟩ := ks_newsPush (s := ⟨hp0, g, d, t, os⟩) fr nw rfl e k
    exact go _ _ f1 n1 l1
end
/-- what __init__ leaves of a fresh exception at x -/
structure InitLeft (h h' : Heap) (x C dx t1 : Addr) (v : Value) : Prop where
  keep : ∀ b o, b ≠ x → h.get? b = some o → h'.get? b = some o
  obj : h'.get? x = some (excObj C t1 (some dx) .none)
  dbig : h.objs.size ≤ dx
  dne : dx ≠ x
  ns : h'.Ns1 dx (fun y => if y = "what" then some v else none)
structure ErrMade (h h' : Heap) (e C d : Addr) (v : Value) : Prop where
  keep : ∀ b o, h.get? b = some o → h'.get? b = some o
  new : h.objs.size ≤ e
  obj : ∃ t1, h'.get? e = some (excObj C t1 (some d) .none)
  dbig : h.objs.size ≤ d
  dne : d ≠ e
  ns : h'.Ns1 d (fun y => if y = "what" then some v else none)
section
variable {prog : Program} {w : World} {A : Around} {R : Result → Shared → Prop} {s : Shared} {K : Frag} {mg mb : Str → Option Value} {n : Str} {C fI : Addr}
theorem ldM {M : Model} {E : Value → Shared → Prop} {env : PySem.Env} {m : Str → Option Value} {y : Str} {pos : Pos} {v : Value} {Q : Value → Shared → Prop} (hn : s.heap.Ns env.locals m) (hv : m y = some v) (h : Q v s)
    (hk : env.scope.kind = .function) (hl : env.kindOf y = some .local) (hd : (y == ("__debug__" : Str)) = false) : wpAny M A (eval (.Name y pos) env) Q E s := wpAny_Name (wpAny_loadName_local hk hl hn hv h) hd
theorem sup_eval {a1 a2 a3 a4 a5 : Pos} {env : PySem.Env} (hp : (a3.endLine == a5.line) = true) : ∃ pl : Sem Bool, eval (.Call (.Attribute (.Call (.Name "super" a1) [] [] a2) "__init__" a3) [.Name "what" a4] [] a5) env = (do
    let ov ← attributeBase (.Call (.Name "super" a1) [] [] a2) "__init__" env (eval (.Call (.Name "super" a1) [] [] a2) env)
    standAt a3.atName
    let (f, first) ← holding [ov] (getMethod ov "__init__" pl)
    callWith a5 f first (backTo a5 (starEach [.Name "what" a4] env)) []) := by
  refine ⟨(do return (← importBound (.Call (.Name "super" a1) [] [] a2) env).getD true), (arm_eval_Call _ _ _ _ _ _ _).trans ?_⟩
  have e : ∀ (few : Bool) (o : Expr), methodCallPos few o env a3 a5 = pure a5 := fun few o => by
    unfold methodCallPos
    rw [hp, Bool.or_true]; rfl
  unfold methodCall
  simp only [e, pure_bind]
  rfl
theorem err_init (T : XTxt prog K mg n C fI) {x t0 : Addr} {v : Value} (kin : K.In s.heap) (hlim : s.heap.NoLimit) (hG : s.heap.Ns mainGlobals mg) (hB : s.heap.Ns builtinsNs mb) (hbs : mb "super" = some (.type "super"))
    (hx : s.heap.get? x = some (excObj C t0 none .none)) (hnx : K.lookup x = none) (hroom : A.depth < recursionLimit)
    (hq : ∀ h' tk dx t1, InitLeft s.heap h' x C dx t1 v → R (.ok (.ret .none)) { s with heap := h', toks := tk }) :
    codeAny (model prog w) A (.call (.ref fI) ⟨[.ref x, v], []⟩) R s := by
  obtain ⟨oc, od, qual, doc, pm, an, ct, osl, cda, cc, p1, p2, a1, a2, a3, a4, a5, a6, b1, b2, b3, b4, hpos, lf, hcd, ⟨ccl, cdd, vs, ccs, file, tf, lc, hvs, hfile⟩, cl, cld, csl, ll⟩ := T.fn
  obtain ⟨nm, q, N, bs, bm, sn, sub, ab, col, dd, k0, k1, k2, k3, k5, hC, hbm⟩ := T.cls
  have hcl : clsIn K C = some { name := nm, bases := bs, mro := .ref C :: bm, ns := N, qualname := q, hasDict := true, slotNames := sn, subclasses := sub, abstract := ab, collection := col, hasDel := false } := by unfold clsIn; rw [hC] <;> rfl
  refine ks_codeAny_call_defAt (binds := [("self", .ref x), ("what", v)]) (body := xiB a1 a2 a3 a4 a5 a6 b1 b2 b3 b4) hroom (kin _ _ lf) rfl hlim (codeRec_of kin hcd) rfl (BindsTo.of_eq (by first | rfl | with_unfolding_all rfl)) (by show ∀ y ∈ xiS.names, y.2 ≠ .cell; decide) (by show ∀ y ∈ [(Str.ofString "self", Value.ref x), (Str.ofString "what", v)], xiS.names.lookup y.1 = some .local; exact locs (by first | rfl | decide | decide +kernel)) (fun h1 hns k => ?_) rfl rfl rfl
  -- the ground: all that stood, but the exception itself
  have kinG : K.In (hideAll s.heap [x]) := fun a o e => hideAll_get _ (kin _ _ e) (by
    intro z
    rw [List.mem_singleton] at z
    rw [z, hnx] at e; cases e)
  have fr : Fr (hideAll s.heap [x]) s.heap.objs.size h1 (fun y => [(("self" : Str), Value.ref x), ("what", v)].reverse.lookup y) := ⟨hns, fun b o e => k b o (of_hideAll _ e), Nat.le_of_eq (hideAll_size _ _)⟩
  have hxL : x ≠ s.heap.objs.size := Nat.ne_of_lt (Heap.lt_size hx)
  have nw : News (hideAll s.heap [x]) s.heap.objs.size h1 [(x, excObj C t0 none .none)] := fun p hp => by
    rw [List.mem_singleton] at hp
    subst hp
    exact ⟨k _ _ hx, hxL, hideAll_none _ (List.mem_singleton.mpr rfl)⟩
  have keepG : ∀ {h' : Heap} {mm : Str → Option Value}, Fr (hideAll s.heap [x]) s.heap.objs.size h' mm → ∀ b o, b ≠ x → s.heap.get? b = some o → h'.get? b = some o := fun F b o hb e => F.keep b o (hideAll_get _ e (by rw [List.mem_singleton]; exact hb))
  -- super().__init__(what)
  obtain ⟨pl, he⟩ := sup_eval (a1 := a1) (a2 := a2) (a4 := a4) (env := ksEnv qual xiS s.heap.objs.size fI (.ref cda) cc) hpos
  refine ks_wpAt_execs_cons (ks_wpAt_Expr_any (ks_wpAt_MethodCall ?_ he))
  refine sup_node (K := K) (odx := none) (D := C) (C := C) (scope := xiS) (q := qual) fr kinG nw (hG.keeps k) T.gS (hB.keeps k) hbs lf rfl rfl ⟨k _ _ hx, rfl, rfl, trivial⟩ lc hvs hfile ll hcl T.slf (by decide) rfl rfl rfl rfl T.top fun so h2 fr2 nw2 lt2 => ?_
  have x2 : h2.get? x = some (excObj C t0 none .none) := (nw2 (x, excObj C t0 none .none) (by simp)).1
  refine kxs_method (so := so) (odx := none) kxs_ValueError fr2 kinG nw2 (.head _) ⟨x2, rfl, rfl, trivial⟩ T.opq T.sup T.exV (by decide) fun u h3 fr3 nw3 lt3 => ?_
  refine kxs_callWith1 nw3 (.head _) ?_ rfl rfl
  have hne : so ≠ x := Ne.symm (Nat.ne_of_lt (lt2 (x, excObj C t0 none .none) (by simp)))
  have hnu : u ≠ x := Ne.symm (Nat.ne_of_lt (lt3 (x, excObj C t0 none .none) (by simp)))
  refine PySem.Calls.spliced_cons (ldM fr3.ns (v := v) rfl (PySem.Calls.spliced_nil ⟨?_, ?_⟩) rfl rfl rfl)
  · exact kxs_at nw3 (.head _)
  refine kxs_call fr3 kinG nw3 PySem.F.excBase_ValueError T.xi (.head _) (.tail hnu (.tail hne (.head (by simp)))) (by show 1 ≤ sizeLine; rw [sizeLine_eq]; omega) fun t1 h4 fr4 nw4 lt4 => ?_
  -- self.what = what
  refine wpAt_of_wpAny (wpAny_execs_cons (plainObj_wpAny_Assign_Attribute (ldM fr4.ns rfl (ldM fr4.ns rfl ?_ rfl rfl rfl) rfl rfl rfl)))
  have x4 : h4.get? x = some (excObj C t1 none .none) := (nw4 (x, excObj C t1 none .none) (by simp)).1
  refine set_plain (kinG.keeps fr4.keep) (ox := excObj C t1 none .none) (od := none) ⟨x4, rfl, rfl, trivial⟩ T.sa ?_
  refine exc_osa (kinG.keeps fr4.keep) x4 hcl (show refsVE (.ref C :: bm) = true from hbm) rfl T.noN (fun h5 tk5 dx k5 dn dne x5 n5 => ?_)
  refine wpAny_execs_nil (hq h5 tk5 dx t1 ⟨fun b o hb e => k5 b o hb (keepG fr4 b o hb e), x5, ?_, dne, n5⟩)
  exact Nat.le_of_lt (Nat.lt_of_lt_of_le (fr4.ns.lt) dn)
theorem err_made (T : XTxt prog K mg n C fI) {v : Value} (kin : K.In s.heap) (hlim : s.heap.NoLimit) (hG : s.heap.Ns mainGlobals mg) (hB : s.heap.Ns builtinsNs mb) (hbs : mb "super" = some (.type "super")) (hroom : A.depth + 1 < recursionLimit)
    (hq : ∀ h' tk e d, ErrMade s.heap h' e C d v → R (.ok (.ret (.ref e))) { s with heap := h', toks := tk }) : codeAny (model prog w) A (.call (.ref C) ⟨[v], []⟩) R s := by
  obtain ⟨nm, q, N, bs, bm, sn, sub, ab, col, dd, k0, k1, k2, k3, k5, hC, hbm⟩ := T.cls
  obtain ⟨hp, g, dr, tk, os⟩ := s
  have up : ∀ b o, hp.get? b = some o → ((hp.push (kdv_tup [v])).push (excO C hp.objs.size)).get? b = some o := fun b o e => Heap.get?_push_of_some _ (Heap.get?_push_of_some _ e)
  have hget : ((hp.push (kdv_tup [v])).push (excO C hp.objs.size)).get? (hp.objs.size + 1) = some (excO C hp.objs.size) := by heap_get
  have hnx : K.lookup (hp.objs.size + 1) = none := by
    cases e : K.lookup (hp.objs.size + 1) with
    | none => rfl
    | some o => exact absurd (Nat.lt_of_succ_lt (Heap.lt_size (show hp.get? (hp.objs.size + 1) = some o from kin _ _ e))) (Nat.lt_irrefl _)
  refine call_own F.excBase_ValueError (fun Y => refsVE_contains Y bm hbm) (kin _ _ hC) (looks_findIn kin T.iC) (fun self => bind_fn kin self T.tC) (by show 1 ≤ sizeLine; rw [sizeLine_eq]; omega)
    (err_init (s := ⟨(hp.push (kdv_tup [v])).push (excO C hp.objs.size), g, dr, tk, os⟩) T (kin.keeps up) (hlim.keeps up) (hG.keeps up) (hB.keeps up) hbs hget hnx (by show A.depth + 1 < recursionLimit; exact hroom) fun h' tk' dx t1 M => ?_)
  have old : ∀ b o, hp.get? b = some o → h'.get? b = some o := fun b o e => M.keep b o (Nat.ne_of_lt (Nat.lt_succ_of_lt (Heap.lt_size e))) (up b o e)
  have z : hp.objs.size + 1 + 1 ≤ dx := by
    have q := M.dbig
    rw [Heap.size_push, Heap.size_push] at q; exact q
  exact ⟨rfl, hq h' tk' (hp.objs.size + 1) dx ⟨old, Nat.le_succ _, ⟨t1, M.obj⟩, Nat.le_trans (Nat.le_add_right _ 2) z, M.dne, M.ns⟩⟩
end
end
end KL
/-! KL, part j: raise, try, calls of defs. -/
namespace KL
open PySem L2

/-! ### raise InvalidX(e) -/
theorem relO_what {v : V} {u : Value} (r : RelV v u) (f : Str) : RelO (List.lookup f [(("what" : Str), v)]) (if f = "what" then some u else none) := by
  by_cases h : f = "what"
  · rw [h, if_pos rfl]; exact r
  · have q : (f == ("what" : Str)) = false := by simpa using h
    rw [if_neg h, List.lookup_cons, q]; trivial
def tWhat (C : Addr) (ta : TA) : L2.St → Hp → XK → Prop := fun σ H Q => ta σ H fun vs H1 => ∃ v, vs = [v] ∧ ∀ d, H1 d = none → Q (.ref C) (some d) (upd H1 d (.xd [(("what" : Str), v)]))
section
variable {X : Cx} {L : Lx} {W : WX} {C fI : Addr} {n : Str} {k : Nat} {a : Expr} {p pos pos2 : Pos}
open PyProof.Rows PySem.W in
theorem pmk_what {ta : TA} (T : XTxt X.prog X.K X.mg n C fI) (hr : Room k X.A) (ha : PA X [a] ta) (hg : Gl X n) (hdb : (n == ("__debug__" : Str)) = false)
    (hs : starEach [a] X.env = (false, eval a X.env) :: starEach [] X.env := by rfl) (hpl : (backTo pos (starEach [] X.env)).any (·.1) = false := by rfl) : PMk X (.Call (.Name n p) [a] [] pos) (tWhat C ta) := by
  intro pins s σ H Q I h
  refine wpAny_Call_Name_kw (ld_glob I hg T.gC (callWith_K (h₀ := X.base) I.ok.mod.kin T.kC (thn (ha.run pos pins s σ H _ I h) fun us s1 ⟨vs, H1, I1, r1, v, ev, q1⟩ => ⟨I1.kIn, ?_⟩) hs hpl) hdb)
  subst ev
  cases r1 with
  | cons rv rn =>
    cases rn
    show wpAny _ _ (call (.ref C) [_]) _ _ _
    obtain ⟨mb, bm1, bm2⟩ := I1.mod.blt
    have hlim := I1.nolimit
    obtain ⟨hp, g, dr, tk, os⟩ := s1
    refine wpAny_call (err_made T I1.kIn hlim (I1.mod.glob.keeps I1.bk) (bm1.keeps I1.bk) ((bm2 "super" (by decide)).trans (by first | rfl | kernel_rfl)) (by have := hr.dp; omega) fun h' tk' e d M => ?_)
    obtain ⟨t1, hoe⟩ := M.obj
    obtain ⟨G, g1, g2⟩ := restrict h' fun b => decide (b ≠ e)
    have gk : ∀ b, b ≠ e → G.get? b = h'.get? b := fun b hb => g1 b (decide_eq_true hb)
    have ge : G.get? e = none := g2 e (by simp)
    have ob : ObjOk X.prog X.w (upd H1 d (.xd [(("what" : Str), v)])) G d (.xd [(("what" : Str), v)]) := ⟨_, M.ns.at (fun o q => (gk d M.dne).trans q), fun f => relO_what rv f⟩
    have J : Inv X pins σ (upd H1 d (.xd [(("what" : Str), v)])) ⟨G, g, dr, tk', os⟩ := I1.laid (t' := tk') (fun b o q => (gk b (Nat.ne_of_lt (Nat.lt_of_lt_of_le (Heap.lt_size q) M.new))).trans (M.keep b o q)) M.dbig ob
    refine ⟨e, _, _, ⟨G, g, dr, tk', os⟩, _, .ref C, some d, rfl, J, fun b o q => ?_, ge, hoe, ⟨rfl, rfl⟩, rfl, rfl, ?_, rfl, I1.bare, raises_own T.exC T.tyC, q1 d (I1.hok.fresh M.dbig)⟩
    · by_cases hb : b = e
      · exact absurd (show G.get? b = some o from q) (by rw [hb, ge]; intro z; cases z)
      · exact (gk b hb).symm.trans q
    · rw [upd_ne (Ne.symm M.dne)]; exact I1.hok.fresh M.new
def raiseM (cls f : Str) (m : DEnv → Res D) : DEnv → SRes := fun Δ => (m Δ).s fun d Δ1 => .ex (.mk cls [(f, d)]) Δ1
theorem s_raise {ma : DEnv → Res D} (hc : X.calm = true) (T : XTxt X.prog X.K X.mg n C fI) (hr : Room k X.A) (tk : Takes X W) (hct : L.ct n = some C) (ha : DE X L W a ma) (hg : Gl X n) (hdb : (n == ("__debug__" : Str)) = false := by decide)
    (hs : starEach [a] X.env = (false, eval a X.env) :: starEach [] X.env := by rfl) (hpl : (backTo pos (starEach [] X.env)).any (·.1) = false := by rfl) : DS X L W (.Raise (some (.Call (.Name n p) [a] [] pos)) none pos2) (raiseM n "what" ma) := by
  obtain ⟨te, p1, s1⟩ := ha.ex
  refine ⟨_, ps_raise hc tk (pmk_what T hr (pa_cons p1 pa_nil hs) hg hdb hs hpl), fun σ Δ F H D env w => ?_⟩
  refine s1 σ Δ F H _ env ((Want.ofS w).mono fun d Δ1 F1 H1 env1 w1 v r => ⟨v, rfl, fun dd hd => ?_⟩)
  have g : Gro F1 H1 (upd F1 dd (.xd [(("what" : Str), v)])) (upd H1 dd (.xd [(("what" : Str), v)])) := Gro.new env1.ex hd
  refine w1 σ (.ref C) (some dd) _ _ (env1.gro g) (.gro g) ⟨C, dd, [(("what" : Str), v)], rfl, hct, rfl, upd_same, rfl, fun i a b h1 h2 => ?_, fun i a b h1 h2 => ?_⟩
  · cases i with
    | zero => cases h1; cases h2; rfl
    | succ i => simp at h1
  · cases i with
    | zero => cases h1; cases h2; exact r.mono g.f
    | succ i => simp at h1

/-! ### err.f within an except suite -/
def xfM (i : Nat) (f : Str) : DEnv → Res D := fun Δ => match Δ[i]? with
  | some (.xc (.mk _ fs)) => .opt (fs.lookup f) Δ
  | _ => .stuck
theorem lookup_rep {K : PySem.W.Frag} {F : Hp} {f : Str} {d : D} : ∀ {fvs : List (Str × V)} {fs : List (Str × D)}, fvs.length = fs.length → (∀ (i : Nat) p q, fvs[i]? = some p → fs[i]? = some q → p.1 = q.1) → (∀ (i : Nat) p q, fvs[i]? = some p → fs[i]? = some q → Rep K F p.2 q.2) →
    fs.lookup f = some d → ∃ v, fvs.lookup f = some v ∧ Rep K F v d
  | [], [], _, _, _, h => by cases h
  | p :: fvs, q :: fs, hl, hk, hv, h => by
    have e := hk 0 p q rfl rfl
    rw [List.lookup_cons] at h
    obtain ⟨p1, p2⟩ := p
    obtain ⟨q1, q2⟩ := q
    cases e
    rw [List.lookup_cons]
    cases c : f == p1 with
    | true => rw [c] at h; cases h; exact ⟨p2, rfl, hv 0 _ _ rfl rfl⟩
    | false => rw [c] at h; exact lookup_rep (by simpa using hl) (fun i a b => hk (i + 1) a b) (fun i a b => hv (i + 1) a b) h
theorem d_xf {oe : Obj} {cls : Value} {d : Option Addr} {e : Addr} {pn : List (Addr × Obj)} {y f : Str} {i : Nat} {W : WX} (hgood : ∀ m C, L.ct m = some C → XfC X.K C ∧ PySem.W.findIn X.K (.ref C) f = some none) (hz : Zc cls d oe) (hf : ∃ vs, oe.data = .fields vs)
    (hN : X.N[i]? = some y) (hv : Vis X.env.scope y) (hd : (y == ("__debug__" : Str)) = false := by decide) (hcd : (y == ("__classdict__" : Str)) = false := by decide) (hb : attributeBase (.Name y p) f X.env (eval (.Name y p) X.env) = eval (.Name y p) X.env := by rfl) :
    DE (X.suite e ((e, oe) :: pn)) { L with xa := some (e, cls, d) } W (.Attribute (.Name y p) f pos) (xfM i f) := by
  by_cases hc : ∃ m C, L.ct m = some C ∧ cls = .ref C
  · obtain ⟨m, C, h1, h2⟩ := hc
    obtain ⟨T, hno⟩ := hgood m C h1
    refine ⟨_, pe_xf (C := C) T hno hz hf (pe_var hN hv hd hcd) hb, fun σ Δ F H Q env w => ?_⟩
    unfold xfM at w
    split at w
    case h_2 => exact w.elim
    rename_i c0 fs hi
    obtain ⟨a1, c1, dd1, e1, e2, C1, dx, fvs, e3, e4, e5, e6, e7, e8, e9⟩ := env.cells i _ hi
    cases e1
    cases q : fs.lookup f with
    | none => rw [q] at w; exact w.elim
    | some dv =>
      rw [q] at w
      obtain ⟨v, g1, g2⟩ := lookup_rep e7 e8 e9 q
      exact ⟨_, slot_some e2, rfl, h2, dx, fvs, v, e5, env.ex _ _ e6, g1, w F H env .refl v g2⟩
  · refine ⟨fun _ _ _ => False, ⟨fun pins s σ H Q I h => h.elim⟩, fun σ Δ F H Q env w => ?_⟩
    unfold xfM at w
    split at w
    case h_2 => exact w.elim
    rename_i c0 fs hi
    obtain ⟨a1, c1, dd1, e1, e2, C1, dx, fvs, e3, e4, e5, e6, e7, e8, e9⟩ := env.cells i _ hi
    cases e1
    exact hc ⟨_, _, e4, e3⟩
end

/-! ### try: .. except x as n: .. -/
def noXc (Δ : DEnv) : Bool := Δ.all fun c => match c with | .xc _ => false | _ => true
def SRes.del (i : Nat) : SRes → SRes
  | .nx Δ => if noXc (Δ.set i .no) && canSet Δ i then .nx (Δ.set i .no) else .stuck
  | .bk Δ => if noXc (Δ.set i .no) && canSet Δ i then .bk (Δ.set i .no) else .stuck
  | .ct Δ => if noXc (Δ.set i .no) && canSet Δ i then .ct (Δ.set i .no) else .stuck
  | .rt d Δ => if noXc (Δ.set i .no) && canSet Δ i then .rt d (Δ.set i .no) else .stuck
  | _ => .stuck
def tryM (i : Nat) (hm : Str → Option Bool) (mb ms : DEnv → SRes) : DEnv → SRes := fun Δ => match mb Δ with
  | .ex (.mk n fs) Δ1 => match hm n with
    | some true => if noXc Δ1 && canSet Δ1 i then SRes.del i (ms (Δ1.set i (.xc (.mk n fs)))) else .stuck
    | some false => .ex (.mk n fs) Δ1
    | none => .stuck
  | r => r
section
variable {X : Cx} {L : Lx} {W : WX} {σ σ' : L2.St} {Δ Δ' : DEnv} {F F' H H' : Hp}
theorem EnvOk.xa {ya : Option (Addr × Value × Option Addr)} (env : EnvOk L F σ Δ H) (h : noXc Δ = true) : EnvOk { L with xa := ya } F σ Δ H := by
  refine ⟨env.ex, env.len, fun i c hc => ?_, env.apart⟩
  have k := env.cells i c hc
  cases c with
  | xc x => have := List.all_eq_true.mp h _ (List.mem_of_getElem? hc); cases this
  | _ => exact k
theorem EnvOk.drop {i : Nat} {u : Option V} (env : EnvOk L F σ Δ H) (hi : canSet Δ i = true) : EnvOk L F (σ.set i u) (Δ.set i .no) H := by
  have hs : i < σ.length := by rw [env.len]; exact canSet_lt hi
  have sl : ∀ j, j ≠ i → slot (σ.set i u) j = slot σ j := fun j hj => by unfold slot; rw [List.getElem?_set_ne (Ne.symm hj)]
  refine ⟨env.ex, by rw [List.length_set, List.length_set]; exact env.len, fun j c hj => ?_, fun j k c1 c2 xs ys a hjk hj hk h1 h2 e1 e2 => ?_⟩
  · rcases list_set_get hj with ⟨rfl, rfl⟩ | ⟨nj, hj⟩
    · trivial
    · rw [sl j nj]; exact env.cells j c hj
  · rcases list_set_get hj with ⟨_, rfl⟩ | ⟨nj, gj⟩
    · cases h1
    rcases list_set_get hk with ⟨_, rfl⟩ | ⟨nk, gk⟩
    · cases h2
    rw [sl j nj] at e1
    rw [sl k nk] at e2
    exact env.apart j k c1 c2 xs ys a hjk gj gk h1 h2 e1 e2
theorem Step.drop {σ1 : L2.St} {Δ1 : DEnv} {F1 H1 : Hp} {i : Nat} {u : Option V} (s : Step σ Δ F H σ1 Δ1 F1 H1) (hi : canSet Δ1 i = true) : Step σ Δ F H (σ1.set i u) (Δ1.set i .no) F1 H1 := by
  have sl : ∀ j, j ≠ i → slot (σ1.set i u) j = slot σ1 j := fun j hj => by unfold slot; rw [List.getElem?_set_ne (Ne.symm hj)]
  refine ⟨s.fr, s.kp, s.fn, fun b ⟨j, c', ys, hj, h1, e⟩ => ?_, fun j ys hj => ?_, fun j ys hj => ?_, s.th⟩
  · rcases list_set_get hj with ⟨_, rfl⟩ | ⟨nj, hj⟩
    · cases h1
    · rw [sl j nj] at e; exact s.ow b ⟨j, c', ys, hj, h1, e⟩
  · obtain ⟨xs', e1, e2⟩ := s.pa j ys hj
    have nj : j ≠ i := fun z => by subst z; exact absurd e1 (canSet_pa hi)
    exact ⟨xs', by rw [List.getElem?_set_ne (Ne.symm nj)]; exact e1, by rw [sl j nj]; exact e2⟩
  · rcases list_set_get hj with ⟨_, e⟩ | ⟨nj, hj⟩
    · cases e
    · exact s.pb j ys hj
theorem getSet_slot {i : Nat} {v : V} {σ : L2.St} : (σ.set i v) = (σ.set i v) := rfl
theorem EnvOk.rt {i : Nat} (env : EnvOk L F σ Δ H) (hi : canSet Δ i = true) : EnvOk L F σ (Δ.set i .no) H := by
  have h := env.drop (u := (σ[i]?).join) hi
  have hs : i < σ.length := by rw [env.len]; exact canSet_lt hi
  have e : σ.set i ((σ[i]?).join) = σ := by
    rw [List.getElem?_eq_getElem hs]
    exact List.set_getElem_self hs
  rw [e] at h; exact h
theorem Step.rt {σ1 : L2.St} {Δ1 : DEnv} {F1 H1 : Hp} {i : Nat} (s : Step σ Δ F H σ1 Δ1 F1 H1) (hl : σ1.length = Δ1.length) (hi : canSet Δ1 i = true) : Step σ Δ F H σ1 (Δ1.set i .no) F1 H1 := by
  have h := s.drop (u := (σ1[i]?).join) hi
  have hs : i < σ1.length := by rw [hl]; exact canSet_lt hi
  have e : σ1.set i ((σ1[i]?).join) = σ1 := by
    rw [List.getElem?_eq_getElem hs]
    exact List.set_getElem_self hs
  rw [e] at h; exact h
/-- the weakest reading of a list of statements, in all contexts of a kind -/
def inf {ι : Type} (good : ι → Prop) (Xs : ι → Cx) (sts : List Stmt) : TS := fun D σ H => ∀ i, good i → ∃ t, PSs (Xs i) sts t ∧ t D σ H
theorem inf_pss {ι : Type} {good : ι → Prop} {Xs : ι → Cx} {sts : List Stmt} {i : ι} (h : good i) : PSs (Xs i) sts (inf good Xs sts) := ⟨fun pins s σ H D I w => let ⟨t, p, q⟩ := w i h; p.run pins s σ H D I q⟩
theorem inf_snd {ι : Type} {good : ι → Prop} {Xs : ι → Cx} {sts : List Stmt} {m : DEnv → SRes} (h : ∀ i, good i → DSs (Xs i) L W sts m) : SndS L W (inf good Xs sts) m := fun σ Δ F H D env w i hi => let ⟨t, p, sd⟩ := (h i hi).ex; ⟨t, p, sd σ Δ F H D env w⟩
theorem s_try {x n : Str} {c : Value} {i : Nat} {body suite : List Stmt} {b0 : Stmt} {np pos pos' : Pos} {hm : Str → Option Bool} {mb ms : DEnv → SRes} (hs : X.stack = X.env :: X.outer) (hf : X.env.frame = some X.env.locals) (hN : X.N.Nodup) (hi : X.N[i]? = some n) (hln : X.env.kindOf n = some .local) (hc : Names X x c) (tk : Takes X W)
    (hh : ∀ m b, hm m = some b → ∀ C, L.ct m = some C → PySem.W.exmOne X.K (.ref C) c = some b)
    (hb : ∀ (W' : WX) (pn : List (Addr × Obj)) (xe : Value → Shared → Prop), Takes (X.tr pn xe) W' → PassesOwn (model X.prog X.w) X.A X.env xe → DSs (X.tr pn xe) L W' body mb)
    (hsu : ∀ (a : Addr) (oe : Obj) (cls : Value) (d : Option Addr) (pn : List (Addr × Obj)), Zc cls d oe → (∃ vs, oe.data = .fields vs) → DSs (X.suite a ((a, oe) :: pn)) { L with xa := some (a, cls, d) } (fun _ _ _ _ => False) (b0 :: suite) ms) :
    DS X L W (.Try body [.ExceptHandler (some (.Name x np)) (some n) (b0 :: suite) pos'] [] [] pos) (tryM i hm mb ms) := by
  refine ⟨_, ps_try_as (ts := fun a cls d => inf (ι := Obj × List (Addr × Obj)) (fun z => Zc cls d z.1 ∧ ∃ vs, z.1.data = .fields vs) (fun z => X.suite a ((a, z.1) :: z.2)) (b0 :: suite)) (tb := fun W' => inf (ι := List (Addr × Obj) × (Value → Shared → Prop)) (fun z => Takes (X.tr z.1 z.2) W' ∧ PassesOwn (model X.prog X.w) X.A X.env z.2) (fun z => X.tr z.1 z.2) body)
    hs hf hN hi hln hc tk (fun W' pn xe t1 t2 => inf_pss (Xs := fun z : List (Addr × Obj) × (Value → Shared → Prop) => X.tr z.1 z.2) (i := (pn, xe)) (And.intro t1 t2)) (fun a oe cls d pn hz hf => inf_pss (Xs := fun z : Obj × List (Addr × Obj) => X.suite a ((a, z.1) :: z.2)) (i := (oe, pn)) (And.intro hz hf)), fun σ Δ F H D env w => ?_⟩
  refine inf_snd (L := L) (m := mb) (fun z hz => hb _ z.1 z.2 hz.1 hz.2) σ Δ F H D env ?_
  unfold tryM at w
  generalize mb Δ = r at w ⊢
  cases r with
  | stuck => exact w
  | nx Δ1 => exact w
  | rt d Δ1 => exact w
  | rf d Δ1 => exact w
  | bk Δ1 => exact w
  | ct Δ1 => exact w
  | ex x0 Δ1 =>
    obtain ⟨n0, fs⟩ := x0
    intro σ1 cls dd F1 H1 env1 st1 xo
    have xo' := xo
    obtain ⟨C0, d0, fvs, e1, e2, e3, e4, e5, e6, e7⟩ := xo
    replace w : WantS L W σ Δ F H (match hm n0 with
      | some true => if noXc Δ1 && canSet Δ1 i then SRes.del i (ms (Δ1.set i (.xc (.mk n0 fs)))) else .stuck
      | some false => .ex (.mk n0 fs) Δ1
      | none => .stuck) D := w
    cases q : hm n0 with
    | none => rw [q] at w; exact w.elim
    | some b =>
      have hx := hh n0 b q C0 e2
      rw [← e1] at hx
      cases b with
      | false => rw [q] at w; exact ⟨false, hx, fun z => Bool.noConfusion z, fun _ => w σ1 cls dd F1 H1 env1 st1 xo'⟩
      | true =>
        rw [q] at w
        refine ⟨true, hx, fun _ a ha => ?_, fun z => Bool.noConfusion z⟩
        replace w : WantS L W σ Δ F H (if noXc Δ1 && canSet Δ1 i then SRes.del i (ms (Δ1.set i (.xc (.mk n0 fs)))) else .stuck) D := w
        split at w
        case isFalse => exact w.elim
        rename_i hg
        obtain ⟨g1, g2⟩ := Bool.and_eq_true_iff.mp hg
        have env2 : EnvOk { L with xa := some (a, cls, dd) } F1 (σ1.set i (some (.ref a))) (Δ1.set i (.xc (.mk n0 fs))) H1 := (env1.xa g1).setC g2 ⟨a, cls, dd, rfl, rfl, xo'⟩ fun xs b h => by cases h
        have st2 : Step σ Δ F H (σ1.set i (some (.ref a))) (Δ1.set i (.xc (.mk n0 fs))) F1 H1 := st1.setC env1.len g2 (fun xs h => by cases h) fun xs h => by cases h
        refine inf_snd (L := { L with xa := some (a, cls, dd) }) (m := ms) (fun z hz => hsu a z.1 cls dd z.2 hz.1 hz.2) _ _ F1 H1 _ env2 ?_
        have back : ∀ {σ' : L2.St} {Δ' : DEnv} {F' H' : Hp}, EnvOk { L with xa := some (a, cls, dd) } F' σ' Δ' H' → noXc (Δ'.set i .no) = true → canSet Δ' i = true → EnvOk L F' (σ'.set i none) (Δ'.set i .no) H' ∧ EnvOk L F' σ' (Δ'.set i .no) H' := fun e h1 h2 =>
          ⟨(e.drop h2).xa (ya := L.xa) h1, (e.rt h2).xa (ya := L.xa) h1⟩
        generalize ms (Δ1.set i (.xc (.mk n0 fs))) = r at w ⊢
        cases r with
        | stuck => exact w
        | ex _ _ => exact w.elim
        | rf _ _ => exact w.elim
        | nx Δ' =>
          intro σ' F' H' e t
          replace w : WantS L W σ Δ F H (if noXc (Δ'.set i .no) && canSet Δ' i then SRes.nx (Δ'.set i .no) else .stuck) D := w
          split at w
          · rename_i hz; obtain ⟨z1, z2⟩ := Bool.and_eq_true_iff.mp hz
            exact w _ F' H' (back e z1 z2).1 ((st2.trans t).drop z2)
          · exact w.elim
        | bk Δ' =>
          intro σ' F' H' e t
          replace w : WantS L W σ Δ F H (if noXc (Δ'.set i .no) && canSet Δ' i then SRes.bk (Δ'.set i .no) else .stuck) D := w
          split at w
          · rename_i hz; obtain ⟨z1, z2⟩ := Bool.and_eq_true_iff.mp hz
            exact w _ F' H' (back e z1 z2).1 ((st2.trans t).drop z2)
          · exact w.elim
        | ct Δ' =>
          intro σ' F' H' e t
          replace w : WantS L W σ Δ F H (if noXc (Δ'.set i .no) && canSet Δ' i then SRes.ct (Δ'.set i .no) else .stuck) D := w
          split at w
          · rename_i hz; obtain ⟨z1, z2⟩ := Bool.and_eq_true_iff.mp hz
            exact w _ F' H' (back e z1 z2).1 ((st2.trans t).drop z2)
          · exact w.elim
        | rt d Δ' =>
          intro σ' v F' H' e t r
          replace w : WantS L W σ Δ F H (if noXc (Δ'.set i .no) && canSet Δ' i then SRes.rt d (Δ'.set i .no) else .stuck) D := w
          split at w
          · rename_i hz; obtain ⟨z1, z2⟩ := Bool.and_eq_true_iff.mp hz
            exact w _ v F' H' (back e z1 z2).2 ((st2.trans t).rt e.len z2) r
          · exact w.elim
end

/-! ### calls of defs -/
section
variable {X : Cx} {L : Lx} {W : WX} {k : Nat} {f : Addr} {fd : FuncData} {ps : List Str} {mf : DEnv → FRes} {x : Str} {p pos : Pos} {e : Expr} {es : List Expr} {m : DEnv → Res (List Arg)}
theorem d_call (Fn : FnOk X.prog X.w X.K X.mg X.base (L2.CX X.prog X.w) k f fd ps (spD L ps.length mf)) (hr : Room k X.A) (hg : Gl X x) (hm : X.mg x = some (.ref f)) (hk : PySem.W.keepIn X.K (.ref f) = true) (hb : Binds X.K fd ps []) (tk : Takes X W) (ha : DC X L W (e :: es) m)
    (hl : (e :: es).length = ps.length := by rfl) (hdb : (x == ("__debug__" : Str)) = false := by decide) (he : starEach (e :: es) X.env = (false, eval e X.env) :: starEach es X.env := by rfl) (hpl : (backTo pos (starEach es X.env)).any (·.1) = false := by rfl) :
    DE X L W (.Call (.Name x p) (e :: es) [] pos) (callM mf m) := by
  obtain ⟨ta, p1, s1⟩ := ha.ex
  exact ⟨_, pe_callS Fn hr hg hm hk hb (fun σ => passAt tk σ) p1 hdb he hpl, snd_call (fun zs Δ Δ1 h => (ha.ln Δ zs Δ1 h).trans hl) s1⟩
theorem d_callF (Fn : FnOk X.prog X.w X.K X.mg X.base (L2.CX X.prog X.w) k f fd ps (spD L ps.length mf)) (hr : Room k X.A) (hg : Gl X x) (hm : X.mg x = some (.ref f)) (hk : PySem.W.keepIn X.K (.ref f) = true) (hb : Binds X.K fd ps []) (tk : Takes X W) (ha : DC X L W (e :: es) m)
    (hl : (e :: es).length = ps.length := by rfl) (hdb : (x == ("__debug__" : Str)) = false := by decide) (he : starEach (e :: es) X.env = (false, eval e X.env) :: starEach es X.env := by rfl) (hpl : (backTo pos (starEach es X.env)).any (·.1) = false := by rfl) :
    DF X L W (.Call (.Name x p) (e :: es) [] pos) (callF mf m) := by
  obtain ⟨ta, p1, s1⟩ := ha.ex
  exact ⟨_, pe_callS Fn hr hg hm hk hb (fun σ => passAt tk σ) p1 hdb he hpl, snd_callF (fun zs Δ Δ1 h => (ha.ln Δ zs Δ1 h).trans hl) s1⟩
/-- a def that takes nothing -/
theorem d_call0 (Fn : FnOk X.prog X.w X.K X.mg X.base (L2.CX X.prog X.w) k f fd ps (spD L ps.length mf)) (hr : Room k X.A) (hg : Gl X x) (hm : X.mg x = some (.ref f)) (hk : PySem.W.keepIn X.K (.ref f) = true) (hb : Binds X.K fd ps []) (tk : Takes X W)
    (hl : 0 = ps.length := by rfl) (hdb : (x == ("__debug__" : Str)) = false := by decide) : DE X L W (.Call (.Name x p) [] [] pos) (callM mf fun Δ => .ok [] Δ) :=
  ⟨tCallS (spD L ps.length mf) (WE W) tNil, ⟨fun pins s σ H Q I h => wpAny_Call_Name_kw (ld_glob I hg hm (PySem.W.callWith_K0 I.kIn hk (run_fnS (us := []) Fn hr hb (passAt tk σ) I .nil h)) hdb)⟩,
    snd_call (fun zs Δ Δ1 h => by cases h; exact hl) fun σ Δ F H Q env w => w F H env .refl [] ⟨rfl, fun k v z h => by simp at h⟩⟩
end
end KL
/-! KL, part k: further operations. -/
namespace KL
open PySem L2
section
variable {X : Cx} {L : Lx} {W : WX} {σ : L2.St} {Δ : DEnv} {F H : Hp} {e a b c : Expr} {es : List Expr} {me ma mb mc : DEnv → Res D} {p pos : Pos} {x : Str}
/-! ### -e -/
def negM (m : DEnv → Res D) : DEnv → Res D := fun Δ => (m Δ).bind fun d Δ1 => match d with
  | .int i => .ok (.int (-i)) Δ1
  | _ => .stuck
theorem d_neg (h : DE X L W e me) : DE X L W (.UnaryOp .USub e pos) (negM me) := by
  obtain ⟨te, p1, s1⟩ := h.ex
  refine ⟨_, pe_un un_neg p1, fun σ Δ F H Q env w => s1 σ Δ F H _ env (w.bind.mono fun d Δ1 F1 H1 env1 w1 v r => ?_)⟩
  cases d with
  | int i => cases r; exact ⟨i, rfl, w1 F1 H1 env1 .refl _ (.int _)⟩
  | _ => exact w1.elim
/-! ### range(a, b, c) -/
def rangeC (lo c : Int) (n : Nat) : List D := (List.range n).map fun i => .int (lo + (i : Nat) * c)
theorem itok_rangeC {lo c : Int} {n : Nat} : ItOk L F (Itc lo c n) (rangeC lo c n) := by
  intro i F' H' e1 e2
  refine ⟨fun d hd => ?_, fun hl => ?_⟩
  · unfold rangeC at hd
    rw [List.getElem?_map] at hd
    cases q : (List.range n)[i]? with
    | none => rw [q] at hd; cases hd
    | some j =>
      rw [q] at hd
      cases hd
      have hi : i < n := by have := (List.getElem?_eq_some_iff.mp q).1; simpa using this
      have hj : j = i := by rw [List.getElem?_range hi] at q; cases q; rfl
      subst hj
      refine ⟨hi, fun x H'' y => ?_⟩
      obtain ⟨rfl, rfl⟩ := y
      exact ⟨F', .refl e2, .int _⟩
  · have : (rangeC lo c n).length = n := by simp [rangeC]
    show n ≤ i
    omega
def range3M (ma mb mc : DEnv → Res D) : DEnv → Res (List D) := fun Δ => (ma Δ).bind fun d Δ1 => (mb Δ1).bind fun d2 Δ2 => (mc Δ2).bind fun d3 Δ3 => match d, d2, d3 with
  | .int i, .int j, .int k => gd (decide (k ≠ 0 ∧ k.natAbs < 1073741824 ∧ Builtin.Range.small i j k = true ∧ 0 ≤ Builtin.Range.rangeSize i j k)) (.ok (rangeC i k (Builtin.Range.rangeSize i j k).toNat) Δ3)
  | _, _, _ => .stuck
theorem i_range3 {tg : Expr} (hg : Gl X "range") (hm : X.mg "range" = none) (h : DE X L W a ma) (h2 : DE X L W b mb) (h3 : DE X L W c mc)
    (hs : starEach [a, b, c] X.env = (false, eval a X.env) :: starEach [b, c] X.env := by rfl) (hs2 : starEach [b, c] X.env = (false, eval b X.env) :: starEach [c] X.env := by rfl) (hs3 : starEach [c] X.env = (false, eval c X.env) :: starEach [] X.env := by rfl)
    (hpl : (backTo pos (starEach [b, c] X.env)).any (·.1) = false := by rfl) : DI X L W tg (.Call (.Name "range" p) [a, b, c] [] pos) (range3M ma mb mc) := by
  obtain ⟨ta, p1, s1⟩ := h.ex
  obtain ⟨tb, p2, s2⟩ := h2.ex
  obtain ⟨tc, p3, s3⟩ := h3.ex
  refine ⟨_, pi_range3 hg hm (pa_cons p1 (pa_cons p2 (pa_cons p3 pa_nil hs3) hs2) hs) hs hpl, fun σ Δ F H R env w => ?_⟩
  refine s1 σ Δ F H _ env (w.bind.mono fun d Δ1 F1 H1 env1 w1 v r => ?_)
  refine s2 σ Δ1 F1 H1 _ env1 (w1.bind.mono fun d2 Δ2 F2 H2 env2 w2 v2 r2 => ?_)
  refine s3 σ Δ2 F2 H2 _ env2 (w2.bind.mono fun d3 Δ3 F3 H3 env3 w3 v3 r3 => ?_)
  cases d with
  | int i =>
    cases d2 with
    | int j =>
      cases d3 with
      | int k =>
        cases r; cases r2; cases r3
        replace w3 : Want L W σ Δ3 F3 H3 (gd (decide (k ≠ 0 ∧ k.natAbs < 1073741824 ∧ Builtin.Range.small i j k = true ∧ 0 ≤ Builtin.Range.rangeSize i j k)) (.ok (rangeC i k (Builtin.Range.rangeSize i j k).toNat) Δ3)) _ := w3
        unfold gd at w3
        split at w3
        · rename_i hb
          obtain ⟨b1, b2, b3, b4⟩ := of_decide_eq_true hb
          exact ⟨i, j, k, _, rfl, ⟨b1, b2, b3, by omega⟩, w3 F3 H3 env3 .refl _ itok_rangeC⟩
        · exact w3.elim
      | _ => exact w3.elim
    | _ => exact w3.elim
  | _ => exact w3.elim

/-! ### methods of a text with one argument -/
def sm1M (g : Str → D → Option D) (mo me : DEnv → Res D) : DEnv → Res D := fun Δ => (mo Δ).bind fun d Δ1 => match d with
  | .str z => (me Δ1).bind fun y Δ2 => .opt (g z y) Δ2
  | _ => .stuck
/-- the method's rule gives what g says -/
def SM1 (L : Lx) (r : V → List V → Hp → VK → Prop) (g : Str → D → Option D) : Prop := ∀ (F H : Hp) (z : Str) (y : V) (dy d : D) (Q : VK), Ex F H → g z dy = some d → RepR L F H y dy → (∀ v F' H', Gro F H F' H' → Rep L.K F' v d → Q v H') → r (.str z) [y] H Q
theorem d_sm1 {o : Expr} {mo : DEnv → Res D} {id : String} {name : Str} {apos : Pos} {r : V → List V → Hp → VK → Prop} {g : Str → D → Option D} (slot : Slot "str" name id) (ty : typeOf (.builtin id) = pure (.type "method_descriptor")) (rule : MtR X id r) (hg : SM1 L r g)
    (ho : DE X L W o mo) (h : DR X L W e me) (hs : starEach [e] X.env = [(false, eval e X.env)] := by rfl) (hbase : attributeBase o name X.env (eval o X.env) = eval o X.env := by rfl) (hline : (apos.endLine == pos.line) = true := by rfl) :
    DE X L W (.Call (.Attribute o name apos) [e] [] pos) (sm1M g mo me) := by
  obtain ⟨to, p1, s1⟩ := ho.ex
  obtain ⟨te, p2, s2⟩ := h.ex
  refine ⟨_, pe_m1 slot ty rule p1 p2 hs hbase hline, fun σ Δ F H Q env w => ?_⟩
  refine s1 σ Δ F H _ env (w.bind.mono fun d Δ1 F1 H1 env1 w1 v rv => ?_)
  cases d with
  | str z =>
    cases rv
    refine ⟨⟨z, rfl⟩, s2 σ Δ1 F1 H1 _ env1 ?_⟩
    have w2 : Want L W σ Δ1 F1 H1 ((me Δ1).bind fun y Δ2 => .opt (g z y) Δ2) _ := w1
    refine w2.bind.mono fun y Δ2 F2 H2 env2 w3 u ru => ?_
    cases q : g z y with
    | none => rw [q] at w3; exact w3.elim
    | some d => rw [q] at w3; exact hg F2 H2 z u y d Q env2.ex q ru fun v F' H' gr rv => w3 F' H' (env2.gro gr) (.gro gr) v rv
  | _ => exact w1.elim
/-- s.index(t) -/
def sindexD : Str → D → Option D := fun z y => match y with
  | .str t => match Builtin.Str.occurrences z t 0 z.length 1 with
    | i :: _ => some (.int (i : Nat))
    | [] => none
  | _ => none
theorem sm_index : SM1 L (fun x xs H Q => ∃ a b i rest, x = .str a ∧ xs = [.str b] ∧ Builtin.Str.occurrences a b 0 a.length 1 = i :: rest ∧ Q (.int (i : Nat)) H) sindexD := by
  intro F H z y dy d Q ex hf ry q
  unfold sindexD at hf
  split at hf
  · split at hf
    · rename_i i rest ho
      cases hf
      exact ⟨z, _, i, rest, rfl, by rw [ry.str], ho, q _ F H (.refl ex) (.int _)⟩
    · cases hf
  · cases hf

/-! ### t.index(x), t a tuple of texts of the module -/
def tupIdxM (ys : List Str) (m : DEnv → Res D) : DEnv → Res D := fun Δ => (m Δ).bind fun d Δ1 => match d with
  | .str z => match ys.findIdx? (· == z) with
    | some j => .ok (.int (j : Nat)) Δ1
    | none => .stuck
  | _ => .stuck
theorem d_tupIdx {y n : Str} {apos : Pos} {t : Addr} {o : Obj} {ys : List Str} (hnm : n = "index") (hg : Gl X y) (hm : X.mg y = some (.ref t)) (hd : (y == ("__debug__" : Str)) = false) (hk : X.K.lookup t = some o) (hc : o.cls = .type "tuple") (hdi : o.dict = none) (ht : ∀ H, SqT X.K H t (ys.map V.str)) (h : DE X L W e me)
    (hbase : attributeBase (.Name y p) n X.env (eval (.Name y p) X.env) = eval (.Name y p) X.env := by rfl)
    (hfew : ((backTo pos (starEach (e :: []) X.env)).all (fun x => !x.1) && (backToKw pos (keywordEach [] X.env)).all (fun x => x.1.isSome) && decide ((e :: []).length + ([] : List Keyword).length + (if ([] : List Keyword).isEmpty then 0 else 1) < 30)) = true := by rfl)
    (hline : (apos.endLine == pos.line) = true := by rfl) (hs : starEach (e :: []) X.env = (false, eval e X.env) :: starEach [] X.env := by rfl) (hplain : (backTo pos (starEach [] X.env)).any (·.1) = false := by rfl) :
    DE X L W (.Call (.Attribute (.Name y p) n apos) [e] [] pos) (tupIdxM ys me) := by
  subst hnm
  obtain ⟨te, p1, s1⟩ := h.ex
  refine ⟨_, pe_bm PySem.F.plainAttrs_tuple PySem.F.slot_tuple_index PySem.F.type_tuple_index mt_tup_index (pe_glob (v := .ref t) hg hm rfl hd) (pa_cons p1 pa_nil hs) hbase hfew hline hs hplain, fun σ Δ F H Q env w => ?_⟩
  refine ⟨.inr (.inl ⟨rfl, o, hk, hc, hdi⟩), s1 σ Δ F H _ env (w.bind.mono fun d Δ1 F1 H1 env1 w1 v rv => ?_)⟩
  cases d with
  | str z =>
    cases rv
    replace w1 : Want L W σ Δ1 F1 H1 (match ys.findIdx? (· == z) with | some j => Res.ok (D.int (j : Nat)) Δ1 | none => Res.stuck) _ := w1
    cases q : ys.findIdx? (· == z) with
    | none => rw [q] at w1; exact w1.elim
    | some j =>
      rw [q] at w1
      obtain ⟨hj, h1, h2⟩ := List.findIdx?_eq_some_iff_getElem.mp q
      refine ⟨t, ys, z, j, rfl, rfl, ht H1, by rw [List.getElem?_eq_getElem hj]; simpa using h1, fun m hm he => ?_, w1 F1 H1 env1 .refl _ (.int _)⟩
      have hml : m < ys.length := by omega
      have := h2 m hm
      rw [List.getElem?_eq_getElem hml] at he
      cases he
      simp at this
  | _ => exact w1.elim

/-! ### order of data -/
def notNone : PyData → Bool
  | .none => false
  | _ => true
def ordB (f : PyData → PyData → Bool) (x y : D) : Option D := match toPy x, toPy y with
  | some p, some q => if PySem.W.alike p q = true ∧ SeqAt.shaped p = true ∧ notNone p = true then some (.bl (f p q)) else none
  | _, _ => none
def rOrd (K : PySem.W.Frag) (f : PyData → PyData → Bool) : R2 := fun x y H Q => ∃ p q, Dp K H x p ∧ Dp K H y q ∧ PySem.W.alike p q = true ∧ SeqAt.shaped p = true ∧ p ≠ .none ∧ Q (.bl (f p q)) H
theorem ordB_ok {f : PyData → PyData → Bool} {u v : V} {x y d : D} {Q : VK} (ex : Ex F H) (hf : ordB f x y = some d) (rx : RepR L F H u x) (ry : RepR L F H v y) (q : ∀ v F' H', Gro F H F' H' → Rep L.K F' v d → Q v H') : rOrd L.K f u v H Q := by
  unfold ordB at hf
  split at hf
  · rename_i p r e1 e2
    split at hf
    · rename_i hc
      cases hf
      exact ⟨p, r, toPy_dpR ex rx e1, toPy_dpR ex ry e2, hc.1, hc.2.1, fun z => by subst z; exact absurd hc.2.2 (by decide), q _ F H (.refl ex) (.bl _)⟩
    · cases hf
  · cases hf
open PySem.W in
theorem op_ltO (hu : X.A.units + 64 < cLine) : OpR X (compareOp .Lt) (rOrd X.K dataLt) := by
  intro pins s σ H x y v u Q I rx ry h
  obtain ⟨p, r, hp, hr, ha, hs, hn, q⟩ := h
  obtain ⟨as, r1⟩ := Dp.reads I p x v hp rx
  obtain ⟨bs, r2⟩ := Dp.reads I r y u hr ry
  exact rcLt_alike p r X.A s v u as bs r1 r2 ha hn (SeqAt.room_of_shaped hs hu) _ _ _ _ ⟨.bl _, H, I, rfl, q⟩
open PySem.W in
theorem op_leO (hu : X.A.units + 64 < cLine) : OpR X (compareOp .LtE) (rOrd X.K fun p r => !dataLt r p) := by
  intro pins s σ H x y v u Q I rx ry h
  obtain ⟨p, r, hp, hr, ha, hs, hn, q⟩ := h
  obtain ⟨as, r1⟩ := Dp.reads I p x v hp rx
  obtain ⟨bs, r2⟩ := Dp.reads I r y u hr ry
  exact rcLe_alike p r X.A s v u as bs r1 r2 ha hn (SeqAt.room_of_shaped hs hu) _ _ _ _ ⟨.bl _, H, I, rfl, q⟩
open PySem.W in
theorem op_gtO (hu : X.A.units + 64 < cLine) : OpR X (compareOp .Gt) (rOrd X.K fun p r => dataLt r p) := by
  intro pins s σ H x y v u Q I rx ry h
  obtain ⟨p, r, hp, hr, ha, hs, hn, q⟩ := h
  obtain ⟨as, r1⟩ := Dp.reads I p x v hp rx
  obtain ⟨bs, r2⟩ := Dp.reads I r y u hr ry
  exact rcGt_alike p r X.A s v u as bs r1 r2 ha hn (SeqAt.room_of_shaped hs hu) _ _ _ _ ⟨.bl _, H, I, rfl, q⟩
open PySem.W in
theorem op_geO (hu : X.A.units + 64 < cLine) : OpR X (compareOp .GtE) (rOrd X.K fun p r => !dataLt p r) := by
  intro pins s σ H x y v u Q I rx ry h
  obtain ⟨p, r, hp, hr, ha, hs, hn, q⟩ := h
  obtain ⟨as, r1⟩ := Dp.reads I p x v hp rx
  obtain ⟨bs, r2⟩ := Dp.reads I r y u hr ry
  exact rcGe_alike p r X.A s v u as bs r1 r2 ha hn (SeqAt.room_of_shaped hs hu) _ _ _ _ ⟨.bl _, H, I, rfl, q⟩
/-- ints at once, the rest as data -/
def ordG (g : Int → Int → Bool) (f : PyData → PyData → Bool) : D → D → Option D
  | .int i, .int j => some (.bl (g i j))
  | x, y => ordB f x y
def rOrdG (K : PySem.W.Frag) (g : Int → Int → Bool) (f : PyData → PyData → Bool) : R2 := fun x y H Q => rI0 (fun i j => .bl (g i j)) x y H Q ∨ rOrd K f x y H Q
theorem ops_ordG {g : Int → Int → Bool} {f : PyData → PyData → Bool} : OpS L (rOrdG L.K g f) (ordG g f) := by
  intro F H u v x y d Q ex hf rx ry q
  unfold ordG at hf
  split at hf
  · cases hf; exact .inl ⟨_, _, rx.int, ry.int, q _ F H (.refl ex) (.bl _)⟩
  · exact .inr (ordB_ok ex hf rx ry q)
abbrev ltG : D → D → Option D := ordG (fun i j => decide (i < j)) PySem.W.dataLt
abbrev leG : D → D → Option D := ordG (fun i j => decide (i ≤ j)) fun p r => !PySem.W.dataLt r p
abbrev gtG : D → D → Option D := ordG (fun i j => decide (j < i)) fun p r => PySem.W.dataLt r p
abbrev geG : D → D → Option D := ordG (fun i j => decide (j ≤ i)) fun p r => !PySem.W.dataLt p r
theorem op_ltG (hu : X.A.units + 64 < cLine) : OpR X (compareOp .Lt) (rOrdG X.K (fun i j => decide (i < j)) PySem.W.dataLt) := opr_or op_lt (op_ltO hu)
theorem op_leG (hu : X.A.units + 64 < cLine) : OpR X (compareOp .LtE) (rOrdG X.K (fun i j => decide (i ≤ j)) fun p r => !PySem.W.dataLt r p) := opr_or op_le (op_leO hu)
theorem op_gtG (hu : X.A.units + 64 < cLine) : OpR X (compareOp .Gt) (rOrdG X.K (fun i j => decide (j < i)) fun p r => PySem.W.dataLt r p) := opr_or op_gt (op_gtO hu)
theorem op_geG (hu : X.A.units + 64 < cLine) : OpR X (compareOp .GtE) (rOrdG X.K (fun i j => decide (j ≤ i)) fun p r => !PySem.W.dataLt p r) := opr_or op_ge (op_geO hu)
end
end KL
/-! KL, part l: defs as they are called; the frame of a whole proof. -/
namespace KL
open PySem L2

/-! ### the readings' words -/
abbrev cst {α : Type} (a : α) : DEnv → Res α := fun Δ => .ok a Δ
def lstE (m : DEnv → Res (List D)) : DEnv → Res D := fun Δ => (m Δ).map .lst
def sq (a b : DEnv → SRes) : DEnv → SRes := fun Δ => (a Δ).seq b
def exprS (m : DEnv → Res D) : DEnv → SRes := fun Δ => (m Δ).s fun _ Δ1 => .nx Δ1
def retS (m : DEnv → Res D) : DEnv → SRes := fun Δ => (m Δ).s .rt
def retFS (m : DEnv → Res (List D)) : DEnv → SRes := fun Δ => (m Δ).s .rf
def setS (i : Nat) (m : DEnv → Res D) : DEnv → SRes := fun Δ => (m Δ).s fun d Δ1 => setM i d Δ1
def setOS (i : Nat) (m : DEnv → Res (List D)) : DEnv → SRes := fun Δ => (m Δ).s fun d Δ1 => setO i d Δ1
def ifS (t : DEnv → Res Bool) (a b : DEnv → SRes) : DEnv → SRes := fun Δ => (t Δ).s fun k Δ1 => if k = true then a Δ1 else b Δ1
def forS (i : DEnv → Res (List D)) (g : D → DEnv → Option DEnv) (b : DEnv → SRes) : DEnv → SRes := fun Δ => (i Δ).s (forM g b)
/-- the def f, with the text st -/
def Dn (K : PySem.W.Frag) (x : Str) (st : Stmt) (f : Addr) (ps : List Str) : Prop := ∃ fd, Fun K x x st f fd ∧ Binds K fd ps []
/-- what a caller needs -/
structure Cal (P : Program) (w : World) (K : PySem.W.Frag) (mg : Str → Option Value) (base : Heap) (L : Lx) (f : Addr) (k : Nat) (ps : List Str) (mf : DEnv → FRes) : Prop where
  ex : ∃ fd, Binds K fd ps [] ∧ FnOk P w K mg base (L2.CX P w) k f fd ps (spD L ps.length mf)
  kp : PySem.W.keepIn K (.ref f) = true
section
variable {P : Program} {w : World} {K : PySem.W.Frag} {mg : Str → Option Value} {base : Heap} {L : Lx}
theorem cal_body {x : Str} {st : Stmt} {f : Addr} {N ps : List Str} {k : Nat} {ms : DEnv → SRes} (D : Dn K x st f ps) (S : FnScope N ps (defScope st))
    (hb : ∀ (cdv : Value) (A : Around) (outer : List PySem.Env) (s : Shared) (H : Hp) (E : XK), Room k (A.deeper (PyProof.Rows.envOfC x (defScope st) s.heap.objs.size f cdv)) →
      Takes (cxOf (L2.CX P w) P w K mg base N x (defScope st) f cdv A outer s H E) (fun cls d _ H => E cls d H) →
      DSs (cxOf (L2.CX P w) P w K mg base N x (defScope st) f cdv A outer s H E) L (fun cls d _ H => E cls d H) (defBody st) ms) :
    Cal P w K mg base L f (k + 1) ps (bodyF ps.length N.length ms) := by
  obtain ⟨fd, F, b⟩ := D
  exact ⟨⟨fd, b, fn_body F S hb⟩, F.kp⟩
theorem Cal.up {f : Addr} {j k : Nat} {ps : List Str} {mf : DEnv → FRes} (c : Cal P w K mg base L f j ps mf) (h : j ≤ k) : Cal P w K mg base L f k ps mf := let ⟨fd, b, F⟩ := c.ex; ⟨⟨fd, b, F.mono h⟩, c.kp⟩
theorem hu64 {k : Nat} {A : Around} (r : Room k A) : A.units + 64 < cLine := by
  have := r.un
  omega
end
section
variable {X : Cx} {L : Lx} {W : WX} {k j : Nat} {f : Addr} {ps : List Str} {mf : DEnv → FRes} {x : Str} {p pos : Pos} {e : Expr} {es : List Expr} {m : DEnv → Res (List Arg)}
theorem d_callC (C : Cal X.prog X.w X.K X.mg X.base L f j ps mf) (hr : Room k X.A) (hj : j ≤ k) (hg : Gl X x) (hm : X.mg x = some (.ref f)) (tk : Takes X W) (ha : DC X L W (e :: es) m)
    (hl : (e :: es).length = ps.length) (hdb : (x == ("__debug__" : Str)) = false) (he : starEach (e :: es) X.env = (false, eval e X.env) :: starEach es X.env) (hpl : (backTo pos (starEach es X.env)).any (·.1) = false) :
    DE X L W (.Call (.Name x p) (e :: es) [] pos) (callM mf m) := by
  obtain ⟨fd, b, F⟩ := C.ex
  exact d_call F (hr.mono hj) hg hm C.kp b tk ha hl hdb he hpl
theorem d_callCF (C : Cal X.prog X.w X.K X.mg X.base L f j ps mf) (hr : Room k X.A) (hj : j ≤ k) (hg : Gl X x) (hm : X.mg x = some (.ref f)) (tk : Takes X W) (ha : DC X L W (e :: es) m)
    (hl : (e :: es).length = ps.length) (hdb : (x == ("__debug__" : Str)) = false) (he : starEach (e :: es) X.env = (false, eval e X.env) :: starEach es X.env) (hpl : (backTo pos (starEach es X.env)).any (·.1) = false) :
    DF X L W (.Call (.Name x p) (e :: es) [] pos) (callF mf m) := by
  obtain ⟨fd, b, F⟩ := C.ex
  exact d_callF F (hr.mono hj) hg hm C.kp b tk ha hl hdb he hpl
/-- a list and a list -/
theorem f_bin {op : Operator} {r : R2} {g : D → D → Option (List D)} {a b : Expr} {ma mb : DEnv → Res D} (ho : OpR X (binaryOp op) r) (hf : OpF L r g) (ha : DE X L W a ma) (hb : DR X L W b mb) : DF X L W (.BinOp a op b pos) (opM g ma mb) :=
  let ⟨_, p1, s1⟩ := ha.ex
  let ⟨_, p2, s2⟩ := hb.ex
  ⟨_, pe_op ho p1 p2, sndF_op hf s1 s2⟩
theorem f_binV {op : Operator} {r : R2} {g : D → D → Option (List D)} {b : Expr} {mb : DEnv → Res D} {i : Nat} (ho : OpR X (binaryOp op) r) (hf : OpF L r g) (hN : X.N[i]? = some x) (hv : Vis X.env.scope x) (hd : (x == ("__debug__" : Str)) = false) (hcd : (x == ("__classdict__" : Str)) = false) (hb : DR X L W b mb) : DF X L W (.BinOp (.Name x p) op b pos) (opV g i mb) :=
  let ⟨_, p2, s2⟩ := hb.ex
  ⟨_, pe_op ho (pe_var hN hv hd hcd) p2, sndF_opV hf s2⟩
end
/-! ### the end -/
def initOf : Stmt → Stmt
  | .ClassDef _ _ _ b _ _ _ _ _ _ _ => b.getD 0 (.Pass ⟨0, 0, 0, 0⟩)
  | s => s
open PySem.W in
theorem exm_of {K : Frag} {S B : Addr} (h1 : subIn K (.ref S) (.type "BaseException") = some true) (h1' : subIn K (.ref B) (.type "BaseException") = some true) (h2 : isClsIn K B = true) (h3 : typeIn K (.ref B) = some (.type "type")) {b : Bool} (h4 : subIn K (.ref S) (.ref B) = some b) : exmOne K (.ref S) (.ref B) = some b := by
  have e1 : (subIn K (.ref B) (.type "BaseException") == some true) = true := by rw [h1'] <;> rfl
  have e2 : ((clsIn K B).isSome && typeIn K (.ref B) == some (.type "type")) = true := by
    rw [show (clsIn K B).isSome = true from h2, h3] <;> rfl
  show (if (subIn K (.ref B) (.type "BaseException") == some true) = true then (if ((clsIn K B).isSome && typeIn K (.ref B) == some (.type "type")) = true then subIn K (.ref S) (.ref B) else none) else none) = some b
  rw [if_pos e1, if_pos e2]; exact h4
/-- what is promised of the law -/
def spTop (K : PySem.W.Frag) : Sp := fun vs H Q _ => ∃ (a : Addr) (ns : List Int), vs = [.ref a] ∧ SqL K H a (ns.map V.int) ∧ ns.length ≤ 63 ∧ ∀ H', Q (.bl true) H'
theorem spTop_of {L : Lx} {mf : DEnv → FRes} (hm : ∀ ns : List Int, ns.length ≤ 63 → ∃ cs, mf [.va (.lsx (ns.map D.int))] = .ok (.bl true) cs) (vs : List V) (H : Hp) (Q : VK) (E : XK) (h : spTop L.K vs H Q E) : spD L 1 mf vs H Q E := by
  obtain ⟨a, ns, rfl, hs, hl, hq⟩ := h
  refine ⟨rfl, [.va (.lsx (ns.map D.int))], H, ⟨Ex.refl H, rfl, fun i c hc => ?_, fun i j c c' xs ys b hij hi hj h1 h2 => ?_⟩, fun i xs h => ?_, ?_⟩
  · cases i with
    | zero =>
      cases hc
      refine ⟨.ref a, rfl, .lsx hs (by simp) fun i v d h1 h2 => ?_⟩
      rw [List.getElem?_map] at h1 h2
      cases q : ns[i]? with
      | none => rw [q] at h1; cases h1
      | some z => rw [q] at h1 h2; cases h1; cases h2; exact .int z
    | succ i => simp at hc
  · cases i with
    | zero => cases hi; cases h1
    | succ i => simp at hi
  · cases i with
    | zero => cases h
    | succ i => simp at h
  · obtain ⟨cs, e⟩ := hm ns hl
    rw [e]
    intro v F' H' _ _ r
    cases r
    exact hq H'
/-- a tuple of texts that the module holds -/
structure TupS (K : PySem.W.Frag) (mg : Str → Option Value) (x : Str) (t : Addr) (ys : List Str) : Prop where
  g : mg x = some (.ref t)
  o : ∃ o, K.lookup t = some o ∧ o.cls = .type "tuple" ∧ o.dict = none
  q : ∀ H, SqT K H t (ys.map V.str)
theorem TupS.rep {K : PySem.W.Frag} {mg : Str → Option Value} {x : Str} {t : Addr} {ys : List Str} (T : TupS K mg x t ys) (F : Hp) : Rep K F (.ref t) (.tup (ys.map D.str)) :=
  .tup (T.q F) (by simp) fun i v d h1 h2 => by
    rw [List.getElem?_map] at h1 h2
    cases q : ys[i]? with
    | none => rw [q] at h1; cases h1
    | some z => rw [q] at h1 h2; cases h1; cases h2; exact .str z
theorem vals_strs : ∀ {ys : List Str} {us : List Value}, us.length = ys.length → (∀ (i : Nat) u z, us[i]? = some u → ys[i]? = some z → ∃ t, u = .str z t) → Vals (ys.map V.str) us
  | [], [], _, _ => .nil
  | y :: ys, u :: us, hl, h => .cons (h 0 u y rfl rfl) (vals_strs (by simpa using hl) fun i u z h1 h2 => h (i + 1) u z h1 h2)
  | [], _ :: _, hl, _ => by simp at hl
  | _ :: _, [], hl, _ => by simp at hl
/-- are these the texts? -/
def strsB : List Value → List Str → Bool
  | [], [] => true
  | .str x _ :: us, y :: ys => x == y && strsB us ys
  | _, _ => false
theorem strsB_ok : ∀ {us : List Value} {ys : List Str}, strsB us ys = true → Vals (ys.map V.str) us
  | [], [], _ => .nil
  | .str x t :: us, y :: ys, h => by
    obtain ⟨h1, h2⟩ := Bool.and_eq_true_iff.mp h
    have e : x = y := by simpa using h1
    subst e
    exact .cons ⟨t, rfl⟩ (strsB_ok h2)
  | [], _ :: _, h => by cases h
  | .str _ _ :: _, [], h => by cases h
  | .none :: _, [], h => by cases h
  | .none :: _, _ :: _, h => by cases h
  | .bool _ :: _, [], h => by cases h
  | .bool _ :: _, _ :: _, h => by cases h
  | .int _ _ :: _, [], h => by cases h
  | .int _ _ :: _, _ :: _, h => by cases h
  | .ref _ :: _, [], h => by cases h
  | .ref _ :: _, _ :: _, h => by cases h
  | .type _ :: _, [], h => by cases h
  | .type _ :: _, _ :: _, h => by cases h
  | .builtin _ :: _, [], h => by cases h
  | .builtin _ :: _, _ :: _, h => by cases h
  | .bytes _ _ :: _, [], h => by cases h
  | .bytes _ _ :: _, _ :: _, h => by cases h
  | .float _ _ :: _, [], h => by cases h
  | .float _ _ :: _, _ :: _, h => by cases h
theorem tupS_mk {K : PySem.W.Frag} {mg : Str → Option Value} {x : Str} {t : Addr} {ys : List Str} {its : Array Value} {n : Nat} {sl : Array (Option Value)} (g : mg x = some (.ref t)) (l : K.lookup t = some ⟨.type "tuple", none, .seq its n, sl⟩) (h : strsB its.toList ys = true) (hs : decide (its.size ≤ 16777216) = true) : TupS K mg x t ys :=
  ⟨g, ⟨_, l, rfl, rfl⟩, fun H => .inr ⟨_, its, n, l, rfl, rfl, by rw [sizeLine_eq]; exact of_decide_eq_true hs, strsB_ok h⟩⟩
end KL
/-! KL, part m: the readings computed; the deck that every law deals from. -/
namespace KL
open PySem L2
/-- an equation that simp must not take as a definition (the kernel would unfold too much) -/
theorem nr {α : Sort _} {a b : α} (h : a = b) : a = b := h
section
variable {α β : Type} {a : α} {Δ Δ1 : DEnv} {x : Exc}
@[simp] theorem seq_nx {f : DEnv → SRes} : (SRes.nx Δ).seq f = f Δ := nr rfl
@[simp] theorem seq_rt {f : DEnv → SRes} {d : D} : (SRes.rt d Δ).seq f = .rt d Δ := nr rfl
@[simp] theorem seq_rf {f : DEnv → SRes} {d : List D} : (SRes.rf d Δ).seq f = .rf d Δ := nr rfl
@[simp] theorem seq_bk {f : DEnv → SRes} : (SRes.bk Δ).seq f = .bk Δ := nr rfl
@[simp] theorem seq_ct {f : DEnv → SRes} : (SRes.ct Δ).seq f = .ct Δ := nr rfl
@[simp] theorem seq_ex {f : DEnv → SRes} : (SRes.ex x Δ).seq f = .ex x Δ := nr rfl
@[simp] theorem loop_nx {f : DEnv → SRes} : (SRes.nx Δ).loop f = f Δ := nr rfl
@[simp] theorem loop_rt {f : DEnv → SRes} {d : D} : (SRes.rt d Δ).loop f = .rt d Δ := nr rfl
@[simp] theorem loop_rf {f : DEnv → SRes} {d : List D} : (SRes.rf d Δ).loop f = .rf d Δ := nr rfl
@[simp] theorem loop_bk {f : DEnv → SRes} : (SRes.bk Δ).loop f = .nx Δ := nr rfl
@[simp] theorem loop_ct {f : DEnv → SRes} : (SRes.ct Δ).loop f = f Δ := nr rfl
@[simp] theorem loop_ex {f : DEnv → SRes} : (SRes.ex x Δ).loop f = .ex x Δ := nr rfl
@[simp] theorem s_ok_ {f : α → DEnv → SRes} : (Res.ok a Δ).s f = f a Δ := nr rfl
@[simp] theorem s_ex_ {f : α → DEnv → SRes} : (Res.ex x Δ : Res α).s f = .ex x Δ := nr rfl
@[simp] theorem bind_ok_ {f : α → DEnv → Res β} : (Res.ok a Δ).bind f = f a Δ := nr rfl
@[simp] theorem bind_ex_ {f : α → DEnv → Res β} : (Res.ex x Δ : Res α).bind f = .ex x Δ := nr rfl
@[simp] theorem map_ok_ {f : α → β} : (Res.ok a Δ).map f = .ok (f a) Δ := nr rfl
@[simp] theorem map_ex_ {f : α → β} : (Res.ex x Δ : Res α).map f = .ex x Δ := nr rfl
@[simp] theorem opt_some_ : (Res.opt (some a) Δ) = .ok a Δ := nr rfl
@[simp] theorem nox_ok_ : (Res.ok a Δ).nox = .ok a Δ := nr rfl
@[simp] theorem gd_true_ {r : Res α} : gd true r = r := nr rfl
@[simp] theorem sq_ {a b : DEnv → SRes} : sq a b Δ = (a Δ).seq b := nr rfl
@[simp] theorem exprS_ {m : DEnv → Res D} : exprS m Δ = (m Δ).s fun _ Δ1 => .nx Δ1 := nr rfl
@[simp] theorem retS_ {m : DEnv → Res D} : retS m Δ = (m Δ).s .rt := nr rfl
@[simp] theorem retFS_ {m : DEnv → Res (List D)} : retFS m Δ = (m Δ).s .rf := nr rfl
@[simp] theorem setS_ {i : Nat} {m : DEnv → Res D} : setS i m Δ = (m Δ).s fun d Δ1 => setM i d Δ1 := nr rfl
@[simp] theorem setOS_ {i : Nat} {m : DEnv → Res (List D)} : setOS i m Δ = (m Δ).s fun d Δ1 => setO i d Δ1 := nr rfl
@[simp] theorem ifS_ {t : DEnv → Res Bool} {a b : DEnv → SRes} : ifS t a b Δ = (t Δ).s fun k Δ1 => if k = true then a Δ1 else b Δ1 := nr rfl
@[simp] theorem forS_ {i : DEnv → Res (List D)} {g : D → DEnv → Option DEnv} {b : DEnv → SRes} : forS i g b Δ = (i Δ).s (forM g b) := nr rfl
@[simp] theorem opM_ {f : D → D → Option α} {ma mb : DEnv → Res D} : opM f ma mb Δ = (ma Δ).bind fun x Δ1 => (mb Δ1).bind fun y Δ2 => .opt (f x y) Δ2 := nr rfl
@[simp] theorem varR_ {i : Nat} : varR i Δ = .opt (rdR Δ i) Δ := nr rfl
@[simp] theorem asB_ {m : DEnv → Res D} : asB m Δ = (m Δ).bind fun d Δ1 => match d with | .bl b => .ok b Δ1 | _ => .stuck := nr rfl
@[simp] theorem truM_ {m : DEnv → Res D} : truM m Δ = (m Δ).bind fun d Δ1 => .opt (truD d) Δ1 := nr rfl
@[simp] theorem notM_ {m : DEnv → Res Bool} : notM m Δ = (m Δ).map (!·) := nr rfl
@[simp] theorem andM_ {m n : DEnv → Res Bool} : andM m n Δ = (m Δ).bind fun c Δ1 => if c = true then n Δ1 else .ok false Δ1 := nr rfl
@[simp] theorem orM_ {m n : DEnv → Res Bool} : orM m n Δ = (m Δ).bind fun c Δ1 => if c = true then .ok true Δ1 else n Δ1 := nr rfl
@[simp] theorem call1_ {g : D → Option D} {m : DEnv → Res D} : call1 g m Δ = (m Δ).bind fun d Δ1 => .opt (g d) Δ1 := nr rfl
@[simp] theorem lstE_ {m : DEnv → Res (List D)} : lstE m Δ = (m Δ).map .lst := nr rfl
@[simp] theorem consM_ {m : DEnv → Res D} {n : DEnv → Res (List D)} : consM m n Δ = (m Δ).bind fun d Δ1 => (n Δ1).map (d :: ·) := nr rfl
@[simp] theorem aV_ {m : DEnv → Res D} {r : DEnv → Res (List Arg)} : aV m r Δ = (m Δ).bind fun d Δ1 => (r Δ1).map (Sum.inl d :: ·) := nr rfl
@[simp] theorem someM_ {m : DEnv → Res D} : someM m Δ = (m Δ).bind fun d Δ1 => match d with | .int i => .ok (some i) Δ1 | _ => .stuck := nr rfl
@[simp] theorem slM_ {f : D → Option Int → Option Int → Option α} {me : DEnv → Res D} {ml mh : DEnv → Res (Option Int)} : slM f me ml mh Δ = (me Δ).bind fun d Δ1 => (ml Δ1).bind fun lo Δ2 => (mh Δ2).bind fun hi Δ3 => .opt (f d lo hi) Δ3 := nr rfl
@[simp] theorem raiseM_ {c f : Str} {m : DEnv → Res D} : raiseM c f m Δ = (m Δ).s fun d Δ1 => .ex (.mk c [(f, d)]) Δ1 := nr rfl
@[simp] theorem andV_ {m n : DEnv → Res D} : andV m n Δ = (m Δ).bind fun d Δ1 => match d with | .bl true => n Δ1 | .bl false => .ok (.bl false) Δ1 | _ => .stuck := nr rfl
@[simp] theorem orV_ {m n : DEnv → Res D} : orV m n Δ = (m Δ).bind fun d Δ1 => match d with | .bl true => .ok (.bl true) Δ1 | .bl false => n Δ1 | _ => .stuck := nr rfl
@[simp] theorem ifM_ {c : DEnv → Res Bool} {m n : DEnv → Res α} : ifM c m n Δ = (c Δ).bind fun k Δ1 => if k = true then m Δ1 else n Δ1 := nr rfl
@[simp] theorem rd_va {d : D} : rdC (.va d) = some d := nr rfl
@[simp] theorem rd_ow {d : List D} : rdC (.ow d) = some (.lst d) := nr rfl
@[simp] theorem rd_pa {d : List D} : rdC (.pa d) = some (.lst d) := nr rfl
@[simp] theorem addD_int {i j : Int} : addD (.int i) (.int j) = some (.int (i + j)) := nr rfl
@[simp] theorem subD_int {i j : Int} : subD (.int i) (.int j) = some (.int (i - j)) := nr rfl
@[simp] theorem ltG_int {i j : Int} : ltG (.int i) (.int j) = some (.bl (decide (i < j))) := nr rfl
@[simp] theorem leG_int {i j : Int} : leG (.int i) (.int j) = some (.bl (decide (i ≤ j))) := nr rfl
@[simp] theorem gtG_int {i j : Int} : gtG (.int i) (.int j) = some (.bl (decide (j < i))) := nr rfl
@[simp] theorem geG_int {i j : Int} : geG (.int i) (.int j) = some (.bl (decide (j ≤ i))) := nr rfl
theorem modD_int {i j : Int} (h : 0 < j) : modD (.int i) (.int j) = some (.int (i % j)) := if_pos (decide_eq_true h)
theorem divD_int {i j : Int} (h : 0 < j ∧ j < 1073741824) : divD (.int i) (.int j) = some (.int (i / j)) := if_pos (decide_eq_true h)
theorem mulD_r {i j : Int} (h : -18446744073709551616 < j ∧ j < 18446744073709551616) : mulD (.int i) (.int j) = some (.int (i * j)) := if_pos (decide_eq_true (.inr h))
theorem mulD_l {i j : Int} (h : -18446744073709551616 < i ∧ i < 18446744073709551616) : mulD (.int i) (.int j) = some (.int (i * j)) := if_pos (decide_eq_true (.inl h))
@[simp] theorem intD1_int {i : Int} : intD1 (.int i) = some (.int i) := nr rfl
@[simp] theorem intD1_bl {b : Bool} : intD1 (.bl b) = some (.int (if b then 1 else 0)) := nr rfl
@[simp] theorem absD_int {i : Int} : absD (.int i) = some (.int (if i < 0 then -i else i)) := nr rfl
@[simp] theorem lenD_lst {xs : List D} : lenD (.lst xs) = some (.int xs.length) := nr rfl
@[simp] theorem lenD_lsx {xs : List D} : lenD (.lsx xs) = some (.int xs.length) := nr rfl
@[simp] theorem lenD_tup {xs : List D} : lenD (.tup xs) = some (.int xs.length) := nr rfl
end
/-- the end of a body -/
def SRes.fin (n : Nat) : SRes → FRes
  | .nx Δ => .ok .non (kpD n Δ)
  | .rt d Δ => .ok d (kpD n Δ)
  | .rf ds Δ => .fr ds (kpD n Δ)
  | .ex x Δ => .ex x (kpD n Δ)
  | _ => .stuck
theorem bodyF_ {n N : Nat} {ms : DEnv → SRes} {cs : DEnv} : bodyF n N ms cs = (ms (cs ++ List.replicate (N - n) .no)).fin n := rfl
@[simp] theorem fin_nx {n : Nat} {Δ : DEnv} : (SRes.nx Δ).fin n = .ok .non (kpD n Δ) := nr rfl
@[simp] theorem fin_rt {n : Nat} {d : D} {Δ : DEnv} : (SRes.rt d Δ).fin n = .ok d (kpD n Δ) := nr rfl
@[simp] theorem fin_rf {n : Nat} {ds : List D} {Δ : DEnv} : (SRes.rf ds Δ).fin n = .fr ds (kpD n Δ) := nr rfl
@[simp] theorem fin_ex {n : Nat} {x : Exc} {Δ : DEnv} : (SRes.ex x Δ).fin n = .ex x (kpD n Δ) := nr rfl
def keepC : Cell → Cell
  | .pav xs => .pav xs
  | _ => .no
@[simp] theorem keepC_pa {xs : OwnV} : keepC (.pav xs) = .pav xs := nr rfl
@[simp] theorem keepC_va {d : D} : keepC (.va d) = .no := nr rfl
@[simp] theorem keepC_ow {xs : OwnV} : keepC (.owv xs) = .no := nr rfl
@[simp] theorem keepC_no : keepC .no = .no := nr rfl
theorem kpD_map {n : Nat} {Δ : DEnv} (h : n ≤ Δ.length) : kpD n Δ = (Δ.take n).map keepC := by
  apply List.ext_getElem?
  intro i
  unfold kpD
  rw [List.getElem?_map, List.getElem?_map, List.getElem?_take]
  by_cases hi : i < n
  · rw [List.getElem?_range hi, if_pos hi, List.getElem?_eq_getElem (by omega)]
    show some (match (Δ[i]? : Option Cell) with | some (Cell.pav xs) => Cell.pav xs | _ => Cell.no) = some (keepC Δ[i])
    rw [List.getElem?_eq_getElem (by omega)]
    cases Δ[i] <;> rfl
  · rw [List.getElem?_eq_none (by simpa using hi), if_neg hi]; rfl
@[simp] theorem eqD_int {i j : Int} : eqD (.int i) (.int j) = some (.bl (decide (i = j))) := nr rfl
@[simp] theorem neD_int {i j : Int} : neD (.int i) (.int j) = some (.bl (!decide (i = j))) := nr rfl
@[simp] theorem eqD_str {i j : Str} : eqD (.str i) (.str j) = some (.bl (decide (i = j))) := nr rfl
@[simp] theorem neD_str {i j : Str} : neD (.str i) (.str j) = some (.bl (!decide (i = j))) := nr rfl
/-- may the slot be set? -/
def canC : Cell → Bool
  | .pav _ => false
  | _ => true
@[simp] theorem canC_no : canC .no = true := nr rfl
@[simp] theorem canC_va {d : D} : canC (.va d) = true := nr rfl
@[simp] theorem canC_ow {xs : OwnV} : canC (.owv xs) = true := nr rfl
theorem canSet_ {Δ : DEnv} {i : Nat} : canSet Δ i = match (Δ[i]? : Option Cell) with | some c => canC c | none => false := by
  unfold canSet
  cases (Δ[i]? : Option Cell) with
  | none => rfl
  | some c => cases c <;> rfl
/-- a walk that goes through -/
theorem forM_all {tgt : D → DEnv → Option DEnv} {body : DEnv → SRes} {P : Nat → DEnv → Prop} : ∀ {xs : List D} {Δ : DEnv} (k : Nat), P k Δ → (∀ i d Δ, xs[i]? = some d → P (k + i) Δ → ∃ Δ1 Δ2, tgt d Δ = some Δ1 ∧ body Δ1 = .nx Δ2 ∧ P (k + i + 1) Δ2) → ∃ Δ', forM tgt body xs Δ = .nx Δ' ∧ P (k + xs.length) Δ'
  | [], Δ, k, h0, _ => ⟨Δ, rfl, h0⟩
  | x :: xs, Δ, k, h0, hs => by
    obtain ⟨Δ1, Δ2, e1, e2, e3⟩ := hs 0 x Δ rfl h0
    obtain ⟨Δ', f1, f2⟩ := forM_all (xs := xs) (Δ := Δ2) (k + 1) e3 fun i d Δ hi hp => by
      have := hs (i + 1) d Δ (by simpa using hi) (by rw [show k + (i + 1) = k + 1 + i by omega]; exact hp)
      rw [show k + (i + 1) + 1 = k + 1 + i + 1 by omega] at this
      exact this
    refine ⟨Δ', ?_, by rw [List.length_cons, show k + (xs.length + 1) = k + 1 + xs.length by omega]; exact f2⟩
    show (match tgt x Δ with | none => SRes.stuck | some Δ1 => (body Δ1).loop (forM tgt body xs)) = _
    rw [e1]
    show (body Δ1).loop (forM tgt body xs) = _
    rw [e2, loop_nx, f1]
/-- over the numbers from lo on -/
theorem forM_rng {tgt : D → DEnv → Option DEnv} {body : DEnv → SRes} {P : Nat → DEnv → Prop} {lo : Int} {n : Nat} {Δ : DEnv} (h0 : P 0 Δ) (hs : ∀ (i : Nat) Δ, i < n → P i Δ → ∃ Δ1 Δ2, tgt (.int (lo + (i : Int))) Δ = some Δ1 ∧ body Δ1 = .nx Δ2 ∧ P (i + 1) Δ2) :
    ∃ Δ', forM tgt body (rangeL lo n) Δ = .nx Δ' ∧ P n Δ' := by
  have hl : (rangeL lo n).length = n := by simp [rangeL]
  obtain ⟨Δ', h1, h2⟩ := forM_all (tgt := tgt) (body := body) (P := P) (xs := rangeL lo n) (Δ := Δ) 0 h0 fun i d Δ hi hp => by
    unfold rangeL at hi
    rw [List.getElem?_map] at hi
    cases q : (List.range n)[i]? with
    | none => rw [q] at hi; cases hi
    | some j =>
      rw [q] at hi
      cases hi
      have hi : i < n := by have := (List.getElem?_eq_some_iff.mp q).1; simpa using this
      have hj : j = i := by rw [List.getElem?_range hi] at q; cases q; rfl
      subst hj
      rw [Nat.zero_add] at hp ⊢
      exact hs j Δ hi hp
  rw [hl, Nat.zero_add] at h2
  exact ⟨Δ', h1, h2⟩
def rng1 (d : D) (Δ1 : DEnv) : Res (List D) := match d with
  | .int j => gd (decide (-4611686018427387904 ≤ j ∧ j < 4611686018427387904)) (.ok (rangeL 0 j.toNat) Δ1)
  | _ => .stuck
theorem range1_ {m : DEnv → Res D} {Δ : DEnv} : range1M m Δ = (m Δ).bind rng1 := by
  have h : range1M m Δ = (m Δ).bind rng1 := rfl
  exact h.trans (Eq.refl _)
def lim62 : Int := 4611686018427387904
theorem rng1_int {j : Int} {Δ : DEnv} (h : 0 ≤ j) (h2 : j < lim62) : rng1 (.int j) Δ = .ok (rangeL 0 j.toNat) Δ := by
  unfold lim62 at h2
  show gd (decide (-4611686018427387904 ≤ j ∧ j < 4611686018427387904)) _ = _
  rw [decide_eq_true ⟨by omega, h2⟩]; rfl
theorem rng1_nat {e : Nat} {Δ : DEnv} (he : (e : Int) < lim62) : rng1 (.int (e : Int)) Δ = .ok (rangeL 0 e) Δ := rng1_int (Int.natCast_nonneg e) he
theorem powD_int {i j : Int} (h : 0 ≤ j ∧ j ≤ 1000000 ∧ i.natAbs < 18446744073709551616) : powD (.int i) (.int j) = some (.int (i ^ j.toNat)) := if_pos (decide_eq_true h)
theorem ixD_lsx {ns : List Int} {k : Nat} (h : k < ns.length) : ixD (.lsx (ns.map D.int)) (.int (k : Nat)) = some (.int ns[k]) := by
  show atI (ns.map D.int) (k : Nat) = _
  unfold atI ixN
  rw [if_pos (by omega), if_pos (by rw [List.length_map]; omega)]
  simp [h]
theorem tgN_ {Δ : DEnv} {i : Nat} {d : D} (h : canSet Δ i = true) : tgN i d Δ = some (Δ.set i (.va d)) := if_pos h
/-- a walk that goes through, then the rest -/
theorem forM_app {tgt : D → DEnv → Option DEnv} {body : DEnv → SRes} {P : Nat → DEnv → Prop} (ys : List D) : ∀ {xs : List D} {Δ : DEnv} (k : Nat), P k Δ → (∀ i d Δ, xs[i]? = some d → P (k + i) Δ → ∃ Δ1 Δ2, tgt d Δ = some Δ1 ∧ body Δ1 = .nx Δ2 ∧ P (k + i + 1) Δ2) → ∃ Δ', forM tgt body (xs ++ ys) Δ = forM tgt body ys Δ' ∧ P (k + xs.length) Δ'
  | [], Δ, k, h0, _ => ⟨Δ, rfl, h0⟩
  | x :: xs, Δ, k, h0, hs => by
    obtain ⟨Δ1, Δ2, e1, e2, e3⟩ := hs 0 x Δ rfl h0
    obtain ⟨Δ', f1, f2⟩ := forM_app ys (xs := xs) (Δ := Δ2) (k + 1) e3 fun i d Δ hi hp => by
      have := hs (i + 1) d Δ (by simpa using hi) (by rw [show k + (i + 1) = k + 1 + i by omega]; exact hp)
      rw [show k + (i + 1) + 1 = k + 1 + i + 1 by omega] at this
      exact this
    refine ⟨Δ', ?_, by rw [List.length_cons, show k + (xs.length + 1) = k + 1 + xs.length by omega]; exact f2⟩
    show (match tgt x Δ with | none => SRes.stuck | some Δ1 => (body Δ1).loop (forM tgt body (xs ++ ys))) = _
    rw [e1]
    show (body Δ1).loop (forM tgt body (xs ++ ys)) = _
    rw [e2, loop_nx, f1]
theorem forM_cons {tgt : D → DEnv → Option DEnv} {body : DEnv → SRes} {x : D} {xs : List D} {Δ Δ1 : DEnv} (h : tgt x Δ = some Δ1) : forM tgt body (x :: xs) Δ = (body Δ1).loop (forM tgt body xs) := by
  show (match tgt x Δ with | none => SRes.stuck | some Δ1 => (body Δ1).loop (forM tgt body xs)) = _
  rw [h]
theorem forM_nil {tgt : D → DEnv → Option DEnv} {body : DEnv → SRes} {Δ : DEnv} : forM tgt body [] Δ = .nx Δ := rfl
/-- a comprehension that goes through -/
theorem compM_ok {vs : List Nat} {tgt : D → DEnv → Option DEnv} {cond : DEnv → Res Bool} {elt : DEnv → Res D} {Δ : DEnv} : ∀ {xs ys acc : List D}, xs.length = ys.length →
    (∀ (i : Nat) x, xs[i]? = some x → ∃ Δ1 Δ3 y, tgt x (wipeD Δ vs) = some Δ1 ∧ cond Δ1 = .ok true Δ1 ∧ elt Δ1 = .ok y Δ3 ∧ ys[i]? = some y ∧ restD Δ Δ3 vs = Δ) → compM vs tgt cond elt xs acc Δ = .ok (acc ++ ys) Δ
  | [], [], acc, _, _ => by rw [List.append_nil]; rfl
  | x :: xs, y :: ys, acc, hl, h => by
    obtain ⟨Δ1, Δ3, z, e1, e2, e3, e4, e5⟩ := h 0 x rfl
    cases e4
    have ih := compM_ok (cond := cond) (elt := elt) (xs := xs) (ys := ys) (acc := acc ++ [y]) (by simpa using hl) fun i x hi => h (i + 1) x (by simpa using hi)
    unfold compM
    rw [e1]
    show (cond Δ1).nox.bind _ = _
    rw [e2, nox_ok_, bind_ok_, if_pos rfl, e3, nox_ok_, bind_ok_, e5, ih, List.append_assoc]; rfl
  | [], _ :: _, _, hl, _ => by simp at hl
  | _ :: _, [], _, hl, _ => by simp at hl
theorem rangeL_get {lo : Int} {n i : Nat} {d : D} (h : (rangeL lo n)[i]? = some d) : i < n ∧ d = .int (lo + (i : Int)) := by
  unfold rangeL at h
  rw [List.getElem?_map] at h
  cases q : (List.range n)[i]? with
  | none => rw [q] at h; cases h
  | some j =>
    rw [q] at h
    cases h
    have hi : i < n := by have := (List.getElem?_eq_some_iff.mp q).1; simpa using this
    rw [List.getElem?_range hi] at q; cases q; exact ⟨hi, rfl⟩
theorem rangeL_len {lo : Int} {n : Nat} : (rangeL lo n).length = n := by simp [rangeL]
theorem rangeC_get {lo c : Int} {n i : Nat} {d : D} (h : (rangeC lo c n)[i]? = some d) : i < n ∧ d = .int (lo + (i : Int) * c) := by
  unfold rangeC at h
  rw [List.getElem?_map] at h
  cases q : (List.range n)[i]? with
  | none => rw [q] at h; cases h
  | some j =>
    rw [q] at h
    cases h
    have hi : i < n := by have := (List.getElem?_eq_some_iff.mp q).1; simpa using this
    rw [List.getElem?_range hi] at q; cases q; exact ⟨hi, rfl⟩
theorem rangeC_len {lo c : Int} {n : Nat} : (rangeC lo c n).length = n := by simp [rangeC]
/-! texts by their signs -/
def S (l : List Nat) : Str := ⟨l.toArray⟩
theorem S_app (a b : List Nat) : S a ++ S b = S (a ++ b) := by
  show Str.append (S a) (S b) = _
  unfold Str.append S; simp
theorem S_len (a : List Nat) : (S a).length = a.length := by unfold Str.length S; simp
theorem S_inj {a b : List Nat} : S a = S b ↔ a = b := by
  constructor
  · intro h; have := congrArg (fun s : Str => s.cps.toList) h; simpa [S] using this
  · intro h; rw [h]
theorem opV_ok {α : Type} {f : D → D → Option α} {i : Nat} {mb : DEnv → Res D} {Δ : DEnv} {x y : D} {z : α} (h : rdR Δ i = some x) (hb : mb Δ = .ok y Δ) (hf : f x y = some z) : opV f i mb Δ = .ok z Δ := by
  unfold opV
  rw [h, hb]
  show Res.opt ((rdR Δ i).bind fun x => f x y) Δ = _
  rw [h, Option.bind_some, hf]; rfl
theorem opM_ok {α : Type} {f : D → D → Option α} {ma mb : DEnv → Res D} {Δ Δ1 Δ2 : DEnv} {x y : D} {z : α} (h : ma Δ = .ok x Δ1) (hb : mb Δ1 = .ok y Δ2) (hf : f x y = some z) : opM f ma mb Δ = .ok z Δ2 := by
  rw [opM_, h, bind_ok_, hb, bind_ok_, hf]; rfl
/-! calls with values alone -/
theorem backD_in1 {d : D} {cs Δ : DEnv} : backD [Sum.inl d] cs Δ = Δ := by
  cases cs with
  | nil => rfl
  | cons c cs => cases cs <;> rfl
theorem backD_in2 {d e : D} {cs Δ : DEnv} : backD [Sum.inl d, Sum.inl e] cs Δ = Δ := by
  cases cs with
  | nil => rfl
  | cons c cs => exact backD_in1
theorem callV1 {F : DEnv → FRes} {m : DEnv → Res D} {Δ Δ1 cs : DEnv} {d r : D} (h : m Δ = .ok d Δ1) (hF : F [.va d] = .ok r cs) : callM F (aV m (cst ([] : List Arg))) Δ = .ok r Δ1 := by
  unfold callM callG
  rw [aV_, h, bind_ok_, map_ok_, bind_ok_]
  show FRes.toR [Sum.inl d] Δ1 (F [.va d]) = _
  rw [hF]
  show Res.ok r (backD [Sum.inl d] cs Δ1) = _
  rw [backD_in1]
theorem callV1x {F : DEnv → FRes} {m : DEnv → Res D} {Δ Δ1 cs : DEnv} {d : D} {x : Exc} (h : m Δ = .ok d Δ1) (hF : F [.va d] = .ex x cs) : callM F (aV m (cst ([] : List Arg))) Δ = .ex x Δ1 := by
  unfold callM callG
  rw [aV_, h, bind_ok_, map_ok_, bind_ok_]
  show FRes.toR [Sum.inl d] Δ1 (F [.va d]) = _
  rw [hF]
  show Res.ex x (backD [Sum.inl d] cs Δ1) = _
  rw [backD_in1]
theorem callV1f {F : DEnv → FRes} {m : DEnv → Res D} {Δ Δ1 cs : DEnv} {d : D} {r : List D} (h : m Δ = .ok d Δ1) (hF : F [.va d] = .fr r cs) : callF F (aV m (cst ([] : List Arg))) Δ = .ok r Δ1 := by
  unfold callF callG
  rw [aV_, h, bind_ok_, map_ok_, bind_ok_]
  show FRes.toF [Sum.inl d] Δ1 (F [.va d]) = _
  rw [hF]
  show Res.ok r (backD [Sum.inl d] cs Δ1) = _
  rw [backD_in1]
theorem callV2 {F : DEnv → FRes} {m n : DEnv → Res D} {Δ Δ1 Δ2 cs : DEnv} {d e r : D} (h : m Δ = .ok d Δ1) (h2 : n Δ1 = .ok e Δ2) (hF : F [.va d, .va e] = .ok r cs) : callM F (aV m (aV n (cst ([] : List Arg)))) Δ = .ok r Δ2 := by
  unfold callM callG
  rw [aV_, h, bind_ok_, aV_, h2, bind_ok_, map_ok_, map_ok_, bind_ok_]
  show FRes.toR [Sum.inl d, Sum.inl e] Δ2 (F [.va d, .va e]) = _
  rw [hF]
  show Res.ok r (backD [Sum.inl d, Sum.inl e] cs Δ2) = _
  rw [backD_in2]
theorem varM_va {i : Nat} {Δ : DEnv} {d : D} (h : Δ[i]? = some (.va d)) : varM i Δ = .ok d Δ := by unfold varM; rw [h]
theorem varR_ok {i : Nat} {Δ : DEnv} {d : D} (h : rdR Δ i = some d) : varR i Δ = .ok d Δ := by rw [varR_, h]; rfl
theorem asB_ok {m : DEnv → Res D} {Δ Δ1 : DEnv} {b : Bool} (h : m Δ = .ok (.bl b) Δ1) : asB m Δ = .ok b Δ1 := by rw [asB_, h]; rfl
theorem lstE_ok {m : DEnv → Res (List D)} {Δ Δ1 : DEnv} {xs : List D} (h : m Δ = .ok xs Δ1) : lstE m Δ = .ok (.lst xs) Δ1 := by rw [lstE_, h]; rfl
theorem ifS_ok {t : DEnv → Res Bool} {a b : DEnv → SRes} {Δ Δ1 : DEnv} {k : Bool} (h : t Δ = .ok k Δ1) : ifS t a b Δ = if k = true then a Δ1 else b Δ1 := by rw [ifS_, h]; rfl
theorem setS_ok {i : Nat} {m : DEnv → Res D} {Δ Δ1 : DEnv} {d : D} (h : m Δ = .ok d Δ1) (hc : canSet Δ1 i = true) : setS i m Δ = .nx (Δ1.set i (.va d)) := by
  rw [setS_, h, s_ok_]; unfold setM; rw [if_pos hc]
theorem or_ok {m n : DEnv → Res Bool} {Δ Δ1 Δ2 : DEnv} (h : m Δ = .ok false Δ1) (h2 : n Δ1 = .ok false Δ2) : orM m n Δ = .ok false Δ2 := by rw [orM_, h, bind_ok_]; exact h2
theorem andV_ok {m n : DEnv → Res D} {Δ Δ1 Δ2 : DEnv} {b : Bool} (h : m Δ = .ok (.bl true) Δ1) (h2 : n Δ1 = .ok (.bl b) Δ2) : andV m n Δ = .ok (.bl b) Δ2 := by rw [andV_, h, bind_ok_]; exact h2
theorem retS_ok {m : DEnv → Res D} {Δ Δ1 : DEnv} {d : D} (h : m Δ = .ok d Δ1) : retS m Δ = .rt d Δ1 := by rw [retS_, h]; rfl
namespace Cm
def law_deck_b1 : DEnv → SRes := (sq (exprS (appendM 3 (opM modD (call1 intD1 (varR 7)) (cst (D.int 1000003))))) (setS 7 (opV divD 7 (cst (D.int 1000003)))))
def law_deck_b2 : DEnv → SRes := (sq (setS 4 (opM modD (call1 intD1 (opM addD (opM addD (opV mulD 4 (cst (D.int 69621))) (varR 8)) (cst (D.int 1)))) (cst (D.int 2147483629)))) (exprS (appendM 3 (opM modD (call1 intD1 (opV divD 4 (cst (D.int 5)))) (cst (D.int 1000003))))))
def law_deck_b3 : DEnv → SRes := (sq (setS 6 (cst (D.int 0))) (sq (ifS (asB (opV ltG 5 (call1 lenD (varR 0)))) (setS 6 (opV ixD 0 (varR 5))) SRes.nx) (sq (setS 7 (call1 absD (varR 6))) (ifS (asB (opV geG 7 (opM powD (cst (D.int 10)) (cst (D.int 30))))) (forS (range1M (varM 2)) (tgN 8) law_deck_b1) (sq (setS 4 (opM modD (call1 intD1 (opM addD (opM addD (opM addD (opV mulD 4 (cst (D.int 48271))) (opM mulD (cst (D.int 2)) (varR 7))) (call1 intD1 (opV ltG 6 (cst (D.int 0))))) (varR 5))) (cst (D.int 2147483647)))) (forS (range1M (varM 2)) (tgN 8) law_deck_b2))))))
def m_law_deck : DEnv → SRes := (sq (setOS 3 (lstM (cst ([] : List D)))) (sq (setS 4 (opM addD (cst (D.int 7)) (call1 lenD (varR 0)))) (sq (forS (range1M (varM 1)) (tgN 5) law_deck_b3) (sq (exprS (reverseM 3)) (retO 3)))))
def F_law_deck : DEnv → FRes := bodyF 3 9 m_law_deck
def m_law_take : DEnv → SRes := (sq (ifS (asB (opM eqD (call1 lenD (varR 0)) (cst (D.int 0)))) (retS (cst (D.int 0))) SRes.nx) (retS (opM modD (call1 intD1 (popM 0)) (varR 1))))
def F_law_take : DEnv → FRes := bodyF 2 2 m_law_take
/-- what a deal gives, and what is left -/
def tk (l : List Int) (m : Int) : Int := match l.getLast? with
  | none => 0
  | some z => z % m
theorem take_ok (l : List Int) (m : Int) (hm : 0 < m) : F_law_take [.pa (l.map D.int), .va (.int m)] = .ok (.int (tk l m)) [.pa (l.dropLast.map D.int), .no] := by
  unfold F_law_take m_law_take
  rw [bodyF_]
  rcases List.eq_nil_or_concat l with rfl | ⟨l', z, rfl⟩
  · simp [rdR, kpD_map, tk]
  · have h : ¬ ((l'.length : Int) + 1 = 0) := by omega
    simp [rdR, kpD_map, tk, h, popM, getL, setW, Cell.list?, modD_int hm]
theorem tk_lt (l : List Int) {m : Int} (hm : 0 < m) : ∃ t : Nat, tk l m = (t : Int) ∧ (t : Int) < m := by
  unfold tk
  cases l.getLast? with
  | none => exact ⟨0, rfl, hm⟩
  | some z =>
    have h1 := Int.emod_nonneg z (Int.ne_of_gt hm)
    have h2 := Int.emod_lt_of_pos z hm
    exact ⟨(z % m).toNat, by show z % m = _; omega, by show ((z % m).toNat : Int) < m; omega⟩
theorem take_call {i : Nat} {Δ : DEnv} {l : List Int} {m : Int} (hm : 0 < m) (h : Δ[i]? = some (.ow (l.map D.int))) : callM F_law_take (aO i (aV (cst (D.int m)) (cst ([] : List Arg)))) Δ = .ok (.int (tk l m)) (Δ.set i (.ow (l.dropLast.map D.int))) := by
  have hg : getO Δ i = some (.l (l.map D.int)) := by unfold getO; rw [h]; rfl
  have ha : aO i (aV (cst (D.int m)) (cst ([] : List Arg))) Δ = .ok [Sum.inr i, Sum.inl (.int m)] Δ := by unfold aO; rw [hg]; rfl
  have hc : cellsOf Δ [Sum.inr i, Sum.inl (.int m)] = some [.pa (l.map D.int), .va (.int m)] := by
    show (getO Δ i).bind _ = _
    rw [hg]; rfl
  unfold callM callG
  rw [ha, bind_ok_, hc]
  show (if (slotsOf [Sum.inr i, Sum.inl (D.int m)]).Nodup then FRes.toR [Sum.inr i, Sum.inl (.int m)] Δ (F_law_take [.pa (l.map D.int), .va (.int m)]) else .stuck) = _
  rw [if_pos (by show [i].Nodup; simp), take_ok l m hm]
  show Res.ok (D.int (tk l m)) (setW Δ i (.l (l.dropLast.map D.int))) = _
  unfold setW; rw [h]
theorem deck_b1 {s0 c0 e0 : Cell} {l : List Int} {sd k ce r : Int} {at_ : D} (hl : l.length < 16777216) :
    law_deck_b1 [s0, c0, e0, .ow (l.map D.int), .va (.int sd), .va (.int k), .va (.int ce), .va (.int r), .va at_] = .nx [s0, c0, e0, .ow ((l ++ [r % 1000003]).map D.int), .va (.int sd), .va (.int k), .va (.int ce), .va (.int (r / 1000003)), .va at_] := by
  unfold law_deck_b1
  simp [rdR, getL, setW, Cell.list?, modD_int, divD_int, appendM, opV, hl, setM, canSet_]
theorem deck_b2 {s0 c0 e0 : Cell} {l : List Int} {sd k ce r a : Int} (hl : l.length < 16777216) :
    ∃ sd', law_deck_b2 [s0, c0, e0, .ow (l.map D.int), .va (.int sd), .va (.int k), .va (.int ce), .va (.int r), .va (.int a)] = .nx [s0, c0, e0, .ow ((l ++ [sd' / 5 % 1000003]).map D.int), .va (.int sd'), .va (.int k), .va (.int ce), .va (.int r), .va (.int a)] := by
  refine ⟨(sd * 69621 + a + 1) % 2147483629, ?_⟩
  unfold law_deck_b2
  simp [rdR, getL, setW, Cell.list?, modD_int, divD_int, mulD_r, appendM, opV, hl, setM, canSet_]
theorem deck_l1 {s0 c0 e0 : Cell} {l : List Int} {e k : Nat} {sd z r : Int} {c8 : Cell} (h8 : canC c8 = true) (hl : l.length + e < 16777216) :
    ∃ (l' : List Int) (r' : Int) (d8 : Cell), forM (tgN 8) law_deck_b1 (rangeL 0 e) [s0, c0, e0, .ow (l.map D.int), .va (.int sd), .va (.int k), .va (.int z), .va (.int r), c8] =
      .nx [s0, c0, e0, .ow (l'.map D.int), .va (.int sd), .va (.int k), .va (.int z), .va (.int r'), d8] ∧ l'.length = l.length + e ∧ canC d8 = true := by
  obtain ⟨Δ', e1, l', r, c8', e2, e3, e4⟩ := forM_rng (tgt := tgN 8) (body := law_deck_b1) (lo := 0) (n := e) (Δ := [s0, c0, e0, .ow (l.map D.int), .va (.int sd), .va (.int k), .va (.int z), .va (.int r), c8])
    (P := fun i Δ => ∃ (l' : List Int) (r : Int) (d8 : Cell), Δ = [s0, c0, e0, .ow (l'.map D.int), .va (.int sd), .va (.int k), .va (.int z), .va (.int r), d8] ∧ l'.length = l.length + i ∧ canC d8 = true)
    ⟨l, _, c8, rfl, rfl, h8⟩ fun i Δ hi ⟨l', r, d8, hΔ, hl', h8'⟩ => by
      subst hΔ
      exact ⟨_, _, tgN_ (by simp [canSet_, h8']), deck_b1 (by omega), _, _, _, rfl, by simp; omega, rfl⟩
  exact ⟨l', r, c8', e1.trans (by rw [e2]), e3, e4⟩
theorem deck_l2 {s0 c0 e0 : Cell} {l : List Int} {e k : Nat} {sd z r : Int} {c8 : Cell} (h8 : canC c8 = true) (hl : l.length + e < 16777216) :
    ∃ (l' : List Int) (sd' : Int) (d8 : Cell), forM (tgN 8) law_deck_b2 (rangeL 0 e) [s0, c0, e0, .ow (l.map D.int), .va (.int sd), .va (.int k), .va (.int z), .va (.int r), c8] =
      .nx [s0, c0, e0, .ow (l'.map D.int), .va (.int sd'), .va (.int k), .va (.int z), .va (.int r), d8] ∧ l'.length = l.length + e ∧ canC d8 = true := by
  obtain ⟨Δ', e1, l', sd', c8', e2, e3, e4⟩ := forM_rng (tgt := tgN 8) (body := law_deck_b2) (lo := 0) (n := e) (Δ := [s0, c0, e0, .ow (l.map D.int), .va (.int sd), .va (.int k), .va (.int z), .va (.int r), c8])
    (P := fun i Δ => ∃ (l' : List Int) (sd : Int) (d8 : Cell), Δ = [s0, c0, e0, .ow (l'.map D.int), .va (.int sd), .va (.int k), .va (.int z), .va (.int r), d8] ∧ l'.length = l.length + i ∧ canC d8 = true)
    ⟨l, _, c8, rfl, rfl, h8⟩ fun i Δ hi ⟨l', sd', d8, hΔ, hl', h8'⟩ => by
      subst hΔ
      obtain ⟨sd2, hb⟩ := deck_b2 (s0 := s0) (c0 := c0) (e0 := e0) (l := l') (sd := sd') (k := k) (ce := z) (r := r) (a := 0 + (i : Int)) (by omega)
      exact ⟨_, _, tgN_ (by simp [canSet_, h8']), hb, _, _, _, rfl, by simp; omega, rfl⟩
  exact ⟨l', sd', c8', e1.trans (by rw [e2]), e3, e4⟩
def deck_t : DEnv → SRes := sq (setS 7 (call1 absD (varR 6))) (ifS (asB (opV geG 7 (opM powD (cst (D.int 10)) (cst (D.int 30))))) (forS (range1M (varM 2)) (tgN 8) law_deck_b1) (sq (setS 4 (opM modD (call1 intD1 (opM addD (opM addD (opM addD (opV mulD 4 (cst (D.int 48271))) (opM mulD (cst (D.int 2)) (varR 7))) (call1 intD1 (opV ltG 6 (cst (D.int 0))))) (varR 5))) (cst (D.int 2147483647)))) (forS (range1M (varM 2)) (tgN 8) law_deck_b2)))
theorem deck_tail {s0 c0 : Cell} {l : List Int} {e k : Nat} {sd z : Int} {c7 c8 : Cell} (h7 : canC c7 = true) (h8 : canC c8 = true) (hl : l.length + e < 16777216) :
    ∃ (l' : List Int) (sd' : Int) (d6 d7 d8 : Cell), deck_t [s0, c0, .va (.int e), .ow (l.map D.int), .va (.int sd), .va (.int k), .va (.int z), c7, c8] = .nx [s0, c0, .va (.int e), .ow (l'.map D.int), .va (.int sd'), .va (.int k), d6, d7, d8] ∧ l'.length = l.length + e ∧ canC d6 = true ∧ canC d7 = true ∧ canC d8 = true := by
  have he : (e : Int) < lim62 := by unfold lim62; omega
  have hp : powD (.int 10) (.int 30) = some (.int 1000000000000000000000000000000) := by rw [powD_int (by decide)]; simp
  unfold deck_t
  by_cases hz : (1000000000000000000000000000000 : Int) ≤ (if z < 0 then -z else z)
  · obtain ⟨l', r', d8, e1, e3, e4⟩ := deck_l1 (s0 := s0) (c0 := c0) (e0 := .va (.int e)) (l := l) (e := e) (k := k) (sd := sd) (z := z) (r := if z < 0 then -z else z) h8 hl
    refine ⟨l', sd, .va (.int z), .va (.int r'), d8, ?_, e3, rfl, rfl, e4⟩
    simp [setM, canSet_, h7, rdR, opV, hp, hz, range1_, rng1_nat he, varM, e1]
  · obtain ⟨l', sd', d8, e1, e3, e4⟩ := deck_l2 (s0 := s0) (c0 := c0) (e0 := .va (.int e)) (l := l) (e := e) (k := k) (sd := (sd * 48271 + 2 * (if z < 0 then -z else z) + (if z < 0 then 1 else 0) + k) % 2147483647) (z := z) (r := if z < 0 then -z else z) h8 hl
    refine ⟨l', sd', .va (.int z), .va (.int (if z < 0 then -z else z)), d8, ?_, e3, rfl, rfl, e4⟩
    simp [setM, canSet_, h7, rdR, opV, hp, hz, range1_, rng1_nat he, varM, e1, modD_int, mulD_r, mulD_l]
theorem deck_b3 {ns l : List Int} {c0 : Cell} {e k : Nat} {sd : Int} {c6 c7 c8 : Cell} (h6 : canC c6 = true) (h7 : canC c7 = true) (h8 : canC c8 = true) (hl : l.length + e < 16777216) :
    ∃ (l' : List Int) (sd' : Int) (d6 d7 d8 : Cell), law_deck_b3 [.va (.lsx (ns.map D.int)), c0, .va (.int e), .ow (l.map D.int), .va (.int sd), .va (.int k), c6, c7, c8] = .nx [.va (.lsx (ns.map D.int)), c0, .va (.int e), .ow (l'.map D.int), .va (.int sd'), .va (.int k), d6, d7, d8] ∧
      l'.length = l.length + e ∧ canC d6 = true ∧ canC d7 = true ∧ canC d8 = true := by
  have e0 : law_deck_b3 = sq (setS 6 (cst (D.int 0))) (sq (ifS (asB (opV ltG 5 (call1 lenD (varR 0)))) (setS 6 (opV ixD 0 (varR 5))) SRes.nx) deck_t) := rfl
  rw [e0]
  by_cases hk : k < ns.length
  · obtain ⟨l', sd', d6, d7, d8, h, r⟩ := deck_tail (s0 := .va (.lsx (ns.map D.int))) (c0 := c0) (k := k) (sd := sd) (z := ns[k]) h7 h8 hl
    refine ⟨l', sd', d6, d7, d8, ?_, r⟩
    rw [← h]
    simp [setM, canSet_, h6, rdR, opV, hk, ixD_lsx hk]
  · obtain ⟨l', sd', d6, d7, d8, h, r⟩ := deck_tail (s0 := .va (.lsx (ns.map D.int))) (c0 := c0) (k := k) (sd := sd) (z := 0) h7 h8 hl
    refine ⟨l', sd', d6, d7, d8, ?_, r⟩
    rw [← h]
    simp [setM, canSet_, h6, rdR, opV, hk]
theorem deck_ok (ns : List Int) (c e : Nat) (hc : c < 1000000) (hl : c * e < 16777216) : ∃ l : List Int, l.length = c * e ∧ F_law_deck [.va (.lsx (ns.map D.int)), .va (.int c), .va (.int e)] = .fr (l.map D.int) [.no, .no, .no] := by
  have hcc : (c : Int) < lim62 := by unfold lim62; omega
  obtain ⟨Δ', e1, l', sd', d6, d7, d8, k, e2, e3, e4⟩ := forM_rng (tgt := tgN 5) (body := law_deck_b3) (lo := 0) (n := c) (Δ := [.va (.lsx (ns.map D.int)), .va (.int c), .va (.int e), .ow [], .va (.int (7 + (ns.length : Int))), .no, .no, .no, .no])
    (P := fun i Δ => ∃ (l' : List Int) (sd : Int) (d6 d7 d8 d5 : Cell), Δ = [.va (.lsx (ns.map D.int)), .va (.int c), .va (.int e), .ow (l'.map D.int), .va (.int sd), d5, d6, d7, d8] ∧ l'.length = i * e ∧ canC d5 = true ∧ canC d6 = true ∧ canC d7 = true ∧ canC d8 = true)
    ⟨[], _, _, _, _, _, rfl, by simp, rfl, rfl, rfl, rfl⟩ fun i Δ hi ⟨l', sd', d6, d7, d8, d5, hΔ, hl', h5, h6, h7, h8⟩ => by
      subst hΔ
      have hle : l'.length + e < 16777216 := by
        have : (i + 1) * e ≤ c * e := Nat.mul_le_mul_right e hi
        rw [Nat.add_mul, Nat.one_mul] at this
        omega
      obtain ⟨l2, sd2, c6, c7, c8, h, q1, q2, q3, q4⟩ := deck_b3 (ns := ns) (c0 := .va (.int c)) (e := e) (k := i) (sd := sd') h6 h7 h8 hle
      have hz : (0 : Int) + (i : Int) = (i : Int) := Int.zero_add _
      rw [hz]
      exact ⟨_, _, tgN_ (by simp [canSet_, h5]), h, _, _, _, _, _, _, rfl, by rw [q1, hl', Nat.add_mul, Nat.one_mul], rfl, q2, q3, q4⟩
  refine ⟨l'.reverse, by rw [List.length_reverse, e3], ?_⟩
  subst e2
  unfold F_law_deck m_law_deck
  rw [bodyF_]
  simp [lstM, gd, setO, setM, canSet_, rdR, range1_, rng1_nat hcc, varM, e1, reverseM, getL, setW, Cell.list?, retO, kpD_map]
end Cm
end KL
/-! KL, part n: texts walked, all, any, join, +=, extend, list, tuple, is of bools. -/
namespace KL
open PySem L2
/-! ### constants of the module -/
structure StrG (mg : Str → Option Value) (x s : Str) : Prop where ex : ∃ t, mg x = some (.str s t)
structure IntG (mg : Str → Option Value) (x : Str) (i : Int) : Prop where ex : ∃ t, mg x = some (.int i t)
section
variable {X : Cx} {L : Lx} {W : WX} {σ : L2.St} {Δ : DEnv} {F H : Hp} {e a b c : Expr} {es : List Expr} {me ma mb mc : DEnv → Res D} {p pos : Pos} {x : Str} {i : Nat}
theorem de_gstr {s : Str} (g : StrG X.mg x s) (hg : Gl X x) (hd : (x == ("__debug__" : Str)) = false) : DE X L W (.Name x pos) (cst (D.str s)) := let ⟨_, h⟩ := g.ex; de_glob (v := .str s) hg h ⟨_, rfl⟩ (fun F => .str s) hd
theorem de_gint {n : Int} (g : IntG X.mg x n) (hg : Gl X x) (hd : (x == ("__debug__" : Str)) = false) : DE X L W (.Name x pos) (cst (D.int n)) := let ⟨_, h⟩ := g.ex; de_glob (v := .int n) hg h ⟨_, rfl⟩ (fun F => .int n) hd
/-! ### what is walked: lists, tuples, texts -/
def signs (z : Str) : List D := z.cps.toList.map fun c => .str ⟨#[c]⟩
theorem itok_str {z : Str} : ItOk L F (Its z) (signs z) := by
  intro i F' H' e1 e2
  refine ⟨fun d hd => ?_, fun hl => ?_⟩
  · unfold signs at hd
    rw [List.getElem?_map] at hd
    cases q : z.cps.toList[i]? with
    | none => rw [q] at hd; cases hd
    | some c =>
      rw [q] at hd; cases hd
      have hi : i < z.cps.size := by have := (List.getElem?_eq_some_iff.mp q).1; simpa using this
      refine ⟨hi, fun x H'' y => ?_⟩
      obtain ⟨rfl, c', h1, rfl⟩ := y
      have : c' = c := by
        have h2 : z.cps.toList[i]? = some c' := by rw [Array.getElem?_toList]; exact h1
        rw [q] at h2; exact (Option.some.inj h2).symm
      subst this
      exact ⟨F', .refl e2, .str _⟩
  · show z.cps.size ≤ i
    simpa [signs] using hl
def seqA (m : DEnv → Res D) : DEnv → Res (List D) := fun Δ => (m Δ).bind fun d Δ1 => match d with
  | .lst ds => .ok ds Δ1
  | .tup ds => .ok ds Δ1
  | .lsx ds => .ok ds Δ1
  | .str z => .ok (signs z) Δ1
  | _ => .stuck
theorem i_any {tg : Expr} (h : DE X L W e me) (hk : L.K = X.K := by rfl) : DI X L W tg e (seqA me) := by
  obtain ⟨te, p1, s1⟩ := h.ex
  refine ⟨_, pi_or (pi_or (pi_list p1) (pi_tup p1)) (pi_str p1), fun σ Δ F H R env w => ?_⟩
  replace w : Want L W σ Δ F H (seqA me Δ) _ := w
  unfold seqA at w
  cases q : me Δ with
  | stuck =>
    rw [q] at w
    exact w.elim
  | ex x Δ' =>
    rw [q] at w
    exact .inr (s1 σ Δ F H _ env (by rw [q]; exact w))
  | ok d Δ1 =>
    rw [q] at w
    cases d with
    | lst ds =>
      refine .inl (.inl (s1 σ Δ F H _ env ?_))
      rw [q]
      intro F1 H1 env1 st1 v r
      obtain ⟨a, vs, rfl, h1, h2⟩ := rep_ref_lst r
      refine ⟨a, rfl, ⟨vs, SqL.of (env1.ex _ _ h1)⟩, w F1 H1 env1 st1 _ fun i F' H' e1 e2 => ⟨fun d hd => ?_, fun hl => ⟨vs, SqL.of ((e1.trans e2) _ _ h1), by rw [h2.1]; exact hl⟩⟩⟩
      obtain ⟨u, hu, ru⟩ := h2.get hd
      refine ⟨⟨vs, u, SqL.of ((e1.trans e2) _ _ h1), hu⟩, fun x H'' y => ?_⟩
      obtain ⟨rfl, y⟩ := y
      have := y vs (SqL.of ((e1.trans e2) _ _ h1))
      rw [hu] at this; cases this
      exact ⟨F', .refl e2, ru.mono e1⟩
    | lsx ds =>
      refine .inl (.inl (s1 σ Δ F H _ env ?_))
      rw [q]
      intro F1 H1 env1 st1 v r
      obtain ⟨a, vs, rfl, h1, h2⟩ := rep_ref_lsx r
      refine ⟨a, rfl, ⟨vs, hk ▸ env1.ex.sl h1⟩, w F1 H1 env1 st1 _ fun i F' H' e1 e2 => ⟨fun d hd => ?_, fun hl => ⟨vs, hk ▸ (e1.trans e2).sl h1, by rw [h2.1]; exact hl⟩⟩⟩
      obtain ⟨u, hu, ru⟩ := h2.get hd
      refine ⟨⟨vs, u, hk ▸ (e1.trans e2).sl h1, hu⟩, fun x H'' y => ?_⟩
      obtain ⟨rfl, y⟩ := y
      have := y vs (hk ▸ (e1.trans e2).sl h1)
      rw [hu] at this; cases this
      exact ⟨F', .refl e2, ru.mono e1⟩
    | tup ds =>
      refine .inl (.inr (s1 σ Δ F H _ env ?_))
      rw [q]
      intro F1 H1 env1 st1 v r
      obtain ⟨a, vs, rfl, h1, h2⟩ := rep_ref_tup r
      refine ⟨a, rfl, ⟨vs, hk ▸ env1.ex.st h1⟩, w F1 H1 env1 st1 _ fun i F' H' e1 e2 => ⟨fun d hd => ?_, fun hl => ⟨vs, hk ▸ (e1.trans e2).st h1, by rw [h2.1]; exact hl⟩⟩⟩
      obtain ⟨u, hu, ru⟩ := h2.get hd
      refine ⟨⟨vs, u, hk ▸ (e1.trans e2).st h1, hu⟩, fun x H'' y => ?_⟩
      obtain ⟨rfl, y⟩ := y
      have := y vs (hk ▸ (e1.trans e2).st h1)
      rw [hu] at this; cases this
      exact ⟨F', .refl e2, ru.mono e1⟩
    | str z =>
      refine .inr (s1 σ Δ F H _ env ?_)
      rw [q]
      intro F1 H1 env1 st1 v r
      cases r
      exact ⟨z, rfl, w F1 H1 env1 st1 _ itok_str⟩
    | _ => exact w.elim
/-! ### all, any -/
def bsOf : List D → Option (List Bool)
  | [] => some []
  | .bl b :: ds => (bsOf ds).map (b :: ·)
  | _ => none
theorem bs_rep : ∀ {ds : List D} {vs : List V} {bs : List Bool}, Reps L.K F vs ds → bsOf ds = some bs → vs = bs.map V.bl
  | [], vs, bs, h, e => by cases e; exact h.nil_inv
  | d :: ds, vs, bs, h, e => by
    obtain ⟨w, r, rfl, h1, h2⟩ := h.cons_inv
    cases d with
    | bl b =>
      cases h1
      unfold bsOf at e
      obtain ⟨bs', e1, rfl⟩ := Option.map_eq_some_iff.mp e
      rw [bs_rep h2 e1]; rfl
    | _ => cases e
def allD : D → Option D
  | .lst ds => (bsOf ds).map fun bs => .bl (bs.all id)
  | _ => none
def anyD : D → Option D
  | .lst ds => (bsOf ds).map fun bs => .bl (bs.any id)
  | _ => none
theorem calls_all : CallS1 L (rAll L.K) allD := by
  intro F H v d z Q ex hf rv q
  unfold allD at hf
  split at hf
  · obtain ⟨bs, e1, rfl⟩ := Option.map_eq_some_iff.mp hf
    obtain ⟨a, vs, rfl, h1, h2⟩ := rv.lst ex
    exact ⟨a, bs, rfl, by rw [← bs_rep h2 e1]; exact SqL.of h1, q _ F H (.refl ex) (.bl _)⟩
  · cases hf
theorem calls_any : CallS1 L (rAny L.K) anyD := by
  intro F H v d z Q ex hf rv q
  unfold anyD at hf
  split at hf
  · obtain ⟨bs, e1, rfl⟩ := Option.map_eq_some_iff.mp hf
    obtain ⟨a, vs, rfl, h1, h2⟩ := rv.lst ex
    exact ⟨a, bs, rfl, by rw [← bs_rep h2 e1]; exact SqL.of h1, q _ F H (.refl ex) (.bl _)⟩
  · cases hf
/-! ### s.join(xs) -/
def ssOf : List D → Option (List Str)
  | [] => some []
  | .str b :: ds => (ssOf ds).map (b :: ·)
  | _ => none
theorem ss_rep : ∀ {ds : List D} {vs : List V} {bs : List Str}, Reps L.K F vs ds → ssOf ds = some bs → vs = bs.map V.str
  | [], vs, bs, h, e => by cases e; exact h.nil_inv
  | d :: ds, vs, bs, h, e => by
    obtain ⟨w, r, rfl, h1, h2⟩ := h.cons_inv
    cases d with
    | str b =>
      cases h1
      unfold ssOf at e
      obtain ⟨bs', e1, rfl⟩ := Option.map_eq_some_iff.mp e
      rw [ss_rep h2 e1]; rfl
    | _ => cases e
def joinD : Str → D → Option D := fun z y => match y with
  | .lst ds => (ssOf ds).bind fun ys => if (ys.map (·.length)).sum + ys.length * z.length ≤ 16777216 then some (.str (Txt.join z ys)) else none
  | .tup ds => (ssOf ds).bind fun ys => if (ys.map (·.length)).sum + ys.length * z.length ≤ 16777216 then some (.str (Txt.join z ys)) else none
  | _ => none
theorem sm_join : SM1 L (fun x xs H Q => ∃ a p, ∃ ys : List Str, x = .str a ∧ xs = [.ref p] ∧ (SqL L.K H p (ys.map V.str) ∨ SqT L.K H p (ys.map V.str)) ∧ (ys.map (·.length)).sum + ys.length * a.length ≤ 16777216 ∧ Q (.str (Txt.join a ys)) H) joinD := by
  intro F H z y dy d Q ex hf ry q
  unfold joinD at hf
  split at hf
  · obtain ⟨ys, e1, e2⟩ := Option.bind_eq_some_iff.mp hf
    split at e2
    · rename_i hl
      cases e2
      obtain ⟨a, vs, rfl, h1, h2⟩ := ry.lst ex
      exact ⟨z, a, ys, rfl, rfl, .inl (by rw [← ss_rep h2 e1]; exact SqL.of h1), hl, q _ F H (.refl ex) (.str _)⟩
    · cases e2
  · obtain ⟨ys, e1, e2⟩ := Option.bind_eq_some_iff.mp hf
    split at e2
    · rename_i hl
      cases e2
      obtain ⟨a, vs, rfl, h1, h2⟩ := ry.tup ex
      exact ⟨z, a, ys, rfl, rfl, .inr (by rw [← ss_rep h2 e1]; exact h1), hl, q _ F H (.refl ex) (.str _)⟩
    · cases e2
  · cases hf
/-! ### list, tuple -/
def tupD : D → Option D
  | .lst ds => some (.tup ds)
  | .tup ds => some (.tup ds)
  | _ => none
theorem calls_tup : CallS1 L (fun xs H Q => ∃ p ys, xs = [.ref p] ∧ ((SqL L.K H p ys ∧ ∀ l, H l = none → Q (.ref l) (upd H l (.tup ys))) ∨ (SqT L.K H p ys ∧ Q (.ref p) H))) tupD := by
  intro F H v d z Q ex hf rv q
  unfold tupD at hf
  split at hf
  · cases hf
    obtain ⟨a, vs, rfl, h1, h2⟩ := rv.lst ex
    refine ⟨a, vs, rfl, .inl ⟨SqL.of h1, fun l hl => ?_⟩⟩
    have g : Gro F H (upd F l (.tup vs)) (upd H l (.tup vs)) := Gro.new ex hl
    exact q _ _ _ g (.tup (SqT.of upd_same) h2.1 fun i v d e1 e2 => (h2.2 i v d e1 e2).mono g.f)
  · cases hf
    obtain ⟨a, vs, rfl, h1, h2⟩ := rv.tup ex
    exact ⟨a, vs, rfl, .inr ⟨h1, q _ F H (.refl ex) rv.ntup⟩⟩
  · cases hf
def listF : D → Option (List D)
  | .lst ds => some ds
  | .tup ds => some ds
  | .lsx ds => some ds
  | _ => none
def callF1 (g : D → Option (List D)) (m : DEnv → Res D) : DEnv → Res (List D) := fun Δ => (m Δ).bind fun d Δ1 => .opt (g d) Δ1
theorem f_list {y : Str} (hg : Gl X y) (hy : y = "list") (hm : X.mg y = none) (hv : bootBuiltins y = some (.type "list")) (hn : y ≠ "__name__") (hdb : (y == ("__debug__" : Str)) = false) (h : DR X L W e me)
    (hst : starEach (e :: []) X.env = (false, eval e X.env) :: starEach [] X.env := by rfl) (hpl : (backTo pos (starEach [] X.env)).any (·.1) = false := by rfl) (hk : L.K = X.K := by rfl) : DF X L W (.Call (.Name y p) [e] [] pos) (callF1 listF me) := by
  obtain ⟨te, p1, s1⟩ := h.ex
  refine ⟨_, pe_callTy call_list_of hg hm hv (pa_cons p1 pa_nil hst) hn hdb hst hpl, fun σ Δ F H Q env w => ?_⟩
  refine s1 σ Δ F H _ env ?_
  replace w : Want L W σ Δ F H ((me Δ).bind fun d Δ1 => .opt (listF d) Δ1) _ := w
  cases q : me Δ with
  | stuck => rw [q] at w; exact w
  | ex x Δ' => rw [q] at w; exact w
  | ok d Δ1 =>
    rw [q] at w
    intro F1 H1 env1 st1 v rv
    replace w : Want L W σ Δ F H (Res.opt (listF d) Δ1) _ := w
    cases q2 : listF d with
    | none => rw [q2] at w; exact w.elim
    | some ds =>
      rw [q2] at w
      have fin : ∀ a vs, v = .ref a → (SqL L.K H1 a vs ∨ SqT L.K H1 a vs) → Reps L.K F1 vs ds → _ := fun a vs ev hs rs => (⟨a, vs, by rw [ev], hk ▸ hs, fun l hl => by
        obtain ⟨a1, a2, a3, a4⟩ := fresh_env (vs := vs) env1 hl
        exact w F1 _ a1 (st1.trans a2) l vs (st1.hn hl) a3 a4 upd_same rs⟩ : ∃ p ys, [v] = [.ref p] ∧ (SqL X.K H1 p ys ∨ SqT X.K H1 p ys) ∧ ∀ l, H1 l = none → Q (.ref l) (upd H1 l (.lst ys)))
      cases d with
      | lst xs => cases q2; obtain ⟨a, vs, ev, h1, h2⟩ := rv.lst env1.ex; exact fin a vs ev (.inl (SqL.of h1)) h2
      | tup xs => cases q2; obtain ⟨a, vs, ev, h1, h2⟩ := rv.tup env1.ex; exact fin a vs ev (.inr h1) h2
      | lsx xs => cases q2; obtain ⟨a, vs, ev, h1, h2⟩ := rv.lsx env1.ex; exact fin a vs ev (.inl h1) h2
      | _ => cases q2
end
end KL
/-! KL, part o: ints of any size, chains, isinstance with many types, min, max, sum, sorted, enumerate, zip, lists repeated. -/
namespace KL
open PySem L2
section
variable {X : Cx} {L : Lx} {W : WX} {σ : L2.St} {Δ Δ1 : DEnv} {F H : Hp} {e a b c : Expr} {es : List Expr} {me ma mb mc : DEnv → Res D} {ta tb tc te : TE} {p pos : Pos} {x : Str} {i : Nat}
/-! ### ints -/
theorem op_fdivG : OpR X (binaryOp .FloorDiv) (rI (fun _ j => j ≠ 0 ∧ j.natAbs < 2 ^ 8000) fun i j => .int (i.fdiv j)) :=
  opI fun _ _ _ _ _ _ _ hc q => PyProof.Rows.floordiv_int hc.1 q (.inl (PyProof.noPylong_of_log2 (Nat.lt_of_lt_of_le (PySem.Flt.log2_lt_of (by decide) hc.2) (by decide))))
def fitB (j : Int) : Bool := decide (j ≠ 0 ∧ j.natAbs < 2 ^ 8000)
def divG : D → D → Option D := intD (fun _ j => fitB j) fun i j => .int (i.fdiv j)
theorem ops_divG : OpS L (rI (fun _ j => j ≠ 0 ∧ j.natAbs < 2 ^ 8000) fun i j => .int (i.fdiv j)) divG := ops_int fun i j h => of_decide_eq_true h
def modG : D → D → Option D := intD (fun _ j => decide (j ≠ 0)) fun i j => .int (i.fmod j)
theorem ops_modG : OpS L (rI (fun _ j => j ≠ 0) fun i j => .int (i.fmod j)) modG := ops_int fun i j h => of_decide_eq_true h
def bitB (i j : Int) : Bool := decide ((Builtin.Int.intBits i : Int) + (Builtin.Int.intBits j : Int) ≤ 134217728)
theorem cmulX_of {i j : Int} (h : bitB i j = true) : CMulX i j := of_decide_eq_true (p := (Builtin.Int.intBits i : Int) + (Builtin.Int.intBits j : Int) ≤ 134217728) h
theorem of_cmulX {i j : Int} (h : CMulX i j) : bitB i j = true := decide_eq_true (p := (Builtin.Int.intBits i : Int) + (Builtin.Int.intBits j : Int) ≤ 134217728) h
def mulB (i j : Int) : Bool := mulC i j || bitB i j
def mulG : D → D → Option D := intD mulB fun i j => .int (i * j)
def rMulG : R2 := fun x y H Q => rI CMul (fun i j => .int (i * j)) x y H Q ∨ rI CMulX (fun i j => .int (i * j)) x y H Q
theorem op_mulG : OpR X (binaryOp .Mult) rMulG := opr_or op_mul op_mulX
theorem ops_mulG : OpS L rMulG mulG := by
  intro F H x y dx dy d Q ex hf rx ry q
  unfold mulG intD at hf
  split at hf
  · split at hf
    · rename_i h; cases hf
      rw [rx.int, ry.int]
      have q' := q _ F H (.refl ex) (.int _)
      rcases Bool.or_eq_true_iff.mp h with h | h
      · refine .inl ⟨_, _, rfl, rfl, ?_, q'⟩
        have h := of_decide_eq_true h
        show (-(2 ^ 64) < _ ∧ _ < 2 ^ 64) ∨ (-(2 ^ 64) < _ ∧ _ < 2 ^ 64)
        omega
      · exact .inr ⟨_, _, rfl, rfl, cmulX_of h, q'⟩
    · cases hf
  · cases hf
theorem divG_int {i j : Int} (h : j ≠ 0) (h2 : j.natAbs < 2 ^ 8000) : divG (.int i) (.int j) = some (.int (i.fdiv j)) := if_pos (decide_eq_true ⟨h, h2⟩)
theorem modG_int {i j : Int} (h : j ≠ 0) : modG (.int i) (.int j) = some (.int (i.fmod j)) := if_pos (decide_eq_true h)
theorem mulG_int {i j : Int} {a b : Nat} (ha : i.natAbs < 2 ^ a) (hb : j.natAbs < 2 ^ b) (h : a + b ≤ 134217728) : mulG (.int i) (.int j) = some (.int (i * j)) :=
  if_pos (Bool.or_eq_true_iff.mpr (.inr (of_cmulX (mulx_ok ha hb h))))
theorem mulG_r {i j : Int} (h : -18446744073709551616 < j ∧ j < 18446744073709551616) : mulG (.int i) (.int j) = some (.int (i * j)) := if_pos (Bool.or_eq_true_iff.mpr (.inl (decide_eq_true (.inr h))))
theorem mulG_l {i j : Int} (h : -18446744073709551616 < i ∧ i < 18446744073709551616) : mulG (.int i) (.int j) = some (.int (i * j)) := if_pos (Bool.or_eq_true_iff.mpr (.inl (decide_eq_true (.inl h))))
/-! ### a < b < c -/
def chainM (f g : D → D → Option D) (ma mb mc : DEnv → Res D) : DEnv → Res D := fun Δ => (ma Δ).bind fun x Δ1 => (mb Δ1).bind fun y Δ2 => match f x y with
  | some (.bl true) => (mc Δ2).bind fun z Δ3 => .opt (g y z) Δ3
  | some (.bl false) => .ok (.bl false) Δ2
  | _ => .stuck
theorem snd_chain {r r' : R2} {f g : D → D → Option D} (hf : OpS L r f) (hg : OpS L r' g) (ha : Snd L W ta ma) (hb : Snd L W tb mb) (hc : Snd L W tc mc) : Snd L W (tChain r r' ta tb tc) (chainM f g ma mb mc) := by
  intro σ Δ F H Q env w
  refine ha σ Δ F H _ env (w.bind.mono fun x Δ1 F1 H1 env1 w1 v rv => ?_)
  refine hb σ Δ1 F1 H1 _ env1 (Want.keep (w1.bind.mono fun y Δ2 F2 H2 env2 w2 s2 u ru => ?_))
  cases q : f x y with
  | none => rw [q] at w2; exact w2.elim
  | some d =>
    rw [q] at w2
    cases d with
    | bl k =>
      refine hf F2 H2 v u x y (.bl k) _ env2.ex q (rv.mono s2.fr).r ru.r fun z F3 H3 gr rz => ?_
      cases rz
      cases k with
      | false => exact ⟨false, rfl, by rw [if_neg (by decide)]; exact w2 F3 H3 (env2.gro gr) (.gro gr) _ (.bl false)⟩
      | true =>
        refine ⟨true, rfl, ?_⟩
        rw [if_pos rfl]
        have w3 : Want L W σ Δ2 F2 H2 ((mc Δ2).bind fun z Δ3 => .opt (g y z) Δ3) _ := w2
        refine hc σ Δ2 F3 H3 _ (env2.gro gr) (Want.keep ((w3.from (.gro gr)).bind.mono fun z Δ3 F4 H4 env4 w4 s4 o ro => ?_))
        cases q2 : g y z with
        | none => rw [q2] at w4; exact w4.elim
        | some d2 =>
          rw [q2] at w4
          exact hg F4 H4 u o y z d2 Q env4.ex q2 ((ru.mono gr.f).mono s4.fr).r ro.r fun t F5 H5 g5 r5 => w4 F5 H5 (env4.gro g5) (.gro g5) t r5
    | _ => exact w2.elim
theorem d_chain {op op' : CmpOp} {r r' : R2} {f g : D → D → Option D} (ho : OpR X (compareOp op) r) (ho' : OpR X (compareOp op') r') (hf : OpS L r f) (hg : OpS L r' g) (ha : DE X L W a ma) (hb : DE X L W b mb) (hc : DE X L W c mc)
    (hm : lastMarks [op, op'] [b, c] = false := by with_unfolding_all rfl) : DE X L W (.Compare a [op, op'] [b, c] pos) (chainM f g ma mb mc) :=
  let ⟨_, p1, s1⟩ := ha.ex
  let ⟨_, p2, s2⟩ := hb.ex
  let ⟨_, p3, s3⟩ := hc.ex
  ⟨_, pe_chain ho ho' p1 p2 p3 hm, snd_chain hf hg s1 s2 s3⟩
theorem t_chain {op op' : CmpOp} {r r' : R2} {f g : D → D → Option D} (ho : OpR X (compareOp op) r) (ho' : OpR X (compareOp op') r') (hf : OpS L r f) (hg : OpS L r' g) (ha : DE X L W a ma) (hb : DE X L W b mb) (hc : DE X L W c mc)
    (hm : lastMarks [op, op'] [b, c] = false := by with_unfolding_all rfl) : DT X L W (.Compare a [op, op'] [b, c] pos) (asB (chainM f g ma mb mc)) :=
  let ⟨_, p1, s1⟩ := ha.ex
  let ⟨_, p2, s2⟩ := hb.ex
  let ⟨_, p3, s3⟩ := hc.ex
  ⟨_, pt_chain ho ho' p1 p2 p3 hm, snd_asB (snd_chain hf hg s1 s2 s3)⟩
/-! ### isinstance with many types -/
structure DTy (X : Cx) (es : List Expr) (Ts : List String) : Prop where ex : ∃ ta, PA X es ta ∧ ∀ σ H (Q : List V → Hp → Prop), Q (Ts.map V.ty) H → ta σ H Q
theorem ty_nil : DTy X [] [] := ⟨_, pa_nil, fun σ H Q q => q⟩
theorem ty_cons {T : String} {Ts : List String} {t : Str} {pt : Pos} (hg : Gl X t) (hm : X.mg t = none) (hv : bootBuiltins t = some (.type T)) (hn : t ≠ "__name__") (hd : (t == ("__debug__" : Str)) = false) (h : DTy X es Ts)
    (hst : starEach (Expr.Name t pt :: es) X.env = (false, eval (.Name t pt) X.env) :: starEach es X.env := by rfl) : DTy X (.Name t pt :: es) (T :: Ts) :=
  let ⟨_, p1, s1⟩ := h.ex
  ⟨_, pa_cons (pe_bltn (v := .ty T) hg hm hv rfl hn hd) p1 hst, fun σ H Q q => s1 σ H _ q⟩
def kitsB (t : String) : List String → Option Bool
  | [] => some false
  | c :: r => match kitB t c with
    | some true => some true
    | some false => kitsB t r
    | none => none
theorem kits_ok {K : PySem.W.Frag} {t : String} : ∀ {Ts : List String} {b : Bool}, kitsB t Ts = some b → PySem.W.kitAny K (.type t) (Ts.map Value.type) = some b
  | [], b, h => h
  | c :: r, b, h => by
    unfold kitsB at h
    show (match PySem.W.kitOne K (.type t) (.type c) with | some true => some true | some false => PySem.W.kitAny K (.type t) (r.map Value.type) | none => none) = some b
    cases q : kitB t c with
    | none => rw [q] at h; cases h
    | some k =>
      rw [q] at h
      rw [kit_ty q]
      cases k with
      | true => exact h
      | false => exact kits_ok h
theorem tys_clsV : ∀ {Ts : List String}, Paired ClsV (Ts.map V.ty) (Ts.map Value.type)
  | [] => .nil
  | T :: Ts => .cons (.ty T) tys_clsV
def isisB (Ts : List String) (d : D) : Option Bool := (tyD d).bind fun t => kitsB t Ts
def isisM (Ts : List String) (m : DEnv → Res D) : DEnv → Res D := call1 (fun d => (isisB Ts d).map .bl) m
theorem d_isis {Ts : List String} {k : Nat} {pt : Pos} (hg : Gl X x) (hm : X.mg x = none) (hv : bootBuiltins x = some (.builtin "isinstance")) (hn : x ≠ "__name__") (hdb : (x == ("__debug__" : Str)) = false) (hT : DTy X es Ts) (hl : decide (Ts.length ≤ 16777216) = true) (h : DE X L W e me)
    (hst : starEach (e :: [.Tuple es k pt]) X.env = (false, eval e X.env) :: starEach [.Tuple es k pt] X.env := by rfl) (hst2 : starEach (Expr.Tuple es k pt :: []) X.env = (false, eval (.Tuple es k pt) X.env) :: starEach [] X.env := by rfl)
    (hpl : (backTo pos (starEach [.Tuple es k pt] X.env)).any (·.1) = false := by rfl) (hk : L.K = X.K := by rfl) : DE X L W (.Call (.Name x p) [e, .Tuple es k pt] [] pos) (isisM Ts me) := by
  obtain ⟨_, p1, s1⟩ := h.ex
  obtain ⟨_, p2, s2⟩ := hT.ex
  refine ⟨_, pe_callB call_isiT hg hm hv (pa_cons p1 (pa_cons (pe_tup p2) pa_nil hst2) hst) hn hdb hst hpl, fun σ Δ F H Q env w => ?_⟩
  refine s1 σ Δ F H _ env (w.bind.mono fun d Δ1 F1 H1 env1 w1 v rv => ?_)
  replace w1 : Want L W σ Δ1 F1 H1 (Res.opt ((isisB Ts d).map D.bl) Δ1) _ := w1
  cases q : isisB Ts d with
  | none => rw [q] at w1; exact w1.elim
  | some kb =>
    rw [q] at w1
    obtain ⟨t1, h1, h2⟩ := Option.bind_eq_some_iff.mp q
    refine s2 σ H1 _ ⟨by rw [List.length_map, line_eq]; exact of_decide_eq_true hl, fun pp hp => ?_⟩
    have ex2 : Ex H1 (upd H1 pp (.tup (Ts.map V.ty))) := Ex.new hp
    have ty : TyX X.K (upd H1 pp (.tup (Ts.map V.ty))) v (.type t1) := hk ▸ tyx_of (F := F1) (L := L) (env1.ex.trans ex2) h1 rv.r
    exact ⟨v, pp, Ts.map V.ty, .type t1, Ts.map Value.type, kb, rfl, upd_same, tys_clsV, ty, kits_ok h2,
      w1 F1 _ (env1.grow ex2 (Ex.refl F1) (env1.ex.trans ex2) fun b o h => .inl h) (Step.grow ex2 (Ex.refl F1) fun b o h => .inl h) _ (.bl kb)⟩
end
end KL
/-! KL, part p: min, max, sum, sorted over data that are alike. -/
namespace KL
open PySem L2
def pyOf (d : D) : PyData := (toPy d).getD .none
def pyLt (x y : D) : Bool := PySem.W.dataLt (pyOf x) (pyOf y)
/-- all are data, alike, none is None, not deep -/
def okL (ds : List D) : Bool := ds.all fun d => (toPy d).isSome && notNone (pyOf d) && decide ((pyOf d).depth ≤ 60) && ds.all fun e => PySem.W.alike (pyOf d) (pyOf e)
theorem okL_py {ds : List D} (h : okL ds = true) {d : D} (hd : d ∈ ds) : toPy d = some (pyOf d) ∧ pyOf d ≠ .none ∧ (pyOf d).depth ≤ 60 ∧ ∀ e ∈ ds, PySem.W.alike (pyOf d) (pyOf e) = true := by
  have h1 := List.all_eq_true.mp h d hd
  simp only [Bool.and_eq_true] at h1
  obtain ⟨⟨⟨h2, h3⟩, h4⟩, h5⟩ := h1
  refine ⟨?_, fun z => ?_, of_decide_eq_true h4, fun e he => List.all_eq_true.mp h5 e he⟩
  · obtain ⟨p, hp⟩ := Option.isSome_iff_exists.mp h2
    unfold pyOf; rw [hp]; rfl
  · rw [z] at h3; cases h3
theorem toPys_map : ∀ {ds : List D}, (∀ d ∈ ds, toPy d = some (pyOf d)) → toPys ds = some (ds.map pyOf)
  | [], _ => by simp [toPys]
  | d :: ds, h => by
    rw [toPys, h d (by simp), Option.bind_some, toPys_map fun e he => h e (by simp [he])]; rfl
theorem depthAll_le {n : Nat} : ∀ {ps : List PyData}, (∀ p ∈ ps, p.depth ≤ n) → PyData.depthAll ps ≤ n
  | [], _ => by simp [PyData.depthAll]
  | p :: ps, h => by
    rw [PyData.depthAll]
    exact Nat.max_le.mpr ⟨h p (by simp), depthAll_le fun q hq => h q (by simp [hq])⟩
theorem okL_alike {ds : List D} (h : okL ds = true) : PySem.W.AlikeAll (ds.map pyOf) := by
  refine ⟨fun x hx y hy => ?_, fun x hx => ?_⟩
  · obtain ⟨d, hd, rfl⟩ := List.mem_map.mp hx
    obtain ⟨e, he, rfl⟩ := List.mem_map.mp hy
    exact (okL_py h hd).2.2.2 e he
  · obtain ⟨d, hd, rfl⟩ := List.mem_map.mp hx
    exact (okL_py h hd).2.1
theorem okL_depth {ds : List D} (h : okL ds = true) : PyData.depthAll (ds.map pyOf) ≤ 60 := depthAll_le fun p hp => by
  obtain ⟨d, hd, rfl⟩ := List.mem_map.mp hp
  exact (okL_py h hd).2.2.1
theorem getD_map_pyOf (ds : List D) (i : Nat) : (ds.map pyOf).getD i .none = pyOf (ds.getD i .non) := by
  rw [List.getD_eq_getElem?_getD, List.getD_eq_getElem?_getD, List.getElem?_map]
  cases ds[i]? with
  | none => simp [pyOf, toPy]
  | some d => rfl
section
variable {X : Cx} {L : Lx} {W : WX} {F H : Hp}
def btMin (ps : List PyData) : Nat → Nat → Bool := fun i j => PySem.W.dataLt (ps.getD i .none) (ps.getD j .none)
def btMax (ps : List PyData) : Nat → Nat → Bool := fun i j => PySem.W.dataLt (ps.getD j .none) (ps.getD i .none)
def rBest (K : PySem.W.Frag) (bt : List PyData → Nat → Nat → Bool) : List V → Hp → VK → Prop := fun xs H Q => ∃ (a : Addr) (vs : List V) (ps : List PyData), xs = [.ref a] ∧ (SqL K H a vs ∨ SqT K H a vs) ∧ DpAll K H vs ps ∧ 0 < ps.length ∧ PySem.W.AlikeAll ps ∧ PyData.depthAll ps ≤ 60 ∧
  ∀ v, vs[PySem.argBest (bt ps) (ps.length - 1)]? = some v → Q v H
open PySem.W PyProof.Rows in
theorem vals_at {vs : List V} {its : List Value} (r : Vals vs its) {i : Nat} {u : Value} (h : its[i]? = some u) : ∃ v, vs[i]? = some v ∧ RelV v u := by
  have hi : i < its.length := (List.getElem?_eq_some_iff.mp h).1
  have hl := r.length
  obtain ⟨u', h1, h2⟩ := r.get (i := i) (x := vs[i]'(by omega)) (List.getElem?_eq_getElem (by omega))
  rw [h] at h1; cases h1
  exact ⟨_, List.getElem?_eq_getElem (by omega), h2⟩
open PySem.W PyProof.Rows in
theorem call_minB (hc : X.calm = true) (hu : X.A.units + 64 < cLine) : CallR X (.builtin "min") (rBest X.K btMin) := by
  intro pins s σ H xs us Q I r h
  obtain ⟨a, vs, ps, rfl, hs, hp, hn, ha, hd, q⟩ := h
  rw [Vals.ref1 r]
  have fin : ∀ (its : List Value) (rv : Vals vs its) (as : List Addr), ReadsAll s.heap its.toArray.toList ps as → ∀ (i : Nat) v h' tk, i = argBest (btMin ps) (ps.length - 1) → its.toArray[i]? = some v → (∀ b o, s.heap.get? b = some o → h'.get? b = some o) → EP X pins σ Q v { s with heap := h', toks := tk } := fun its rv as hr i v h' tk hi hv hk => by
    obtain ⟨x, h1, h2⟩ := vals_at rv (i := i) (u := v) (by simpa using hv)
    exact ⟨x, H, I.kept hk, h2, q x (by rw [← hi]; exact h1)⟩
  rcases hs with hs | hs
  · obtain ⟨its, rv, hl, _⟩ := I.list hs
    obtain ⟨as, hr0⟩ := Dp.readsAll I ps vs its hp rv
    have hr : ReadsAll s.heap its.toArray.toList ps as := hr0
    have hn' : its.toArray.size = ps.length := readsAll_len hr
    refine call_min_walkH (iter_listW (A := X.A.in1) (I.ok.hd hc) hl.isList fun s₂ e W st hfp hw hk => ?_)
    refine ⟨_, _, _, _, _, _, _, s.heap, _, rfl, W, st, hfp, by omega, hw, hk, cmpIn_lt (A := X.A.in1) hr ha (by show X.A.units + 1 + _ < _; omega), fun v s' hP m => ?_⟩
    obtain ⟨h', tk, rfl, hk'⟩ := moved_old e rfl m
    exact fin its rv as hr _ v h' tk (by rw [hn']; rfl) hP hk'
  · obtain ⟨its, rv, hl, _⟩ := I.tuple hs
    obtain ⟨as, hr0⟩ := Dp.readsAll I ps vs its hp rv
    have hr : ReadsAll s.heap its.toArray.toList ps as := hr0
    have hn' : its.toArray.size = ps.length := readsAll_len hr
    refine call_min_walkH (iter_tupleW (A := X.A.in1) (I.ok.hd hc) (show s.heap.IsTuple a its.toArray from hl) fun s₂ e W st hfp hw hk => ?_)
    refine ⟨_, _, _, _, _, _, _, s.heap, _, rfl, W, st, hfp, by omega, hw, hk, cmpIn_lt (A := X.A.in1) hr ha (by show X.A.units + 1 + _ < _; omega), fun v s' hP m => ?_⟩
    obtain ⟨h', tk, rfl, hk'⟩ := moved_old e rfl m
    exact fin its rv as hr _ v h' tk (by rw [hn']; rfl) hP hk'
open PySem.W PyProof.Rows in
theorem call_maxB (hc : X.calm = true) (hu : X.A.units + 64 < cLine) : CallR X (.builtin "max") (rBest X.K btMax) := by
  intro pins s σ H xs us Q I r h
  obtain ⟨a, vs, ps, rfl, hs, hp, hn, ha, hd, q⟩ := h
  rw [Vals.ref1 r]
  have fin : ∀ (its : List Value) (rv : Vals vs its) (as : List Addr), ReadsAll s.heap its.toArray.toList ps as → ∀ (i : Nat) v h' tk, i = argBest (btMax ps) (ps.length - 1) → its.toArray[i]? = some v → (∀ b o, s.heap.get? b = some o → h'.get? b = some o) → EP X pins σ Q v { s with heap := h', toks := tk } := fun its rv as hr i v h' tk hi hv hk => by
    obtain ⟨x, h1, h2⟩ := vals_at rv (i := i) (u := v) (by simpa using hv)
    exact ⟨x, H, I.kept hk, h2, q x (by rw [← hi]; exact h1)⟩
  rcases hs with hs | hs
  · obtain ⟨its, rv, hl, _⟩ := I.list hs
    obtain ⟨as, hr0⟩ := Dp.readsAll I ps vs its hp rv
    have hr : ReadsAll s.heap its.toArray.toList ps as := hr0
    have hn' : its.toArray.size = ps.length := readsAll_len hr
    refine call_max_walkH (iter_listW (A := X.A.in1) (I.ok.hd hc) hl.isList fun s₂ e W st hfp hw hk => ?_)
    refine ⟨_, _, _, _, _, _, _, s.heap, _, rfl, W, st, hfp, by omega, hw, hk, cmpIn_gt (A := X.A.in1) hr ha (by show X.A.units + 1 + _ < _; omega), fun v s' hP m => ?_⟩
    obtain ⟨h', tk, rfl, hk'⟩ := moved_old e rfl m
    exact fin its rv as hr _ v h' tk (by rw [hn']; rfl) hP hk'
  · obtain ⟨its, rv, hl, _⟩ := I.tuple hs
    obtain ⟨as, hr0⟩ := Dp.readsAll I ps vs its hp rv
    have hr : ReadsAll s.heap its.toArray.toList ps as := hr0
    have hn' : its.toArray.size = ps.length := readsAll_len hr
    refine call_max_walkH (iter_tupleW (A := X.A.in1) (I.ok.hd hc) (show s.heap.IsTuple a its.toArray from hl) fun s₂ e W st hfp hw hk => ?_)
    refine ⟨_, _, _, _, _, _, _, s.heap, _, rfl, W, st, hfp, by omega, hw, hk, cmpIn_gt (A := X.A.in1) hr ha (by show X.A.units + 1 + _ < _; omega), fun v s' hP m => ?_⟩
    obtain ⟨h', tk, rfl, hk'⟩ := moved_old e rfl m
    exact fin its rv as hr _ v h' tk (by rw [hn']; rfl) hP hk'
/-! the readings -/
def bestL (f : D → D → Bool) : List D → Option D
  | [] => none
  | d :: ds => if okL (d :: ds) = true then some (ds.foldl (fun a y => if f y a then y else a) d) else none
def bestD (f : D → D → Bool) : D → Option D
  | .lst ds => bestL f ds
  | .tup ds => bestL f ds
  | _ => none
def minD : D → Option D := bestD pyLt
def maxD : D → Option D := bestD fun x y => pyLt y x
theorem best_ok {f : D → D → Bool} {bt : List PyData → Nat → Nat → Bool} (hb : ∀ (ds : List D) i j, bt (ds.map pyOf) i j = f (ds.getD i .non) (ds.getD j .non)) {ds : List D} {z : D} (h : bestL f ds = some z) :
    okL ds = true ∧ 0 < ds.length ∧ ds[PySem.argBest (bt (ds.map pyOf)) ((ds.map pyOf).length - 1)]? = some z := by
  cases ds with
  | nil => cases h
  | cons d ds =>
    by_cases hk : okL (d :: ds) = true
    · have h : (if okL (d :: ds) = true then some (ds.foldl (fun a y => if f y a then y else a) d) else none) = some z := h
      rw [if_pos hk] at h
      cases h
      refine ⟨hk, by simp, ?_⟩
      have hbt : bt ((d :: ds).map pyOf) = fun i j => f ((d :: ds).getD i .non) ((d :: ds).getD j .non) := funext fun i => funext fun j => hb (d :: ds) i j
      obtain ⟨h1, h2⟩ := PySem.W.argBest_fold f .non d ds ds.length (Nat.le_refl _)
      rw [List.take_length] at h2
      have hl : ((d :: ds).map pyOf).length - 1 = ds.length := by simp
      rw [hl, hbt, ← h2, List.getD_eq_getElem?_getD]
      rw [List.getElem?_eq_getElem (by simp only [List.length_cons]; omega)]
      rfl
    · have h : (if okL (d :: ds) = true then some (ds.foldl (fun a y => if f y a then y else a) d) else none) = some z := h
      rw [if_neg hk] at h
      cases h
theorem calls_best {f : D → D → Bool} {bt : List PyData → Nat → Nat → Bool} (hb : ∀ (ds : List D) i j, bt (ds.map pyOf) i j = f (ds.getD i .non) (ds.getD j .non)) : CallS1 L (rBest L.K bt) (bestD f) := by
  intro F H v d z Q ex hf rv q
  have fin : ∀ (a : Addr) (vs : List V) (ds : List D), v = .ref a → (SqL L.K H a vs ∨ SqT L.K H a vs) → Reps L.K F vs ds → bestL f ds = some z → rBest L.K bt [v] H Q := fun a vs ds ev hs rs hz => by
    obtain ⟨h1, h2, h3⟩ := best_ok hb hz
    have hp : toPys ds = some (ds.map pyOf) := toPys_map fun d hd => (okL_py h1 hd).1
    refine ⟨a, vs, ds.map pyOf, by rw [ev], hs, toPys_dp ex ds vs _ rs hp, by rw [List.length_map]; exact h2, okL_alike h1, okL_depth h1, fun u hu => ?_⟩
    exact q u F H (.refl ex) (rs.2 _ u z hu h3)
  cases d with
  | lst ds => obtain ⟨a, vs, ev, h1, h2⟩ := rv.lst ex; exact fin a vs ds ev (.inl (SqL.of h1)) h2 hf
  | tup ds => obtain ⟨a, vs, ev, h1, h2⟩ := rv.tup ex; exact fin a vs ds ev (.inr h1) h2 hf
  | _ => cases hf
theorem calls_min : CallS1 L (rBest L.K btMin) minD := calls_best fun ds i j => by
  unfold btMin pyLt; rw [getD_map_pyOf, getD_map_pyOf]
theorem calls_max : CallS1 L (rBest L.K btMax) maxD := calls_best fun ds i j => by
  unfold btMax pyLt; rw [getD_map_pyOf, getD_map_pyOf]
/-! ### sum -/
def isOf : List D → Option (List Int)
  | [] => some []
  | .int b :: ds => (isOf ds).map (b :: ·)
  | _ => none
theorem is_rep : ∀ {ds : List D} {vs : List V} {bs : List Int}, Reps L.K F vs ds → isOf ds = some bs → vs = bs.map V.int
  | [], vs, bs, h, e => by cases e; exact h.nil_inv
  | d :: ds, vs, bs, h, e => by
    obtain ⟨w, r, rfl, h1, h2⟩ := h.cons_inv
    cases d with
    | int b =>
      cases h1
      unfold isOf at e
      obtain ⟨bs', e1, rfl⟩ := Option.map_eq_some_iff.mp e
      rw [is_rep h2 e1]; rfl
    | _ => cases e
def sumD : D → Option D
  | .lst ds => (isOf ds).map fun ns => .int ns.sum
  | _ => none
theorem calls_sum : CallS1 L (rSum L.K) sumD := by
  intro F H v d z Q ex hf rv q
  unfold sumD at hf
  split at hf
  · obtain ⟨bs, e1, rfl⟩ := Option.map_eq_some_iff.mp hf
    obtain ⟨a, vs, rfl, h1, h2⟩ := rv.lst ex
    exact ⟨a, bs, rfl, by rw [← is_rep h2 e1]; exact SqL.of h1, q _ F H (.refl ex) (.int _)⟩
  · cases hf
theorem isOf_map (ns : List Int) : isOf (ns.map D.int) = some ns := by
  induction ns with
  | nil => rfl
  | cons n ns ih => rw [List.map_cons, isOf, ih]; rfl
end
end KL
/-! KL, part q: enumerate and zip of lists, tuples, texts, in any mixture. -/
namespace KL
section
open PySem PySem.Spec PyProof.Rows L2
/-- what is walked -/
inductive Md where | l (a : Addr) | t (a : Addr) | s (x : Str)
def Md.v : Md → V
  | .l a => .ref a
  | .t a => .ref a
  | .s x => .str x
def Md.ads : Md → List Addr
  | .l a => [a]
  | .t a => [a]
  | .s _ => []
def Md.k : Md → String
  | .l _ => "list_iterator"
  | .t _ => "tuple_iterator"
  | .s x => strIterType x
def Md.ok (K : PySem.W.Frag) (H : Hp) (xs : List V) : Md → Prop
  | .l a => SqL K H a xs
  | .t a => SqT K H a xs
  | .s x => xs = x.cps.toList.map fun c => V.str ⟨#[c]⟩
def ItAt (h : Heap) (it : Addr) (k : String) (u : Value) (i : Nat) : Prop := ∃ o, h.get? it = some o ∧ o.cls = .type k ∧ o.data = .fields #[u, .int i 0]
theorem ItAt.at' {h h' : Heap} {it : Addr} {k : String} {u : Value} {i : Nat} (s : ItAt h it k u i) (e : ∀ o, h.get? it = some o → h'.get? it = some o) : ItAt h' it k u i := let ⟨o, a, b, c⟩ := s; ⟨o, e o a, b, c⟩
theorem ItAt.lt {h : Heap} {it : Addr} {k : String} {u : Value} {i : Nat} (s : ItAt h it k u i) : it < h.objs.size := let ⟨_, a, _⟩ := s; Heap.lt_size a
theorem draws_tuple {prog : Program} {w : World} {A : Around} (hh : A.handled = none) (it l : Addr) (hne : l ≠ it) (items : Array Value) :
    Draws prog w A it [it, l] items.size (fun i v => items[i]? = some v) (fun i h => h.IsTupleIter it l i ∧ h.IsTuple l items) where
  live := fun _ _ st => let ⟨o, ho, _⟩ := st.1; ⟨o, ho⟩
  frame := fun _ _ _ st hk => ⟨st.1.at fun o e => hk it (by simp) o e, let ⟨o, a, r⟩ := st.2; ⟨o, hk l (by simp) o a, r⟩⟩
  item := fun i s Q E hi st hQ => by
    refine RZ.nextOf_tuple_item st.1 st.2 (x := items[i]) (by simp [hi]) fun h' hit' hs' => ?_
    exact hQ _ h' s.toks (by simp [hi]) ⟨hit', st.2.extBut hs'.extBut hne⟩ hs'
  done := fun s Q E st hE => RZ.nextOf_tuple_end hh st.1 st.2 (by simp) hE
/-- u is walked so -/
structure Src (prog : Program) (w : World) (m : Md) (u : Value) (n : Nat) (Pv : Nat → Value → Prop) (Bs : Heap → Prop) : Prop where
  draws : ∀ (A : Around), A.handled = none → ∀ it, it ∉ m.ads → Draws prog w A it (it :: m.ads) n Pv fun i h => ItAt h it m.k u i ∧ Bs h
  keep : ∀ h h', Bs h → (∀ b o, h.get? b = some o → h'.get? b = some o) → Bs h'
  iter : ∀ (A : Around) (E : Value → Shared → Prop) (s : Shared) (Q : Value → Shared → Prop), Bs s.heap → Q (.ref s.heap.objs.size) { s with heap := s.heap.push { cls := .type m.k, data := .fields #[u, .int 0 0] } } → wpAny (model prog w) A (pyIter u) Q E s
section
variable {X : Cx} {pins : List (Addr × Obj)} {s : Shared} {σ : L2.St} {H : Hp}
theorem src_of (I : Inv X pins σ H s) {m : Md} {xs : List V} {u : Value} (h : m.ok X.K H xs) (r : RelV m.v u) :
    ∃ Pv Bs, Src X.prog X.w m u xs.length Pv Bs ∧ Bs s.heap ∧ (∀ i y, Pv i y → ∃ x, xs[i]? = some x ∧ RelV x y) ∧ ∀ b ∈ m.ads, b < s.heap.objs.size := by
  have at_ : ∀ {its : List Value} (rv : Vals xs its) i y, its.toArray[i]? = some y → ∃ x, xs[i]? = some x ∧ RelV x y := fun rv i y hy => vals_at rv (by simpa using hy)
  cases m with
  | l a =>
    cases r
    obtain ⟨its, rv, p, _⟩ := I.list h
    refine ⟨fun i v => its.toArray[i]? = some v, fun h => h.IsList a its.toArray, ⟨fun A hh it hi => ?_, fun h h' b k => let ⟨o, x, y⟩ := b; ⟨o, k _ _ x, y⟩, fun A E s Q b q => wpAny_pyIter_list b q⟩, p.isList, fun i y hy => at_ rv i y hy, fun b hb => ?_⟩
    · have hne : a ≠ it := fun z => hi (by rw [z]; exact List.mem_singleton.mpr rfl)
      have e : its.toArray.size = xs.length := by simp [rv.length]
      have := Draws.list (prog := X.prog) (w := X.w) hh it a hne its.toArray
      rw [e] at this; exact this
    · rw [List.mem_singleton.mp hb]; exact p.lt
  | t a =>
    cases r
    obtain ⟨its, rv, p, _⟩ := I.tuple h
    refine ⟨fun i v => its.toArray[i]? = some v, fun h => h.IsTuple a its.toArray, ⟨fun A hh it hi => ?_, fun h h' b k => let ⟨o, x, y⟩ := b; ⟨o, k _ _ x, y⟩, fun A E s Q b q => wpAny_pyIter_tuple b q⟩, (show s.heap.IsTuple a its.toArray from p), fun i y hy => at_ rv i y hy, fun b hb => ?_⟩
    · have hne : a ≠ it := fun z => hi (by rw [z]; exact List.mem_singleton.mpr rfl)
      have e : its.toArray.size = xs.length := by simp [rv.length]
      have := draws_tuple (prog := X.prog) (w := X.w) hh it a hne its.toArray
      rw [e] at this; exact this
    · rw [List.mem_singleton.mp hb]
      obtain ⟨o, ho, _⟩ := (show s.heap.IsTuple a its.toArray from p)
      exact Heap.lt_size ho
  | s x =>
    obtain ⟨t, rfl⟩ := r
    have hx : xs = x.cps.toList.map fun c => V.str ⟨#[c]⟩ := h
    refine ⟨fun i v => ∃ c u, x.cps[i]? = some c ∧ v = .str ⟨#[c]⟩ u, fun _ => True, ⟨fun A hh it hi => ?_, fun _ _ _ _ => trivial, fun A E s Q b q => wpAny_pyIter_strU q⟩, trivial, fun i y hy => ?_, fun b hb => by cases hb⟩
    · have e : x.cps.size = xs.length := by rw [hx]; simp
      have fix : ∀ {k : String}, k = strIterType x → Draws X.prog X.w A it [it] x.cps.size (fun i v => ∃ c u, x.cps[i]? = some c ∧ v = .str ⟨#[c]⟩ u) (fun i h => h.IsStrIter it k x t i) → Draws X.prog X.w A it (it :: (Md.s x).ads) xs.length (fun i v => ∃ c u, x.cps[i]? = some c ∧ v = .str ⟨#[c]⟩ u) (fun i h => ItAt h it (Md.s x).k (.str x t) i ∧ True) := by
        rintro k rfl D
        rw [← e]
        exact ⟨fun i h st => D.live i h st.1, fun i h h' st k => ⟨D.frame i h h' st.1 k, trivial⟩, fun i s Q E hi st q => D.item i s Q E hi st.1 fun y h' tk p q1 q2 => q y h' tk p ⟨q1, trivial⟩ q2, fun s Q E st q => D.done s Q E st.1 q⟩
      cases ha : x.cps.all (· < 128)
      · exact fix (by simp [strIterType, ha]) (Draws.strWide hh it x t)
      · exact fix (by simp [strIterType, ha]) (Draws.strAscii hh it x t)
    · obtain ⟨c, u, h1, rfl⟩ := hy
      refine ⟨.str ⟨#[c]⟩, ?_, ⟨u, rfl⟩⟩
      rw [hx, List.getElem?_map, Array.getElem?_toList, h1]; rfl
theorem md_inj (I : Inv X pins σ H s) {m : Md} {xs ys : List V} (h : m.ok X.K H xs) (h' : m.ok X.K H ys) : xs = ys := by
  cases m with
  | l a => exact I.list_inj h h'
  | t a => exact I.tuple_inj h h'
  | s x => exact Eq.trans h (Eq.symm h')
end
/-! ### enumerate -/
def IteG (K : PySem.W.Frag) (m : Md) (n : Nat) : It :=
  ⟨fun i H => ∃ (xs : List V) (x : V), m.ok K H xs ∧ xs.length = n ∧ xs[i]? = some x, fun i H v H' => ∃ T x, v = .ref T ∧ H T = none ∧ H' = upd H T (.tup [.int (i : Nat), x]) ∧ ∀ xs, m.ok K H xs → xs[i]? = some x, fun i H => ∃ xs : List V, m.ok K H xs ∧ xs.length = n ∧ n ≤ i⟩
theorem turn_enumG {P : Program} {w : World} {K : PySem.W.Frag} {elts : List Expr} {kk : Nat} {tpos : Pos} (m : Md) (n : Nat) (u : Value) (hr : RelV m.v u) (e it : Addr) (hne : e ≠ it) (hia : it ∉ m.ads) (hea : e ∉ m.ads) :
    Turn P w K (.Tuple elts kk tpos) (IteG K m n) [e, it] e (fun i h => (∃ old, IsEnum h e it ((i : Nat) : Int) old) ∧ ItAt h it m.k u i ∧ i ≤ n) where
  mem := by simp
  obj := fun i h st b hb => by
    obtain ⟨⟨old, he⟩, ⟨o, ho, hc, hd⟩, _⟩ := st
    have e' : b = e ∨ b = it := by simpa using hb
    rcases e' with z | z
    · rw [z]; exact ⟨_, he, fun v q => nomatch q⟩
    · rw [z]; exact ⟨o, ho, fun v q => by rw [hd] at q; cases q⟩
  keep := fun i h h' st k => let ⟨⟨old, he⟩, hi, z⟩ := st; ⟨⟨old, k e (by simp) _ he⟩, hi.at' fun o q => k it (by simp) o q, z⟩
  item := by
    intro X hP hw hK hc i pins s σ H E I hf st hg
    subst hP hw hK
    obtain ⟨⟨old, he⟩, hit, _⟩ := st
    obtain ⟨xs, x, hq, hn, hx⟩ := hg
    obtain ⟨Pv, Bs, S, bs, pv, lt⟩ := src_of I hq hr
    have hi : i < xs.length := (List.getElem?_eq_some_iff.mp hx).1
    have hel : e < s.heap.objs.size := Heap.lt_size he
    have hil : it < s.heap.objs.size := hit.lt
    refine wpAny_pyNext_enum_itemD (S.draws X.A.in1 (I.ok.hd hc) it hia) he ⟨hit, bs⟩ hi hne (by rw [List.mem_cons, not_or]; exact ⟨hne, hea⟩) fun y h' tk py ho hit' hT hsz hk => ?_
    obtain ⟨x', hx', ru⟩ := pv i y py
    rw [hx] at hx'; cases hx'
    refine ⟨_, rfl, wpAny_letOwnedTupleGo_enum (s := { s with heap := h', toks := tk + 1 }) ho fun h'' he' sb => ?_⟩
    have hT2 : h''.get? s.heap.objs.size = some { cls := .type "tuple", data := .seq #[.int i tk, y] } := (sb.2 _ (Nat.ne_of_gt hel)).trans hT
    have new : ObjOk X.prog X.w (upd H s.heap.objs.size (.tup [.int (i : Nat), x])) h'' s.heap.objs.size (.tup [.int (i : Nat), x]) :=
      ⟨by show 2 ≤ sizeLine; decide, [.int i tk, y], .cons ⟨_, rfl⟩ (.cons ru .nil), ⟨_, hT2, rfl, _, rfl⟩⟩
    have I1 : Inv X pins σ (upd H s.heap.objs.size (.tup [.int (i : Nat), x])) { s with heap := h'', toks := tk + 1 } :=
      I.turnedNew (ch := [e, it]) (fun b ob hb q => (sb.2 b (fun z => hb (by simp [z]))).trans (hk b ob (fun z => hb (by simp [z])) (fun z => hb (by simp [z])) q)) hf (Nat.le_refl _) new
    refine ⟨.ref s.heap.objs.size, _, I1, rfl, ⟨_, x, rfl, I.hok.fresh (Nat.le_refl _), rfl, fun ys hy => by rw [md_inj I hy hq]; exact hx⟩, ⟨⟨y, ?_⟩, hit'.1.at' fun o q => (sb.2 it (Ne.symm hne)).trans q, by omega⟩, fun b hb => ?_⟩
    · have e1 : ((i + 1 : Nat) : Int) = (i : Int) + 1 := by omega
      rw [e1]; exact he'
    · have hb' : b < s.heap.objs.size := by
        have e' : b = e ∨ b = it := by simpa using hb
        rcases e' with z | z
        · rw [z]; exact hel
        · rw [z]; exact hil
      rw [upd_ne (Nat.ne_of_lt hb')]
      exact (hf b hb).1
  done := by
    intro X hP hw hK hc i pins s σ H E I hf st hg
    subst hP hw hK
    obtain ⟨⟨old, he⟩, hit, hle⟩ := st
    obtain ⟨xs, hq, hn, hx⟩ := hg
    obtain ⟨Pv, Bs, S, bs, pv, lt⟩ := src_of I hq hr
    have hi : i = xs.length := by omega
    obtain ⟨f0, f1, f2, f3, f4, f5⟩ := hf it (by simp)
    refine wpAny_pyNext_enum_endD (S.draws X.A.in1 (I.ok.hd hc) it hia) he ⟨by rw [← hi]; exact hit, bs⟩ fun h' eb => ⟨rfl, I.turned (t' := s.toks) (fun b o hb q => eb b o hb q) f0 f1 f3 f4 f5⟩
  self := fun A i s Q E st h => let ⟨⟨_, he⟩, _⟩ := st; wpAny_pyIter_enum he h
/-- enumerate(tuple) -/
theorem meets_enumT (l : Addr) (items : Array Value) (n : Nat) (dct : Option Addr) (sl : Array (Option Value)) :
    Meets (Builtin.«enumerate.__new__» ⟨[.type "enumerate", .ref l], []⟩) (fun _ R s => s.heap.get? l = some { cls := .type "tuple", dict := dct, data := .seq items n, slots := sl } ∧
      R (.ok (.ret (.ref (s.heap.push { cls := .type "tuple_iterator", data := .fields #[.ref l, .int 0 0] }).objs.size)))
        { s with heap := (s.heap.push { cls := .type "tuple_iterator", data := .fields #[.ref l, .int 0 0] }).push { cls := .type "enumerate", data := .fields #[.none, .bool false, .ref s.heap.objs.size, rawInt 0, .none, .none] } }) :=
  .of_wp fun prog w A R s h => by
    obtain ⟨hp, g, d, tk, os⟩ := s; obtain ⟨hl, h⟩ := h
    have hsub := sub_enumerate
    have hL : Heap.IsTuple (Shared.heap ⟨hp, g, d, tk, os⟩) l items := ⟨_, hl, rfl, n, rfl⟩
    wp_walk using AutoSeq1.wpAny_loadPart' hl
    refine wpAny_stack_any fun st => wpAny_pure ?_
    split
    · rename_i c _ _ _ _ _
      cases (c == Value.type "enumerate")
      · wp_walk using AutoSeq1.wpAny_loadPart' hl, wpAny_pyIter_tuple hL
        exact ⟨_, rfl, h⟩
      · wp_walk using AutoSeq1.wpAny_loadPart' hl, wpAny_pyIter_tuple hL
        exact ⟨_, rfl, h⟩
    · wp_walk using AutoSeq1.wpAny_loadPart' hl, wpAny_pyIter_tuple hL
      exact ⟨_, rfl, h⟩
section
variable {prog : Program} {w : World} {A : Around} {E : Value → Shared → Prop} {s : Shared}
theorem call_enumT {l : Addr} {items : Array Value} {Q : Value → Shared → Prop} (hL : s.heap.IsTuple l items)
    (h : ∀ h', IsEnum h' (s.heap.objs.size + 1) s.heap.objs.size 0 .none → h'.IsTupleIter s.heap.objs.size l 0 → h'.objs.size = s.heap.objs.size + 2 →
      (∀ b o, s.heap.get? b = some o → h'.get? b = some o) → Q (.ref (s.heap.objs.size + 1)) { s with heap := h' }) :
    wpAny (model prog w) A (call (.type "enumerate") [.ref l]) Q E s := by
  obtain ⟨⟨c, dct, dt, sl⟩, hl, hc, n, hd⟩ := hL
  replace hc : c = .type "tuple" := hc
  replace hd : dt = .seq items n := hd
  subst hc hd
  refine callType_new F.called_enumerate (by decide) (F.typeCall_enumerate_1 _) (F.newCall_enumerate_1 _) (fun obj => F.args_object_init_2 obj _) F.entry_enumerate_new
    (meets_enumT l items n dct sl) ⟨hl, ?_⟩
  have hz : (s.heap.push { cls := .type "tuple_iterator", data := .fields #[.ref l, .int 0 0] }).objs.size = s.heap.objs.size + 1 := Heap.size_push ..
  show _ ∧ _
  rw [hz]
  have he : IsEnum ((s.heap.push { cls := .type "tuple_iterator", data := .fields #[.ref l, .int 0 0] }).push
      { cls := .type "enumerate", data := .fields #[.none, .bool false, .ref s.heap.objs.size, rawInt 0, .none, .none] }) (s.heap.objs.size + 1) s.heap.objs.size 0 .none := by
    have := Heap.get?_push_size (s.heap.push { cls := .type "tuple_iterator", data := .fields #[.ref l, .int 0 0] })
      (o := { cls := .type "enumerate", data := .fields #[.none, .bool false, .ref s.heap.objs.size, rawInt 0, .none, .none] }) rfl
    rw [hz] at this; exact this
  refine ⟨⟨_, he, rfl⟩, h _ he ⟨_, Heap.get?_push_of_some _ (Heap.get?_push_size _ rfl), rfl, rfl⟩ (by rw [Heap.size_push, hz]) fun b o x => Heap.get?_push_of_some _ (Heap.get?_push_of_some _ x)⟩
end
section
variable {X : Cx} {pins : List (Addr × Obj)} {s : Shared} {σ : L2.St} {H : Hp}
/-- the call, whatever is walked -/
theorem call_enumG (I : Inv X pins σ H s) {m : Md} {xs : List V} {u : Value} {Q : Value → Shared → Prop} (h : m.ok X.K H xs) (r : RelV m.v u)
    (q : ∀ h', IsEnum h' (s.heap.objs.size + 1) s.heap.objs.size 0 .none → ItAt h' s.heap.objs.size m.k u 0 → (∀ b o, s.heap.get? b = some o → h'.get? b = some o) → Q (.ref (s.heap.objs.size + 1)) { s with heap := h' }) :
    wpAny (model X.prog X.w) X.A (call (.type "enumerate") [u]) Q X.xe s := by
  cases m with
  | l a =>
    cases r
    obtain ⟨its, rv, p, _⟩ := I.list h
    exact call_enumerate_list p.isList fun h' a1 a2 a3 a4 => q h' a1 a2 a4
  | t a =>
    cases r
    obtain ⟨its, rv, p, _⟩ := I.tuple h
    exact call_enumT (show s.heap.IsTuple a its.toArray from p) fun h' a1 a2 a3 a4 => q h' a1 a2 a4
  | s x =>
    obtain ⟨t, rfl⟩ := r
    exact call_enumerate_str fun h' a1 a2 a3 a4 => q h' a1 a2 a4
end
def iEnumG (K : PySem.W.Frag) (ta : TA) : TI := fun σ H R => ta σ H fun vs H1 => ∃ (m : Md) (xs : List V), vs = [m.v] ∧ m.ok K H1 xs ∧ R (IteG K m xs.length) H1
theorem pi_enumG {X : Cx} {e : Expr} {ta : TA} {p pos tpos : Pos} {elts : List Expr} {kk : Nat} (hg : Gl X "enumerate") (hm : X.mg "enumerate" = none) (ha : PA X [e] ta) (hs : starEach [e] X.env = [(false, eval e X.env)] := by rfl) :
    PI X (.Tuple elts kk tpos) (.Call (.Name "enumerate" p) [e] [] pos) (iEnumG X.K ta) := by
  refine ⟨fun pins s σ H R I h => ?_⟩
  refine Call_ (ld_blt I hg hm boot_enumerate (PyProof.Rows.callWith_type1 (thn (ha.run pos pins s σ H _ I h) fun us s1 ⟨vs, H1, I1, r1, q1⟩ => ?_) hs rfl))
  obtain ⟨m, xs, ex, hq, q⟩ := q1
  subst ex
  cases r1 with
  | cons r rr =>
    cases rr
    obtain ⟨Pv, Bs, S, bs, pv, lt⟩ := src_of I1 hq r
    refine call_enumG I1 hq r fun h' he hit hk => wpAny_pyIter_enum he ?_
    have I2 : Inv X pins σ H1 { s1 with heap := h' } := I1.kept (t' := s1.toks) hk
    refine ⟨s1.heap.objs.size + 1, [s1.heap.objs.size + 1, s1.heap.objs.size], _, _, H1, rfl, I2, turn_enumG m xs.length _ r (s1.heap.objs.size + 1) s1.heap.objs.size (Nat.succ_ne_self _) (fun z => Nat.lt_irrefl _ (lt _ z)) (fun z => Nat.lt_irrefl _ (Nat.lt_of_succ_lt (lt _ z))), ⟨⟨.none, he⟩, hit, Nat.zero_le _⟩, fun b hb => ?_, q⟩
    have e' : b = s1.heap.objs.size + 1 ∨ b = s1.heap.objs.size := by simpa using hb
    have hle : s1.heap.objs.size ≤ b := by
      rcases e' with z | z
      · rw [z]; exact Nat.le_add_right _ _
      · rw [z]; exact Nat.le_refl _
    exact I1.fpOk hle (I1.hok.fresh hle)
/-! ### zip -/
def ItzG (K : PySem.W.Frag) (m m2 : Md) (n n2 : Nat) : It :=
  ⟨fun i H => ∃ (xs ys : List V) (x y : V), m.ok K H xs ∧ m2.ok K H ys ∧ xs.length = n ∧ ys.length = n2 ∧ xs[i]? = some x ∧ ys[i]? = some y,
    fun i H v H' => ∃ T x y, v = .ref T ∧ H T = none ∧ H' = upd H T (.tup [x, y]) ∧ (∀ xs, m.ok K H xs → xs[i]? = some x) ∧ ∀ ys, m2.ok K H ys → ys[i]? = some y,
    fun i H => ∃ xs ys : List V, m.ok K H xs ∧ m2.ok K H ys ∧ xs.length = n ∧ ys.length = n2 ∧ (n ≤ i ∨ n2 ≤ i)⟩
theorem turn_zipG {P : Program} {w : World} {K : PySem.W.Frag} {elts : List Expr} {kk : Nat} {tpos : Pos} {m m2 : Md} {u u2 : Value} {z TI TO i1 i2 : Addr} (n n2 : Nat) (hr : RelV m.v u) (hr2 : RelV m2.v u2) (D : ZipSep2 z TI TO i1 i2 (i1 :: m.ads) (i2 :: m2.ads)) (h1a : i1 ∉ m.ads) (h2a : i2 ∉ m2.ads) :
    Turn P w K (.Tuple elts kk tpos) (ItzG K m m2 n n2) [z, TI, TO, i1, i2] z (fun i h => IsZip h z TI TO .none ∧ IsPair h TI (.ref i1) (.ref i2) ∧ (∃ x y, IsPair h TO x y) ∧ ItAt h i1 m.k u i ∧ ItAt h i2 m2.k u2 i ∧ i ≤ n ∧ i ≤ n2) where
  mem := by simp
  obj := fun i h st c hc => by
    obtain ⟨hz, hTI, ⟨x, y, hTO⟩, ⟨o1, e1, _, d1⟩, ⟨o2, e2, _, d2⟩, _⟩ := st
    have e' : c = z ∨ c = TI ∨ c = TO ∨ c = i1 ∨ c = i2 := by simpa using hc
    rcases e' with q | q | q | q | q
    · rw [q]; exact ⟨_, hz, fun v q => nomatch q⟩
    · rw [q]; exact ⟨_, hTI, fun v q => nomatch q⟩
    · rw [q]; exact ⟨_, hTO, fun v q => nomatch q⟩
    · rw [q]; exact ⟨o1, e1, fun v q => by rw [d1] at q; cases q⟩
    · rw [q]; exact ⟨o2, e2, fun v q => by rw [d2] at q; cases q⟩
  keep := fun i h h' st k => by
    obtain ⟨hz, hTI, ⟨x, y, hTO⟩, h1, h2, hle⟩ := st
    exact ⟨k z (by simp) _ hz, k TI (by simp) _ hTI, ⟨x, y, k TO (by simp) _ hTO⟩, h1.at' fun o q => k i1 (by simp) o q, h2.at' fun o q => k i2 (by simp) o q, hle⟩
  item := by
    intro X hP hw hK hc i pins s σ H E I hf st hg
    subst hP hw hK
    obtain ⟨hz, hTI, ⟨x0, y0, hTO⟩, h1, h2, hle1, hle2⟩ := st
    obtain ⟨xs, ys, x, y, hqx, hqy, hn, hn2, hx, hy⟩ := hg
    obtain ⟨Pv, Bs, S, bs, pv, lt⟩ := src_of I hqx hr
    obtain ⟨Pv2, Bs2, S2, bs2, pv2, lt2⟩ := src_of I hqy hr2
    have hzl : z < s.heap.objs.size := Heap.lt_size hz
    have hi : i < xs.length := (List.getElem?_eq_some_iff.mp hx).1
    have hi2 : i < ys.length := (List.getElem?_eq_some_iff.mp hy).1
    have TIz := D.TIz
    have TOz := D.TOz
    have zi1 := D.zi1
    have zi2 := D.zi2
    refine wpAny_pyNext_zipD2_item D (S.draws X.A.in1 (I.ok.hd hc) i1 h1a) (S2.draws X.A.in1 (I.ok.hd hc) i2 h2a) hz hTI hTO ⟨h1, bs⟩ ⟨h2, bs2⟩ hi hi2 fun v1 v2 h' tk p1 p2 z' TO' h1' h2' hT hsz hk => ?_
    obtain ⟨x', hx', ru⟩ := pv i v1 p1
    rw [hx] at hx'; cases hx'
    obtain ⟨y', hy', ru2⟩ := pv2 i v2 p2
    rw [hy] at hy'; cases hy'
    refine ⟨_, rfl, wpAny_letOwnedTupleGo_zip (s := { s with heap := h', toks := tk }) z' fun h'' z'' sb => ?_⟩
    have hT2 : h''.get? s.heap.objs.size = some { cls := .type "tuple", data := .seq #[v1, v2] } := (sb.2 _ (Nat.ne_of_gt hzl)).trans hT
    have new : ObjOk X.prog X.w (upd H s.heap.objs.size (.tup [x, y])) h'' s.heap.objs.size (.tup [x, y]) :=
      ⟨by show 2 ≤ sizeLine; decide, [v1, v2], .cons ru (.cons ru2 .nil), ⟨_, hT2, rfl, _, rfl⟩⟩
    have I1 : Inv X pins σ (upd H s.heap.objs.size (.tup [x, y])) { s with heap := h'', toks := tk } :=
      I.turnedNew (t' := tk) (ch := [z, TI, TO, i1, i2]) (fun c o hb q => (sb.2 c (fun q' => hb (by simp [q']))).trans (hk c o (fun q' => hb (by simp [q'])) (fun q' => hb (by simp [q'])) (fun q' => hb (by simp [q'])) (fun q' => hb (by simp [q'])) q)) hf (Nat.le_refl _) new
    refine ⟨.ref s.heap.objs.size, _, I1, rfl, ⟨_, x, y, rfl, I.hok.fresh (Nat.le_refl _), rfl, fun l hl => by rw [md_inj I hl hqx]; exact hx, fun l hl => by rw [md_inj I hl hqy]; exact hy⟩, ⟨z'', ?_, ⟨v1, v2, ?_⟩, ?_, ?_, by omega, by omega⟩, fun c hcm => ?_⟩
    · exact (sb.2 _ TIz).trans (hk _ _ TIz D.TITO D.TIi1 D.TIi2 hTI)
    · exact (sb.2 _ TOz).trans TO'
    · exact h1'.1.at' fun o q => (sb.2 _ (Ne.symm zi1)).trans q
    · exact h2'.1.at' fun o q => (sb.2 _ (Ne.symm zi2)).trans q
    · have hlt : c < s.heap.objs.size := by
        have e' : c = z ∨ c = TI ∨ c = TO ∨ c = i1 ∨ c = i2 := by simpa using hcm
        rcases e' with q | q | q | q | q
        · rw [q]; exact hzl
        · rw [q]; exact Heap.lt_size hTI
        · rw [q]; exact Heap.lt_size hTO
        · rw [q]; exact h1.lt
        · rw [q]; exact h2.lt
      rw [upd_ne (Nat.ne_of_lt hlt)]
      exact (hf c hcm).1
  done := by
    intro X hP hw hK hc i pins s σ H E I hf st hg
    subst hP hw hK
    obtain ⟨hz, hTI, ⟨x0, y0, hTO⟩, h1, h2, hle1, hle2⟩ := st
    obtain ⟨xs, ys, hqx, hqy, hn, hn2, hend⟩ := hg
    obtain ⟨Pv, Bs, S, bs, pv, lt⟩ := src_of I hqx hr
    obtain ⟨Pv2, Bs2, S2, bs2, pv2, lt2⟩ := src_of I hqy hr2
    refine wpAny_pyNext_zipD2_end D (S.draws X.A.in1 (I.ok.hd hc) i1 h1a) (S2.draws X.A.in1 (I.ok.hd hc) i2 h2a) hz hTI hTO ⟨h1, bs⟩ ⟨h2, bs2⟩ (by omega) (by omega) (by omega) fun h' tk hk => ⟨rfl, I.turnedL (t' := tk) (ch := [z, TI, TO, i1, i2]) (fun c o hb q =>
      hk c o (fun q' => hb (by simp [q'])) (fun q' => hb (by simp [q'])) (fun q' => hb (by simp [q'])) (fun q' => hb (by simp [q'])) q) hf⟩
  self := fun A i s Q E st h => wpAny_pyIter_zip st.1 h
abbrev zG1 (h : Heap) (k : String) (u : Value) : Heap := h.push { cls := .type k, data := .fields #[u, .int 0 0] }
abbrev zG2 (h : Heap) (k k2 : String) (u u2 : Value) : Heap := (zG1 h k u).push { cls := .type k2, data := .fields #[u2, .int 0 0] }
abbrev zG3 (h : Heap) (k k2 : String) (u u2 : Value) : Heap := (zG2 h k k2 u u2).push { cls := .type "tuple", data := .seq #[.ref h.objs.size, .ref (zG1 h k u).objs.size] }
abbrev zG4 (h : Heap) (k k2 : String) (u u2 : Value) : Heap := (zG3 h k k2 u u2).push { cls := .type "tuple", data := .seq #[.none, .none] }
abbrev zG5 (h : Heap) (k k2 : String) (u u2 : Value) : Heap := (zG4 h k k2 u u2).push { cls := .type "zip", data := .fields #[.none, .bool false, .bool false, .ref (zG2 h k k2 u u2).objs.size, .ref (zG3 h k k2 u u2).objs.size] }
theorem meets_zipLT (l1 l2 : Addr) (xs ys : Array Value) :
    Meets (Builtin.«zip.__new__» ⟨[.type "zip", .ref l1, .ref l2], []⟩) (fun _ R s => s.heap.IsList l1 xs ∧ s.heap.IsTuple l2 ys ∧
      R (.ok (.ret (.ref (zG4 s.heap "list_iterator" "tuple_iterator" (.ref l1) (.ref l2)).objs.size))) { s with heap := zG5 s.heap "list_iterator" "tuple_iterator" (.ref l1) (.ref l2) }) :=
  .of_wp fun prog w A R s h => by
    obtain ⟨hp, g, d, tk, os⟩ := s; obtain ⟨hl1, hl2, h⟩ := h
    have hsub := sub_zip
    have hL1 : Heap.IsList (Shared.heap ⟨hp, g, d, tk, os⟩) l1 xs := hl1
    have hL2 : Heap.IsTuple (Shared.heap ⟨hp.push { cls := .type "list_iterator", data := .fields #[.ref l1, .int 0 0] }, g, d, tk, os⟩) l2 ys := Heap.IsTuple.push hl2 _
    wp_walk using wpAny_pyIter_list hL1, wpAny_pyIter_tuple hL2
    exact ⟨_, rfl, h⟩
theorem meets_zipTL (l1 l2 : Addr) (xs ys : Array Value) :
    Meets (Builtin.«zip.__new__» ⟨[.type "zip", .ref l1, .ref l2], []⟩) (fun _ R s => s.heap.IsTuple l1 xs ∧ s.heap.IsList l2 ys ∧
      R (.ok (.ret (.ref (zG4 s.heap "tuple_iterator" "list_iterator" (.ref l1) (.ref l2)).objs.size))) { s with heap := zG5 s.heap "tuple_iterator" "list_iterator" (.ref l1) (.ref l2) }) :=
  .of_wp fun prog w A R s h => by
    obtain ⟨hp, g, d, tk, os⟩ := s; obtain ⟨hl1, hl2, h⟩ := h
    have hsub := sub_zip
    have hL1 : Heap.IsTuple (Shared.heap ⟨hp, g, d, tk, os⟩) l1 xs := hl1
    have hL2 : Heap.IsList (Shared.heap ⟨hp.push { cls := .type "tuple_iterator", data := .fields #[.ref l1, .int 0 0] }, g, d, tk, os⟩) l2 ys := let ⟨o, a, b⟩ := hl2; ⟨o, Heap.get?_push_of_some _ a, b⟩
    wp_walk using wpAny_pyIter_tuple hL1, wpAny_pyIter_list hL2
    exact ⟨_, rfl, h⟩
/-- what the call leaves -/
theorem zip_left {h : Heap} {k k2 : String} {u u2 : Value} {R : Heap → Prop} (q : ∀ h', IsZip h' (h.objs.size + 4) (h.objs.size + 2) (h.objs.size + 3) .none → IsPair h' (h.objs.size + 2) (.ref h.objs.size) (.ref (h.objs.size + 1)) → IsPair h' (h.objs.size + 3) .none .none → ItAt h' h.objs.size k u 0 → ItAt h' (h.objs.size + 1) k2 u2 0 →
      (∀ c o, h.get? c = some o → h'.get? c = some o) → R h') : (zG4 h k k2 u u2).objs.size = h.objs.size + 4 ∧ (zG5 h k k2 u u2).get? (h.objs.size + 4) = some { cls := .type "zip", data := .fields #[.none, .bool false, .bool false, .ref (h.objs.size + 2), .ref (h.objs.size + 3)] } ∧ R (zG5 h k k2 u u2) := by
  have z1 : (zG1 h k u).objs.size = h.objs.size + 1 := Heap.size_push ..
  have z2 : (zG2 h k k2 u u2).objs.size = h.objs.size + 2 := by rw [Heap.size_push, z1]
  have z3 : (zG3 h k k2 u u2).objs.size = h.objs.size + 3 := by rw [Heap.size_push, z2]
  have z4 : (zG4 h k k2 u u2).objs.size = h.objs.size + 4 := by rw [Heap.size_push, z3]
  have g5 : (zG5 h k k2 u u2).get? (zG4 h k k2 u u2).objs.size = some _ := Heap.get?_push_size _ rfl
  have g4 : (zG5 h k k2 u u2).get? (zG3 h k k2 u u2).objs.size = some _ := Heap.get?_push_of_some _ (Heap.get?_push_size _ rfl)
  have g3 : (zG5 h k k2 u u2).get? (zG2 h k k2 u u2).objs.size = some _ := Heap.get?_push_of_some _ (Heap.get?_push_of_some _ (Heap.get?_push_size _ rfl))
  have g2 : (zG5 h k k2 u u2).get? (zG1 h k u).objs.size = some _ := Heap.get?_push_of_some _ (Heap.get?_push_of_some _ (Heap.get?_push_of_some _ (Heap.get?_push_size _ rfl)))
  have g1 : (zG5 h k k2 u u2).get? h.objs.size = some _ := Heap.get?_push_of_some _ (Heap.get?_push_of_some _ (Heap.get?_push_of_some _ (Heap.get?_push_of_some _ (Heap.get?_push_size _ rfl))))
  rw [z2, z3, z4] at g5
  rw [z1, z2] at g3
  rw [z3] at g4
  rw [z1] at g2
  exact ⟨z4, g5, q _ g5 g3 g4 ⟨_, g1, rfl, rfl⟩ ⟨_, g2, rfl, rfl⟩ fun c o x => Heap.get?_push_of_some _ (Heap.get?_push_of_some _ (Heap.get?_push_of_some _ (Heap.get?_push_of_some _ (Heap.get?_push_of_some _ x))))⟩
def Md.sq : Md → Bool
  | .s _ => false
  | _ => true
section
variable {X : Cx} {pins : List (Addr × Obj)} {s : Shared} {σ : L2.St} {H : Hp}
theorem call_zipG (I : Inv X pins σ H s) {m m2 : Md} {xs ys : List V} {u u2 : Value} {Q : Value → Shared → Prop} (hs : m.sq = true) (hs2 : m2.sq = true) (h : m.ok X.K H xs) (h2 : m2.ok X.K H ys) (r : RelV m.v u) (r2 : RelV m2.v u2)
    (q : ∀ h', IsZip h' (s.heap.objs.size + 4) (s.heap.objs.size + 2) (s.heap.objs.size + 3) .none → IsPair h' (s.heap.objs.size + 2) (.ref s.heap.objs.size) (.ref (s.heap.objs.size + 1)) → IsPair h' (s.heap.objs.size + 3) .none .none → ItAt h' s.heap.objs.size m.k u 0 → ItAt h' (s.heap.objs.size + 1) m2.k u2 0 →
      (∀ c o, s.heap.get? c = some o → h'.get? c = some o) → Q (.ref (s.heap.objs.size + 4)) { s with heap := h' }) :
    wpAny (model X.prog X.w) X.A (call (.type "zip") [u, u2]) Q X.xe s := by
  have mk : ∀ {k k2 : String}, k = m.k → k2 = m2.k → (wants (fun obj s₁ => s₁.TypeIs obj "zip" ∧ Q obj s₁) X.xe) (.ok (.ret (.ref (zG4 s.heap k k2 u u2).objs.size))) { s with heap := zG5 s.heap k k2 u u2 } := fun e e2 => by
    subst e e2
    obtain ⟨a1, a2, a3⟩ := zip_left (h := s.heap) (k := m.k) (k2 := m2.k) (u := u) (u2 := u2) (R := fun h' => Q (.ref (s.heap.objs.size + 4)) { s with heap := h' }) q
    show _ ∧ _
    rw [a1]
    exact ⟨⟨_, a2, rfl⟩, a3⟩
  cases m with
  | s x => cases hs
  | l a =>
    cases r
    obtain ⟨its, rv, p, _⟩ := I.list h
    cases m2 with
    | s x => cases hs2
    | l b =>
      cases r2
      obtain ⟨its2, rv2, p2, _⟩ := I.list h2
      exact call_zip_2 p.isList p2.isList fun h' a1 a2 a3 a4 a5 a6 a7 => q h' a1 a2 a3 a4 a5 a7
    | t b =>
      cases r2
      obtain ⟨its2, rv2, p2, _⟩ := I.tuple h2
      exact callType_new F.called_zip (by decide) (F.typeCall_zip_2 _ _) (F.newCall_zip_2 _ _) (fun obj => F.args_object_init_3 obj _ _) F.entry_zip_new (meets_zipLT a b its.toArray its2.toArray) ⟨p.isList, (show s.heap.IsTuple b its2.toArray from p2), mk rfl rfl⟩
  | t a =>
    cases r
    obtain ⟨its, rv, p, _⟩ := I.tuple h
    cases m2 with
    | s x => cases hs2
    | l b =>
      cases r2
      obtain ⟨its2, rv2, p2, _⟩ := I.list h2
      exact callType_new F.called_zip (by decide) (F.typeCall_zip_2 _ _) (F.newCall_zip_2 _ _) (fun obj => F.args_object_init_3 obj _ _) F.entry_zip_new (meets_zipTL a b its.toArray its2.toArray) ⟨(show s.heap.IsTuple a its.toArray from p), p2.isList, mk rfl rfl⟩
    | t b =>
      cases r2
      obtain ⟨its2, rv2, p2, _⟩ := I.tuple h2
      exact RZ.call_zipT (show s.heap.IsTuple a its.toArray from p) (show s.heap.IsTuple b its2.toArray from p2) fun h' a1 a2 a3 a4 a5 a6 a7 => q h' a1 a2 a3 a4 a5 a7
end
def iZipG (K : PySem.W.Frag) (ta : TA) : TI := fun σ H R => ta σ H fun vs H1 => ∃ (m m2 : Md) (xs ys : List V), vs = [m.v, m2.v] ∧ m.sq = true ∧ m2.sq = true ∧ m.ok K H1 xs ∧ m2.ok K H1 ys ∧ R (ItzG K m m2 xs.length ys.length) H1
theorem pi_zipG {X : Cx} {e e2 : Expr} {ta : TA} {p pos tpos : Pos} {elts : List Expr} {kk : Nat} (hg : Gl X "zip") (hm : X.mg "zip" = none) (ha : PA X [e, e2] ta)
    (hs : starEach [e, e2] X.env = (false, eval e X.env) :: starEach [e2] X.env := by rfl) (hpl : (backTo pos (starEach [e2] X.env)).any (·.1) = false := by rfl) :
    PI X (.Tuple elts kk tpos) (.Call (.Name "zip" p) [e, e2] [] pos) (iZipG X.K ta) := by
  refine ⟨fun pins s σ H R I h => ?_⟩
  refine Call_ (ld_blt I hg hm PyProof.Rows.boot_zip (PyProof.Rows.callWith_type1 (thn (ha.run pos pins s σ H _ I h) fun us s1 ⟨vs, H1, I1, r1, q1⟩ => ?_) hs hpl))
  obtain ⟨m, m2, xs, ys, ex, hs1, hs2, hqx, hqy, q⟩ := q1
  subst ex
  cases r1 with
  | cons r rr =>
    cases rr with
    | cons r' rr =>
      cases rr
      obtain ⟨Pv, Bs, S, bs, pv, lt⟩ := src_of I1 hqx r
      obtain ⟨Pv2, Bs2, S2, bs2, pv2, lt2⟩ := src_of I1 hqy r'
      refine call_zipG I1 hs1 hs2 hqx hqy r r' fun h' hz hTI hTO h1 h2 hk => wpAny_pyIter_zip hz ?_
      have I2 : Inv X pins σ H1 { s1 with heap := h' } := I1.kept (t' := s1.toks) hk
      have nin : ∀ {m : Md} (j : Nat), (∀ b ∈ m.ads, b < s1.heap.objs.size) → s1.heap.objs.size + j ∉ m.ads := fun j l z => by
        have := l _ z
        exact absurd this (Nat.not_lt.mpr (Nat.le_add_right _ _))
      have ne : ∀ (a b : Nat), a ≠ b → (s1.heap.objs.size + a : Nat) ≠ s1.heap.objs.size + b := fun a b h z => h (Nat.add_left_cancel z)
      have sep : ZipSep2 (s1.heap.objs.size + 4) (s1.heap.objs.size + 2) (s1.heap.objs.size + 3) (s1.heap.objs.size + 0) (s1.heap.objs.size + 1) ((s1.heap.objs.size + 0) :: m.ads) ((s1.heap.objs.size + 1) :: m2.ads) :=
        ⟨ne 2 4 (by decide), ne 3 4 (by decide), ne 2 3 (by decide), ne 2 0 (by decide), .head _, by rw [List.mem_cons, not_or]; exact ⟨ne 4 0 (by decide), nin 4 lt⟩, by rw [List.mem_cons, not_or]; exact ⟨ne 3 0 (by decide), nin 3 lt⟩, ne 2 1 (by decide), .head _,
          by rw [List.mem_cons, not_or]; exact ⟨ne 4 1 (by decide), nin 4 lt2⟩, by rw [List.mem_cons, not_or]; exact ⟨ne 3 1 (by decide), nin 3 lt2⟩, by rw [List.mem_cons, not_or]; exact ⟨ne 0 1 (by decide), nin 0 lt2⟩, by rw [List.mem_cons, not_or]; exact ⟨ne 1 0 (by decide), nin 1 lt⟩⟩
      refine ⟨s1.heap.objs.size + 4, [s1.heap.objs.size + 4, s1.heap.objs.size + 2, s1.heap.objs.size + 3, s1.heap.objs.size + 0, s1.heap.objs.size + 1], _, _, H1, rfl, I2, turn_zipG xs.length ys.length r r' sep (nin 0 lt) (nin 1 lt2), ⟨hz, hTI, ⟨_, _, hTO⟩, h1, h2, Nat.zero_le _, Nat.zero_le _⟩, fun c hcm => ?_, q⟩
      have e' : c = s1.heap.objs.size + 4 ∨ c = s1.heap.objs.size + 2 ∨ c = s1.heap.objs.size + 3 ∨ c = s1.heap.objs.size + 0 ∨ c = s1.heap.objs.size + 1 := by simpa using hcm
      have hle : s1.heap.objs.size ≤ c := by
        rcases e' with z | z | z | z | z <;> (rw [z]; exact Nat.le_add_right _ _)
      exact I1.fpOk hle (I1.hok.fresh hle)
end
end KL
/-! KL, part r: enumerate and zip as walked; lists repeated; sorted. -/
namespace KL
open PySem L2
section
variable {X : Cx} {L : Lx} {W : WX} {σ : L2.St} {Δ : DEnv} {F H : Hp} {e e2 a b c : Expr} {es elts : List Expr} {me ma mb mc : DEnv → Res D} {p pos tpos : Pos} {x : Str} {i kk : Nat}
/-- what is walked, as data -/
def walkD : D → Option (List D)
  | .lst ds => some ds
  | .lsx ds => some ds
  | .tup ds => some ds
  | .str z => some (signs z)
  | _ => none
theorem walk_md {v : V} {d : D} {ds : List D} (h : walkD d = some ds) (r : Rep L.K F v d) : ∃ (m : Md) (vs : List V), v = m.v ∧ (∀ H', Ex F H' → m.ok L.K H' vs) ∧ vs.length = ds.length ∧ (∀ (i : Nat) u z, vs[i]? = some u → ds[i]? = some z → Rep L.K F u z) ∧ (m.sq = true ∨ ∃ z, d = .str z) := by
  cases d with
  | lst xs => cases h; obtain ⟨a, vs, rfl, h1, h2⟩ := rep_ref_lst r; exact ⟨.l a, vs, rfl, fun H' e => SqL.of (e _ _ h1), h2.1, h2.2, .inl rfl⟩
  | lsx xs => cases h; obtain ⟨a, vs, rfl, h1, h2⟩ := rep_ref_lsx r; exact ⟨.l a, vs, rfl, fun H' e => e.sl h1, h2.1, h2.2, .inl rfl⟩
  | tup xs => cases h; obtain ⟨a, vs, rfl, h1, h2⟩ := rep_ref_tup r; exact ⟨.t a, vs, rfl, fun H' e => e.st h1, h2.1, h2.2, .inl rfl⟩
  | str z =>
    cases h; cases r
    refine ⟨.s z, z.cps.toList.map fun c => V.str ⟨#[c]⟩, rfl, fun H' e => rfl, by simp [signs], fun i u w h1 h2 => ?_, .inr ⟨z, rfl⟩⟩
    unfold signs at h2
    rw [List.getElem?_map] at h1 h2
    cases q : z.cps.toList[i]? with
    | none => rw [q] at h1; cases h1
    | some c => rw [q] at h1 h2; cases h1; cases h2; exact .str _
  | _ => cases h
def enumL (ds : List D) : List D := (List.range ds.length).map fun i => .tup [.int (i : Nat), ds.getD i .non]
def enumM (m : DEnv → Res D) : DEnv → Res (List D) := fun Δ => (m Δ).bind fun d Δ1 => .opt ((walkD d).map enumL) Δ1
theorem enumL_get {ds : List D} {i : Nat} {d : D} (h : (enumL ds)[i]? = some d) : ∃ z, ds[i]? = some z ∧ d = .tup [.int (i : Nat), z] := by
  unfold enumL at h
  rw [List.getElem?_map] at h
  cases q : (List.range ds.length)[i]? with
  | none => rw [q] at h; cases h
  | some j =>
    rw [q] at h; cases h
    have hi : i < ds.length := by have := (List.getElem?_eq_some_iff.mp q).1; simpa using this
    have hj : j = i := by rw [List.getElem?_range hi] at q; cases q; rfl
    subst hj
    refine ⟨ds[j], List.getElem?_eq_getElem hi, ?_⟩
    show D.tup [.int (j : Nat), ds.getD j .non] = _
    rw [List.getD_eq_getElem?_getD, List.getElem?_eq_getElem hi]; rfl
theorem enumL_len {ds : List D} : (enumL ds).length = ds.length := by simp [enumL]
theorem rep_pair {F' : Hp} {T : Addr} {u v : V} {x y : D} (e : Ex F F') (h : F' T = some (.tup [u, v])) (r1 : Rep L.K F u x) (r2 : Rep L.K F v y) : Rep L.K F' (.ref T) (.tup [x, y]) :=
  .tup (SqT.of h) rfl fun j a b h1 h2 => by
    cases j with
    | zero => cases h1; cases h2; exact r1.mono e
    | succ j => cases j with
      | zero => cases h1; cases h2; exact r2.mono e
      | succ j => simp at h1
theorem i_enum (hg : Gl X "enumerate") (hm : X.mg "enumerate" = none) (h : DE X L W e me) (hs : starEach [e] X.env = [(false, eval e X.env)] := by rfl) (hk : L.K = X.K := by rfl) :
    DI X L W (.Tuple elts kk tpos) (.Call (.Name "enumerate" p) [e] [] pos) (enumM me) := by
  obtain ⟨te, p1, s1⟩ := h.ex
  refine ⟨_, pi_enumG hg hm (pa_cons p1 pa_nil (hs.trans rfl)) hs, fun σ Δ F H R env w => ?_⟩
  refine s1 σ Δ F H _ env (w.bind.mono fun d Δ1 F1 H1 env1 w1 v r => ?_)
  cases q : walkD d with
  | none => rw [q] at w1; exact w1.elim
  | some ds =>
    rw [q] at w1
    obtain ⟨m, vs, rfl, ok, hl, rp, _⟩ := walk_md q r
    refine ⟨m, vs, rfl, hk ▸ ok H1 env1.ex, w1 F1 H1 env1 .refl _ fun i F' H' e1 e2 => ?_⟩
    have okH : m.ok X.K H' vs := hk ▸ ok H' (e1.trans e2)
    refine ⟨fun z hz => ?_, fun hle => ⟨vs, okH, rfl, by rw [enumL_len] at hle; omega⟩⟩
    obtain ⟨y, hy, rfl⟩ := enumL_get hz
    have hi : i < ds.length := (List.getElem?_eq_some_iff.mp hy).1
    have hu : vs[i]? = some (vs[i]'(by omega)) := List.getElem?_eq_getElem (by omega)
    refine ⟨⟨vs, _, okH, rfl, hu⟩, fun x H'' ⟨T, x0, ev, hT, eH'', hx⟩ => ?_⟩
    have := hx vs okH
    rw [hu] at this; cases this
    subst ev eH''
    have g : Gro F' H' (upd F' T (.tup [.int (i : Nat), vs[i]'(by omega)])) (upd H' T (.tup [.int (i : Nat), vs[i]'(by omega)])) := Gro.new e2 hT
    exact ⟨_, g, rep_pair g.f upd_same (.int _) ((rp i _ _ hu hy).mono e1)⟩
def zipL (xs ys : List D) : List D := (xs.zip ys).map fun q => .tup [q.1, q.2]
def zipD (d d2 : D) : Option (List D) := match d with
  | .str _ => none
  | d => match d2 with
    | .str _ => none
    | d2 => (walkD d).bind fun xs => (walkD d2).map fun ys => zipL xs ys
theorem zipD_some {d d2 : D} {zs : List D} (h : zipD d d2 = some zs) : ∃ xs ys, walkD d = some xs ∧ walkD d2 = some ys ∧ zs = zipL xs ys ∧ (∀ z, d ≠ .str z) ∧ ∀ z, d2 ≠ .str z := by
  unfold zipD at h
  split at h
  · cases h
  · rename_i h0
    split at h
    · cases h
    · rename_i h1
      obtain ⟨xs, e1, h⟩ := Option.bind_eq_some_iff.mp h
      obtain ⟨ys, e2, rfl⟩ := Option.map_eq_some_iff.mp h
      exact ⟨xs, ys, e1, e2, rfl, fun z q => h0 z q, fun z q => h1 z q⟩
theorem zipL_get {xs ys : List D} {i : Nat} {d : D} (h : (zipL xs ys)[i]? = some d) : ∃ x y, xs[i]? = some x ∧ ys[i]? = some y ∧ d = .tup [x, y] := by
  unfold zipL at h
  rw [List.getElem?_map] at h
  cases q : (xs.zip ys)[i]? with
  | none => rw [q] at h; cases h
  | some z =>
    rw [q] at h; cases h
    obtain ⟨h1, h2⟩ := List.getElem?_zip_eq_some.mp q
    exact ⟨z.1, z.2, h1, h2, rfl⟩
theorem i_zip (hg : Gl X "zip") (hm : X.mg "zip" = none) (h : DE X L W e ma) (h' : DE X L W e2 mb) (hs : starEach [e, e2] X.env = (false, eval e X.env) :: starEach [e2] X.env := by rfl) (hs2 : starEach [e2] X.env = (false, eval e2 X.env) :: starEach [] X.env := by rfl)
    (hpl : (backTo pos (starEach [e2] X.env)).any (·.1) = false := by rfl) (hk : L.K = X.K := by rfl) :
    DI X L W (.Tuple elts kk tpos) (.Call (.Name "zip" p) [e, e2] [] pos) (opM zipD ma mb) := by
  obtain ⟨ta, p1, s1⟩ := h.ex
  obtain ⟨tb, p2, s2⟩ := h'.ex
  refine ⟨_, pi_zipG hg hm (pa_cons p1 (pa_cons p2 pa_nil hs2) hs) hs hpl, fun σ Δ F H R env w => ?_⟩
  refine s1 σ Δ F H _ env (w.bind.mono fun d Δ1 F1 H1 env1 w1 v r => ?_)
  refine s2 σ Δ1 F1 H1 _ env1 (Want.keep (w1.bind.mono fun d2 Δ2 F2 H2 env2 w2 st v2 r2 => ?_))
  cases q : zipD d d2 with
  | none => rw [q] at w2; exact w2.elim
  | some zs =>
    rw [q] at w2
    obtain ⟨xs, ys, q1, q2, rfl, n1, n2⟩ := zipD_some q
    obtain ⟨m, vs, rfl, ok, hl, rp, sq⟩ := walk_md q1 (r.mono st.fr)
    obtain ⟨m2, vs2, rfl, ok2, hl2, rp2, sq2⟩ := walk_md q2 r2
    have hsq : m.sq = true := sq.elim id fun ⟨z, hz⟩ => absurd hz (n1 z)
    have hsq2 : m2.sq = true := sq2.elim id fun ⟨z, hz⟩ => absurd hz (n2 z)
    refine ⟨m, m2, vs, vs2, rfl, hsq, hsq2, hk ▸ ok H2 env2.ex, hk ▸ ok2 H2 env2.ex, w2 F2 H2 env2 .refl _ fun i F' H' e1 e2 => ?_⟩
    have okH : m.ok X.K H' vs := hk ▸ ok H' (e1.trans e2)
    have okH2 : m2.ok X.K H' vs2 := hk ▸ ok2 H' (e1.trans e2)
    refine ⟨fun z hz => ?_, fun hle => ⟨vs, vs2, okH, okH2, rfl, rfl, by unfold zipL at hle; rw [List.length_map, List.length_zip] at hle; omega⟩⟩
    obtain ⟨x, y, hx, hy, rfl⟩ := zipL_get hz
    have hi : i < xs.length := (List.getElem?_eq_some_iff.mp hx).1
    have hi2 : i < ys.length := (List.getElem?_eq_some_iff.mp hy).1
    have hu : vs[i]? = some (vs[i]'(by omega)) := List.getElem?_eq_getElem (by omega)
    have hu2 : vs2[i]? = some (vs2[i]'(by omega)) := List.getElem?_eq_getElem (by omega)
    refine ⟨⟨vs, vs2, _, _, okH, okH2, rfl, rfl, hu, hu2⟩, fun x' H'' ⟨T, x0, y0, ev, hT, eH'', hx', hy'⟩ => ?_⟩
    have t1 := hx' vs okH
    have t2 := hy' vs2 okH2
    rw [hu] at t1; cases t1
    rw [hu2] at t2; cases t2
    subst ev eH''
    have g : Gro F' H' (upd F' T (.tup [vs[i]'(by omega), vs2[i]'(by omega)])) (upd H' T (.tup [vs[i]'(by omega), vs2[i]'(by omega)])) := Gro.new e2 hT
    exact ⟨_, g, rep_pair g.f upd_same ((rp i _ _ hu hx).mono e1) ((rp2 i _ _ hu2 hy).mono e1)⟩
end
end KL
/-! KL, part s: lists repeated, sorted, slices of any value, count. -/
namespace KL
open PySem L2
section
variable {X : Cx} {L : Lx} {W : WX} {σ : L2.St} {Δ : DEnv} {F H : Hp} {e e2 a b c : Expr} {es : List Expr} {me ma mb mc : DEnv → Res D} {p pos tpos : Pos} {x : Str} {i kk : Nat}
/-! ### xs * n -/
theorem reps_flat {vs : List V} {ds : List D} (h : Reps L.K F vs ds) : ∀ n : Nat, Reps L.K F (List.replicate n vs).flatten (List.replicate n ds).flatten
  | 0 => Reps.nil
  | n + 1 => by
    rw [List.replicate_succ, List.replicate_succ, List.flatten_cons, List.flatten_cons]
    exact h.append (reps_flat h n)
theorem opf_rep : OpF L rRep repF := by
  intro F H x y dx dy ds Q ex hf rx ry q
  unfold repF at hf
  split at hf
  · rename_i xs k
    split at hf
    · rename_i hc; cases hf
      obtain ⟨a, vs, e1, e2, e3⟩ := rx.lst ex
      refine ⟨a, k, vs, e1, ry.int, e2, ?_, ?_, by rw [line_eq, e3.1]; exact hc.2.2, fun p hp => q p _ hp (reps_flat e3 _)⟩
      · have := hc.1; omega
      · have := hc.2.1; omega
    · cases hf
  · cases hf
theorem repF_ok {xs : List D} {n : Nat} (h : (n : Int) < 4611686018427387904) (h2 : xs.length * n ≤ 16777216) : repF (.lst xs) (.int (n : Int)) = some (List.replicate n xs).flatten := by
  simp only [repF, Int.toNat_natCast]
  rw [if_pos ⟨by omega, h, h2⟩]
/-! ### slices of any value -/
def rSlA (K : PySem.W.Frag) : V → Option Int → Option Int → Hp → VK → Prop := fun x lo hi H Q => (∃ z, x = .str z ∧ z.length ≤ sizeLine ∧ Q (.str (cutS z lo hi)) H) ∨ rSlL K x lo hi H Q ∨ rSlT K x lo hi H Q
theorem sl_any : SlR X (rSlA X.K) := SlR.or sl_str (SlR.or sl_list sl_tup)
def slAD (d : D) (lo hi : Option Int) : Option D := match d with
  | .str z => if z.length ≤ 16777216 then some (.str (cutS z lo hi)) else none
  | .lst ds => some (.lst (cutL ds lo hi))
  | .tup ds => if HT.sIx ds.length 0 lo = 0 ∧ HT.sIx ds.length ds.length hi = ds.length then none else some (.tup (cutL ds lo hi))
  | _ => none
theorem sl_run {k : Lx} {lo hi : Option Int} {d z : D} {v : V} {Q : VK} (ex : Ex F H) (hf : slAD d lo hi = some z) (r : Rep k.K F v d) (q : ∀ u F' H', Gro F H F' H' → Rep k.K F' u z → Q u H') : rSlA k.K v lo hi H Q := by
  unfold slAD at hf
  split at hf
  · split at hf
    · rename_i hl; cases hf; cases r; exact .inl ⟨_, rfl, by rw [line_eq]; exact hl, q _ F H (.refl ex) (.str _)⟩
    · cases hf
  · cases hf
    obtain ⟨a, vs, rfl, h1, h2⟩ := rep_ref_lst r
    have rr := cutL_reps (L := k) h2 lo hi
    refine .inr (.inl ⟨a, vs, rfl, SqL.of (ex _ _ h1), fun p hp => ?_⟩)
    have g : Gro F H (upd F p (.lst (cutV vs lo hi))) (upd H p (.lst (cutV vs lo hi))) := Gro.new ex hp
    exact q _ _ _ g (.lst upd_same rr.1 fun i v d a b => (rr.2 i v d a b).mono g.f)
  · rename_i ds
    split at hf
    · cases hf
    · rename_i hn
      cases hf
      obtain ⟨a, vs, rfl, h1, h2⟩ := rep_ref_tup r
      have rr := cutL_reps (L := k) h2 lo hi
      refine .inr (.inr ⟨a, vs, rfl, ex.st h1, by rw [h2.1]; exact hn, fun p hp => ?_⟩)
      have g : Gro F H (upd F p (.tup (cutV vs lo hi))) (upd H p (.tup (cutV vs lo hi))) := Gro.new ex hp
      exact q _ _ _ g (.tup (SqT.of upd_same) rr.1 fun i v d a b => (rr.2 i v d a b).mono g.f)
  · cases hf
theorem d_slA {lo hi : Option Expr} {ml mh : DEnv → Res (Option Int)} {p2 : Pos} (h : DE X L W e me) (hl : DO X L W lo ml) (hh : DO X L W hi mh) (hk : L.K = X.K := by rfl) : DE X L W (.Subscript e (.Slice lo hi none p2) pos) (slM slAD me ml mh) := by
  obtain ⟨_, p1, s1⟩ := h.ex
  obtain ⟨_, q2, s2⟩ := hl.ex
  obtain ⟨_, q3, s3⟩ := hh.ex
  refine ⟨_, pe_slice sl_any p1 q2 q3, fun σ Δ F H Q env w => ?_⟩
  refine s1 σ Δ F H _ env (w.bind.mono fun d Δ1 F1 H1 env1 w1 v r => ?_)
  refine s2 σ Δ1 F1 H1 _ env1 (Want.keep (w1.bind.mono fun lo Δ2 F2 H2 env2 w2 st2 => ?_))
  refine s3 σ Δ2 F2 H2 _ env2 (Want.keep (w2.bind.mono fun hi Δ3 F3 H3 env3 w3 st3 => ?_))
  cases q : slAD d lo hi with
  | none => rw [q] at w3; exact w3.elim
  | some z =>
    rw [q] at w3
    exact hk ▸ sl_run (k := L) env3.ex q ((r.mono st2.fr).mono st3.fr) fun u F' H' g ru => w3 F' H' (env3.gro g) (.gro g) u ru
/-- a slice of a list, fresh -/
theorem f_sl {lo hi : Option Expr} {ml mh : DEnv → Res (Option Int)} {p2 : Pos} (h : DE X L W e me) (hl : DO X L W lo ml) (hh : DO X L W hi mh) (hk : L.K = X.K := by rfl) : DF X L W (.Subscript e (.Slice lo hi none p2) pos) (slM slLD me ml mh) := by
  obtain ⟨_, p1, s1⟩ := h.ex
  obtain ⟨_, q2, s2⟩ := hl.ex
  obtain ⟨_, q3, s3⟩ := hh.ex
  refine ⟨_, pe_slice sl_list p1 q2 q3, fun σ Δ F H Q env w => ?_⟩
  refine s1 σ Δ F H _ env (Want.keep (w.bind.mono fun d Δ1 F1 H1 env1 w1 st1 v r => ?_))
  refine s2 σ Δ1 F1 H1 _ env1 (Want.keep (w1.bind.mono fun lo Δ2 F2 H2 env2 w2 st2 => ?_))
  refine s3 σ Δ2 F2 H2 _ env2 (Want.keep (w2.bind.mono fun hi Δ3 F3 H3 env3 w3 st3 => ?_))
  cases d with
  | lst ds =>
    obtain ⟨a, vs, rfl, h1, h2⟩ := rep_ref_lst ((r.mono st2.fr).mono st3.fr)
    have rr := cutL_reps h2 lo hi
    refine ⟨a, vs, rfl, SqL.of (env3.ex _ _ h1), fun p hp => ?_⟩
    obtain ⟨a1, a2, a3, a4⟩ := fresh_env (vs := cutV vs lo hi) env3 hp
    exact w3 F3 _ a1 a2 p _ (((st1.trans st2).trans st3).hn hp) a3 a4 upd_same rr
  | _ => exact w3.elim
/-- xs[::-1] of a list, fresh -/
def revF (m : DEnv → Res D) : DEnv → Res (List D) := fun Δ => (m Δ).bind fun d Δ1 => match d with
  | .lst ds => .ok ds.reverse Δ1
  | _ => .stuck
theorem f_rev {k : Nat} {p1 p2 p3 : Pos} (h : DE X L W e me) (hk : L.K = X.K := by rfl) : DF X L W (.Subscript e (.Slice none none (some (.UnaryOp .USub (.Constant (.int 1) k p1) p2)) p3) pos) (revF me) := by
  obtain ⟨_, q1, s1⟩ := h.ex
  refine ⟨_, pe_revL q1, fun σ Δ F H Q env w => ?_⟩
  refine s1 σ Δ F H _ env ?_
  replace w : Want L W σ Δ F H ((me Δ).bind fun d Δ1 => match d with | .lst ds => .ok ds.reverse Δ1 | _ => .stuck) _ := w
  refine Want.keep (w.bind.mono fun d Δ1 F1 H1 env1 w1 st1 v r => ?_)
  cases d with
  | lst ds =>
    obtain ⟨a, vs, rfl, h1, h2⟩ := rep_ref_lst r
    refine ⟨a, vs, rfl, SqL.of (env1.ex _ _ h1), fun p hp => ?_⟩
    obtain ⟨a1, a2, a3, a4⟩ := fresh_env (vs := vs.reverse) env1 hp
    exact w1 F1 _ a1 a2 p _ (st1.hn hp) a3 a4 upd_same h2.reverse
  | _ => exact w1.elim
/-! ### count -/
def scountD : Str → D → Option D := fun z y => match y with
  | .str c => some (.int (Txt.count z c))
  | _ => none
theorem sm_count : SM1 L (fun x xs H Q => ∃ a b, x = .str a ∧ xs = [.str b] ∧ Q (.int (Txt.count a b)) H) scountD := by
  intro F H z y dy d Q ex hf ry q
  unfold scountD at hf
  split at hf
  · cases hf; exact ⟨z, _, rfl, by rw [ry.str], q _ F H (.refl ex) (.int _)⟩
  · cases hf
/-! ### sorted -/
def rSortD (K : PySem.W.Frag) : List V → Hp → VK → Prop := fun xs H Q => ∃ (a : Addr) (vs : List V) (ds : List D), xs = [.ref a] ∧ SqL K H a vs ∧ DpAll K H vs (ds.map pyOf) ∧ vs.length = ds.length ∧ PySem.W.AllAlike (ds.map pyOf) ∧ PySem.W.Sortable (ds.map pyOf) ∧ ds.length ≤ sizeLine ∧ (∀ d ∈ ds, (pyOf d).depth ≤ 60) ∧
  ∀ p, H p = none → Q (.ref p) (upd H p (.lst (((vs.zip ds).mergeSort (PySem.W.dataLe false fun q => pyOf q.2)).map Prod.fst)))
open PySem.W PyProof.Rows in
theorem each_zip {h : Heap} : ∀ {vs : List V} {its : List Value} {ds : List D} {as : List Addr}, Vals vs its → ReadsAll h its (ds.map pyOf) as → vs.length = ds.length →
    EachIs (fun (u : Value) (q : V × D) => RelV q.1 u) its (vs.zip ds) ∧ EachIs (fun (u : Value) (q : V × D) => ∃ as, Reads h u (pyOf q.2) as) its (vs.zip ds)
  | [], [], [], _, _, _, _ => ⟨.nil, .nil⟩
  | v :: vs, u :: us, d :: ds, _, .cons r rs, .cons h1 h2, hl => by
    obtain ⟨e1, e2⟩ := each_zip rs h2 (by simpa using hl)
    exact ⟨.cons r e1, .cons ⟨_, h1⟩ e2⟩
  | [], [], _ :: _, _, _, _, hl => by simp at hl
  | _ :: _, _ :: _, [], _, _, _, hl => by simp at hl
open PySem.W PyProof.Rows in
theorem vals_each : ∀ {qs : List (V × D)} {out : List Value}, EachIs (fun (u : Value) (q : V × D) => RelV q.1 u) out qs → Vals (qs.map Prod.fst) out
  | [], _, .nil => .nil
  | q :: qs, _, .cons h t => .cons h (vals_each t)
theorem call_sortD (hu : X.A.units + 64 < cLine) : CallR X (.builtin "sorted") (rSortD X.K) := by
  intro pins s σ H xs us Q I r h
  obtain ⟨a, vs, ds, rfl, hs, hp, hl, ha, hk, hn, hd, q⟩ := h
  rw [Vals.ref1 r]
  obtain ⟨its, rv, p, hz⟩ := I.list hs
  obtain ⟨as, hr⟩ := Dp.readsAll I _ vs its hp rv
  obtain ⟨e1, e2⟩ := each_zip rv hr hl
  have em : (vs.zip ds).map (fun q => pyOf q.2) = ds.map pyOf := by
    show (vs.zip ds).map (pyOf ∘ Prod.snd) = _
    rw [← List.map_map, List.map_snd_zip (by omega)]
  have hlz : (vs.zip ds).length = ds.length := by rw [List.length_zip]; omega
  refine PySem.W.sorted_data (enc := fun q : V × D => pyOf q.2) (bs := vs.zip ds) p.isList e1 e2 (by rw [em]; exact ha) (by rw [em]; exact hk) (by rw [hlz]; exact hn) (fun b hb => ?_) fun out ho hout => ?_
  · have hb2 : b.2 ∈ ds := (List.of_mem_zip hb).2
    have := hd _ hb2
    omega
  · obtain ⟨ep, he'⟩ := PyProof.Rows.sortedAll_at s.heap its out.toArray
    have rv2 := vals_each hout
    have hlen : (((vs.zip ds).mergeSort (PySem.W.dataLe false fun q => pyOf q.2)).map Prod.fst).length ≤ sizeLine := by rw [rv2.length, ho, hlz]; exact hn
    exact ⟨.ref _, upd H (s.heap.objs.size + 1) (.lst _), I.laid (t' := s.toks) (fun _ _ => PyProof.Rows.sortedAll_old) (Nat.le_succ _) ⟨hlen, out, ep, rv2, he'⟩, rfl, q _ (I.hok.fresh (Nat.le_succ _))⟩
def leD' (x y : D) : Bool := PySem.W.dataLe false pyOf x y
/-- all data, alike, with an order -/
def sortOkB (ds : List D) : Bool := ds.all fun d => (toPy d).isSome && decide ((pyOf d).depth ≤ 60) && (ds.all fun e => PySem.W.alike (pyOf d) (pyOf e))
def tup1 : PyData → Bool
  | .tuple (_ :: _) => true
  | _ => false
def noTup : PyData → Bool
  | .tuple _ => false
  | .none => false
  | _ => true
def sortL (ds : List D) : Option (List D) := if sortOkB ds = true ∧ ((ds.all fun d => tup1 (pyOf d)) = true ∨ (ds.all fun d => noTup (pyOf d)) = true) ∧ ds.length ≤ 16777216 then some (ds.mergeSort (PySem.W.dataLe false pyOf)) else none
def sortF : D → Option (List D)
  | .lst ds => sortL ds
  | _ => none
theorem sort_reps {vs : List V} {ds : List D} (h : Reps L.K F vs ds) : Reps L.K F (((vs.zip ds).mergeSort (PySem.W.dataLe false fun q => pyOf q.2)).map Prod.fst) (ds.mergeSort (PySem.W.dataLe false pyOf)) := by
  have e : ds.mergeSort (PySem.W.dataLe false pyOf) = ((vs.zip ds).mergeSort (PySem.W.dataLe false fun q => pyOf q.2)).map Prod.snd := by
    rw [List.map_mergeSort (f := Prod.snd) (s := PySem.W.dataLe false pyOf) (r := PySem.W.dataLe false fun q : V × D => pyOf q.2) (l := vs.zip ds) (fun a _ b _ => rfl), List.map_snd_zip (by rw [h.1]; exact Nat.le_refl _)]
  rw [e]
  refine ⟨by rw [List.length_map, List.length_map], fun i v d h1 h2 => ?_⟩
  rw [List.getElem?_map] at h1 h2
  cases q : ((vs.zip ds).mergeSort (PySem.W.dataLe false fun q => pyOf q.2))[i]? with
  | none => rw [q] at h1; cases h1
  | some z =>
    rw [q] at h1 h2; cases h1; cases h2
    have hm : z ∈ vs.zip ds := List.mem_mergeSort.mp (List.mem_of_getElem? q)
    obtain ⟨j, hj⟩ := List.mem_iff_getElem?.mp hm
    obtain ⟨g1, g2⟩ := List.getElem?_zip_eq_some.mp hj
    exact h.2 j _ _ g1 g2
theorem f_sorted {y : Str} (hu : X.A.units + 64 < cLine) (hg : Gl X y) (hy : y = "sorted") (hm : X.mg y = none) (hv : bootBuiltins y = some (.builtin "sorted")) (hn : y ≠ "__name__") (hdb : (y == ("__debug__" : Str)) = false) (h : DR X L W e me)
    (hst : starEach (e :: []) X.env = (false, eval e X.env) :: starEach [] X.env := by rfl) (hpl : (backTo pos (starEach [] X.env)).any (·.1) = false := by rfl) (hk : L.K = X.K := by rfl) : DF X L W (.Call (.Name y p) [e] [] pos) (callF1 sortF me) := by
  obtain ⟨te, p1, s1⟩ := h.ex
  refine ⟨_, pe_callB (call_sortD hu) hg hm hv (pa_cons p1 pa_nil hst) hn hdb hst hpl, fun σ Δ F H Q env w => ?_⟩
  refine s1 σ Δ F H _ env ?_
  replace w : Want L W σ Δ F H ((me Δ).bind fun d Δ1 => .opt (sortF d) Δ1) _ := w
  refine Want.keep (w.bind.mono fun d Δ1 F1 H1 env1 w1 st1 v r => ?_)
  cases q2 : sortF d with
  | none => rw [q2] at w1; exact w1.elim
  | some zs =>
    rw [q2] at w1
    cases d with
    | lst ds =>
      replace q2 : (if sortOkB ds = true ∧ ((ds.all fun d => tup1 (pyOf d)) = true ∨ (ds.all fun d => noTup (pyOf d)) = true) ∧ ds.length ≤ 16777216 then some (ds.mergeSort (PySem.W.dataLe false pyOf)) else none) = some zs := q2
      split at q2
      · rename_i hc
        cases q2
        obtain ⟨c1, c2, c3⟩ := hc
        have cc : ∀ d ∈ ds, toPy d = some (pyOf d) ∧ (pyOf d).depth ≤ 60 ∧ ∀ e ∈ ds, PySem.W.alike (pyOf d) (pyOf e) = true := fun d hd => by
          have h1 := List.all_eq_true.mp c1 d hd
          simp only [Bool.and_eq_true] at h1
          obtain ⟨⟨h2, h3⟩, h4⟩ := h1
          refine ⟨?_, of_decide_eq_true h3, fun e he => List.all_eq_true.mp h4 e he⟩
          obtain ⟨p, hp⟩ := Option.isSome_iff_exists.mp h2
          unfold pyOf; rw [hp]; rfl
        obtain ⟨a, vs, rfl, h1, h2⟩ := r.lst env1.ex
        refine ⟨a, vs, ds, rfl, hk ▸ SqL.of h1, ?_, h2.1, ?_, ?_, by rw [line_eq]; exact c3, fun d hd => (cc d hd).2.1, fun pp hp => ?_⟩
        · rw [← hk]; exact toPys_dp (L := L) env1.ex ds vs _ h2 (toPys_map fun d hd => (cc d hd).1)
        · intro x hx y hy
          obtain ⟨d, hd, rfl⟩ := List.mem_map.mp hx
          obtain ⟨e, he, rfl⟩ := List.mem_map.mp hy
          exact (cc d hd).2.2 e he
        · rcases c2 with c2 | c2
          · refine .inl fun x hx => ?_
            obtain ⟨d, hd, rfl⟩ := List.mem_map.mp hx
            have := List.all_eq_true.mp c2 d hd
            revert this
            cases pyOf d with
            | tuple xs => cases xs with
              | nil => intro z; cases z
              | cons y ys => intro _; exact ⟨y, ys, rfl⟩
            | _ => intro z; cases z
          · refine .inr fun x hx => ?_
            obtain ⟨d, hd, rfl⟩ := List.mem_map.mp hx
            have := List.all_eq_true.mp c2 d hd
            revert this
            cases pyOf d with
            | tuple xs => intro z; cases z
            | none => intro z; cases z
            | _ => intro _; exact ⟨(nofun), (nofun)⟩
        · obtain ⟨a1, a2, a3, a4⟩ := fresh_env (vs := ((vs.zip ds).mergeSort (PySem.W.dataLe false fun q => pyOf q.2)).map Prod.fst) env1 hp
          exact w1 F1 _ a1 a2 pp _ (st1.hn hp) a3 a4 upd_same (sort_reps h2)
      · cases q2
    | _ => cases q2
end
end KL
/-! KL, part t: op=, stores at a place of an own list, extend, pop(i). -/
namespace KL
open PySem L2
section
variable {X : Cx} {L : Lx} {W : WX} {σ : L2.St} {Δ : DEnv} {F H : Hp} {e e2 a b c : Expr} {es : List Expr} {me ma mb mc : DEnv → Res D} {p pos pos' tpos : Pos} {x : Str} {i kk : Nat}
theorem own_list {Δ : DEnv} {xs : List D} (env : EnvOk L F σ Δ H) (h : getL Δ i = some xs) : ∃ a vs, slot σ i = some (.ref a) ∧ H a = some (.lst vs) ∧ F a = none ∧ Reps L.K F vs xs := env.getL h
/-! ### name op= e, no list -/
def augM (f : D → D → Option D) (i : Nat) (me : DEnv → Res D) : DEnv → SRes := fun Δ => match rdR Δ i with
  | none => .stuck
  | some _ => (me Δ).s fun y Δ1 => match (rdR Δ1 i).bind fun x => f x y with
    | some d => setM i d Δ1
    | none => .stuck
theorem s_aug {op : Operator} {r : R2} {f : D → D → Option D} (ho : OpR X (inplaceOp op) r) (hf : OpS L r f) (hN : X.N.Nodup) (hi : X.N[i]? = some x) (hx : Loc X.env.scope x) (h : DE X L W e me)
    (hfn : X.fn x = true ∨ X.env.scope.names.lookup x = some .local := by first | exact .inl rfl | exact .inr rfl | assumption) : DS X L W (.AugAssign (.Name x pos') op e pos) (augM f i me) := by
  obtain ⟨te, p1, s1⟩ := h.ex
  refine ⟨_, ps_aug (ti := r) hN hi hx p1 ho hfn, fun σ Δ F H E env w => ?_⟩
  unfold augM at w
  cases q0 : rdR Δ i with
  | none => rw [q0] at w; exact w.elim
  | some d0 =>
    rw [q0] at w
    obtain ⟨v, e1, _⟩ := env.rd q0
    replace w : WantS L W σ Δ F H ((me Δ).s fun y Δ1 => match (rdR Δ1 i).bind fun x => f x y with | some d => setM i d Δ1 | none => .stuck) E := w
    refine ⟨v, slot_some e1, s1 σ Δ F H _ env ((Want.ofS w).mono fun y Δ1 F1 H1 env1 w1 u ru => ?_)⟩
    cases q1 : rdR Δ1 i with
    | none => rw [q1] at w1; exact w1.elim
    | some x =>
      rw [q1, Option.bind_some] at w1
      obtain ⟨v', e2, rv⟩ := env1.rd q1
      rw [e1] at e2; cases e2
      cases g : f x y with
      | none => rw [g] at w1; exact w1.elim
      | some d =>
        rw [g] at w1
        refine hf F1 H1 v u x y d _ env1.ex g rv ru.r fun z F2 H2 gr rz => ?_
        replace w1 : WantS L W σ Δ1 F1 H1 (setM i d Δ1) E := w1
        unfold setM at w1
        split at w1
        · rename_i hc
          have env2 := env1.gro gr
          exact w1 _ F2 H2 (env2.setC hc ⟨z, rfl, rz⟩ fun xs a h _ => by cases h) (Step.setC (.gro gr) env2.len hc (fun xs h => by cases h) fun xs h => by cases h)
        · exact w1.elim
def rIAdd : R2 := fun x y H Q => rI0 (fun i j => .int (i + j)) x y H Q ∨ ∃ i j, x = .str i ∧ y = .str j ∧ i.length + j.length ≤ sizeLine ∧ Q (.str (i ++ j)) H
theorem iop_addA : OpR X (inplaceOp .Add) rIAdd := opr_or iop_add iop_add_str
def iaddD : D → D → Option D
  | .int i, .int j => some (.int (i + j))
  | .str x, .str y => if x.length + y.length ≤ 16777216 then some (.str (x ++ y)) else none
  | _, _ => none
theorem ops_iadd : OpS L rIAdd iaddD := by
  intro F H x y dx dy d Q ex hf rx ry q
  unfold iaddD at hf
  split at hf
  · cases hf; rw [rx.int, ry.int]; exact .inl ⟨_, _, rfl, rfl, q _ F H (.refl ex) (.int _)⟩
  · split at hf
    · rename_i hl; cases hf; rw [rx.str, ry.str]; exact .inr ⟨_, _, rfl, rfl, by rw [line_eq]; exact hl, q _ F H (.refl ex) (.str _)⟩
    · cases hf
  · cases hf
/-! ### own list += e -/
def lstOf : D → Option (List D)
  | .lst ds => some ds
  | _ => none
def extM (i : Nat) (me : DEnv → Res D) : DEnv → SRes := fun Δ => match getL Δ i with
  | none => .stuck
  | some _ => (me Δ).s fun d Δ1 => match getL Δ1 i, lstOf d with
    | some xs, some ys => if xs.length + ys.length ≤ 16777216 then .nx (setL Δ1 i (xs ++ ys)) else .stuck
    | _, _ => .stuck
theorem set_same {σ : L2.St} {v : V} (h : slot σ i = some v) : σ.set i (some v) = σ := by
  have := slot_some h
  apply List.ext_getElem?
  intro j
  by_cases hj : i = j
  · subst hj
    rw [List.getElem?_set_self (List.getElem?_eq_some_iff.mp this).1, this]
  · rw [List.getElem?_set_ne hj]
theorem s_ext (hN : X.N.Nodup) (hi : X.N[i]? = some x) (hx : Loc X.env.scope x) (h : DE X L W e me)
    (hfn : X.fn x = true ∨ X.env.scope.names.lookup x = some .local := by first | exact .inl rfl | exact .inr rfl | assumption) : DS X L W (.AugAssign (.Name x pos') .Add e pos) (extM i me) := by
  obtain ⟨te, p1, s1⟩ := h.ex
  refine ⟨_, ps_aug (ti := rExt2) hN hi hx p1 iop_ext hfn, fun σ Δ F H E env w => ?_⟩
  unfold extM at w
  cases q0 : getL Δ i with
  | none => rw [q0] at w; exact w.elim
  | some d0 =>
    rw [q0] at w
    obtain ⟨a, us, e1, _⟩ := env.getL q0
    refine ⟨.ref a, slot_some e1, s1 σ Δ F H _ env ((Want.ofS w).mono fun d Δ1 F1 H1 env1 w1 u ru => ?_)⟩
    cases q1 : getL Δ1 i with
    | none => rw [q1] at w1; exact w1.elim
    | some xs =>
      obtain ⟨a', vs, e2, h2, h3, h4⟩ := env1.getL q1
      rw [e1] at e2; cases e2
      rw [q1] at w1
      cases d with
      | lst ys =>
        replace w1 : WantS L W σ Δ1 F1 H1 (if xs.length + ys.length ≤ 16777216 then .nx (setL Δ1 i (xs ++ ys)) else .stuck) E := w1
        split at w1
        · rename_i hl
          obtain ⟨b, ws, rfl, g1, g2⟩ := rep_ref_lst ru
          obtain ⟨env2, st2⟩ := env1.mut q1 e1 h2 h3 (h4.append g2)
          refine ⟨a, b, vs, ws, rfl, rfl, h2, env1.ex _ _ g1, by rw [line_eq, h4.1, g2.1]; exact hl, ?_⟩
          show E.nx (σ.set i (some (.ref a))) _
          rw [set_same e1]
          exact w1 σ F1 _ env2 st2
        · exact w1.elim
      | _ => exact w1.elim
/-- own list.extend(e) -/
def extendM (i : Nat) (me : DEnv → Res D) : DEnv → Res D := fun Δ => match getL Δ i with
  | none => .stuck
  | some _ => (me Δ).bind fun d Δ1 => match getL Δ1 i, lstOf d with
    | some xs, some ys => gd (decide (xs.length + ys.length ≤ 16777216)) (.ok .non (setL Δ1 i (xs ++ ys)))
    | _, _ => .stuck
theorem d_extend {n : Str} {apos : Pos} (hnm : n = "extend") (hN : X.N[i]? = some x) (hv : Vis X.env.scope x) (hd : (x == ("__debug__" : Str)) = false) (hcd : (x == ("__classdict__" : Str)) = false) (h : DE X L W e me)
    (hbase : attributeBase (.Name x p) n X.env (eval (.Name x p) X.env) = eval (.Name x p) X.env := by rfl)
    (hfew : ((backTo pos (starEach (e :: []) X.env)).all (fun x => !x.1) && (backToKw pos (keywordEach [] X.env)).all (fun x => x.1.isSome) && decide ((e :: []).length + ([] : List Keyword).length + (if ([] : List Keyword).isEmpty then 0 else 1) < 30)) = true := by rfl)
    (hline : (apos.endLine == pos.line) = true := by rfl) (hs : starEach (e :: []) X.env = (false, eval e X.env) :: starEach [] X.env := by rfl) (hplain : (backTo pos (starEach [] X.env)).any (·.1) = false := by rfl) (hk : L.K = X.K := by rfl) :
    DE X L W (.Call (.Attribute (.Name x p) n apos) [e] [] pos) (extendM i me) := by
  subst hnm
  obtain ⟨_, p1, s1⟩ := h.ex
  refine ⟨_, pe_bm PySem.F.plainAttrs_list PySem.F.slot_list_extend PySem.F.type_list_extend mt_extend (pe_var hN hv hd hcd) (pa_cons p1 pa_nil hs) hbase hfew hline hs hplain, ?_⟩
  rw [← hk]
  intro σ Δ F H Q env w
  unfold extendM at w
  cases q : getL Δ i with
  | none => rw [q] at w; exact w.elim
  | some ys =>
    rw [q] at w
    obtain ⟨a, us, e1, e2, e3, e4, ty⟩ := tyV_own env q
    refine ⟨.ref a, slot_some e1, ty, s1 σ Δ F H _ env (w.bind.mono fun d Δ1 F1 H1 env1 w1 v r => ?_)⟩
    cases q1 : getL Δ1 i with
    | none => rw [q1] at w1; exact w1.elim
    | some xs =>
      rw [q1] at w1
      obtain ⟨b, vs, g1, g2, g3, g4⟩ := env1.getL q1
      rw [e1] at g1; cases g1
      cases d with
      | lst zs =>
        replace w1 : Want L W σ Δ1 F1 H1 (gd (decide (xs.length + zs.length ≤ 16777216)) (.ok D.non (setL Δ1 i (xs ++ zs)))) _ := w1
        unfold gd at w1
        split at w1
        · rename_i hl
          obtain ⟨b, ws, rfl, k1, k2⟩ := rep_ref_lst r
          obtain ⟨env2, st2⟩ := env1.mut q1 e1 g2 g3 (g4.append k2)
          exact ⟨a, b, vs, ws, rfl, rfl, g2, env1.ex _ _ k1, by rw [line_eq, g4.1, k2.1]; exact of_decide_eq_true hl, w1 F1 _ env2 st2 _ Rep.non⟩
        · exact w1.elim
      | _ => exact w1.elim
/-- own list.pop(e) -/
def popAtM (i : Nat) (me : DEnv → Res D) : DEnv → Res D := fun Δ => match getL Δ i with
  | none => .stuck
  | some _ => (me Δ).bind fun d Δ1 => match getL Δ1 i, d with
    | some xs, .int k => if -4611686018427387904 ≤ k ∧ k < 4611686018427387904 then (match seqIndex? k xs.length with
      | some j => (match xs[j]? with
        | some y => .ok y (setL Δ1 i (xs.eraseIdx j))
        | none => .stuck)
      | none => .stuck) else .stuck
    | _, _ => .stuck
theorem Reps.eraseIdx {vs : List V} {ds : List D} (h : Reps L.K F vs ds) (j : Nat) : Reps L.K F (vs.eraseIdx j) (ds.eraseIdx j) := by
  rw [List.eraseIdx_eq_take_drop_succ, List.eraseIdx_eq_take_drop_succ]
  exact (h.take j).append (h.drop (j + 1))
theorem d_popAt {n : Str} {apos : Pos} (hnm : n = "pop") (hN : X.N[i]? = some x) (hv : Vis X.env.scope x) (hd : (x == ("__debug__" : Str)) = false) (hcd : (x == ("__classdict__" : Str)) = false) (h : DE X L W e me)
    (hbase : attributeBase (.Name x p) n X.env (eval (.Name x p) X.env) = eval (.Name x p) X.env := by rfl)
    (hfew : ((backTo pos (starEach (e :: []) X.env)).all (fun x => !x.1) && (backToKw pos (keywordEach [] X.env)).all (fun x => x.1.isSome) && decide ((e :: []).length + ([] : List Keyword).length + (if ([] : List Keyword).isEmpty then 0 else 1) < 30)) = true := by rfl)
    (hline : (apos.endLine == pos.line) = true := by rfl) (hs : starEach (e :: []) X.env = (false, eval e X.env) :: starEach [] X.env := by rfl) (hplain : (backTo pos (starEach [] X.env)).any (·.1) = false := by rfl) (hk : L.K = X.K := by rfl) :
    DE X L W (.Call (.Attribute (.Name x p) n apos) [e] [] pos) (popAtM i me) := by
  subst hnm
  obtain ⟨_, p1, s1⟩ := h.ex
  refine ⟨_, pe_bm PySem.F.plainAttrs_list PySem.F.slot_list_pop PySem.F.type_list_pop mt_popAt (pe_var hN hv hd hcd) (pa_cons p1 pa_nil hs) hbase hfew hline hs hplain, ?_⟩
  rw [← hk]
  intro σ Δ F H Q env w
  unfold popAtM at w
  cases q : getL Δ i with
  | none => rw [q] at w; exact w.elim
  | some ys =>
    rw [q] at w
    obtain ⟨a, us, e1, e2, e3, e4, ty⟩ := tyV_own env q
    refine ⟨.ref a, slot_some e1, ty, s1 σ Δ F H _ env (w.bind.mono fun d Δ1 F1 H1 env1 w1 v r => ?_)⟩
    cases q1 : getL Δ1 i with
    | none => rw [q1] at w1; exact w1.elim
    | some xs =>
      rw [q1] at w1
      obtain ⟨b, vs, g1, g2, g3, g4⟩ := env1.getL q1
      rw [e1] at g1; cases g1
      cases d with
      | int k =>
        cases r
        replace w1 : Want L W σ Δ1 F1 H1 (if -4611686018427387904 ≤ k ∧ k < 4611686018427387904 then (match seqIndex? k xs.length with | some j => (match xs[j]? with | some y => Res.ok y (setL Δ1 i (xs.eraseIdx j)) | none => .stuck) | none => .stuck) else .stuck) _ := w1
        split at w1
        · rename_i hl
          cases q2 : seqIndex? k xs.length with
          | none => rw [q2] at w1; exact w1.elim
          | some j =>
            rw [q2] at w1
            replace w1 : Want L W σ Δ1 F1 H1 (match xs[j]? with | some y => Res.ok y (setL Δ1 i (xs.eraseIdx j)) | none => .stuck) _ := w1
            cases q3 : xs[j]? with
            | none => rw [q3] at w1; exact w1.elim
            | some y =>
              rw [q3] at w1
              obtain ⟨u, k1, k2⟩ := g4.get q3
              obtain ⟨env2, st2⟩ := env1.mut q1 e1 g2 g3 (g4.eraseIdx j)
              exact ⟨a, vs, k, j, u, rfl, rfl, g2, by omega, by omega, by rw [g4.1]; exact q2, k1, w1 F1 _ env2 st2 _ k2⟩
        · exact w1.elim
      | _ => exact w1.elim
/-! ### xs[i] = v, xs[i] op= v -/
def putM (i : Nat) (mi mv : DEnv → Res D) : DEnv → SRes := fun Δ => (mv Δ).s fun v Δ1 => match getL Δ1 i with
  | none => .stuck
  | some _ => (mi Δ1).s fun k Δ2 => match getL Δ2 i, k with
    | some xs, .int j => match ixN xs.length j with
      | some n => .nx (setL Δ2 i (xs.set n v))
      | none => .stuck
    | _, _ => .stuck
theorem s_put {mi mv : DEnv → Res D} {v ix : Expr} (hN : X.N[i]? = some x) (hv : Vis X.env.scope x) (hd : (x == ("__debug__" : Str)) = false) (hcd : (x == ("__classdict__" : Str)) = false) (h : DE X L W v mv) (h2 : DE X L W ix mi)
    (ha : ∀ v, assign (.Subscript (.Name x p) ix tpos) X.env v = (do
      let ov ← holding [v] (eval (.Name x p) X.env)
      let iv ← holding [v, ov] (eval ix X.env)
      standAt tpos
      holding [v, ov, iv] (setItem ov iv v)
      release [v, ov, iv] []) := by intro _; rfl)
    (hs : swapsWithSole [.Subscript (.Name x p) ix tpos] v pos.line X.env = pure false := by rfl) (hw : swappedStores [.Subscript (.Name x p) ix tpos] v X.env = pure none := by rfl)
    (h1 : (assignEach [.Subscript (.Name x p) ix tpos] X.env).map (·.2) = [assign (.Subscript (.Name x p) ix tpos) X.env] := by rfl) : DS X L W (.Assign [.Subscript (.Name x p) ix tpos] v pos) (putM i mi mv) := by
  obtain ⟨_, p1, s1⟩ := h.ex
  obtain ⟨_, p2, s2⟩ := h2.ex
  refine ⟨_, ps_asg p1 (pg_sub (pe_var hN hv hd hcd) p2 set_list ha) hs hw h1, fun σ Δ F H E env w => ?_⟩
  replace w : WantS L W σ Δ F H ((mv Δ).s fun v Δ1 => match getL Δ1 i with | none => .stuck | some _ => (mi Δ1).s fun k Δ2 => match getL Δ2 i, k with | some xs, .int j => (match ixN xs.length j with | some n => .nx (setL Δ2 i (xs.set n v)) | none => .stuck) | _, _ => .stuck) E := w
  refine s1 σ Δ F H _ env ((Want.ofS w).mono fun d Δ1 F1 H1 env1 w1 u ru => ?_)
  cases q1 : getL Δ1 i with
  | none => rw [q1] at w1; exact w1.elim
  | some ys =>
    rw [q1] at w1
    obtain ⟨a, us, e1, _⟩ := env1.getL q1
    refine ⟨.ref a, slot_some e1, s2 σ Δ1 F1 H1 _ env1 (Want.keep ((Want.ofS w1).mono fun k Δ2 F2 H2 env2 w2 st2 z rz => ?_))⟩
    cases q2 : getL Δ2 i with
    | none => rw [q2] at w2; exact w2.elim
    | some xs =>
      obtain ⟨b, vs, g1, g2, g3, g4⟩ := env2.getL q2
      rw [e1] at g1; cases g1
      rw [q2] at w2
      cases k with
      | int j =>
        cases rz
        replace w2 : WantS L W σ Δ2 F2 H2 (match ixN xs.length j with | some n => .nx (setL Δ2 i (xs.set n d)) | none => .stuck) E := w2
        cases q3 : ixN xs.length j with
        | none => rw [q3] at w2; exact w2.elim
        | some n =>
          rw [q3] at w2
          obtain ⟨env3, st3⟩ := env2.mut q2 e1 g2 g3 (g4.set n (ru.mono st2.fr))
          exact ⟨a, vs, j, n, rfl, rfl, g2, by rw [g4.1]; exact q3, w2 σ F2 _ env3 st3⟩
      | _ => exact w2.elim
/-- own list[i] op= e -/
def rGetL : V → V → Hp → VK → Prop := fun o i H Q => ∃ p xs k y, o = .ref p ∧ i = .int k ∧ H p = some (.lst xs) ∧ atI xs k = some y ∧ Q y H
theorem get_listP : PGet X rGetL := by
  intro pins s σ H o i ov iv Q I ro ri h
  obtain ⟨p, xs, k, y, rfl, rfl, hp, hy, q⟩ := h
  cases ro
  obtain ⟨t, rfl⟩ := ri
  obtain ⟨its, r, pl, hz⟩ := I.list (SqL.of hp)
  obtain ⟨j, h1, h2, h3, h4, h5⟩ := atI_get hy
  obtain ⟨w, ew, rw'⟩ := r.get h2
  have hl := r.length
  have hn := line63
  have fin : EP X pins σ Q w s := ⟨y, H, I, rw', q⟩
  by_cases h0 : 0 ≤ k
  · have hj : k.toNat = j := by
      rw [seqIndex_of h0 h5] at h1
      exact Option.some.inj h1
    exact wpAny_getItem_list pl.isList h0 (by omega) (by rw [hj]; simpa using ew) fin
  · have hj : (k + (its.toArray.size : Int)).toNat = j := by
      rw [seqIndex_neg (by omega) h4] at h1
      rw [List.size_toArray, ← hl]
      exact Option.some.inj h1
    exact wpAny_getItem_list_neg pl.isList (by omega) (by rw [List.size_toArray] <;> omega) (by omega) (by rw [hj]; simpa using ew) fin
def putL (i : Nat) (xs : List D) (j : Int) (d : D) (Δ : DEnv) : SRes := match ixN xs.length j with
  | none => .stuck
  | some n => .nx (setL Δ i (xs.set n d))
def aug2 (f : D → D → Option D) (i : Nat) (j : Int) (y z : D) (Δ2 : DEnv) : SRes := match getL Δ2 i with
  | none => .stuck
  | some xs => match f y z with
    | none => .stuck
    | some d => putL i xs j d Δ2
def aug1 (f : D → D → Option D) (i : Nat) (me : DEnv → Res D) (k : D) (Δ1 : DEnv) : SRes := match getL Δ1 i with
  | none => .stuck
  | some xs => match k with
    | .int j => (match atI xs j with
      | none => .stuck
      | some y => (me Δ1).s (aug2 f i j y))
    | _ => .stuck
def augPutM (f : D → D → Option D) (i : Nat) (mi me : DEnv → Res D) : DEnv → SRes := fun Δ => match getL Δ i with
  | none => .stuck
  | some _ => (mi Δ).s (aug1 f i me)
theorem s_augPut {op : Operator} {r : R2} {f : D → D → Option D} {mi : DEnv → Res D} {ix : Expr} (ho : OpR X (inplaceOp op) r) (hf : OpS L r f) (hN : X.N[i]? = some x) (hv : Vis X.env.scope x) (hd : (x == ("__debug__" : Str)) = false) (hcd : (x == ("__classdict__" : Str)) = false) (h : DE X L W ix mi) (h2 : DE X L W e me)
    (ha : ∀ ov iv new, augStore ix ov iv new = (do holding [new, ov, iv] (setItem ov iv new); release [new, ov, iv] []; pure .next) := by intros; rfl) : DS X L W (.AugAssign (.Subscript (.Name x p) ix tpos) op e pos) (augPutM f i mi me) := by
  obtain ⟨_, p1, s1⟩ := h.ex
  obtain ⟨_, p2, s2⟩ := h2.ex
  refine ⟨_, ps_augS (tip := r) (pe_var hN hv hd hcd) p1 get_listP p2 ho set_list ha, fun σ Δ F H E env w => ?_⟩
  unfold augPutM at w
  cases q0 : getL Δ i with
  | none => rw [q0] at w; exact w.elim
  | some ys =>
    rw [q0] at w
    obtain ⟨a, us, e1, _⟩ := env.getL q0
    refine ⟨.ref a, slot_some e1, s1 σ Δ F H _ env ((Want.ofS w).mono fun k Δ1 F1 H1 env1 w1 z rz => ?_)⟩
    unfold aug1 at w1
    cases q1 : getL Δ1 i with
    | none => rw [q1] at w1; exact w1.elim
    | some xs =>
      obtain ⟨b, vs, g1, g2, g3, g4⟩ := env1.getL q1
      rw [e1] at g1; cases g1
      rw [q1] at w1
      cases k with
      | int j =>
        cases rz
        replace w1 : WantS L W σ Δ1 F1 H1 (match atI xs j with | none => .stuck | some y => (me Δ1).s (aug2 f i j y)) E := w1
        cases q2 : atI xs j with
        | none => rw [q2] at w1; exact w1.elim
        | some y =>
          rw [q2] at w1
          obtain ⟨v, hv1, hv2⟩ := atI_reps g4 q2
          refine ⟨a, vs, j, v, rfl, rfl, g2, hv1, ?_⟩
          refine s2 σ Δ1 F1 H1 _ env1 (Want.keep ((Want.ofS w1).mono fun z Δ2 F2 H2 env2 w2 st2 u ru => ?_))
          unfold aug2 at w2
          cases q3 : getL Δ2 i with
          | none => rw [q3] at w2; exact w2.elim
          | some xs2 =>
            rw [q3] at w2
            replace w2 : WantS L W σ Δ2 F2 H2 (match f y z with | none => .stuck | some d => putL i xs2 j d Δ2) E := w2
            cases q4 : f y z with
            | none => rw [q4] at w2; exact w2.elim
            | some d =>
              rw [q4] at w2
              replace w2 : WantS L W σ Δ2 F2 H2 (match ixN xs2.length j with | none => .stuck | some n => .nx (setL Δ2 i (xs2.set n d))) E := w2
              cases q5 : ixN xs2.length j with
              | none => rw [q5] at w2; exact w2.elim
              | some n =>
                rw [q5] at w2
                refine hf F2 H2 v u y z d _ env2.ex q4 (hv2.mono st2.fr).r ru.r fun t F3 H3 gr rt => ?_
                obtain ⟨c1, vs3, m1, m2, m3, m4⟩ := (env2.gro gr).getL q3
                rw [e1] at m1; cases m1
                obtain ⟨env4, st4⟩ := (env2.gro gr).mut q3 e1 m2 m3 (m4.set n rt)
                exact ⟨a, vs3, j, n, rfl, rfl, m2, by rw [m4.1]; exact q5, w2 σ F3 _ env4 ((Step.gro gr).trans st4)⟩
      | _ => exact w1.elim
end
end KL
/-! KL, part u: dicts of the module, keyed by texts; blocks within blocks. -/
namespace KL
open PySem L2
/-- a value of the written part is that data -/
def KVal (K : PySem.W.Frag) (u : Value) (y : D) : Prop := ∃ v, RelV v u ∧ ∀ F, Rep K F v y
theorem kv_str {K : PySem.W.Frag} {x : Str} {t : Tok} : KVal K (.str x t) (.str x) := ⟨.str x, ⟨t, rfl⟩, fun _ => .str x⟩
theorem kv_int {K : PySem.W.Frag} {i : Int} {t : Tok} : KVal K (.int i t) (.int i) := ⟨.int i, ⟨t, rfl⟩, fun _ => .int i⟩
/-- flat values, computed -/
def atomB : Value → D → Bool
  | .str x _, .str y => x == y
  | .int i _, .int j => i == j
  | .none, .non => true
  | .bool b, .bl c => b == c
  | _, _ => false
theorem atomB_ok {K : PySem.W.Frag} {u : Value} {y : D} (h : atomB u y = true) : KVal K u y := by
  unfold atomB at h
  split at h
  · have e := eq_of_beq h; subst e; exact kv_str
  · have e := eq_of_beq h; subst e; exact kv_int
  · exact ⟨.non, rfl, fun _ => .non⟩
  · have e := eq_of_beq h; subst e; exact ⟨.bl _, rfl, fun _ => .bl _⟩
  · cases h
def atomsB : List Value → List D → Bool
  | [], [] => true
  | u :: us, y :: ys => atomB u y && atomsB us ys
  | _, _ => false
theorem atomsB_ok {K : PySem.W.Frag} : ∀ {us : List Value} {ys : List D}, atomsB us ys = true → ∃ vs, Vals vs us ∧ ∀ F, Reps K F vs ys
  | [], [], _ => ⟨[], .nil, fun _ => Reps.nil⟩
  | u :: us, y :: ys, h => by
    obtain ⟨h1, h2⟩ := Bool.and_eq_true_iff.mp h
    obtain ⟨v, a, b⟩ := atomB_ok (K := K) h1
    obtain ⟨vs, c, d⟩ := atomsB_ok (K := K) h2
    exact ⟨v :: vs, .cons a c, fun F => .cons (b F) (d F)⟩
theorem kv_tup {K : PySem.W.Frag} {t : Addr} {its : Array Value} {n : Nat} {sl : Array (Option Value)} {ys : List D} (l : K.lookup t = some ⟨.type "tuple", none, .seq its n, sl⟩) (h : atomsB its.toList ys = true) (hs : decide (its.size ≤ 16777216) = true) : KVal K (.ref t) (.tup ys) := by
  obtain ⟨vs, a, b⟩ := atomsB_ok (K := K) h
  exact ⟨.ref t, rfl, fun F => .tup (.inr ⟨_, its, n, l, rfl, rfl, by rw [sizeLine_eq]; exact of_decide_eq_true hs, a⟩) (b F).1 (b F).2⟩
/-- the dict at d has these keys -/
inductive KTabOk (K : PySem.W.Frag) (d : Addr) : List (Str × D) → Prop
  | nil : KTabOk K d []
  | cons {x : Str} {y : D} {u : Value} {tab : List (Str × D)} : PySem.W.nsIn K d x = some (some u) → KVal K u y → KTabOk K d tab → KTabOk K d ((x, y) :: tab)
theorem KTabOk.at {K : PySem.W.Frag} {d : Addr} {z : Str} {y : D} : ∀ {tab : List (Str × D)}, KTabOk K d tab → tab.lookup z = some y → ∃ u v, PySem.W.nsIn K d z = some (some u) ∧ RelV v u ∧ ∀ F, Rep K F v y
  | _, .cons (x := x) n k r, h => by
    rw [List.lookup_cons] at h
    split at h
    · rename_i e
      cases h
      have e' : z = x := by simpa using e
      subst e'
      obtain ⟨v, a, b⟩ := k
      exact ⟨_, v, n, a, b⟩
    · exact r.at h
def keysB : List DictEntry → List Str → Bool
  | [], [] => true
  | e :: es, x :: xs => e.key.isStr x && keysB es xs
  | _, _ => false
theorem keysB_none : ∀ {es : List DictEntry} {xs : List Str} {z : Str}, keysB es xs = true → z ∉ xs → es.find? (·.key.isStr z) = none
  | [], [], _, _, _ => rfl
  | e :: es, x :: xs, z, h, hz => by
    obtain ⟨h1, h2⟩ := Bool.and_eq_true_iff.mp h
    rw [List.mem_cons, not_or] at hz
    have : e.key.isStr z = false := by
      cases q : e.key with
      | str y t =>
        rw [q] at h1
        have h1 : (y == x) = true := h1
        show (y == z) = false
        have e1 : y = x := by simpa using h1
        rw [e1]
        simpa using fun e2 => hz.1 e2.symm
      | _ => rfl
    rw [List.find?_cons, this]
    exact keysB_none h2 hz.2
theorem keysB_ref : ∀ {es : List DictEntry} {xs : List Str}, keysB es xs = true → es.any (·.refKey) = false
  | [], [], _ => rfl
  | e :: es, x :: xs, h => by
    obtain ⟨h1, h2⟩ := Bool.and_eq_true_iff.mp h
    rw [List.any_cons, keysB_ref h2, Bool.or_false]
    show e.refKey = false
    unfold PySem.DictEntry.refKey
    cases q : e.key with
    | str y t => rfl
    | ref a => rw [q] at h1; cases h1
    | _ => rfl
/-- a dict of the module -/
structure DcS (K : PySem.W.Frag) (w : World) (mg : Str → Option Value) (x : Str) (d : Addr) (tab : List (Str × D)) : Prop where
  g : mg x = some (.ref d)
  o : ∃ es n, K.lookup d = some ⟨.type "dict", none, .dict es n, #[]⟩ ∧ PySem.W.KeysLit w.params es.toList ∧ keysB es.toList (tab.map Prod.fst) = true
  q : KTabOk K d tab
theorem DcS.miss {K : PySem.W.Frag} {w : World} {mg : Str → Option Value} {x : Str} {d : Addr} {tab : List (Str × D)} (T : DcS K w mg x d tab) {z : Str} (h : tab.lookup z = none) : PySem.W.nsIn K d z = some none := by
  obtain ⟨es, n, h1, h2, h3⟩ := T.o
  have hz : z ∉ tab.map Prod.fst := fun hm => by
    clear T h1 h2 h3
    induction tab with
    | nil => cases hm
    | cons p r ih =>
      rw [List.lookup_cons] at h
      split at h
      · cases h
      · rename_i e
        rw [List.map_cons, List.mem_cons] at hm
        rcases hm with hm | hm
        · subst hm; simp at e
        · exact ih h hm
  unfold PySem.W.nsIn
  rw [h1]
  show (match es.toList.find? (·.key.isStr z) with | some e => some (some e.val) | none => if es.toList.any (·.refKey) then none else some none) = _
  rw [keysB_none h3 hz]
  show (if es.toList.any (·.refKey) then none else some none) = some none
  rw [keysB_ref h3]; rfl
section
variable {X : Cx} {L : Lx} {W : WX} {σ : L2.St} {Δ : DEnv} {F H : Hp} {e e2 a b c : Expr} {es : List Expr} {me ma mb mc : DEnv → Res D} {p pos pos' tpos : Pos} {x : Str} {i kk : Nat}
def dcG (tab : List (Str × D)) : D → Option D
  | .str z => tab.lookup z
  | _ => none
theorem d_dcIx {d : Addr} {tab : List (Str × D)} (T : DcS X.K X.w X.mg x d tab) (hg : Gl X x) (hdb : (x == ("__debug__" : Str)) = false) (hs : PlainIx b) (hb : DR X L W b mb) (hk : L.K = X.K := by rfl) : DE X L W (.Subscript (.Name x p) b pos) (call1 (dcG tab) mb) := by
  obtain ⟨_, p2, s2⟩ := hb.ex
  obtain ⟨es, n, h1, h2, h3⟩ := T.o
  refine ⟨_, pe_ix ix_kdict (pe_glob (v := .ref d) hg T.g rfl hdb) p2 hs, fun σ Δ F H Q env w => ?_⟩
  refine s2 σ Δ F H _ env (w.bind.mono fun y Δ1 F1 H1 env1 w1 v rv => ?_)
  cases q : dcG tab y with
  | none => rw [q] at w1; exact w1.elim
  | some z =>
    rw [q] at w1
    cases y with
    | str k =>
      obtain ⟨u, r, a1, a2, a3⟩ := T.q.at q
      exact ⟨d, k, r, rfl, rv.str, ⟨es, n, u, h1, h2, a1, a2⟩, w1 F1 H1 env1 .refl r (hk ▸ a3 F1)⟩
    | _ => cases q
/-- a block within a block -/
theorem blk_in {s : Shared} {scope scope2 : Scope} {C : Addr} {cl : List (Str × Addr)} {fp : List Addr} {own : List (Str × Nat)} (h : BlkOk X.N (relS scope X.env.scope) scope2 own) : BlkOk (X.blk s H scope (compEnvC scope cl C X.env) fp).N (X.blk s H scope (compEnvC scope cl C X.env) fp).env.scope scope2 own := h
end
end KL
/-! KL, part v: comprehensions of two clauses. -/
namespace KL
open PySem L2
/-- the heap without the object at p -/
def hide (H : Hp) (p : Addr) : Hp := fun b => if b = p then none else H b
theorem hide_same {H : Hp} {p : Addr} : hide H p p = none := if_pos rfl
theorem hide_ne {H : Hp} {p b : Addr} (h : b ≠ p) : hide H p b = H b := if_neg h
theorem hide_some {H : Hp} {p b : Addr} {o : HO} (h : hide H p b = some o) : b ≠ p ∧ H b = some o := by
  unfold hide at h
  split at h
  · cases h
  · rename_i hb; exact ⟨hb, h⟩
section
variable {X : Cx} {L : Lx} {W : WX} {σ σ1 σ2 : L2.St} {Δ Δ1 Δ2 : DEnv} {F F1 F2 H H1 H2 : Hp} {p : Addr}
theorem EnvOk.hide (env : EnvOk L F σ Δ H) (ho : ¬ Own σ Δ p) (hf : F p = none) : EnvOk L F σ Δ (hide H p) := by
  refine ⟨fun b u h => by rw [hide_ne (ne_of_none h hf)]; exact env.ex b u h, env.len, fun i c hc => ?_, env.apart⟩
  have k := env.cells i c hc
  have keep : ∀ us, c.own? = some us → (∃ b u, slot σ i = some (.ref b) ∧ H b = some u ∧ F b = none ∧ OwnOk L.K F u us) → ∃ b u, slot σ i = some (.ref b) ∧ KL.hide H p b = some u ∧ F b = none ∧ OwnOk L.K F u us := by
    rintro us hu ⟨b, ws', g1, g2, g3, g4⟩
    refine ⟨b, ws', g1, ?_, g3, g4⟩
    rw [hide_ne (fun z => ho ⟨i, c, us, hc, hu, by rw [← z]; exact g1⟩)]; exact g2
  cases c with
  | no => trivial
  | va d => exact k
  | owv us => exact keep us rfl k
  | pav us => exact keep us rfl k
  | xc x => exact k
theorem Step.hide (s : Step σ Δ F H σ1 Δ1 F1 H1) (ho : ¬ Own σ Δ p) : Step σ Δ F (hide H p) σ1 Δ1 F1 (hide H1 p) := by
  have nn : ∀ b, H b = none → KL.hide H p b = none := fun b h => by
    unfold KL.hide
    split
    · rfl
    · exact h
  refine ⟨s.fr, fun b o h n => ?_, fun b o h => ?_, fun b h => ?_, s.pa, s.pb, fun b o h => ?_⟩
  · obtain ⟨h1, h2⟩ := hide_some h
    rw [hide_ne h1]; exact s.kp b o h2 n
  · rcases s.fn b o h with z | z | z
    · exact .inl z
    · exact .inr (.inl (nn b z))
    · exact .inr (.inr z)
  · rcases s.ow b h with z | z
    · exact .inl z
    · exact .inr (nn b z)
  · obtain ⟨h1, h2⟩ := hide_some h
    obtain ⟨o', e⟩ := s.th b o h2
    exact ⟨o', by rw [hide_ne h1]; exact e⟩
theorem Step.hideR (s : Step σ Δ F H σ1 Δ1 F1 H1) (hp : H p = none) : Step σ Δ F H σ1 Δ1 F1 (KL.hide H1 p) :=
  ⟨s.fr, fun b o h n => by rw [hide_ne (ne_of_none h hp)]; exact s.kp b o h n, s.fn, s.ow, s.pa, s.pb, fun b o h => by rw [hide_ne (ne_of_none h hp)]; exact s.th b o h⟩
theorem Step.openR (s : Step σ Δ F H σ1 Δ1 F1 (KL.hide H1 p)) : Step σ Δ F H σ1 Δ1 F1 H1 :=
  ⟨s.fr, fun b o h n => (hide_some (s.kp b o h n)).2, s.fn, s.ow, s.pa, s.pb, fun b o h => let ⟨o', e⟩ := s.th b o h; ⟨o', (hide_some e).2⟩⟩
theorem own_rest {vs : List Nat} {b : Addr} (hp : ∀ v ∈ vs, plainC Δ[v]? = true) (hl : Δ2.length = Δ.length) (hw : L2.wipe σ2 vs = L2.wipe σ vs) (h : Own σ (restD Δ Δ2 vs) b) : Own σ2 Δ2 b := by
  obtain ⟨j, c, xs, h1, h2, h3⟩ := h
  rw [restD_get hl] at h1
  split at h1
  · rename_i hj
    have := hp j hj
    rw [h1] at this
    cases c with
    | owv _ => exact Bool.noConfusion (show false = true from this)
    | pav _ => exact Bool.noConfusion (show false = true from this)
    | _ => cases h2
  · rename_i hj
    exact ⟨j, c, xs, h1, h2, by rw [wipe_slot_eq hw hj]; exact h3⟩
variable {tgt tgt1 : D → DEnv → Option DEnv} {mc mc1 : DEnv → Res Bool} {me : DEnv → Res D} {mi mi1 : DEnv → Res (List D)}
/-- the turns of a clause, its list at Dl -/
theorem lc_turns {J : It} {g : TG} {tt : TT} {te : TE} {vs : List Nat} {ds acc0 : List D} {accv0 : List V} {Dl : Addr} {N : Hp → Prop} (hJ : ItOk L F1 J ds) (hg : SndG L g tgt) (ht : SndT L WF tt mc) (he : Snd L WF te me) (hgw : TgIn vs g)
    (env1 : EnvOk L F1 σ Δ1 H1) (hD1 : H1 Dl = some (.lst accv0)) (hF1 : F1 Dl = none) (hO1 : ¬ Own σ Δ1 Dl) (hr0 : Reps L.K F1 accv0 acc0) (hpl : ∀ v ∈ vs, plainC Δ1[v]? = true) (hz : acc0.length + ds.length < 16777216)
    (w : Want L W σ Δ1 F1 (hide H1 Dl) (compM vs tgt mc me ds acc0 Δ1) (fun acc' Δ' F' H' => ∀ accv', EnvOk L F' σ Δ' H' → Step σ Δ1 F1 (hide H1 Dl) σ Δ' F' H' → (∀ v ∈ vs, plainC Δ'[v]? = true) → ¬ Own σ Δ' Dl → F' Dl = none → H' Dl = some (.lst accv') → Reps L.K F' accv' acc' → N H')) :
    ∃ W1 : Nat → Nat → Hp → Prop, (∃ m, W1 0 m H1) ∧ ∀ i k H, W1 i k H → (J.stop i H ∧ N H) ∨ (J.go i H ∧ ∃ Nx : Hp → Prop, (∀ H', Nx H' → ∃ m', m' < k ∧ W1 (i + 1) m' H') ∧ ∀ x H', J.yld i H x H' → g x (wipe σ vs) H' fun σ2 H2 => wipe σ2 vs = wipe σ vs ∧ tt σ2 H2 fun b H3 =>
      if b = true then te σ2 H3 fun y H4 => ∃ acc, H4 Dl = some (.lst acc) ∧ acc.length < sizeLine ∧ Nx (upd H4 Dl (.lst (acc ++ [y]))) else Nx H3) := by
  have st0 : Step σ Δ1 F1 (hide H1 Dl) σ Δ1 F1 H1 := Step.openR .refl
  have hD0 : hide H1 Dl Dl = none := hide_same
  refine ⟨fun i k H' => k = ds.length - i ∧ i ≤ ds.length ∧ ∃ Δ' F' accv acc, Ex F1 F' ∧ EnvOk L F' σ Δ' H' ∧ Step σ Δ1 F1 (hide H1 Dl) σ Δ' F' H' ∧ (∀ v ∈ vs, plainC Δ'[v]? = true) ∧ H' Dl = some (.lst accv) ∧ F' Dl = none ∧ ¬ Own σ Δ' Dl ∧ Reps L.K F' accv acc ∧ acc.length ≤ acc0.length + i ∧
      Want L W σ Δ1 F1 (hide H1 Dl) (compM vs tgt mc me (ds.drop i) acc Δ') (fun acc' Δ' F' H' => ∀ accv', EnvOk L F' σ Δ' H' → Step σ Δ1 F1 (hide H1 Dl) σ Δ' F' H' → (∀ v ∈ vs, plainC Δ'[v]? = true) → ¬ Own σ Δ' Dl → F' Dl = none → H' Dl = some (.lst accv') → Reps L.K F' accv' acc' → N H'),
    ⟨_, rfl, Nat.zero_le _, Δ1, F1, accv0, acc0, Ex.refl _, env1, st0, hpl, hD1, hF1, hO1, hr0, Nat.le_refl _, w⟩, ?_⟩
  rintro i k H' ⟨rfl, hi, Δ', F', accv, acc, ex, env', st', hpl', hDl, hFl, hOl, hrep, hlen, w'⟩
  obtain ⟨j1, j2⟩ := hJ i F' H' ex env'.ex
  by_cases hlt : i < ds.length
  case neg =>
    have e : i = ds.length := by omega
    subst e
    rw [List.drop_length] at w'
    exact .inl ⟨j2 (Nat.le_refl _), w' F' H' env' st' accv env' st' hpl' hOl hFl hDl hrep⟩
  obtain ⟨go, yl⟩ := j1 _ (List.getElem?_eq_getElem hlt)
  refine .inr ⟨go, fun H2 => ∃ Δ' F' accv acc, Ex F1 F' ∧ EnvOk L F' σ Δ' H2 ∧ Step σ Δ1 F1 (hide H1 Dl) σ Δ' F' H2 ∧ (∀ v ∈ vs, plainC Δ'[v]? = true) ∧ H2 Dl = some (.lst accv) ∧ F' Dl = none ∧ ¬ Own σ Δ' Dl ∧ Reps L.K F' accv acc ∧ acc.length ≤ acc0.length + (i + 1) ∧
      Want L W σ Δ1 F1 (hide H1 Dl) (compM vs tgt mc me (ds.drop (i + 1)) acc Δ') (fun acc' Δ' F' H' => ∀ accv', EnvOk L F' σ Δ' H' → Step σ Δ1 F1 (hide H1 Dl) σ Δ' F' H' → (∀ v ∈ vs, plainC Δ'[v]? = true) → ¬ Own σ Δ' Dl → F' Dl = none → H' Dl = some (.lst accv') → Reps L.K F' accv' acc' → N H'), fun H2 q => ⟨_, by omega, rfl, hlt, q⟩, fun x H'' y => ?_⟩
  obtain ⟨F'', gr, rx⟩ := yl x H'' y
  have env2 := env'.gro gr
  have stg : Step σ Δ' F' H' σ Δ' F'' H'' := Step.gro gr
  have hDl2 : H'' Dl = some (.lst accv) := gr.h _ _ hDl
  have hFl2 : F'' Dl = none := by
    cases q : F'' Dl with
    | none => rfl
    | some o => rcases gr.n Dl o q with z | z
                · rw [hFl] at z; cases z
                · rw [hDl] at z; cases z
  rw [List.drop_eq_getElem_cons hlt] at w'
  unfold compM at w'
  cases qt : tgt ds[i] (wipeD Δ' vs) with
  | none => rw [qt] at w'; exact w'.elim
  | some Δ3 =>
    rw [qt] at w'
    refine hgw _ x _ H'' _ wipe_wipe (hg (wipe σ vs) (wipeD Δ' vs) Δ3 F'' H'' x _ _ env2.wipe rx qt fun σ3 env3 st3 hw => ?_)
    have fin : ∀ {Δ5 : DEnv} {F5 H5 : Hp}, EnvOk L F5 σ3 Δ5 H5 → Step σ3 Δ3 F'' H'' σ3 Δ5 F5 H5 → EnvOk L F5 σ (restD Δ' Δ5 vs) H5 ∧ Step σ Δ1 F1 (hide H1 Dl) σ (restD Δ' Δ5 vs) F5 H5 ∧ (∀ v ∈ vs, plainC (restD Δ' Δ5 vs)[v]? = true) ∧
        H5 Dl = some (.lst accv) ∧ F5 Dl = none ∧ ¬ Own σ (restD Δ' Δ5 vs) Dl ∧ Ex F' F5 := fun {Δ5 F5 H5} env5 st5 => by
      have stA := st3.trans st5
      obtain ⟨r1, r2⟩ := EnvOk.rest hpl' env2 stA env5 hw
      have hOw : ¬ Own (wipe σ vs) (wipeD Δ' vs) Dl := fun z => hOl (own_wipe z)
      have r3 : H5 Dl = some (.lst accv) := stA.kp Dl _ hDl2 hOw
      refine ⟨r1, (st'.trans stg).trans r2, restD_plain (by rw [← env5.len, ← env'.len, ← wipe_length σ3 vs, hw, wipe_length]) hpl', r3, ?_, fun z => ?_, gr.f.trans stA.fr⟩
      · cases q : F5 Dl with
        | none => rfl
        | some o =>
          rcases stA.fn Dl o q with z | z | z
          · rw [hFl2] at z; cases z
          · rw [hDl2] at z; cases z
          · exact absurd z hOw
      · rcases r2.ow Dl z with y | y
        · exact hOl y
        · rw [hDl2] at y; cases y
    refine ht σ3 Δ3 F'' H'' _ env3 (Want.keep ((Want.cross w').mono fun b Δ4 F4 H4 env4 wb st4 => ?_))
    have w4 := wb st4
    cases b with
    | false =>
      obtain ⟨r1, r2, r3, r4, r5, r6, r7⟩ := fin env4 st4
      exact ⟨_, F4, accv, acc, ex.trans r7, r1, r2, r3, r4, r5, r6, hrep.mono r7, by omega, w4⟩
    | true =>
      refine he σ3 Δ4 F4 H4 _ env4 (Want.keep ((Want.cross w4).mono fun y Δ5 F5 H5 env5 wy st5 v rv => ?_))
      have w5 := wy st5
      obtain ⟨r1, r2, r3, r4, r5, r6, r7⟩ := fin env5 (st4.trans st5)
      refine ⟨accv, r4, by rw [line_eq, hrep.1]; omega, ?_⟩
      exact ⟨_, F5, accv ++ [v], acc ++ [y], ex.trans r7, r1.hid r6 r5, r2.hid hD0, r3, upd_same, r5, r6, (hrep.mono r7).append (.cons rv .nil), by rw [List.length_append, List.length_singleton]; omega, w5⟩
/-- two clauses -/
def comp2M (vs : List Nat) (tgt : D → DEnv → Option DEnv) (cond : DEnv → Res Bool) (vs1 : List Nat) (mi1 : DEnv → Res (List D)) (tgt1 : D → DEnv → Option DEnv) (cond1 : DEnv → Res Bool) (elt : DEnv → Res D) : List D → List D → DEnv → Res (List D)
  | [], acc, Δ => .ok acc Δ
  | d :: ds, acc, Δ => match tgt d (wipeD Δ vs) with
    | none => .stuck
    | some Δ1 => (cond Δ1).nox.bind fun b Δ2 => if b = true then (mi1 Δ2).nox.bind fun ds1 Δ3 => gd (decide (acc.length + ds1.length < 16777216) && vs1.all fun v => plainC Δ3[v]?) ((compM vs1 tgt1 cond1 elt ds1 acc Δ3).nox.bind fun acc' Δ4 => comp2M vs tgt cond vs1 mi1 tgt1 cond1 elt ds acc' (restD Δ Δ4 vs))
      else comp2M vs tgt cond vs1 mi1 tgt1 cond1 elt ds acc (restD Δ Δ2 vs)
def lc2M (vs : List Nat) (mi : DEnv → Res (List D)) (tgt : D → DEnv → Option DEnv) (cond : DEnv → Res Bool) (vs1 : List Nat) (mi1 : DEnv → Res (List D)) (tgt1 : D → DEnv → Option DEnv) (cond1 : DEnv → Res Bool) (elt : DEnv → Res D) : DEnv → Res (List D) := fun Δ => (mi Δ).bind fun ds Δ1 => gd (vs.all fun v => plainC Δ1[v]?) (comp2M vs tgt cond vs1 mi1 tgt1 cond1 elt ds [] Δ1)
theorem snd_lc2 {wi wi1 : TI} {g g1 : TG} {tt tt1 : TT} {te : TE} {vs vs1 : List Nat} (hi : SndI L W wi mi) (hg : SndG L g tgt) (ht : SndT L WF tt mc) (hgw : TgIn vs g) (hi1 : SndI L WF wi1 mi1) (hg1 : SndG L g1 tgt1) (ht1 : SndT L WF tt1 mc1) (hgw1 : TgIn vs1 g1) (he : Snd L WF te me) :
    SndF L W (tLc2 wi g tt wi1 g1 tt1 te vs vs1) (lc2M vs mi tgt mc vs1 mi1 tgt1 mc1 me) := by
  intro σ Δ F H Q env w
  refine hi σ Δ F H _ env ?_
  replace w : Want L W σ Δ F H ((mi Δ).bind fun ds Δ1 => gd (vs.all fun v => plainC Δ1[v]?) (comp2M vs tgt mc vs1 mi1 tgt1 mc1 me ds [] Δ1)) _ := w
  cases qi : mi Δ with
  | stuck => rw [qi] at w; exact w
  | ex x Δ' => rw [qi] at w; exact w
  | ok ds Δ1 =>
  rw [qi] at w
  intro F1 H1 env1 st1 J hJ Dl hD
  replace w : Want L W σ Δ F H (gd (vs.all fun v => plainC Δ1[v]?) (comp2M vs tgt mc vs1 mi1 tgt1 mc1 me ds [] Δ1)) _ := w
  unfold gd at w
  split at w
  case isFalse => exact w.elim
  rename_i hgd
  have hpl : ∀ v ∈ vs, plainC Δ1[v]? = true := List.all_eq_true.mp hgd
  have hD0 := st1.hn hD
  obtain ⟨a1, a2, a3, a4⟩ := fresh_env (vs := []) env1 hD
  refine ⟨fun i k H' => k = ds.length - i ∧ i ≤ ds.length ∧ ∃ Δ' F' accv acc, Ex F1 F' ∧ EnvOk L F' σ Δ' H' ∧ Step σ Δ F H σ Δ' F' H' ∧ (∀ v ∈ vs, plainC Δ'[v]? = true) ∧ H' Dl = some (.lst accv) ∧ F' Dl = none ∧ ¬ Own σ Δ' Dl ∧ Reps L.K F' accv acc ∧
      Want L W σ Δ F H (comp2M vs tgt mc vs1 mi1 tgt1 mc1 me (ds.drop i) acc Δ') (fun ds Δ' F' H' => ∀ p vs, H p = none → ¬ Own σ Δ' p → F' p = none → H' p = some (.lst vs) → Reps L.K F' vs ds → Q (.ref p) H'),
    ⟨_, rfl, Nat.zero_le _, Δ1, F1, [], [], Ex.refl _, a1, st1.trans a2, hpl, upd_same, a4, a3, .nil, w⟩, ?_⟩
  rintro i k H' ⟨rfl, hi, Δ', F', accv, acc, ex, env', st', hpl', hDl, hFl, hOl, hrep, w'⟩
  obtain ⟨j1, j2⟩ := hJ i F' H' ex env'.ex
  by_cases hlt : i < ds.length
  case neg =>
    have e : i = ds.length := by omega
    subst e
    rw [List.drop_length] at w'
    exact .inl ⟨j2 (Nat.le_refl _), w' F' H' env' st' Dl accv hD0 hOl hFl hDl hrep⟩
  obtain ⟨go, yl⟩ := j1 _ (List.getElem?_eq_getElem hlt)
  refine .inr ⟨go, fun H2 => ∃ Δ' F' accv acc, Ex F1 F' ∧ EnvOk L F' σ Δ' H2 ∧ Step σ Δ F H σ Δ' F' H2 ∧ (∀ v ∈ vs, plainC Δ'[v]? = true) ∧ H2 Dl = some (.lst accv) ∧ F' Dl = none ∧ ¬ Own σ Δ' Dl ∧ Reps L.K F' accv acc ∧
      Want L W σ Δ F H (comp2M vs tgt mc vs1 mi1 tgt1 mc1 me (ds.drop (i + 1)) acc Δ') (fun ds Δ' F' H' => ∀ p vs, H p = none → ¬ Own σ Δ' p → F' p = none → H' p = some (.lst vs) → Reps L.K F' vs ds → Q (.ref p) H'), fun H2 q => ⟨_, by omega, rfl, hlt, q⟩, fun x H'' y => ?_⟩
  obtain ⟨F'', gr, rx⟩ := yl x H'' y
  have env2 := env'.gro gr
  have stg : Step σ Δ' F' H' σ Δ' F'' H'' := Step.gro gr
  have hDl2 : H'' Dl = some (.lst accv) := gr.h _ _ hDl
  have hFl2 : F'' Dl = none := by
    cases q : F'' Dl with
    | none => rfl
    | some o => rcases gr.n Dl o q with z | z
                · rw [hFl] at z; cases z
                · rw [hDl] at z; cases z
  rw [List.drop_eq_getElem_cons hlt] at w'
  unfold comp2M at w'
  cases qt : tgt ds[i] (wipeD Δ' vs) with
  | none => rw [qt] at w'; exact w'.elim
  | some Δ3 =>
    rw [qt] at w'
    refine hgw _ x _ H'' _ wipe_wipe (hg (wipe σ vs) (wipeD Δ' vs) Δ3 F'' H'' x _ _ env2.wipe rx qt fun σ3 env3 st3 hw => ?_)
    have hOw : ¬ Own (wipe σ vs) (wipeD Δ' vs) Dl := fun z => hOl (own_wipe z)
    have len : ∀ {Δ5 : DEnv} {F5 H5 : Hp}, EnvOk L F5 σ3 Δ5 H5 → Δ5.length = Δ'.length := fun env5 => by rw [← env5.len, ← env'.len, ← wipe_length σ3 vs, hw, wipe_length]
    -- what stays of the list's place
    have place : ∀ {Δ5 : DEnv} {F5 H5 : Hp}, Step σ3 Δ3 F'' H'' σ3 Δ5 F5 H5 → H5 Dl = some (.lst accv) ∧ F5 Dl = none ∧ ¬ Own σ3 Δ5 Dl ∧ Ex F' F5 := fun {Δ5 F5 H5} st5 => by
      have stA := st3.trans st5
      refine ⟨stA.kp Dl _ hDl2 hOw, ?_, fun z => ?_, gr.f.trans stA.fr⟩
      · cases q : F5 Dl with
        | none => rfl
        | some o =>
          rcases stA.fn Dl o q with z | z | z
          · rw [hFl2] at z; cases z
          · rw [hDl2] at z; cases z
          · exact absurd z hOw
      · rcases stA.ow Dl z with y | y
        · exact hOw y
        · rw [hDl2] at y; cases y
    refine ht σ3 Δ3 F'' H'' _ env3 (Want.keep ((Want.cross w').mono fun b Δ4 F4 H4 env4 wb st4 => ?_))
    have w4 := wb st4
    cases b with
    | false =>
      obtain ⟨r4, r5, r6, r7⟩ := place st4
      obtain ⟨r1, r2⟩ := EnvOk.rest hpl' env2 (st3.trans st4) env4 hw
      exact ⟨_, F4, accv, acc, ex.trans r7, r1, (st'.trans stg).trans r2, restD_plain (len env4) hpl', r4, r5, fun z => r6 (own_rest hpl' (len env4) hw z), hrep.mono r7, w4⟩
    | true =>
      refine hi1 σ3 Δ4 F4 H4 _ env4 (Want.keep ((Want.cross w4).mono fun ds1 Δ5 F5 H5 env5 wy st5 J1 hJ1 => ?_))
      have w5 := wy st5
      replace w5 : Want L W σ Δ F H (gd (decide (acc.length + ds1.length < 16777216) && vs1.all fun v => plainC Δ5[v]?) ((compM vs1 tgt1 mc1 me ds1 acc Δ5).nox.bind fun acc' Δ4 => comp2M vs tgt mc vs1 mi1 tgt1 mc1 me (ds.drop (i + 1)) acc' (restD Δ' Δ4 vs))) _ := w5
      unfold gd at w5
      split at w5
      case isFalse => exact w5.elim
      rename_i hgd1
      obtain ⟨hz1, hpl1⟩ := Bool.and_eq_true_iff.mp hgd1
      have hz1 := of_decide_eq_true hz1
      have hpl1 : ∀ v ∈ vs1, plainC Δ5[v]? = true := List.all_eq_true.mp hpl1
      obtain ⟨r4, r5, r6, r7⟩ := place (st4.trans st5)
      refine lc_turns (W := WF) hJ1 hg1 ht1 he hgw1 env5 r4 r5 r6 (hrep.mono r7) hpl1 hz1 ((Want.cross w5).mono fun acc' Δ6 F6 H6 env6 wz accv' e6 st6 hp6 ho6 hf6 hd6 hr6 => ?_)
      have w6 := wz st6
      have stB : Step (wipe σ vs) (wipeD Δ' vs) F'' (hide H'' Dl) σ3 Δ6 F6 H6 := (Step.hide ((st3.trans st4).trans st5) hOw).trans st6
      obtain ⟨r1, r2⟩ := EnvOk.rest hpl' (env2.hide hOl hFl2) stB env6 hw
      have st7 : Step σ Δ F H σ (restD Δ' Δ6 vs) F6 H6 := ((st'.trans stg).hideR hD0).trans r2
      exact ⟨_, F6, accv', acc', (ex.trans r7).trans st6.fr, r1, st7, restD_plain (len env6) hpl', hd6, hf6, fun z => ho6 (own_rest hpl' (len env6) hw z), hr6, w6⟩
def tiM (L : Lx) (W : WX) (m : DEnv → Res (List D)) : TI := fun σ H R => ∃ Δ F, EnvOk L F σ Δ H ∧ Want L W σ Δ F H (m Δ) (fun ds _ F' H' => ∀ J, ItOk L F' J ds → R J H')
theorem DI.one {tg e : Expr} {m : DEnv → Res (List D)} (h : DI X L W tg e m) : PI X tg e (tiM L W m) := by
  obtain ⟨te, p, s⟩ := h.ex
  exact ⟨fun pins s0 σ H Q I q => by obtain ⟨Δ, F, env, w⟩ := q; exact p.run pins s0 σ H Q I (s σ Δ F H Q env w)⟩
theorem snd_tiM {m : DEnv → Res (List D)} : SndI L W (tiM L W m) m := fun σ Δ F H Q env w => ⟨Δ, F, env, w⟩
variable {tg iter tg1 iter1 elt : Expr} {ifs ifs1 : List Expr} {scope : Scope} {own : List (Str × Nat)} {pos : Pos} {vs1 : List Nat}
theorem f_lc2 (hN : X.N.Nodup) (hi : DI X L W tg iter mi) (ok : BlkOk X.N X.env.scope scope own) (hv : ∀ i ∈ vs1, i ∈ own.map (·.2)) (hg : BG X scope L (own.map (·.2)) tg tgt)
    (ht : ∀ (s : Shared) (H : Hp) (C : Addr) (cl : List (Str × Addr)) (fp : List Addr), DTs (X.blk s H scope (compEnvC scope cl C X.env) fp) L WF ifs mc)
    (hi1 : ∀ (s : Shared) (H : Hp) (C : Addr) (cl : List (Str × Addr)) (fp : List Addr), DI (X.blk s H scope (compEnvC scope cl C X.env) fp) L WF tg1 iter1 mi1) (hg1 : BG X scope L vs1 tg1 tgt1)
    (ht1 : ∀ (s : Shared) (H : Hp) (C : Addr) (cl : List (Str × Addr)) (fp : List Addr), DTs (X.blk s H scope (compEnvC scope cl C X.env) fp) L WF ifs1 mc1)
    (he : ∀ (s : Shared) (H : Hp) (C : Addr) (cl : List (Str × Addr)) (fp : List Addr), DE (X.blk s H scope (compEnvC scope cl C X.env) fp) L WF elt me) (hc : X.calm = true := by rfl) (hs : ∀ x, foldedSetIterable iter X.env x = pure x := by intro _; rfl) (hs1 : ∀ env x, foldedSetIterable iter1 env x = pure x := by intro _ _; rfl) :
    DF X L W (.ListComp elt [⟨tg, iter, ifs, 0⟩, ⟨tg1, iter1, ifs1, 0⟩] scope pos) (lc2M (own.map (·.2)) mi tgt mc vs1 mi1 tgt1 mc1 me) := by
  obtain ⟨wi, p1, s1⟩ := hi.ex
  obtain ⟨g, p2, s2, i2, _⟩ := hg.ex
  obtain ⟨g1, p3, s3, i3, _⟩ := hg1.ex
  exact ⟨_, pe_lc2 hc hN p1 ok hv p2 (fun s H C cl fp => (ht s H C cl fp).one) (fun s H C cl fp => (hi1 s H C cl fp).one) p3 (fun s H C cl fp => (ht1 s H C cl fp).one) (fun s H C cl fp => (he s H C cl fp).one) hs hs1, snd_lc2 s1 s2 snd_ttM i2 snd_tiM s3 snd_ttM i3 snd_teM⟩
theorem s_setLc2 {i : Nat} {y : Str} {py spos : Pos} (hN : X.N.Nodup) (hy : X.N[i]? = some y) (hyl : X.env.scope.names.lookup y = some .local) (hsw : swapsWith (.ListComp elt [⟨tg, iter, ifs, 0⟩, ⟨tg1, iter1, ifs1, 0⟩] scope pos) (some (.Name y py)) spos.line X.env = pure true) (hi : DI X L W tg iter mi) (ok : BlkOk X.N X.env.scope scope own) (hv : ∀ i ∈ vs1, i ∈ own.map (·.2)) (hg : BG X scope L (own.map (·.2)) tg tgt)
    (ht : ∀ (s : Shared) (H : Hp) (C : Addr) (cl : List (Str × Addr)) (fp : List Addr), DTs (X.blk s H scope (compEnvC scope cl C X.env) fp) L WF ifs mc)
    (hi1 : ∀ (s : Shared) (H : Hp) (C : Addr) (cl : List (Str × Addr)) (fp : List Addr), DI (X.blk s H scope (compEnvC scope cl C X.env) fp) L WF tg1 iter1 mi1) (hg1 : BG X scope L vs1 tg1 tgt1)
    (ht1 : ∀ (s : Shared) (H : Hp) (C : Addr) (cl : List (Str × Addr)) (fp : List Addr), DTs (X.blk s H scope (compEnvC scope cl C X.env) fp) L WF ifs1 mc1)
    (he : ∀ (s : Shared) (H : Hp) (C : Addr) (cl : List (Str × Addr)) (fp : List Addr), DE (X.blk s H scope (compEnvC scope cl C X.env) fp) L WF elt me) (hc : X.calm = true := by rfl) (hs : ∀ x, foldedSetIterable iter X.env x = pure x := by intro _; rfl) (hs1 : ∀ env x, foldedSetIterable iter1 env x = pure x := by intro _ _; rfl) :
    DS X L W (.Assign [.Name y py] (.ListComp elt [⟨tg, iter, ifs, 0⟩, ⟨tg1, iter1, ifs1, 0⟩] scope pos) spos) (fun Δ => (lc2M (own.map (·.2)) mi tgt mc vs1 mi1 tgt1 mc1 me Δ).s fun d Δ1 => setO i d Δ1) := by
  obtain ⟨wi, p1, s1⟩ := hi.ex
  obtain ⟨g, p2, s2, i2, _⟩ := hg.ex
  obtain ⟨g1, p3, s3, i3, _⟩ := hg1.ex
  exact ⟨_, ps_setLc2 hc hN hy hyl hsw p1 ok hv p2 (fun s H C cl fp => (ht s H C cl fp).one) (fun s H C cl fp => (hi1 s H C cl fp).one) p3 (fun s H C cl fp => (ht1 s H C cl fp).one) (fun s H C cl fp => (he s H C cl fp).one) hs hs1, snd_setF (snd_lc2 s1 s2 snd_ttM i2 snd_tiM s3 snd_ttM i3 snd_teM)⟩
end
end KL
/-! KL, part w: a, b = x, y; blocks within blocks. -/
namespace KL
open PySem L2
section
variable {X : Cx} {L : Lx} {W : WX} {σ : L2.St} {Δ : DEnv} {F H : Hp} {a b : Expr} {n : DEnv → Res (List D)} {p pos : Pos} {x y : Str} {i j : Nat}
def parM (i j : Nat) (n : DEnv → Res (List D)) : DEnv → SRes := fun Δ => (n Δ).s fun ds Δ1 => match ds with
  | [d, e] => if canSet Δ1 i = true ∧ canSet Δ1 j = true then .nx ((Δ1.set i (.va d)).set j (.va e)) else .stuck
  | _ => .stuck
theorem canSet_set {Δ : DEnv} {i j : Nat} {d : D} (h : canSet Δ j = true) : canSet (Δ.set i (.va d)) j = true := by
  unfold canSet at *
  by_cases hij : i = j
  · subst hij
    have hl : i < Δ.length := canSet_lt (by unfold canSet; exact h)
    rw [List.getElem?_set_self hl]
  · rw [List.getElem?_set_ne hij]; exact h
theorem s_par {kt k2 : Nat} {px py pt pt2 : Pos} (hN : X.N.Nodup) (hi : X.N[i]? = some x) (hj : X.N[j]? = some y) (hij : i ≠ j) (hx : X.env.scope.names.lookup x = some .local) (hy : X.env.scope.names.lookup y = some .local) (h : DA X L W [a, b] n) (hc : X.calm = true := by rfl)
    {st : Stmt} (hst : ∀ t, PA X [a, b] t → PS X st (tPar i j t)) : DS X L W st (parM i j n) := by
  obtain ⟨ta, p1, s1⟩ := h.ex
  refine ⟨_, hst ta p1, fun σ Δ F H E env w => ?_⟩
  replace w : WantS L W σ Δ F H ((n Δ).s fun ds Δ1 => match ds with | [d, e] => if canSet Δ1 i = true ∧ canSet Δ1 j = true then .nx ((Δ1.set i (.va d)).set j (.va e)) else .stuck | _ => .stuck) E := w
  refine s1 σ Δ F H _ env ((Want.ofS w).mono fun ds Δ1 F1 H1 env1 w1 vs rs => ?_)
  match ds, w1 with
  | [d, e], w1 =>
    obtain ⟨v, r, rfl, h1, r1⟩ := rs.cons_inv
    obtain ⟨u, r', rfl, h2, r2⟩ := r1.cons_inv
    cases r2.nil_inv
    replace w1 : WantS L W σ Δ1 F1 H1 (if canSet Δ1 i = true ∧ canSet Δ1 j = true then .nx ((Δ1.set i (.va d)).set j (.va e)) else .stuck) E := w1
    split at w1
    · rename_i hc2
      have e1 := env1.setC hc2.1 (c := .va d) (v := v) ⟨v, rfl, h1⟩ fun xs a h _ => by cases h
      have s1 : Step σ Δ1 F1 H1 (σ.set i (some v)) (Δ1.set i (.va d)) F1 H1 := Step.setC .refl env1.len hc2.1 (fun xs h => by cases h) fun xs h => by cases h
      have hc3 := canSet_set (i := i) (d := d) hc2.2
      have e2 := e1.setC hc3 (c := .va e) (v := u) ⟨u, rfl, h2⟩ fun xs a h _ => by cases h
      exact ⟨v, u, rfl, w1 _ F1 H1 e2 (s1.setC e1.len hc3 (fun xs h => by cases h) fun xs h => by cases h)⟩
    · exact w1.elim
  | [], w1 => exact w1.elim
  | [_], w1 => exact w1.elim
  | _ :: _ :: _ :: _, w1 => exact w1.elim
theorem s_par2 {kt k2 : Nat} {px py pt pt2 : Pos} (hN : X.N.Nodup) (hi : X.N[i]? = some x) (hj : X.N[j]? = some y) (hij : i ≠ j) (hx : X.env.scope.names.lookup x = some .local) (hy : X.env.scope.names.lookup y = some .local) (h : DA X L W [a, b] n)
    (hw : swappedStores [.Tuple [.Name x px, .Name y py] kt pt] (.Tuple [a, b] k2 pt2) X.env = pure (some [x, y]) := by rfl) (hc : X.calm = true := by rfl)
    (hs : swapsWithSole [.Tuple [.Name x px, .Name y py] kt pt] (.Tuple [a, b] k2 pt2) pos.line X.env = pure false := by rfl) : DS X L W (.Assign [.Tuple [.Name x px, .Name y py] kt pt] (.Tuple [a, b] k2 pt2) pos) (parM i j n) :=
  s_par (kt := kt) (k2 := k2) (px := px) (py := py) (pt := pt) (pt2 := pt2) hN hi hj hij hx hy h hc fun t ht => ps_par hc hN hi hj hij hx hy ht hw hs
theorem blk_in2 {N' : List Str} {sc : Scope} {s : Shared} {scope scope2 : Scope} {C : Addr} {cl : List (Str × Addr)} {fp : List Addr} {own : List (Str × Nat)} (hN : X.N = N') (hs : X.env.scope = sc) (h : BlkOk N' (relS scope sc) scope2 own) : BlkOk (X.blk s H scope (compEnvC scope cl C X.env) fp).N (X.blk s H scope (compEnvC scope cl C X.env) fp).env.scope scope2 own := by
  subst hN hs; exact h
end
end KL
/-! KL, part x: more readings computed. -/
namespace KL
open PySem L2
/-- a comprehension with a test, all of whose turns go through -/
theorem compM_fm {vs : List Nat} {tgt : D → DEnv → Option DEnv} {cond : DEnv → Res Bool} {elt : DEnv → Res D} {Δ : DEnv} {f : D → Option D} : ∀ {xs acc : List D},
    (∀ x ∈ xs, ∃ Δ1 Δ2, tgt x (wipeD Δ vs) = some Δ1 ∧ ((∃ y Δ3, f x = some y ∧ cond Δ1 = .ok true Δ2 ∧ elt Δ2 = .ok y Δ3 ∧ restD Δ Δ3 vs = Δ) ∨ (f x = none ∧ cond Δ1 = .ok false Δ2 ∧ restD Δ Δ2 vs = Δ))) → compM vs tgt cond elt xs acc Δ = .ok (acc ++ xs.filterMap f) Δ
  | [], acc, _ => by rw [List.filterMap_nil, List.append_nil]; rfl
  | x :: xs, acc, h => by
    obtain ⟨Δ1, Δ2, e1, h2⟩ := h x (by simp)
    unfold compM
    rw [e1]
    show (cond Δ1).nox.bind _ = _
    rcases h2 with ⟨y, Δ3, fx, c, e, r⟩ | ⟨fx, c, r⟩
    · rw [c, nox_ok_, bind_ok_, if_pos rfl, e, nox_ok_, bind_ok_, r, compM_fm (f := f) fun z hz => h z (by simp [hz]), List.filterMap_cons, fx, List.append_assoc]; rfl
    · rw [c, nox_ok_, bind_ok_, if_neg (by decide), r, compM_fm (f := f) fun z hz => h z (by simp [hz]), List.filterMap_cons, fx]
/-- the same, the items told by their places -/
theorem lcM_fm {vs : List Nat} {mi : DEnv → Res (List D)} {tgt : D → DEnv → Option DEnv} {cond : DEnv → Res Bool} {elt : DEnv → Res D} {Δ Δ0 : DEnv} {xs : List D} {f : D → Option D} (hi : mi Δ0 = .ok xs Δ) (hl : xs.length < 16777216) (hp : (vs.all fun v => plainC Δ[v]?) = true)
    (h : ∀ x ∈ xs, ∃ Δ1 Δ2, tgt x (wipeD Δ vs) = some Δ1 ∧ ((∃ y Δ3, f x = some y ∧ cond Δ1 = .ok true Δ2 ∧ elt Δ2 = .ok y Δ3 ∧ restD Δ Δ3 vs = Δ) ∨ (f x = none ∧ cond Δ1 = .ok false Δ2 ∧ restD Δ Δ2 vs = Δ))) : lcM vs mi tgt cond elt Δ0 = .ok (xs.filterMap f) Δ := by
  unfold lcM
  rw [hi, bind_ok_, decide_eq_true hl, hp]
  show gd true _ = _
  rw [gd_true_, compM_fm h, List.nil_append]
/-- without a test -/
theorem lcM_map {vs : List Nat} {mi : DEnv → Res (List D)} {tgt : D → DEnv → Option DEnv} {elt : DEnv → Res D} {Δ Δ0 : DEnv} {xs : List D} {f : D → D} (hi : mi Δ0 = .ok xs Δ) (hl : xs.length < 16777216) (hp : (vs.all fun v => plainC Δ[v]?) = true)
    (h : ∀ x ∈ xs, ∃ Δ1 Δ3, tgt x (wipeD Δ vs) = some Δ1 ∧ elt Δ1 = .ok (f x) Δ3 ∧ restD Δ Δ3 vs = Δ) : lcM vs mi tgt (cst true) elt Δ0 = .ok (xs.map f) Δ := by
  have e : xs.map f = xs.filterMap fun x => some (f x) := by rw [List.filterMap_eq_map']
  rw [e]
  exact lcM_fm hi hl hp fun x hx => let ⟨Δ1, Δ3, a, b, c⟩ := h x hx; ⟨Δ1, Δ1, a, .inl ⟨f x, Δ3, rfl, rfl, b, c⟩⟩
theorem callV2f {F : DEnv → FRes} {m n : DEnv → Res D} {Δ Δ1 Δ2 cs : DEnv} {d e : D} {r : List D} (h : m Δ = .ok d Δ1) (h2 : n Δ1 = .ok e Δ2) (hF : F [.va d, .va e] = .fr r cs) : callF F (aV m (aV n (cst ([] : List Arg)))) Δ = .ok r Δ2 := by
  unfold callF callG
  rw [aV_, h, bind_ok_, aV_, h2, bind_ok_, map_ok_, map_ok_, bind_ok_]
  show FRes.toF [Sum.inl d, Sum.inl e] Δ2 (F [.va d, .va e]) = _
  rw [hF]
  show Res.ok r (backD [Sum.inl d, Sum.inl e] cs Δ2) = _
  rw [backD_in2]
theorem callV2x {F : DEnv → FRes} {m n : DEnv → Res D} {Δ Δ1 Δ2 cs : DEnv} {d e : D} {x : Exc} (h : m Δ = .ok d Δ1) (h2 : n Δ1 = .ok e Δ2) (hF : F [.va d, .va e] = .ex x cs) : callM F (aV m (aV n (cst ([] : List Arg)))) Δ = .ex x Δ2 := by
  unfold callM callG
  rw [aV_, h, bind_ok_, aV_, h2, bind_ok_, map_ok_, map_ok_, bind_ok_]
  show FRes.toR [Sum.inl d, Sum.inl e] Δ2 (F [.va d, .va e]) = _
  rw [hF]
  show Res.ex x (backD [Sum.inl d, Sum.inl e] cs Δ2) = _
  rw [backD_in2]
theorem retFS_ok {m : DEnv → Res (List D)} {Δ Δ1 : DEnv} {ds : List D} (h : m Δ = .ok ds Δ1) : retFS m Δ = .rf ds Δ1 := by rw [retFS_, h]; rfl
theorem setOS_ok {i : Nat} {m : DEnv → Res (List D)} {Δ Δ1 : DEnv} {d : List D} (h : m Δ = .ok d Δ1) (hc : canSet Δ1 i = true) : setOS i m Δ = .nx (Δ1.set i (.ow d)) := by
  rw [setOS_, h, s_ok_]; unfold setO; rw [if_pos hc]
theorem sq_nx {a b : DEnv → SRes} {Δ Δ1 : DEnv} (h : a Δ = .nx Δ1) : sq a b Δ = b Δ1 := by rw [sq_, h]; rfl
theorem seqA_lst {m : DEnv → Res D} {Δ Δ1 : DEnv} {ds : List D} (h : m Δ = .ok (.lst ds) Δ1) : seqA m Δ = .ok ds Δ1 := by unfold seqA; rw [h]; rfl
theorem seqA_tup {m : DEnv → Res D} {Δ Δ1 : DEnv} {ds : List D} (h : m Δ = .ok (.tup ds) Δ1) : seqA m Δ = .ok ds Δ1 := by unfold seqA; rw [h]; rfl
theorem consM_ok {m : DEnv → Res D} {n : DEnv → Res (List D)} {Δ Δ1 Δ2 : DEnv} {d : D} {ds : List D} (h : m Δ = .ok d Δ1) (h2 : n Δ1 = .ok ds Δ2) : consM m n Δ = .ok (d :: ds) Δ2 := by rw [consM_, h, bind_ok_, h2]; rfl
theorem tupM_ok {n : DEnv → Res (List D)} {Δ Δ2 : DEnv} {ds : List D} (h2 : n Δ = .ok ds Δ2) (hl : ds.length ≤ 16777216) : tupM n Δ = .ok (.tup ds) Δ2 := by
  unfold tupM; rw [h2, bind_ok_, decide_eq_true hl]; rfl
theorem lstM_ok {n : DEnv → Res (List D)} {Δ Δ2 : DEnv} {ds : List D} (h2 : n Δ = .ok ds Δ2) (hl : ds.length ≤ 16777216) : lstM n Δ = .ok ds Δ2 := by
  unfold lstM; rw [h2, bind_ok_, decide_eq_true hl]; rfl
theorem call1_ok {g : D → Option D} {m : DEnv → Res D} {Δ Δ1 : DEnv} {d z : D} (h : m Δ = .ok d Δ1) (hg : g d = some z) : call1 g m Δ = .ok z Δ1 := by rw [call1_, h, bind_ok_, hg]; rfl
theorem truM_ok {m : DEnv → Res D} {Δ Δ1 : DEnv} {d : D} {b : Bool} (h : m Δ = .ok d Δ1) (hg : truD d = some b) : truM m Δ = .ok b Δ1 := by rw [truM_, h, bind_ok_, hg]; rfl
theorem catF_ok {xs ys : List D} (h : xs.length + ys.length ≤ 16777216) : catF (.lst xs) (.lst ys) = some (xs ++ ys) := if_pos h
/-! the items typed -/
theorem compM_ft {α : Type} {vs : List Nat} {tgt : D → DEnv → Option DEnv} {cond : DEnv → Res Bool} {elt : DEnv → Res D} {Δ : DEnv} {i : α → D} {t : α → Bool} {o : α → D} : ∀ {xs : List α} {acc : List D},
    (∀ x ∈ xs, ∃ Δ1 Δ2, tgt (i x) (wipeD Δ vs) = some Δ1 ∧ cond Δ1 = .ok (t x) Δ2 ∧ (t x = true → ∃ Δ3, elt Δ2 = .ok (o x) Δ3 ∧ restD Δ Δ3 vs = Δ) ∧ (t x = false → restD Δ Δ2 vs = Δ)) → compM vs tgt cond elt (xs.map i) acc Δ = .ok (acc ++ (xs.filter t).map o) Δ
  | [], acc, _ => by
    show Res.ok acc Δ = Res.ok (acc ++ []) Δ
    rw [List.append_nil]
  | x :: xs, acc, h => by
    obtain ⟨Δ1, Δ2, e1, c, h1, h2⟩ := h x (by simp)
    rw [List.map_cons]
    unfold compM
    rw [e1]
    show (cond Δ1).nox.bind _ = _
    rw [c, nox_ok_, bind_ok_]
    cases q : t x with
    | true =>
      obtain ⟨Δ3, e, r⟩ := h1 q
      rw [if_pos rfl, e, nox_ok_, bind_ok_, r, compM_ft (o := o) (t := t) fun z hz => h z (by simp [hz]), List.filter_cons, q, List.append_assoc]; rfl
    | false =>
      rw [if_neg (by decide), h2 q, compM_ft (o := o) (t := t) fun z hz => h z (by simp [hz]), List.filter_cons, q]; rfl
theorem lcM_ft {α : Type} {vs : List Nat} {mi : DEnv → Res (List D)} {tgt : D → DEnv → Option DEnv} {cond : DEnv → Res Bool} {elt : DEnv → Res D} {Δ Δ0 : DEnv} {i : α → D} {t : α → Bool} {o : α → D} {xs : List α} (hi : mi Δ0 = .ok (xs.map i) Δ) (hl : xs.length < 16777216) (hp : (vs.all fun v => plainC Δ[v]?) = true)
    (h : ∀ x ∈ xs, ∃ Δ1 Δ2, tgt (i x) (wipeD Δ vs) = some Δ1 ∧ cond Δ1 = .ok (t x) Δ2 ∧ (t x = true → ∃ Δ3, elt Δ2 = .ok (o x) Δ3 ∧ restD Δ Δ3 vs = Δ) ∧ (t x = false → restD Δ Δ2 vs = Δ)) : lcM vs mi tgt cond elt Δ0 = .ok ((xs.filter t).map o) Δ := by
  unfold lcM
  rw [hi, bind_ok_, List.length_map, decide_eq_true hl, hp]
  show gd true _ = _
  rw [gd_true_, compM_ft h, List.nil_append]
theorem lcM_mt {α : Type} {vs : List Nat} {mi : DEnv → Res (List D)} {tgt : D → DEnv → Option DEnv} {elt : DEnv → Res D} {Δ Δ0 : DEnv} {i : α → D} {o : α → D} {xs : List α} (hi : mi Δ0 = .ok (xs.map i) Δ) (hl : xs.length < 16777216) (hp : (vs.all fun v => plainC Δ[v]?) = true)
    (h : ∀ x ∈ xs, ∃ Δ1 Δ3, tgt (i x) (wipeD Δ vs) = some Δ1 ∧ elt Δ1 = .ok (o x) Δ3 ∧ restD Δ Δ3 vs = Δ) : lcM vs mi tgt (cst true) elt Δ0 = .ok (xs.map o) Δ := by
  have := lcM_ft (t := fun _ => true) (o := o) (cond := cst true) (elt := elt) (tgt := tgt) hi hl hp fun x hx => let ⟨Δ1, Δ3, a, b, c⟩ := h x hx; ⟨Δ1, Δ1, a, rfl, fun _ => ⟨Δ3, b, c⟩, fun z => by cases z⟩
  rw [List.filter_eq_self.mpr (fun _ _ => rfl)] at this
  exact this
end KL
/-! KL, part y: equations by which simp computes readings over written-out frames. -/
namespace KL
open PySem L2
section
variable {α β : Type} {Δ Δ1 Δ2 : DEnv} {x : Exc} {i : Nat} {d : D}
theorem e_opV {f : D → D → Option α} {mb : DEnv → Res D} : opV f i mb Δ = match rdR Δ i with
  | none => .stuck
  | some _ => (mb Δ).bind fun y Δ1 => .opt ((rdR Δ1 i).bind fun x => f x y) Δ1 := nr rfl
theorem e_varM : varM i Δ = match Δ[i]? with
  | some (.va d) => .ok d Δ
  | some (.owv (.l xs)) => .ok (.lst xs) (Δ.set i (.va (.lst xs)))
  | _ => .stuck := nr rfl
theorem e_rdR : rdR Δ i = (Δ[i]?).bind rdC := nr rfl
theorem e_get0 {c : Cell} {l : DEnv} : (c :: l)[0]? = some c := nr rfl
theorem e_getS {c : Cell} {l : DEnv} {n : Nat} : (c :: l)[n + 1]? = l[n]? := nr rfl
theorem e_set0 {c e : Cell} {l : DEnv} : (c :: l).set 0 e = e :: l := nr rfl
theorem e_setS {c e : Cell} {l : DEnv} {n : Nat} : (c :: l).set (n + 1) e = c :: l.set n e := nr rfl
theorem e_bind {a : α} {f : α → Option β} : (some a).bind f = f a := nr rfl
theorem e_cst {a : α} : cst a Δ = .ok a Δ := nr rfl
theorem e_setM : setM i d Δ = if canSet Δ i = true then .nx (Δ.set i (.va d)) else .stuck := nr rfl
theorem e_setO {ds : List D} : setO i ds Δ = if canSet Δ i = true then .nx (Δ.set i (.ow ds)) else .stuck := nr rfl
theorem e_canSet {c : Cell} (h : Δ[i]? = some c) (hc : canC c = true) : canSet Δ i = true := by rw [canSet_, h]; exact hc
theorem e_tgN : tgN i d Δ = if canSet Δ i = true then some (Δ.set i (.va d)) else none := nr rfl
theorem e_tgT {n : Nat} {u : List D → DEnv → Option DEnv} {ds : List D} : tgT n u (.tup ds) Δ = if ds.length = n then u ds Δ else none := nr rfl
theorem e_tgsNil : tgsNil [] Δ = some Δ := nr rfl
theorem e_tgsCons {t : D → DEnv → Option DEnv} {u : List D → DEnv → Option DEnv} {r : List D} : tgsCons t u (d :: r) Δ = (t d Δ).bind (u r) := nr rfl
theorem e_asgM {me : DEnv → Res D} {tgt : D → DEnv → Option DEnv} : asgM me tgt Δ = (me Δ).s fun d Δ1 => match tgt d Δ1 with
  | some Δ2 => .nx Δ2
  | none => .stuck := nr rfl
theorem e_parM {j : Nat} {n : DEnv → Res (List D)} : parM i j n Δ = (n Δ).s fun ds Δ1 => match ds with
  | [d, e] => if canSet Δ1 i = true ∧ canSet Δ1 j = true then .nx ((Δ1.set i (.va d)).set j (.va e)) else .stuck
  | _ => .stuck := nr rfl
theorem e_tupM {n : DEnv → Res (List D)} : tupM n Δ = (n Δ).bind fun ds Δ1 => gd (decide (ds.length ≤ 16777216)) (.ok (.tup ds) Δ1) := nr rfl
theorem e_lstM {n : DEnv → Res (List D)} : lstM n Δ = (n Δ).bind fun ds Δ1 => gd (decide (ds.length ≤ 16777216)) (.ok ds Δ1) := nr rfl
theorem e_gd {c : Bool} {r : Res α} (h : c = true) : gd c r = r := by rw [h]; rfl
theorem e_notV {m : DEnv → Res D} : notV m Δ = (m Δ).bind fun d Δ1 => match d with
  | .bl b => .ok (.bl (!b)) Δ1
  | _ => .stuck := nr rfl
theorem e_negM {m : DEnv → Res D} : negM m Δ = (m Δ).bind fun d Δ1 => match d with
  | .int i => .ok (.int (-i)) Δ1
  | _ => .stuck := nr rfl
theorem e_seqA {m : DEnv → Res D} : seqA m Δ = (m Δ).bind fun d Δ1 => match d with
  | .lst ds => .ok ds Δ1
  | .tup ds => .ok ds Δ1
  | .lsx ds => .ok ds Δ1
  | .str z => .ok (signs z) Δ1
  | _ => .stuck := nr rfl
theorem e_chainM {f g : D → D → Option D} {ma mb mc : DEnv → Res D} : chainM f g ma mb mc Δ = (ma Δ).bind fun x Δ1 => (mb Δ1).bind fun y Δ2 => match f x y with
  | some (.bl true) => (mc Δ2).bind fun z Δ3 => .opt (g y z) Δ3
  | some (.bl false) => .ok (.bl false) Δ2
  | _ => .stuck := nr rfl
theorem e_callF1 {g : D → Option (List D)} {m : DEnv → Res D} : callF1 g m Δ = (m Δ).bind fun d Δ1 => .opt (g d) Δ1 := nr rfl
theorem e_revF {m : DEnv → Res D} : revF m Δ = (m Δ).bind fun d Δ1 => match d with
  | .lst ds => .ok ds.reverse Δ1
  | _ => .stuck := nr rfl
theorem e_sm1M {g : Str → D → Option D} {mo me : DEnv → Res D} : sm1M g mo me Δ = (mo Δ).bind fun d Δ1 => match d with
  | .str z => (me Δ1).bind fun y Δ2 => .opt (g z y) Δ2
  | _ => .stuck := nr rfl
theorem e_enumM {m : DEnv → Res D} : enumM m Δ = (m Δ).bind fun d Δ1 => .opt ((walkD d).map enumL) Δ1 := nr rfl
theorem e_getL : getL Δ i = (Δ[i]?).bind Cell.list? := nr rfl
theorem e_list_ow {xs : List D} : Cell.list? (.owv (.l xs)) = some xs := nr rfl
theorem e_list_pa {xs : List D} : Cell.list? (.pav (.l xs)) = some xs := nr rfl
theorem e_own_ow {w : OwnV} : Cell.own? (.owv w) = some w := nr rfl
theorem e_own_pa {w : OwnV} : Cell.own? (.pav w) = some w := nr rfl
theorem e_getO : getO Δ i = (Δ[i]?).bind Cell.own? := nr rfl
theorem e_setW {w : OwnV} : setW Δ i w = match Δ[i]? with
  | some (.owv _) => Δ.set i (.owv w)
  | some (.pav _) => Δ.set i (.pav w)
  | _ => Δ := nr rfl
theorem e_appendM {me : DEnv → Res D} : appendM i me Δ = match getL Δ i with
  | none => .stuck
  | some _ => (me Δ).bind fun d Δ1 => match getL Δ1 i with
    | none => .stuck
    | some xs => gd (decide (xs.length < 16777216)) (.ok .non (setL Δ1 i (xs ++ [d]))) := nr rfl
theorem e_aO {r : DEnv → Res (List Arg)} : aO i r Δ = match getO Δ i with
  | none => .stuck
  | some _ => (r Δ).map (Sum.inr i :: ·) := nr rfl
theorem e_callG {g : List Arg → DEnv → FRes → Res α} {mf : DEnv → FRes} {m : DEnv → Res (List Arg)} : callG g mf m Δ = (m Δ).bind fun zs Δ1 => match cellsOf Δ1 zs with
  | none => .stuck
  | some cs => if (slotsOf zs).Nodup then g zs Δ1 (mf cs) else .stuck := nr rfl
theorem e_cells0 : cellsOf Δ [] = some [] := nr rfl
theorem e_cellsV {zs : List Arg} : cellsOf Δ (.inl d :: zs) = (cellsOf Δ zs).map (Cell.va d :: ·) := nr rfl
theorem e_cellsO {zs : List Arg} : cellsOf Δ (.inr i :: zs) = (getO Δ i).bind fun xs => (cellsOf Δ zs).map (Cell.pav xs :: ·) := nr rfl
theorem e_omap {a : α} {f : α → β} : (some a).map f = some (f a) := nr rfl
theorem e_slots0 : slotsOf [] = [] := nr rfl
theorem e_slotsV {zs : List Arg} : slotsOf (.inl d :: zs) = slotsOf zs := nr rfl
theorem e_slotsO {zs : List Arg} : slotsOf (.inr i :: zs) = i :: slotsOf zs := nr rfl
theorem e_nodup0 : ([] : List Nat).Nodup = True := by simp
theorem e_nodup1 : [i].Nodup = True := by simp
theorem e_toR_ok {zs : List Arg} {cs : DEnv} : FRes.toR zs Δ (.ok d cs) = .ok d (backD zs cs Δ) := nr rfl
theorem e_toR_ex {zs : List Arg} {cs : DEnv} : FRes.toR zs Δ (.ex x cs) = .ex x (backD zs cs Δ) := nr rfl
theorem e_toF_fr {zs : List Arg} {cs : DEnv} {ds : List D} : FRes.toF zs Δ (.fr ds cs) = .ok ds (backD zs cs Δ) := nr rfl
theorem e_toF_ex {zs : List Arg} {cs : DEnv} : FRes.toF zs Δ (.ex x cs) = .ex x (backD zs cs Δ) := nr rfl
theorem e_backO {zs : List Arg} {cs : DEnv} {w : OwnV} : backD (.inr i :: zs) (.pav w :: cs) Δ = backD zs cs (setW Δ i w) := nr rfl
theorem e_backV {zs : List Arg} {cs : DEnv} {c : Cell} : backD (.inl d :: zs) (c :: cs) Δ = backD zs cs Δ := by cases c <;> rfl
theorem e_back0 {cs : DEnv} : backD [] cs Δ = Δ := by cases cs <;> rfl
theorem e_tru_int {j : Int} : truD (.int j) = some (j != 0) := nr rfl
theorem e_tru_bl {b : Bool} : truD (.bl b) = some b := nr rfl
theorem e_while {c : DEnv → Res Bool} {body : DEnv → SRes} {n : Nat} : whileM c body (n + 1) Δ = (c Δ).s fun b Δ1 => if b = true then (body Δ1).loop (whileM c body n) else .nx Δ1 := nr rfl
/-! one turn of a comprehension as one reading -/
def stepC (vs : List Nat) (tgt : D → DEnv → Option DEnv) (cond : DEnv → Res Bool) (elt : DEnv → Res D) (d : D) (Δ : DEnv) : Res (Option D) := match tgt d (wipeD Δ vs) with
  | none => .stuck
  | some Δ1 => (cond Δ1).nox.bind fun b Δ2 => if b = true then (elt Δ2).nox.bind fun y Δ3 => .ok (some y) (restD Δ Δ3 vs) else .ok none (restD Δ Δ2 vs)
theorem e_stepC {vs : List Nat} {tgt : D → DEnv → Option DEnv} {cond : DEnv → Res Bool} {elt : DEnv → Res D} : stepC vs tgt cond elt d Δ = match tgt d (wipeD Δ vs) with
  | none => .stuck
  | some Δ1 => (cond Δ1).nox.bind fun b Δ2 => if b = true then (elt Δ2).nox.bind fun y Δ3 => .ok (some y) (restD Δ Δ3 vs) else .ok none (restD Δ Δ2 vs) := nr rfl
theorem e_wipe0 : wipeD Δ [] = Δ := nr rfl
theorem e_wipeS {v : Nat} {vs : List Nat} : wipeD Δ (v :: vs) = (wipeD Δ vs).set v .no := nr rfl
theorem e_rest0 : restD Δ Δ1 [] = Δ1 := nr rfl
theorem e_restS {v : Nat} {vs : List Nat} : restD Δ Δ1 (v :: vs) = match Δ[v]? with
    | some c => (restD Δ Δ1 vs).set v c
    | none => restD Δ Δ1 vs := nr rfl
theorem bind_ok {r : Res α} {f : α → DEnv → Res β} {b : β} (h : r.bind f = .ok b Δ) : ∃ a Δ1, r = .ok a Δ1 ∧ f a Δ1 = .ok b Δ := by
  cases r with
  | stuck => cases h
  | ex x Δ' => cases h
  | ok a Δ1 => exact ⟨a, Δ1, rfl, h⟩
theorem nox_ok {r : Res α} {a : α} (h : r.nox = .ok a Δ) : r = .ok a Δ := by
  cases r with
  | stuck => cases h
  | ex x Δ' => cases h
  | ok a Δ1 => exact h
theorem compM_st {γ : Type} {vs : List Nat} {tgt : D → DEnv → Option DEnv} {cond : DEnv → Res Bool} {elt : DEnv → Res D} {j : γ → D} {f : γ → Option D} : ∀ {xs : List γ} {acc : List D},
    (∀ x ∈ xs, stepC vs tgt cond elt (j x) Δ = .ok (f x) Δ) → compM vs tgt cond elt (xs.map j) acc Δ = .ok (acc ++ xs.filterMap f) Δ
  | [], acc, _ => by rw [List.filterMap_nil, List.append_nil]; rfl
  | x :: xs, acc, h => by
    have h1 := h x (by simp)
    have ih := fun acc => compM_st (acc := acc) fun z hz => h z (List.mem_cons_of_mem x hz)
    rw [List.map_cons]
    unfold compM
    unfold stepC at h1
    cases q : tgt (j x) (wipeD Δ vs) with
    | none => rw [q] at h1; cases h1
    | some Δ1 =>
      rw [q] at h1
      obtain ⟨b, Δ2, g1, g2⟩ := bind_ok h1
      show (cond Δ1).nox.bind _ = _
      rw [g1, bind_ok_]
      cases b with
      | true =>
        rw [if_pos rfl] at g2 ⊢
        obtain ⟨y, Δ3, g3, g4⟩ := bind_ok g2
        rw [g3, bind_ok_]
        injection g4 with g5 g6
        rw [g6, ih, List.filterMap_cons, ← g5, List.append_assoc]; rfl
      | false =>
        rw [if_neg (by decide)] at g2 ⊢
        injection g2 with g5 g6
        rw [g6, ih, List.filterMap_cons, ← g5]
theorem lcM_st {γ : Type} {vs : List Nat} {mi : DEnv → Res (List D)} {tgt : D → DEnv → Option DEnv} {cond : DEnv → Res Bool} {elt : DEnv → Res D} {Δ0 : DEnv} (j : γ → D) (f : γ → Option D) {xs : List γ} (hi : mi Δ0 = .ok (xs.map j) Δ) (hl : xs.length < 16777216) (hp : (vs.all fun v => plainC Δ[v]?) = true)
    (h : ∀ x ∈ xs, stepC vs tgt cond elt (j x) Δ = .ok (f x) Δ) : lcM vs mi tgt cond elt Δ0 = .ok (xs.filterMap f) Δ := by
  unfold lcM
  rw [hi, bind_ok_, List.length_map, decide_eq_true hl, hp]
  show gd true _ = _
  rw [gd_true_, compM_st h, List.nil_append]
theorem fm_map {γ : Type} {o : γ → D} {xs : List γ} : xs.filterMap (fun x => some (o x)) = xs.map o := by rw [List.filterMap_eq_map']
theorem fm_filter {γ : Type} {t : γ → Bool} {o : γ → D} : ∀ {xs : List γ}, xs.filterMap (fun x => if t x = true then some (o x) else none) = (xs.filter t).map o
  | [] => rfl
  | x :: xs => by
    have ih := fm_filter (t := t) (o := o) (xs := xs)
    rw [List.filterMap_cons, List.filter_cons]
    cases q : t x with
    | true => simp only [if_true, List.map_cons, ih]
    | false => simp only [Bool.false_eq_true, if_false, ih]
/-- all items go in -/
theorem lcM_m {γ : Type} {vs : List Nat} {mi : DEnv → Res (List D)} {tgt : D → DEnv → Option DEnv} {cond : DEnv → Res Bool} {elt : DEnv → Res D} {Δ0 : DEnv} (j : γ → D) (o : γ → D) {xs : List γ} (hi : mi Δ0 = .ok (xs.map j) Δ) (hl : xs.length < 16777216) (hp : (vs.all fun v => plainC Δ[v]?) = true)
    (h : ∀ x ∈ xs, stepC vs tgt cond elt (j x) Δ = .ok (some (o x)) Δ) : lcM vs mi tgt cond elt Δ0 = .ok (xs.map o) Δ := by
  rw [lcM_st j (fun x => some (o x)) hi hl hp h, fm_map]
theorem lcM_f {γ : Type} {vs : List Nat} {mi : DEnv → Res (List D)} {tgt : D → DEnv → Option DEnv} {cond : DEnv → Res Bool} {elt : DEnv → Res D} {Δ0 : DEnv} (j : γ → D) (t : γ → Bool) (o : γ → D) {xs : List γ} (hi : mi Δ0 = .ok (xs.map j) Δ) (hl : xs.length < 16777216) (hp : (vs.all fun v => plainC Δ[v]?) = true)
    (h : ∀ x ∈ xs, stepC vs tgt cond elt (j x) Δ = .ok (if t x = true then some (o x) else none) Δ) : lcM vs mi tgt cond elt Δ0 = .ok ((xs.filter t).map o) Δ := by
  rw [lcM_st j (fun x => if t x = true then some (o x) else none) hi hl hp h, fm_filter]
theorem e_for0 {tgt : D → DEnv → Option DEnv} {body : DEnv → SRes} : forM tgt body [] Δ = .nx Δ := nr rfl
theorem e_forS {tgt : D → DEnv → Option DEnv} {body : DEnv → SRes} {xs : List D} : forM tgt body (d :: xs) Δ = match tgt d Δ with
  | none => .stuck
  | some Δ1 => (body Δ1).loop (forM tgt body xs) := nr rfl
theorem e_nox {a : α} : (Res.ok a Δ).nox = .ok a Δ := nr rfl
theorem e_plain_no : plainC (some .no) = true := nr rfl
theorem e_plain_va : plainC (some (.va d)) = true := nr rfl
theorem e_all0 {p : Nat → Bool} : ([] : List Nat).all p = true := nr rfl
theorem e_allS {p : Nat → Bool} {v : Nat} {vs : List Nat} : (v :: vs).all p = (p v && vs.all p) := nr rfl
theorem e_slt0 {n : Nat} {ms : DEnv → SRes} {N : Nat} {cs : DEnv} : bodyF n N ms cs = (ms (cs ++ List.replicate (N - n) .no)).fin n := nr rfl
theorem e_kpD : kpD 0 Δ = [] := nr rfl
def kpc (n : Nat) (Δ : DEnv) : DEnv := match n, Δ with
  | 0, _ => []
  | n + 1, c :: Δ => keepC c :: kpc n Δ
  | n + 1, [] => .no :: kpc n []
theorem kpc_nil (n : Nat) : kpc n [] = List.replicate n .no := by
  induction n with
  | zero => rfl
  | succ n ih => show Cell.no :: kpc n [] = _; rw [ih]; rfl
theorem kpD_kpc : ∀ (n : Nat) (Δ : DEnv), kpD n Δ = kpc n Δ
  | 0, _ => rfl
  | n + 1, [] => by
    rw [kpc_nil]
    unfold kpD
    apply List.ext_getElem
    · simp
    · intro i h1 h2; simp
  | n + 1, c :: Δ => by
    have ih := kpD_kpc n Δ
    show kpD (n + 1) (c :: Δ) = keepC c :: kpc n Δ
    rw [← ih]
    unfold kpD
    rw [List.range_succ_eq_map, List.map_cons, List.map_map]
    congr 1
    · cases c <;> rfl
theorem e_kpc0 : kpc 0 Δ = [] := nr rfl
theorem e_kpcS {n : Nat} {c : Cell} : kpc (n + 1) (c :: Δ) = keepC c :: kpc n Δ := nr rfl
end
end KL
/-! KL, part z: the greatest of ints, two-clause comprehensions computed. -/
namespace KL
open PySem L2
theorem pyLt_int (i j : Int) : pyLt (.int i) (.int j) = decide (i < j) := by
  show PySem.W.dataLt (.int i) (.int j) = _
  exact PySem.W.dataLt_int i j
theorem okL_int (l : List Int) : okL (l.map D.int) = true := by
  unfold okL
  rw [List.all_eq_true]
  intro d hd
  obtain ⟨i, _, rfl⟩ := List.mem_map.mp hd
  have h2 : pyOf (.int i) = .int i := rfl
  have h3 : (PyData.int i).depth ≤ 60 := by simp [PyData.depth]
  rw [h2, decide_eq_true h3]
  show ((toPy (.int i)).isSome && notNone (.int i) && true && (List.map D.int l).all _) = true
  simp only [Bool.and_true, Bool.and_eq_true]
  refine ⟨⟨rfl, rfl⟩, ?_⟩
  rw [List.all_eq_true]
  intro e he
  obtain ⟨j, _, rfl⟩ := List.mem_map.mp he
  show PySem.W.alike (.int i) (.int j) = true
  simp [PySem.W.alike]
def bestI (lt : Int → Int → Bool) (l : List Int) (z : Int) : Int := l.foldl (fun a y => if lt y a = true then y else a) z
theorem bestI_fold (f : D → D → Bool) (lt : Int → Int → Bool) (h : ∀ i j, f (.int i) (.int j) = lt i j) : ∀ (l : List Int) (z : Int), (l.map D.int).foldl (fun a y => if f y a = true then y else a) (.int z) = .int (bestI lt l z)
  | [], _ => rfl
  | x :: l, z => by
    show (l.map D.int).foldl _ (if f (.int x) (.int z) = true then D.int x else D.int z) = _
    rw [h]
    have e : (if lt x z = true then D.int x else D.int z) = D.int (if lt x z = true then x else z) := by split <;> rfl
    rw [e, bestI_fold f lt h l]; rfl
theorem bestI_mem (lt : Int → Int → Bool) : ∀ (l : List Int) (z : Int), bestI lt l z ∈ z :: l
  | [], z => by simp [bestI]
  | x :: l, z => by
    have ih := bestI_mem lt l (if lt x z = true then x else z)
    show bestI lt l (if lt x z = true then x else z) ∈ _
    rcases List.mem_cons.mp ih with h | h
    · rw [h]; split <;> simp
    · simp [h]
theorem maxI_ge : ∀ (l : List Int) (z : Int), ∀ y ∈ z :: l, y ≤ bestI (fun x y => decide (y < x)) l z
  | [], z, y, hy => by rw [List.mem_singleton.mp hy]; exact Int.le_refl _
  | x :: l, z, y, hy => by
    have ih := maxI_ge l (if decide (z < x) = true then x else z)
    show y ≤ bestI _ l (if decide (z < x) = true then x else z)
    have h0 := ih _ (List.mem_cons_self ..)
    rcases List.mem_cons.mp hy with rfl | hy
    · by_cases h : y < x
      · rw [decide_eq_true h, if_pos rfl] at h0 ⊢; omega
      · rw [decide_eq_false h, if_neg (by decide)] at h0 ⊢; exact h0
    · rcases List.mem_cons.mp hy with rfl | hy
      · by_cases h : z < y
        · rw [decide_eq_true h, if_pos rfl] at h0 ⊢; exact h0
        · rw [decide_eq_false h, if_neg (by decide)] at h0 ⊢; omega
      · exact ih y (List.mem_cons_of_mem _ hy)
theorem minI_le : ∀ (l : List Int) (z : Int), ∀ y ∈ z :: l, bestI (fun x y => decide (x < y)) l z ≤ y
  | [], z, y, hy => by rw [List.mem_singleton.mp hy]; exact Int.le_refl _
  | x :: l, z, y, hy => by
    have ih := minI_le l (if decide (x < z) = true then x else z)
    show bestI _ l (if decide (x < z) = true then x else z) ≤ y
    have h0 := ih _ (List.mem_cons_self ..)
    rcases List.mem_cons.mp hy with rfl | hy
    · by_cases h : x < y
      · rw [decide_eq_true h, if_pos rfl] at h0 ⊢; omega
      · rw [decide_eq_false h, if_neg (by decide)] at h0 ⊢; exact h0
    · rcases List.mem_cons.mp hy with rfl | hy
      · by_cases h : y < z
        · rw [decide_eq_true h, if_pos rfl] at h0 ⊢; exact h0
        · rw [decide_eq_false h, if_neg (by decide)] at h0 ⊢; omega
      · exact ih y (List.mem_cons_of_mem _ hy)
theorem maxD_int {l : List Int} (h : l ≠ []) : ∃ m ∈ l, maxD (.lst (l.map D.int)) = some (.int m) ∧ ∀ y ∈ l, y ≤ m := by
  cases l with
  | nil => exact absurd rfl h
  | cons z l =>
    refine ⟨bestI (fun x y => decide (y < x)) l z, bestI_mem _ l z, ?_, maxI_ge l z⟩
    show (if okL (D.int z :: l.map D.int) = true then some ((l.map D.int).foldl (fun a y => if pyLt a y = true then y else a) (D.int z)) else none) = _
    rw [if_pos (show okL (D.int z :: l.map D.int) = true from okL_int (z :: l))]
    exact congrArg some (bestI_fold (fun x y => pyLt y x) (fun x y => decide (y < x)) (fun i j => pyLt_int j i) l z)
theorem minD_int {l : List Int} (h : l ≠ []) : ∃ m ∈ l, minD (.lst (l.map D.int)) = some (.int m) ∧ ∀ y ∈ l, m ≤ y := by
  cases l with
  | nil => exact absurd rfl h
  | cons z l =>
    refine ⟨bestI (fun x y => decide (x < y)) l z, bestI_mem _ l z, ?_, minI_le l z⟩
    show (if okL (D.int z :: l.map D.int) = true then some ((l.map D.int).foldl (fun a y => if pyLt y a = true then y else a) (D.int z)) else none) = _
    rw [if_pos (show okL (D.int z :: l.map D.int) = true from okL_int (z :: l))]
    exact congrArg some (bestI_fold pyLt (fun x y => decide (x < y)) pyLt_int l z)
section
variable {Δ : DEnv}
/-- two clauses, all items go in -/
theorem comp2M_m {γ δ : Type} {vs vs1 : List Nat} {tgt tgt1 : D → DEnv → Option DEnv} {cond cond1 : DEnv → Res Bool} {mi1 : DEnv → Res (List D)} {elt : DEnv → Res D} {j : γ → D} {j1 : δ → D} {ys : γ → List δ} {o : γ → δ → D} : ∀ {xs : List γ} {acc : List D},
    acc.length + (xs.flatMap ys).length < 16777216 →
    (∀ x ∈ xs, ∃ Δ1 Δ2 Δ3, tgt (j x) (wipeD Δ vs) = some Δ1 ∧ cond Δ1 = .ok true Δ2 ∧ mi1 Δ2 = .ok ((ys x).map j1) Δ3 ∧ (vs1.all fun v => plainC Δ3[v]?) = true ∧ (∀ y ∈ ys x, stepC vs1 tgt1 cond1 elt (j1 y) Δ3 = .ok (some (o x y)) Δ3) ∧ restD Δ Δ3 vs = Δ) →
    comp2M vs tgt cond vs1 mi1 tgt1 cond1 elt (xs.map j) acc Δ = .ok (acc ++ xs.flatMap fun x => (ys x).map (o x)) Δ
  | [], acc, _, _ => by rw [List.flatMap_nil, List.append_nil]; rfl
  | x :: xs, acc, hl, h => by
    obtain ⟨Δ1, Δ2, Δ3, e1, e2, e3, e4, e5, e6⟩ := h x (by simp)
    rw [List.flatMap_cons, List.length_append] at hl
    rw [List.map_cons]
    unfold comp2M
    rw [e1]
    show (cond Δ1).nox.bind _ = _
    rw [e2, nox_ok_, bind_ok_, if_pos rfl, e3, nox_ok_, bind_ok_, e4, List.length_map, decide_eq_true (by omega)]
    show gd true _ = _
    rw [gd_true_, compM_st (f := fun y => some (o x y)) e5, fm_map, nox_ok_, bind_ok_, e6]
    rw [comp2M_m (by rw [List.length_append, List.length_map]; omega) fun z hz => h z (List.mem_cons_of_mem x hz), List.flatMap_cons, List.append_assoc]
theorem lc2M_m {γ δ : Type} {vs vs1 : List Nat} {mi : DEnv → Res (List D)} {tgt tgt1 : D → DEnv → Option DEnv} {cond cond1 : DEnv → Res Bool} {mi1 : DEnv → Res (List D)} {elt : DEnv → Res D} {Δ0 : DEnv} (j : γ → D) (j1 : δ → D) (ys : γ → List δ) (o : γ → δ → D) {xs : List γ} (hi : mi Δ0 = .ok (xs.map j) Δ)
    (hl : (xs.flatMap ys).length < 16777216) (hp : (vs.all fun v => plainC Δ[v]?) = true)
    (h : ∀ x ∈ xs, ∃ Δ1 Δ2 Δ3, tgt (j x) (wipeD Δ vs) = some Δ1 ∧ cond Δ1 = .ok true Δ2 ∧ mi1 Δ2 = .ok ((ys x).map j1) Δ3 ∧ (vs1.all fun v => plainC Δ3[v]?) = true ∧ (∀ y ∈ ys x, stepC vs1 tgt1 cond1 elt (j1 y) Δ3 = .ok (some (o x y)) Δ3) ∧ restD Δ Δ3 vs = Δ) :
    lc2M vs mi tgt cond vs1 mi1 tgt1 cond1 elt Δ0 = .ok (xs.flatMap fun x => (ys x).map (o x)) Δ := by
  unfold lc2M
  rw [hi, bind_ok_, hp]
  show gd true _ = _
  rw [gd_true_, comp2M_m (by simpa using hl) h, List.nil_append]
end
end KL
/-! KL, part za: comprehensions that change the frame; letters, put places. -/
namespace KL
open PySem L2
section
variable {Δ : DEnv}
/-- a comprehension whose items change the frame: a property that each turn keeps -/
theorem compM_inv {vs : List Nat} {tgt : D → DEnv → Option DEnv} {cond : DEnv → Res Bool} {elt : DEnv → Res D} {P : Nat → List D → DEnv → Prop} : ∀ {xs acc : List D} {Δ : DEnv} (k : Nat), P k acc Δ →
    (∀ x ∈ xs, ∀ k acc Δ, P k acc Δ → ∃ y Δ', stepC vs tgt cond elt x Δ = .ok (some y) Δ' ∧ P (k + 1) (acc ++ [y]) Δ') → ∃ acc' Δ', compM vs tgt cond elt xs acc Δ = .ok acc' Δ' ∧ P (k + xs.length) acc' Δ'
  | [], acc, Δ, k, h, _ => ⟨acc, Δ, rfl, h⟩
  | x :: xs, acc, Δ, k, h, hs => by
    obtain ⟨y, Δ', e, p⟩ := hs x (by simp) k acc Δ h
    obtain ⟨acc', Δ2, e2, p2⟩ := compM_inv (xs := xs) (k + 1) p fun z hz => hs z (List.mem_cons_of_mem x hz)
    refine ⟨acc', Δ2, ?_, by rw [List.length_cons, show k + (xs.length + 1) = k + 1 + xs.length by omega]; exact p2⟩
    rw [← e2]
    unfold stepC at e
    conv => lhs; unfold compM
    cases q : tgt x (wipeD Δ vs) with
    | none => rw [q] at e; cases e
    | some Δ1 =>
      rw [q] at e
      obtain ⟨b, Δ3, g1, g2⟩ := bind_ok e
      show (cond Δ1).nox.bind _ = _
      rw [g1, bind_ok_]
      cases b with
      | true =>
        rw [if_pos rfl] at g2 ⊢
        obtain ⟨z, Δ4, g3, g4⟩ := bind_ok g2
        rw [g3, bind_ok_]
        injection g4 with g5 g6
        injection g5 with g5
        rw [g6, g5]
      | false =>
        rw [if_neg (by decide)] at g2
        injection g2 with g5 g6
        cases g5
theorem lcM_inv {vs : List Nat} {mi : DEnv → Res (List D)} {tgt : D → DEnv → Option DEnv} {cond : DEnv → Res Bool} {elt : DEnv → Res D} {Δ0 : DEnv} {xs : List D} (P : Nat → List D → DEnv → Prop) (hi : mi Δ0 = .ok xs Δ) (hl : xs.length < 16777216) (hp : (vs.all fun v => plainC Δ[v]?) = true) (h0 : P 0 [] Δ)
    (hs : ∀ x ∈ xs, ∀ k acc Δ, P k acc Δ → ∃ y Δ', stepC vs tgt cond elt x Δ = .ok (some y) Δ' ∧ P (k + 1) (acc ++ [y]) Δ') : ∃ acc' Δ', lcM vs mi tgt cond elt Δ0 = .ok acc' Δ' ∧ P xs.length acc' Δ' := by
  obtain ⟨a, b, e, p⟩ := compM_inv 0 h0 hs
  refine ⟨a, b, ?_, by rw [Nat.zero_add] at p; exact p⟩
  unfold lcM
  rw [hi, bind_ok_, decide_eq_true hl, hp]
  show gd true _ = _
  rw [gd_true_, e]
/-- a walk that keeps a property -/
theorem forM_inv {tgt : D → DEnv → Option DEnv} {body : DEnv → SRes} {P : DEnv → Prop} : ∀ {xs : List D} {Δ : DEnv}, P Δ → (∀ x ∈ xs, ∀ Δ, P Δ → ∃ Δ1 Δ2, tgt x Δ = some Δ1 ∧ body Δ1 = .nx Δ2 ∧ P Δ2) → ∃ Δ', forM tgt body xs Δ = .nx Δ' ∧ P Δ'
  | [], Δ, h, _ => ⟨Δ, rfl, h⟩
  | x :: xs, Δ, h, hs => by
    obtain ⟨Δ1, Δ2, e1, e2, p⟩ := hs x (by simp) Δ h
    obtain ⟨Δ', e3, p3⟩ := forM_inv (xs := xs) p fun z hz => hs z (List.mem_cons_of_mem x hz)
    refine ⟨Δ', ?_, p3⟩
    rw [e_forS, e1]
    show (body Δ1).loop _ = _
    rw [e2, loop_nx, e3]
theorem e_range1M {m : DEnv → Res D} : range1M m Δ = (m Δ).bind rng1 := by rw [range1_]
theorem e_augPutM {f : D → D → Option D} {i : Nat} {mi me : DEnv → Res D} : augPutM f i mi me Δ = match getL Δ i with
  | none => .stuck
  | some _ => (mi Δ).s (aug1 f i me) := nr rfl
theorem e_aug1 {f : D → D → Option D} {i : Nat} {me : DEnv → Res D} {j : Int} : aug1 f i me (.int j) Δ = match getL Δ i with
  | none => .stuck
  | some xs => match atI xs j with
      | none => .stuck
      | some y => (me Δ).s (aug2 f i j y) := by
  unfold aug1
  cases getL Δ i <;> rfl
theorem e_aug2 {f : D → D → Option D} {i : Nat} {j : Int} {y z : D} : aug2 f i j y z Δ = match getL Δ i with
  | none => .stuck
  | some xs => match f y z with
    | none => .stuck
    | some d => putL i xs j d Δ := nr rfl
theorem e_putL {i : Nat} {xs : List D} {j : Int} {d : D} : putL i xs j d Δ = match ixN xs.length j with
  | none => .stuck
  | some n => .nx (setL Δ i (xs.set n d)) := nr rfl
/-! letters -/
abbrev chD (c : Nat) : D := .str ⟨#[c]⟩
theorem ssOf_ch : ∀ cs : List Nat, ssOf (cs.map chD) = some (cs.map fun c => (⟨#[c]⟩ : Str))
  | [] => rfl
  | c :: cs => by
    show (ssOf (cs.map chD)).map _ = _
    rw [ssOf_ch cs]; rfl
theorem signs_S (cs : List Nat) : signs (S cs) = cs.map chD := by unfold signs S; simp
end
end KL
/-! KL, part zb: counting a letter, joining letters. -/
namespace KL
open PySem L2 PySem.Builtin PySem.Builtin.Str
theorem sub_one (cs : List Nat) (c i : Nat) : subAt (S cs) (S [c]) i = decide (cs[i]? = some c) := by
  rw [StrLaws.subAt_eq]
  show (((cs.drop i).take 1) == [c]) = _
  cases q : cs[i]? with
  | none =>
    have : cs.length ≤ i := List.getElem?_eq_none_iff.mp q
    rw [List.drop_of_length_le this]
    simp
  | some d =>
    obtain ⟨h, e⟩ := List.getElem?_eq_some_iff.mp q
    rw [List.drop_eq_getElem_cons h, e]
    by_cases hd : d = c
    · subst hd; simp
    · simp [hd]
theorem cnt_go (cs : List Nat) (c lim : Nat) : ∀ (n a : Nat) (st : Array Nat × Nat), st.2 ≤ a → st.1.size + n ≤ lim → (forIn (List.range' a n) st (StrLaws.occBody (S cs) (S [c]) (S cs).length lim)).run.fst.size = st.1.size + ((cs.drop a).take n).count c
  | 0, a, st, h, h2 => by simp
  | n + 1, a, st, h, h2 => by
    rw [List.range'_succ, List.forIn_cons]
    have hl : (S [c]).length = 1 := by rw [S_len]; rfl
    have hsl : (S cs).length = cs.length := S_len cs
    by_cases hc : cs[a]? = some c
    · obtain ⟨hlt, he⟩ := List.getElem?_eq_some_iff.mp hc
      have eb : StrLaws.occBody (S cs) (S [c]) (S cs).length lim a st = pure (ForInStep.yield (st.fst.push a, a + (S [c]).length)) := by
        unfold StrLaws.occBody
        rw [if_pos ⟨⟨⟨by omega, h⟩, by omega⟩, by rw [sub_one]; exact decide_eq_true hc⟩]
      have ih := cnt_go cs c lim n (a + 1) (st.1.push a, a + (S [c]).length) (by rw [hl]; exact Nat.le_refl _) (by simp; omega)
      rw [eb]
      show (forIn (List.range' (a + 1) n) (st.fst.push a, a + (S [c]).length) (StrLaws.occBody (S cs) (S [c]) (S cs).length lim)).run.fst.size = _
      rw [ih, List.drop_eq_getElem_cons hlt, he, List.take_succ_cons, List.count_cons_self]
      simp; omega
    · have eb : StrLaws.occBody (S cs) (S [c]) (S cs).length lim a st = pure (ForInStep.yield (st.fst, st.snd)) := by
        unfold StrLaws.occBody
        rw [if_neg fun z => hc (by have := z.2; rw [sub_one] at this; exact of_decide_eq_true this)]
      have ih := cnt_go cs c lim n (a + 1) (st.1, st.2) (by show st.2 ≤ a + 1; omega) (by show st.1.size + n ≤ lim; omega)
      rw [eb]
      show (forIn (List.range' (a + 1) n) (st.fst, st.snd) (StrLaws.occBody (S cs) (S [c]) (S cs).length lim)).run.fst.size = _
      rw [ih]
      congr 1
      by_cases hlt : a < cs.length
      · rw [List.drop_eq_getElem_cons hlt, List.take_succ_cons, List.count_cons_of_ne]
        intro e
        exact hc (by rw [List.getElem?_eq_getElem hlt, e])
      · rw [List.drop_of_length_le (by omega), List.drop_of_length_le (by omega)]; simp
theorem count_one (cs : List Nat) (c : Nat) : Txt.count (S cs) (S [c]) = (cs.count c : Nat) := by
  unfold Txt.count
  rw [StrLaws.occ_eq, Array.length_toList, cnt_go cs c _ _ 0 _ (Nat.le_refl _) (by simp), S_len]
  rw [show (#[] : Array Nat).size = 0 by rfl, Nat.zero_add, List.drop_zero, List.take_of_length_le (by omega)]
theorem joinL_ch : ∀ cs : List Nat, TL.joinL [] (cs.map fun c => [c]) = cs
  | [] => rfl
  | [c] => rfl
  | c :: d :: cs => by
    have := joinL_ch (d :: cs)
    show [c] ++ ([] ++ TL.joinL [] ((d :: cs).map fun c => [c])) = _
    rw [this]; rfl
theorem join_ch (cs : List Nat) (h : cs.length ≤ 16777216) : joinD "" (.lst (cs.map chD)) = some (.str (S cs)) := by
  unfold joinD
  simp only [ssOf_ch, Option.bind_some]
  have hs : ((cs.map fun c => (⟨#[c]⟩ : Str)).map (·.length)).sum = cs.length := by
    rw [List.map_map]
    clear h
    induction cs with
    | nil => rfl
    | cons c cs ih => rw [List.map_cons, List.sum_cons, ih, List.length_cons]; show 1 + cs.length = _; omega
  rw [hs, List.length_map]
  have h0 : ("" : Str).length = 0 := rfl
  rw [h0, if_pos (by omega)]
  have e := SX.join_S [] (cs.map fun c => [c])
  rw [List.map_map, joinL_ch] at e
  have e2 : Txt.join ("" : Str) (cs.map fun c => (⟨#[c]⟩ : Str)) = S cs := e
  rw [e2]
end KL
/-! KM, part a: objects: fields read and stored, methods, objects made. -/
namespace KL
open PySem L2
/-! ### classes -/
/-- what is known of classes: ft x: the fields that an object of x may have -/
structure ClsT (K : PySem.W.Frag) (ft : Str → List Str) (x : Str) : Prop where
  ex : ∃ C, PySem.W.nsIn K mainGlobals x = some (some (.ref C)) ∧ Cls K C ∧ ∀ f ∈ ft x, NoAttr K C f
def fldD (ft : Str → List Str) (f : Str) : D → Option D
  | .obj x fs => if f ∈ ft x then fs.lookup f else none
  | _ => none
section
variable {X : Cx} {L : Lx} {W : WX} {σ σ' : L2.St} {Δ Δ' Δ1 : DEnv} {F F' H H' : Hp} {e o : Expr} {es : List Expr} {me m : DEnv → Res D} {x f : Str} {p pos apos : Pos} {i : Nat} {ft : Str → List Str}
theorem look_rep {fvs : List (Str × V)} {fds : List (Str × D)} {d : D} (h1 : fvs.length = fds.length) (h2 : ∀ (i : Nat) p q, fvs[i]? = some p → fds[i]? = some q → p.1 = q.1) (h3 : ∀ (i : Nat) p q, fvs[i]? = some p → fds[i]? = some q → Rep L.K F p.2 q.2)
    (h : fds.lookup f = some d) : ∃ v, fvs.lookup f = some v ∧ Rep L.K F v d := lookup_rep h1 h2 h3 h
theorem look_none : ∀ {fvs : List (Str × V)} {fds : List (Str × D)}, fvs.length = fds.length → (∀ (i : Nat) p q, fvs[i]? = some p → fds[i]? = some q → p.1 = q.1) → fds.lookup f = none → fvs.lookup f = none
  | [], [], _, _, _ => rfl
  | [], _ :: _, h, _, _ => by simp at h
  | _ :: _, [], h, _, _ => by simp at h
  | (a, v) :: r, (b, d) :: s, h1, h2, h => by
    have e : a = b := h2 0 _ _ rfl rfl
    subst e
    rw [List.lookup_cons] at h ⊢
    cases q : f == a with
    | true => rw [q] at h; cases h
    | false =>
      rw [q] at h
      exact look_none (by simpa using h1) (fun i p q a b => h2 (i + 1) p q (by simpa using a) (by simpa using b)) h
/-- e.f of a frozen object -/
theorem d_fld (T : ∀ x, ft x ≠ [] → ClsT L.K ft x) (h : DE X L W e me) (hb : attributeBase e f X.env (eval e X.env) = eval e X.env := by rfl) (hk : L.K = X.K := by rfl) : DE X L W (.Attribute e f pos) (call1 (fldD ft f) me) := by
  obtain ⟨te, p1, s1⟩ := h.ex
  refine ⟨_, pe_fld p1 hb, fun σ Δ F H Q env w => ?_⟩
  refine s1 σ Δ F H _ env (w.bind.mono fun d Δ1 F1 H1 env1 w1 v r => ?_)
  cases d with
  | obj x fs =>
    replace w1 : Want L W σ Δ1 F1 H1 (.opt (if f ∈ ft x then fs.lookup f else none) Δ1) _ := w1
    split at w1
    · rename_i hf
      cases q : fs.lookup f with
      | none => rw [q] at w1; exact w1.elim
      | some d =>
        rw [q] at w1
        cases r with
        | obj h0 h1 h2 h3 h4 =>
          obtain ⟨C, c1, c2, c3⟩ := (T x (fun z => by rw [z] at hf; cases hf)).ex
          rw [c1] at h0
          injection h0 with h0
          injection h0 with h0
          injection h0 with h0
          subst h0
          obtain ⟨v, g1, g2⟩ := look_rep h2 h3 h4 q
          rw [hk] at c2 c3
          exact ⟨_, _, _, _, v, rfl, env1.ex _ _ h1, c2, c3 f hf, g1, w1 F1 H1 env1 .refl v g2⟩
    · exact w1.elim
  | _ => exact w1.elim
/-- a slot's object: frozen, or being made -/
def objOf : Cell → Option (Str × List (Str × D))
  | .va (.obj x fs) => some (x, fs)
  | .owv (.s x fs) => some (x, fs)
  | .pav (.s x fs) => some (x, fs)
  | _ => none
def fldV (ft : Str → List Str) (f : Str) (i : Nat) : DEnv → Res D := fun Δ => .opt ((Δ[i]?).bind fun c => (objOf c).bind fun z => if f ∈ ft z.1 then z.2.lookup f else none) Δ
theorem obj_at {c : Cell} {z : Str × List (Str × D)} (env : EnvOk L F σ Δ H) (hc : Δ[i]? = some c) (h : objOf c = some z) : ∃ a C dx fvs, slot σ i = some (.ref a) ∧ H a = some (.ins C dx fvs) ∧ PySem.W.nsIn L.K mainGlobals z.1 = some (some (.ref C)) ∧ fvs.length = z.2.length ∧
    (∀ (i : Nat) p q, fvs[i]? = some p → z.2[i]? = some q → p.1 = q.1) ∧ (∀ (i : Nat) p q, fvs[i]? = some p → z.2[i]? = some q → Rep L.K F p.2 q.2) := by
  have k := env.cells i c hc
  have own : ∀ x fs, (∃ a u, slot σ i = some (.ref a) ∧ H a = some u ∧ F a = none ∧ OwnOk L.K F u (.s x fs)) → ∃ a C dx fvs, slot σ i = some (.ref a) ∧ H a = some (.ins C dx fvs) ∧ PySem.W.nsIn L.K mainGlobals x = some (some (.ref C)) ∧ fvs.length = fs.length ∧
      (∀ (i : Nat) p q, fvs[i]? = some p → fs[i]? = some q → p.1 = q.1) ∧ (∀ (i : Nat) p q, fvs[i]? = some p → fs[i]? = some q → Rep L.K F p.2 q.2) := by
    rintro x fs ⟨a, u, e1, e2, e3, e4⟩
    cases e4 with
    | s g1 g2 g3 g4 => exact ⟨a, _, _, _, e1, e2, g1, g2, g3, g4⟩
  cases c with
  | no => cases h
  | xc x => cases h
  | va d =>
    cases d with
    | obj x fs =>
      cases h
      obtain ⟨v, e1, e2⟩ := k
      cases e2 with
      | obj h0 h1 h2 h3 h4 => exact ⟨_, _, _, _, e1, env.ex _ _ h1, h0, h2, h3, h4⟩
    | _ => cases h
  | owv o =>
    cases o with
    | s x fs => cases h; exact own _ _ k
    | _ => cases h
  | pav o =>
    cases o with
    | s x fs => cases h; exact own _ _ k
    | _ => cases h
/-- x.f, x a name -/
theorem d_fldV {y : Str} (T : ∀ x, ft x ≠ [] → ClsT L.K ft x) (hN : X.N[i]? = some y) (hv : Vis X.env.scope y) (hd : (y == ("__debug__" : Str)) = false) (hcd : (y == ("__classdict__" : Str)) = false) (hb : attributeBase (.Name y p) f X.env (eval (.Name y p) X.env) = eval (.Name y p) X.env := by rfl) (hk : L.K = X.K := by rfl) :
    DE X L W (.Attribute (.Name y p) f pos) (fldV ft f i) := by
  refine ⟨_, pe_fld (pe_var hN hv hd hcd) hb, fun σ Δ F H Q env w => ?_⟩
  unfold fldV at w
  cases q : (Δ[i]? : Option Cell) with
  | none => rw [q] at w; exact w.elim
  | some c =>
    rw [q] at w
    cases q2 : objOf c with
    | none => rw [Option.bind_some, q2] at w; exact w.elim
    | some z =>
      rw [Option.bind_some, q2, Option.bind_some] at w
      obtain ⟨a, C, dx, fvs, e1, e2, e3, e4, e5, e6⟩ := obj_at env q q2
      split at w
      · rename_i hf
        cases q3 : z.2.lookup f with
        | none => rw [q3] at w; exact w.elim
        | some d =>
          rw [q3] at w
          obtain ⟨C', c1, c2, c3⟩ := (T z.1 (fun y => by rw [y] at hf; cases hf)).ex
          rw [c1] at e3
          injection e3 with e3
          injection e3 with e3
          injection e3 with e3
          subst e3
          obtain ⟨v, g1, g2⟩ := look_rep e4 e5 e6 q3
          rw [hk] at c2 c3
          exact ⟨_, slot_some e1, a, _, _, _, v, rfl, e2, c2, c3 f hf, g1, w F H env .refl v g2⟩
      · exact w.elim
/-! ### a field stored -/
def putFD (f : Str) (d : D) : List (Str × D) → List (Str × D)
  | [] => [(f, d)]
  | (g, x) :: r => if g = f then (g, d) :: r else (g, x) :: putFD f d r
theorem putF_rep {v : V} {d : D} (hv : Rep L.K F v d) : ∀ {fvs : List (Str × V)} {fds : List (Str × D)}, fvs.length = fds.length → (∀ (i : Nat) p q, fvs[i]? = some p → fds[i]? = some q → p.1 = q.1) → (∀ (i : Nat) p q, fvs[i]? = some p → fds[i]? = some q → Rep L.K F p.2 q.2) →
    (putF f v fvs).length = (putFD f d fds).length ∧ (∀ (i : Nat) p q, (putF f v fvs)[i]? = some p → (putFD f d fds)[i]? = some q → p.1 = q.1) ∧ (∀ (i : Nat) p q, (putF f v fvs)[i]? = some p → (putFD f d fds)[i]? = some q → Rep L.K F p.2 q.2)
  | [], [], _, _, _ => by
    refine ⟨rfl, fun i p q h1 h2 => ?_, fun i p q h1 h2 => ?_⟩
    · cases i with
      | zero => cases h1; cases h2; rfl
      | succ i => simp [putF] at h1
    · cases i with
      | zero => cases h1; cases h2; exact hv
      | succ i => simp [putF] at h1
  | [], _ :: _, h, _, _ => by simp at h
  | _ :: _, [], h, _, _ => by simp at h
  | (g, y) :: r, (g', y') :: s, h1, h2, h3 => by
    have e : g = g' := h2 0 _ _ rfl rfl
    subst e
    have t1 : ∀ (i : Nat) p q, r[i]? = some p → s[i]? = some q → p.1 = q.1 := fun i p q a b => h2 (i + 1) p q (by simpa using a) (by simpa using b)
    have t2 : ∀ (i : Nat) p q, r[i]? = some p → s[i]? = some q → Rep L.K F p.2 q.2 := fun i p q a b => h3 (i + 1) p q (by simpa using a) (by simpa using b)
    have tl : r.length = s.length := by simpa using h1
    unfold putF putFD
    by_cases hg : g = f
    · rw [if_pos hg, if_pos hg]
      refine ⟨by simp [tl], fun i p q a b => ?_, fun i p q a b => ?_⟩
      · cases i with
        | zero => cases a; cases b; rfl
        | succ i => exact t1 i p q (by simpa using a) (by simpa using b)
      · cases i with
        | zero => cases a; cases b; exact hv
        | succ i => exact t2 i p q (by simpa using a) (by simpa using b)
    · rw [if_neg hg, if_neg hg]
      obtain ⟨i1, i2, i3⟩ := putF_rep hv tl t1 t2
      refine ⟨by simp [i1], fun i p q a b => ?_, fun i p q a b => ?_⟩
      · cases i with
        | zero => cases a; cases b; rfl
        | succ i => exact i2 i p q (by simpa using a) (by simpa using b)
      · cases i with
        | zero => cases a; cases b; exact h3 0 _ _ rfl rfl
        | succ i => exact i3 i p q (by simpa using a) (by simpa using b)
/-- the own object in a slot -/
def getS (Δ : DEnv) (i : Nat) : Option (Str × List (Str × D)) := match (Δ[i]? : Option Cell) with
  | some (.owv (.s x fs)) => some (x, fs)
  | some (.pav (.s x fs)) => some (x, fs)
  | _ => none
theorem getS_cell {z : Str × List (Str × D)} (h : getS Δ i = some z) : ∃ c, Δ[i]? = some c ∧ c.own? = some (.s z.1 z.2) ∧ objOf c = some z := by
  unfold getS at h
  split at h
  · rename_i q; cases h; exact ⟨_, q, rfl, rfl⟩
  · rename_i q; cases h; exact ⟨_, q, rfl, rfl⟩
  · cases h
def fldPutM (ft : Str → List Str) (f : Str) (i : Nat) (m : DEnv → Res D) : DEnv → SRes := fun Δ => (m Δ).s fun d Δ1 => match getS Δ1 i with
  | some z => if f ∈ ft z.1 ∧ z.2.length < 1000 then .nx (setW Δ1 i (.s z.1 (putFD f d z.2))) else .stuck
  | none => .stuck
theorem s_fld {y : Str} {q : Pos} (T : ∀ x, ft x ≠ [] → ClsT L.K ft x) (hN : X.N[i]? = some y) (hv : Vis X.env.scope y) (hd : (y == ("__debug__" : Str)) = false) (hcd : (y == ("__classdict__" : Str)) = false) (h : DE X L W e me)
    (hs : swapsWith e (some (.Attribute (.Name y p) f q)) pos.line X.env = pure false := by rfl) (hk : L.K = X.K := by rfl) : DS X L W (.Assign [.Attribute (.Name y p) f q] e pos) (fldPutM ft f i me) := by
  obtain ⟨te, p1, s1⟩ := h.ex
  refine ⟨_, ps_fld (pe_var hN hv hd hcd) p1 hs, fun σ Δ F H E env w => ?_⟩
  replace w : WantS L W σ Δ F H ((me Δ).s fun d Δ1 => match getS Δ1 i with | some z => if f ∈ ft z.1 ∧ z.2.length < 1000 then .nx (setW Δ1 i (.s z.1 (putFD f d z.2))) else .stuck | none => .stuck) E := w
  refine s1 σ Δ F H _ env ((Want.ofS w).mono fun d Δ1 F1 H1 env1 w1 v rv => ?_)
  cases q1 : getS Δ1 i with
  | none => rw [q1] at w1; exact w1.elim
  | some z =>
    rw [q1] at w1
    obtain ⟨c, g1, g2, g3⟩ := getS_cell q1
    replace w1 : WantS L W σ Δ1 F1 H1 (if f ∈ ft z.1 ∧ z.2.length < 1000 then .nx (setW Δ1 i (.s z.1 (putFD f d z.2))) else .stuck) E := w1
    split at w1
    · rename_i hf
      obtain ⟨a, u, f1, f2, f3, f4⟩ := (env1.cells i c g1).own g2
      obtain ⟨a', C, dx, fvs, e1, e2, e3, e4, e5, e6⟩ := obj_at env1 g1 g3
      rw [f1] at e1
      cases e1
      rw [f2] at e2
      cases e2
      obtain ⟨C', c1, c2, c3⟩ := (T z.1 (fun y => by rw [y] at hf; cases hf.1)).ex
      have e3' := e3
      rw [c1] at e3'
      injection e3' with e3'
      injection e3' with e3'
      injection e3' with e3'
      subst e3'
      obtain ⟨r1, r2, r3⟩ := putF_rep (f := f) rv e4 e5 e6
      rw [hk] at c2 c3
      obtain ⟨env2, st2⟩ := env1.mutW (w := .s z.1 (putFD f d z.2)) (u := .ins _ dx (putF f v fvs)) g1 g2 f1 f2 f3 (.s e3 r1 r2 r3)
      exact ⟨_, slot_some f1, a, _, dx, fvs, rfl, f2, c2, c3 f hf.1, by rw [e4]; exact hf.2, w1 σ F1 _ env2 st2⟩
    · exact w1.elim
end
end KL
/-! KM, part b: methods called, objects made. -/
namespace KL
open PySem L2
/-! ### methods -/
def tRecv (C : Addr) (m : Str) (ta : TE) (t : TA) : TA := fun σ H Q => ta σ H fun x H1 => ∃ a dx fs, x = .ref a ∧ H1 a = some (.ins C dx fs) ∧ fs.lookup m = none ∧ t σ H1 fun vs H2 => Q (x :: vs) H2
section
variable {X : Cx} {CX : CXT} {k : Nat} {f C : Addr} {fd : FuncData} {ps : List Str} {sp : Sp} {E : L2.St → XK} {x m : Str} {p pos apos : Pos} {e o : Expr} {es : List Expr} {ta : TE} {t : TA}
theorem pe_recv {pl : Sem Bool} (he : PE X o ta) (c : Cls X.K C) (hm : Meth X.K C m f) (Fo : FnOk X.prog X.w X.K X.mg X.base CX k f fd ps sp) (hr : Room k X.A) (hb : Binds X.K fd ps []) (hx : ∀ σ, PassesAt CX X σ (E σ)) (ha : PA X (e :: es) t)
    (hst : starEach (e :: es) X.env = (false, eval e X.env) :: starEach es X.env) (hpl : (backTo pos (starEach es X.env)).any (·.1) = false)
    (ht : eval (.Call (.Attribute o m apos) (e :: es) [] pos) X.env = (eval o X.env >>= fun ov => standAt apos.atName >>= fun _ => holding [ov] (getMethod ov m pl) >>= fun q => callWith pos q.1 q.2 (backTo pos (starEach (e :: es) X.env)) (backToKw pos (keywordEach [] X.env)))) :
    PE X (.Call (.Attribute o m apos) (e :: es) [] pos) (tCallS sp E (tRecv C m ta t)) := by
  constructor
  intro pins s σ H Q I h
  have h' : ta σ H fun x H1 => ∃ a dx fs, x = .ref a ∧ H1 a = some (.ins C dx fs) ∧ fs.lookup m = none ∧ t σ H1 fun vs H2 => sp (x :: vs) H2 Q (E σ) := h
  refine PySem.W.methodCall_KW (pl := pl) (thn (he.run pins s σ H _ I h') fun u s1 z => ?_) ht
  obtain ⟨y, H1, I1, rx, a, dx, fs, ex, ea, l, q⟩ := z
  subst ex
  have hu : u = Value.ref a := rx
  subst hu
  refine getmeth_ok I1 ea c hm l (PySem.W.callWith_K (first := [.ref a]) (h₀ := X.base) I.ok.mod.kin hm.kp ?_ hst hpl)
  exact thn (ha.run pos pins s1 σ H1 _ I1 q) fun us s2 z => by
    obtain ⟨vs, H2, I2, r, q2⟩ := z
    exact ⟨I2.kIn, run_fnS (us := .ref a :: us) (vs := .ref a :: vs) Fo hr hb (hx σ) I2 (.cons rfl r) q2⟩
theorem pe_recv0 {pl : Sem Bool} (he : PE X o ta) (c : Cls X.K C) (hm : Meth X.K C m f) (Fo : FnOk X.prog X.w X.K X.mg X.base CX k f fd ps sp) (hr : Room k X.A) (hb : Binds X.K fd ps []) (hx : ∀ σ, PassesAt CX X σ (E σ))
    (ht : eval (.Call (.Attribute o m apos) [] [] pos) X.env = (eval o X.env >>= fun ov => standAt apos.atName >>= fun _ => holding [ov] (getMethod ov m pl) >>= fun q => callWith pos q.1 q.2 (backTo pos (starEach [] X.env)) (backToKw pos (keywordEach [] X.env)))) :
    PE X (.Call (.Attribute o m apos) [] [] pos) (tCallS sp E (tRecv C m ta tNil)) := by
  constructor
  intro pins s σ H Q I h
  have h' : ta σ H fun x H1 => ∃ a dx fs, x = .ref a ∧ H1 a = some (.ins C dx fs) ∧ fs.lookup m = none ∧ tNil σ H1 fun vs H2 => sp (x :: vs) H2 Q (E σ) := h
  refine PySem.W.methodCall_KW (pl := pl) (thn (he.run pins s σ H _ I h') fun u s1 z => ?_) ht
  obtain ⟨y, H1, I1, rx, a, dx, fs, ex, ea, l, q⟩ := z
  subst ex
  have hu : u = Value.ref a := rx
  subst hu
  exact getmeth_ok I1 ea c hm l (PySem.W.callWith_K0 (first := [.ref a]) I1.kIn hm.kp (run_fnS (us := [.ref a]) (vs := [.ref a]) Fo hr hb (hx σ) I1 (.cons rfl .nil) q))
end
def DnM (K : PySem.W.Frag) (x qual : Str) (st : Stmt) (f : Addr) (ps : List Str) : Prop := ∃ fd, Fun K x qual st f fd ∧ Binds K fd ps []
section
variable {P : Program} {w : World} {K : PySem.W.Frag} {mg : Str → Option Value} {base : Heap} {L : Lx}
theorem cal_bodyM {x qual : Str} {st : Stmt} {f : Addr} {N ps : List Str} {k : Nat} {ms : DEnv → SRes} (D : DnM K x qual st f ps) (S : FnScope N ps (defScope st))
    (hb : ∀ (cdv : Value) (A : Around) (outer : List PySem.Env) (s : Shared) (H : Hp) (E : XK), Room k (A.deeper (PyProof.Rows.envOfC qual (defScope st) s.heap.objs.size f cdv)) →
      Takes (cxOf (L2.CX P w) P w K mg base N qual (defScope st) f cdv A outer s H E) (fun cls d _ H => E cls d H) →
      DSs (cxOf (L2.CX P w) P w K mg base N qual (defScope st) f cdv A outer s H E) L (fun cls d _ H => E cls d H) (defBody st) ms) :
    Cal P w K mg base L f (k + 1) ps (bodyF ps.length N.length ms) := by
  obtain ⟨fd, F, b⟩ := D
  exact ⟨⟨fd, b, fn_body F S hb⟩, F.kp⟩
end
/-- the method m of x is at f -/
structure MethT (K : PySem.W.Frag) (x m : Str) (f : Addr) : Prop where
  ex : ∃ C, PySem.W.nsIn K mainGlobals x = some (some (.ref C)) ∧ Cls K C ∧ Meth K C m f
def recvM (x m : Str) (mo : DEnv → Res D) (r : DEnv → Res (List Arg)) : DEnv → Res (List Arg) := fun Δ => (mo Δ).bind fun d Δ1 => match d with
  | .obj y fs => if y = x ∧ fs.lookup m = none then (r Δ1).map (Sum.inl (.obj y fs) :: ·) else .stuck
  | _ => .stuck
section
variable {X : Cx} {L : Lx} {W : WX} {σ σ' : L2.St} {Δ Δ' Δ1 : DEnv} {F F' H H' : Hp} {e o : Expr} {es : List Expr} {mo : DEnv → Res D} {r : DEnv → Res (List Arg)} {x m y : Str} {p pos apos : Pos} {i j k : Nat} {f : Addr} {ps : List Str} {mf : DEnv → FRes}
theorem snd_recv {ta : TE} {t : TA} {C : Addr} (hC : PySem.W.nsIn L.K mainGlobals x = some (some (.ref C))) (h1 : Snd L W ta mo) (h2 : SndC L W t r) : SndC L W (tRecv C m ta t) (recvM x m mo r) := by
  intro σ Δ F H Q env w
  refine h1 σ Δ F H _ env ?_
  replace w : Want L W σ Δ F H ((mo Δ).bind fun d Δ1 => match d with | .obj y fs => if y = x ∧ fs.lookup m = none then (r Δ1).map (Sum.inl (.obj y fs) :: ·) else .stuck | _ => .stuck) _ := w
  refine w.bind.mono fun d Δ1 F1 H1 env1 w1 v rv => ?_
  cases d with
  | obj y fs =>
    replace w1 : Want L W σ Δ1 F1 H1 (if y = x ∧ fs.lookup m = none then (r Δ1).map (Sum.inl (.obj y fs) :: ·) else .stuck) _ := w1
    split at w1
    · rename_i hc
      obtain ⟨rfl, hn⟩ := hc
      have rv' := rv
      cases rv with
      | obj g0 g1 g2 g3 g4 =>
        rw [hC] at g0
        injection g0 with g0
        injection g0 with g0
        injection g0 with g0
        subst g0
        refine ⟨_, _, _, rfl, env1.ex _ _ g1, look_none g2 g3 hn, h2 σ Δ1 F1 H1 _ env1 ?_⟩
        cases q : r Δ1 with
        | stuck => rw [q] at w1; exact w1
        | ex x Δ' => rw [q] at w1; exact w1
        | ok zs Δ2 =>
          rw [q] at w1
          intro F2 H2 env2 st2 vs rs
          exact w1 F2 H2 env2 st2 _ (argsOk_cons (z := .inl (.obj y fs)) (rv'.mono st2.fr) rs)
    · exact w1.elim
  | _ => exact w1.elim
theorem recv_len {n : Nat} (h : ∀ Δ zs Δ1, r Δ = .ok zs Δ1 → zs.length = n) {Δ Δ1 : DEnv} {zs : List Arg} (hz : recvM x m mo r Δ = .ok zs Δ1) : zs.length = n + 1 := by
  unfold recvM at hz
  cases q : mo Δ with
  | stuck => rw [q] at hz; cases hz
  | ex x Δ' => rw [q] at hz; cases hz
  | ok d Δ2 =>
    rw [q] at hz
    cases d with
    | obj y fs =>
      replace hz : (if y = x ∧ fs.lookup m = none then (r Δ2).map (Sum.inl (.obj y fs) :: ·) else .stuck) = .ok zs Δ1 := hz
      split at hz
      · cases q2 : r Δ2 with
        | stuck => rw [q2] at hz; cases hz
        | ex x Δ' => rw [q2] at hz; cases hz
        | ok ys Δ3 => rw [q2] at hz; cases hz; exact congrArg (· + 1) (h _ _ _ q2)
      · cases hz
    | _ => cases hz
theorem d_meth {pl : Sem Bool} (T : MethT X.K x m f) (C : Cal X.prog X.w X.K X.mg X.base L f j ps mf) (hr : Room k X.A) (hj : j ≤ k) (tk : Takes X W) (ho : DE X L W o mo) (ha : DC X L W (e :: es) r) (hl : (e :: es).length + 1 = ps.length)
    (hst : starEach (e :: es) X.env = (false, eval e X.env) :: starEach es X.env := by rfl) (hpl : (backTo pos (starEach es X.env)).any (·.1) = false := by rfl)
    (ht : eval (.Call (.Attribute o m apos) (e :: es) [] pos) X.env = (eval o X.env >>= fun ov => standAt apos.atName >>= fun _ => holding [ov] (getMethod ov m pl) >>= fun q => callWith pos q.1 q.2 (backTo pos (starEach (e :: es) X.env)) (backToKw pos (keywordEach [] X.env))) := by rfl)
    (hk : L.K = X.K := by rfl) : DE X L W (.Call (.Attribute o m apos) (e :: es) [] pos) (callM mf (recvM x m mo r)) := by
  obtain ⟨fd, b, Fo⟩ := C.ex
  obtain ⟨c, t1, t2, t3⟩ := T.ex
  obtain ⟨_, p1, s1⟩ := ho.ex
  obtain ⟨_, p2, s2⟩ := ha.ex
  rw [← hk] at t1
  exact ⟨_, pe_recv p1 t2 t3 Fo (hr.mono hj) b (fun σ => passAt tk σ) p2 hst hpl ht, snd_call (fun zs Δ Δ1 h => (recv_len ha.ln h).trans hl) (snd_recv t1 s1 s2)⟩
theorem d_methF {pl : Sem Bool} (T : MethT X.K x m f) (C : Cal X.prog X.w X.K X.mg X.base L f j ps mf) (hr : Room k X.A) (hj : j ≤ k) (tk : Takes X W) (ho : DE X L W o mo) (ha : DC X L W (e :: es) r) (hl : (e :: es).length + 1 = ps.length)
    (hst : starEach (e :: es) X.env = (false, eval e X.env) :: starEach es X.env := by rfl) (hpl : (backTo pos (starEach es X.env)).any (·.1) = false := by rfl)
    (ht : eval (.Call (.Attribute o m apos) (e :: es) [] pos) X.env = (eval o X.env >>= fun ov => standAt apos.atName >>= fun _ => holding [ov] (getMethod ov m pl) >>= fun q => callWith pos q.1 q.2 (backTo pos (starEach (e :: es) X.env)) (backToKw pos (keywordEach [] X.env))) := by rfl)
    (hk : L.K = X.K := by rfl) : DF X L W (.Call (.Attribute o m apos) (e :: es) [] pos) (callF mf (recvM x m mo r)) := by
  obtain ⟨fd, b, Fo⟩ := C.ex
  obtain ⟨c, t1, t2, t3⟩ := T.ex
  obtain ⟨_, p1, s1⟩ := ho.ex
  obtain ⟨_, p2, s2⟩ := ha.ex
  rw [← hk] at t1
  exact ⟨_, pe_recv p1 t2 t3 Fo (hr.mono hj) b (fun σ => passAt tk σ) p2 hst hpl ht, snd_callF (fun zs Δ Δ1 h => (recv_len ha.ln h).trans hl) (snd_recv t1 s1 s2)⟩
theorem d_meth0 {pl : Sem Bool} (T : MethT X.K x m f) (C : Cal X.prog X.w X.K X.mg X.base L f j ps mf) (hr : Room k X.A) (hj : j ≤ k) (tk : Takes X W) (ho : DE X L W o mo) (hl : 1 = ps.length)
    (ht : eval (.Call (.Attribute o m apos) [] [] pos) X.env = (eval o X.env >>= fun ov => standAt apos.atName >>= fun _ => holding [ov] (getMethod ov m pl) >>= fun q => callWith pos q.1 q.2 (backTo pos (starEach [] X.env)) (backToKw pos (keywordEach [] X.env))) := by rfl)
    (hk : L.K = X.K := by rfl) : DE X L W (.Call (.Attribute o m apos) [] [] pos) (callM mf (recvM x m mo (fun Δ => .ok [] Δ))) := by
  obtain ⟨fd, b, Fo⟩ := C.ex
  obtain ⟨c, t1, t2, t3⟩ := T.ex
  obtain ⟨_, p1, s1⟩ := ho.ex
  rw [← hk] at t1
  exact ⟨_, pe_recv0 p1 t2 t3 Fo (hr.mono hj) b (fun σ => passAt tk σ) ht, snd_call (fun zs Δ Δ1 h => (recv_len (n := 0) (fun Δ zs Δ1 h => by cases h; rfl) h).trans hl)
    (snd_recv t1 s1 fun σ Δ F H Q env w => w F H env .refl [] ⟨rfl, fun k v z h => by simp at h⟩)⟩
end
end KL
/-! KM, part c: objects made. -/
namespace KL
open PySem L2
def tMakeS (C : Addr) (sp : Sp) (E : L2.St → XK) (t : TA) : TE := fun σ H Q => t σ H fun vs H1 => ∀ x dx, H1 x = none → H1 dx = none → dx ≠ x → sp (.ref x :: vs) (upd (upd H1 dx (.own x)) x (.ins C dx [])) (fun v H2 => v = .non ∧ Q (.ref x) H2) (E σ)
section
variable {X : Cx} {k : Nat} {f C : Addr} {fd : FuncData} {ps : List Str} {sp : Sp} {W : WX} {x : Str} {p pos : Pos} {e : Expr} {es : List Expr} {t : TA}
theorem run_mkS {pins : List (Addr × Obj)} {σ : L2.St} {H : Hp} {s : Shared} {Q : VK} {us : List Value} {vs : List V} (M : Mk X.K C f) (Fo : FnOk X.prog X.w X.K X.mg X.base (L2.CX X.prog X.w) k f fd ps sp) (hr : Room (k + 1) X.A) (hb : Binds X.K fd ps []) (tk : Takes X W)
    (I : Inv X pins σ H s) (r : Vals vs us)
    (h : ∀ x dx, H x = none → H dx = none → dx ≠ x → sp (.ref x :: vs) (upd (upd H dx (.own x)) x (.ins C dx [])) (fun v H2 => v = .non ∧ Q (.ref x) H2) (WE W σ)) :
    wpAny (model X.prog X.w) X.A (call (.ref C) us) (EP X pins σ Q) X.xe s := by
  have at_ := h (s.heap.objs.size + 1) s.heap.objs.size (I.hok.fresh (Nat.le_succ _)) (I.hok.fresh (Nat.le_refl _)) (Nat.ne_of_lt (Nat.lt_succ_self _))
  have made := Inv.made (C := C) I
  have vals : Vals (V.ref (s.heap.objs.size + 1) :: vs) (Value.ref (s.heap.objs.size + 1) :: us) := .cons rfl r
  have len : (Value.ref (s.heap.objs.size + 1) :: us).length = ps.length := by rw [← vals.length]; exact Fo.len _ _ _ _ at_
  have bind := hb _ (Value.ref (s.heap.objs.size + 1) :: us) made.kIn (by rw [List.append_nil]; exact len)
  rw [List.append_nil] at bind
  refine wpAny_call (make_map (f := f) I.kIn M.makes M.init (beq_iff_eq.mp M.fn) (codeAny_mono (Fo.run _ X.stack _ _ ⟨Value.ref (s.heap.objs.size + 1) :: us, []⟩ _ _ _ (WE W σ) (hr.make C us []) (made.env0.make C us []) bind vals at_) fun r s' got => ?_))
  cases r with
  | error e => exact passAt tk σ pins _ _ e s' made got
  | ok fl =>
    cases fl with
    | ret u =>
      obtain ⟨v, H', I3, rv, ev, q3⟩ := made.after got
      subst ev
      exact ⟨rv, V.ref (s.heap.objs.size + 1), H', I3, rfl, q3⟩
    | next => exact got.elim
    | brk => exact got.elim
    | cont => exact got.elim
theorem pe_mkS (M : Mk X.K C f) (Fo : FnOk X.prog X.w X.K X.mg X.base (L2.CX X.prog X.w) k f fd ps sp) (hr : Room (k + 1) X.A) (hg : Gl X x) (hm : X.mg x = some (.ref C)) (hb : Binds X.K fd ps []) (tk : Takes X W) (ha : PA X (e :: es) t)
    (hdb : (x == ("__debug__" : Str)) = false) (he : starEach (e :: es) X.env = (false, eval e X.env) :: starEach es X.env) (hpl : (backTo pos (starEach es X.env)).any (·.1) = false) : PE X (.Call (.Name x p) (e :: es) [] pos) (tMakeS C sp (WE W) t) := by
  constructor
  intro pins s σ H Q I h
  refine wpAny_Call_Name_kw (ld_glob I hg hm (PySem.W.callWith_K (h₀ := X.base) I.ok.mod.kin M.kp ?_ he hpl) hdb)
  exact thn (ha.run pos pins s σ H _ I h) fun us s1 z => by
    obtain ⟨vs, H1, I1, r, q⟩ := z
    exact ⟨I1.kIn, run_mkS M Fo hr hb tk I1 r q⟩
end
/-! ### frames by one slot longer -/
section
variable {L : Lx} {W : WX} {σ : L2.St} {Δ Δ' : DEnv} {F F' H H' : Hp} {v : Option V} {c c' : Cell}
theorem slot_app {i : Nat} (h : i < σ.length) : slot (σ ++ [v]) i = slot σ i := by unfold slot; rw [List.getElem?_append_left h]
theorem slot_last : slot (σ ++ [v]) σ.length = v := by
  unfold slot
  rw [List.getElem?_append_right (Nat.le_refl _), Nat.sub_self]
  cases v <;> rfl
theorem app_at {i : Nat} (h : i < Δ.length) : (Δ ++ [c])[i]? = Δ[i]? := List.getElem?_append_left h
theorem app_end : (Δ ++ [c])[Δ.length]? = some c := by rw [List.getElem?_append_right (Nat.le_refl _), Nat.sub_self]; rfl
theorem app_inv {i : Nat} {d : Cell} (h : (Δ ++ [c])[i]? = some d) : (i < Δ.length ∧ Δ[i]? = some d) ∨ (i = Δ.length ∧ d = c) := by
  by_cases hi : i < Δ.length
  · exact .inl ⟨hi, by rw [app_at hi] at h; exact h⟩
  · have hl := (List.getElem?_eq_some_iff.mp h).1
    rw [List.length_append] at hl
    have : i = Δ.length := by simp at hl; omega
    subst this
    rw [app_end] at h
    cases h
    exact .inr ⟨rfl, rfl⟩
theorem pre_env (env : EnvOk L F (σ ++ [v]) (Δ ++ [c]) H) : EnvOk L F σ Δ H := by
  have hl : σ.length = Δ.length := by have := env.len; simpa using this
  refine ⟨env.ex, hl, fun i d h => ?_, fun i j c1 c2 xs ys a hij hi hj h1 h2 e1 => ?_⟩
  · have hi := (List.getElem?_eq_some_iff.mp h).1
    have := env.cells i d (by rw [app_at hi]; exact h)
    rw [slot_app (by omega)] at this
    exact this
  · have li := (List.getElem?_eq_some_iff.mp hi).1
    have lj := (List.getElem?_eq_some_iff.mp hj).1
    have := env.apart i j c1 c2 xs ys a hij (by rw [app_at li]; exact hi) (by rw [app_at lj]; exact hj) h1 h2 (by rw [slot_app (by omega)]; exact e1)
    rw [slot_app (by omega)] at this
    exact this
theorem own_app {b : Addr} (hl : σ.length = Δ.length) (h : Own σ Δ b) : Own (σ ++ [v]) (Δ ++ [c]) b := by
  obtain ⟨i, d, w, h1, h2, h3⟩ := h
  have hi := (List.getElem?_eq_some_iff.mp h1).1
  exact ⟨i, d, w, by rw [app_at hi]; exact h1, h2, by rw [slot_app (by omega)]; exact h3⟩
theorem own_inv {b : Addr} (hl : σ.length = Δ.length) (h : Own (σ ++ [v]) (Δ ++ [c]) b) : Own σ Δ b ∨ v = some (.ref b) := by
  obtain ⟨i, d, w, h1, h2, h3⟩ := h
  rcases app_inv h1 with ⟨hi, e⟩ | ⟨rfl, rfl⟩
  · exact .inl ⟨i, d, w, e, h2, by rw [slot_app (by omega)] at h3; exact h3⟩
  · rw [← hl, slot_last] at h3; exact .inr h3
/-- a new object in one more slot -/
theorem new_env {x dx C : Addr} {n : Str} (env : EnvOk L F σ Δ H) (hx : H x = none) (hd : H dx = none) (hne : dx ≠ x) (hC : PySem.W.nsIn L.K mainGlobals n = some (some (.ref C))) :
    EnvOk L F (σ ++ [some (.ref x)]) (Δ ++ [.owv (.s n [])]) (upd (upd H dx (.own x)) x (.ins C dx [])) ∧ Step σ Δ F H σ Δ F (upd (upd H dx (.own x)) x (.ins C dx [])) := by
  have up : ∀ b o, H b = some o → upd (upd H dx (.own x)) x (.ins C dx []) b = some o := fun b o h => by rw [upd_ne (ne_of_none h hx), upd_ne (ne_of_none h hd)]; exact h
  have env1 : EnvOk L F σ Δ (upd (upd H dx (.own x)) x (.ins C dx [])) := env.grow up (Ex.refl F) (fun b o h => up b o (env.ex b o h)) fun b o h => .inl h
  have hl := env.len
  have fx : F x = none := env.ex.none hx
  refine ⟨⟨env1.ex, by rw [List.length_append, List.length_append, hl]; rfl, fun i d h => ?_, fun i j c1 c2 xs ys a hij hi hj h1 h2 e1 e2 => ?_⟩, Step.grow up (Ex.refl F) fun b o h => .inl h⟩
  · rcases app_inv h with ⟨hi, e⟩ | ⟨rfl, rfl⟩
    · rw [slot_app (by omega)]; exact env1.cells i d e
    · rw [← hl, slot_last]
      exact ⟨x, _, rfl, upd_same, fx, .s hC rfl (fun i p q h => by simp at h) fun i p q h => by simp at h⟩
  · have key : ∀ (i : Nat) d w, Δ[i]? = some d → d.own? = some w → slot σ i = some (.ref a) → a ≠ x := fun i d w h1 h2 h3 => by
      obtain ⟨u, g, _⟩ := env.own ⟨i, d, w, h1, h2, h3⟩
      exact ne_of_none g hx
    rcases app_inv hi with ⟨li, ei⟩ | ⟨rfl, rfl⟩
    · rw [slot_app (by omega)] at e1
      rcases app_inv hj with ⟨lj, ej⟩ | ⟨rfl, rfl⟩
      · rw [slot_app (by omega)] at e2
        exact env.apart i j c1 c2 xs ys a hij ei ej h1 h2 e1 e2
      · rw [← hl, slot_last] at e2
        cases e2
        exact key i c1 xs ei h1 e1 rfl
    · rw [← hl, slot_last] at e1
      cases e1
      rcases app_inv hj with ⟨lj, ej⟩ | ⟨rfl, rfl⟩
      · rw [slot_app (by omega)] at e2
        exact key j c2 ys ej h2 e2 rfl
      · exact hij rfl
/-- an own thing becomes data -/
theorem EnvOk.freezeO {i : Nat} {w : OwnV} {a : Addr} {u : HO} {d : D} (env : EnvOk L F σ Δ H) (h : Δ[i]? = some c) (hw : c.own? = some w) (e1 : slot σ i = some (.ref a)) (e2 : H a = some u) (e3 : F a = none) (hr : Rep L.K (upd F a u) (.ref a) d) :
    EnvOk L (upd F a u) σ (Δ.set i (.va d)) H := by
  have exF : Ex F (upd F a u) := Ex.new e3
  refine ⟨fun b o e => ?_, by rw [List.length_set]; exact env.len, fun j cj hc => ?_, fun j k c1 c2 ys zs b hjk hj hk hl hl' e => ?_⟩
  · by_cases hb : b = a
    · subst hb; rw [upd_same] at e; rw [← e]; exact e2
    · rw [upd_ne hb] at e; exact env.ex b o e
  · rcases list_set_get hc with ⟨rfl, rfl⟩ | ⟨hj, hc⟩
    · exact ⟨_, e1, hr⟩
    · have k := env.cells j cj hc
      have ownj : ∀ ys, cj.own? = some ys → (∃ b u, slot σ j = some (.ref b) ∧ H b = some u ∧ F b = none ∧ OwnOk L.K F u ys) → ∃ b u', slot σ j = some (.ref b) ∧ H b = some u' ∧ upd F a u b = none ∧ OwnOk L.K (upd F a u) u' ys := by
        rintro ys hl ⟨b, ws, g1, g2, g3, g4⟩
        refine ⟨b, ws, g1, g2, ?_, g4.mono exF⟩
        have : b ≠ a := fun z => env.apart i j c cj w ys a (Ne.symm hj) h hc hw hl e1 (by rw [← z]; exact g1)
        rw [upd_ne this]; exact g3
      cases cj with
      | no => trivial
      | va d => obtain ⟨v, g1, g2⟩ := k; exact ⟨v, g1, g2.mono exF⟩
      | owv ys => exact ownj ys rfl k
      | pav ys => exact ownj ys rfl k
      | xc x => obtain ⟨b, c, dd, g1, g2, g3⟩ := k; exact ⟨b, c, dd, g1, g2, g3.mono exF⟩
  · rcases list_set_get hj with ⟨rfl, rfl⟩ | ⟨nj, hj⟩
    · cases hl
    · rcases list_set_get hk with ⟨rfl, rfl⟩ | ⟨nk, hk⟩
      · cases hl'
      · exact env.apart j k c1 c2 ys zs b hjk hj hk hl hl' e
end
end KL
/-! KM, part d: the reading of an object's making. -/
namespace KL
open PySem L2
def makeE (zs : List Arg) (Δ : DEnv) : FRes → Res D
  | .ok .non (.pav (.s y fs) :: cs) => .ok (.obj y fs) (backD zs cs Δ)
  | .ex e (_ :: cs) => .ex e (backD zs cs Δ)
  | _ => .stuck
def makeM (x : Str) (mf : DEnv → FRes) (r : DEnv → Res (List Arg)) : DEnv → Res D := fun Δ => (r Δ).bind fun zs Δ1 => match cellsOf Δ1 zs with
  | none => .stuck
  | some cs => if (slotsOf zs).Nodup then makeE zs Δ1 (mf (.pav (.s x []) :: cs)) else .stuck
section
variable {X : Cx} {L : Lx} {W : WX} {σ σ' : L2.St} {Δ Δ' Δ1 Δ2 : DEnv} {F F' H H' : Hp} {e : Expr} {es : List Expr} {r : DEnv → Res (List Arg)} {x : Str} {p pos : Pos} {i j k : Nat} {f : Addr} {ps : List Str} {mf : DEnv → FRes} {zs : List Arg} {cs : DEnv} {c c2 : Cell} {vs : List V}
theorem getO_app {w : OwnV} (h : getO Δ i = some w) : getO (Δ ++ [c]) i = some w := by
  unfold getO at h ⊢
  cases q : (Δ[i]? : Option Cell) with
  | none => rw [q] at h; cases h
  | some d =>
    have hi := (List.getElem?_eq_some_iff.mp q).1
    rw [app_at hi, q]; rw [q] at h; exact h
theorem getO_lt {w : OwnV} (h : getO Δ i = some w) : i < Δ.length := by
  unfold getO at h
  cases q : (Δ[i]? : Option Cell) with
  | none => rw [q] at h; cases h
  | some d => exact (List.getElem?_eq_some_iff.mp q).1
theorem cells_app : ∀ {zs : List Arg} {cs : DEnv}, cellsOf Δ zs = some cs → cellsOf (Δ ++ [c]) zs = some cs
  | [], cs, h => h
  | .inl d :: zs, cs, h => by
    rw [show cellsOf Δ (.inl d :: zs) = (cellsOf Δ zs).map (Cell.va d :: ·) from rfl] at h
    obtain ⟨cs', h1, rfl⟩ := Option.map_eq_some_iff.mp h
    show (cellsOf (Δ ++ [c]) zs).map (Cell.va d :: ·) = _
    rw [cells_app h1]; rfl
  | .inr i :: zs, cs, h => by
    rw [show cellsOf Δ (.inr i :: zs) = (getO Δ i).bind fun xs => (cellsOf Δ zs).map (Cell.pav xs :: ·) from rfl] at h
    obtain ⟨w, h1, h2⟩ := Option.bind_eq_some_iff.mp h
    obtain ⟨cs', h3, rfl⟩ := Option.map_eq_some_iff.mp h2
    show (getO (Δ ++ [c]) i).bind _ = _
    rw [getO_app h1, Option.bind_some, cells_app h3]; rfl
theorem slots_lt (hc : cellsOf Δ zs = some cs) {j : Nat} (h : j ∈ slotsOf zs) : j < Δ.length := by
  obtain ⟨k, hk⟩ := mem_slots.mp h
  obtain ⟨hl, get⟩ := cellsOf_get hc
  have hz := (List.getElem?_eq_some_iff.mp hk).1
  have hcs : k < cs.length := by omega
  rcases get k _ _ hk (List.getElem?_eq_getElem hcs) with ⟨d, q, _⟩ | ⟨i', xs, q1, q2, q3⟩
  · cases q
  · cases q1; exact getO_lt q3
theorem setW_app {w : OwnV} (h : i < Δ.length) : setW (Δ ++ [c]) i w = setW Δ i w ++ [c] := by
  unfold setW
  rw [app_at h]
  cases q : (Δ[i]? : Option Cell) with
  | none => rfl
  | some d =>
    cases d with
    | owv y => exact List.set_append_left i _ h
    | pav y => exact List.set_append_left i _ h
    | _ => rfl
theorem backD_app : ∀ {zs : List Arg} {cs Δ : DEnv}, (∀ j ∈ slotsOf zs, j < Δ.length) → backD zs cs (Δ ++ [c]) = backD zs cs Δ ++ [c]
  | [], cs, Δ, _ => by cases cs <;> rfl
  | .inl d :: zs, [], Δ, _ => rfl
  | .inr i :: zs, [], Δ, _ => rfl
  | .inl d :: zs, c0 :: cs, Δ, h => backD_app (zs := zs) h
  | .inr i :: zs, c0 :: cs, Δ, h => by
    have hi : i < Δ.length := h i (by show i ∈ i :: slotsOf zs; simp)
    have hr : ∀ j ∈ slotsOf zs, j < Δ.length := fun j hj => h j (by show j ∈ i :: slotsOf zs; simp [hj])
    cases c0 with
    | pav w =>
      show backD zs cs (setW (Δ ++ [c]) i w) = backD zs cs (setW Δ i w) ++ [c]
      rw [setW_app hi]
      exact backD_app (zs := zs) fun j hj => by rw [setW_len]; exact hr j hj
    | _ => exact backD_app (zs := zs) hr
theorem args_app {v : Option V} (ha : ArgsOk L F σ vs zs) : ArgsOk L F (σ ++ [v]) vs zs := by
  refine ⟨ha.1, fun k u z h1 h2 => ?_⟩
  have := ha.2 k u z h1 h2
  cases z with
  | inl d => exact this
  | inr i =>
    have h : slot σ i = some u := this
    show slot (σ ++ [v]) i = some u
    rw [slot_app (by
      unfold slot at h
      cases q : σ[i]? with
      | none => rw [q] at h; cases h
      | some o => exact (List.getElem?_eq_some_iff.mp q).1)]
    exact h
theorem step_pre {x dx : Addr} {u o : HO} (hl : σ.length = Δ.length) (hx : H x = none) (hd : H dx = none) (s : Step (σ ++ [some (.ref x)]) (Δ ++ [c]) F (upd (upd H dx u) x o) (σ ++ [some (.ref x)]) (Δ2 ++ [c2]) F' H') (hl2 : Δ2.length = Δ.length) :
    Step σ Δ F H σ Δ2 F' H' := by
  have up : ∀ b z, H b = some z → upd (upd H dx u) x o b = some z := fun b z h => by rw [upd_ne (ne_of_none h hx), upd_ne (ne_of_none h hd)]; exact h
  have dn : ∀ b, upd (upd H dx u) x o b = none → H b = none := fun b h => by
    cases q : H b with
    | none => rfl
    | some z => rw [up b z q] at h; cases h
  have ow : ∀ b, Own (σ ++ [some (.ref x)]) (Δ ++ [c]) b → Own σ Δ b ∨ H b = none := fun b h => (own_inv hl h).imp id fun e => by cases e; exact hx
  refine ⟨s.fr, fun b z h n => s.kp b z (up b z h) fun y => ?_, fun b z h => ?_, fun b h => ?_, fun i xs h => ?_, fun i xs h => ?_, fun b z h => s.th b z (up b z h)⟩
  · rcases ow b y with q | q
    · exact n q
    · rw [h] at q; cases q
  · rcases s.fn b z h with y | y | y
    · exact .inl y
    · exact .inr (.inl (dn b y))
    · rcases ow b y with q | q
      · exact .inr (.inr q)
      · exact .inr (.inl q)
  · rcases s.ow b (own_app (by omega) h) with y | y
    · exact ow b y
    · exact .inr (dn b y)
  · have hi := (List.getElem?_eq_some_iff.mp h).1
    obtain ⟨ys, g1, g2⟩ := s.pa i xs (by rw [app_at hi]; exact h)
    exact ⟨ys, by rw [app_at (by omega)] at g1; exact g1, rfl⟩
  · have hi := (List.getElem?_eq_some_iff.mp h).1
    obtain ⟨ys, g1⟩ := s.pb i xs (by rw [app_at hi]; exact h)
    exact ⟨ys, by rw [app_at (by omega)] at g1; exact g1⟩
theorem snd_make {ta : TA} {n : Nat} {C : Addr} (hC : PySem.W.nsIn L.K mainGlobals x = some (some (.ref C))) (hn : ∀ zs Δ Δ1, r Δ = .ok zs Δ1 → zs.length + 1 = n) (h : SndC L W ta r) : Snd L W (tMakeS C (spD L n mf) (WE W) ta) (makeM x mf r) := by
  intro σ Δ F H Q env w
  refine h σ Δ F H _ env ?_
  unfold makeM at w
  cases q : r Δ with
  | stuck => rw [q] at w; exact w.elim
  | ex x Δ' => rw [q] at w; exact w
  | ok zs Δ1 =>
    rw [q] at w
    intro F1 H1 env1 st1 vs ha a dx hxn hdn hne
    replace w : Want L W σ Δ F H (match cellsOf Δ1 zs with | none => .stuck | some cs => if (slotsOf zs).Nodup then makeE zs Δ1 (mf (.pav (.s x []) :: cs)) else .stuck) _ := w
    refine ⟨by rw [List.length_cons, ha.1]; exact hn zs Δ Δ1 q, ?_⟩
    cases qc : cellsOf Δ1 zs with
    | none => rw [qc] at w; exact w.elim
    | some cs =>
      rw [qc] at w
      replace w : Want L W σ Δ F H (if (slotsOf zs).Nodup then makeE zs Δ1 (mf (.pav (.s x []) :: cs)) else .stuck) _ := w
      split at w
      case isFalse => exact w.elim
      rename_i nd
      have hl := env1.len
      obtain ⟨envE, _⟩ := new_env env1 hxn hdn hne hC
      have sl := fun j hj => slots_lt (zs := zs) qc (j := j) hj
      have ndE : (slotsOf (Sum.inr Δ1.length :: zs)).Nodup := List.nodup_cons.mpr ⟨fun hm => Nat.lt_irrefl _ (sl _ hm), nd⟩
      have qcE : cellsOf (Δ1 ++ [.owv (.s x [])]) (Sum.inr Δ1.length :: zs) = some (.pav (.s x []) :: cs) := by
        show (getO (Δ1 ++ [.owv (.s x [])]) Δ1.length).bind _ = _
        unfold getO
        rw [app_end, Option.bind_some]
        show (some (OwnV.s x [])).bind _ = _
        rw [Option.bind_some, cells_app qc]; rfl
      have haE : ArgsOk L F1 (σ ++ [some (.ref a)]) (.ref a :: vs) (Sum.inr Δ1.length :: zs) := argsOk_cons (by show slot (σ ++ [some (.ref a)]) Δ1.length = _; rw [← hl]; exact slot_last) (args_app ha)
      obtain ⟨e1, e2, e3⟩ := env_args envE ndE qcE haE
      refine ⟨_, F1, e1, e2, ?_⟩
      generalize mf (.pav (.s x []) :: cs) = res at w ⊢
      -- the frame behind
      have back : ∀ (c0 : Cell) (cs3 : DEnv), ∃ c3, backD (Sum.inr Δ1.length :: zs) (c0 :: cs3) (Δ1 ++ [.owv (.s x [])]) = backD zs cs3 Δ1 ++ [c3] ∧ ∀ w, c0 = .pav w → c3 = .owv w := fun c0 cs3 => by
        cases c0 with
        | pav w =>
          refine ⟨Cell.owv w, ?_, fun w' e => by cases e; rfl⟩
          show backD zs cs3 (setW (Δ1 ++ [.owv (.s x [])]) Δ1.length w) = _
          have : setW (Δ1 ++ [.owv (.s x [])]) Δ1.length w = Δ1 ++ [.owv w] := by
            unfold setW
            rw [app_end]
            show (Δ1 ++ [Cell.owv (.s x [])]).set Δ1.length (Cell.owv w) = _
            rw [List.set_append_right _ _ (Nat.le_refl _), Nat.sub_self]; rfl
          rw [this]
          exact backD_app sl
        | _ => exact ⟨_, backD_app (cs := cs3) sl, fun w e => by cases e⟩
      cases res with
      | stuck => exact w
      | fr ds cs' => exact w.elim
      | ex y cs' =>
        cases cs' with
        | nil => exact w.elim
        | cons c0 cs3 =>
          intro c dd F' H' env' st' xo
          obtain ⟨b1, b2⟩ := env_back envE ndE qcE haE env' st'
          obtain ⟨c3, g1, _⟩ := back c0 cs3
          rw [g1] at b1 b2
          exact w c dd F' H' (pre_env b1) (st1.trans (step_pre hl hxn hdn b2 backD_len)) xo
      | ok d cs' =>
        cases cs' with
        | nil => cases d <;> exact w.elim
        | cons c0 cs3 =>
          cases d with
          | non =>
            cases c0 with
            | pav ow =>
              cases ow with
              | s y fs =>
                intro v F' H' env' st' rv
                obtain ⟨b1, b2⟩ := env_back envE ndE qcE haE env' st'
                obtain ⟨c3, g1, g2⟩ := back (.pav (.s y fs)) cs3
                rw [g2 _ rfl] at g1
                rw [g1] at b1 b2
                have at_ : (backD zs cs3 Δ1 ++ [Cell.owv (.s y fs)])[Δ1.length]? = some (.owv (.s y fs)) := by
                  have := app_end (Δ := backD zs cs3 Δ1) (c := .owv (.s y fs))
                  rw [backD_len] at this; exact this
                have sl_ : slot (σ ++ [some (.ref a)]) Δ1.length = some (.ref a) := by rw [← hl]; exact slot_last
                obtain ⟨a', u, k1, k2, k3, k4⟩ := b1.cells _ _ at_
                rw [sl_] at k1
                cases k1
                have st := step_pre hl hxn hdn b2 backD_len
                have rep : Rep L.K (upd F' a u) (.ref a) (.obj y fs) := by
                  cases k4 with
                  | s h1 h2 h3 h4 => exact .obj h1 upd_same h2 h3 fun i p q a b => (h4 i p q a b).mono (Ex.new k3)
                have env3 := EnvOk.freezeO (d := .obj y fs) b1 at_ rfl sl_ k2 k3 rep
                have hset : (backD zs cs3 Δ1 ++ [Cell.owv (.s y fs)]).set Δ1.length (.va (.obj y fs)) = backD zs cs3 Δ1 ++ [.va (.obj y fs)] := by
                  rw [List.set_append_right _ _ (by rw [backD_len]; exact Nat.le_refl _), backD_len, Nat.sub_self]; rfl
                rw [hset] at env3
                refine ⟨by cases rv; rfl, ?_⟩
                exact w _ H' (pre_env env3) (st1.trans (st.frz k3 (.inl hxn))) _ rep
              | _ => exact w.elim
            | _ => exact w.elim
          | _ => exact w.elim
/-- the class x is made by the def at f -/
structure MkT (K : PySem.W.Frag) (mg : Str → Option Value) (x : Str) (f : Addr) : Prop where
  ex : ∃ C, PySem.W.nsIn K mainGlobals x = some (some (.ref C)) ∧ mg x = some (.ref C) ∧ Mk K C f
theorem d_make (T : MkT X.K X.mg x f) (C : Cal X.prog X.w X.K X.mg X.base L f j ps mf) (hr : Room k X.A) (hj : j + 1 ≤ k) (hg : Gl X x) (tk : Takes X W) (ha : DC X L W (e :: es) r) (hl : (e :: es).length + 1 = ps.length)
    (hdb : (x == ("__debug__" : Str)) = false) (he : starEach (e :: es) X.env = (false, eval e X.env) :: starEach es X.env := by rfl) (hpl : (backTo pos (starEach es X.env)).any (·.1) = false := by rfl) (hk : L.K = X.K := by rfl) :
    DE X L W (.Call (.Name x p) (e :: es) [] pos) (makeM x mf r) := by
  obtain ⟨fd, b, Fo⟩ := C.ex
  obtain ⟨c, t1, t2, t3⟩ := T.ex
  obtain ⟨_, p2, s2⟩ := ha.ex
  rw [← hk] at t1
  exact ⟨_, pe_mkS t3 Fo (hr.mono hj) hg t2 b tk p2 hdb he hpl, snd_make t1 (fun zs Δ Δ1 h => by rw [ha.ln Δ zs Δ1 h]; exact hl) s2⟩
end
end KL
/-! KM, part e: built-ins of two arguments, list(range), frozen dicts, list.index. -/
namespace KL
open PySem L2
section
variable {X : Cx} {L : Lx} {W : WX} {σ σ' : L2.St} {Δ Δ' Δ1 : DEnv} {F F' H H' : Hp} {e e2 a b : Expr} {es : List Expr} {me ma mb : DEnv → Res D} {x : Str} {p pos apos : Pos} {i j k : Nat}
/-! ### two arguments -/
def CallS2 (L : Lx) (r : List V → Hp → VK → Prop) (g : D → D → Option D) : Prop := ∀ (F H : Hp) (u v : V) (d e z : D) (Q : VK), Ex F H → g d e = some z → Rep L.K F u d → Rep L.K F v e → (∀ w F' H', Gro F H F' H' → Rep L.K F' w z → Q w H') → r [u, v] H Q
theorem d_callB2 {r : List V → Hp → VK → Prop} {g : D → D → Option D} {id : String} (hc : CallR X (.builtin id) r) (hs : CallS2 L r g) (hg : Gl X x) (hm : X.mg x = none) (hv : bootBuiltins x = some (.builtin id)) (hn : x ≠ "__name__") (hdb : (x == ("__debug__" : Str)) = false) (h : DE X L W e me) (h2 : DE X L W e2 mb)
    (hst : starEach [e, e2] X.env = (false, eval e X.env) :: starEach [e2] X.env := by rfl) (hst2 : starEach [e2] X.env = (false, eval e2 X.env) :: starEach [] X.env := by rfl) (hpl : (backTo pos (starEach [e2] X.env)).any (·.1) = false := by rfl) : DE X L W (.Call (.Name x p) [e, e2] [] pos) (opM g me mb) := by
  obtain ⟨_, p1, s1⟩ := h.ex
  obtain ⟨_, p2, s2⟩ := h2.ex
  refine ⟨_, pe_callB hc hg hm hv (pa_cons p1 (pa_cons p2 pa_nil hst2) hst) hn hdb hst hpl, fun σ Δ F H Q env w => ?_⟩
  replace w : Want L W σ Δ F H ((me Δ).bind fun x Δ1 => (mb Δ1).bind fun y Δ2 => .opt (g x y) Δ2) _ := w
  refine s1 σ Δ F H _ env (w.bind.mono fun d Δ1 F1 H1 env1 w1 v rv => ?_)
  refine s2 σ Δ1 F1 H1 _ env1 (Want.keep (w1.bind.mono fun d2 Δ2 F2 H2 env2 w2 st2 v2 rv2 => ?_))
  cases q : g d d2 with
  | none => rw [q] at w2; exact w2.elim
  | some z =>
    rw [q] at w2
    exact hs F2 H2 _ _ d d2 z _ env2.ex q (rv.mono st2.fr) rv2 fun u F3 H3 gr r3 => w2 F3 H3 (env2.gro gr) (Step.gro gr) u r3
def min2D : D → D → Option D
  | .int i, .int j => some (.int (if j < i then j else i))
  | _, _ => none
def max2D : D → D → Option D
  | .int i, .int j => some (.int (if j > i then j else i))
  | _, _ => none
theorem calls_min2 : CallS2 L (fun xs H Q => ∃ i j, xs = [.int i, .int j] ∧ Q (.int (if j < i then j else i)) H) min2D := by
  intro F H u v d e z Q ex hf ru rv q
  unfold min2D at hf
  split at hf
  · cases hf; cases ru; cases rv; exact ⟨_, _, rfl, q _ F H (.refl ex) (.int _)⟩
  · cases hf
theorem calls_max2 : CallS2 L (fun xs H Q => ∃ i j, xs = [.int i, .int j] ∧ Q (.int (if j > i then j else i)) H) max2D := by
  intro F H u v d e z Q ex hf ru rv q
  unfold max2D at hf
  split at hf
  · cases hf; cases ru; cases rv; exact ⟨_, _, rfl, q _ F H (.refl ex) (.int _)⟩
  · cases hf
def dvmD : D → D → Option D
  | .int i, .int j => if 0 < j ∧ j.natAbs < 2 ^ 8000 then some (.tup [.int (i / j), .int (i % j)]) else none
  | _, _ => none
theorem calls_dvm : CallS2 L (fun xs H Q => ∃ i j, xs = [.int i, .int j] ∧ CDivP i j ∧ ∀ p, H p = none → Q (.ref p) (upd H p (.tup [.int (i / j), .int (i % j)]))) dvmD := by
  intro F H u v d e z Q ex hf ru rv q
  unfold dvmD at hf
  split at hf
  · split at hf
    · rename_i i j hj
      cases hf; cases ru; cases rv
      refine ⟨_, _, rfl, ⟨hj.1, PyProof.noPylong_of_log2 (by
        have h1 : j.natAbs ≠ 0 := by omega
        have h2 := Nat.log2_self_le h1
        have : j.natAbs.log2 < 8000 := (Nat.pow_lt_pow_iff_right (show 1 < 2 by omega)).mp (Nat.lt_of_le_of_lt h2 hj.2)
        omega)⟩, fun p hp => q _ _ _ (.new ex hp) ?_⟩
      exact .tup (vs := [.int _, .int _]) (SqT.of upd_same) rfl fun i v d h1 h2 => by
        match i, h1, h2 with
        | 0, h1, h2 => cases h1; cases h2; exact .int _
        | 1, h1, h2 => cases h1; cases h2; exact .int _
        | (n + 2), h1, h2 => simp at h1
    · cases hf
  · cases hf
/-! ### list(range(..)), tuple(range(..)) -/
def rgB (lo hi : Int) : Bool := decide (-4611686018427387904 ≤ lo ∧ lo < 4611686018427387904 ∧ -4611686018427387904 ≤ hi ∧ hi < 4611686018427387904 ∧ (hi - lo).toNat ≤ 16777216)
def rg1F (m : DEnv → Res D) : DEnv → Res (List D) := fun Δ => (m Δ).bind fun d Δ1 => match d with
  | .int n => gd (rgB 0 n) (.ok (rangeL 0 n.toNat) Δ1)
  | _ => .stuck
def rg2F (m n : DEnv → Res D) : DEnv → Res (List D) := fun Δ => (m Δ).bind fun d Δ1 => (n Δ1).bind fun d2 Δ2 => match d, d2 with
  | .int lo, .int hi => gd (rgB lo hi) (.ok (rangeL lo (hi - lo).toNat) Δ2)
  | _, _ => .stuck
theorem rgb_ok {lo hi : Int} (h : rgB lo hi = true) : RgOk lo hi := by
  obtain ⟨a, b, c, d, e⟩ := of_decide_eq_true h
  exact ⟨a, b, c, d, e⟩
theorem rgv_rep {lo hi : Int} : Reps L.K F (rgV lo hi) (rangeL lo (hi - lo).toNat) := by
  unfold rgV rangeL
  exact Reps.map fun x _ => .int _
theorem gd_ok {α : Type} {c : Bool} {r : Res α} {Q : α → DEnv → Hp → Hp → Prop} (h : Want L W σ Δ F H (gd c r) Q) : c = true ∧ Want L W σ Δ F H r Q := by
  unfold gd at h
  split at h
  · rename_i hc; exact ⟨hc, h⟩
  · exact h.elim
/-- a reading over range's bounds -/
def SndRg (L : Lx) (W : WX) (te : L2.St → Hp → (Int → Int → Hp → Prop) → Prop) (m : DEnv → Res (List D)) : Prop := ∀ (σ : L2.St) (Δ : DEnv) (F H : Hp) (Q : Int → Int → Hp → Prop), EnvOk L F σ Δ H →
  Want L W σ Δ F H (m Δ) (fun ds _ F' H' => ∀ lo hi, RgOk lo hi → ds = rangeL lo (hi - lo).toNat → Q lo hi H') → te σ H Q
theorem snd_rg1 {ta : TE} (h : Snd L W ta me) : SndRg L W (tRg1 ta) (rg1F me) := by
  intro σ Δ F H Q env w
  replace w : Want L W σ Δ F H ((me Δ).bind fun d Δ1 => match d with | .int n => gd (rgB 0 n) (.ok (rangeL 0 n.toNat) Δ1) | _ => .stuck) _ := w
  refine h σ Δ F H _ env (w.bind.mono fun d Δ1 F1 H1 env1 w1 v rv => ?_)
  cases d with
  | int n =>
    cases rv
    obtain ⟨hb, w2⟩ := gd_ok w1
    exact ⟨n, rfl, w2 F1 H1 env1 .refl 0 n (rgb_ok hb) (by rw [Int.sub_zero])⟩
  | _ => exact w1.elim
theorem snd_rg2 {ta tb : TE} (h : Snd L W ta ma) (h2 : Snd L W tb mb) : SndRg L W (tRg2 ta tb) (rg2F ma mb) := by
  intro σ Δ F H Q env w
  replace w : Want L W σ Δ F H ((ma Δ).bind fun d Δ1 => (mb Δ1).bind fun d2 Δ2 => match d, d2 with | .int lo, .int hi => gd (rgB lo hi) (.ok (rangeL lo (hi - lo).toNat) Δ2) | _, _ => .stuck) _ := w
  refine h σ Δ F H _ env (w.bind.mono fun d Δ1 F1 H1 env1 w1 v rv => ?_)
  refine h2 σ Δ1 F1 H1 _ env1 (w1.bind.mono fun d2 Δ2 F2 H2 env2 w2 v2 rv2 => ?_)
  cases d with
  | int lo =>
    cases d2 with
    | int hi =>
      cases rv; cases rv2
      obtain ⟨hb, w3⟩ := gd_ok w2
      exact ⟨lo, hi, rfl, rfl, w3 F2 H2 env2 .refl lo hi (rgb_ok hb) rfl⟩
    | _ => exact w2.elim
  | _ => exact w2.elim
theorem f_listRg {te : L2.St → Hp → (Int → Int → Hp → Prop) → Prop} {m : DEnv → Res (List D)} (hc : X.calm = true) (hg : Gl X "list") (hm : X.mg "list" = none) (he : PRg X e te) (hs : SndRg L W te m) (na : starEach [e] X.env = (false, eval e X.env) :: starEach [] X.env := by rfl) :
    DF X L W (.Call (.Name "list" p) [e] [] pos) m := by
  refine ⟨_, pe_listRg hc hg hm he na, fun σ Δ F H Q env w => ?_⟩
  refine hs σ Δ F H _ env ?_
  cases q : m Δ with
  | stuck => rw [q] at w; exact w
  | ex x Δ' => rw [q] at w; exact w
  | ok ds Δ1 =>
    rw [q] at w
    intro F1 H1 env1 st1 lo hi ok e
    subst e
    refine ⟨ok, fun q hq => ?_⟩
    obtain ⟨a1, a2, a3, a4⟩ := fresh_env (vs := rgV lo hi) env1 hq
    exact w F1 _ a1 (st1.trans a2) q _ (st1.hn hq) a3 a4 upd_same rgv_rep
theorem d_tupRg {te : L2.St → Hp → (Int → Int → Hp → Prop) → Prop} {m : DEnv → Res (List D)} (hc : X.calm = true) (hg : Gl X "tuple") (hm : X.mg "tuple" = none) (he : PRg X e te) (hs : SndRg L W te m) (na : starEach [e] X.env = (false, eval e X.env) :: starEach [] X.env := by rfl) :
    DE X L W (.Call (.Name "tuple" p) [e] [] pos) (fun Δ => (m Δ).map .tup) := by
  refine ⟨_, pe_tupRg hc hg hm he na, fun σ Δ F H Q env w => ?_⟩
  refine hs σ Δ F H _ env ?_
  replace w : Want L W σ Δ F H ((m Δ).map D.tup) _ := w
  cases q : m Δ with
  | stuck => rw [q] at w; exact w
  | ex x Δ' => rw [q] at w; exact w
  | ok ds Δ1 =>
    rw [q] at w
    intro F1 H1 env1 st1 lo hi ok e
    subst e
    refine ⟨ok, fun q hq => ?_⟩
    have gr : Gro F1 H1 _ _ := .new (p := q) (o := .tup (rgV lo hi)) env1.ex hq
    refine w _ _ (env1.gro gr) (st1.trans (Step.gro gr)) _ ?_
    have r := rgv_rep (L := L) (F := upd F1 q (.tup (rgV lo hi))) (lo := lo) (hi := hi)
    exact .tup (SqT.of upd_same) r.1 r.2
theorem r_listRg1 {me : DEnv → Res D} {a : Expr} {p2 pos2 : Pos} (hc : X.calm = true) (hg : Gl X "list") (hm : X.mg "list" = none) (hg2 : Gl X "range") (hm2 : X.mg "range" = none) (h : DE X L W a me)
    (n2 : starEach [a] X.env = (false, eval a X.env) :: starEach [] X.env := by rfl) (n1 : starEach [.Call (.Name "range" p2) [a] [] pos2] X.env = (false, eval (.Call (.Name "range" p2) [a] [] pos2) X.env) :: starEach [] X.env := by rfl) : DF X L W (.Call (.Name "list" p) [.Call (.Name "range" p2) [a] [] pos2] [] pos) (rg1F me) := by
  obtain ⟨_, p1, s1⟩ := h.ex
  exact f_listRg hc hg hm (prg_1 hg2 hm2 p1 n2) (snd_rg1 s1) n1
theorem r_tupRg1 {me : DEnv → Res D} {a : Expr} {p2 pos2 : Pos} (hc : X.calm = true) (hg : Gl X "tuple") (hm : X.mg "tuple" = none) (hg2 : Gl X "range") (hm2 : X.mg "range" = none) (h : DE X L W a me)
    (n2 : starEach [a] X.env = (false, eval a X.env) :: starEach [] X.env := by rfl) (n1 : starEach [.Call (.Name "range" p2) [a] [] pos2] X.env = (false, eval (.Call (.Name "range" p2) [a] [] pos2) X.env) :: starEach [] X.env := by rfl) : DE X L W (.Call (.Name "tuple" p) [.Call (.Name "range" p2) [a] [] pos2] [] pos) (fun Δ => (rg1F me Δ).map .tup) := by
  obtain ⟨_, p1, s1⟩ := h.ex
  exact d_tupRg hc hg hm (prg_1 hg2 hm2 p1 n2) (snd_rg1 s1) n1
theorem r_listRg2 {a b : Expr} {p2 pos2 : Pos} (hc : X.calm = true) (hg : Gl X "list") (hm : X.mg "list" = none) (hg2 : Gl X "range") (hm2 : X.mg "range" = none) (h : DE X L W a ma) (h2 : DE X L W b mb)
    (n3 : starEach [a, b] X.env = (false, eval a X.env) :: starEach [b] X.env := by rfl) (n4 : starEach [b] X.env = (false, eval b X.env) :: starEach [] X.env := by rfl) (n5 : (backTo pos2 (starEach [b] X.env)).any (·.1) = false := by rfl)
    (n1 : starEach [.Call (.Name "range" p2) [a, b] [] pos2] X.env = (false, eval (.Call (.Name "range" p2) [a, b] [] pos2) X.env) :: starEach [] X.env := by rfl) : DF X L W (.Call (.Name "list" p) [.Call (.Name "range" p2) [a, b] [] pos2] [] pos) (rg2F ma mb) := by
  obtain ⟨_, p1, s1⟩ := h.ex
  obtain ⟨_, q1, s2⟩ := h2.ex
  exact f_listRg hc hg hm (prg_2 hg2 hm2 p1 q1 n3 n4 n5) (snd_rg2 s1 s2) n1
theorem r_tupRg2 {a b : Expr} {p2 pos2 : Pos} (hc : X.calm = true) (hg : Gl X "tuple") (hm : X.mg "tuple" = none) (hg2 : Gl X "range") (hm2 : X.mg "range" = none) (h : DE X L W a ma) (h2 : DE X L W b mb)
    (n3 : starEach [a, b] X.env = (false, eval a X.env) :: starEach [b] X.env := by rfl) (n4 : starEach [b] X.env = (false, eval b X.env) :: starEach [] X.env := by rfl) (n5 : (backTo pos2 (starEach [b] X.env)).any (·.1) = false := by rfl)
    (n1 : starEach [.Call (.Name "range" p2) [a, b] [] pos2] X.env = (false, eval (.Call (.Name "range" p2) [a, b] [] pos2) X.env) :: starEach [] X.env := by rfl) : DE X L W (.Call (.Name "tuple" p) [.Call (.Name "range" p2) [a, b] [] pos2] [] pos) (fun Δ => (rg2F ma mb Δ).map .tup) := by
  obtain ⟨_, p1, s1⟩ := h.ex
  obtain ⟨_, q1, s2⟩ := h2.ex
  exact d_tupRg hc hg hm (prg_2 hg2 hm2 p1 q1 n3 n4 n5) (snd_rg2 s1 s2) n1
/-! ### xs.index(x) -/
/-- the first place of an equal one -/
def findP (p : PyData) : List PyData → Option Nat
  | [] => none
  | q :: qs => if PyData.eqv q p = true then some 0 else (findP p qs).map (· + 1)
theorem findP_some {p : PyData} : ∀ {qs : List PyData} {n : Nat}, findP p qs = some n → ∃ z, qs[n]? = some z ∧ PyData.eqv z p = true ∧ ∀ (m : Nat) z', m < n → qs[m]? = some z' → PyData.eqv z' p = false
  | [], n, h => by cases h
  | q :: qs, n, h => by
    unfold findP at h
    split at h
    · rename_i he
      cases h
      exact ⟨q, rfl, he, fun m z' hm => absurd hm (Nat.not_lt_zero m)⟩
    · rename_i he
      obtain ⟨k, h1, rfl⟩ := Option.map_eq_some_iff.mp h
      obtain ⟨z, g1, g2, g3⟩ := findP_some h1
      refine ⟨z, by simpa using g1, g2, fun m z' hm hz => ?_⟩
      cases m with
      | zero => cases hz; simpa using he
      | succ m => exact g3 m z' (by omega) (by simpa using hz)
def indexD (d e : D) : Option D := match toPy d, toPy e with
  | some (.list qs), some p => if SeqAt.shaped (.list qs) = true ∧ SeqAt.shaped p = true then (findP p qs).map fun n => .int (n : Nat) else none
  | _, _ => none
def indexM (mo me : DEnv → Res D) : DEnv → Res D := fun Δ => (mo Δ).bind fun d Δ1 => match d with
  | .lst ds => (me Δ1).bind fun e Δ2 => .opt (indexD (.lst ds) e) Δ2
  | _ => .stuck
theorem index_run {H2 : Hp} {v w : V} {ds : List D} {d z : D} {Q : VK} (ex : Ex F H) (ro : RepR L F H v (.lst ds)) (re : Rep L.K F w d) (hf : indexD (.lst ds) d = some z) (q : ∀ j : Nat, z = .int j → Q (.int j) H) : rIndexD L.K v [w] H Q := by
  unfold indexD at hf
  cases q1 : toPy (.lst ds) with
  | none => rw [q1] at hf; cases hf
  | some p1 =>
    cases q2 : toPy d with
    | none => rw [q1, q2] at hf; cases p1 <;> cases hf
    | some p2 =>
      have dl := toPy_dpR ex ro q1
      have de := toPy_dp ex d w p2 re q2
      rw [q1, q2] at hf
      cases p1 with
      | list qs =>
        replace hf : (if SeqAt.shaped (.list qs) = true ∧ SeqAt.shaped p2 = true then (findP p2 qs).map fun n => D.int (n : Nat) else none) = some z := hf
        split at hf
        · rename_i hs
          obtain ⟨n, h1, rfl⟩ := Option.map_eq_some_iff.mp hf
          obtain ⟨y, g1, g2, g3⟩ := findP_some h1
          obtain ⟨a, vs, rfl, _, _⟩ := ro.lst ex
          exact ⟨a, w, p2, qs, n, y, rfl, rfl, dl, de, hs.1, hs.2, g1, g2, g3, q n rfl⟩
        · cases hf
      | _ => cases hf
theorem d_index {o : Expr} {mo : DEnv → Res D} (hu : X.A.units + 65 < cLine) (ho : DE X L W o mo) (h : DE X L W e me) (hs : starEach [e] X.env = (false, eval e X.env) :: starEach [] X.env := by rfl) (hbase : attributeBase o "index" X.env (eval o X.env) = eval o X.env := by rfl)
    (hfew : ((backTo pos (starEach (e :: []) X.env)).all (fun x => !x.1) && (backToKw pos (keywordEach [] X.env)).all (fun x => x.1.isSome) && decide ((e :: []).length + ([] : List Keyword).length + (if ([] : List Keyword).isEmpty then 0 else 1) < 30)) = true := by rfl)
    (hline : (apos.endLine == pos.line) = true := by rfl) (hplain : (backTo pos (starEach [] X.env)).any (·.1) = false := by rfl) (hk : L.K = X.K := by rfl) : DE X L W (.Call (.Attribute o "index" apos) [e] [] pos) (indexM mo me) := by
  obtain ⟨_, p1, s1⟩ := ho.ex
  obtain ⟨_, p2, s2⟩ := h.ex
  refine ⟨_, pe_bm PySem.F.plainAttrs_list PySem.F.slot_list_index PySem.F.type_list_index (mt_indexD hu) p1 (pa_cons p2 pa_nil hs) hbase hfew hline hs hplain, fun σ Δ F H Q env w => ?_⟩
  replace w : Want L W σ Δ F H ((mo Δ).bind fun d Δ1 => match d with | .lst ds => (me Δ1).bind fun e Δ2 => .opt (indexD (.lst ds) e) Δ2 | _ => .stuck) _ := w
  refine s1 σ Δ F H _ env (w.bind.mono fun d Δ1 F1 H1 env1 w1 v rv => ?_)
  cases d with
  | lst ds =>
    obtain ⟨a, vs, rfl, h1, h2⟩ := rep_ref_lst rv
    refine ⟨.inl ⟨rfl, vs, SqL.of (env1.ex _ _ h1)⟩, s2 σ Δ1 F1 H1 _ env1 (Want.keep (w1.bind.mono fun d2 Δ2 F2 H2 env2 w2 st2 v2 rv2 => ?_))⟩
    cases q : indexD (.lst ds) d2 with
    | none => rw [q] at w2; exact w2.elim
    | some z =>
      rw [q] at w2
      rw [← hk]
      exact index_run (H2 := H2) env2.ex (.inl (rv.mono st2.fr)) rv2 q fun j e => w2 F2 H2 env2 .refl _ (by rw [e]; exact .int _)
  | _ => exact w1.elim
/-- the receiver an own list in a slot -/
def indexV (i : Nat) (me : DEnv → Res D) : DEnv → Res D := fun Δ => match rdR Δ i with
  | some (.lst _) => (me Δ).bind fun e Δ1 => match rdR Δ1 i with
    | some (.lst ds) => .opt (indexD (.lst ds) e) Δ1
    | _ => .stuck
  | _ => .stuck
theorem d_indexV (hu : X.A.units + 65 < cLine) (hN : X.N[i]? = some x) (hv : Vis X.env.scope x) (hd : (x == ("__debug__" : Str)) = false) (hcd : (x == ("__classdict__" : Str)) = false) (h : DE X L W e me)
    (hs : starEach [e] X.env = (false, eval e X.env) :: starEach [] X.env := by rfl) (hbase : attributeBase (.Name x p) "index" X.env (eval (.Name x p) X.env) = eval (.Name x p) X.env := by rfl)
    (hfew : ((backTo pos (starEach (e :: []) X.env)).all (fun x => !x.1) && (backToKw pos (keywordEach [] X.env)).all (fun x => x.1.isSome) && decide ((e :: []).length + ([] : List Keyword).length + (if ([] : List Keyword).isEmpty then 0 else 1) < 30)) = true := by rfl)
    (hline : (apos.endLine == pos.line) = true := by rfl) (hplain : (backTo pos (starEach [] X.env)).any (·.1) = false := by rfl) (hk : L.K = X.K := by rfl) : DE X L W (.Call (.Attribute (.Name x p) "index" apos) [e] [] pos) (indexV i me) := by
  obtain ⟨_, p2, s2⟩ := h.ex
  refine ⟨_, pe_bm PySem.F.plainAttrs_list PySem.F.slot_list_index PySem.F.type_list_index (mt_indexD hu) (pe_var hN hv hd hcd) (pa_cons p2 pa_nil hs) hbase hfew hline hs hplain, fun σ Δ F H Q env w => ?_⟩
  unfold indexV at w
  cases q0 : rdR Δ i with
  | none => rw [q0] at w; exact w.elim
  | some d0 =>
    rw [q0] at w
    obtain ⟨v, e1, r1⟩ := env.rd q0
    cases d0 with
    | lst ds0 =>
      obtain ⟨a, vs, rfl, h1, h2⟩ := r1.lst env.ex
      refine ⟨.ref a, slot_some e1, .inl ⟨rfl, vs, SqL.of h1⟩, s2 σ Δ F H _ env (w.bind.mono fun d2 Δ2 F2 H2 env2 w2 v2 rv2 => ?_)⟩
      cases q : rdR Δ2 i with
      | none => rw [q] at w2; exact w2.elim
      | some d3 =>
        rw [q] at w2
        cases d3 with
        | lst ds =>
          replace w2 : Want L W σ Δ2 F2 H2 (.opt (indexD (.lst ds) d2) Δ2) _ := w2
          cases q4 : indexD (.lst ds) d2 with
          | none => rw [q4] at w2; exact w2.elim
          | some z =>
            rw [q4] at w2
            obtain ⟨v3, e3, r3⟩ := env2.rd q
            rw [e1] at e3
            cases e3
            rw [← hk]
            exact index_run (H2 := H2) env2.ex r3 rv2 q4 fun j e => w2 F2 H2 env2 .refl _ (by rw [e]; exact .int _)
        | _ => exact w2.elim
    | _ => exact w.elim
end
end KL
/-! KM, part f: frozen dicts: written, read; .get of a module's dict. -/
namespace KL
open PySem L2
section
variable {X : Cx} {L : Lx} {W : WX} {σ σ' : L2.St} {Δ Δ' Δ1 Δ2 : DEnv} {F F' F2 H H' H2 : Hp} {e e2 a b o : Expr} {es : List Expr} {me ma mb mo : DEnv → Res D} {x : Str} {p pos apos : Pos} {i j k : Nat}
/-- a thing that is neither frozen nor owned becomes frozen as it is then -/
theorem env_put {q : Addr} {u : HO} (env : EnvOk L F σ Δ H) (hf : F q = none) (ho : ¬ Own σ Δ q) : EnvOk L (upd F q u) σ Δ (upd H q u) := by
  have exF : Ex F (upd F q u) := Ex.new hf
  refine ⟨fun b o e => ?_, env.len, fun i c hc => ?_, env.apart⟩
  · by_cases hb : b = q
    · subst hb; rw [upd_same] at e ⊢; exact e
    · rw [upd_ne hb] at e ⊢; exact env.ex b o e
  · have k := env.cells i c hc
    have own : ∀ w, c.own? = some w → (∃ a u, slot σ i = some (.ref a) ∧ H a = some u ∧ F a = none ∧ OwnOk L.K F u w) → ∃ a u', slot σ i = some (.ref a) ∧ upd H q u a = some u' ∧ upd F q u a = none ∧ OwnOk L.K (upd F q u) u' w := by
      rintro w hw ⟨a, u', e1, e2, e3, e4⟩
      have : a ≠ q := fun z => ho ⟨i, c, w, hc, hw, by rw [← z]; exact e1⟩
      exact ⟨a, u', e1, by rw [upd_ne this]; exact e2, by rw [upd_ne this]; exact e3, e4.mono exF⟩
    cases c with
    | no => trivial
    | va d => obtain ⟨v, e1, e2⟩ := k; exact ⟨v, e1, e2.mono exF⟩
    | owv w => exact own w rfl k
    | pav w => exact own w rfl k
    | xc x => obtain ⟨a, c, dd, e1, e2, e3⟩ := k; exact ⟨a, c, dd, e1, e2, e3.mono exF⟩
/-- a new thing that is changed later, frozen then -/
theorem step_put {q : Addr} {u0 u : HO} (hq : H q = none) (s : Step σ Δ F (upd H q u0) σ Δ2 F2 H2) (hf : F2 q = none) : Step σ Δ F H σ Δ2 (upd F2 q u) (upd H2 q u) := by
  have dn : ∀ b, upd H q u0 b = none → H b = none := fun b h => by
    by_cases hb : b = q
    · rw [hb]; exact hq
    · rw [upd_ne hb] at h; exact h
  refine ⟨s.fr.trans (Ex.new hf), fun b z h n => ?_, fun b z h => ?_, fun b h => (s.ow b h).imp id (dn b), s.pa, s.pb, fun b z h => ?_⟩
  · have hb := ne_of_none h hq
    rw [upd_ne hb]
    exact s.kp b z (by rw [upd_ne hb]; exact h) n
  · by_cases hb : b = q
    · rw [hb]; exact .inr (.inl hq)
    · rw [upd_ne hb] at h
      rcases s.fn b z h with y | y | y
      · exact .inl y
      · exact .inr (.inl (dn b y))
      · exact .inr (.inr y)
  · have hb := ne_of_none h hq
    obtain ⟨z', g⟩ := s.th b z (by rw [upd_ne hb]; exact h)
    exact ⟨z', by rw [upd_ne hb]; exact g⟩
/-! ### a display with written text keys -/
def SndP (L : Lx) (W : WX) (trs : List (TE × TE)) (ks : List Str) (m : DEnv → Res (List D)) : Prop := ∀ (σ : L2.St) (Δ : DEnv) (F H : Hp) (R : List (V × V) → Hp → Prop), EnvOk L F σ Δ H →
  Want L W σ Δ F H (m Δ) (fun ds _ F' H' => ∀ vs, Reps L.K F' vs ds → vs.length = ks.length → R ((ks.map V.str).zip vs) H') → tPairs trs σ H R
structure DP (X : Cx) (L : Lx) (W : WX) (pos : Pos) (ks : List (Option Expr)) (vs : List Expr) (xs : List Str) (m : DEnv → Res (List D)) : Prop where
  ex : ∃ trs, PPs X pos ks vs trs ∧ SndP L W trs xs m
theorem dp_nil : DP X L W pos [] [] [] (fun Δ => .ok [] Δ) := ⟨[], pps_nil, fun σ Δ F H R env w => w F H env .refl [] .nil rfl⟩
theorem dp_cons {ks : List (Option Expr)} {vs : List Expr} {xs : List Str} {n : DEnv → Res (List D)} {z : Str} {c : Nat} {cp : Pos} (h : DE X L W e me) (hr : DP X L W pos ks vs xs n) : DP X L W pos (some (.Constant (.str z) c cp) :: ks) (e :: vs) (z :: xs) (consM me n) := by
  obtain ⟨te, p1, s1⟩ := h.ex
  obtain ⟨trs, p2, s2⟩ := hr.ex
  refine ⟨_, pps_cons pe_str p1 p2, fun σ Δ F H R env w => ?_⟩
  replace w : Want L W σ Δ F H ((me Δ).bind fun d Δ1 => (n Δ1).map (d :: ·)) _ := w
  show te σ H fun v H2 => tPairs trs σ H2 fun ps H3 => R ((.str z, v) :: ps) H3
  refine s1 σ Δ F H _ env (w.bind.mono fun d Δ1 F1 H1 env1 w1 v rv => ?_)
  refine s2 σ Δ1 F1 H1 _ env1 ?_
  cases q : n Δ1 with
  | stuck => rw [q] at w1; exact w1
  | ex x Δ' => rw [q] at w1; exact w1
  | ok ds Δ2 =>
    rw [q] at w1
    intro F2 H2 env2 st2 us rs hl
    exact w1 F2 H2 env2 st2 (v :: us) (.cons (rv.mono st2.fr) rs) (congrArg (· + 1) hl)
def dkOf (ks : List Str) (ds : List D) : List (Key × D) := (ks.map Sum.inr).zip ds
def dispM (ks : List Str) (n : DEnv → Res (List D)) : DEnv → Res D := fun Δ => (n Δ).bind fun ds Δ1 => gd (decide (ks.Nodup ∧ ds.length = ks.length ∧ ks.length ≤ 15)) (.ok (.dk (dkOf ks ds)) Δ1)
theorem merge_self : ∀ (more kvs : List (Key × V)), (∀ p ∈ more, ∀ q ∈ kvs, p.1 ≠ q.1) → (more.map Prod.fst).Nodup → mergeK kvs more = kvs ++ more
  | [], kvs, _, _ => by rw [List.append_nil]; rfl
  | p :: more, kvs, h, hn => by
    rw [List.map_cons, List.nodup_cons] at hn
    show mergeK (putK kvs p.1 p.2) more = _
    have hv : valV kvs p.1 = none := by
      unfold valV
      rw [List.find?_eq_none.mpr fun q hq => by simpa using fun e => h p (by simp) q hq e.symm]
      rfl
    rw [putK_new _ hv, merge_self more (kvs ++ [(p.1, p.2)]) (fun r hr q hq => ?_) hn.2, List.append_assoc]
    · rfl
    · rcases List.mem_append.mp hq with hq | hq
      · exact h r (by simp [hr]) q hq
      · rw [List.mem_singleton.mp hq]
        exact fun e => hn.1 (by rw [← e]; exact List.mem_map.mpr ⟨r, hr, rfl⟩)
theorem d_disp {ks : List (Option Expr)} {vs : List Expr} {xs : List Str} {n : DEnv → Res (List D)} (h : DP X L W pos ks vs xs n) (hall : ks.all (·.isSome) = true) (hl : ks.length = vs.length) (h0 : ks ≠ []) (h15 : ks.length ≤ 15) : DE X L W (.Dict ks vs pos) (dispM xs n) := by
  obtain ⟨trs, p1, s1⟩ := h.ex
  refine ⟨_, pe_disp p1 hall hl h0 h15, fun σ Δ F H Q env w => ?_⟩
  intro q hq
  replace w : Want L W σ Δ F H ((n Δ).bind fun ds Δ1 => gd (decide (xs.Nodup ∧ ds.length = xs.length ∧ xs.length ≤ 15)) (.ok (D.dk (dkOf xs ds)) Δ1)) _ := w
  have up : Ex H (upd H q (.dK [])) := Ex.new hq
  have env0 : EnvOk L F σ Δ (upd H q (.dK [])) := env.grow up (Ex.refl F) (env.ex.trans up) fun b o h => .inl h
  refine s1 σ Δ F _ _ env0 ?_
  cases qn : n Δ with
  | stuck => rw [qn] at w; exact w
  | ex x Δ' =>
    rw [qn] at w
    intro c dd F' H' env' st' xo
    exact w c dd F' H' env' ((Step.grow up (Ex.refl F) fun b o h => .inl h).trans st') xo
  | ok ds Δ1 =>
    rw [qn] at w
    intro F1 H1 env1 st1 us rs hlen
    obtain ⟨hb, w1⟩ := gd_ok (Q := fun d _ F' H' => ∀ v, Rep L.K F' v d → Q v H') w
    obtain ⟨b1, b2, b3⟩ := of_decide_eq_true hb
    have no : ¬ Own σ Δ q := fun z => by
      obtain ⟨u, g, _⟩ := env.own z
      rw [hq] at g; cases g
    have h1q : H1 q = some (.dK []) := st1.kp q _ upd_same no
    have no1 : ¬ Own σ Δ1 q := fun z => by
      rcases st1.ow q z with y | y
      · exact no y
      · rw [upd_same] at y; cases y
    have f1q : F1 q = none := by
      cases qf : F1 q with
      | none => rfl
      | some z =>
        rcases st1.fn q z qf with y | y | y
        · rw [env.ex.none hq] at y; cases y
        · rw [upd_same] at y; cases y
        · exact absurd y no
    have hzip : (xs.map V.str).zip us = ((xs.map (Sum.inr : Str → Key)).zip us).map fun kv => (kV kv.1, kv.2) := by
      rw [List.zip_map_left, List.zip_map_left, List.map_map]; rfl
    have hkl : ((xs.map (Sum.inr : Str → Key)).zip us).map Prod.fst = xs.map Sum.inr := by
      rw [List.map_fst_zip]; simp; omega
    refine ⟨h1q, (xs.map Sum.inr).zip us, hzip, by rw [List.length_zip, List.length_map]; omega, ?_⟩
    rw [merge_self _ [] (fun p _ q hq => by cases hq) (by rw [hkl]; exact List.Pairwise.map _ (fun a b h e => h (Sum.inr.inj e)) b1), List.nil_append]
    refine w1 _ _ (env_put env1 f1q no1) (step_put hq st1 f1q) _ ?_
    have rs' := rs.mono (Ex.new (p := q) (o := HO.dK ((xs.map Sum.inr).zip us)) f1q)
    refine .dk (.inl upd_same) (by unfold dkOf; rw [List.length_zip, List.length_zip, rs.1]) (fun i p r h1 h2 => ?_) fun i p r h1 h2 => ?_
    · unfold dkOf at h2
      rw [List.getElem?_zip_eq_some] at h1 h2
      exact Option.some.inj (h1.1.symm.trans h2.1)
    · unfold dkOf at h2
      rw [List.getElem?_zip_eq_some] at h1 h2
      exact rs'.2 i p.2 r.2 h1.2 h2.2
/-! ### d[k], d frozen -/
def keyD : D → Option Key
  | .int i => some (.inl i)
  | .str z => some (.inr z)
  | _ => none
def valD (kds : List (Key × D)) (k : Key) : Option D := (kds.find? fun kv => decide (kv.1 = k)).map (·.2)
theorem val_rep {k : Key} : ∀ {kvs : List (Key × V)} {kds : List (Key × D)}, kvs.length = kds.length → (∀ (i : Nat) p q, kvs[i]? = some p → kds[i]? = some q → p.1 = q.1) → (∀ (i : Nat) p q, kvs[i]? = some p → kds[i]? = some q → Rep L.K F p.2 q.2) →
    (∀ d, valD kds k = some d → ∃ v, valV kvs k = some v ∧ Rep L.K F v d) ∧ (valD kds k = none → valV kvs k = none)
  | [], [], _, _, _ => ⟨fun d h => (by cases h), fun _ => rfl⟩
  | [], _ :: _, h, _, _ => by simp at h
  | _ :: _, [], h, _, _ => by simp at h
  | (c, v) :: r, (c', d) :: s, h1, h2, h3 => by
    have e : c = c' := h2 0 _ _ rfl rfl
    subst e
    have ih := val_rep (k := k) (kvs := r) (kds := s) (by simpa using h1) (fun i p q a b => h2 (i + 1) p q (by simpa using a) (by simpa using b)) fun i p q a b => h3 (i + 1) p q (by simpa using a) (by simpa using b)
    by_cases hc : c = k
    · subst hc
      have e1 : valD ((c, d) :: s) c = some d := by unfold valD; rw [List.find?_cons, decide_eq_true rfl]; rfl
      have e2 : valV ((c, v) :: r) c = some v := valV_pos rfl
      rw [e1, e2]
      exact ⟨fun d' h => by cases h; exact ⟨v, rfl, h3 0 _ _ rfl rfl⟩, fun h => by cases h⟩
    · have e1 : valD ((c, d) :: s) k = valD s k := by unfold valD; rw [List.find?_cons, decide_eq_false hc]
      have e2 : valV ((c, v) :: r) k = valV r k := valV_neg hc
      rw [e1, e2]
      exact ih
def dkIx : D → D → Option D
  | .dk kds, d => (keyD d).bind fun k => valD kds k
  | _, _ => none
theorem key_v {d : D} {k : Key} {v : V} (h : keyD d = some k) (r : Rep L.K F v d) : v = kV k := by
  unfold keyD at h
  split at h
  · cases h; cases r; rfl
  · cases h; cases r; rfl
  · cases h
theorem d_dkIx (hu : X.A.units + 1 < cLine) (ho : DE X L W o mo) (h : DE X L W e me) (hs : NoSl e) : DE X L W (.Subscript o e pos) (opM dkIx mo me) := by
  obtain ⟨_, p1, s1⟩ := ho.ex
  obtain ⟨_, p2, s2⟩ := h.ex
  refine ⟨_, pe_dget hu p1 p2 hs, fun σ Δ F H Q env w => ?_⟩
  replace w : Want L W σ Δ F H ((mo Δ).bind fun x Δ1 => (me Δ1).bind fun y Δ2 => .opt (dkIx x y) Δ2) _ := w
  refine s1 σ Δ F H _ env (w.bind.mono fun d Δ1 F1 H1 env1 w1 v rv => ?_)
  refine s2 σ Δ1 F1 H1 _ env1 (Want.keep (w1.bind.mono fun d2 Δ2 F2 H2 env2 w2 st2 v2 rv2 => ?_))
  cases q : dkIx d d2 with
  | none => rw [q] at w2; exact w2.elim
  | some z =>
    rw [q] at w2
    unfold dkIx at q
    split at q
    · rename_i kds d2
      obtain ⟨k, hk, hv⟩ := Option.bind_eq_some_iff.mp q
      cases rv.mono st2.fr with
      | dk g1 g2 g3 g4 =>
        obtain ⟨y, l1, l2⟩ := (val_rep g2 g3 g4).1 z hv
        have := key_v hk rv2
        subst this
        refine ⟨_, y, rfl, .inl ⟨_, k, env2.ex.rd g1, rfl, l1.symm⟩, w2 F2 H2 env2 .refl _ l2⟩
    · cases q
/-! ### .get of a module's dict -/
def tKGet (K : PySem.W.Frag) (d : Addr) (ty : TE) : TE := fun σ H Q => ty σ H fun y H2 => ∃ z r v, y = .str z ∧ PySem.W.nsIn K d z = some r ∧ RelV v (r.getD .none) ∧ Q v H2
theorem pe_kget {d : Addr} {es : Array DictEntry} {n : Nat} {te : TE} (hg : Gl X x) (hm : X.mg x = some (.ref d)) (hl : X.K.lookup d = some ⟨.type "dict", none, .dict es n, #[]⟩) (hk : PySem.W.KeysLit X.w.params es.toList) (low : (d == sysModules) = false)
    (he : PE X e te) (m : M1 X (.Name x p) "get" apos e pos) (hdb : (x == ("__debug__" : Str)) = false) : PE X (.Call (.Attribute (.Name x p) "get" apos) [e] [] pos) (tKGet X.K d te) := by
  constructor
  intro pins s σ H Q I h
  refine wpAny_Call_method m.base m.few m.line PySem.F.plainAttrs_dict PySem.F.slot_dict_get PySem.F.type_dict_get (thn ((pe_glob (v := .ref d) hg hm rfl hdb).run pins s σ H (fun v H1 => v = .ref d ∧ te σ H1 fun y H2 => ∃ z r v, y = .str z ∧ PySem.W.nsIn X.K d z = some r ∧ RelV v (r.getD .none) ∧ Q v H2) I ⟨rfl, h⟩) fun u s1 z => ?_)
  obtain ⟨v, H1, I1, rx, ev, q1⟩ := z
  subst ev
  have hu : u = Value.ref d := rx
  subst hu
  have mp : ∀ {H : Hp} {s : Shared}, Inv X pins σ H s → s.heap.MapOf (PySem.strKind X.prog X.w) d (fun k => PySem.findBy Value.isStrOf es k) := fun I => PySem.W.mapOf_K (prog := X.prog) (w := X.w) I.kIn hl hk
  refine ⟨(mp I1).typeIs, fun b eb => ?_, ?_⟩
  · cases eb
    obtain ⟨o, a, b, h1, h2, h3, _⟩ := mp I1
    exact ⟨o, h1, h2.2.1⟩
  · rw [m.trees]
    refine wpAny_dict_get1 (knd := PySem.strKind X.prog X.w) low (thn (he.run pins s1 σ H1 _ I1 q1) fun iv s2 z => ?_)
    obtain ⟨y, H2, I2, ry, z, r, v, rfl, hr, hv, q2⟩ := z
    obtain ⟨t, rfl⟩ := ry
    refine ⟨z, _, PySem.strKind_is X.prog X.w z t, mp I2, ?_⟩
    rw [PySem.W.find_K hl hr]
    exact ⟨v, H2, I2.tok _, hv, q2⟩
def dcGet (tab : List (Str × D)) : D → Option D
  | .str z => some ((tab.lookup z).getD .non)
  | _ => none
theorem d_dcGet {d : Addr} {tab : List (Str × D)} (T : DcS X.K X.w X.mg x d tab) (low : (d == sysModules) = false) (hg : Gl X x) (hdb : (x == ("__debug__" : Str)) = false) (h : DE X L W e me) (m : M1 X (.Name x p) "get" apos e pos) (hk : L.K = X.K := by rfl) :
    DE X L W (.Call (.Attribute (.Name x p) "get" apos) [e] [] pos) (call1 (dcGet tab) me) := by
  obtain ⟨_, p2, s2⟩ := h.ex
  obtain ⟨es, n, h1, h2, h3⟩ := T.o
  refine ⟨_, pe_kget hg T.g h1 h2 low p2 m hdb, fun σ Δ F H Q env w => ?_⟩
  refine s2 σ Δ F H _ env (w.bind.mono fun y Δ1 F1 H1 env1 w1 v rv => ?_)
  cases y with
  | str z =>
    cases rv
    replace w1 : Want L W σ Δ1 F1 H1 (.ok ((tab.lookup z).getD .non) Δ1) _ := w1
    cases q : tab.lookup z with
    | none =>
      rw [q] at w1
      exact ⟨z, none, .non, rfl, T.miss q, rfl, w1 F1 H1 env1 .refl .non .non⟩
    | some y =>
      rw [q] at w1
      obtain ⟨u, r, a1, a2, a3⟩ := T.q.at q
      exact ⟨z, some u, r, rfl, a1, a2, w1 F1 H1 env1 .refl r (hk ▸ a3 F1)⟩
  | _ => exact w1.elim
end
end KL
/-! KM, part g: an object's dict of steps: self.F = {k1: self.U, k2: self.V}; self.F[k3] = g(self.U); self.F[k4] = g(self.V). -/
namespace KL
open PySem L2
def movesM (ft : Str → List Str) (f k1 k2 k3 k4 u v : Str) (i : Nat) (mf : DEnv → FRes) : DEnv → SRes := fun Δ => match getS Δ i with
  | some z => match z.2.lookup u, z.2.lookup v with
    | some a, some b => match mf [.va a], mf [.va b] with
      | .ok a' _, .ok b' _ => if (f ∈ ft z.1 ∧ u ∈ ft z.1 ∧ v ∈ ft z.1) ∧ z.2.length < 1000 ∧ [k1, k2, k3, k4].Nodup ∧ u ≠ f ∧ v ≠ f then .nx (setW Δ i (.s z.1 (putFD f (.dk [(.inr k1, a), (.inr k2, b), (.inr k3, a'), (.inr k4, b')]) z.2))) else .stuck
      | _, _ => .stuck
    | _, _ => .stuck
  | none => .stuck
section
variable {X : Cx} {L : Lx} {W : WX} {σ σ' : L2.St} {Δ Δ' Δ1 Δ2 : DEnv} {F F' F2 H H' H2 : Hp} {x : Str} {p pos apos : Pos} {i j k : Nat} {ft : Str → List Str} {mf : DEnv → FRes}
theorem upd_self {a : Addr} {u : HO} (h : H a = some u) : upd H a u = H := funext fun b => by
  by_cases hb : b = a
  · rw [hb, upd_same]; exact h.symm
  · rw [upd_ne hb]
theorem upd_upd {a : Addr} {u w : HO} : upd (upd H a u) a w = upd H a w := funext fun b => by
  by_cases hb : b = a
  · rw [hb, upd_same, upd_same]
  · rw [upd_ne hb, upd_ne hb, upd_ne hb]
theorem step_upd {q : Addr} {o : HO} (hq : H q = none) (s : Step σ Δ F H σ' Δ' F' H') : Step σ Δ F H σ' Δ' F' (upd H' q o) := by
  refine ⟨s.fr, fun b z h n => ?_, s.fn, s.ow, s.pa, s.pb, fun b z h => ?_⟩
  · rw [upd_ne (ne_of_none h hq)]; exact s.kp b z h n
  · rw [upd_ne (ne_of_none h hq)]; exact s.th b z h
theorem env_upd {q : Addr} {u : HO} (env : EnvOk L F σ Δ H) (hf : F q = none) (ho : ¬ Own σ Δ q) : EnvOk L F σ Δ (upd H q u) := by
  refine ⟨fun b o e => ?_, env.len, fun i c hc => ?_, env.apart⟩
  · rw [upd_ne (fun z => by rw [z, hf] at e; cases e)]; exact env.ex b o e
  · have k := env.cells i c hc
    have own : ∀ w, c.own? = some w → (∃ a u, slot σ i = some (.ref a) ∧ H a = some u ∧ F a = none ∧ OwnOk L.K F u w) → ∃ a u', slot σ i = some (.ref a) ∧ upd H q u a = some u' ∧ F a = none ∧ OwnOk L.K F u' w := by
      rintro w hw ⟨a, u', e1, e2, e3, e4⟩
      have : a ≠ q := fun z => ho ⟨i, c, w, hc, hw, by rw [← z]; exact e1⟩
      exact ⟨a, u', e1, by rw [upd_ne this]; exact e2, e3, e4⟩
    cases c with
    | no => trivial
    | va d => exact k
    | owv w => exact own w rfl k
    | pav w => exact own w rfl k
    | xc x => exact k
/-- what is left by a def that has values alone -/
theorem call_val {v : V} {d d' : D} {cs' : DEnv} {Q : VK} {E : XK} {n : Nat} (hn : 1 = n) (ex : Ex F H) (hv : Rep L.K F v d) (hF : mf [.va d] = .ok d' cs') (q : ∀ u F' H', Gro F H F' H' → Rep L.K F' u d' → Q u H') : spD L n mf [v] H Q E := by
  subst hn
  have no : ∀ b, ¬ Own ([v].map some) [Cell.va d] b := fun b ⟨j, c, w, h1, h2, _⟩ => by
    match j, h1 with
    | 0, h1 => cases h1; cases h2
    | n + 1, h1 => simp at h1
  refine ⟨rfl, [.va d], F, ⟨ex, rfl, fun j c h => ?_, fun j k c c' xs ys a hjk h1 h2 q1 q2 e1 => ?_⟩, fun j xs h => ?_, ?_⟩
  · match j, h with
    | 0, h => cases h; exact ⟨v, rfl, hv⟩
    | n + 1, h => simp at h
  · match j, h1 with
    | 0, h1 => cases h1; cases q1
    | n + 1, h1 => simp at h1
  · match j, h with
    | 0, h => cases h
    | n + 1, h => simp at h
  · rw [hF]
    intro u F' H' env' st' ru
    exact q u F' H' ⟨fun b o h => st'.kp b o h (no b), st'.fr, env'.ex, fun b o h => (st'.fn b o h).elim .inl fun y => y.elim .inr fun z => absurd z (no b)⟩ ru
theorem putC_own {c : Cell} {w w' : OwnV} (h : c.own? = some w) : (putC w' c).own? = some w' := by
  cases c with
  | owv _ => rfl
  | pav _ => rfl
  | _ => cases h
theorem putC_putC {c : Cell} {w w' : OwnV} : putC w (putC w' c) = putC w c := by cases c <;> rfl
theorem setW_setW {w w' : OwnV} : setW (setW Δ i w') i w = setW Δ i w := by
  apply List.ext_getElem?
  intro j
  rw [setW_get, setW_get, setW_get, setW_get]
  by_cases hj : j = i
  · rw [if_pos hj, if_pos hj, if_pos rfl]
    cases (Δ[i]? : Option Cell) with
    | none => rfl
    | some c => show some (putC w (putC w' c)) = some (putC w c); rw [putC_putC]
  · rw [if_neg hj, if_neg hj, if_neg hj]
theorem ss_moves {y g : Str} {f k1 k2 k3 k4 u v : Str} {c1 c2 c3 c4 : Nat} {p1 p2 p3 p4 p5 p6 p7 p8 p9 q1 q2 q3 q4 q5 q6 q7 q8 q9 t1 t2 t3 r1 r2 r3 r4 r5 s1 s2 s3 s4 : Pos} {fa : Addr} {ps : List Str}
    (T : ∀ x, ft x ≠ [] → ClsT L.K ft x) (C : Cal X.prog X.w X.K X.mg X.base L fa j ps mf) (hr : Room k X.A) (hj : j ≤ k) (hg : Gl X g) (hm : X.mg g = some (.ref fa)) (tk : Takes X W) (hps : 1 = ps.length) (hu : X.A.units + 1 < cLine)
    (hN : X.N[i]? = some y) (hv : Vis X.env.scope y) (hd : (y == ("__debug__" : Str)) = false) (hcd : (y == ("__classdict__" : Str)) = false) (hdb : (g == ("__debug__" : Str)) = false)
    (b1 : ∀ a n (p q : Pos), attributeBase (.Name n p) a X.env (eval (.Name n p) X.env) = eval (.Name n p) X.env := by intros; rfl)
    (w1 : swapsWith (.Dict [some (.Constant (.str k1) c1 p1), some (.Constant (.str k2) c2 p2)] [.Attribute (.Name y p3) u p4, .Attribute (.Name y p5) v p6] p7) (some (.Attribute (.Name y p8) f p9)) t1.line X.env = pure false := by rfl)
    (w2 : swapsWith (.Call (.Name g q1) [.Attribute (.Name y q2) u q3] [] q4) (some (.Subscript (.Attribute (.Name y q5) f q6) (.Constant (.str k3) c3 q7) q8)) t2.line X.env = pure false := by rfl)
    (w3 : swapsWith (.Call (.Name g r1) [.Attribute (.Name y r2) v r3] [] r4) (some (.Subscript (.Attribute (.Name y r5) f s1) (.Constant (.str k4) c4 s2) s3)) t3.line X.env = pure false := by rfl)
    (e1 : starEach [.Attribute (.Name y q2) u q3] X.env = (false, eval (.Attribute (.Name y q2) u q3) X.env) :: starEach [] X.env := by rfl) (e2 : starEach [.Attribute (.Name y r2) v r3] X.env = (false, eval (.Attribute (.Name y r2) v r3) X.env) :: starEach [] X.env := by rfl)
    (l1 : (backTo q4 (starEach [] X.env)).any (·.1) = false := by rfl) (l2 : (backTo r4 (starEach [] X.env)).any (·.1) = false := by rfl) (hk : L.K = X.K := by rfl) :
    DSs X L W [.Assign [.Attribute (.Name y p8) f p9] (.Dict [some (.Constant (.str k1) c1 p1), some (.Constant (.str k2) c2 p2)] [.Attribute (.Name y p3) u p4, .Attribute (.Name y p5) v p6] p7) t1,
      .Assign [.Subscript (.Attribute (.Name y q5) f q6) (.Constant (.str k3) c3 q7) q8] (.Call (.Name g q1) [.Attribute (.Name y q2) u q3] [] q4) t2,
      .Assign [.Subscript (.Attribute (.Name y r5) f s1) (.Constant (.str k4) c4 s2) s3] (.Call (.Name g r1) [.Attribute (.Name y r2) v r3] [] r4) t3] (movesM ft f k1 k2 k3 k4 u v i mf) := by
  obtain ⟨fd, bd, Fo⟩ := C.ex
  have nv : ∀ {p : Pos}, PE X (.Name y p) (tVar i) := pe_var hN hv hd hcd
  have fl : ∀ {a : Str} {p q : Pos}, PE X (.Attribute (.Name y p) a q) (tFld X.K (tVar i) a) := fun {a p q} => pe_fld nv (b1 a y p q)
  refine ⟨_, pss_cons (ps_fld nv (pe_disp (pps_cons pe_str fl (pps_cons pe_str fl pps_nil)) rfl rfl (by simp) (by simp)) w1)
    (pss_cons (ps_dput hu fl pe_str (pe_callS Fo (hr.mono hj) hg hm C.kp bd (fun σ => passAt tk σ) (pa_cons fl pa_nil e1) hdb e1 l1) w2)
      (pss_one (ps_dput hu fl pe_str (pe_callS Fo (hr.mono hj) hg hm C.kp bd (fun σ => passAt tk σ) (pa_cons fl pa_nil e2) hdb e2 l2) w3))), fun σ Δ F H E env w => ?_⟩
  unfold movesM at w
  cases qs : getS Δ i with
  | none => rw [qs] at w; exact w.elim
  | some z =>
    rw [qs] at w
    cases qu : z.2.lookup u with
    | none => simp only [qu] at w; exact w.elim
    | some da =>
    cases qv : z.2.lookup v with
    | none => simp only [qu, qv] at w; exact w.elim
    | some db =>
    simp only [qu, qv] at w
    cases m1 : mf [.va da] with
    | ok da' cs1 =>
      cases m2 : mf [.va db] with
      | ok db' cs2 =>
        simp only [m1, m2] at w
        split at w
        case isFalse => exact w.elim
        rename_i hcond
        obtain ⟨⟨hf1, hf2, hf3⟩, hlen, hnd, huf, hvf⟩ := hcond
        obtain ⟨c, g1, g2, g3⟩ := getS_cell qs
        obtain ⟨a, C0, dx, fvs, s1, h1, n1, le1, ke1, re1⟩ := obj_at env g1 g3
        have fa : F a = none := by
          obtain ⟨a', u', x1, x2, x3, _⟩ := (env.cells i c g1).own g2
          rw [s1] at x1; cases x1; exact x3
        obtain ⟨C', c1, c2, c3⟩ := (T z.1 (fun y => by rw [y] at hf1; cases hf1)).ex
        have n1' := n1
        rw [c1] at n1'
        injection n1' with n1'
        injection n1' with n1'
        injection n1' with n1'
        subst n1'
        obtain ⟨vu, lu, ru⟩ := look_rep le1 ke1 re1 qu
        obtain ⟨vv, lv, rv⟩ := look_rep le1 ke1 re1 qv
        rw [hk] at c2 c3
        have cf := c3 f hf1
        have cu := c3 u hf2
        have cv := c3 v hf3
        have fl' : fvs.length < 1000 := by rw [le1]; exact hlen
        intro b hb
        have nab : a ≠ b := ne_of_none h1 hb
        have fb : F b = none := env.ex.none hb
        have nob : ¬ Own σ Δ b := fun y => by
          obtain ⟨u', y1, _⟩ := env.own y
          rw [hb] at y1; cases y1
        have ha1 : upd H b (.dK []) a = some (.ins C' dx fvs) := by rw [upd_ne nab]; exact h1
        refine ⟨.ref a, slot_some s1, a, C', dx, fvs, vu, rfl, ha1, c2, cu, lu, .ref a, slot_some s1, a, C', dx, fvs, vv, rfl, ha1, c2, cv, lv, upd_same, [(.inr k1, vu), (.inr k2, vv)], rfl, by simp, ?_⟩
        have hm2 : mergeK [] [((.inr k1 : Key), vu), (.inr k2, vv)] = [(.inr k1, vu), (.inr k2, vv)] := by
          rw [merge_self _ [] (fun p _ q hq => by cases hq) (by
            show [(Sum.inr k1 : Key), .inr k2].Nodup
            have h12 : k1 ≠ k2 := by
              intro e; rw [e] at hnd; simp at hnd
            simp [h12]), List.nil_append]
        rw [hm2, upd_upd]
        have ha2 : upd H b (.dK [((.inr k1 : Key), vu), (.inr k2, vv)]) a = some (.ins C' dx fvs) := by rw [upd_ne nab]; exact h1
        refine ⟨.ref a, slot_some s1, a, C', dx, fvs, rfl, ha2, c2, cf, fl', ?_⟩
        -- the frame behind the first statement
        have envA : EnvOk L F σ Δ (upd H b (.dK [((.inr k1 : Key), vu), (.inr k2, vv)])) := env.grow (Ex.new hb) (Ex.refl F) (env.ex.trans (Ex.new hb)) fun b o h => .inl h
        have stA : Step σ Δ F H σ Δ F (upd H b (.dK [((.inr k1 : Key), vu), (.inr k2, vv)])) := Step.grow (Ex.new hb) (Ex.refl F) fun b o h => .inl h
        obtain ⟨r1, r2, r3⟩ := putF_rep (f := f) (Rep.fn (K := L.K) (F := F) b) le1 ke1 re1
        obtain ⟨envB, stB⟩ := envA.mutW (w := .s z.1 (putFD f (.fn b) z.2)) (u := .ins C' dx (putF f (.ref b) fvs)) g1 g2 s1 ha2 fa (.s n1 r1 r2 r3)
        generalize hH3 : upd (upd H b (.dK [((.inr k1 : Key), vu), (.inr k2, vv)])) a (.ins C' dx (putF f (.ref b) fvs)) = H3 at envB stB ⊢
        have a3 : H3 a = some (.ins C' dx (putF f (.ref b) fvs)) := by rw [← hH3, upd_same]
        have b3 : H3 b = some (.dK [((.inr k1 : Key), vu), (.inr k2, vv)]) := by rw [← hH3, upd_ne nab.symm, upd_same]
        have nob2 : ¬ Own σ (setW Δ i (.s z.1 (putFD f (.fn b) z.2))) b := fun y => by
          rcases stB.ow b y with q | q
          · exact nob q
          · rw [upd_same] at q; cases q
        have lkf : (putF f (.ref b) fvs).lookup f = some (.ref b) := by rw [lookup_putF, if_pos rfl]
        have lku : (putF f (.ref b) fvs).lookup u = some vu := by rw [lookup_putF, if_neg huf]; exact lu
        have lkv : (putF f (.ref b) fvs).lookup v = some vv := by rw [lookup_putF, if_neg hvf]; exact lv
        -- the second one
        refine ⟨.ref a, slot_some s1, a, C', dx, _, vu, rfl, a3, c2, cu, lku, call_val hps envB.ex ru m1 fun v3 F1 H4 gr rv3 => ?_⟩
        have f1b : F1 b = none := by
          cases q : F1 b with
          | none => rfl
          | some o =>
            rcases gr.n b o q with y | y
            · rw [fb] at y; cases y
            · rw [b3] at y; cases y
        refine ⟨.ref a, slot_some s1, a, C', dx, _, .ref b, rfl, gr.h _ _ a3, c2, cf, lkf, b, _, rfl, DPut.k (k := .inr k3) (gr.h _ _ b3) (by rw [sizeLine_eq]; simp), ?_⟩
        have kk : k1 ≠ k3 ∧ k2 ≠ k3 ∧ k1 ≠ k4 ∧ k2 ≠ k4 ∧ k3 ≠ k4 := by
          simp at hnd
          obtain ⟨⟨x1, x2, x3⟩, ⟨x4, x5⟩, x6⟩ := hnd
          exact ⟨x2, x4, x3, x5, x6⟩
        have hp3 : putK [((.inr k1 : Key), vu), (.inr k2, vv)] (.inr k3) v3 = [(.inr k1, vu), (.inr k2, vv), (.inr k3, v3)] := by
          rw [putK_new _ (by unfold valV; simp [kk.1, kk.2.1])]; rfl
        rw [hp3]
        have envC := envB.gro gr
        have envD := env_upd (u := .dK [((.inr k1 : Key), vu), (.inr k2, vv), (.inr k3, v3)]) envC f1b nob2
        have stD := step_upd (o := .dK [((.inr k1 : Key), vu), (.inr k2, vv), (.inr k3, v3)]) hb ((stA.trans stB).trans (Step.gro gr))
        generalize hH5 : upd H4 b (.dK [((.inr k1 : Key), vu), (.inr k2, vv), (.inr k3, v3)]) = H5 at envD stD ⊢
        have a5 : H5 a = some (.ins C' dx (putF f (.ref b) fvs)) := by rw [← hH5, upd_ne nab]; exact gr.h _ _ a3
        have b5 : H5 b = some (.dK [((.inr k1 : Key), vu), (.inr k2, vv), (.inr k3, v3)]) := by rw [← hH5, upd_same]
        -- the third one
        refine ⟨.ref a, slot_some s1, a, C', dx, _, vv, rfl, a5, c2, cv, lkv, call_val hps envD.ex (rv.mono gr.f) m2 fun v4 F2 H6 gr2 rv4 => ?_⟩
        have f2b : F2 b = none := by
          cases q : F2 b with
          | none => rfl
          | some o =>
            rcases gr2.n b o q with y | y
            · rw [f1b] at y; cases y
            · rw [b5] at y; cases y
        refine ⟨.ref a, slot_some s1, a, C', dx, _, .ref b, rfl, gr2.h _ _ a5, c2, cf, lkf, b, _, rfl, DPut.k (k := .inr k4) (gr2.h _ _ b5) (by rw [sizeLine_eq]; simp), ?_⟩
        have hp4 : putK [((.inr k1 : Key), vu), (.inr k2, vv), (.inr k3, v3)] (.inr k4) v4 = [(.inr k1, vu), (.inr k2, vv), (.inr k3, v3), (.inr k4, v4)] := by
          rw [putK_new _ (by unfold valV; simp [kk.2.2.1, kk.2.2.2.1, kk.2.2.2.2])]; rfl
        rw [hp4]
        have envG := env_put (u := .dK [((.inr k1 : Key), vu), (.inr k2, vv), (.inr k3, v3), (.inr k4, v4)]) (envD.gro gr2) f2b nob2
        have stG := (step_upd (o := .dK [((.inr k1 : Key), vu), (.inr k2, vv), (.inr k3, v3), (.inr k4, v4)]) hb (stD.trans (Step.gro gr2))).frz (o := .dK [((.inr k1 : Key), vu), (.inr k2, vv), (.inr k3, v3), (.inr k4, v4)]) f2b (.inl hb)
        generalize hF3 : upd F2 b (.dK [((.inr k1 : Key), vu), (.inr k2, vv), (.inr k3, v3), (.inr k4, v4)]) = F3 at envG stG
        have b7 : F3 b = some (.dK [((.inr k1 : Key), vu), (.inr k2, vv), (.inr k3, v3), (.inr k4, v4)]) := by rw [← hF3, upd_same]
        have exF23 : Ex F2 F3 := by rw [← hF3]; exact Ex.new f2b
        generalize hH7 : upd H6 b (.dK [((.inr k1 : Key), vu), (.inr k2, vv), (.inr k3, v3), (.inr k4, v4)]) = H7 at envG stG ⊢
        have a7 : H7 a = some (.ins C' dx (putF f (.ref b) fvs)) := by rw [← hH7, upd_ne nab]; exact gr2.h _ _ a5
        have cell2 : (setW Δ i (.s z.1 (putFD f (.fn b) z.2)))[i]? = some (putC (.s z.1 (putFD f (.fn b) z.2)) c) := by rw [setW_get, if_pos rfl, g1]; rfl
        have fa3 : F3 a = none := by
          obtain ⟨a', u', x1, x2, x3, _⟩ := (envG.cells i _ cell2).own (putC_own g2)
          rw [s1] at x1; cases x1; exact x3
        have rep : Rep L.K F3 (.ref b) (.dk [(.inr k1, da), (.inr k2, db), (.inr k3, da'), (.inr k4, db')]) := by
          have y1 : Rep L.K F3 vu da := ru.mono stG.fr
          have y2 : Rep L.K F3 vv db := rv.mono stG.fr
          have y3 : Rep L.K F3 v3 da' := (rv3.mono gr2.f).mono exF23
          have y4 : Rep L.K F3 v4 db' := rv4.mono exF23
          refine .dk (.inl b7) rfl (fun n p q e1 e2 => ?_) fun n p q e1 e2 => ?_
          · match n, e1, e2 with
            | 0, e1, e2 => cases e1; cases e2; rfl
            | 1, e1, e2 => cases e1; cases e2; rfl
            | 2, e1, e2 => cases e1; cases e2; rfl
            | 3, e1, e2 => cases e1; cases e2; rfl
            | n + 4, e1, e2 => simp at e1
          · match n, e1, e2 with
            | 0, e1, e2 => cases e1; cases e2; exact y1
            | 1, e1, e2 => cases e1; cases e2; exact y2
            | 2, e1, e2 => cases e1; cases e2; exact y3
            | 3, e1, e2 => cases e1; cases e2; exact y4
            | n + 4, e1, e2 => simp at e1
        obtain ⟨t1, t2, t3⟩ := putF_rep (f := f) rep le1 ke1 fun n p q e1 e2 => (re1 n p q e1 e2).mono stG.fr
        obtain ⟨envH, stH⟩ := envG.mutW (w := .s z.1 (putFD f (.dk [(.inr k1, da), (.inr k2, db), (.inr k3, da'), (.inr k4, db')]) z.2)) (u := .ins C' dx (putF f (.ref b) fvs)) cell2 (putC_own g2) s1 a7 fa3 (.s n1 t1 t2 t3)
        rw [upd_self a7, setW_setW] at envH stH
        exact w σ F3 H7 envH (stG.trans stH)
      | _ => simp only [m1, m2] at w; exact w.elim
    | _ => simp only [m1] at w; exact w.elim
end
end KL
/-! KM, part h: the own error with two fields: super().__init__(what); self.what = what; self.many = many. -/
namespace KL
section
open PySem PySem.W PySem.Calls PyProof.Rows PySem.HandSPX
def xjA (p1 p2 p3 : Pos) : Arguments := ⟨[], [⟨"self", none, p1⟩, ⟨"what", none, p2⟩, ⟨"many", none, p3⟩], none, [], [], none, []⟩
def xjB (a1 a2 a3 a4 a5 a6 b1 b2 b3 b4 c1 c2 c3 c4 : Pos) : List Stmt :=
  [.Expr (.Call (.Attribute (.Call (.Name "super" a1) [] [] a2) "__init__" a3) [.Name "what" a4] [] a5) a6, .Assign [.Attribute (.Name "self" b1) "what" b2] (.Name "what" b3) b4, .Assign [.Attribute (.Name "self" c1) "many" c2] (.Name "many" c3) c4]
def xjS : Scope := ⟨.function, [(Str.ofString "self", .local), (Str.ofString "what", .local), (Str.ofString "many", .local), (Str.ofString "__class__", .free), (Str.ofString "super", .globalImplicit)], false, false, []⟩
/-- what the written part says of the class at C, called x, and of its __init__, at fI -/
structure XTxt2 (prog : Program) (K : Frag) (mg : Str → Option Value) (x : Str) (C fI : Addr) : Prop where
  gC : mg x = some (.ref C)
  cls : ∃ nm q N bs bm sn sub ab col dd k0 k1 k2 k3 k5, K.lookup C = some (excClassObj nm q C N bs bm true sn sub ab col dd k0 k1 k2 k3 k5 "ValueError.__new__") ∧ refsVE bm = true
  xi : excInitIn K C veTail "ValueError.__new__" = true
  sa : findIn K (.ref C) "__setattr__" = some (some (.builtin "object.__setattr__"))
  ga : findIn K (.ref C) "__getattribute__" = some (some (.builtin "BaseException.__getattribute__"))
  gg : findIn K (.ref C) "__getattr__" = some none
  noN : findIn K (.ref C) "what" = some none
  noM : findIn K (.ref C) "many" = some none
  iC : findIn K (.ref C) "__init__" = some (some (.ref fI))
  tC : typeIn K (.ref fI) = some (.type "function")
  kC : keepIn K (.ref C) = true
  exC : subIn K (.ref C) (.type "BaseException") = some true
  exV : subIn K (.ref C) (.type "ValueError") = some true
  slf : mroIn K C (.ref C) = some true
  tyC : typeIn K (.ref C) = some (.type "type")
  hdC : hasDictIn K C = true
  sup : ks_superIn K C C "__init__" = some (some (.builtin "ValueError.__init__"))
  gS : mg "super" = none
  opq : nsIn K cStatics "thirdparty.any" = some none
  top : (prog.main.scope.names.lookup ("super" : Str)).isSome = false
  fn : ∃ (oc : Value) (od : Option Addr) (qual : Str) (doc pm : Value) (an : Option Addr) (ct : Value) (osl : Array (Option Value)) (cda cc : Addr) (p1 p2 p3 a1 a2 a3 a4 a5 a6 b1 b2 b3 b4 c1 c2 c3 c4 : Pos), (a3.endLine == a5.line) = true ∧
    K.lookup fI = some ⟨oc, od, .func (ksFn "__init__" qual (xjA p1 p2 p3) (xjB a1 a2 a3 a4 a5 a6 b1 b2 b3 b4 c1 c2 c3 c4) xjS .none .none doc pm an (.ref cda) ct cc), osl⟩ ∧ codeIn K (.ref cda) qual = true ∧
    (∃ (ccl : Value) (cdd : Option Addr) (vs : Array Value) (ccs : Array (Option Value)) (file : Str) (tf : Tok), K.lookup cda = some ⟨ccl, cdd, .fields vs, ccs⟩ ∧ vs[2]? = some (.str file tf) ∧ ((prog.main.file : Str) == file) = true) ∧
    ∃ (cl : Value) (cld : Option Addr) (csl : Array (Option Value)), K.lookup cc = some ⟨cl, cld, .cell (some (.ref C)), csl⟩
abbrev xmap (v u : Value) : Str → Option Value := fun y => if y = "many" then some u else if y = "what" then some v else none
/-- what __init__ leaves of a fresh exception at x -/
structure InitLeft2 (h h' : Heap) (x C dx t1 : Addr) (v u : Value) : Prop where
  keep : ∀ b o, b ≠ x → h.get? b = some o → h'.get? b = some o
  obj : h'.get? x = some (excObj C t1 (some dx) .none)
  dbig : h.objs.size ≤ dx
  dne : dx ≠ x
  ns : h'.Ns1 dx (xmap v u)
structure ErrMade2 (h h' : Heap) (e C d : Addr) (v u : Value) : Prop where
  keep : ∀ b o, h.get? b = some o → h'.get? b = some o
  new : h.objs.size ≤ e
  obj : ∃ t1, h'.get? e = some (excObj C t1 (some d) .none)
  dbig : h.objs.size ≤ d
  dne : d ≠ e
  ns : h'.Ns1 d (xmap v u)
section
variable {prog : Program} {w : World} {A : Around} {R : Result → Shared → Prop} {s : Shared} {K : Frag} {mg mb : Str → Option Value} {n : Str} {C fI : Addr}
theorem err_init2 (T : XTxt2 prog K mg n C fI) {x t0 : Addr} {v u2 : Value} (kin : K.In s.heap) (hlim : s.heap.NoLimit) (hG : s.heap.Ns mainGlobals mg) (hB : s.heap.Ns builtinsNs mb) (hbs : mb "super" = some (.type "super"))
    (hx : s.heap.get? x = some (excObj C t0 none .none)) (hnx : K.lookup x = none) (hroom : A.depth < recursionLimit)
    (hq : ∀ h' tk dx t1, InitLeft2 s.heap h' x C dx t1 v u2 → R (.ok (.ret .none)) { s with heap := h', toks := tk }) :
    codeAny (model prog w) A (.call (.ref fI) ⟨[.ref x, v, u2], []⟩) R s := by
  obtain ⟨oc, od, qual, doc, pm, an, ct, osl, cda, cc, p1, p2, p3, a1, a2, a3, a4, a5, a6, b1, b2, b3, b4, c1, c2, c3, c4, hpos, lf, hcd, ⟨ccl, cdd, vs, ccs, file, tf, lc, hvs, hfile⟩, cl, cld, csl, ll⟩ := T.fn
  obtain ⟨nm, q, N, bs, bm, sn, sub, ab, col, dd, k0, k1, k2, k3, k5, hC, hbm⟩ := T.cls
  have hcl : clsIn K C = some { name := nm, bases := bs, mro := .ref C :: bm, ns := N, qualname := q, hasDict := true, slotNames := sn, subclasses := sub, abstract := ab, collection := col, hasDel := false } := by unfold clsIn; rw [hC] <;> rfl
  refine ks_codeAny_call_defAt (binds := [("self", .ref x), ("what", v), ("many", u2)]) (body := xjB a1 a2 a3 a4 a5 a6 b1 b2 b3 b4 c1 c2 c3 c4) hroom (kin _ _ lf) rfl hlim (codeRec_of kin hcd) rfl (BindsTo.of_eq (by first | rfl | with_unfolding_all rfl)) (by show ∀ y ∈ xjS.names, y.2 ≠ .cell; decide) (by show ∀ y ∈ [(Str.ofString "self", Value.ref x), (Str.ofString "what", v), (Str.ofString "many", u2)], xjS.names.lookup y.1 = some .local; exact locs (by first | rfl | decide | decide +kernel)) (fun h1 hns k => ?_) rfl rfl rfl
  have kinG : K.In (hideAll s.heap [x]) := fun a o e => hideAll_get _ (kin _ _ e) (by
    intro z
    rw [List.mem_singleton] at z
    rw [z, hnx] at e; cases e)
  have fr : Fr (hideAll s.heap [x]) s.heap.objs.size h1 (fun y => [(("self" : Str), Value.ref x), ("what", v), ("many", u2)].reverse.lookup y) := ⟨hns, fun b o e => k b o (of_hideAll _ e), Nat.le_of_eq (hideAll_size _ _)⟩
  have hxL : x ≠ s.heap.objs.size := Nat.ne_of_lt (Heap.lt_size hx)
  have nw : News (hideAll s.heap [x]) s.heap.objs.size h1 [(x, excObj C t0 none .none)] := fun p hp => by
    rw [List.mem_singleton] at hp
    subst hp
    exact ⟨k _ _ hx, hxL, hideAll_none _ (List.mem_singleton.mpr rfl)⟩
  have keepG : ∀ {h' : Heap} {mm : Str → Option Value}, Fr (hideAll s.heap [x]) s.heap.objs.size h' mm → ∀ b o, b ≠ x → s.heap.get? b = some o → h'.get? b = some o := fun F b o hb e => F.keep b o (hideAll_get _ e (by rw [List.mem_singleton]; exact hb))
  obtain ⟨pl, he⟩ := sup_eval (a1 := a1) (a2 := a2) (a4 := a4) (env := ksEnv qual xjS s.heap.objs.size fI (.ref cda) cc) hpos
  refine ks_wpAt_execs_cons (ks_wpAt_Expr_any (ks_wpAt_MethodCall ?_ he))
  refine sup_node (K := K) (odx := none) (D := C) (C := C) (scope := xjS) (q := qual) fr kinG nw (hG.keeps k) T.gS (hB.keeps k) hbs lf rfl rfl ⟨k _ _ hx, rfl, rfl, trivial⟩ lc hvs hfile ll hcl T.slf (by decide) rfl rfl rfl rfl T.top fun so h2 fr2 nw2 lt2 => ?_
  have x2 : h2.get? x = some (excObj C t0 none .none) := (nw2 (x, excObj C t0 none .none) (by simp)).1
  refine kxs_method (so := so) (odx := none) kxs_ValueError fr2 kinG nw2 (.head _) ⟨x2, rfl, rfl, trivial⟩ T.opq T.sup T.exV (by decide) fun u h3 fr3 nw3 lt3 => ?_
  refine kxs_callWith1 nw3 (.head _) ?_ rfl rfl
  have hne : so ≠ x := Ne.symm (Nat.ne_of_lt (lt2 (x, excObj C t0 none .none) (by simp)))
  have hnu : u ≠ x := Ne.symm (Nat.ne_of_lt (lt3 (x, excObj C t0 none .none) (by simp)))
  refine PySem.Calls.spliced_cons (ldM fr3.ns (v := v) rfl (PySem.Calls.spliced_nil ⟨?_, ?_⟩) rfl rfl rfl)
  · exact kxs_at nw3 (.head _)
  refine kxs_call fr3 kinG nw3 PySem.F.excBase_ValueError T.xi (.head _) (.tail hnu (.tail hne (.head (by simp)))) (by show 1 ≤ sizeLine; rw [sizeLine_eq]; omega) fun t1 h4 fr4 nw4 lt4 => ?_
  have L0 : s.heap.objs.size < h4.objs.size := fr4.ns.lt
  -- self.what = what
  refine wpAt_of_wpAny (wpAny_execs_cons (plainObj_wpAny_Assign_Attribute (ldM fr4.ns rfl (ldM fr4.ns rfl ?_ rfl rfl rfl) rfl rfl rfl)))
  have x4 : h4.get? x = some (excObj C t1 none .none) := (nw4 (x, excObj C t1 none .none) (by simp)).1
  refine set_plain (kinG.keeps fr4.keep) (ox := excObj C t1 none .none) (od := none) ⟨x4, rfl, rfl, trivial⟩ T.sa ?_
  refine exc_osa (kinG.keeps fr4.keep) x4 hcl (show refsVE (.ref C :: bm) = true from hbm) rfl T.noN (fun h5 tk5 dx k5 dn dne x5 n5 => ?_)
  -- self.many = many
  have ns5 : h5.Ns s.heap.objs.size (fun y => [(("self" : Str), Value.ref x), ("what", v), ("many", u2)].reverse.lookup y) := fr4.ns.at' (fun o e => k5 _ o (Ne.symm hxL) e)
  have kin5 : K.In h5 := fun a o e => k5 a o (fun z => by rw [z, hnx] at e; cases e) (kinG.keeps fr4.keep a o e)
  have hns5 := n5
  refine wpAny_execs_cons (plainObj_wpAny_Assign_Attribute (ldM ns5 rfl (ldM ns5 rfl ?_ rfl rfl rfl) rfl rfl rfl))
  obtain ⟨oD, eD, pD, hoD, _, _⟩ := n5
  refine set_plain kin5 (ox := excObj C t1 (some dx) .none) (od := some oD) ⟨x5, rfl, rfl, hoD⟩ T.sa ?_
  refine PySem.OEX.osa_old (dx := dx) (m0 := fun y => if y = "what" then some v else none) (nl := ["what"]) kin5 x5 hns5 ?_ (by decide) hcl (show refsVE (.ref C :: bm) = true from hbm) rfl T.noM (fun h6 tk6 k6 n6 => ?_)
  · intro y hy
    by_cases e : y = "what"
    · rw [e]; exact List.mem_cons_self
    · exact absurd (if_neg e) hy
  refine wpAny_execs_nil (hq h6 tk6 dx t1 ⟨fun b o hb e => ?_, k6 x _ (Ne.symm dne) x5, ?_, dne, n6⟩)
  · have e4 := keepG fr4 b o hb e
    exact k6 b o (Nat.ne_of_lt (Nat.lt_of_lt_of_le (Heap.lt_size e4) dn)) (k5 b o hb e4)
  · exact Nat.le_of_lt (Nat.lt_of_lt_of_le L0 dn)
theorem err_made2 (T : XTxt2 prog K mg n C fI) {v u2 : Value} (kin : K.In s.heap) (hlim : s.heap.NoLimit) (hG : s.heap.Ns mainGlobals mg) (hB : s.heap.Ns builtinsNs mb) (hbs : mb "super" = some (.type "super")) (hroom : A.depth + 1 < recursionLimit)
    (hq : ∀ h' tk e d, ErrMade2 s.heap h' e C d v u2 → R (.ok (.ret (.ref e))) { s with heap := h', toks := tk }) : codeAny (model prog w) A (.call (.ref C) ⟨[v, u2], []⟩) R s := by
  obtain ⟨nm, q, N, bs, bm, sn, sub, ab, col, dd, k0, k1, k2, k3, k5, hC, hbm⟩ := T.cls
  obtain ⟨hp, g, dr, tk, os⟩ := s
  have up : ∀ b o, hp.get? b = some o → ((hp.push (kdv_tup [v, u2])).push (excO C hp.objs.size)).get? b = some o := fun b o e => Heap.get?_push_of_some _ (Heap.get?_push_of_some _ e)
  have hget : ((hp.push (kdv_tup [v, u2])).push (excO C hp.objs.size)).get? (hp.objs.size + 1) = some (excO C hp.objs.size) := by heap_get
  have hnx : K.lookup (hp.objs.size + 1) = none := by
    cases e : K.lookup (hp.objs.size + 1) with
    | none => rfl
    | some o => exact absurd (Nat.lt_of_succ_lt (Heap.lt_size (show hp.get? (hp.objs.size + 1) = some o from kin _ _ e))) (Nat.lt_irrefl _)
  refine call_own F.excBase_ValueError (fun Y => refsVE_contains Y bm hbm) (kin _ _ hC) (looks_findIn kin T.iC) (fun self => bind_fn kin self T.tC) (by show 2 ≤ sizeLine; rw [sizeLine_eq]; omega)
    (err_init2 (s := ⟨(hp.push (kdv_tup [v, u2])).push (excO C hp.objs.size), g, dr, tk, os⟩) T (kin.keeps up) (hlim.keeps up) (hG.keeps up) (hB.keeps up) hbs hget hnx (by show A.depth + 1 < recursionLimit; exact hroom) fun h' tk' dx t1 M => ?_)
  have old : ∀ b o, hp.get? b = some o → h'.get? b = some o := fun b o e => M.keep b o (Nat.ne_of_lt (Nat.lt_succ_of_lt (Heap.lt_size e))) (up b o e)
  have z : hp.objs.size + 1 + 1 ≤ dx := by
    have q := M.dbig
    rw [Heap.size_push, Heap.size_push] at q; exact q
  exact ⟨rfl, hq h' tk' (hp.objs.size + 1) dx ⟨old, Nat.le_succ _, ⟨t1, M.obj⟩, Nat.le_trans (Nat.le_add_right _ 2) z, M.dne, M.ns⟩⟩
end
end
open PySem L2
theorem relO_many {v1 v2 : V} {u1 u2 : Value} (r1 : RelV v1 u1) (r2 : RelV v2 u2) (f : Str) : RelO (List.lookup f [(("what" : Str), v1), ("many", v2)]) (xmap u1 u2 f) := by
  unfold xmap
  by_cases h : f = "what"
  · subst h; exact r1
  · have q : (f == ("what" : Str)) = false := by simpa using h
    rw [List.lookup_cons, q]
    by_cases h2 : f = "many"
    · subst h2; exact r2
    · have q2 : (f == ("many" : Str)) = false := by simpa using h2
      rw [if_neg h2, if_neg h]
      show RelO (List.lookup f [(("many" : Str), v2)]) none
      rw [List.lookup_cons, q2]; trivial
def tWhat2 (C : Addr) (ta : TA) : L2.St → Hp → XK → Prop := fun σ H Q => ta σ H fun vs H1 => ∃ v u, vs = [v, u] ∧ ∀ d, H1 d = none → Q (.ref C) (some d) (upd H1 d (.xd [(("what" : Str), v), ("many", u)]))
section
variable {X : Cx} {L : Lx} {W : WX} {C fI : Addr} {n : Str} {k : Nat} {a b : Expr} {p pos pos2 : Pos}
open PyProof.Rows PySem.W in
theorem pmk_what2 {ta : TA} (T : XTxt2 X.prog X.K X.mg n C fI) (hr : Room k X.A) (ha : PA X [a, b] ta) (hg : Gl X n) (hdb : (n == ("__debug__" : Str)) = false)
    (hs : starEach [a, b] X.env = (false, eval a X.env) :: starEach [b] X.env := by rfl) (hpl : (backTo pos (starEach [b] X.env)).any (·.1) = false := by rfl) : PMk X (.Call (.Name n p) [a, b] [] pos) (tWhat2 C ta) := by
  intro pins s σ H Q I h
  refine wpAny_Call_Name_kw (ld_glob I hg T.gC (callWith_K (h₀ := X.base) I.ok.mod.kin T.kC (thn (ha.run pos pins s σ H _ I h) fun us s1 ⟨vs, H1, I1, r1, v, v2, ev, q1⟩ => ⟨I1.kIn, ?_⟩) hs hpl) hdb)
  subst ev
  cases r1 with
  | cons rv rn =>
   cases rn with
   | cons rv2 rn =>
    cases rn
    show wpAny _ _ (call (.ref C) [_, _]) _ _ _
    obtain ⟨mb, bm1, bm2⟩ := I1.mod.blt
    have hlim := I1.nolimit
    obtain ⟨hp, g, dr, tk, os⟩ := s1
    refine wpAny_call (err_made2 T I1.kIn hlim (I1.mod.glob.keeps I1.bk) (bm1.keeps I1.bk) ((bm2 "super" (by decide)).trans (by first | rfl | kernel_rfl)) (by have := hr.dp; omega) fun h' tk' e d M => ?_)
    obtain ⟨t1, hoe⟩ := M.obj
    obtain ⟨G, g1, g2⟩ := restrict h' fun b => decide (b ≠ e)
    have gk : ∀ b, b ≠ e → G.get? b = h'.get? b := fun b hb => g1 b (decide_eq_true hb)
    have ge : G.get? e = none := g2 e (by simp)
    have ob : ObjOk X.prog X.w (upd H1 d (.xd [(("what" : Str), v), ("many", v2)])) G d (.xd [(("what" : Str), v), ("many", v2)]) := ⟨_, M.ns.at (fun o q => (gk d M.dne).trans q), fun f => relO_many rv rv2 f⟩
    have J : Inv X pins σ (upd H1 d (.xd [(("what" : Str), v), ("many", v2)])) ⟨G, g, dr, tk', os⟩ := I1.laid (t' := tk') (fun b o q => (gk b (Nat.ne_of_lt (Nat.lt_of_lt_of_le (Heap.lt_size q) M.new))).trans (M.keep b o q)) M.dbig ob
    refine ⟨e, _, _, ⟨G, g, dr, tk', os⟩, _, .ref C, some d, rfl, J, fun b o q => ?_, ge, hoe, ⟨rfl, rfl⟩, rfl, rfl, ?_, rfl, I1.bare, raises_own T.exC T.tyC, q1 d (I1.hok.fresh M.dbig)⟩
    · by_cases hb : b = e
      · exact absurd (show G.get? b = some o from q) (by rw [hb, ge]; intro z; cases z)
      · exact (gk b hb).symm.trans q
    · rw [upd_ne (Ne.symm M.dne)]; exact I1.hok.fresh M.new
def raiseM2 (cls f g : Str) (m : DEnv → Res (List D)) : DEnv → SRes := fun Δ => (m Δ).s fun ds Δ1 => match ds with
  | [d, e] => .ex (.mk cls [(f, d), (g, e)]) Δ1
  | _ => .stuck
theorem s_raise2 {ma : DEnv → Res (List D)} (hc : X.calm = true) (T : XTxt2 X.prog X.K X.mg n C fI) (hr : Room k X.A) (tk : Takes X W) (hct : L.ct n = some C) (ha : DA X L W [a, b] ma) (hg : Gl X n) (hdb : (n == ("__debug__" : Str)) = false := by decide)
    (hs : starEach [a, b] X.env = (false, eval a X.env) :: starEach [b] X.env := by rfl) (hpl : (backTo pos (starEach [b] X.env)).any (·.1) = false := by rfl) : DS X L W (.Raise (some (.Call (.Name n p) [a, b] [] pos)) none pos2) (raiseM2 n "what" "many" ma) := by
  obtain ⟨te, p1, s1⟩ := ha.ex
  refine ⟨_, ps_raise hc tk (pmk_what2 T hr p1 hg hdb hs hpl), fun σ Δ F H D env w => ?_⟩
  refine s1 σ Δ F H _ env ((Want.ofS w).mono fun ds Δ1 F1 H1 env1 w1 vs r => ?_)
  obtain ⟨rl, r⟩ := r
  match ds, vs, rl, r, w1 with
  | [d, e], [v, u], _, r, w1 =>
    refine ⟨v, u, rfl, fun dd hd => ?_⟩
    have g : Gro F1 H1 (upd F1 dd (.xd [(("what" : Str), v), ("many", u)])) (upd H1 dd (.xd [(("what" : Str), v), ("many", u)])) := Gro.new env1.ex hd
    refine w1 σ (.ref C) (some dd) _ _ (env1.gro g) (.gro g) ⟨C, dd, [(("what" : Str), v), ("many", u)], rfl, hct, rfl, upd_same, rfl, fun i a b h1 h2 => ?_, fun i a b h1 h2 => ?_⟩
    · match i, h1, h2 with
      | 0, h1, h2 => cases h1; cases h2; rfl
      | 1, h1, h2 => cases h1; cases h2; rfl
      | i + 2, h1, h2 => simp at h1
    · match i, h1, h2 with
      | 0, h1, h2 => cases h1; cases h2; exact (r 0 v d rfl rfl).mono g.f
      | 1, h1, h2 => cases h1; cases h2; exact (r 1 u e rfl rfl).mono g.f
      | i + 2, h1, h2 => simp at h1
  | [], _, _, _, w1 => exact w1.elim
  | [d], _, _, _, w1 => exact w1.elim
  | _ :: _ :: _ :: _, _, _, _, w1 => exact w1.elim
end
end KL
/-! KM, part i: try with several clauses that name what they catch. -/
namespace KL
open PySem L2
open PyProof.Rows PySem.HandSPX
/-- an exception has landed in the frame of X: it stands at a, in the heap g -/
structure Air (X : Cx) (pins : List (Addr × Obj)) (σ : L2.St) (H : Hp) (a : Addr) (cls : Value) (d : Option Addr) (B : Heap) (sI z : Shared) (g : Heap) : Prop where
  inv : Inv X pins σ H sI
  low : ∀ b o, sI.heap.get? b = some o → b ∉ frs X.stack → B.get? b = some o
  up : sI.heap.UpToSlots g
  fly : FlyingZ B (X.env :: X.outer) a (Zc cls d) g
  no : H a = none
  os : z.os = sI.os
  bare : AllBare z.gens
section
variable {X : Cx} {pins : List (Addr × Obj)} {σ : L2.St} {H : Hp} {a : Addr} {cls c : Value} {d : Option Addr} {B g g' : Heap} {sI z : Shared} {Wout : WX} {D : Ends} {x n : Str} {i : Nat} {np pos' : Pos} {suite : List Stmt} {b0 : Stmt} {hds : List ExceptHandler}
theorem Air.inv3 (w : Air X pins σ H a cls d B sI z g) : Inv X pins σ H { z with heap := g } := w.inv.landed w.low w.fly.1 w.up w.os w.bare
theorem Air.re (w : Air X pins σ H a cls d B sI z g) (f : FlyingZ B (X.env :: X.outer) a (Zc cls d) g') (u : g.UpToSlots g') : Air X pins σ H a cls d B sI z g' := ⟨w.inv, w.low, w.up.trans u, f, w.no, w.os, w.bare⟩
/-- the frames are no records -/
theorem Air.far (w : Air X pins σ H a cls d B sI z g) (hs : X.stack = X.env :: X.outer) (hf : X.env.frame = some X.env.locals) : ∃ oe vs, g.get? a = some oe ∧ Zc cls d oe ∧ oe.data = .fields vs ∧ a ≠ X.env.locals ∧ a ∉ X.fs := by
  obtain ⟨oe, vs, h1, h2, h3⟩ := w.fly.there
  have out : a ∉ frs (X.env :: X.outer) := by
    intro hm
    obtain ⟨-, o2, h4, h5⟩ := w.fly.2.2.1.mem hm
    exact h5 vs (by rw [h1] at h4; injection h4 with h4; rw [← h4]; exact h3)
  refine ⟨oe, vs, h1, h2, h3, ?_, ?_⟩
  · rintro rfl
    exact out (List.mem_filterMap.mpr ⟨X.env, .head _, hf⟩)
  · intro hm
    obtain ⟨e, k1, k2⟩ := List.mem_filterMap.mp hm
    exact out (List.mem_filterMap.mpr ⟨e, .tail _ k1, k2⟩)
/-- no clause has it: it flies on -/
theorem Air.out (w : Air X pins σ H a cls d B sI z g) (hs : X.stack = X.env :: X.outer) (hf : X.env.frame = some X.env.locals) (tk : Takes X Wout) (hw : Wout cls d σ H) :
    wpAny (model X.prog X.w) X.A (handleBy (.ref a) X.env []) (SP X pins D) X.xe { z with heap := g } := by
  refine wpAny_handleBy_nil ?_
  obtain ⟨-, -, -, oe, vs, T, oT, ts, q1, -, q2, q3, -⟩ := id w.fly
  unfold PySem.passOn
  refine wpAny_bind (wpAny_field q1 q2 q3 ?_)
  have nT : ¬ ((Value.ref T == Value.none) = true) := by simp
  rw [if_neg nT]
  have last : wpAny (model X.prog X.w) X.A (setFlight (.ref a) X.env.frame) (fun _ y => wpAny (model X.prog X.w) X.A (throw (.ref a) : Sem Flow) (SP X pins D) X.xe y) X.xe { z with heap := g } := by
    rw [hf]
    exact setFlight_upZ w.fly fun g4 held u4 => wpAny_throw (tk _ _ ⟨a, B, sI, pins, σ, H, cls, d, rfl, w.inv, w.low, w.up.trans u4, .inr (.inr (by rw [hs]; exact held)), w.no, w.os, w.bare, hw⟩)
  first | exact wpAny_bind last | exact wpAny_bind (wpAny_pure (wpAny_bind last))
/-- the wish of a named clause's suite -/
def endsAs (i : Nat) (D : Ends) : Ends := { nx := fun σ' H' => D.nx (σ'.set i none) H', rt := D.rt, bk := fun σ' H' => D.bk (σ'.set i none) H', ct := fun σ' H' => D.ct (σ'.set i none) H' }
/-- a clause is asked -/
theorem Air.ask {b : Bool} (w : Air X pins σ H a cls d B sI z g) (hs : X.stack = X.env :: X.outer) (hf : X.env.frame = some X.env.locals) (hN : X.N.Nodup) (hi : X.N[i]? = some n) (hln : X.env.kindOf n = some .local) (hc : Names X x c) (hb : PySem.W.exmOne X.K cls c = some b) {ts : TS}
    (hsu : ∀ (oe : Obj) (pn : List (Addr × Obj)), Zc cls d oe → (∃ vs, oe.data = .fields vs) → PSs (X.suite a ((a, oe) :: pn)) (b0 :: suite) ts)
    (yes : b = true → ts (endsAs i D) (σ.set i (some (.ref a))) H) (no : b = false → wpAny (model X.prog X.w) X.A (handleBy (.ref a) X.env hds) (SP X pins D) X.xe { z with heap := g }) :
    wpAny (model X.prog X.w) X.A (handleBy (.ref a) X.env (.ExceptHandler (some (.Name x np)) (some n) (b0 :: suite) pos' :: hds)) (SP X pins D) X.xe { z with heap := g } := by
  obtain ⟨oe, vs, q1, q2, q3, q4, q5⟩ := w.far hs hf
  refine wpAny_handleBy_cons (codeAny_handlers_test ?_) (by intro y; cases y)
  have T1 : PySem.W.Looks (model X.prog X.w) g (typeOf (.ref a)) cls := fun A Q E s k y => wpAny_typeOf_ref (k _ _ q1) (by rw [q2.1]; exact y)
  have T2 := PySem.W.exm_one (M := model X.prog X.w) w.inv3.kIn T1 hb
  have S := w.inv3.suite q1 q3 w.no q4 q5
  have named : ∀ {Q E : Value → Shared → Prop}, Q c { z with heap := g } → wpAny (model X.prog X.w) (X.A.mark (some (.ref a))) (eval (.Name x np) X.env) Q E { z with heap := g } := by
    intro Q E y
    obtain ⟨n1, n2, n3 | ⟨n3, n4, n5⟩⟩ := hc
    · exact ld_glob (X := X.suite a ((a, oe) :: (X.pn ++ pins))) S n1 n3 y n2
    · exact ld_blt (X := X.suite a ((a, oe) :: (X.pn ++ pins))) S n1 n3 n4 y n5 n2
  refine named (T2.here ?_)
  cases b with
  | false => exact no rfl
  | true =>
    refine codeAny_handlers_suite_as (lands_againZ w.fly fun g4 f4 u4 => ?_)
    have w4 := w.re f4 u4
    obtain ⟨o4, v4, r1, r2, r3, r4, r5⟩ := w4.far hs hf
    have ok := w.inv.ok
    have hloc : Loc X.env.scope n := .inl hln
    refine store_ok (X := X.suite a ((a, o4) :: (X.pn ++ pins))) (v := .ref a) (w4.inv3.suite r1 r3 w.no r4 r5) hN hi hloc rfl (fun s5 S5 => ?_) (.inr hln)
    refine wpAny_mono ((hsu o4 (X.pn ++ pins) r2 ⟨_, r3⟩).run [] s5 _ H _ S5 (yes rfl)) (fun f s6 y => ?_) (fun _ _ y => y.elim)
    have fin : ∀ {σ6 : L2.St} {H6 : Hp} {Q : Shared → Prop}, Inv (X.suite a ((a, o4) :: (X.pn ++ pins))) [] σ6 H6 s6 → (∀ s7, Inv X pins (σ6.set i none) H6 s7 → Q s7) → wpAny (model X.prog X.w) X.A (do bindName X.env n .none; unbindBehindTheSuite X.env n pos') (fun _ s7 => Q s7) X.xe s6 :=
      fun S6 hq => gone_ok (S6.unsuite ok) hN hi hln hq
    cases f with
    | next => obtain ⟨σ6, H6, S6, y⟩ := y; exact fin S6 fun s7 J => ⟨_, _, J, y⟩
    | brk => obtain ⟨σ6, H6, S6, y⟩ := y; exact fin S6 fun s7 J => ⟨_, _, J, y⟩
    | cont => obtain ⟨σ6, H6, S6, y⟩ := y; exact fin S6 fun s7 J => ⟨_, _, J, y⟩
    | ret u => obtain ⟨v6, σ6, H6, S6, r6, y⟩ := y; exact fin S6 fun s7 J => ⟨_, _, _, J, r6, y⟩
end
/-- what named clauses wish of an exception of the body -/
def wMulti (K : PySem.W.Frag) (i : Nat) (Wout : WX) (D : Ends) : List (Value × (Addr → Value → Option Addr → TS)) → WX
  | [] => Wout
  | (c, ts) :: r => fun cls d σ H => ∃ b, PySem.W.exmOne K cls c = some b ∧ (b = true → ∀ a, H a = none → ts a cls d (endsAs i D) (σ.set i (some (.ref a))) H) ∧ (b = false → wMulti K i Wout D r cls d σ H)
inductive HdsN (X : Cx) (n : Str) : List ExceptHandler → List (Value × (Addr → Value → Option Addr → TS)) → Prop
  | nil : HdsN X n [] []
  | cons {x : Str} {c : Value} {ts : Addr → Value → Option Addr → TS} {b0 : Stmt} {suite : List Stmt} {np pos' : Pos} {hds : List ExceptHandler} {l : List (Value × (Addr → Value → Option Addr → TS))} (hc : Names X x c)
      (hsu : ∀ (a : Addr) (cls : Value) (d : Option Addr) (oe : Obj) (pn : List (Addr × Obj)), Zc cls d oe → (∃ vs, oe.data = .fields vs) → PSs (X.suite a ((a, oe) :: pn)) (b0 :: suite) (ts a cls d)) (r : HdsN X n hds l) :
      HdsN X n (.ExceptHandler (some (.Name x np)) (some n) (b0 :: suite) pos' :: hds) ((c, ts) :: l)
section
variable {X : Cx} {body : List Stmt} {h0 : ExceptHandler} {hds : List ExceptHandler} {l : List (Value × (Addr → Value → Option Addr → TS))} {pos : Pos} {tb : WX → TS} {Wout : WX} {n : Str} {i : Nat}
theorem ps_try_multi (hs : X.stack = X.env :: X.outer) (hf : X.env.frame = some X.env.locals) (hN : X.N.Nodup) (hi : X.N[i]? = some n) (hln : X.env.kindOf n = some .local) (tk : Takes X Wout)
    (hb : ∀ (W : WX) (pn : List (Addr × Obj)) (xe : Value → Shared → Prop), Takes (X.tr pn xe) W → PassesOwn (model X.prog X.w) X.A X.env xe → PSs (X.tr pn xe) body (tb W))
    (hh : HdsN X n (h0 :: hds) l) : PS X (.Try body (h0 :: hds) [] [] pos) (fun D σ H => tb (wMulti X.K i Wout D l) D σ H) := by
  constructor
  intro pins s σ H D I h
  have ok := I.ok
  have hfr : X.A.frames = some (X.env :: X.outer) := by rw [ok.frames, hs]
  refine wpAny_Try_except (wpAny_mono ((hb (wMulti X.K i Wout D l) (X.pn ++ pins) (fun e y => wpAny (model X.prog X.w) X.A (noteFrame e X.env) (fun _ y2 => wpAny (model X.prog X.w) X.A (setFlight e none) (fun _ y3 =>
    wpAny (model X.prog X.w) X.A (handleBy e X.env (h0 :: hds)) (SP X pins D) X.xe y3) X.xe y2) X.xe y) (fun u s' xx => ?_) PassesOwn.looking).run [] s σ H D (I.toTry _) h) (fun f s1 y => ?_) (fun e s1 y => y))
  · obtain ⟨a, B, sI, pins', σ', H', cls, d, rfl, J, low, up, sky, na, os, ag, w⟩ := xx
    have I2 : Inv X pins σ' H' sI := J.ofTry ok
    have sky' : Sky B (X.env :: X.outer) a (Zc cls d) X.env.locals s'.heap := by rw [← hs]; exact sky
    refine Sky.land Zc.steady hfr hf sky' fun g fl u3 => ?_
    have air : Air X pins σ' H' a cls d B sI s' g := ⟨I2, low, up.trans u3, fl, na, os, ag⟩
    clear up sky sky' J h
    revert w
    generalize h0 :: hds = hs2 at hh
    induction hh with
    | nil => exact fun w => air.out hs hf tk w
    | cons hc hsu r ih =>
      rintro ⟨b, b1, b2, b3⟩
      exact air.ask hs hf hN hi hln hc b1 (hsu a cls d) (fun e => b2 e a na) (fun e => ih (b3 e))
  · cases f with
    | next => obtain ⟨σ', H', J, q⟩ := y; exact wpAny_execs_nil ⟨σ', H', J.ofTry ok, q⟩
    | brk => obtain ⟨σ', H', J, q⟩ := y; exact ⟨σ', H', J.ofTry ok, q⟩
    | cont => obtain ⟨σ', H', J, q⟩ := y; exact ⟨σ', H', J.ofTry ok, q⟩
    | ret u => obtain ⟨v, σ', H', J, r, q⟩ := y; exact ⟨v, σ', H', J.ofTry ok, r, q⟩
end
end KL
/-! KM, part j: the reading of a try with several named clauses. -/
namespace KL
open PySem L2
def pickN (i : Nat) : List ((Str → Option Bool) × (DEnv → SRes)) → Str → List (Str × D) → DEnv → SRes
  | [], n, fs, Δ1 => .ex (.mk n fs) Δ1
  | (hm, ms) :: r, n, fs, Δ1 => match hm n with
    | some true => if noXc Δ1 && canSet Δ1 i then SRes.del i (ms (Δ1.set i (.xc (.mk n fs)))) else .stuck
    | some false => pickN i r n fs Δ1
    | none => .stuck
def tryN (i : Nat) (l : List ((Str → Option Bool) × (DEnv → SRes))) (mb : DEnv → SRes) : DEnv → SRes := fun Δ => match mb Δ with
  | .ex (.mk n fs) Δ1 => pickN i l n fs Δ1
  | r => r
section
variable {X : Cx} {L : Lx} {W : WX} {σ σ' : L2.St} {Δ Δ' : DEnv} {F F' H H' : Hp} {n : Str} {i : Nat}
inductive DHs (X : Cx) (L : Lx) (n : Str) : List ExceptHandler → List ((Str → Option Bool) × (DEnv → SRes)) → Prop
  | nil : DHs X L n [] []
  | cons {x : Str} {c : Value} {b0 : Stmt} {suite : List Stmt} {np pos' : Pos} {hds : List ExceptHandler} {hm : Str → Option Bool} {ms : DEnv → SRes} {l : List ((Str → Option Bool) × (DEnv → SRes))} (hc : Names X x c)
      (hh : ∀ m b, hm m = some b → ∀ C, L.ct m = some C → PySem.W.exmOne X.K (.ref C) c = some b)
      (hsu : ∀ (a : Addr) (oe : Obj) (cls : Value) (d : Option Addr) (pn : List (Addr × Obj)), Zc cls d oe → (∃ vs, oe.data = .fields vs) → DSs (X.suite a ((a, oe) :: pn)) { L with xa := some (a, cls, d) } (fun _ _ _ _ => False) (b0 :: suite) ms)
      (r : DHs X L n hds l) : DHs X L n (.ExceptHandler (some (.Name x np)) (some n) (b0 :: suite) pos' :: hds) ((hm, ms) :: l)
/-- a suite behind 'as', sound -/
theorem suite_sound {a : Addr} {cls : Value} {dd : Option Addr} {F1 H1 : Hp} {σ1 : L2.St} {Δ1 : DEnv} {n0 : Str} {fs : List (Str × D)} {D : Ends} {ms : DEnv → SRes} {t : TS}
    (sd : SndS { L with xa := some (a, cls, dd) } (fun _ _ _ _ => False) t ms)
    (env1 : EnvOk L F1 σ1 Δ1 H1) (st1 : Step σ Δ F H σ1 Δ1 F1 H1) (xo : XOk L F1 cls dd (.mk n0 fs)) (w : WantS L W σ Δ F H (if noXc Δ1 && canSet Δ1 i then SRes.del i (ms (Δ1.set i (.xc (.mk n0 fs)))) else .stuck) D) :
    t (endsAs i D) (σ1.set i (some (.ref a))) H1 := by
  split at w
  case isFalse => exact w.elim
  rename_i hg
  obtain ⟨g1, g2⟩ := Bool.and_eq_true_iff.mp hg
  have env2 : EnvOk { L with xa := some (a, cls, dd) } F1 (σ1.set i (some (.ref a))) (Δ1.set i (.xc (.mk n0 fs))) H1 := (env1.xa g1).setC g2 ⟨a, cls, dd, rfl, rfl, xo⟩ fun xs b h => by cases h
  have st2 : Step σ Δ F H (σ1.set i (some (.ref a))) (Δ1.set i (.xc (.mk n0 fs))) F1 H1 := st1.setC env1.len g2 (fun xs h => by cases h) fun xs h => by cases h
  refine sd _ _ F1 H1 _ env2 ?_
  have back : ∀ {σ' : L2.St} {Δ' : DEnv} {F' H' : Hp}, EnvOk { L with xa := some (a, cls, dd) } F' σ' Δ' H' → noXc (Δ'.set i .no) = true → canSet Δ' i = true → EnvOk L F' (σ'.set i none) (Δ'.set i .no) H' ∧ EnvOk L F' σ' (Δ'.set i .no) H' := fun e h1 h2 =>
    ⟨(e.drop h2).xa (ya := L.xa) h1, (e.rt h2).xa (ya := L.xa) h1⟩
  generalize ms (Δ1.set i (.xc (.mk n0 fs))) = r at w ⊢
  cases r with
  | stuck => exact w
  | ex _ _ => exact w.elim
  | rf _ _ => exact w.elim
  | nx Δ' =>
    intro σ' F' H' e t
    replace w : WantS L W σ Δ F H (if noXc (Δ'.set i .no) && canSet Δ' i then SRes.nx (Δ'.set i .no) else .stuck) D := w
    split at w
    · rename_i hz; obtain ⟨z1, z2⟩ := Bool.and_eq_true_iff.mp hz
      exact w _ F' H' (back e z1 z2).1 ((st2.trans t).drop z2)
    · exact w.elim
  | bk Δ' =>
    intro σ' F' H' e t
    replace w : WantS L W σ Δ F H (if noXc (Δ'.set i .no) && canSet Δ' i then SRes.bk (Δ'.set i .no) else .stuck) D := w
    split at w
    · rename_i hz; obtain ⟨z1, z2⟩ := Bool.and_eq_true_iff.mp hz
      exact w _ F' H' (back e z1 z2).1 ((st2.trans t).drop z2)
    · exact w.elim
  | ct Δ' =>
    intro σ' F' H' e t
    replace w : WantS L W σ Δ F H (if noXc (Δ'.set i .no) && canSet Δ' i then SRes.ct (Δ'.set i .no) else .stuck) D := w
    split at w
    · rename_i hz; obtain ⟨z1, z2⟩ := Bool.and_eq_true_iff.mp hz
      exact w _ F' H' (back e z1 z2).1 ((st2.trans t).drop z2)
    · exact w.elim
  | rt d Δ' =>
    intro σ' v F' H' e t r
    replace w : WantS L W σ Δ F H (if noXc (Δ'.set i .no) && canSet Δ' i then SRes.rt d (Δ'.set i .no) else .stuck) D := w
    split at w
    · rename_i hz; obtain ⟨z1, z2⟩ := Bool.and_eq_true_iff.mp hz
      exact w _ v F' H' (back e z1 z2).2 ((st2.trans t).rt e.len z2) r
    · exact w.elim
theorem DHs.out {hds : List ExceptHandler} {l : List ((Str → Option Bool) × (DEnv → SRes))} (h : DHs X L n hds l) : ∃ l2 : List (Value × (Addr → Value → Option Addr → TS)), HdsN X n hds l2 ∧
    ∀ (σ : L2.St) (Δ : DEnv) (F H : Hp) (De : Ends) (n0 : Str) (fs : List (Str × D)) (cls : Value) (dd : Option Addr) (F1 H1 : Hp) (σ1 : L2.St) (Δ1 : DEnv), EnvOk L F1 σ1 Δ1 H1 → Step σ Δ F H σ1 Δ1 F1 H1 → XOk L F1 cls dd (.mk n0 fs) →
      WantS L W σ Δ F H (pickN i l n0 fs Δ1) De → wMulti X.K i W De l2 cls dd σ1 H1 := by
  induction h with
  | nil => exact ⟨[], .nil, fun σ Δ F H De n0 fs cls dd F1 H1 σ1 Δ1 env st xo w => w σ1 cls dd F1 H1 env st xo⟩
  | @cons x c b0 suite np pos' hds hm ms l hc hh hsu r ih =>
    obtain ⟨l2, h1, h2⟩ := ih
    refine ⟨(c, fun a cls d => inf (ι := Obj × List (Addr × Obj)) (fun z => Zc cls d z.1 ∧ ∃ vs, z.1.data = .fields vs) (fun z => X.suite a ((a, z.1) :: z.2)) (b0 :: suite)) :: l2,
      .cons hc (fun a cls d oe pn hz hf => inf_pss (Xs := fun z : Obj × List (Addr × Obj) => X.suite a ((a, z.1) :: z.2)) (i := (oe, pn)) (And.intro hz hf)) h1, fun σ Δ F H De n0 fs cls dd F1 H1 σ1 Δ1 env st xo w => ?_⟩
    have xo' := xo
    obtain ⟨C0, d0, fvs, e1, e2, e3, e4, e5, e6, e7⟩ := xo
    replace w : WantS L W σ Δ F H (match hm n0 with
      | some true => if noXc Δ1 && canSet Δ1 i then SRes.del i (ms (Δ1.set i (.xc (.mk n0 fs)))) else .stuck
      | some false => pickN i l n0 fs Δ1
      | none => .stuck) De := w
    cases q : hm n0 with
    | none => rw [q] at w; exact w.elim
    | some b =>
      have hx := hh n0 b q C0 e2
      rw [← e1] at hx
      cases b with
      | false => rw [q] at w; exact ⟨false, hx, fun z => Bool.noConfusion z, fun _ => h2 σ Δ F H De n0 fs cls dd F1 H1 σ1 Δ1 env st xo' w⟩
      | true =>
        rw [q] at w
        exact ⟨true, hx, fun _ a ha => suite_sound (inf_snd (L := { L with xa := some (a, cls, dd) }) (m := ms) fun z hz => hsu a z.1 cls dd z.2 hz.1 hz.2) env st xo' w, fun z => Bool.noConfusion z⟩
theorem s_tryN {body : List Stmt} {h0 : ExceptHandler} {hds : List ExceptHandler} {pos : Pos} {mb : DEnv → SRes} {l : List ((Str → Option Bool) × (DEnv → SRes))} (hs : X.stack = X.env :: X.outer) (hf : X.env.frame = some X.env.locals) (hN : X.N.Nodup) (hi : X.N[i]? = some n) (hln : X.env.kindOf n = some .local) (tk : Takes X W)
    (hb : ∀ (W' : WX) (pn : List (Addr × Obj)) (xe : Value → Shared → Prop), Takes (X.tr pn xe) W' → PassesOwn (model X.prog X.w) X.A X.env xe → DSs (X.tr pn xe) L W' body mb)
    (hh : DHs X L n (h0 :: hds) l) : DS X L W (.Try body (h0 :: hds) [] [] pos) (tryN i l mb) := by
  obtain ⟨l2, k1, k2⟩ := hh.out (W := W) (i := i)
  refine ⟨_, ps_try_multi (tb := fun W' => inf (ι := List (Addr × Obj) × (Value → Shared → Prop)) (fun z => Takes (X.tr z.1 z.2) W' ∧ PassesOwn (model X.prog X.w) X.A X.env z.2) (fun z => X.tr z.1 z.2) body)
    hs hf hN hi hln tk (fun W' pn xe t1 t2 => inf_pss (Xs := fun z : List (Addr × Obj) × (Value → Shared → Prop) => X.tr z.1 z.2) (i := (pn, xe)) (And.intro t1 t2)) k1, fun σ Δ F H D env w => ?_⟩
  refine inf_snd (L := L) (m := mb) (fun z hz => hb _ z.1 z.2 hz.1 hz.2) σ Δ F H D env ?_
  unfold tryN at w
  generalize mb Δ = r at w ⊢
  cases r with
  | ex x0 Δ1 =>
    obtain ⟨n0, fs⟩ := x0
    intro σ1 cls dd F1 H1 env1 st1 xo
    exact k2 σ Δ F H D n0 fs cls dd F1 H1 σ1 Δ1 env1 st1 xo w
  | _ => exact w
end
end KL
/-! KM, part k: small things that the generator's prints use. -/
namespace KL
open PySem L2
/-- the j-th statement of a class's body -/
def inCls : Stmt → Nat → Stmt
  | .ClassDef _ _ _ b _ _ _ _ _ _ _, j => b.getD j (.Pass ⟨0, 0, 0, 0⟩)
  | s, _ => s
theorem hu1 {k : Nat} {A : Around} (r : Room k A) : A.units + 1 < cLine := by
  have := r.un
  omega
theorem hu65 {k : Nat} {A : Around} (r : Room k A) : A.units + 65 < cLine := by
  have := r.un
  omega
/-- no reading at all -/
theorem ss_stuck {X : Cx} {L : Lx} {W : WX} {sts : List Stmt} : DSs X L W sts (fun _ => .stuck) := ⟨fun _ _ _ => False, ⟨fun pins s σ H D I h => h.elim⟩, fun σ Δ F H D env w => w.elim⟩
theorem clsT_mk {K : PySem.W.Frag} {ft : Str → List Str} {x : Str} {C : Addr} (h : PySem.W.nsIn K mainGlobals x = some (some (.ref C))) (pg : PySem.W.plainGet K C Str.empty = true) (hd : PySem.W.hasDictIn K C = true) (po : PySem.W.plainOver K C = true)
    (sa : PySem.W.findIn K (.ref C) "__setattr__" = some (some (.builtin "object.__setattr__"))) (nf : ∀ f ∈ ft x, PySem.W.findIn K (.ref C) f = some none) : ClsT K ft x := ⟨C, h, ⟨pg, hd, po, sa⟩, nf⟩
theorem methT_mk {K : PySem.W.Frag} {x m : Str} {C f : Addr} (h : PySem.W.nsIn K mainGlobals x = some (some (.ref C))) (pg : PySem.W.plainGet K C Str.empty = true) (hd : PySem.W.hasDictIn K C = true) (po : PySem.W.plainOver K C = true)
    (sa : PySem.W.findIn K (.ref C) "__setattr__" = some (some (.builtin "object.__setattr__"))) (hm : PySem.W.findIn K (.ref C) m = some (some (.ref f))) (i : PySem.W.isFn K (.ref f) = true) (k : PySem.W.keepIn K (.ref f) = true) : MethT K x m f := ⟨C, h, ⟨pg, hd, po, sa⟩, ⟨hm, i, k⟩⟩
end KL
/-! KM, part l: equations by which simp computes the readings of objects. -/
namespace KL
open PySem L2
section
variable {α β : Type} {Δ Δ1 Δ2 : DEnv} {x y m f : Str} {e : Exc} {i j : Nat} {d : D} {ft : Str → List Str} {fs : List (Str × D)}
theorem e_fldV : fldV ft f i Δ = .opt ((Δ[i]?).bind fun c => (objOf c).bind fun z => if f ∈ ft z.1 then z.2.lookup f else none) Δ := nr rfl
theorem e_objOf_va : objOf (.va (.obj x fs)) = some (x, fs) := nr rfl
theorem e_objOf_ow : objOf (.owv (.s x fs)) = some (x, fs) := nr rfl
theorem e_objOf_pa : objOf (.pav (.s x fs)) = some (x, fs) := nr rfl
theorem e_fldD : fldD ft f (.obj x fs) = if f ∈ ft x then fs.lookup f else none := nr rfl
theorem e_getS0 : getS Δ i = match (Δ[i]? : Option Cell) with
  | some (.owv (.s x fs)) => some (x, fs)
  | some (.pav (.s x fs)) => some (x, fs)
  | _ => none := nr rfl
theorem e_fldPutM {me : DEnv → Res D} : fldPutM ft f i me Δ = (me Δ).s fun d Δ1 => match getS Δ1 i with
  | some z => if f ∈ ft z.1 ∧ z.2.length < 1000 then .nx (setW Δ1 i (.s z.1 (putFD f d z.2))) else .stuck
  | none => .stuck := nr rfl
theorem e_putFD0 : putFD f d [] = [(f, d)] := nr rfl
theorem e_putFDS {g : Str} {z : D} {r : List (Str × D)} : putFD f d ((g, z) :: r) = if g = f then (g, d) :: r else (g, z) :: putFD f d r := nr rfl
theorem e_movesM {k1 k2 k3 k4 u v : Str} {mf : DEnv → FRes} : movesM ft f k1 k2 k3 k4 u v i mf Δ = match getS Δ i with
  | some z => match z.2.lookup u, z.2.lookup v with
    | some a, some b => match mf [.va a], mf [.va b] with
      | .ok a' _, .ok b' _ => if (f ∈ ft z.1 ∧ u ∈ ft z.1 ∧ v ∈ ft z.1) ∧ z.2.length < 1000 ∧ [k1, k2, k3, k4].Nodup ∧ u ≠ f ∧ v ≠ f then .nx (setW Δ i (.s z.1 (putFD f (.dk [(.inr k1, a), (.inr k2, b), (.inr k3, a'), (.inr k4, b')]) z.2))) else .stuck
      | _, _ => .stuck
    | _, _ => .stuck
  | none => .stuck := nr rfl
theorem e_recvM {mo : DEnv → Res D} {r : DEnv → Res (List Arg)} : recvM x m mo r Δ = (mo Δ).bind fun d Δ1 => match d with
  | .obj y fs => if y = x ∧ fs.lookup m = none then (r Δ1).map (Sum.inl (.obj y fs) :: ·) else .stuck
  | _ => .stuck := nr rfl
theorem e_makeM {mf : DEnv → FRes} {r : DEnv → Res (List Arg)} : makeM x mf r Δ = (r Δ).bind fun zs Δ1 => match cellsOf Δ1 zs with
  | none => .stuck
  | some cs => if (slotsOf zs).Nodup then makeE zs Δ1 (mf (.pav (.s x []) :: cs)) else .stuck := nr rfl
theorem e_makeE {zs : List Arg} {cs : DEnv} : makeE zs Δ (.ok .non (.pav (.s y fs) :: cs)) = .ok (.obj y fs) (backD zs cs Δ) := nr rfl
theorem e_makeEx {zs : List Arg} {c : Cell} {cs : DEnv} : makeE zs Δ (.ex e (c :: cs)) = .ex e (backD zs cs Δ) := nr rfl
theorem e_dkIx {kds : List (Key × D)} : dkIx (.dk kds) d = (keyD d).bind fun k => valD kds k := nr rfl
theorem e_dispM {ks : List Str} {n : DEnv → Res (List D)} : dispM ks n Δ = (n Δ).bind fun ds Δ1 => gd (decide (ks.Nodup ∧ ds.length = ks.length ∧ ks.length ≤ 15)) (.ok (.dk (dkOf ks ds)) Δ1) := nr rfl
theorem e_min2 {a b : Int} : min2D (.int a) (.int b) = some (.int (if b < a then b else a)) := nr rfl
theorem e_max2 {a b : Int} : max2D (.int a) (.int b) = some (.int (if b > a then b else a)) := nr rfl
theorem dvm_int {a b : Int} (h : 0 < b) (h2 : b.natAbs < 2 ^ 8000) : dvmD (.int a) (.int b) = some (.tup [.int (a / b), .int (a % b)]) := if_pos ⟨h, h2⟩
theorem e_rg1F {m : DEnv → Res D} : rg1F m Δ = (m Δ).bind fun d Δ1 => match d with
  | .int n => gd (rgB 0 n) (.ok (rangeL 0 n.toNat) Δ1)
  | _ => .stuck := nr rfl
theorem e_rg2F {m n : DEnv → Res D} : rg2F m n Δ = (m Δ).bind fun d Δ1 => (n Δ1).bind fun d2 Δ2 => match d, d2 with
  | .int lo, .int hi => gd (rgB lo hi) (.ok (rangeL lo (hi - lo).toNat) Δ2)
  | _, _ => .stuck := nr rfl
theorem rgB_nat {n : Nat} (h : n ≤ 16777216) : rgB 0 (n : Int) = true := by
  unfold rgB
  exact decide_eq_true ⟨by omega, by omega, by omega, by omega, by omega⟩
theorem e_raiseM2 {c g : Str} {n : DEnv → Res (List D)} : raiseM2 c f g n Δ = (n Δ).s fun ds Δ1 => match ds with
  | [d, e] => .ex (.mk c [(f, d), (g, e)]) Δ1
  | _ => .stuck := nr rfl
theorem e_xfM : xfM i f Δ = match Δ[i]? with
  | some (.xc (.mk _ fs)) => .opt (fs.lookup f) Δ
  | _ => .stuck := nr rfl
theorem e_indexM {mo me : DEnv → Res D} : indexM mo me Δ = (mo Δ).bind fun d Δ1 => match d with
  | .lst ds => (me Δ1).bind fun e Δ2 => .opt (indexD (.lst ds) e) Δ2
  | _ => .stuck := nr rfl
theorem e_indexV {me : DEnv → Res D} : indexV i me Δ = match rdR Δ i with
  | some (.lst _) => (me Δ).bind fun e Δ1 => match rdR Δ1 i with
    | some (.lst ds) => .opt (indexD (.lst ds) e) Δ1
    | _ => .stuck
  | _ => .stuck := nr rfl
theorem e_isiM {t : String} {me : DEnv → Res D} : isiM t me Δ = (me Δ).bind fun d Δ1 => .opt ((isiB t d).map .bl) Δ1 := nr rfl
theorem e_isisM {ts : List String} {me : DEnv → Res D} : isisM ts me Δ = (me Δ).bind fun d Δ1 => .opt ((isisB ts d).map .bl) Δ1 := nr rfl
theorem i_int_int {a : Int} : isiB "int" (.int a) = some true := nr rfl
theorem i_bool_int {a : Int} : isiB "bool" (.int a) = some false := nr rfl
theorem i_str_str {z : Str} : isiB "str" (.str z) = some true := nr rfl
theorem i_tup_tup {ds : List D} : isiB "tuple" (.tup ds) = some true := nr rfl
theorem i_tup_lst {ds : List D} : isiB "tuple" (.lst ds) = some false := nr rfl
theorem i_lst_lst {ds : List D} : isiB "list" (.lst ds) = some true := nr rfl
theorem i_lst_tup {ds : List D} : isiB "list" (.tup ds) = some false := nr rfl
theorem is_lt_lst {ds : List D} : isisB ["list", "tuple"] (.lst ds) = some true := nr rfl
theorem is_lt_tup {ds : List D} : isisB ["list", "tuple"] (.tup ds) = some true := nr rfl
theorem is_lt_int {a : Int} : isisB ["list", "tuple"] (.int a) = some false := nr rfl
theorem is_lt_str {a : Str} : isisB ["list", "tuple"] (.str a) = some false := nr rfl
end
end KL
/-! KM, part m: == and index over plain data (ints, texts, None, tuples, lists), sorted ints. -/
namespace KL
open PySem L2
/-- plain data of depth n at most -/
def pdN : Nat → D → Bool
  | _, .int _ => true
  | _, .non => true
  | _, .str z => PyData.strOk z
  | n + 1, .tup ds => ds.all (pdN n)
  | n + 1, .lst ds => ds.all (pdN n)
  | _, _ => false
theorem pd_int {n : Nat} {i : Int} : pdN n (.int i) = true := by cases n <;> rfl
theorem pd_non {n : Nat} : pdN n .non = true := by cases n <;> rfl
theorem pd_str {n : Nat} {z : Str} : pdN n (.str z) = PyData.strOk z := by cases n <;> rfl
theorem pd_tup {n : Nat} {ds : List D} : pdN (n + 1) (.tup ds) = ds.all (pdN n) := nr rfl
theorem pd_lst {n : Nat} {ds : List D} : pdN (n + 1) (.lst ds) = ds.all (pdN n) := nr rfl
theorem pd_cases {n : Nat} {d : D} (h : pdN n d = true) : d = .non ∨ (∃ i, d = .int i) ∨ (∃ z, d = .str z ∧ PyData.strOk z = true) ∨ ∃ m ds, n = m + 1 ∧ (d = .tup ds ∨ d = .lst ds) ∧ ∀ e ∈ ds, pdN m e = true := by
  cases d with
  | non => exact .inl rfl
  | int i => exact .inr (.inl ⟨i, rfl⟩)
  | str z => rw [pd_str] at h; exact .inr (.inr (.inl ⟨z, rfl, h⟩))
  | tup ds => cases n with
    | zero => cases h
    | succ n => exact .inr (.inr (.inr ⟨n, ds, rfl, .inl rfl, fun e he => List.all_eq_true.mp h e he⟩))
  | lst ds => cases n with
    | zero => cases h
    | succ n => exact .inr (.inr (.inr ⟨n, ds, rfl, .inr rfl, fun e he => List.all_eq_true.mp h e he⟩))
  | _ => cases n <;> cases h
theorem toPy_tup {ds : List D} : toPy (.tup ds) = (toPys ds).map .tuple := by simp only [toPy]
theorem toPy_lst {ds : List D} : toPy (.lst ds) = (toPys ds).map .list := by simp only [toPy]
theorem toPys_cons {d : D} {ds : List D} : toPys (d :: ds) = (toPy d).bind fun p => (toPys ds).map (p :: ·) := by simp only [toPys]
theorem toPys_nil : toPys [] = some [] := by simp only [toPys]
theorem pd_toPy : ∀ (n : Nat) (d : D), pdN n d = true → ∃ p, toPy d = some p ∧ p.canLay0 = true ∧ p.depth ≤ n := by
  intro n
  induction n with
  | zero =>
    intro d h
    rcases pd_cases h with rfl | ⟨i, rfl⟩ | ⟨z, rfl, hz⟩ | ⟨m, ds, e, _⟩
    · exact ⟨.none, by simp only [toPy], rfl, by simp [PyData.depth]⟩
    · exact ⟨.int i, by simp only [toPy], rfl, by simp [PyData.depth]⟩
    · exact ⟨.str z, by simp only [toPy], hz, by simp [PyData.depth]⟩
    · cases e
  | succ n ih =>
    intro d h
    have all : ∀ ds : List D, (∀ e ∈ ds, pdN n e = true) → ∃ ps, toPys ds = some ps ∧ PyData.canLayAll0 ps = true ∧ PyData.depthAll ps ≤ n := by
      intro ds
      induction ds with
      | nil => exact fun _ => ⟨[], toPys_nil, by simp [PyData.canLayAll0], by simp [PyData.depthAll]⟩
      | cons d ds ih2 =>
        intro hd
        obtain ⟨p, p1, p2, p3⟩ := ih d (hd d (by simp))
        obtain ⟨ps, q1, q2, q3⟩ := ih2 fun e he => hd e (by simp [he])
        refine ⟨p :: ps, by rw [toPys_cons, p1, Option.bind_some, q1]; rfl, by simp [PyData.canLayAll0, p2, q2], ?_⟩
        simp only [PyData.depthAll]
        omega
    rcases pd_cases h with rfl | ⟨i, rfl⟩ | ⟨z, rfl, hz⟩ | ⟨m, ds, e, hd, hm⟩
    · exact ⟨.none, by simp only [toPy], rfl, by simp [PyData.depth]⟩
    · exact ⟨.int i, by simp only [toPy], rfl, by simp [PyData.depth]⟩
    · exact ⟨.str z, by simp only [toPy], hz, by simp [PyData.depth]⟩
    · cases e
      obtain ⟨ps, q1, q2, q3⟩ := all ds hm
      rcases hd with rfl | rfl
      · exact ⟨.tuple ps, by rw [toPy_tup, q1]; rfl, by simp [PyData.canLay0, q2], by simp [PyData.depth]; omega⟩
      · exact ⟨.list ps, by rw [toPy_lst, q1]; rfl, by simp [PyData.canLay0, q2], by simp [PyData.depth]; omega⟩
theorem pd_eqv : ∀ (n : Nat) (x y : D) (p q : PyData), pdN n x = true → pdN n y = true → toPy x = some p → toPy y = some q → (PyData.eqv p q = true ↔ x = y) := by
  intro n
  induction n with
  | zero =>
    intro x y p q hx hy h1 h2
    rcases pd_cases hx with rfl | ⟨i, rfl⟩ | ⟨z, rfl, hz⟩ | ⟨m, ds, e, _⟩
    all_goals first | cases e | skip
    all_goals (rcases pd_cases hy with rfl | ⟨j, rfl⟩ | ⟨w, rfl, hw⟩ | ⟨m, ds, e, _⟩)
    all_goals first | cases e | skip
    all_goals (simp only [toPy, Option.some.injEq] at h1 h2; subst h1; subst h2; simp [PyData.eqv])
  | succ n ih =>
    have all : ∀ (ds es : List D) (ps qs : List PyData), (∀ e ∈ ds, pdN n e = true) → (∀ e ∈ es, pdN n e = true) → toPys ds = some ps → toPys es = some qs → (PyData.eqvAll ps qs = true ↔ ds = es) := by
      intro ds
      induction ds with
      | nil =>
        intro es ps qs _ he h1 h2
        rw [toPys_nil] at h1
        cases h1
        cases es with
        | nil => rw [toPys_nil] at h2; cases h2; simp [PyData.eqvAll]
        | cons e es =>
          rw [toPys_cons] at h2
          obtain ⟨q, _, h2⟩ := Option.bind_eq_some_iff.mp h2
          obtain ⟨qs', _, rfl⟩ := Option.map_eq_some_iff.mp h2
          simp [PyData.eqvAll]
      | cons d ds ih2 =>
        intro es ps qs hd he h1 h2
        rw [toPys_cons] at h1
        obtain ⟨p, p1, h1⟩ := Option.bind_eq_some_iff.mp h1
        obtain ⟨ps', p2, rfl⟩ := Option.map_eq_some_iff.mp h1
        cases es with
        | nil => rw [toPys_nil] at h2; cases h2; simp [PyData.eqvAll]
        | cons e es =>
          rw [toPys_cons] at h2
          obtain ⟨q, q1, h2⟩ := Option.bind_eq_some_iff.mp h2
          obtain ⟨qs', q2, rfl⟩ := Option.map_eq_some_iff.mp h2
          have a := ih d e p q (hd d (by simp)) (he e (by simp)) p1 q1
          have b := ih2 es ps' qs' (fun z hz => hd z (by simp [hz])) (fun z hz => he z (by simp [hz])) p2 q2
          simp [PyData.eqvAll, a, b]
    intro x y p q hx hy h1 h2
    rcases pd_cases hx with rfl | ⟨i, rfl⟩ | ⟨z, rfl, hz⟩ | ⟨m, ds, e, rfl | rfl, hd⟩
    all_goals (rcases pd_cases hy with rfl | ⟨j, rfl⟩ | ⟨w, rfl, hw⟩ | ⟨m2, es, e2, rfl | rfl, he⟩)
    all_goals (try cases e)
    all_goals (try cases e2)
    all_goals (try simp only [toPy, Option.some.injEq, Option.map_eq_some_iff] at h1)
    all_goals (try simp only [toPy, Option.some.injEq, Option.map_eq_some_iff] at h2)
    all_goals (try (obtain ⟨ps, k1, rfl⟩ := h1))
    all_goals (try (obtain ⟨qs, k2, rfl⟩ := h2))
    all_goals (try subst h1)
    all_goals (try subst h2)
    all_goals first
      | (simp only [PyData.eqv]; rw [all ds es ps qs hd he k1 k2]; constructor <;> intro z <;> first | (rw [z]) | (injection z))
      | simp [PyData.eqv]
theorem pd_shaped {n : Nat} {d : D} {p : PyData} (h : pdN n d = true) (hn : n ≤ 60) (e : toPy d = some p) : SeqAt.shaped p = true := by
  obtain ⟨q, q1, q2, q3⟩ := pd_toPy n d h
  rw [e] at q1
  cases q1
  unfold SeqAt.shaped
  rw [q2, decide_eq_true (by omega)]; rfl
theorem eqB_pd {n : Nat} {x y : D} (hx : pdN n x = true) (hy : pdN n y = true) (hn : n ≤ 60) : ∃ b, eqB x y = some b ∧ (b = true ↔ x = y) := by
  obtain ⟨p, p1, _⟩ := pd_toPy n x hx
  obtain ⟨q, q1, _⟩ := pd_toPy n y hy
  have e := pd_eqv n x y p q hx hy p1 q1
  have s1 := pd_shaped hx hn p1
  have s2 := pd_shaped hy hn q1
  have gen : (match toPy x, toPy y with | some p, some q => if (SeqAt.shaped p && SeqAt.shaped q) = true then some (PyData.eqv p q) else none | _, _ => none) = some (PyData.eqv p q) := by
    rw [p1, q1]
    show (if (SeqAt.shaped p && SeqAt.shaped q) = true then some (PyData.eqv p q) else none) = _
    rw [s1, s2]; rfl
  unfold eqB
  split
  · exact ⟨_, rfl, by simp⟩
  · exact ⟨_, rfl, by simp⟩
  · exact ⟨_, rfl, by simp⟩
  · exact ⟨_, rfl, by simp⟩
  · exact ⟨_, rfl, by simp⟩
  · exact ⟨_, rfl, by simp⟩
  · exact ⟨_, rfl, by simp⟩
  · exact ⟨_, rfl, by simp⟩
  · exact ⟨_, rfl, by simp⟩
  · exact ⟨_, rfl, by simp⟩
  · exact ⟨_, rfl, by simp⟩
  · exact ⟨_, rfl, by simp⟩
  · exact ⟨_, gen, e⟩
theorem eqD_same {n : Nat} {x : D} (hx : pdN n x = true) (hn : n ≤ 60) : eqD x x = some (.bl true) := by
  obtain ⟨b, h1, h2⟩ := eqB_pd hx hx hn
  show (eqB x x).map D.bl = _
  rw [h1, h2.mpr rfl]; rfl
theorem neD_same {n : Nat} {x : D} (hx : pdN n x = true) (hn : n ≤ 60) : neD x x = some (.bl false) := by
  obtain ⟨b, h1, h2⟩ := eqB_pd hx hx hn
  show (eqB x x).map _ = _
  rw [h1, h2.mpr rfl]; rfl
theorem eqD_pd {n : Nat} {x y : D} (hx : pdN n x = true) (hy : pdN n y = true) (hn : n ≤ 60) {b : Bool} (hb : b = true ↔ x = y) : eqD x y = some (.bl b) := by
  obtain ⟨c, h1, h2⟩ := eqB_pd hx hy hn
  show (eqB x y).map D.bl = _
  rw [h1, show c = b from Bool.eq_iff_iff.mpr (h2.trans hb.symm)]; rfl
theorem neD_pd {n : Nat} {x y : D} (hx : pdN n x = true) (hy : pdN n y = true) (hn : n ≤ 60) {b : Bool} (hb : b = true ↔ x = y) : neD x y = some (.bl (!b)) := by
  obtain ⟨c, h1, h2⟩ := eqB_pd hx hy hn
  show (eqB x y).map _ = _
  rw [h1, show c = b from Bool.eq_iff_iff.mpr (h2.trans hb.symm)]; rfl
/-! ### index -/
theorem toPys_some : ∀ {ds : List D} {n : Nat}, (∀ e ∈ ds, pdN n e = true) → ∃ ps, toPys ds = some ps
  | [], _, _ => ⟨[], toPys_nil⟩
  | d :: ds, n, h => by
    obtain ⟨p, p1, _⟩ := pd_toPy n d (h d (by simp))
    obtain ⟨ps, q1⟩ := toPys_some (ds := ds) (n := n) fun e he => h e (by simp [he])
    exact ⟨p :: ps, by rw [toPys_cons, p1, Option.bind_some, q1]; rfl⟩
theorem findP_pd {n : Nat} {e : D} {p : PyData} (he : pdN n e = true) (hp : toPy e = some p) : ∀ {ds : List D} {qs : List PyData} {k : Nat}, (∀ x ∈ ds, pdN n x = true) → toPys ds = some qs → ds[k]? = some e → (∀ m, m < k → ds[m]? ≠ some e) → findP p qs = some k
  | [], qs, k, _, _, hk, _ => by simp at hk
  | d :: ds, qs, k, hd, hq, hk, hm => by
    rw [toPys_cons] at hq
    obtain ⟨q, q1, hq⟩ := Option.bind_eq_some_iff.mp hq
    obtain ⟨qs', q2, rfl⟩ := Option.map_eq_some_iff.mp hq
    have a := pd_eqv n d e q p (hd d (by simp)) he q1 hp
    unfold findP
    cases k with
    | zero =>
      have : d = e := by simpa using hk
      rw [if_pos (a.mpr this)]
    | succ k =>
      have nd : d ≠ e := fun z => hm 0 (by omega) (by rw [z]; rfl)
      rw [if_neg (fun z => nd (a.mp z)), findP_pd he hp (ds := ds) (k := k) (fun x hx => hd x (by simp [hx])) q2 (by simpa using hk) fun m hm2 => by
        have := hm (m + 1) (by omega)
        simpa using this]
      rfl
theorem indexD_pd {n : Nat} {e : D} {ds : List D} {k : Nat} (hn : n ≤ 59) (he : pdN n e = true) (hd : ∀ x ∈ ds, pdN n x = true) (hk : ds[k]? = some e) (hm : ∀ m, m < k → ds[m]? ≠ some e) : indexD (.lst ds) e = some (.int (k : Nat)) := by
  obtain ⟨p, p1, _⟩ := pd_toPy n e he
  obtain ⟨qs, q1⟩ := toPys_some hd
  have s1 := pd_shaped he (by omega) p1
  have e2 : toPy (.lst ds) = some (.list qs) := by rw [toPy_lst, q1]; rfl
  have s2 := pd_shaped (n := n + 1) (d := .lst ds) (by rw [pd_lst]; exact List.all_eq_true.mpr hd) (by omega) e2
  unfold indexD
  rw [e2, p1]
  show (if SeqAt.shaped (.list qs) = true ∧ SeqAt.shaped p = true then (findP p qs).map fun n => D.int (n : Nat) else none) = _
  rw [if_pos ⟨s2, s1⟩, findP_pd he p1 hd q1 hk hm]; rfl
/-! ### sorted -/
def leI (a b : Int) : Bool := decide (a ≤ b)
theorem dataLe_int (i j : Int) : PySem.W.dataLe false pyOf (.int i) (.int j) = leI i j := by
  show (!PySem.W.dataLt (.int j) (.int i)) = _
  rw [PySem.W.dataLt_int]
  unfold leI
  by_cases h : j < i
  · rw [decide_eq_true h, decide_eq_false (by omega)]; rfl
  · rw [decide_eq_false h, decide_eq_true (by omega)]; rfl
theorem sortF_int (l : List Int) (h : l.length ≤ 16777216) : sortF (.lst (l.map D.int)) = some ((l.mergeSort leI).map D.int) := by
  show sortL (l.map D.int) = _
  unfold sortL
  have h1 : sortOkB (l.map D.int) = true := by
    unfold sortOkB
    rw [List.all_eq_true]
    intro d hd
    obtain ⟨i, _, rfl⟩ := List.mem_map.mp hd
    have h2 : pyOf (.int i) = .int i := rfl
    have h3 : (PyData.int i).depth ≤ 60 := by simp [PyData.depth]
    rw [h2, decide_eq_true h3]
    show ((toPy (.int i)).isSome && true && (List.map D.int l).all _) = true
    simp only [Bool.and_true, Bool.and_eq_true]
    refine ⟨rfl, ?_⟩
    rw [List.all_eq_true]
    intro e he
    obtain ⟨j, _, rfl⟩ := List.mem_map.mp he
    show PySem.W.alike (.int i) (.int j) = true
    simp [PySem.W.alike]
  have h2 : ((l.map D.int).all fun d => noTup (pyOf d)) = true := by
    rw [List.all_eq_true]
    intro d hd
    obtain ⟨i, _, rfl⟩ := List.mem_map.mp hd
    rfl
  rw [if_pos ⟨h1, .inr h2, by rw [List.length_map]; exact h⟩, List.map_mergeSort (f := D.int) (r := leI) (s := PySem.W.dataLe false pyOf) (l := l) (fun a _ b _ => (dataLe_int a b).symm)]
/-- 0, 1, .. n - 1 -/
def upto (n : Nat) : List Int := (List.range n).map fun (k : Nat) => (k : Int)
theorem upto_len (n : Nat) : (upto n).length = n := by simp [upto]
theorem rangeL_upto (n : Nat) : rangeL 0 n = (upto n).map D.int := by
  unfold rangeL upto
  rw [List.map_map]
  exact List.map_congr_left fun k _ => by show D.int (0 + (k : Int)) = D.int k; rw [Int.zero_add]
theorem upto_sorted (n : Nat) : (upto n).Pairwise fun a b => leI a b = true := by
  unfold upto
  rw [List.pairwise_map]
  refine List.Pairwise.imp (fun {a b} h => ?_) List.pairwise_lt_range
  unfold leI
  exact decide_eq_true (by omega)
theorem sort_perm {l : List Int} {n : Nat} (h : l.Perm (upto n)) : l.mergeSort leI = upto n := by
  refine List.Perm.eq_of_pairwise (le := fun a b => leI a b = true) (fun a b _ _ h1 h2 => ?_) ?_ (upto_sorted n) ((List.mergeSort_perm l leI).trans h)
  · unfold leI at h1 h2
    have := of_decide_eq_true h1
    have := of_decide_eq_true h2
    omega
  · exact List.pairwise_mergeSort (fun a b c h1 h2 => by unfold leI at *; have := of_decide_eq_true h1; have := of_decide_eq_true h2; exact decide_eq_true (by omega)) (fun a b => by
      unfold leI
      rcases Int.le_total a b with h | h
      · simp [h]
      · simp [h]) l
end KL
/-! KM, part n: what many laws reach: orders, societies made and walked. -/
namespace KL
namespace Cs
open PySem L2
def m_is_whole_number : DEnv → SRes := (retS (andV (isiM "int" (varM 0)) (notV (isiM "bool" (varM 0)))))
def F_is_whole_number : DEnv → FRes := bodyF 1 1 m_is_whole_number
theorem whole_int (i : Int) : F_is_whole_number [.va (.int i)] = .ok (.bl true) [.no] := rfl
def m_is_order : DEnv → SRes := (sq (ifS (orM (notM (truM (isisM ["list", "tuple"] (varM 0)))) (asB (opM neD (call1 lenD (varR 0)) (varR 1)))) (retS (cst (D.bl false))) SRes.nx) (sq (ifS (truM (lstE (lcM [2] (seqA (varM 0)) (tgN 2) (orM (notM (truM (isiM "int" (varM 2)))) (truM (isiM "bool" (varM 2)))) (varM 2)))) (retS (cst (D.bl false))) SRes.nx) (retS (opM eqD (lstE (callF1 sortF (varR 0))) (lstE (rg1F (varM 1)))))))
def F_is_order : DEnv → FRes := bodyF 2 3 m_is_order
theorem pd_ints {n : Nat} {l : List Int} : pdN (n + 1) (.lst (l.map D.int)) = true := by
  rw [pd_lst, List.all_eq_true]
  intro d hd
  obtain ⟨i, _, rfl⟩ := List.mem_map.mp hd
  exact pd_int
theorem is_order_ok {l : List Int} {n : Nat} (h : l.Perm (upto n)) (hn : n ≤ 16777000) : F_is_order [.va (.lst (l.map D.int)), .va (.int n)] = .ok (.bl true) [.no, .no] := by
  have hl : l.length = n := by rw [h.length_eq, upto_len]
  have hc : lcM [2] (seqA (varM 0)) (tgN 2) (orM (notM (truM (isiM "int" (varM 2)))) (truM (isiM "bool" (varM 2)))) (varM 2) [.va (.lst (l.map D.int)), .va (.int n), .no] = .ok [] [.va (.lst (l.map D.int)), .va (.int n), .no] := by
    rw [lcM_f D.int (fun _ => false) D.int (xs := l) (hi := by simp only [sq_, seq_nx, seq_rt, seq_rf, seq_bk, seq_ct, seq_ex, loop_nx, loop_rt, loop_rf, loop_bk, loop_ct, loop_ex, s_ok_, s_ex_, bind_ok_, bind_ex_, map_ok_, map_ex_, opt_some_, nox_ok_, gd_true_, exprS_, retS_, retFS_, setS_, setOS_, ifS_, forS_, opM_, varR_, asB_, truM_, notM_, andM_, orM_, call1_, lstE_, consM_, aV_, someM_, slM_, raiseM_, andV_, orV_, ifM_, rd_va, rd_ow, rd_pa, addD_int, subD_int, ltG_int, leG_int, gtG_int, geG_int, intD1_int, intD1_bl, absD_int, lenD_lst, lenD_lsx, lenD_tup, canC_no, canC_va, canC_ow, eqD_int, neD_int, eqD_str, neD_str, e_opV, e_varM, e_rdR, e_get0, e_getS, e_set0, e_setS, e_bind, e_cst, e_setM, e_setO, canSet_, e_tgN, e_tgT, e_tgsNil, e_tgsCons, e_asgM, e_parM, e_tupM, e_lstM, e_notV, e_negM, e_seqA, e_chainM, e_callF1, e_sm1M, e_enumM, e_getL, e_list_ow, e_list_pa, e_own_ow, e_own_pa, e_getO, e_setW, e_appendM, e_aO, e_callG, e_cells0, e_cellsV, e_cellsO, e_omap, e_slots0, e_slotsV, e_slotsO, e_nodup0, e_nodup1, e_toR_ok, e_toR_ex, e_toF_fr, e_toF_ex, e_backO, e_backV, e_back0, e_tru_int, e_tru_bl, e_stepC, e_range1M, e_augPutM, e_aug1, e_aug2, e_putL, e_revF, listF, tupD, e_wipe0, e_wipeS, e_rest0, e_restS, e_for0, e_nox, e_plain_no, e_plain_va, e_all0, e_allS, Bool.and_self, Bool.true_and, fin_nx, fin_rt, fin_rf, fin_ex, kpD_kpc, e_kpc0, e_kpcS, keepC_pa, keepC_va, keepC_ow, keepC_no, if_true, if_false, Bool.true_eq, Bool.false_eq_true, decide_true, List.length_cons, List.length_nil, and_self, Nat.reduceAdd, Nat.reduceSub, Nat.reduceLeDiff, Nat.reduceEqDiff, Int.reduceNeg, e_fldV, e_objOf_va, e_objOf_ow, e_objOf_pa, e_fldD, e_getS0, e_fldPutM, e_putFD0, e_putFDS, e_movesM, e_recvM, e_makeM, e_makeE, e_makeEx, e_dkIx, e_dispM, e_min2, e_max2, e_rg1F, e_rg2F, e_raiseM2, e_xfM, e_indexM, e_indexV, e_isiM, e_isisM, i_int_int, i_bool_int, i_str_str, i_tup_tup, i_tup_lst, i_lst_lst, i_lst_tup, is_lt_lst, is_lt_tup, is_lt_int, is_lt_str]; rfl) (hl := by omega) (hp := rfl) (h := fun x hx => ?_)]
    · have e : (l.filter fun _ => false) = [] := by simp
      rw [e]; rfl
    · simp only [sq_, seq_nx, seq_rt, seq_rf, seq_bk, seq_ct, seq_ex, loop_nx, loop_rt, loop_rf, loop_bk, loop_ct, loop_ex, s_ok_, s_ex_, bind_ok_, bind_ex_, map_ok_, map_ex_, opt_some_, nox_ok_, gd_true_, exprS_, retS_, retFS_, setS_, setOS_, ifS_, forS_, opM_, varR_, asB_, truM_, notM_, andM_, orM_, call1_, lstE_, consM_, aV_, someM_, slM_, raiseM_, andV_, orV_, ifM_, rd_va, rd_ow, rd_pa, addD_int, subD_int, ltG_int, leG_int, gtG_int, geG_int, intD1_int, intD1_bl, absD_int, lenD_lst, lenD_lsx, lenD_tup, canC_no, canC_va, canC_ow, eqD_int, neD_int, eqD_str, neD_str, e_opV, e_varM, e_rdR, e_get0, e_getS, e_set0, e_setS, e_bind, e_cst, e_setM, e_setO, canSet_, e_tgN, e_tgT, e_tgsNil, e_tgsCons, e_asgM, e_parM, e_tupM, e_lstM, e_notV, e_negM, e_seqA, e_chainM, e_callF1, e_sm1M, e_enumM, e_getL, e_list_ow, e_list_pa, e_own_ow, e_own_pa, e_getO, e_setW, e_appendM, e_aO, e_callG, e_cells0, e_cellsV, e_cellsO, e_omap, e_slots0, e_slotsV, e_slotsO, e_nodup0, e_nodup1, e_toR_ok, e_toR_ex, e_toF_fr, e_toF_ex, e_backO, e_backV, e_back0, e_tru_int, e_tru_bl, e_stepC, e_range1M, e_augPutM, e_aug1, e_aug2, e_putL, e_revF, listF, tupD, e_wipe0, e_wipeS, e_rest0, e_restS, e_for0, e_nox, e_plain_no, e_plain_va, e_all0, e_allS, Bool.and_self, Bool.true_and, fin_nx, fin_rt, fin_rf, fin_ex, kpD_kpc, e_kpc0, e_kpcS, keepC_pa, keepC_va, keepC_ow, keepC_no, if_true, if_false, Bool.true_eq, Bool.false_eq_true, decide_true, List.length_cons, List.length_nil, and_self, Nat.reduceAdd, Nat.reduceSub, Nat.reduceLeDiff, Nat.reduceEqDiff, Int.reduceNeg, e_fldV, e_objOf_va, e_objOf_ow, e_objOf_pa, e_fldD, e_getS0, e_fldPutM, e_putFD0, e_putFDS, e_movesM, e_recvM, e_makeM, e_makeE, e_makeEx, e_dkIx, e_dispM, e_min2, e_max2, e_rg1F, e_rg2F, e_raiseM2, e_xfM, e_indexM, e_indexV, e_isiM, e_isisM, i_int_int, i_bool_int, i_str_str, i_tup_tup, i_tup_lst, i_lst_lst, i_lst_tup, is_lt_lst, is_lt_tup, is_lt_int, is_lt_str, Option.map_some, Bool.not_true, Bool.not_false]
  unfold F_is_order
  rw [bodyF_]
  show (m_is_order [.va (.lst (l.map D.int)), .va (.int n), .no]).fin 2 = _
  unfold m_is_order
  have hs := sortF_int l (by omega)
  have he := eqD_same (n := 1) (x := .lst ((upto n).map D.int)) pd_ints (by omega)
  simp only [sq_, seq_nx, seq_rt, seq_rf, seq_bk, seq_ct, seq_ex, loop_nx, loop_rt, loop_rf, loop_bk, loop_ct, loop_ex, s_ok_, s_ex_, bind_ok_, bind_ex_, map_ok_, map_ex_, opt_some_, nox_ok_, gd_true_, exprS_, retS_, retFS_, setS_, setOS_, ifS_, forS_, opM_, varR_, asB_, truM_, notM_, andM_, orM_, call1_, lstE_, consM_, aV_, someM_, slM_, raiseM_, andV_, orV_, ifM_, rd_va, rd_ow, rd_pa, addD_int, subD_int, ltG_int, leG_int, gtG_int, geG_int, intD1_int, intD1_bl, absD_int, lenD_lst, lenD_lsx, lenD_tup, canC_no, canC_va, canC_ow, eqD_int, neD_int, eqD_str, neD_str, e_opV, e_varM, e_rdR, e_get0, e_getS, e_set0, e_setS, e_bind, e_cst, e_setM, e_setO, canSet_, e_tgN, e_tgT, e_tgsNil, e_tgsCons, e_asgM, e_parM, e_tupM, e_lstM, e_notV, e_negM, e_seqA, e_chainM, e_callF1, e_sm1M, e_enumM, e_getL, e_list_ow, e_list_pa, e_own_ow, e_own_pa, e_getO, e_setW, e_appendM, e_aO, e_callG, e_cells0, e_cellsV, e_cellsO, e_omap, e_slots0, e_slotsV, e_slotsO, e_nodup0, e_nodup1, e_toR_ok, e_toR_ex, e_toF_fr, e_toF_ex, e_backO, e_backV, e_back0, e_tru_int, e_tru_bl, e_stepC, e_range1M, e_augPutM, e_aug1, e_aug2, e_putL, e_revF, listF, tupD, e_wipe0, e_wipeS, e_rest0, e_restS, e_for0, e_nox, e_plain_no, e_plain_va, e_all0, e_allS, Bool.and_self, Bool.true_and, fin_nx, fin_rt, fin_rf, fin_ex, kpD_kpc, e_kpc0, e_kpcS, keepC_pa, keepC_va, keepC_ow, keepC_no, if_true, if_false, Bool.true_eq, Bool.false_eq_true, decide_true, List.length_cons, List.length_nil, and_self, Nat.reduceAdd, Nat.reduceSub, Nat.reduceLeDiff, Nat.reduceEqDiff, Int.reduceNeg, e_fldV, e_objOf_va, e_objOf_ow, e_objOf_pa, e_fldD, e_getS0, e_fldPutM, e_putFD0, e_putFDS, e_movesM, e_recvM, e_makeM, e_makeE, e_makeEx, e_dkIx, e_dispM, e_min2, e_max2, e_rg1F, e_rg2F, e_raiseM2, e_xfM, e_indexM, e_indexV, e_isiM, e_isisM, i_int_int, i_bool_int, i_str_str, i_tup_tup, i_tup_lst, i_lst_lst, i_lst_tup, is_lt_lst, is_lt_tup, is_lt_int, is_lt_str, Option.map_some, Bool.not_true, Bool.not_false, hc, List.length_map, hl]
  have t0 : truD (.lst []) = some false := rfl
  simp only [sq_, seq_nx, seq_rt, seq_rf, seq_bk, seq_ct, seq_ex, loop_nx, loop_rt, loop_rf, loop_bk, loop_ct, loop_ex, s_ok_, s_ex_, bind_ok_, bind_ex_, map_ok_, map_ex_, opt_some_, nox_ok_, gd_true_, exprS_, retS_, retFS_, setS_, setOS_, ifS_, forS_, opM_, varR_, asB_, truM_, notM_, andM_, orM_, call1_, lstE_, consM_, aV_, someM_, slM_, raiseM_, andV_, orV_, ifM_, rd_va, rd_ow, rd_pa, addD_int, subD_int, ltG_int, leG_int, gtG_int, geG_int, intD1_int, intD1_bl, absD_int, lenD_lst, lenD_lsx, lenD_tup, canC_no, canC_va, canC_ow, eqD_int, neD_int, eqD_str, neD_str, e_opV, e_varM, e_rdR, e_get0, e_getS, e_set0, e_setS, e_bind, e_cst, e_setM, e_setO, canSet_, e_tgN, e_tgT, e_tgsNil, e_tgsCons, e_asgM, e_parM, e_tupM, e_lstM, e_notV, e_negM, e_seqA, e_chainM, e_callF1, e_sm1M, e_enumM, e_getL, e_list_ow, e_list_pa, e_own_ow, e_own_pa, e_getO, e_setW, e_appendM, e_aO, e_callG, e_cells0, e_cellsV, e_cellsO, e_omap, e_slots0, e_slotsV, e_slotsO, e_nodup0, e_nodup1, e_toR_ok, e_toR_ex, e_toF_fr, e_toF_ex, e_backO, e_backV, e_back0, e_tru_int, e_tru_bl, e_stepC, e_range1M, e_augPutM, e_aug1, e_aug2, e_putL, e_revF, listF, tupD, e_wipe0, e_wipeS, e_rest0, e_restS, e_for0, e_nox, e_plain_no, e_plain_va, e_all0, e_allS, Bool.and_self, Bool.true_and, fin_nx, fin_rt, fin_rf, fin_ex, kpD_kpc, e_kpc0, e_kpcS, keepC_pa, keepC_va, keepC_ow, keepC_no, if_true, if_false, Bool.true_eq, Bool.false_eq_true, decide_true, List.length_cons, List.length_nil, and_self, Nat.reduceAdd, Nat.reduceSub, Nat.reduceLeDiff, Nat.reduceEqDiff, Int.reduceNeg, e_fldV, e_objOf_va, e_objOf_ow, e_objOf_pa, e_fldD, e_getS0, e_fldPutM, e_putFD0, e_putFDS, e_movesM, e_recvM, e_makeM, e_makeE, e_makeEx, e_dkIx, e_dispM, e_min2, e_max2, e_rg1F, e_rg2F, e_raiseM2, e_xfM, e_indexM, e_indexV, e_isiM, e_isisM, i_int_int, i_bool_int, i_str_str, i_tup_tup, i_tup_lst, i_lst_lst, i_lst_tup, is_lt_lst, is_lt_tup, is_lt_int, is_lt_str, t0, hs, rgB_nat (show n ≤ 16777216 by omega), Int.toNat_natCast, rangeL_upto, sort_perm h, he]
/-! ### turned_back -/
def turned_back_b1 : DEnv → SRes := (putM 1 (varM 3) (varM 2))
def m_turned_back : DEnv → SRes := (sq (setOS 1 (opM repF (lstE (lstM (consM (cst (D.int 0)) (cst ([] : List D))))) (call1 lenD (varR 0)))) (sq (forS (enumM (varM 0)) (tgT 2 (tgsCons (tgN 2) (tgsCons (tgN 3) tgsNil))) turned_back_b1) (retS (call1 tupD (varR 1)))))
def F_turned_back : DEnv → FRes := bodyF 1 4 m_turned_back
def tb : List Int → Nat → List Int → List Int
  | [], _, acc => acc
  | x :: xs, k, acc => tb xs (k + 1) (acc.set x.toNat k)
def turned (l : List Int) : List Int := tb l 0 (List.replicate l.length 0)
theorem enum_int (l : List Int) : enumL (l.map D.int) = (l.zipIdx 0).map fun p => .tup [.int (p.2 : Nat), .int p.1] := by
  apply List.ext_getElem
  · unfold enumL; simp
  · intro i h1 h2
    unfold enumL at h1 ⊢
    simp only [List.length_map, List.length_range] at h1
    simp [h1]
theorem e_putM {i : Nat} {mi mv : DEnv → Res D} {Δ : DEnv} : putM i mi mv Δ = (mv Δ).s fun v Δ1 => match getL Δ1 i with
  | none => .stuck
  | some _ => (mi Δ1).s fun k Δ2 => match getL Δ2 i, k with
    | some xs, .int j => match ixN xs.length j with
      | some n => .nx (setL Δ2 i (xs.set n v))
      | none => .stuck
    | _, _ => .stuck := nr rfl
theorem ixN_nat {n : Nat} {j : Int} (h : 0 ≤ j) (h2 : j < n) (hn : n ≤ 16777216) : ixN n j = some j.toNat := by
  unfold ixN
  simp only [Int.not_lt.mpr h, h2]
  simp
  omega
theorem tb_loop {n : Nat} (hn : n ≤ 16777216) {c0 : Cell} : ∀ (l : List Int) (k : Nat) (acc : List Int) (c2 c3 : Cell), canC c2 = true → canC c3 = true → acc.length = n → (∀ x ∈ l, 0 ≤ x ∧ x < n) →
    ∃ d2 d3, forM (tgT 2 (tgsCons (tgN 2) (tgsCons (tgN 3) tgsNil))) turned_back_b1 ((l.zipIdx k).map fun p => .tup [.int (p.2 : Nat), .int p.1]) [c0, .ow (acc.map D.int), c2, c3] = .nx [c0, .ow ((tb l k acc).map D.int), d2, d3] := by
  intro l
  induction l with
  | nil => intro k acc c2 c3 _ _ _ _; exact ⟨c2, c3, rfl⟩
  | cons x xs ih =>
    intro k acc c2 c3 k2 k3 ha hx
    obtain ⟨x1, x2⟩ := hx x (by simp)
    obtain ⟨d2, d3, h⟩ := ih (k + 1) (acc.set x.toNat k) (.va (.int k)) (.va (.int x)) rfl rfl (by rw [List.length_set]; exact ha) fun y hy => hx y (by simp [hy])
    refine ⟨d2, d3, ?_⟩
    rw [List.zipIdx_cons, List.map_cons, e_forS]
    unfold turned_back_b1
    have e : ((acc.map D.int).set x.toNat (.int k)) = (acc.set x.toNat k).map D.int := by rw [List.map_set]
    simp only [sq_, seq_nx, seq_rt, seq_rf, seq_bk, seq_ct, seq_ex, loop_nx, loop_rt, loop_rf, loop_bk, loop_ct, loop_ex, s_ok_, s_ex_, bind_ok_, bind_ex_, map_ok_, map_ex_, opt_some_, nox_ok_, gd_true_, exprS_, retS_, retFS_, setS_, setOS_, ifS_, forS_, opM_, varR_, asB_, truM_, notM_, andM_, orM_, call1_, lstE_, consM_, aV_, someM_, slM_, raiseM_, andV_, orV_, ifM_, rd_va, rd_ow, rd_pa, addD_int, subD_int, ltG_int, leG_int, gtG_int, geG_int, intD1_int, intD1_bl, absD_int, lenD_lst, lenD_lsx, lenD_tup, canC_no, canC_va, canC_ow, eqD_int, neD_int, eqD_str, neD_str, e_opV, e_varM, e_rdR, e_get0, e_getS, e_set0, e_setS, e_bind, e_cst, e_setM, e_setO, canSet_, e_tgN, e_tgT, e_tgsNil, e_tgsCons, e_asgM, e_parM, e_tupM, e_lstM, e_notV, e_negM, e_seqA, e_chainM, e_callF1, e_sm1M, e_enumM, e_getL, e_list_ow, e_list_pa, e_own_ow, e_own_pa, e_getO, e_setW, e_appendM, e_aO, e_callG, e_cells0, e_cellsV, e_cellsO, e_omap, e_slots0, e_slotsV, e_slotsO, e_nodup0, e_nodup1, e_toR_ok, e_toR_ex, e_toF_fr, e_toF_ex, e_backO, e_backV, e_back0, e_tru_int, e_tru_bl, e_stepC, e_range1M, e_augPutM, e_aug1, e_aug2, e_putL, e_revF, listF, tupD, e_wipe0, e_wipeS, e_rest0, e_restS, e_for0, e_nox, e_plain_no, e_plain_va, e_all0, e_allS, Bool.and_self, Bool.true_and, fin_nx, fin_rt, fin_rf, fin_ex, kpD_kpc, e_kpc0, e_kpcS, keepC_pa, keepC_va, keepC_ow, keepC_no, if_true, if_false, Bool.true_eq, Bool.false_eq_true, decide_true, List.length_cons, List.length_nil, and_self, Nat.reduceAdd, Nat.reduceSub, Nat.reduceLeDiff, Nat.reduceEqDiff, Int.reduceNeg, e_fldV, e_objOf_va, e_objOf_ow, e_objOf_pa, e_fldD, e_getS0, e_fldPutM, e_putFD0, e_putFDS, e_movesM, e_recvM, e_makeM, e_makeE, e_makeEx, e_dkIx, e_dispM, e_min2, e_max2, e_rg1F, e_rg2F, e_raiseM2, e_xfM, e_indexM, e_indexV, e_isiM, e_isisM, i_int_int, i_bool_int, i_str_str, i_tup_tup, i_tup_lst, i_lst_lst, i_lst_tup, is_lt_lst, is_lt_tup, is_lt_int, is_lt_str, k2, k3, e_putM, List.length_map, ha, ixN_nat x1 x2 hn, e]
    exact h
theorem turned_back_ok {l : List Int} (hl : l.length ≤ 16777216) (hx : ∀ x ∈ l, 0 ≤ x ∧ x < l.length) : F_turned_back [.va (.tup (l.map D.int))] = .ok (.tup ((turned l).map D.int)) [.no] := by
  unfold F_turned_back
  rw [bodyF_]
  show (m_turned_back [.va (.tup (l.map D.int)), .no, .no, .no]).fin 1 = _
  unfold m_turned_back
  have hr : repF (.lst [.int 0]) (.int (l.length : Nat)) = some ((List.replicate l.length 0).map D.int) := by
    have c : -4611686018427387904 ≤ ((l.length : Nat) : Int) ∧ ((l.length : Nat) : Int) < 4611686018427387904 ∧ [D.int 0].length * ((l.length : Nat) : Int).toNat ≤ 16777216 := ⟨by omega, by omega, by rw [Int.toNat_natCast, List.length_singleton]; omega⟩
    unfold repF
    simp only [if_pos c]
    rw [Int.toNat_natCast, List.map_replicate, List.flatten_replicate_singleton]
  obtain ⟨d2, d3, h⟩ := tb_loop (c0 := .va (.tup (l.map D.int))) hl l 0 (List.replicate l.length 0) .no .no rfl rfl (by simp) hx
  have hw : walkD (.tup (l.map D.int)) = some (l.map D.int) := rfl
  simp only [sq_, seq_nx, seq_rt, seq_rf, seq_bk, seq_ct, seq_ex, loop_nx, loop_rt, loop_rf, loop_bk, loop_ct, loop_ex, s_ok_, s_ex_, bind_ok_, bind_ex_, map_ok_, map_ex_, opt_some_, nox_ok_, gd_true_, exprS_, retS_, retFS_, setS_, setOS_, ifS_, forS_, opM_, varR_, asB_, truM_, notM_, andM_, orM_, call1_, lstE_, consM_, aV_, someM_, slM_, raiseM_, andV_, orV_, ifM_, rd_va, rd_ow, rd_pa, addD_int, subD_int, ltG_int, leG_int, gtG_int, geG_int, intD1_int, intD1_bl, absD_int, lenD_lst, lenD_lsx, lenD_tup, canC_no, canC_va, canC_ow, eqD_int, neD_int, eqD_str, neD_str, e_opV, e_varM, e_rdR, e_get0, e_getS, e_set0, e_setS, e_bind, e_cst, e_setM, e_setO, canSet_, e_tgN, e_tgT, e_tgsNil, e_tgsCons, e_asgM, e_parM, e_tupM, e_lstM, e_notV, e_negM, e_seqA, e_chainM, e_callF1, e_sm1M, e_enumM, e_getL, e_list_ow, e_list_pa, e_own_ow, e_own_pa, e_getO, e_setW, e_appendM, e_aO, e_callG, e_cells0, e_cellsV, e_cellsO, e_omap, e_slots0, e_slotsV, e_slotsO, e_nodup0, e_nodup1, e_toR_ok, e_toR_ex, e_toF_fr, e_toF_ex, e_backO, e_backV, e_back0, e_tru_int, e_tru_bl, e_stepC, e_range1M, e_augPutM, e_aug1, e_aug2, e_putL, e_revF, listF, tupD, e_wipe0, e_wipeS, e_rest0, e_restS, e_for0, e_nox, e_plain_no, e_plain_va, e_all0, e_allS, Bool.and_self, Bool.true_and, fin_nx, fin_rt, fin_rf, fin_ex, kpD_kpc, e_kpc0, e_kpcS, keepC_pa, keepC_va, keepC_ow, keepC_no, if_true, if_false, Bool.true_eq, Bool.false_eq_true, decide_true, List.length_cons, List.length_nil, and_self, Nat.reduceAdd, Nat.reduceSub, Nat.reduceLeDiff, Nat.reduceEqDiff, Int.reduceNeg, e_fldV, e_objOf_va, e_objOf_ow, e_objOf_pa, e_fldD, e_getS0, e_fldPutM, e_putFD0, e_putFDS, e_movesM, e_recvM, e_makeM, e_makeE, e_makeEx, e_dkIx, e_dispM, e_min2, e_max2, e_rg1F, e_rg2F, e_raiseM2, e_xfM, e_indexM, e_indexV, e_isiM, e_isisM, i_int_int, i_bool_int, i_str_str, i_tup_tup, i_tup_lst, i_lst_lst, i_lst_tup, is_lt_lst, is_lt_tup, is_lt_int, is_lt_str, e_gd, List.length_map, hr, hw, enum_int, Option.map_some, h]
  rfl
end Cs
end KL
/-! KM, part o: societies made and walked. -/
namespace KL
namespace Cs
open PySem L2
abbrev itup (l : List Int) : D := .tup (l.map D.int)
def mvD (w c : List Int) : D := .dk [(.inr "a", itup w), (.inr "b", itup c), (.inr "A", itup (turned w)), (.inr "B", itup (turned c))]
def socF (w c : List Int) : List (Str × D) := [("size", .int (w.length : Nat)), ("wives", itup w), ("children", itup c), ("moves", mvD w c)]
def soc (w c : List Int) : D := .obj "Society" (socF w c)
def m_Society___init__ (ft : Str → List Str) : DEnv → SRes := (sq (setS 3 (ifM (truM (isisM ["list", "tuple"] (varM 1))) (call1 lenD (varR 1)) (cst (D.int 0)))) (sq (ifS (orM (notM (asB (chainM leG leG (cst (D.int 1)) (varM 3) (cst (D.int 400))))) (notM (truM (callM F_is_order (aV (varM 1) (aV (varM 3) (cst ([] : List Arg)))))))) (raiseM "InvalidSociety" "what" (cst (D.str "wives"))) SRes.nx) (sq (ifS (notM (truM (callM F_is_order (aV (varM 2) (aV (varM 3) (cst ([] : List Arg))))))) (raiseM "InvalidSociety" "what" (cst (D.str "children"))) SRes.nx) (sq (fldPutM ft "size" 0 (varM 3)) (sq (fldPutM ft "wives" 0 (call1 tupD (varR 1))) (sq (fldPutM ft "children" 0 (call1 tupD (varR 2))) (movesM ft "moves" "a" "b" "A" "B" "wives" "children" 0 F_turned_back)))))))
def F_Society___init__ (ft : Str → List Str) : DEnv → FRes := bodyF 3 4 (m_Society___init__ ft)
theorem perm_rng {l : List Int} {n : Nat} (h : l.Perm (upto n)) : ∀ x ∈ l, 0 ≤ x ∧ x < l.length := by
  intro x hx
  have hl : l.length = n := by rw [h.length_eq, upto_len]
  obtain ⟨k, hk, rfl⟩ := List.mem_map.mp (h.mem_iff.mp hx)
  have := List.mem_range.mp hk
  omega
theorem moves_eq {ft : Str → List Str} {f k1 k2 k3 k4 u v : Str} {i : Nat} {mf : DEnv → FRes} {Δ c1 c2 : DEnv} {z : Str × List (Str × D)} {a b a' b' : D} (h1 : getS Δ i = some z) (h2 : z.2.lookup u = some a) (h3 : z.2.lookup v = some b) (h4 : mf [.va a] = .ok a' c1) (h5 : mf [.va b] = .ok b' c2)
    (h6 : (f ∈ ft z.1 ∧ u ∈ ft z.1 ∧ v ∈ ft z.1) ∧ z.2.length < 1000 ∧ [k1, k2, k3, k4].Nodup ∧ u ≠ f ∧ v ≠ f) : movesM ft f k1 k2 k3 k4 u v i mf Δ = .nx (setW Δ i (.s z.1 (putFD f (.dk [(.inr k1, a), (.inr k2, b), (.inr k3, a'), (.inr k4, b')]) z.2))) := by
  unfold movesM
  rw [h1]
  simp only [h2, h3, h4, h5]
  rw [if_pos h6]
section
variable {ft : Str → List Str} (hft : ft "Society" = (["size", "wives", "children", "moves"] : List Str))
include hft
theorem moves_ok {w c : List Int} {Δ : DEnv} (hw : ∀ x ∈ w, 0 ≤ x ∧ x < w.length) (hc : ∀ x ∈ c, 0 ≤ x ∧ x < c.length) (l1 : w.length ≤ 400) (l2 : c.length ≤ 400) {n : D} :
    movesM ft "moves" "a" "b" "A" "B" "wives" "children" 0 F_turned_back (.pav (.s "Society" [("size", n), ("wives", itup w), ("children", itup c)]) :: Δ) = .nx (.pav (.s "Society" [("size", n), ("wives", itup w), ("children", itup c), ("moves", mvD w c)]) :: Δ) := by
  have tw := turned_back_ok (l := w) (by omega) hw
  have tc := turned_back_ok (l := c) (by omega) hc
  have f2 : ("wives" : Str) ∈ ft "Society" := by rw [hft]; decide
  have f3 : ("children" : Str) ∈ ft "Society" := by rw [hft]; decide
  have f4 : ("moves" : Str) ∈ ft "Society" := by rw [hft]; decide
  have k1 : List.lookup ("wives" : Str) [(("size" : Str), n), ("wives", itup w), ("children", itup c)] = some (itup w) := rfl
  have k2 : List.lookup ("children" : Str) [(("size" : Str), n), ("wives", itup w), ("children", itup c)] = some (itup c) := rfl
  refine (moves_eq (z := (("Society" : Str), [(("size" : Str), n), ("wives", itup w), ("children", itup c)])) rfl k1 k2 tw tc ⟨⟨f4, f2, f3⟩, by show 3 < 1000; omega, by decide, by decide, by decide⟩).trans ?_
  rfl
theorem init_ok {w c : List Int} {n : Nat} (hw : w.Perm (upto n)) (hc : c.Perm (upto n)) (h1 : 1 ≤ n) (h4 : n ≤ 400) :
    F_Society___init__ ft [.pav (.s "Society" []), .va (.lst (w.map D.int)), .va (.lst (c.map D.int))] = .ok .non [.pav (.s "Society" (socF w c)), .no, .no] := by
  have lw : w.length = n := by rw [hw.length_eq, upto_len]
  have lc : c.length = n := by rw [hc.length_eq, upto_len]
  have ow := is_order_ok hw (by omega)
  have oc := is_order_ok hc (by omega)
  have hm := moves_ok hft (Δ := [.va (.lst (w.map D.int)), .va (.lst (c.map D.int)), .va (.int (n : Nat))]) (perm_rng hw) (perm_rng hc) (by omega) (by omega) (n := .int (n : Nat))
  have f1 : ("size" : Str) ∈ ft "Society" := by rw [hft]; decide
  have f2 : ("wives" : Str) ∈ ft "Society" := by rw [hft]; decide
  have f3 : ("children" : Str) ∈ ft "Society" := by rw [hft]; decide
  have f4 : ("moves" : Str) ∈ ft "Society" := by rw [hft]; decide
  have n1 : (("size" : Str) = "wives") = False := by simp; decide
  have n2 : (("size" : Str) = "children") = False := by simp; decide
  have n3 : (("wives" : Str) = "children") = False := by simp; decide
  unfold F_Society___init__
  rw [bodyF_]
  show (m_Society___init__ ft [.pav (.s "Society" []), .va (.lst (w.map D.int)), .va (.lst (c.map D.int)), .no]).fin 3 = _
  unfold m_Society___init__
  have c1 : (1 : Int) ≤ (n : Nat) := by omega
  have c2 : ((n : Nat) : Int) ≤ 400 := by omega
  simp only [sq_, seq_nx, seq_rt, seq_rf, seq_bk, seq_ct, seq_ex, loop_nx, loop_rt, loop_rf, loop_bk, loop_ct, loop_ex, s_ok_, s_ex_, bind_ok_, bind_ex_, map_ok_, map_ex_, opt_some_, nox_ok_, gd_true_, exprS_, retS_, retFS_, setS_, setOS_, ifS_, forS_, opM_, varR_, asB_, truM_, notM_, andM_, orM_, call1_, lstE_, consM_, aV_, someM_, slM_, raiseM_, andV_, orV_, ifM_, rd_va, rd_ow, rd_pa, addD_int, subD_int, ltG_int, leG_int, gtG_int, geG_int, intD1_int, intD1_bl, absD_int, lenD_lst, lenD_lsx, lenD_tup, canC_no, canC_va, canC_ow, eqD_int, neD_int, eqD_str, neD_str, e_opV, e_varM, e_rdR, e_get0, e_getS, e_set0, e_setS, e_bind, e_cst, e_setM, e_setO, canSet_, e_tgN, e_tgT, e_tgsNil, e_tgsCons, e_asgM, e_parM, e_tupM, e_lstM, e_notV, e_negM, e_seqA, e_chainM, e_callF1, e_sm1M, e_enumM, e_getL, e_list_ow, e_list_pa, e_own_ow, e_own_pa, e_getO, e_setW, e_appendM, e_aO, e_callG, e_cells0, e_cellsV, e_cellsO, e_omap, e_slots0, e_slotsV, e_slotsO, e_nodup0, e_nodup1, e_toR_ok, e_toR_ex, e_toF_fr, e_toF_ex, e_backO, e_backV, e_back0, e_tru_int, e_tru_bl, e_stepC, e_range1M, e_augPutM, e_aug1, e_aug2, e_putL, e_revF, listF, tupD, e_wipe0, e_wipeS, e_rest0, e_restS, e_for0, e_nox, e_plain_no, e_plain_va, e_all0, e_allS, Bool.and_self, Bool.true_and, fin_nx, fin_rt, fin_rf, fin_ex, kpD_kpc, e_kpc0, e_kpcS, keepC_pa, keepC_va, keepC_ow, keepC_no, if_true, if_false, Bool.true_eq, Bool.false_eq_true, decide_true, List.length_cons, List.length_nil, and_self, Nat.reduceAdd, Nat.reduceSub, Nat.reduceLeDiff, Nat.reduceEqDiff, Int.reduceNeg, e_fldV, e_objOf_va, e_objOf_ow, e_objOf_pa, e_fldD, e_getS0, e_fldPutM, e_putFD0, e_putFDS, e_recvM, e_makeM, e_makeE, e_makeEx, e_dkIx, e_dispM, e_min2, e_max2, e_rg1F, e_rg2F, e_raiseM2, e_xfM, e_indexM, e_indexV, e_isiM, e_isisM, i_int_int, i_bool_int, i_str_str, i_tup_tup, i_tup_lst, i_lst_lst, i_lst_tup, is_lt_lst, is_lt_tup, is_lt_int, is_lt_str, Option.map_some, List.length_map, lw, c1, c2, ow, Bool.not_true, oc, f1, f2, f3, f4]
  have z0 : 0 < 1000 := by omega
  have z1 : 1 < 1000 := by omega
  have z2 : 2 < 1000 := by omega
  have z3 : 3 < 1000 := by omega
  simp only [sq_, seq_nx, seq_rt, seq_rf, seq_bk, seq_ct, seq_ex, loop_nx, loop_rt, loop_rf, loop_bk, loop_ct, loop_ex, s_ok_, s_ex_, bind_ok_, bind_ex_, map_ok_, map_ex_, opt_some_, nox_ok_, gd_true_, exprS_, retS_, retFS_, setS_, setOS_, ifS_, forS_, opM_, varR_, asB_, truM_, notM_, andM_, orM_, call1_, lstE_, consM_, aV_, someM_, slM_, raiseM_, andV_, orV_, ifM_, rd_va, rd_ow, rd_pa, addD_int, subD_int, ltG_int, leG_int, gtG_int, geG_int, intD1_int, intD1_bl, absD_int, lenD_lst, lenD_lsx, lenD_tup, canC_no, canC_va, canC_ow, eqD_int, neD_int, eqD_str, neD_str, e_opV, e_varM, e_rdR, e_get0, e_getS, e_set0, e_setS, e_bind, e_cst, e_setM, e_setO, canSet_, e_tgN, e_tgT, e_tgsNil, e_tgsCons, e_asgM, e_parM, e_tupM, e_lstM, e_notV, e_negM, e_seqA, e_chainM, e_callF1, e_sm1M, e_enumM, e_getL, e_list_ow, e_list_pa, e_own_ow, e_own_pa, e_getO, e_setW, e_appendM, e_aO, e_callG, e_cells0, e_cellsV, e_cellsO, e_omap, e_slots0, e_slotsV, e_slotsO, e_nodup0, e_nodup1, e_toR_ok, e_toR_ex, e_toF_fr, e_toF_ex, e_backO, e_backV, e_back0, e_tru_int, e_tru_bl, e_stepC, e_range1M, e_augPutM, e_aug1, e_aug2, e_putL, e_revF, listF, tupD, e_wipe0, e_wipeS, e_rest0, e_restS, e_for0, e_nox, e_plain_no, e_plain_va, e_all0, e_allS, Bool.and_self, Bool.true_and, fin_nx, fin_rt, fin_rf, fin_ex, kpD_kpc, e_kpc0, e_kpcS, keepC_pa, keepC_va, keepC_ow, keepC_no, if_true, if_false, Bool.true_eq, Bool.false_eq_true, decide_true, List.length_cons, List.length_nil, and_self, Nat.reduceAdd, Nat.reduceSub, Nat.reduceLeDiff, Nat.reduceEqDiff, Int.reduceNeg, e_fldV, e_objOf_va, e_objOf_ow, e_objOf_pa, e_fldD, e_getS0, e_fldPutM, e_putFD0, e_putFDS, e_recvM, e_makeM, e_makeE, e_makeEx, e_dkIx, e_dispM, e_min2, e_max2, e_rg1F, e_rg2F, e_raiseM2, e_xfM, e_indexM, e_indexV, e_isiM, e_isisM, i_int_int, i_bool_int, i_str_str, i_tup_tup, i_tup_lst, i_lst_lst, i_lst_tup, is_lt_lst, is_lt_tup, is_lt_int, is_lt_str, true_and, and_true, z0, z1, z2, z3, n1, n2, n3, hm, f1, f2, f3, f4, not_false_eq_true, ne_eq]
  unfold socF
  rw [lw]
end
end Cs
end KL
/-! KM, part p: societies walked, class words. -/
namespace KL
namespace Cs
open PySem L2
theorem ix_tup {l : List Int} {p : Int} (h0 : 0 ≤ p) (h : p < l.length) : ixD (itup l) (.int p) = some (.int (l.getD p.toNat 0)) := by
  obtain ⟨k, rfl⟩ := Int.eq_ofNat_of_zero_le h0
  have hk : k < l.length := by omega
  show atI (l.map D.int) (k : Nat) = _
  unfold atI ixN
  rw [if_pos (by omega), if_pos (by rw [List.length_map]; omega)]
  simp [hk]
theorem tb_len : ∀ (l : List Int) (k : Nat) (acc : List Int), (tb l k acc).length = acc.length
  | [], _, _ => rfl
  | x :: xs, k, acc => by
    show (tb xs (k + 1) (acc.set x.toNat k)).length = _
    rw [tb_len, List.length_set]
theorem tb_rng {n : Nat} : ∀ (l : List Int) (k : Nat) (acc : List Int), k + l.length ≤ n → (∀ y ∈ acc, 0 ≤ y ∧ y < (n : Int)) → ∀ y ∈ tb l k acc, 0 ≤ y ∧ y < (n : Int)
  | [], _, _, _, ha => ha
  | x :: xs, k, acc, hk, ha => by
    rw [List.length_cons] at hk
    refine tb_rng xs (k + 1) _ (by omega) fun y hy => ?_
    rcases List.mem_or_eq_of_mem_set hy with h | h
    · exact ha y h
    · omega
theorem turned_len (l : List Int) : (turned l).length = l.length := by unfold turned; rw [tb_len, List.length_replicate]
theorem turned_rng {l : List Int} : ∀ y ∈ turned l, 0 ≤ y ∧ y < (l.length : Int) := by
  unfold turned
  refine tb_rng l 0 _ (by omega) fun y hy => ?_
  obtain ⟨h1, rfl⟩ := List.mem_replicate.mp hy
  omega
/-- one letter's order -/
def stp (w c : List Int) (x : Nat) : List Int := if x = 97 then w else if x = 98 then c else if x = 65 then turned w else turned c
def walk (w c : List Int) : List Nat → Int → Int
  | [], p => p
  | x :: xs, p => walk w c xs ((stp w c x).getD p.toNat 0)
def Let (cs : List Nat) : Prop := ∀ x ∈ cs, x = 97 ∨ x = 98 ∨ x = 65 ∨ x = 66
theorem dk_let {w c : List Int} {x : Nat} (h : x = 97 ∨ x = 98 ∨ x = 65 ∨ x = 66) : dkIx (mvD w c) (chD x) = some (itup (stp w c x)) := by
  rcases h with rfl | rfl | rfl | rfl <;> rfl
structure Two (n : Nat) (w c : List Int) : Prop where
  w : w.Perm (upto n)
  c : c.Perm (upto n)
theorem Two.lw {n : Nat} {w c : List Int} (h : Two n w c) : w.length = n := by rw [h.w.length_eq, upto_len]
theorem Two.lc {n : Nat} {w c : List Int} (h : Two n w c) : c.length = n := by rw [h.c.length_eq, upto_len]
theorem stp_len {n : Nat} {w c : List Int} (h : Two n w c) (x : Nat) : (stp w c x).length = n := by
  unfold stp
  split
  · exact h.lw
  split
  · exact h.lc
  split
  · rw [turned_len, h.lw]
  · rw [turned_len, h.lc]
theorem stp_rng {n : Nat} {w c : List Int} (h : Two n w c) (x : Nat) : ∀ y ∈ stp w c x, 0 ≤ y ∧ y < (n : Int) := by
  have a := perm_rng h.w
  have b := perm_rng h.c
  rw [h.lw] at a
  rw [h.lc] at b
  have a2 := turned_rng (l := w)
  have b2 := turned_rng (l := c)
  rw [h.lw] at a2
  rw [h.lc] at b2
  unfold stp
  split
  · exact a
  split
  · exact b
  split
  · exact a2
  · exact b2
theorem getD_rng {n : Nat} {l : List Int} (hr : ∀ y ∈ l, 0 ≤ y ∧ y < (n : Int)) {p : Int} (h0 : 0 ≤ p) (h : p < l.length) : 0 ≤ l.getD p.toNat 0 ∧ l.getD p.toNat 0 < (n : Int) := by
  have hk : p.toNat < l.length := by omega
  rw [List.getD_eq_getElem?_getD, List.getElem?_eq_getElem hk]
  exact hr _ (List.getElem_mem hk)
theorem walk_rng {n : Nat} {w c : List Int} (h : Two n w c) : ∀ (cs : List Nat) (p : Int), 0 ≤ p → p < n → 0 ≤ walk w c cs p ∧ walk w c cs p < (n : Int)
  | [], p, h1, h2 => ⟨h1, h2⟩
  | x :: xs, p, h1, h2 => by
    have g := getD_rng (stp_rng h x) h1 (by rw [stp_len h]; exact h2)
    exact walk_rng h xs _ g.1 g.2
def Society_walked_b1 (ft : Str → List Str) : DEnv → SRes := (setS 1 (opM ixD (opM dkIx (fldV ft "moves" 0) (varM 3)) (varR 1)))
def m_Society_walked (ft : Str → List Str) : DEnv → SRes := (sq (forS (seqA (varM 2)) (tgN 3) (Society_walked_b1 ft)) (retS (varM 1)))
def F_Society_walked (ft : Str → List Str) : DEnv → FRes := bodyF 3 4 (m_Society_walked ft)
def m_check_class (ft : Str → List Str) : DEnv → SRes := (ifS (orM (notM (truM (isiM "int" (varM 1)))) (orM (truM (isiM "bool" (varM 1))) (notM (asB (chainM leG ltG (cst (D.int 0)) (varM 1) (fldV ft "size" 0)))))) (raiseM "InvalidSociety" "what" (cst (D.str "class"))) SRes.nx)
def F_check_class (ft : Str → List Str) : DEnv → FRes := bodyF 2 2 (m_check_class ft)
def m_is_class_word : DEnv → SRes := (retS (andV (isiM "str" (varM 0)) (andV (opM leG (call1 lenD (varR 0)) (cst (D.int 1000))) (call1 allD (lstE (lcM [1] (seqA (varM 0)) (tgN 1) (cst true) (opV inD 1 (cst (D.str "ABab")))))))))
def F_is_class_word : DEnv → FRes := bodyF 1 2 m_is_class_word
def m_check_class_word : DEnv → SRes := (ifS (notM (truM (callM F_is_class_word (aV (varM 0) (cst ([] : List Arg)))))) (raiseM "InvalidWord" "what" (cst (D.str "class"))) SRes.nx)
def F_check_class_word : DEnv → FRes := bodyF 1 1 m_check_class_word
def m_Society_led (ft : Str → List Str) : DEnv → SRes := (sq (exprS (callM F_check_class_word (aV (varM 2) (cst ([] : List Arg))))) (sq (exprS (callM (F_check_class ft) (aV (varM 0) (aV (varM 1) (cst ([] : List Arg)))))) (retS (callM (F_Society_walked ft) (recvM "Society" "walked" (varM 0) (aV (varM 1) (aV (varM 2) (cst ([] : List Arg)))))))))
def F_Society_led (ft : Str → List Str) : DEnv → FRes := bodyF 3 3 (m_Society_led ft)
theorem bsOf_true {α : Type} : ∀ l : List α, bsOf (l.map fun _ => D.bl true) = some (l.map fun _ => true)
  | [] => rfl
  | x :: xs => by
    show (bsOf (xs.map fun _ => D.bl true)).map (true :: ·) = _
    rw [bsOf_true xs]; rfl
theorem allD_true {α : Type} (l : List α) : allD (.lst (l.map fun _ => .bl true)) = some (.bl true) := by
  show (bsOf _).map _ = _
  rw [bsOf_true]
  simp
theorem len_S {cs : List Nat} (h : cs.length ≤ 16777216) : lenD (.str (S cs)) = some (.int cs.length) := by
  show (if (S cs).length ≤ 16777216 then some (D.int (S cs).length) else none) = _
  rw [S_len, if_pos h]
theorem class_word_ok {cs : List Nat} (h : Let cs) (hl : cs.length ≤ 1000) : F_is_class_word [.va (.str (S cs))] = .ok (.bl true) [.no] := by
  have hc : lcM [1] (seqA (varM 0)) (tgN 1) (cst true) (opV inD 1 (cst (D.str "ABab"))) [.va (.str (S cs)), .no] = .ok (cs.map fun _ => .bl true) [.va (.str (S cs)), .no] := by
    rw [lcM_m chD (fun _ => .bl true) (xs := cs) (hi := by simp only [sq_, seq_nx, seq_rt, seq_rf, seq_bk, seq_ct, seq_ex, loop_nx, loop_rt, loop_rf, loop_bk, loop_ct, loop_ex, s_ok_, s_ex_, bind_ok_, bind_ex_, map_ok_, map_ex_, opt_some_, nox_ok_, gd_true_, exprS_, retS_, retFS_, setS_, setOS_, ifS_, forS_, opM_, varR_, asB_, truM_, notM_, andM_, orM_, call1_, lstE_, consM_, aV_, someM_, slM_, raiseM_, andV_, orV_, ifM_, rd_va, rd_ow, rd_pa, addD_int, subD_int, ltG_int, leG_int, gtG_int, geG_int, intD1_int, intD1_bl, absD_int, lenD_lst, lenD_lsx, lenD_tup, canC_no, canC_va, canC_ow, eqD_int, neD_int, eqD_str, neD_str, e_opV, e_varM, e_rdR, e_get0, e_getS, e_set0, e_setS, e_bind, e_cst, e_setM, e_setO, canSet_, e_tgN, e_tgT, e_tgsNil, e_tgsCons, e_asgM, e_parM, e_tupM, e_lstM, e_notV, e_negM, e_seqA, e_chainM, e_callF1, e_sm1M, e_enumM, e_getL, e_list_ow, e_list_pa, e_own_ow, e_own_pa, e_getO, e_setW, e_appendM, e_aO, e_callG, e_cells0, e_cellsV, e_cellsO, e_omap, e_slots0, e_slotsV, e_slotsO, e_nodup0, e_nodup1, e_toR_ok, e_toR_ex, e_toF_fr, e_toF_ex, e_backO, e_backV, e_back0, e_tru_int, e_tru_bl, e_stepC, e_range1M, e_augPutM, e_aug1, e_aug2, e_putL, e_revF, listF, tupD, e_wipe0, e_wipeS, e_rest0, e_restS, e_for0, e_nox, e_plain_no, e_plain_va, e_all0, e_allS, Bool.and_self, Bool.true_and, fin_nx, fin_rt, fin_rf, fin_ex, kpD_kpc, e_kpc0, e_kpcS, keepC_pa, keepC_va, keepC_ow, keepC_no, if_true, if_false, Bool.true_eq, Bool.false_eq_true, decide_true, List.length_cons, List.length_nil, and_self, Nat.reduceAdd, Nat.reduceSub, Nat.reduceLeDiff, Nat.reduceEqDiff, Int.reduceNeg, e_fldV, e_objOf_va, e_objOf_ow, e_objOf_pa, e_fldD, e_getS0, e_fldPutM, e_putFD0, e_putFDS, e_recvM, e_makeM, e_makeE, e_makeEx, e_dkIx, e_dispM, e_min2, e_max2, e_rg1F, e_rg2F, e_raiseM2, e_xfM, e_indexM, e_indexV, e_isiM, e_isisM, i_int_int, i_bool_int, i_str_str, i_tup_tup, i_tup_lst, i_lst_lst, i_lst_tup, is_lt_lst, is_lt_tup, is_lt_int, is_lt_str, signs_S]; rfl) (hl := by omega) (hp := rfl) (h := fun x hx => ?_)]
    have e : inD (chD x) (.str "ABab") = some (.bl true) := by rcases h x hx with rfl | rfl | rfl | rfl <;> rfl
    simp only [sq_, seq_nx, seq_rt, seq_rf, seq_bk, seq_ct, seq_ex, loop_nx, loop_rt, loop_rf, loop_bk, loop_ct, loop_ex, s_ok_, s_ex_, bind_ok_, bind_ex_, map_ok_, map_ex_, opt_some_, nox_ok_, gd_true_, exprS_, retS_, retFS_, setS_, setOS_, ifS_, forS_, opM_, varR_, asB_, truM_, notM_, andM_, orM_, call1_, lstE_, consM_, aV_, someM_, slM_, raiseM_, andV_, orV_, ifM_, rd_va, rd_ow, rd_pa, addD_int, subD_int, ltG_int, leG_int, gtG_int, geG_int, intD1_int, intD1_bl, absD_int, lenD_lst, lenD_lsx, lenD_tup, canC_no, canC_va, canC_ow, eqD_int, neD_int, eqD_str, neD_str, e_opV, e_varM, e_rdR, e_get0, e_getS, e_set0, e_setS, e_bind, e_cst, e_setM, e_setO, canSet_, e_tgN, e_tgT, e_tgsNil, e_tgsCons, e_asgM, e_parM, e_tupM, e_lstM, e_notV, e_negM, e_seqA, e_chainM, e_callF1, e_sm1M, e_enumM, e_getL, e_list_ow, e_list_pa, e_own_ow, e_own_pa, e_getO, e_setW, e_appendM, e_aO, e_callG, e_cells0, e_cellsV, e_cellsO, e_omap, e_slots0, e_slotsV, e_slotsO, e_nodup0, e_nodup1, e_toR_ok, e_toR_ex, e_toF_fr, e_toF_ex, e_backO, e_backV, e_back0, e_tru_int, e_tru_bl, e_stepC, e_range1M, e_augPutM, e_aug1, e_aug2, e_putL, e_revF, listF, tupD, e_wipe0, e_wipeS, e_rest0, e_restS, e_for0, e_nox, e_plain_no, e_plain_va, e_all0, e_allS, Bool.and_self, Bool.true_and, fin_nx, fin_rt, fin_rf, fin_ex, kpD_kpc, e_kpc0, e_kpcS, keepC_pa, keepC_va, keepC_ow, keepC_no, if_true, if_false, Bool.true_eq, Bool.false_eq_true, decide_true, List.length_cons, List.length_nil, and_self, Nat.reduceAdd, Nat.reduceSub, Nat.reduceLeDiff, Nat.reduceEqDiff, Int.reduceNeg, e_fldV, e_objOf_va, e_objOf_ow, e_objOf_pa, e_fldD, e_getS0, e_fldPutM, e_putFD0, e_putFDS, e_recvM, e_makeM, e_makeE, e_makeEx, e_dkIx, e_dispM, e_min2, e_max2, e_rg1F, e_rg2F, e_raiseM2, e_xfM, e_indexM, e_indexV, e_isiM, e_isisM, i_int_int, i_bool_int, i_str_str, i_tup_tup, i_tup_lst, i_lst_lst, i_lst_tup, is_lt_lst, is_lt_tup, is_lt_int, is_lt_str, e]
  unfold F_is_class_word
  rw [bodyF_]
  show (m_is_class_word [.va (.str (S cs)), .no]).fin 1 = _
  unfold m_is_class_word
  have c1 : ((cs.length : Nat) : Int) ≤ 1000 := by omega
  simp only [sq_, seq_nx, seq_rt, seq_rf, seq_bk, seq_ct, seq_ex, loop_nx, loop_rt, loop_rf, loop_bk, loop_ct, loop_ex, s_ok_, s_ex_, bind_ok_, bind_ex_, map_ok_, map_ex_, opt_some_, nox_ok_, gd_true_, exprS_, retS_, retFS_, setS_, setOS_, ifS_, forS_, opM_, varR_, asB_, truM_, notM_, andM_, orM_, call1_, lstE_, consM_, aV_, someM_, slM_, raiseM_, andV_, orV_, ifM_, rd_va, rd_ow, rd_pa, addD_int, subD_int, ltG_int, leG_int, gtG_int, geG_int, intD1_int, intD1_bl, absD_int, lenD_lst, lenD_lsx, lenD_tup, canC_no, canC_va, canC_ow, eqD_int, neD_int, eqD_str, neD_str, e_opV, e_varM, e_rdR, e_get0, e_getS, e_set0, e_setS, e_bind, e_cst, e_setM, e_setO, canSet_, e_tgN, e_tgT, e_tgsNil, e_tgsCons, e_asgM, e_parM, e_tupM, e_lstM, e_notV, e_negM, e_seqA, e_chainM, e_callF1, e_sm1M, e_enumM, e_getL, e_list_ow, e_list_pa, e_own_ow, e_own_pa, e_getO, e_setW, e_appendM, e_aO, e_callG, e_cells0, e_cellsV, e_cellsO, e_omap, e_slots0, e_slotsV, e_slotsO, e_nodup0, e_nodup1, e_toR_ok, e_toR_ex, e_toF_fr, e_toF_ex, e_backO, e_backV, e_back0, e_tru_int, e_tru_bl, e_stepC, e_range1M, e_augPutM, e_aug1, e_aug2, e_putL, e_revF, listF, tupD, e_wipe0, e_wipeS, e_rest0, e_restS, e_for0, e_nox, e_plain_no, e_plain_va, e_all0, e_allS, Bool.and_self, Bool.true_and, fin_nx, fin_rt, fin_rf, fin_ex, kpD_kpc, e_kpc0, e_kpcS, keepC_pa, keepC_va, keepC_ow, keepC_no, if_true, if_false, Bool.true_eq, Bool.false_eq_true, decide_true, List.length_cons, List.length_nil, and_self, Nat.reduceAdd, Nat.reduceSub, Nat.reduceLeDiff, Nat.reduceEqDiff, Int.reduceNeg, e_fldV, e_objOf_va, e_objOf_ow, e_objOf_pa, e_fldD, e_getS0, e_fldPutM, e_putFD0, e_putFDS, e_recvM, e_makeM, e_makeE, e_makeEx, e_dkIx, e_dispM, e_min2, e_max2, e_rg1F, e_rg2F, e_raiseM2, e_xfM, e_indexM, e_indexV, e_isiM, e_isisM, i_int_int, i_bool_int, i_str_str, i_tup_tup, i_tup_lst, i_lst_lst, i_lst_tup, is_lt_lst, is_lt_tup, is_lt_int, is_lt_str, Option.map_some, len_S (show cs.length ≤ 16777216 by omega), c1, hc, allD_true]
theorem check_class_word_ok {cs : List Nat} (h : Let cs) (hl : cs.length ≤ 1000) : F_check_class_word [.va (.str (S cs))] = .ok .non [.no] := by
  unfold F_check_class_word
  rw [bodyF_]
  show (m_check_class_word [.va (.str (S cs))]).fin 1 = _
  unfold m_check_class_word
  simp only [sq_, seq_nx, seq_rt, seq_rf, seq_bk, seq_ct, seq_ex, loop_nx, loop_rt, loop_rf, loop_bk, loop_ct, loop_ex, s_ok_, s_ex_, bind_ok_, bind_ex_, map_ok_, map_ex_, opt_some_, nox_ok_, gd_true_, exprS_, retS_, retFS_, setS_, setOS_, ifS_, forS_, opM_, varR_, asB_, truM_, notM_, andM_, orM_, call1_, lstE_, consM_, aV_, someM_, slM_, raiseM_, andV_, orV_, ifM_, rd_va, rd_ow, rd_pa, addD_int, subD_int, ltG_int, leG_int, gtG_int, geG_int, intD1_int, intD1_bl, absD_int, lenD_lst, lenD_lsx, lenD_tup, canC_no, canC_va, canC_ow, eqD_int, neD_int, eqD_str, neD_str, e_opV, e_varM, e_rdR, e_get0, e_getS, e_set0, e_setS, e_bind, e_cst, e_setM, e_setO, canSet_, e_tgN, e_tgT, e_tgsNil, e_tgsCons, e_asgM, e_parM, e_tupM, e_lstM, e_notV, e_negM, e_seqA, e_chainM, e_callF1, e_sm1M, e_enumM, e_getL, e_list_ow, e_list_pa, e_own_ow, e_own_pa, e_getO, e_setW, e_appendM, e_aO, e_callG, e_cells0, e_cellsV, e_cellsO, e_omap, e_slots0, e_slotsV, e_slotsO, e_nodup0, e_nodup1, e_toR_ok, e_toR_ex, e_toF_fr, e_toF_ex, e_backO, e_backV, e_back0, e_tru_int, e_tru_bl, e_stepC, e_range1M, e_augPutM, e_aug1, e_aug2, e_putL, e_revF, listF, tupD, e_wipe0, e_wipeS, e_rest0, e_restS, e_for0, e_nox, e_plain_no, e_plain_va, e_all0, e_allS, Bool.and_self, Bool.true_and, fin_nx, fin_rt, fin_rf, fin_ex, kpD_kpc, e_kpc0, e_kpcS, keepC_pa, keepC_va, keepC_ow, keepC_no, if_true, if_false, Bool.true_eq, Bool.false_eq_true, decide_true, List.length_cons, List.length_nil, and_self, Nat.reduceAdd, Nat.reduceSub, Nat.reduceLeDiff, Nat.reduceEqDiff, Int.reduceNeg, e_fldV, e_objOf_va, e_objOf_ow, e_objOf_pa, e_fldD, e_getS0, e_fldPutM, e_putFD0, e_putFDS, e_recvM, e_makeM, e_makeE, e_makeEx, e_dkIx, e_dispM, e_min2, e_max2, e_rg1F, e_rg2F, e_raiseM2, e_xfM, e_indexM, e_indexV, e_isiM, e_isisM, i_int_int, i_bool_int, i_str_str, i_tup_tup, i_tup_lst, i_lst_lst, i_lst_tup, is_lt_lst, is_lt_tup, is_lt_int, is_lt_str, class_word_ok h hl, Bool.not_true]
theorem soc_obj {w c : List Int} : objOf (.va (soc w c)) = some (("Society" : Str), socF w c) := nr rfl
theorem sk_size {w c : List Int} : (socF w c).lookup ("size" : Str) = some (.int (w.length : Nat)) := nr rfl
theorem sk_wives {w c : List Int} : (socF w c).lookup ("wives" : Str) = some (itup w) := nr rfl
theorem sk_children {w c : List Int} : (socF w c).lookup ("children" : Str) = some (itup c) := nr rfl
theorem sk_moves {w c : List Int} : (socF w c).lookup ("moves" : Str) = some (mvD w c) := nr rfl
section
variable {ft : Str → List Str} (hft : ft "Society" = (["size", "wives", "children", "moves"] : List Str))
include hft
theorem ft_size : ("size" : Str) ∈ ft "Society" := by rw [hft]; decide
theorem ft_wives : ("wives" : Str) ∈ ft "Society" := by rw [hft]; decide
theorem ft_children : ("children" : Str) ∈ ft "Society" := by rw [hft]; decide
theorem ft_moves : ("moves" : Str) ∈ ft "Society" := by rw [hft]; decide
theorem walk_loop {n : Nat} {w c : List Int} (h2 : Two n w c) {t : Cell} : ∀ (cs : List Nat) (p : Int) (c3 : Cell), canC c3 = true → Let cs → 0 ≤ p → p < n → ∃ d3, forM (tgN 3) (Society_walked_b1 ft) (cs.map chD) [.va (soc w c), .va (.int p), t, c3] = .nx [.va (soc w c), .va (.int (walk w c cs p)), t, d3]
  | [], p, c3, _, _, _, _ => ⟨c3, rfl⟩
  | x :: xs, p, c3, k3, hl, h0, hp => by
    have g := getD_rng (stp_rng h2 x) h0 (by rw [stp_len h2]; exact hp)
    obtain ⟨d3, h⟩ := walk_loop h2 xs _ (.va (chD x)) rfl (fun y hy => hl y (by simp [hy])) g.1 g.2
    refine ⟨d3, ?_⟩
    rw [List.map_cons, e_forS]
    unfold Society_walked_b1
    simp only [sq_, seq_nx, seq_rt, seq_rf, seq_bk, seq_ct, seq_ex, loop_nx, loop_rt, loop_rf, loop_bk, loop_ct, loop_ex, s_ok_, s_ex_, bind_ok_, bind_ex_, map_ok_, map_ex_, opt_some_, nox_ok_, gd_true_, exprS_, retS_, retFS_, setS_, setOS_, ifS_, forS_, opM_, varR_, asB_, truM_, notM_, andM_, orM_, call1_, lstE_, consM_, aV_, someM_, slM_, raiseM_, andV_, orV_, ifM_, rd_va, rd_ow, rd_pa, addD_int, subD_int, ltG_int, leG_int, gtG_int, geG_int, intD1_int, intD1_bl, absD_int, lenD_lst, lenD_lsx, lenD_tup, canC_no, canC_va, canC_ow, eqD_int, neD_int, eqD_str, neD_str, e_opV, e_varM, e_rdR, e_get0, e_getS, e_set0, e_setS, e_bind, e_cst, e_setM, e_setO, canSet_, e_tgN, e_tgT, e_tgsNil, e_tgsCons, e_asgM, e_parM, e_tupM, e_lstM, e_notV, e_negM, e_seqA, e_chainM, e_callF1, e_sm1M, e_enumM, e_getL, e_list_ow, e_list_pa, e_own_ow, e_own_pa, e_getO, e_setW, e_appendM, e_aO, e_callG, e_cells0, e_cellsV, e_cellsO, e_omap, e_slots0, e_slotsV, e_slotsO, e_nodup0, e_nodup1, e_toR_ok, e_toR_ex, e_toF_fr, e_toF_ex, e_backO, e_backV, e_back0, e_tru_int, e_tru_bl, e_stepC, e_range1M, e_augPutM, e_aug1, e_aug2, e_putL, e_revF, listF, tupD, e_wipe0, e_wipeS, e_rest0, e_restS, e_for0, e_nox, e_plain_no, e_plain_va, e_all0, e_allS, Bool.and_self, Bool.true_and, fin_nx, fin_rt, fin_rf, fin_ex, kpD_kpc, e_kpc0, e_kpcS, keepC_pa, keepC_va, keepC_ow, keepC_no, if_true, if_false, Bool.true_eq, Bool.false_eq_true, decide_true, List.length_cons, List.length_nil, and_self, Nat.reduceAdd, Nat.reduceSub, Nat.reduceLeDiff, Nat.reduceEqDiff, Int.reduceNeg, e_fldV, e_objOf_va, e_objOf_ow, e_objOf_pa, e_fldD, e_getS0, e_fldPutM, e_putFD0, e_putFDS, e_recvM, e_makeM, e_makeE, e_makeEx, e_dkIx, e_dispM, e_min2, e_max2, e_rg1F, e_rg2F, e_raiseM2, e_xfM, e_indexM, e_indexV, e_isiM, e_isisM, i_int_int, i_bool_int, i_str_str, i_tup_tup, i_tup_lst, i_lst_lst, i_lst_tup, is_lt_lst, is_lt_tup, is_lt_int, is_lt_str, k3, soc_obj, sk_moves, ft_moves hft, dk_let (hl x (by simp)), ix_tup h0 (show p < ((stp w c x).length : Nat) by rw [stp_len h2]; exact hp)]
    exact h
theorem walked_ok {n : Nat} {w c : List Int} (h2 : Two n w c) {cs : List Nat} {p : Int} (hl : Let cs) (h0 : 0 ≤ p) (hp : p < n) : F_Society_walked ft [.va (soc w c), .va (.int p), .va (.str (S cs))] = .ok (.int (walk w c cs p)) [.no, .no, .no] := by
  unfold F_Society_walked
  rw [bodyF_]
  show (m_Society_walked ft [.va (soc w c), .va (.int p), .va (.str (S cs)), .no]).fin 3 = _
  unfold m_Society_walked
  obtain ⟨d3, h⟩ := walk_loop hft h2 (t := .va (.str (S cs))) cs p .no rfl hl h0 hp
  simp only [sq_, seq_nx, seq_rt, seq_rf, seq_bk, seq_ct, seq_ex, loop_nx, loop_rt, loop_rf, loop_bk, loop_ct, loop_ex, s_ok_, s_ex_, bind_ok_, bind_ex_, map_ok_, map_ex_, opt_some_, nox_ok_, gd_true_, exprS_, retS_, retFS_, setS_, setOS_, ifS_, forS_, opM_, varR_, asB_, truM_, notM_, andM_, orM_, call1_, lstE_, consM_, aV_, someM_, slM_, raiseM_, andV_, orV_, ifM_, rd_va, rd_ow, rd_pa, addD_int, subD_int, ltG_int, leG_int, gtG_int, geG_int, intD1_int, intD1_bl, absD_int, lenD_lst, lenD_lsx, lenD_tup, canC_no, canC_va, canC_ow, eqD_int, neD_int, eqD_str, neD_str, e_opV, e_varM, e_rdR, e_get0, e_getS, e_set0, e_setS, e_bind, e_cst, e_setM, e_setO, canSet_, e_tgN, e_tgT, e_tgsNil, e_tgsCons, e_asgM, e_parM, e_tupM, e_lstM, e_notV, e_negM, e_seqA, e_chainM, e_callF1, e_sm1M, e_enumM, e_getL, e_list_ow, e_list_pa, e_own_ow, e_own_pa, e_getO, e_setW, e_appendM, e_aO, e_callG, e_cells0, e_cellsV, e_cellsO, e_omap, e_slots0, e_slotsV, e_slotsO, e_nodup0, e_nodup1, e_toR_ok, e_toR_ex, e_toF_fr, e_toF_ex, e_backO, e_backV, e_back0, e_tru_int, e_tru_bl, e_stepC, e_range1M, e_augPutM, e_aug1, e_aug2, e_putL, e_revF, listF, tupD, e_wipe0, e_wipeS, e_rest0, e_restS, e_for0, e_nox, e_plain_no, e_plain_va, e_all0, e_allS, Bool.and_self, Bool.true_and, fin_nx, fin_rt, fin_rf, fin_ex, kpD_kpc, e_kpc0, e_kpcS, keepC_pa, keepC_va, keepC_ow, keepC_no, if_true, if_false, Bool.true_eq, Bool.false_eq_true, decide_true, List.length_cons, List.length_nil, and_self, Nat.reduceAdd, Nat.reduceSub, Nat.reduceLeDiff, Nat.reduceEqDiff, Int.reduceNeg, e_fldV, e_objOf_va, e_objOf_ow, e_objOf_pa, e_fldD, e_getS0, e_fldPutM, e_putFD0, e_putFDS, e_recvM, e_makeM, e_makeE, e_makeEx, e_dkIx, e_dispM, e_min2, e_max2, e_rg1F, e_rg2F, e_raiseM2, e_xfM, e_indexM, e_indexV, e_isiM, e_isisM, i_int_int, i_bool_int, i_str_str, i_tup_tup, i_tup_lst, i_lst_lst, i_lst_tup, is_lt_lst, is_lt_tup, is_lt_int, is_lt_str, signs_S, h]
theorem check_class_ok {w c : List Int} {p : Int} (h0 : 0 ≤ p) (hp : p < (w.length : Nat)) : F_check_class ft [.va (soc w c), .va (.int p)] = .ok .non [.no, .no] := by
  unfold F_check_class
  rw [bodyF_]
  show (m_check_class ft [.va (soc w c), .va (.int p)]).fin 2 = _
  unfold m_check_class
  simp only [sq_, seq_nx, seq_rt, seq_rf, seq_bk, seq_ct, seq_ex, loop_nx, loop_rt, loop_rf, loop_bk, loop_ct, loop_ex, s_ok_, s_ex_, bind_ok_, bind_ex_, map_ok_, map_ex_, opt_some_, nox_ok_, gd_true_, exprS_, retS_, retFS_, setS_, setOS_, ifS_, forS_, opM_, varR_, asB_, truM_, notM_, andM_, orM_, call1_, lstE_, consM_, aV_, someM_, slM_, raiseM_, andV_, orV_, ifM_, rd_va, rd_ow, rd_pa, addD_int, subD_int, ltG_int, leG_int, gtG_int, geG_int, intD1_int, intD1_bl, absD_int, lenD_lst, lenD_lsx, lenD_tup, canC_no, canC_va, canC_ow, eqD_int, neD_int, eqD_str, neD_str, e_opV, e_varM, e_rdR, e_get0, e_getS, e_set0, e_setS, e_bind, e_cst, e_setM, e_setO, canSet_, e_tgN, e_tgT, e_tgsNil, e_tgsCons, e_asgM, e_parM, e_tupM, e_lstM, e_notV, e_negM, e_seqA, e_chainM, e_callF1, e_sm1M, e_enumM, e_getL, e_list_ow, e_list_pa, e_own_ow, e_own_pa, e_getO, e_setW, e_appendM, e_aO, e_callG, e_cells0, e_cellsV, e_cellsO, e_omap, e_slots0, e_slotsV, e_slotsO, e_nodup0, e_nodup1, e_toR_ok, e_toR_ex, e_toF_fr, e_toF_ex, e_backO, e_backV, e_back0, e_tru_int, e_tru_bl, e_stepC, e_range1M, e_augPutM, e_aug1, e_aug2, e_putL, e_revF, listF, tupD, e_wipe0, e_wipeS, e_rest0, e_restS, e_for0, e_nox, e_plain_no, e_plain_va, e_all0, e_allS, Bool.and_self, Bool.true_and, fin_nx, fin_rt, fin_rf, fin_ex, kpD_kpc, e_kpc0, e_kpcS, keepC_pa, keepC_va, keepC_ow, keepC_no, if_true, if_false, Bool.true_eq, Bool.false_eq_true, decide_true, List.length_cons, List.length_nil, and_self, Nat.reduceAdd, Nat.reduceSub, Nat.reduceLeDiff, Nat.reduceEqDiff, Int.reduceNeg, e_fldV, e_objOf_va, e_objOf_ow, e_objOf_pa, e_fldD, e_getS0, e_fldPutM, e_putFD0, e_putFDS, e_recvM, e_makeM, e_makeE, e_makeEx, e_dkIx, e_dispM, e_min2, e_max2, e_rg1F, e_rg2F, e_raiseM2, e_xfM, e_indexM, e_indexV, e_isiM, e_isisM, i_int_int, i_bool_int, i_str_str, i_tup_tup, i_tup_lst, i_lst_lst, i_lst_tup, is_lt_lst, is_lt_tup, is_lt_int, is_lt_str, Option.map_some, Bool.not_true, soc_obj, sk_size, ft_size hft, h0, hp]
theorem led_ok {n : Nat} {w c : List Int} (h2 : Two n w c) {cs : List Nat} {p : Int} (hl : Let cs) (hk : cs.length ≤ 1000) (h0 : 0 ≤ p) (hp : p < n) : F_Society_led ft [.va (soc w c), .va (.int p), .va (.str (S cs))] = .ok (.int (walk w c cs p)) [.no, .no, .no] := by
  unfold F_Society_led
  rw [bodyF_]
  show (m_Society_led ft [.va (soc w c), .va (.int p), .va (.str (S cs))]).fin 3 = _
  unfold m_Society_led
  have lk : (socF w c).lookup ("walked" : Str) = none := rfl
  have a := check_class_ok hft (w := w) (c := c) h0 (by rw [h2.lw]; exact hp)
  have b := walked_ok hft h2 hl h0 hp
  unfold soc at a b ⊢
  simp only [sq_, seq_nx, seq_rt, seq_rf, seq_bk, seq_ct, seq_ex, loop_nx, loop_rt, loop_rf, loop_bk, loop_ct, loop_ex, s_ok_, s_ex_, bind_ok_, bind_ex_, map_ok_, map_ex_, opt_some_, nox_ok_, gd_true_, exprS_, retS_, retFS_, setS_, setOS_, ifS_, forS_, opM_, varR_, asB_, truM_, notM_, andM_, orM_, call1_, lstE_, consM_, aV_, someM_, slM_, raiseM_, andV_, orV_, ifM_, rd_va, rd_ow, rd_pa, addD_int, subD_int, ltG_int, leG_int, gtG_int, geG_int, intD1_int, intD1_bl, absD_int, lenD_lst, lenD_lsx, lenD_tup, canC_no, canC_va, canC_ow, eqD_int, neD_int, eqD_str, neD_str, e_opV, e_varM, e_rdR, e_get0, e_getS, e_set0, e_setS, e_bind, e_cst, e_setM, e_setO, canSet_, e_tgN, e_tgT, e_tgsNil, e_tgsCons, e_asgM, e_parM, e_tupM, e_lstM, e_notV, e_negM, e_seqA, e_chainM, e_callF1, e_sm1M, e_enumM, e_getL, e_list_ow, e_list_pa, e_own_ow, e_own_pa, e_getO, e_setW, e_appendM, e_aO, e_callG, e_cells0, e_cellsV, e_cellsO, e_omap, e_slots0, e_slotsV, e_slotsO, e_nodup0, e_nodup1, e_toR_ok, e_toR_ex, e_toF_fr, e_toF_ex, e_backO, e_backV, e_back0, e_tru_int, e_tru_bl, e_stepC, e_range1M, e_augPutM, e_aug1, e_aug2, e_putL, e_revF, listF, tupD, e_wipe0, e_wipeS, e_rest0, e_restS, e_for0, e_nox, e_plain_no, e_plain_va, e_all0, e_allS, Bool.and_self, Bool.true_and, fin_nx, fin_rt, fin_rf, fin_ex, kpD_kpc, e_kpc0, e_kpcS, keepC_pa, keepC_va, keepC_ow, keepC_no, if_true, if_false, Bool.true_eq, Bool.false_eq_true, decide_true, List.length_cons, List.length_nil, and_self, Nat.reduceAdd, Nat.reduceSub, Nat.reduceLeDiff, Nat.reduceEqDiff, Int.reduceNeg, e_fldV, e_objOf_va, e_objOf_ow, e_objOf_pa, e_fldD, e_getS0, e_fldPutM, e_putFD0, e_putFDS, e_recvM, e_makeM, e_makeE, e_makeEx, e_dkIx, e_dispM, e_min2, e_max2, e_rg1F, e_rg2F, e_raiseM2, e_xfM, e_indexM, e_indexV, e_isiM, e_isisM, i_int_int, i_bool_int, i_str_str, i_tup_tup, i_tup_lst, i_lst_lst, i_lst_tup, is_lt_lst, is_lt_tup, is_lt_int, is_lt_str, check_class_word_ok hl hk, a, b, lk]
end
end Cs
end KL
/-! KM, part q: text[::-1]. -/
namespace KL
open PySem L2
def revS (z : Str) : Str := ⟨z.cps.toList.reverse.toArray⟩
theorem sidx_rev (z : Str) : ⟨((Builtin.Str.strSliceIndices none none (-1) z.length).filterMap (z.cps[·]?)).toArray⟩ = revS z := by
  have e : Builtin.Str.strSliceIndices none none (-1) z.length = sliceRange ((z.length : Int) - 1) (-1) (-1) := by simp [Builtin.Str.strSliceIndices]
  unfold revS
  rw [e, PySem.W.krv_sliceRange, PySem.W.krv_range, List.filterMap_reverse]
  show Str.mk (List.filterMap (z.cps[·]?) (List.range z.cps.size)).reverse.toArray = _
  rw [PySem.W.krv_all]
def tRevS (te : TE) : TE := fun σ H Q => te σ H fun x H1 => ∃ z, x = .str z ∧ z.length ≤ sizeLine ∧ Q (.str (revS z)) H1
section
variable {X : Cx} {L : Lx} {W : WX}
open PyProof.Rows in
theorem pe_revS {e : Expr} {te : TE} {j : Nat} {q1 q2 q3 pos : Pos} (he : PE X e te) : PE X (.Subscript e (.Slice none none (some (.UnaryOp .USub (.Constant (.int 1) j q1) q2)) q3) pos) (tRevS te) := by
  have step : PO X (some (.UnaryOp .USub (.Constant (.int 1) j q1) q2)) (tPart (tUn (rU fun i => .int (-i)) (tC (.int 1)))) := po_some (pe_un un_neg pe_int)
  constructor
  intro pins s σ H Q I h
  refine Subscript_ (thn (he.run pins s σ H _ I h) fun v s1 ⟨x, H1, I1, r1, z, ex, hz, qz⟩ => ?_)
  subst ex
  obtain ⟨t, rfl⟩ := r1
  refine wpAny_Slice (thn (po_none.run pins s1 σ H1 (fun o G => o = none ∧ G = H1) I1 ⟨rfl, rfl⟩) fun a s2 ⟨_, H2, I2, pa, e1, e2⟩ => ?_)
  subst e1 e2
  refine thn (po_none.run pins s2 σ _ (fun o G => o = none ∧ G = H2) I2 ⟨rfl, rfl⟩) fun b s3 ⟨_, H3, I3, pb, e3, e4⟩ => ?_
  subst e3 e4
  refine thn (step.run pins s3 σ _ (fun o G => o = some (-1) ∧ G = H3) I3 ⟨1, rfl, -1, rfl, rfl, rfl⟩) fun c s4 ⟨_, H4, I4, pc, e5, e6⟩ => ?_
  subst e5 e6
  obtain ⟨la, rfl, ha⟩ := IsPart.raw pa
  obtain ⟨lb, rfl, hb⟩ := IsPart.raw pb
  obtain ⟨lc, rfl, hc⟩ := IsPart.raw pc
  have I5 : Inv X pins σ H4 { s4 with heap := s4.heap.push { cls := .type "slice", data := .fields #[partValue la, partValue lb, partValue lc] } } := I4.kept (t' := s4.toks) fun b ob y => Heap.get?_push_of_some _ y
  refine tail_any (ops := [.str z t, .ref s4.heap.objs.size]) (typeIs_str _ z t) PySem.F.slot_str_getitem.lookup ?_ (by with_unfolding_all rfl)
  refine wpAny_getItem_str_slice (l := la) (u := lb) (st := lc) ⟨_, Heap.get?_push_size _ rfl, rfl, rfl⟩ (by rw [hc]; rfl) ?_
  have len : (revS z).length ≤ sizeLine := by
    show (z.cps.toList.reverse.toArray).size ≤ _
    rw [List.size_toArray, List.length_reverse, Array.length_toList]
    exact hz
  show (if ((lc.map (·.1)).getD 1 == 1 && (Builtin.Str.strSliceIndices (la.map (·.1)) (lb.map (·.1)) ((lc.map (·.1)).getD 1) z.length).length == z.length) = true then Made.val (.str z t)
    else Made.str ⟨((Builtin.Str.strSliceIndices (la.map (·.1)) (lb.map (·.1)) ((lc.map (·.1)).getD 1) z.length).filterMap (z.cps[·]?)).toArray⟩).post (EP X pins σ Q) _
  rw [ha, hb, hc]
  show (if ((-1 : Int) == 1 && _) = true then Made.val (.str z t) else Made.str ⟨((Builtin.Str.strSliceIndices none none (-1) z.length).filterMap (z.cps[·]?)).toArray⟩).post (EP X pins σ Q) _
  rw [if_neg (by simp), sidx_rev]
  exact ⟨len, .str (revS z), _, I5.tok _, ⟨_, rfl⟩, qz⟩
def revSM (m : DEnv → Res D) : DEnv → Res D := fun Δ => (m Δ).bind fun d Δ1 => match d with
  | .str z => if z.length ≤ 16777216 then .ok (.str (revS z)) Δ1 else .stuck
  | _ => .stuck
theorem d_revS {e : Expr} {me : DEnv → Res D} {j : Nat} {q1 q2 q3 pos : Pos} (h : DE X L W e me) : DE X L W (.Subscript e (.Slice none none (some (.UnaryOp .USub (.Constant (.int 1) j q1) q2)) q3) pos) (revSM me) := by
  obtain ⟨_, p1, s1⟩ := h.ex
  refine ⟨_, pe_revS p1, fun σ Δ F H Q env w => ?_⟩
  replace w : Want L W σ Δ F H ((me Δ).bind fun d Δ1 => match d with | .str z => if z.length ≤ 16777216 then Res.ok (D.str (revS z)) Δ1 else Res.stuck | _ => Res.stuck) (fun d _ F' H' => ∀ v, Rep L.K F' v d → Q v H') := w
  refine s1 σ Δ F H _ env (w.bind.mono fun d Δ1 F1 H1 env1 w1 v r => ?_)
  cases d with
  | str z =>
    replace w1 : Want L W σ Δ1 F1 H1 (if z.length ≤ 16777216 then Res.ok (D.str (revS z)) Δ1 else Res.stuck) _ := w1
    split at w1
    · rename_i hl
      cases r
      exact ⟨z, rfl, by rw [line_eq]; exact hl, w1 F1 H1 env1 .refl _ (.str _)⟩
    · exact w1.elim
  | _ => exact w1.elim
theorem revS_S (cs : List Nat) : revS (S cs) = S cs.reverse := by unfold revS S; simp
end
end KL
namespace KL
namespace K78
open PySem L2
abbrev top (i : Nat) : Stmt := PySem.Challenge.pw_kinwork_k78_whole_rings.main.body.getD i (.Pass ⟨0, 0, 0, 0⟩)
def h_InvalidWord : Str → Option Bool := fun n => if n = "InvalidWord" then some true else if n = "InvalidSociety" then some false else if n = "InvalidKind" then some false else if n = "TooMany" then some false else none
def h_InvalidSociety : Str → Option Bool := fun n => if n = "InvalidSociety" then some true else if n = "InvalidWord" then some false else if n = "InvalidKind" then some false else if n = "TooMany" then some false else none
def h_InvalidKind : Str → Option Bool := fun n => if n = "InvalidKind" then some true else if n = "InvalidWord" then some false else if n = "InvalidSociety" then some false else if n = "TooMany" then some false else none
def h_TooMany : Str → Option Bool := fun n => if n = "TooMany" then some true else if n = "InvalidWord" then some false else if n = "InvalidSociety" then some false else if n = "InvalidKind" then some false else none
def ft : Str → List Str := fun x => if x = "Society" then ["size", "wives", "children", "moves"] else []
/-! ### is_whole_number -/
abbrev s_is_whole_number : Stmt := top 8
abbrev N_is_whole_number : List Str := ["value"]
abbrev P_is_whole_number : List Str := ["value"]
def m_is_whole_number : DEnv → SRes := (retS (andV (isiM "int" (varM 0)) (notV (isiM "bool" (varM 0)))))
def F_is_whole_number : DEnv → FRes := bodyF 1 1 m_is_whole_number
theorem sc_is_whole_number : FnScope N_is_whole_number P_is_whole_number (defScope s_is_whole_number) := ⟨rfl, rfl, rfl, by decide +kernel, rfl, by decide +kernel, by decide +kernel⟩
/-! ### is_class_word -/
abbrev s_is_class_word : Stmt := top 12
abbrev N_is_class_word : List Str := ["value", "letter"]
abbrev P_is_class_word : List Str := ["value"]
def m_is_class_word : DEnv → SRes := (retS (andV (isiM "str" (varM 0)) (andV (opM leG (call1 lenD (varR 0)) (cst (D.int 1000))) (call1 allD (lstE (lcM [1] (seqA (varM 0)) (tgN 1) (cst true) (opV inD 1 (cst (D.str "ABab")))))))))
def F_is_class_word : DEnv → FRes := bodyF 1 2 m_is_class_word
theorem sc_is_class_word : FnScope N_is_class_word P_is_class_word (defScope s_is_class_word) := ⟨rfl, rfl, rfl, by decide +kernel, rfl, by decide +kernel, by decide +kernel⟩
/-! ### is_order -/
abbrev s_is_order : Stmt := top 16
abbrev N_is_order : List Str := ["value", "size", "one"]
abbrev P_is_order : List Str := ["value", "size"]
def m_is_order : DEnv → SRes := (sq (ifS (orM (notM (truM (isisM ["list", "tuple"] (varM 0)))) (asB (opM neD (call1 lenD (varR 0)) (varR 1)))) (retS (cst (D.bl false))) SRes.nx) (sq (ifS (truM (lstE (lcM [2] (seqA (varM 0)) (tgN 2) (orM (notM (truM (isiM "int" (varM 2)))) (truM (isiM "bool" (varM 2)))) (varM 2)))) (retS (cst (D.bl false))) SRes.nx) (retS (opM eqD (lstE (callF1 sortF (varR 0))) (lstE (rg1F (varM 1)))))))
def F_is_order : DEnv → FRes := bodyF 2 3 m_is_order
theorem sc_is_order : FnScope N_is_order P_is_order (defScope s_is_order) := ⟨rfl, rfl, rfl, by decide +kernel, rfl, by decide +kernel, by decide +kernel⟩
/-! ### turned_back -/
abbrev s_turned_back : Stmt := top 17
abbrev N_turned_back : List Str := ["order", "found", "at", "goal"]
abbrev P_turned_back : List Str := ["order"]
def turned_back_b1 : DEnv → SRes := (putM 1 (varM 3) (varM 2))
def m_turned_back : DEnv → SRes := (sq (setOS 1 (opM repF (lstE (lstM (consM (cst (D.int 0)) (cst ([] : List D))))) (call1 lenD (varR 0)))) (sq (forS (enumM (varM 0)) (tgT 2 (tgsCons (tgN 2) (tgsCons (tgN 3) tgsNil))) turned_back_b1) (retS (call1 tupD (varR 1)))))
def F_turned_back : DEnv → FRes := bodyF 1 4 m_turned_back
theorem sc_turned_back : FnScope N_turned_back P_turned_back (defScope s_turned_back) := ⟨rfl, rfl, rfl, by decide +kernel, rfl, by decide +kernel, by decide +kernel⟩
/-! ### Society.walked -/
abbrev s_Society_walked : Stmt := inCls (top 18) 4
abbrev N_Society_walked : List Str := ["self", "place", "text", "letter"]
abbrev P_Society_walked : List Str := ["self", "place", "text"]
def Society_walked_b1 : DEnv → SRes := (setS 1 (opM ixD (opM dkIx (fldV ft "moves" 0) (varM 3)) (varR 1)))
def m_Society_walked : DEnv → SRes := (sq (forS (seqA (varM 2)) (tgN 3) Society_walked_b1) (retS (varM 1)))
def F_Society_walked : DEnv → FRes := bodyF 3 4 m_Society_walked
theorem sc_Society_walked : FnScope N_Society_walked P_Society_walked (defScope s_Society_walked) := ⟨rfl, rfl, rfl, by decide +kernel, rfl, by decide +kernel, by decide +kernel⟩
/-! ### check_class -/
abbrev s_check_class : Stmt := top 19
abbrev N_check_class : List Str := ["society", "place"]
abbrev P_check_class : List Str := ["society", "place"]
def m_check_class : DEnv → SRes := (ifS (orM (notM (truM (isiM "int" (varM 1)))) (orM (truM (isiM "bool" (varM 1))) (notM (asB (chainM leG ltG (cst (D.int 0)) (varM 1) (fldV ft "size" 0)))))) (raiseM "InvalidSociety" "what" (cst (D.str "class"))) SRes.nx)
def F_check_class : DEnv → FRes := bodyF 2 2 m_check_class
theorem sc_check_class : FnScope N_check_class P_check_class (defScope s_check_class) := ⟨rfl, rfl, rfl, by decide +kernel, rfl, by decide +kernel, by decide +kernel⟩
/-! ### shifted -/
abbrev s_shifted : Stmt := top 26
abbrev N_shifted : List Str := ["ring", "place", "pair", "size", "many", "shift", "turns", "row"]
abbrev P_shifted : List Str := ["ring", "place", "pair"]
def m_shifted : DEnv → SRes := (sq (asgM (varM 0) (tgT 3 (tgsCons (tgN 3) (tgsCons (tgN 4) (tgsCons (tgN 5) tgsNil))))) (sq (asgM (opM dvmD (opM addD (opV ixD 1 (cst (D.int 0))) (opV ixD 2 (cst (D.int 1)))) (varM 4)) (tgT 2 (tgsCons (tgN 6) (tgsCons (tgN 7) tgsNil)))) (retS (tupM (consM (varM 7) (consM (opM modG (opM addD (opM addD (opV ixD 1 (cst (D.int 1))) (opV ixD 2 (cst (D.int 0)))) (opV mulG 6 (varR 5))) (varR 3)) (cst ([] : List D))))))))
def F_shifted : DEnv → FRes := bodyF 3 8 m_shifted
theorem sc_shifted : FnScope N_shifted P_shifted (defScope s_shifted) := ⟨rfl, rfl, rfl, by decide +kernel, rfl, by decide +kernel, by decide +kernel⟩
/-! ### _law_deck -/
abbrev s_law_deck : Stmt := top 30
abbrev N_law_deck : List Str := ["script", "cells", "each", "deck", "seed", "k", "cell", "rest", "at"]
abbrev P_law_deck : List Str := ["script", "cells", "each"]
def law_deck_b1 : DEnv → SRes := (sq (exprS (appendM 3 (opM modD (call1 intD1 (varR 7)) (cst (D.int 1000003))))) (setS 7 (opV divD 7 (cst (D.int 1000003)))))
def law_deck_b2 : DEnv → SRes := (sq (setS 4 (opM modD (call1 intD1 (opM addD (opM addD (opV mulD 4 (cst (D.int 69621))) (varR 8)) (cst (D.int 1)))) (cst (D.int 2147483629)))) (exprS (appendM 3 (opM modD (call1 intD1 (opV divD 4 (cst (D.int 5)))) (cst (D.int 1000003))))))
def law_deck_b3 : DEnv → SRes := (sq (setS 6 (cst (D.int 0))) (sq (ifS (asB (opV ltG 5 (call1 lenD (varR 0)))) (setS 6 (opV ixD 0 (varR 5))) SRes.nx) (sq (setS 7 (call1 absD (varR 6))) (ifS (asB (opV geG 7 (opM powD (cst (D.int 10)) (cst (D.int 30))))) (forS (range1M (varM 2)) (tgN 8) law_deck_b1) (sq (setS 4 (opM modD (call1 intD1 (opM addD (opM addD (opM addD (opV mulD 4 (cst (D.int 48271))) (opM mulD (cst (D.int 2)) (varR 7))) (call1 intD1 (opV ltG 6 (cst (D.int 0))))) (varR 5))) (cst (D.int 2147483647)))) (forS (range1M (varM 2)) (tgN 8) law_deck_b2))))))
def m_law_deck : DEnv → SRes := (sq (setOS 3 (lstM (cst ([] : List D)))) (sq (setS 4 (opM addD (cst (D.int 7)) (call1 lenD (varR 0)))) (sq (forS (range1M (varM 1)) (tgN 5) law_deck_b3) (sq (exprS (reverseM 3)) (retO 3)))))
def F_law_deck : DEnv → FRes := bodyF 3 9 m_law_deck
theorem sc_law_deck : FnScope N_law_deck P_law_deck (defScope s_law_deck) := ⟨rfl, rfl, rfl, by decide +kernel, rfl, by decide +kernel, by decide +kernel⟩
/-! ### _law_take -/
abbrev s_law_take : Stmt := top 31
abbrev N_law_take : List Str := ["deck", "many"]
abbrev P_law_take : List Str := ["deck", "many"]
def m_law_take : DEnv → SRes := (sq (ifS (asB (opM eqD (call1 lenD (varR 0)) (cst (D.int 0)))) (retS (cst (D.int 0))) SRes.nx) (retS (opM modD (call1 intD1 (popM 0)) (varR 1))))
def F_law_take : DEnv → FRes := bodyF 2 2 m_law_take
theorem sc_law_take : FnScope N_law_take P_law_take (defScope s_law_take) := ⟨rfl, rfl, rfl, by decide +kernel, rfl, by decide +kernel, by decide +kernel⟩
/-! ### _law_pair -/
abbrev s_law_pair : Stmt := top 34
abbrev N_law_pair : List Str := ["text"]
abbrev P_law_pair : List Str := ["text"]
def m_law_pair : DEnv → SRes := (retS (tupM (consM (opM subD (sm1M scountD (varM 0) (cst (D.str "a"))) (sm1M scountD (varM 0) (cst (D.str "A")))) (consM (opM subD (sm1M scountD (varM 0) (cst (D.str "b"))) (sm1M scountD (varM 0) (cst (D.str "B")))) (cst ([] : List D))))))
def F_law_pair : DEnv → FRes := bodyF 1 1 m_law_pair
theorem sc_law_pair : FnScope N_law_pair P_law_pair (defScope s_law_pair) := ⟨rfl, rfl, rfl, by decide +kernel, rfl, by decide +kernel, by decide +kernel⟩
/-! ### _law_shifted -/
abbrev s_law_shifted : Stmt := top 35
abbrev N_law_shifted : List Str := ["ring", "seat", "pair", "size", "many", "shift", "row", "turns"]
abbrev P_law_shifted : List Str := ["ring", "seat", "pair"]
def m_law_shifted : DEnv → SRes := (sq (asgM (varM 0) (tgT 3 (tgsCons (tgN 3) (tgsCons (tgN 4) (tgsCons (tgN 5) tgsNil))))) (sq (setS 6 (opM addD (opV ixD 1 (cst (D.int 0))) (opV ixD 2 (cst (D.int 1))))) (sq (setS 7 (opV divG 6 (varR 4))) (retS (tupM (consM (opV subD 6 (opV mulG 7 (varR 4))) (consM (opM modG (opM addD (opM addD (opV ixD 1 (cst (D.int 1))) (opV ixD 2 (cst (D.int 0)))) (opV mulG 7 (varR 5))) (varR 3)) (cst ([] : List D)))))))))
def F_law_shifted : DEnv → FRes := bodyF 3 8 m_law_shifted
theorem sc_law_shifted : FnScope N_law_shifted P_law_shifted (defScope s_law_shifted) := ⟨rfl, rfl, rfl, by decide +kernel, rfl, by decide +kernel, by decide +kernel⟩
/-! ### _law_one -/
abbrev s_law_one : Stmt := top 36
abbrev N_law_one : List Str := ["ring", "seat", "letter", "size", "many", "shift", "row", "place"]
abbrev P_law_one : List Str := ["ring", "seat", "letter"]
def m_law_one : DEnv → SRes := (sq (asgM (varM 0) (tgT 3 (tgsCons (tgN 3) (tgsCons (tgN 4) (tgsCons (tgN 5) tgsNil))))) (sq (asgM (varM 1) (tgT 2 (tgsCons (tgN 6) (tgsCons (tgN 7) tgsNil)))) (sq (ifS (asB (opV eqD 2 (cst (D.str "a")))) (retS (tupM (consM (varM 6) (consM (opM modG (opV addD 7 (cst (D.int 1))) (varR 3)) (cst ([] : List D)))))) SRes.nx) (sq (ifS (asB (opV eqD 2 (cst (D.str "A")))) (retS (tupM (consM (varM 6) (consM (opM modG (opV subD 7 (cst (D.int 1))) (varR 3)) (cst ([] : List D)))))) SRes.nx) (sq (ifS (asB (opV eqD 2 (cst (D.str "b")))) (retS (ifM (asB (opM ltG (opV addD 6 (cst (D.int 1))) (varR 4))) (tupM (consM (opV addD 6 (cst (D.int 1))) (consM (varM 7) (cst ([] : List D))))) (tupM (consM (cst (D.int 0)) (consM (opM modG (opV addD 7 (varR 5)) (varR 3)) (cst ([] : List D))))))) SRes.nx) (retS (ifM (asB (opV gtG 6 (cst (D.int 0)))) (tupM (consM (opV subD 6 (cst (D.int 1))) (consM (varM 7) (cst ([] : List D))))) (tupM (consM (opV subD 4 (cst (D.int 1))) (consM (opM modG (opV subD 7 (varR 5)) (varR 3)) (cst ([] : List D))))))))))))
def F_law_one : DEnv → FRes := bodyF 3 8 m_law_one
theorem sc_law_one : FnScope N_law_one P_law_one (defScope s_law_one) := ⟨rfl, rfl, rfl, by decide +kernel, rfl, by decide +kernel, by decide +kernel⟩
/-! ### check_class_word -/
abbrev s_check_class_word : Stmt := top 13
abbrev N_check_class_word : List Str := ["text"]
abbrev P_check_class_word : List Str := ["text"]
def m_check_class_word : DEnv → SRes := (ifS (notM (truM (callM F_is_class_word (aV (varM 0) (cst ([] : List Arg)))))) (raiseM "InvalidWord" "what" (cst (D.str "class"))) SRes.nx)
def F_check_class_word : DEnv → FRes := bodyF 1 1 m_check_class_word
theorem sc_check_class_word : FnScope N_check_class_word P_check_class_word (defScope s_check_class_word) := ⟨rfl, rfl, rfl, by decide +kernel, rfl, by decide +kernel, by decide +kernel⟩
/-! ### Society.__init__ -/
abbrev s_Society___init__ : Stmt := inCls (top 18) 0
abbrev N_Society___init__ : List Str := ["self", "wives", "children", "size"]
abbrev P_Society___init__ : List Str := ["self", "wives", "children"]
def m_Society___init__ : DEnv → SRes := (sq (setS 3 (ifM (truM (isisM ["list", "tuple"] (varM 1))) (call1 lenD (varR 1)) (cst (D.int 0)))) (sq (ifS (orM (notM (asB (chainM leG leG (cst (D.int 1)) (varM 3) (cst (D.int 400))))) (notM (truM (callM F_is_order (aV (varM 1) (aV (varM 3) (cst ([] : List Arg)))))))) (raiseM "InvalidSociety" "what" (cst (D.str "wives"))) SRes.nx) (sq (ifS (notM (truM (callM F_is_order (aV (varM 2) (aV (varM 3) (cst ([] : List Arg))))))) (raiseM "InvalidSociety" "what" (cst (D.str "children"))) SRes.nx) (sq (fldPutM ft "size" 0 (varM 3)) (sq (fldPutM ft "wives" 0 (call1 tupD (varR 1))) (sq (fldPutM ft "children" 0 (call1 tupD (varR 2))) (movesM ft "moves" "a" "b" "A" "B" "wives" "children" 0 F_turned_back)))))))
def F_Society___init__ : DEnv → FRes := bodyF 3 4 m_Society___init__
theorem sc_Society___init__ : FnScope N_Society___init__ P_Society___init__ (defScope s_Society___init__) := ⟨rfl, rfl, rfl, by decide +kernel, rfl, by decide +kernel, by decide +kernel⟩
/-! ### is_ring -/
abbrev s_is_ring : Stmt := top 23
abbrev N_is_ring : List Str := ["value", "one"]
abbrev P_is_ring : List Str := ["value"]
def m_is_ring : DEnv → SRes := (sq (ifS (orM (notM (truM (isiM "tuple" (varM 0)))) (orM (asB (opM neD (call1 lenD (varR 0)) (cst (D.int 3)))) (truM (lstE (lcM [1] (seqA (varM 0)) (tgN 1) (notM (truM (callM F_is_whole_number (aV (varM 1) (cst ([] : List Arg)))))) (varM 1)))))) (retS (cst (D.bl false))) SRes.nx) (retS (andV (opM geG (opV ixD 0 (cst (D.int 0))) (cst (D.int 1))) (andV (opM geG (opV ixD 0 (cst (D.int 1))) (cst (D.int 1))) (chainM leG ltG (cst (D.int 0)) (opV ixD 0 (cst (D.int 2))) (opV ixD 0 (cst (D.int 0))))))))
def F_is_ring : DEnv → FRes := bodyF 1 2 m_is_ring
theorem sc_is_ring : FnScope N_is_ring P_is_ring (defScope s_is_ring) := ⟨rfl, rfl, rfl, by decide +kernel, rfl, by decide +kernel, by decide +kernel⟩
/-! ### is_seat -/
abbrev s_is_seat : Stmt := top 25
abbrev N_is_seat : List Str := ["ring", "place", "one"]
abbrev P_is_seat : List Str := ["ring", "place"]
def m_is_seat : DEnv → SRes := (sq (ifS (orM (notM (truM (isiM "tuple" (varM 1)))) (orM (asB (opM neD (call1 lenD (varR 1)) (cst (D.int 2)))) (truM (lstE (lcM [2] (seqA (varM 1)) (tgN 2) (notM (truM (callM F_is_whole_number (aV (varM 2) (cst ([] : List Arg)))))) (varM 2)))))) (retS (cst (D.bl false))) SRes.nx) (retS (andV (chainM leG ltG (cst (D.int 0)) (opV ixD 1 (cst (D.int 0))) (opV ixD 0 (cst (D.int 1)))) (chainM leG ltG (cst (D.int 0)) (opV ixD 1 (cst (D.int 1))) (opV ixD 0 (cst (D.int 0)))))))
def F_is_seat : DEnv → FRes := bodyF 2 3 m_is_seat
theorem sc_is_seat : FnScope N_is_seat P_is_seat (defScope s_is_seat) := ⟨rfl, rfl, rfl, by decide +kernel, rfl, by decide +kernel, by decide +kernel⟩
/-! ### _law_letters -/
abbrev s_law_letters : Stmt := top 33
abbrev N_law_letters : List Str := ["deck", "most", "turn"]
abbrev P_law_letters : List Str := ["deck", "most"]
def m_law_letters : DEnv → SRes := (retS (sm1M joinD (cst (D.str "")) (lstE (lcM [2] (range1M (callM F_law_take (aO 0 (aV (opV addD 1 (cst (D.int 1))) (cst ([] : List Arg)))))) (tgN 2) (cst true) (opM ixD (cst (D.str "abAB")) (callM F_law_take (aO 0 (aV (cst (D.int 4)) (cst ([] : List Arg))))))))))
def F_law_letters : DEnv → FRes := bodyF 2 3 m_law_letters
theorem sc_law_letters : FnScope N_law_letters P_law_letters (defScope s_law_letters) := ⟨rfl, rfl, rfl, by decide +kernel, rfl, by decide +kernel, by decide +kernel⟩
/-! ### Society.led -/
abbrev s_Society_led : Stmt := inCls (top 18) 3
abbrev N_Society_led : List Str := ["self", "place", "text"]
abbrev P_Society_led : List Str := ["self", "place", "text"]
def m_Society_led : DEnv → SRes := (sq (exprS (callM F_check_class_word (aV (varM 2) (cst ([] : List Arg))))) (sq (exprS (callM F_check_class (aV (varM 0) (aV (varM 1) (cst ([] : List Arg)))))) (retS (callM F_Society_walked (recvM "Society" "walked" (varM 0) (aV (varM 1) (aV (varM 2) (cst ([] : List Arg)))))))))
def F_Society_led : DEnv → FRes := bodyF 3 3 m_Society_led
theorem sc_Society_led : FnScope N_Society_led P_Society_led (defScope s_Society_led) := ⟨rfl, rfl, rfl, by decide +kernel, rfl, by decide +kernel, by decide +kernel⟩
/-! ### check_ring -/
abbrev s_check_ring : Stmt := top 24
abbrev N_check_ring : List Str := ["ring"]
abbrev P_check_ring : List Str := ["ring"]
def m_check_ring : DEnv → SRes := (ifS (notM (truM (callM F_is_ring (aV (varM 0) (cst ([] : List Arg)))))) (raiseM "InvalidKind" "what" (cst (D.str "ring"))) SRes.nx)
def F_check_ring : DEnv → FRes := bodyF 1 1 m_check_ring
theorem sc_check_ring : FnScope N_check_ring P_check_ring (defScope s_check_ring) := ⟨rfl, rfl, rfl, by decide +kernel, rfl, by decide +kernel, by decide +kernel⟩
/-! ### tupled -/
abbrev s_tupled : Stmt := top 21
abbrev N_tupled : List Str := ["value", "part"]
abbrev P_tupled : List Str := ["value"]
def m_tupled (R_ : DEnv → FRes) : DEnv → SRes := (sq (ifS (truM (isisM ["list", "tuple"] (varM 0))) (retS (call1 tupD (lstE (lcM [1] (seqA (varM 0)) (tgN 1) (cst true) (callM R_ (aV (varM 1) (cst ([] : List Arg)))))))) SRes.nx) (retS (varM 0)))
def G_tupled : Nat → DEnv → FRes
  | 0 => bodyF 1 2 (fun _ => .stuck)
  | n + 1 => bodyF 1 2 (m_tupled (G_tupled n))
abbrev F_tupled : DEnv → FRes := G_tupled 8
theorem sc_tupled : FnScope N_tupled P_tupled (defScope s_tupled) := ⟨rfl, rfl, rfl, by decide +kernel, rfl, by decide +kernel, by decide +kernel⟩
/-! ### ring_led -/
abbrev s_ring_led : Stmt := top 27
abbrev N_ring_led : List Str := ["ring", "place", "text", "letter", "step"]
abbrev P_ring_led : List Str := ["ring", "place", "text"]
def ring_led_b1 : DEnv → SRes := (sq (setS 4 (opM dkIx (dispM ["a", "A", "b", "B"] (consM (tupM (consM (cst (D.int 1)) (consM (cst (D.int 0)) (cst ([] : List D))))) (consM (tupM (consM (negM (cst (D.int 1))) (consM (cst (D.int 0)) (cst ([] : List D))))) (consM (tupM (consM (cst (D.int 0)) (consM (cst (D.int 1)) (cst ([] : List D))))) (consM (tupM (consM (cst (D.int 0)) (consM (negM (cst (D.int 1))) (cst ([] : List D))))) (cst ([] : List D))))))) (varM 3))) (setS 1 (callM F_shifted (aV (varM 0) (aV (varM 1) (aV (varM 4) (cst ([] : List Arg))))))))
def m_ring_led : DEnv → SRes := (sq (setS 0 (callM F_tupled (aV (varM 0) (cst ([] : List Arg))))) (sq (setS 1 (callM F_tupled (aV (varM 1) (cst ([] : List Arg))))) (sq (exprS (callM F_check_ring (aV (varM 0) (cst ([] : List Arg))))) (sq (ifS (notM (truM (callM F_is_seat (aV (varM 0) (aV (varM 1) (cst ([] : List Arg))))))) (raiseM "InvalidKind" "what" (cst (D.str "place"))) SRes.nx) (sq (exprS (callM F_check_class_word (aV (varM 2) (cst ([] : List Arg))))) (sq (forS (seqA (varM 2)) (tgN 3) ring_led_b1) (retS (varM 1))))))))
def F_ring_led : DEnv → FRes := bodyF 3 5 m_ring_led
theorem sc_ring_led : FnScope N_ring_led P_ring_led (defScope s_ring_led) := ⟨rfl, rfl, rfl, by decide +kernel, rfl, by decide +kernel, by decide +kernel⟩
/-! ### ring_society -/
abbrev s_ring_society : Stmt := top 28
abbrev N_ring_society : List Str := ["ring", "size", "many", "_", "seats", "orders", "step", "goals", "place", "row", "seat"]
abbrev P_ring_society : List Str := ["ring"]
def ring_society_b1 : DEnv → SRes := (sq (setOS 7 (lcM [10] (seqA (varM 4)) (tgN 10) (cst true) (callM F_shifted (aV (varM 0) (aV (varM 10) (aV (varM 6) (cst ([] : List Arg)))))))) (exprS (appendM 5 (lstE (lcM [9, 8] (seqA (varM 7)) (tgT 2 (tgsCons (tgN 9) (tgsCons (tgN 8) tgsNil))) (cst true) (opM addD (opV mulG 9 (varR 1)) (varR 8)))))))
def m_ring_society : DEnv → SRes := (sq (setS 0 (callM F_tupled (aV (varM 0) (cst ([] : List Arg))))) (sq (exprS (callM F_check_ring (aV (varM 0) (cst ([] : List Arg))))) (sq (asgM (varM 0) (tgT 3 (tgsCons (tgN 1) (tgsCons (tgN 2) (tgsCons (tgN 3) tgsNil))))) (sq (ifS (asB (opM gtG (opV mulG 1 (varR 2)) (cst (D.int 400)))) (raiseM2 "TooMany" "what" "many" (consM (cst (D.str "classes")) (consM (opV mulG 1 (varR 2)) (cst ([] : List D))))) SRes.nx) (sq (setOS 4 (lc2M [9, 8] (range1M (varM 2)) (tgN 9) (cst true) [8] (range1M (varM 1)) (tgN 8) (cst true) (tupM (consM (varM 9) (consM (varM 8) (cst ([] : List D))))))) (sq (setOS 5 (lstM (cst ([] : List D)))) (sq (forS (seqA (tupM (consM (tupM (consM (cst (D.int 1)) (consM (cst (D.int 0)) (cst ([] : List D))))) (consM (tupM (consM (cst (D.int 0)) (consM (cst (D.int 1)) (cst ([] : List D))))) (cst ([] : List D)))))) (tgN 6) ring_society_b1) (retS (makeM "Society" F_Society___init__ (aV (opV ixD 5 (cst (D.int 0))) (aV (opV ixD 5 (cst (D.int 1))) (cst ([] : List Arg)))))))))))))
def F_ring_society : DEnv → FRes := bodyF 1 11 m_ring_society
theorem sc_ring_society : FnScope N_ring_society P_ring_society (defScope s_ring_society) := ⟨rfl, rfl, rfl, by decide +kernel, rfl, by decide +kernel, by decide +kernel⟩
/-! ### _law_refusal -/
abbrev s_law_refusal : Stmt := top 37
abbrev N_law_refusal : List Str := ["way", "ring", "seat", "error"]
abbrev P_law_refusal : List Str := ["way"]
def m_law_refusal : DEnv → SRes := (sq (setS 1 (opM ixD (lstE (lstM (consM (tupM (consM (cst (D.int 0)) (consM (cst (D.int 1)) (consM (cst (D.int 0)) (cst ([] : List D)))))) (consM (tupM (consM (cst (D.int 2)) (consM (cst (D.int 2)) (consM (cst (D.int 2)) (cst ([] : List D)))))) (consM (tupM (consM (cst (D.int 2)) (consM (cst (D.int 2)) (cst ([] : List D))))) (consM (tupM (consM (cst (D.int 2)) (consM (cst (D.int 2)) (consM (cst (D.int 1)) (cst ([] : List D)))))) (consM (tupM (consM (cst (D.int 2)) (consM (cst (D.int 2)) (consM (cst (D.int 1)) (cst ([] : List D)))))) (consM (tupM (consM (cst (D.int 2)) (consM (cst (D.int 2)) (consM (cst (D.int 1)) (cst ([] : List D)))))) (consM (tupM (consM (cst (D.int 401)) (consM (cst (D.int 1)) (consM (cst (D.int 0)) (cst ([] : List D)))))) (cst ([] : List D))))))))))) (varR 0))) (sq (setS 2 (opM ixD (lstE (lstM (consM (tupM (consM (cst (D.int 0)) (consM (cst (D.int 0)) (cst ([] : List D))))) (consM (tupM (consM (cst (D.int 0)) (consM (cst (D.int 0)) (cst ([] : List D))))) (consM (tupM (consM (cst (D.int 0)) (consM (cst (D.int 0)) (cst ([] : List D))))) (consM (tupM (consM (cst (D.int 2)) (consM (cst (D.int 0)) (cst ([] : List D))))) (consM (tupM (consM (cst (D.int 0)) (consM (negM (cst (D.int 1))) (cst ([] : List D))))) (consM (tupM (consM (cst (D.int 0)) (consM (cst (D.int 0)) (cst ([] : List D))))) (consM (tupM (consM (cst (D.int 0)) (consM (cst (D.int 0)) (cst ([] : List D))))) (cst ([] : List D))))))))))) (varR 0))) (sq (tryN 3 [(h_InvalidKind, (retS (xfM 3 "what"))), (h_InvalidWord, (retS (xfM 3 "what"))), (h_TooMany, (retS (tupM (consM (xfM 3 "what") (consM (xfM 3 "many") (cst ([] : List D)))))))] (sq (ifS (asB (opV eqD 0 (cst (D.int 6)))) (exprS (callM F_ring_society (aV (varM 1) (cst ([] : List Arg))))) SRes.nx) (exprS (callM F_ring_led (aV (varM 1) (aV (varM 2) (aV (ifM (asB (opV eqD 0 (cst (D.int 5)))) (cst (D.str "abx")) (cst (D.str "ab"))) (cst ([] : List Arg))))))))) (retS (cst D.non)))))
def F_law_refusal : DEnv → FRes := bodyF 1 4 m_law_refusal
theorem sc_law_refusal : FnScope N_law_refusal P_law_refusal (defScope s_law_refusal) := ⟨rfl, rfl, rfl, by decide +kernel, rfl, by decide +kernel, by decide +kernel⟩
/-! ### law -/
abbrev s_law : Stmt := top 38
abbrev N_law : List Str := ["script", "deck", "great", "size", "many", "ring", "turn", "seat", "text", "due", "letter", "society", "seats", "row", "orders", "place", "way"]
abbrev P_law : List Str := ["script"]
def law_b1 : DEnv → SRes := (setS 9 (callM F_law_one (aV (varM 5) (aV (varM 9) (aV (varM 10) (cst ([] : List Arg)))))))
def law_b2 : DEnv → SRes := (sq (setS 7 (tupM (consM (callM F_law_take (aO 1 (aV (opM min2D (varM 4) (cst (D.int 9))) (cst ([] : List Arg))))) (consM (opM modG (opM subD (opV subD 3 (cst (D.int 1))) (callM F_law_take (aO 1 (aV (cst (D.int 4)) (cst ([] : List Arg)))))) (varR 3)) (cst ([] : List D)))))) (sq (setS 8 (callM F_law_letters (aO 1 (aV (cst (D.int 12)) (cst ([] : List Arg)))))) (sq (setS 9 (varM 7)) (sq (forS (seqA (varM 8)) (tgN 10) law_b1) (sq (ifS (orM (asB (opM neD (callM F_ring_led (aV (varM 5) (aV (varM 7) (aV (varM 8) (cst ([] : List Arg)))))) (varR 9))) (asB (opV neD 9 (callM F_law_shifted (aV (varM 5) (aV (varM 7) (aV (callM F_law_pair (aV (varM 8) (cst ([] : List Arg)))) (cst ([] : List Arg))))))))) (retS (cst (D.bl false))) SRes.nx) (ifS (asB (opM neD (callM F_ring_led (aV (varM 5) (aV (varM 7) (aV (revSM (varM 8)) (cst ([] : List Arg)))))) (varR 9))) (retS (cst (D.bl false))) SRes.nx))))))
def law_b3 : DEnv → SRes := (exprS (extendM 12 (lstE (lcM [15] (range1M (varM 3)) (tgN 15) (cst true) (tupM (consM (varM 13) (consM (varM 15) (cst ([] : List D)))))))))
def law_b4 : DEnv → SRes := (sq (ifS (asB (opM neD (callM F_Society_led (recvM "Society" "led" (varM 11) (aV (varM 15) (aV (cst (D.str "ab")) (cst ([] : List Arg)))))) (callM F_Society_led (recvM "Society" "led" (varM 11) (aV (varM 15) (aV (cst (D.str "ba")) (cst ([] : List Arg)))))))) (retS (cst (D.bl false))) SRes.nx) (ifS (asB (opM neD (opM eqD (callM F_Society_led (recvM "Society" "led" (varM 11) (aV (varM 15) (aV (cst (D.str "a")) (cst ([] : List Arg)))))) (varR 15)) (opV eqD 3 (cst (D.int 1))))) (retS (cst (D.bl false))) SRes.nx))
def m_law : DEnv → SRes := (sq (setOS 1 (callF F_law_deck (aV (varM 0) (aV (cst (D.int 60)) (aV (cst (D.int 14)) (cst ([] : List Arg))))))) (sq (setS 2 (ifM (asB (opM eqD (callM F_law_take (aO 1 (aV (cst (D.int 4)) (cst ([] : List Arg))))) (cst (D.int 0)))) (opM powD (cst (D.int 10)) (cst (D.int 20))) (cst (D.int 0)))) (sq (parM 3 4 (consM (opM addD (opM addD (cst (D.int 1)) (callM F_law_take (aO 1 (aV (cst (D.int 6)) (cst ([] : List Arg)))))) (varR 2)) (consM (opM addD (opM addD (cst (D.int 1)) (callM F_law_take (aO 1 (aV (cst (D.int 5)) (cst ([] : List Arg)))))) (opV mulG 2 (callM F_law_take (aO 1 (aV (cst (D.int 2)) (cst ([] : List Arg))))))) (cst ([] : List D))))) (sq (setS 5 (tupM (consM (varM 3) (consM (varM 4) (consM (opM modG (opM addD (callM F_law_take (aO 1 (aV (cst (D.int 9)) (cst ([] : List Arg))))) (opV divG 2 (cst (D.int 3)))) (varR 3)) (cst ([] : List D))))))) (sq (forS (range1M (cst (D.int 4))) (tgN 6) law_b2) (sq (ifS (asB (opV eqD 2 (cst (D.int 0)))) (sq (setS 11 (callM F_ring_society (aV (varM 5) (cst ([] : List Arg))))) (sq (setOS 12 (lstM (cst ([] : List D)))) (sq (forS (range1M (varM 4)) (tgN 13) law_b3) (sq (setOS 14 (lcM [10] (seqA (tupM (consM (cst (D.str "a")) (consM (cst (D.str "b")) (cst ([] : List D)))))) (tgN 10) (cst true) (call1 tupD (lstE (lcM [7] (seqA (varM 12)) (tgN 7) (cst true) (indexV 12 (callM F_law_one (aV (varM 5) (aV (varM 7) (aV (varM 10) (cst ([] : List Arg)))))))))))) (sq (ifS (asB (opM neD (lstE (lstM (consM (fldV ft "wives" 11) (consM (fldV ft "children" 11) (cst ([] : List D)))))) (varR 14))) (retS (cst (D.bl false))) SRes.nx) (forS (range1M (fldV ft "size" 11)) (tgN 15) law_b4)))))) SRes.nx) (sq (setS 16 (callM F_law_take (aO 1 (aV (cst (D.int 7)) (cst ([] : List Arg)))))) (retS (opM eqD (callM F_law_refusal (aV (varM 16) (cst ([] : List Arg)))) (opM ixD (lstE (lstM (consM (cst (D.str "ring")) (consM (cst (D.str "ring")) (consM (cst (D.str "ring")) (consM (cst (D.str "place")) (consM (cst (D.str "place")) (consM (cst (D.str "class")) (consM (tupM (consM (cst (D.str "classes")) (consM (cst (D.int 401)) (cst ([] : List D))))) (cst ([] : List D))))))))))) (varR 16)))))))))))
def F_law : DEnv → FRes := bodyF 1 17 m_law
theorem sc_law : FnScope N_law P_law (defScope s_law) := ⟨rfl, rfl, rfl, by decide +kernel, rfl, by decide +kernel, by decide +kernel⟩
/-! ### what the top has written -/
structure Ad where
  f_is_whole_number : Addr
  f_is_class_word : Addr
  f_check_class_word : Addr
  f_is_order : Addr
  f_turned_back : Addr
  f_check_class : Addr
  f_tupled : Addr
  f_is_ring : Addr
  f_check_ring : Addr
  f_is_seat : Addr
  f_shifted : Addr
  f_ring_led : Addr
  f_ring_society : Addr
  f_law_deck : Addr
  f_law_take : Addr
  f_law_letters : Addr
  f_law_pair : Addr
  f_law_shifted : Addr
  f_law_one : Addr
  f_law_refusal : Addr
  f_law : Addr
  f_Society___init__ : Addr
  f_Society_led : Addr
  f_Society_walked : Addr
  c_InvalidWord : Addr
  c_InvalidSociety : Addr
  c_InvalidKind : Addr
  c_TooMany : Addr
  i_InvalidWord : Addr
  i_InvalidSociety : Addr
  i_InvalidKind : Addr
  i_TooMany : Addr
def lx (K : PySem.W.Frag) (ad : Ad) : Lx := ⟨K, fun n => [(("InvalidWord" : Str), ad.c_InvalidWord), (("InvalidSociety" : Str), ad.c_InvalidSociety), (("InvalidKind" : Str), ad.c_InvalidKind), (("TooMany" : Str), ad.c_TooMany)].lookup n, none⟩
structure Tx (P : Program) (w : World) (K : PySem.W.Frag) (mg : Str → Option Value) (ad : Ad) : Prop where
  z_abs : mg "abs" = none
  z_all : mg "all" = none
  z_bool : mg "bool" = none
  z_divmod : mg "divmod" = none
  z_enumerate : mg "enumerate" = none
  z_int : mg "int" = none
  z_isinstance : mg "isinstance" = none
  z_len : mg "len" = none
  z_list : mg "list" = none
  z_min : mg "min" = none
  z_range : mg "range" = none
  z_sorted : mg "sorted" = none
  z_str : mg "str" = none
  z_tuple : mg "tuple" = none
  g_is_whole_number : mg "is_whole_number" = some (.ref ad.f_is_whole_number)
  d_is_whole_number : Dn K "is_whole_number" s_is_whole_number ad.f_is_whole_number P_is_whole_number
  g_is_class_word : mg "is_class_word" = some (.ref ad.f_is_class_word)
  d_is_class_word : Dn K "is_class_word" s_is_class_word ad.f_is_class_word P_is_class_word
  g_check_class_word : mg "check_class_word" = some (.ref ad.f_check_class_word)
  d_check_class_word : Dn K "check_class_word" s_check_class_word ad.f_check_class_word P_check_class_word
  g_is_order : mg "is_order" = some (.ref ad.f_is_order)
  d_is_order : Dn K "is_order" s_is_order ad.f_is_order P_is_order
  g_turned_back : mg "turned_back" = some (.ref ad.f_turned_back)
  d_turned_back : Dn K "turned_back" s_turned_back ad.f_turned_back P_turned_back
  g_check_class : mg "check_class" = some (.ref ad.f_check_class)
  d_check_class : Dn K "check_class" s_check_class ad.f_check_class P_check_class
  g_tupled : mg "tupled" = some (.ref ad.f_tupled)
  d_tupled : Dn K "tupled" s_tupled ad.f_tupled P_tupled
  g_is_ring : mg "is_ring" = some (.ref ad.f_is_ring)
  d_is_ring : Dn K "is_ring" s_is_ring ad.f_is_ring P_is_ring
  g_check_ring : mg "check_ring" = some (.ref ad.f_check_ring)
  d_check_ring : Dn K "check_ring" s_check_ring ad.f_check_ring P_check_ring
  g_is_seat : mg "is_seat" = some (.ref ad.f_is_seat)
  d_is_seat : Dn K "is_seat" s_is_seat ad.f_is_seat P_is_seat
  g_shifted : mg "shifted" = some (.ref ad.f_shifted)
  d_shifted : Dn K "shifted" s_shifted ad.f_shifted P_shifted
  g_ring_led : mg "ring_led" = some (.ref ad.f_ring_led)
  d_ring_led : Dn K "ring_led" s_ring_led ad.f_ring_led P_ring_led
  g_ring_society : mg "ring_society" = some (.ref ad.f_ring_society)
  d_ring_society : Dn K "ring_society" s_ring_society ad.f_ring_society P_ring_society
  g_law_deck : mg "_law_deck" = some (.ref ad.f_law_deck)
  d_law_deck : Dn K "_law_deck" s_law_deck ad.f_law_deck P_law_deck
  g_law_take : mg "_law_take" = some (.ref ad.f_law_take)
  d_law_take : Dn K "_law_take" s_law_take ad.f_law_take P_law_take
  g_law_letters : mg "_law_letters" = some (.ref ad.f_law_letters)
  d_law_letters : Dn K "_law_letters" s_law_letters ad.f_law_letters P_law_letters
  g_law_pair : mg "_law_pair" = some (.ref ad.f_law_pair)
  d_law_pair : Dn K "_law_pair" s_law_pair ad.f_law_pair P_law_pair
  g_law_shifted : mg "_law_shifted" = some (.ref ad.f_law_shifted)
  d_law_shifted : Dn K "_law_shifted" s_law_shifted ad.f_law_shifted P_law_shifted
  g_law_one : mg "_law_one" = some (.ref ad.f_law_one)
  d_law_one : Dn K "_law_one" s_law_one ad.f_law_one P_law_one
  g_law_refusal : mg "_law_refusal" = some (.ref ad.f_law_refusal)
  d_law_refusal : Dn K "_law_refusal" s_law_refusal ad.f_law_refusal P_law_refusal
  g_law : mg "law" = some (.ref ad.f_law)
  d_law : Dn K "law" s_law ad.f_law P_law
  d_Society___init__ : DnM K "__init__" "Society.__init__" s_Society___init__ ad.f_Society___init__ P_Society___init__
  mk_Society : MkT K mg "Society" ad.f_Society___init__
  d_Society_led : DnM K "led" "Society.led" s_Society_led ad.f_Society_led P_Society_led
  mt_Society_led : MethT K "Society" "led" ad.f_Society_led
  d_Society_walked : DnM K "walked" "Society.walked" s_Society_walked ad.f_Society_walked P_Society_walked
  mt_Society_walked : MethT K "Society" "walked" ad.f_Society_walked
  ft : ∀ x, ft x ≠ [] → ClsT K ft x
  x_InvalidWord : XTxt P K mg "InvalidWord" ad.c_InvalidWord ad.i_InvalidWord
  e_InvalidWord : PySem.W.exmOne K (.ref ad.c_InvalidWord) (.ref ad.c_InvalidWord) = some true
  x_InvalidSociety : XTxt P K mg "InvalidSociety" ad.c_InvalidSociety ad.i_InvalidSociety
  e_InvalidSociety : PySem.W.exmOne K (.ref ad.c_InvalidSociety) (.ref ad.c_InvalidSociety) = some true
  x_InvalidKind : XTxt P K mg "InvalidKind" ad.c_InvalidKind ad.i_InvalidKind
  e_InvalidKind : PySem.W.exmOne K (.ref ad.c_InvalidKind) (.ref ad.c_InvalidKind) = some true
  x_TooMany : XTxt2 P K mg "TooMany" ad.c_TooMany ad.i_TooMany
  e_TooMany : PySem.W.exmOne K (.ref ad.c_TooMany) (.ref ad.c_TooMany) = some true
  n_InvalidWord_many : PySem.W.findIn K (.ref ad.c_InvalidWord) "many" = some none
  n_InvalidSociety_many : PySem.W.findIn K (.ref ad.c_InvalidSociety) "many" = some none
  n_InvalidKind_many : PySem.W.findIn K (.ref ad.c_InvalidKind) "many" = some none
  n_TooMany_many : PySem.W.findIn K (.ref ad.c_TooMany) "many" = some none
  e_InvalidWord_InvalidSociety : PySem.W.exmOne K (.ref ad.c_InvalidWord) (.ref ad.c_InvalidSociety) = some false
  e_InvalidWord_InvalidKind : PySem.W.exmOne K (.ref ad.c_InvalidWord) (.ref ad.c_InvalidKind) = some false
  e_InvalidWord_TooMany : PySem.W.exmOne K (.ref ad.c_InvalidWord) (.ref ad.c_TooMany) = some false
  e_InvalidSociety_InvalidWord : PySem.W.exmOne K (.ref ad.c_InvalidSociety) (.ref ad.c_InvalidWord) = some false
  e_InvalidSociety_InvalidKind : PySem.W.exmOne K (.ref ad.c_InvalidSociety) (.ref ad.c_InvalidKind) = some false
  e_InvalidSociety_TooMany : PySem.W.exmOne K (.ref ad.c_InvalidSociety) (.ref ad.c_TooMany) = some false
  e_InvalidKind_InvalidWord : PySem.W.exmOne K (.ref ad.c_InvalidKind) (.ref ad.c_InvalidWord) = some false
  e_InvalidKind_InvalidSociety : PySem.W.exmOne K (.ref ad.c_InvalidKind) (.ref ad.c_InvalidSociety) = some false
  e_InvalidKind_TooMany : PySem.W.exmOne K (.ref ad.c_InvalidKind) (.ref ad.c_TooMany) = some false
  e_TooMany_InvalidWord : PySem.W.exmOne K (.ref ad.c_TooMany) (.ref ad.c_InvalidWord) = some false
  e_TooMany_InvalidSociety : PySem.W.exmOne K (.ref ad.c_TooMany) (.ref ad.c_InvalidSociety) = some false
  e_TooMany_InvalidKind : PySem.W.exmOne K (.ref ad.c_TooMany) (.ref ad.c_InvalidKind) = some false
  t_LETTERS : StrG mg "LETTERS" "ABab"
  t_MOST_LETTERS : IntG mg "MOST_LETTERS" (1000)
  t_MOST_CLASSES : IntG mg "MOST_CLASSES" (400)
section
variable {P : Program} {w : World} {K : PySem.W.Frag} {mg : Str → Option Value} {base : Heap} {ad : Ad}
theorem hm_InvalidWord (T : Tx P w K mg ad) : ∀ m b, h_InvalidWord m = some b → ∀ C, (lx K ad).ct m = some C → PySem.W.exmOne K (.ref C) (.ref ad.c_InvalidWord) = some b := by
  intro m b h C hc
  unfold h_InvalidWord at h
  repeat' (split at h)
  · rename_i e; subst e; cases h; cases hc; exact T.e_InvalidWord
  · rename_i e; subst e; cases h; cases hc; exact T.e_InvalidSociety_InvalidWord
  · rename_i e; subst e; cases h; cases hc; exact T.e_InvalidKind_InvalidWord
  · rename_i e; subst e; cases h; cases hc; exact T.e_TooMany_InvalidWord
  · cases h
theorem hm_InvalidSociety (T : Tx P w K mg ad) : ∀ m b, h_InvalidSociety m = some b → ∀ C, (lx K ad).ct m = some C → PySem.W.exmOne K (.ref C) (.ref ad.c_InvalidSociety) = some b := by
  intro m b h C hc
  unfold h_InvalidSociety at h
  repeat' (split at h)
  · rename_i e; subst e; cases h; cases hc; exact T.e_InvalidSociety
  · rename_i e; subst e; cases h; cases hc; exact T.e_InvalidWord_InvalidSociety
  · rename_i e; subst e; cases h; cases hc; exact T.e_InvalidKind_InvalidSociety
  · rename_i e; subst e; cases h; cases hc; exact T.e_TooMany_InvalidSociety
  · cases h
theorem hm_InvalidKind (T : Tx P w K mg ad) : ∀ m b, h_InvalidKind m = some b → ∀ C, (lx K ad).ct m = some C → PySem.W.exmOne K (.ref C) (.ref ad.c_InvalidKind) = some b := by
  intro m b h C hc
  unfold h_InvalidKind at h
  repeat' (split at h)
  · rename_i e; subst e; cases h; cases hc; exact T.e_InvalidKind
  · rename_i e; subst e; cases h; cases hc; exact T.e_InvalidWord_InvalidKind
  · rename_i e; subst e; cases h; cases hc; exact T.e_InvalidSociety_InvalidKind
  · rename_i e; subst e; cases h; cases hc; exact T.e_TooMany_InvalidKind
  · cases h
theorem hm_TooMany (T : Tx P w K mg ad) : ∀ m b, h_TooMany m = some b → ∀ C, (lx K ad).ct m = some C → PySem.W.exmOne K (.ref C) (.ref ad.c_TooMany) = some b := by
  intro m b h C hc
  unfold h_TooMany at h
  repeat' (split at h)
  · rename_i e; subst e; cases h; cases hc; exact T.e_TooMany
  · rename_i e; subst e; cases h; cases hc; exact T.e_InvalidWord_TooMany
  · rename_i e; subst e; cases h; cases hc; exact T.e_InvalidSociety_TooMany
  · rename_i e; subst e; cases h; cases hc; exact T.e_InvalidKind_TooMany
  · cases h
theorem Tx.good_many (T : Tx P w K mg ad) : ∀ m C, (lx K ad).ct m = some C → XfC K C ∧ PySem.W.findIn K (.ref C) "many" = some none := by
  intro m C h
  unfold lx at h; simp only [List.lookup] at h
  repeat' (split at h)
  · cases h; exact ⟨⟨T.x_InvalidWord.ga, T.x_InvalidWord.gg, T.x_InvalidWord.exC, T.x_InvalidWord.hdC⟩, T.n_InvalidWord_many⟩
  · cases h; exact ⟨⟨T.x_InvalidSociety.ga, T.x_InvalidSociety.gg, T.x_InvalidSociety.exC, T.x_InvalidSociety.hdC⟩, T.n_InvalidSociety_many⟩
  · cases h; exact ⟨⟨T.x_InvalidKind.ga, T.x_InvalidKind.gg, T.x_InvalidKind.exC, T.x_InvalidKind.hdC⟩, T.n_InvalidKind_many⟩
  · cases h; exact ⟨⟨T.x_TooMany.ga, T.x_TooMany.gg, T.x_TooMany.exC, T.x_TooMany.hdC⟩, T.n_TooMany_many⟩
  · cases h
theorem Tx.good (T : Tx P w K mg ad) : ∀ m C, (lx K ad).ct m = some C → XfC K C ∧ PySem.W.findIn K (.ref C) "what" = some none := by
  intro m C h
  unfold lx at h; simp only [List.lookup] at h
  repeat' (split at h)
  · cases h; exact ⟨⟨T.x_InvalidWord.ga, T.x_InvalidWord.gg, T.x_InvalidWord.exC, T.x_InvalidWord.hdC⟩, T.x_InvalidWord.noN⟩
  · cases h; exact ⟨⟨T.x_InvalidSociety.ga, T.x_InvalidSociety.gg, T.x_InvalidSociety.exC, T.x_InvalidSociety.hdC⟩, T.x_InvalidSociety.noN⟩
  · cases h; exact ⟨⟨T.x_InvalidKind.ga, T.x_InvalidKind.gg, T.x_InvalidKind.exC, T.x_InvalidKind.hdC⟩, T.x_InvalidKind.noN⟩
  · cases h; exact ⟨⟨T.x_TooMany.ga, T.x_TooMany.gg, T.x_TooMany.exC, T.x_TooMany.hdC⟩, T.x_TooMany.noN⟩
  · cases h
theorem ok_is_whole_number (T : Tx P w K mg ad) : Cal P w K mg base (lx K ad) ad.f_is_whole_number 1 P_is_whole_number F_is_whole_number :=
  cal_body (k := 0) T.d_is_whole_number sc_is_whole_number fun cdv ar outer s H E hr tk => (by exact ss_one (by exact s_ret (by exact d_and (by exact d_isi (T := "int") rfl T.z_isinstance (by first | rfl | kernel_rfl) (by decide) (by decide) rfl T.z_int (by first | rfl | kernel_rfl) (by decide) (by decide) (by exact de_var (i := 0) rfl (Or.inl rfl) (by decide) (by decide))) (by exact d_one (by exact d_not (by exact d_isi (T := "bool") rfl T.z_isinstance (by first | rfl | kernel_rfl) (by decide) (by decide) rfl T.z_bool (by first | rfl | kernel_rfl) (by decide) (by decide) (by exact de_var (i := 0) rfl (Or.inl rfl) (by decide) (by decide))))))))
theorem ok_is_class_word (T : Tx P w K mg ad) : Cal P w K mg base (lx K ad) ad.f_is_class_word 1 P_is_class_word F_is_class_word :=
  cal_body (k := 0) T.d_is_class_word sc_is_class_word fun cdv ar outer s H E hr tk => (by exact ss_one (by exact s_ret (by exact d_and (by exact d_isi (T := "str") rfl T.z_isinstance (by first | rfl | kernel_rfl) (by decide) (by decide) rfl T.z_str (by first | rfl | kernel_rfl) (by decide) (by decide) (by exact de_var (i := 0) rfl (Or.inl rfl) (by decide) (by decide))) (by exact d_and (by exact d_cmp (op_leG (hu64 hr)) ops_ordG rfl (by exact d_callB1 call_len calls_len rfl T.z_len (by first | rfl | kernel_rfl) (by decide) (by decide) (by exact dr_var (i := 0) rfl (Or.inl rfl) (by decide) (by decide))) (by exact DE.r (by exact de_gint T.t_MOST_LETTERS rfl (by decide)))) (by exact d_one (by exact d_callB1 (cr_all rfl) calls_all rfl T.z_all (by first | rfl | kernel_rfl) (by decide) (by decide) (by exact DE.r (by exact DF.e (by exact f_lc sc_is_class_word.nd (by exact i_any (by exact de_var (i := 0) rfl (Or.inl rfl) (by decide) (by decide))) (own := [("letter", 1)]) (by exact (show BlkOk N_is_class_word (defScope s_is_class_word) _ [("letter", 1)] from ⟨rfl, by decide +kernel, by decide +kernel, by decide +kernel, by decide +kernel⟩)) (by exact b_name sc_is_class_word.nd (i := 1) rfl (fun _ _ _ _ _ => by first | exact Or.inl rfl | exact Or.inr rfl) (fun _ _ _ _ _ => by first | exact Or.inl rfl | exact Or.inr rfl) (by decide)) (fun _ _ _ _ _ => ts_nil) (fun _ _ _ _ _ => (by exact d_cmpV op_inA ops_in rfl (i := 1) rfl (Or.inl rfl) (by decide) (by decide) (by exact DE.r (by exact de_gstr T.t_LETTERS rfl (by decide))))))))))))))
theorem ok_is_order (T : Tx P w K mg ad) : Cal P w K mg base (lx K ad) ad.f_is_order 1 P_is_order F_is_order :=
  cal_body (k := 0) T.d_is_order sc_is_order fun cdv ar outer s H E hr tk => (by exact ss_cons (by exact s_if (by exact DW.t (by exact w_or (by exact t_not (by exact t_truth (by exact DE.r (by exact d_isis (Ts := ["list", "tuple"]) rfl T.z_isinstance (by first | rfl | kernel_rfl) (by decide) (by decide) (by exact ty_cons rfl T.z_list (by first | rfl | kernel_rfl) (by decide) (by decide) (by exact ty_cons rfl T.z_tuple (by first | rfl | kernel_rfl) (by decide) (by decide) ty_nil)) (by decide) (by exact de_var (i := 0) rfl (Or.inl rfl) (by decide) (by decide)))) (fun _ => rfl))) (by exact w_or1 (by exact t_cmp (op_neA (hu64 hr)) ops_ne rfl (by exact d_callB1 call_len calls_len rfl T.z_len (by first | rfl | kernel_rfl) (by decide) (by decide) (by exact dr_var (i := 0) rfl (Or.inl rfl) (by decide) (by decide))) (by exact dr_var (i := 1) rfl (Or.inl rfl) (by decide) (by decide)))))) (by exact ss_one (by exact s_ret de_bl)) ss_nil) (by exact ss_cons (by exact s_if (by exact t_truth (by exact DE.r (by exact DF.e (by exact f_lc sc_is_order.nd (by exact i_any (by exact de_var (i := 0) rfl (Or.inl rfl) (by decide) (by decide))) (own := [("one", 2)]) (by exact (show BlkOk N_is_order (defScope s_is_order) _ [("one", 2)] from ⟨rfl, by decide +kernel, by decide +kernel, by decide +kernel, by decide +kernel⟩)) (by exact b_name sc_is_order.nd (i := 2) rfl (fun _ _ _ _ _ => by first | exact Or.inl rfl | exact Or.inr rfl) (fun _ _ _ _ _ => by first | exact Or.inl rfl | exact Or.inr rfl) (by decide)) (fun _ _ _ _ _ => (by exact ts_one (by exact DW.t (by exact w_or (by exact t_not (by exact t_truth (by exact DE.r (by exact d_isi (T := "int") rfl T.z_isinstance (by first | rfl | kernel_rfl) (by decide) (by decide) rfl T.z_int (by first | rfl | kernel_rfl) (by decide) (by decide) (by exact de_var (i := 2) rfl (Or.inl rfl) (by decide) (by decide)))) (fun _ => rfl))) (by exact w_or1 (by exact t_truth (by exact DE.r (by exact d_isi (T := "bool") rfl T.z_isinstance (by first | rfl | kernel_rfl) (by decide) (by decide) rfl T.z_bool (by first | rfl | kernel_rfl) (by decide) (by decide) (by exact de_var (i := 2) rfl (Or.inl rfl) (by decide) (by decide)))) (fun _ => rfl))))))) (fun _ _ _ _ _ => (by exact de_var (i := 2) rfl (Or.inl rfl) (by decide) (by decide)))))) (fun _ => rfl)) (by exact ss_one (by exact s_ret de_bl)) ss_nil) (by exact ss_one (by exact s_ret (by exact d_cmp (op_eqA (hu64 hr)) ops_eq rfl (by exact DF.e (by exact f_sorted (hu64 hr) rfl rfl T.z_sorted (by first | rfl | kernel_rfl) (by decide) (by decide) (by exact dr_var (i := 0) rfl (Or.inl rfl) (by decide) (by decide)))) (by exact DE.r (by exact DF.e (by exact r_listRg1 rfl rfl T.z_list rfl T.z_range (by exact de_var (i := 1) rfl (Or.inl rfl) (by decide) (by decide))))))))))
theorem ok_turned_back (T : Tx P w K mg ad) : Cal P w K mg base (lx K ad) ad.f_turned_back 1 P_turned_back F_turned_back :=
  cal_body (k := 0) T.d_turned_back sc_turned_back fun cdv ar outer s H E hr tk => (by exact ss_cons (by exact s_setF sc_turned_back.nd (i := 1) rfl (Or.inl rfl) (by exact f_bin op_rep opf_rep (by exact DF.e (by exact f_lst (by exact a_cons de_int a_nil))) (by exact DE.r (by exact d_callB1 call_len calls_len rfl T.z_len (by first | rfl | kernel_rfl) (by decide) (by decide) (by exact dr_var (i := 0) rfl (Or.inl rfl) (by decide) (by decide)))))) (by exact ss_cons (by exact s_for (passes_of rfl) (by exact i_enum rfl T.z_enumerate (by exact de_var (i := 0) rfl (Or.inl rfl) (by decide) (by decide))) (by exact g_tup (by exact gs_cons (by exact g_name sc_turned_back.nd (i := 2) rfl (Or.inl rfl)) (by exact gs_cons (by exact g_name sc_turned_back.nd (i := 3) rfl (Or.inl rfl)) gs_nil))) (m := turned_back_b1) (by exact ss_one (by exact s_put (i := 1) rfl (Or.inl rfl) (by decide) (by decide) (by exact de_var (i := 2) rfl (Or.inl rfl) (by decide) (by decide)) (by exact de_var (i := 3) rfl (Or.inl rfl) (by decide) (by decide))))) (by exact ss_one (by exact s_ret (by exact d_callT1 call_tuple_of calls_tup rfl T.z_tuple (by first | rfl | kernel_rfl) (by decide) (by decide) (by exact dr_var (i := 1) rfl (Or.inl rfl) (by decide) (by decide)))))))
theorem ok_Society_walked (T : Tx P w K mg ad) : Cal P w K mg base (lx K ad) ad.f_Society_walked 1 P_Society_walked F_Society_walked :=
  cal_bodyM (k := 0) T.d_Society_walked sc_Society_walked fun cdv ar outer s H E hr tk => (by exact ss_cons (by exact s_for (passes_of rfl) (by exact i_any (by exact de_var (i := 2) rfl (Or.inl rfl) (by decide) (by decide))) (by exact g_name sc_Society_walked.nd (i := 3) rfl (Or.inl rfl)) (m := Society_walked_b1) (by exact ss_one (by exact s_set sc_Society_walked.nd (i := 1) rfl (Or.inl rfl) (by exact d_ix (fun _ _ => rfl) (by exact d_dkIx (hu1 hr) (by exact d_fldV T.ft (i := 0) rfl (Or.inl rfl) (by decide) (by decide)) (by exact de_var (i := 3) rfl (Or.inl rfl) (by decide) (by decide)) (fun _ _ => rfl)) (by exact dr_var (i := 1) rfl (Or.inl rfl) (by decide) (by decide)))))) (by exact ss_one (by exact s_ret (by exact de_var (i := 1) rfl (Or.inl rfl) (by decide) (by decide)))))
theorem ok_check_class (T : Tx P w K mg ad) : Cal P w K mg base (lx K ad) ad.f_check_class 1 P_check_class F_check_class :=
  cal_body (k := 0) T.d_check_class sc_check_class fun cdv ar outer s H E hr tk => (by exact ss_one (by exact s_if (by exact DW.t (by exact w_or (by exact t_not (by exact t_truth (by exact DE.r (by exact d_isi (T := "int") rfl T.z_isinstance (by first | rfl | kernel_rfl) (by decide) (by decide) rfl T.z_int (by first | rfl | kernel_rfl) (by decide) (by decide) (by exact de_var (i := 1) rfl (Or.inl rfl) (by decide) (by decide)))) (fun _ => rfl))) (by exact w_or (by exact t_truth (by exact DE.r (by exact d_isi (T := "bool") rfl T.z_isinstance (by first | rfl | kernel_rfl) (by decide) (by decide) rfl T.z_bool (by first | rfl | kernel_rfl) (by decide) (by decide) (by exact de_var (i := 1) rfl (Or.inl rfl) (by decide) (by decide)))) (fun _ => rfl)) (by exact w_or1 (by exact t_not (by exact t_chain (op_leG (hu64 hr)) (op_ltG (hu64 hr)) ops_ordG ops_ordG de_int (by exact de_var (i := 1) rfl (Or.inl rfl) (by decide) (by decide)) (by exact d_fldV T.ft (i := 0) rfl (Or.inl rfl) (by decide) (by decide)))))))) (by exact ss_one (by exact s_raise rfl T.x_InvalidSociety hr tk rfl de_str rfl (by decide))) ss_nil))
theorem ok_shifted (T : Tx P w K mg ad) : Cal P w K mg base (lx K ad) ad.f_shifted 1 P_shifted F_shifted :=
  cal_body (k := 0) T.d_shifted sc_shifted fun cdv ar outer s H E hr tk => (by exact ss_cons (by exact s_asg (by exact de_var (i := 0) rfl (Or.inl rfl) (by decide) (by decide)) (by exact g_tup (by exact gs_cons (by exact g_name sc_shifted.nd (i := 3) rfl (Or.inl rfl)) (by exact gs_cons (by exact g_name sc_shifted.nd (i := 4) rfl (Or.inl rfl)) (by exact gs_cons (by exact g_name sc_shifted.nd (i := 5) rfl (Or.inl rfl)) gs_nil))))) (by exact ss_cons (by exact s_asg (by exact d_callB2 call_divmodW calls_dvm rfl T.z_divmod (by first | rfl | kernel_rfl) (by decide) (by decide) (by exact d_bin op_addA ops_add (by exact d_ixV (fun _ _ => rfl) (i := 1) rfl (Or.inl rfl) (by decide) (by decide) (by exact DE.r de_int)) (by exact DE.r (by exact d_ixV (fun _ _ => rfl) (i := 2) rfl (Or.inl rfl) (by decide) (by decide) (by exact DE.r de_int)))) (by exact de_var (i := 4) rfl (Or.inl rfl) (by decide) (by decide))) (by exact g_tup (by exact gs_cons (by exact g_name sc_shifted.nd (i := 6) rfl (Or.inl rfl)) (by exact gs_cons (by exact g_name sc_shifted.nd (i := 7) rfl (Or.inl rfl)) gs_nil)))) (by exact ss_one (by exact s_ret (by exact d_tup (by exact a_cons (by exact de_var (i := 7) rfl (Or.inl rfl) (by decide) (by decide)) (by exact a_cons (by exact d_bin op_modN ops_modG (by exact d_bin op_addA ops_add (by exact d_bin op_addA ops_add (by exact d_ixV (fun _ _ => rfl) (i := 1) rfl (Or.inl rfl) (by decide) (by decide) (by exact DE.r de_int)) (by exact DE.r (by exact d_ixV (fun _ _ => rfl) (i := 2) rfl (Or.inl rfl) (by decide) (by decide) (by exact DE.r de_int)))) (by exact DE.r (by exact d_binV op_mulG ops_mulG (i := 6) rfl (Or.inl rfl) (by decide) (by decide) (by exact dr_var (i := 5) rfl (Or.inl rfl) (by decide) (by decide))))) (by exact dr_var (i := 3) rfl (Or.inl rfl) (by decide) (by decide))) a_nil)))))))
theorem ok_law_deck (T : Tx P w K mg ad) : Cal P w K mg base (lx K ad) ad.f_law_deck 1 P_law_deck F_law_deck :=
  cal_body (k := 0) T.d_law_deck sc_law_deck fun cdv ar outer s H E hr tk => (by exact ss_cons (by exact s_setF sc_law_deck.nd (i := 3) rfl (Or.inl rfl) (by exact f_lst a_nil)) (by exact ss_cons (by exact s_set sc_law_deck.nd (i := 4) rfl (Or.inl rfl) (by exact d_bin op_addA ops_add de_int (by exact DE.r (by exact d_callB1 call_len calls_len rfl T.z_len (by first | rfl | kernel_rfl) (by decide) (by decide) (by exact dr_var (i := 0) rfl (Or.inl rfl) (by decide) (by decide)))))) (by exact ss_cons (by exact s_for (passes_of rfl) (by exact i_range1 rfl T.z_range (by exact de_var (i := 1) rfl (Or.inl rfl) (by decide) (by decide))) (by exact g_name sc_law_deck.nd (i := 5) rfl (Or.inl rfl)) (m := law_deck_b3) (by exact ss_cons (by exact s_set sc_law_deck.nd (i := 6) rfl (Or.inl rfl) de_int) (by exact ss_cons (by exact s_if (by exact t_cmpV (op_ltG (hu64 hr)) ops_ordG rfl (i := 5) rfl (Or.inl rfl) (by decide) (by decide) (by exact DE.r (by exact d_callB1 call_len calls_len rfl T.z_len (by first | rfl | kernel_rfl) (by decide) (by decide) (by exact dr_var (i := 0) rfl (Or.inl rfl) (by decide) (by decide))))) (by exact ss_one (by exact s_set sc_law_deck.nd (i := 6) rfl (Or.inl rfl) (by exact d_ixV (fun _ _ => rfl) (i := 0) rfl (Or.inl rfl) (by decide) (by decide) (by exact dr_var (i := 5) rfl (Or.inl rfl) (by decide) (by decide))))) ss_nil) (by exact ss_cons (by exact s_set sc_law_deck.nd (i := 7) rfl (Or.inl rfl) (by exact d_callB1 call_abs calls_abs rfl T.z_abs (by first | rfl | kernel_rfl) (by decide) (by decide) (by exact dr_var (i := 6) rfl (Or.inl rfl) (by decide) (by decide)))) (by exact ss_one (by exact s_if (by exact t_cmpV (op_geG (hu64 hr)) ops_ordG rfl (i := 7) rfl (Or.inl rfl) (by decide) (by decide) (by exact DE.r (by exact d_bin op_pow ops_pow de_int (by exact DE.r de_int)))) (by exact ss_one (by exact s_for (passes_of rfl) (by exact i_range1 rfl T.z_range (by exact de_var (i := 2) rfl (Or.inl rfl) (by decide) (by decide))) (by exact g_name sc_law_deck.nd (i := 8) rfl (Or.inl rfl)) (m := law_deck_b1) (by exact ss_cons (by exact s_expr (by exact d_append rfl (i := 3) rfl (Or.inl rfl) (by decide) (by decide) (by exact d_bin op_mod ops_mod (by exact d_callT1 call_int1 calls_int rfl T.z_int (by first | rfl | kernel_rfl) (by decide) (by decide) (by exact dr_var (i := 7) rfl (Or.inl rfl) (by decide) (by decide))) (by exact DE.r de_int)))) (by exact ss_one (by exact s_set sc_law_deck.nd (i := 7) rfl (Or.inl rfl) (by exact d_binV op_fdiv ops_div (i := 7) rfl (Or.inl rfl) (by decide) (by decide) (by exact DE.r de_int))))))) (by exact ss_cons (by exact s_set sc_law_deck.nd (i := 4) rfl (Or.inl rfl) (by exact d_bin op_mod ops_mod (by exact d_callT1 call_int1 calls_int rfl T.z_int (by first | rfl | kernel_rfl) (by decide) (by decide) (by exact DE.r (by exact d_bin op_addA ops_add (by exact d_bin op_addA ops_add (by exact d_bin op_addA ops_add (by exact d_binV op_mul ops_mul (i := 4) rfl (Or.inl rfl) (by decide) (by decide) (by exact DE.r de_int)) (by exact DE.r (by exact d_bin op_mul ops_mul de_int (by exact dr_var (i := 7) rfl (Or.inl rfl) (by decide) (by decide))))) (by exact DE.r (by exact d_callT1 call_int1 calls_int rfl T.z_int (by first | rfl | kernel_rfl) (by decide) (by decide) (by exact DE.r (by exact d_cmpV (op_ltG (hu64 hr)) ops_ordG rfl (i := 6) rfl (Or.inl rfl) (by decide) (by decide) (by exact DE.r de_int)))))) (by exact dr_var (i := 5) rfl (Or.inl rfl) (by decide) (by decide))))) (by exact DE.r de_int))) (by exact ss_one (by exact s_for (passes_of rfl) (by exact i_range1 rfl T.z_range (by exact de_var (i := 2) rfl (Or.inl rfl) (by decide) (by decide))) (by exact g_name sc_law_deck.nd (i := 8) rfl (Or.inl rfl)) (m := law_deck_b2) (by exact ss_cons (by exact s_set sc_law_deck.nd (i := 4) rfl (Or.inl rfl) (by exact d_bin op_mod ops_mod (by exact d_callT1 call_int1 calls_int rfl T.z_int (by first | rfl | kernel_rfl) (by decide) (by decide) (by exact DE.r (by exact d_bin op_addA ops_add (by exact d_bin op_addA ops_add (by exact d_binV op_mul ops_mul (i := 4) rfl (Or.inl rfl) (by decide) (by decide) (by exact DE.r de_int)) (by exact dr_var (i := 8) rfl (Or.inl rfl) (by decide) (by decide))) (by exact DE.r de_int)))) (by exact DE.r de_int))) (by exact ss_one (by exact s_expr (by exact d_append rfl (i := 3) rfl (Or.inl rfl) (by decide) (by decide) (by exact d_bin op_mod ops_mod (by exact d_callT1 call_int1 calls_int rfl T.z_int (by first | rfl | kernel_rfl) (by decide) (by decide) (by exact DE.r (by exact d_binV op_fdiv ops_div (i := 4) rfl (Or.inl rfl) (by decide) (by decide) (by exact DE.r de_int)))) (by exact DE.r de_int))))))))))))))) (by exact ss_cons (by exact s_expr (by exact d_reverse rfl (i := 3) rfl (Or.inl rfl) (by decide) (by decide))) (by exact ss_one (by exact s_retO (i := 3) rfl (Or.inl rfl) (by decide) (by decide)))))))
theorem ok_law_take (T : Tx P w K mg ad) : Cal P w K mg base (lx K ad) ad.f_law_take 1 P_law_take F_law_take :=
  cal_body (k := 0) T.d_law_take sc_law_take fun cdv ar outer s H E hr tk => (by exact ss_cons (by exact s_if (by exact t_cmp (op_eqA (hu64 hr)) ops_eq rfl (by exact d_callB1 call_len calls_len rfl T.z_len (by first | rfl | kernel_rfl) (by decide) (by decide) (by exact dr_var (i := 0) rfl (Or.inl rfl) (by decide) (by decide))) (by exact DE.r de_int)) (by exact ss_one (by exact s_ret de_int)) ss_nil) (by exact ss_one (by exact s_ret (by exact d_bin op_mod ops_mod (by exact d_callT1 call_int1 calls_int rfl T.z_int (by first | rfl | kernel_rfl) (by decide) (by decide) (by exact DE.r (by exact d_pop rfl (i := 0) rfl (Or.inl rfl) (by decide) (by decide)))) (by exact dr_var (i := 1) rfl (Or.inl rfl) (by decide) (by decide))))))
theorem ok_law_pair (T : Tx P w K mg ad) : Cal P w K mg base (lx K ad) ad.f_law_pair 1 P_law_pair F_law_pair :=
  cal_body (k := 0) T.d_law_pair sc_law_pair fun cdv ar outer s H E hr tk => (by exact ss_one (by exact s_ret (by exact d_tup (by exact a_cons (by exact d_bin op_sub ops_sub (by exact d_sm1 PySem.F.slot_str_count PySem.F.type_str_count mt_count sm_count (by exact de_var (i := 0) rfl (Or.inl rfl) (by decide) (by decide)) (by exact DE.r de_str)) (by exact DE.r (by exact d_sm1 PySem.F.slot_str_count PySem.F.type_str_count mt_count sm_count (by exact de_var (i := 0) rfl (Or.inl rfl) (by decide) (by decide)) (by exact DE.r de_str)))) (by exact a_cons (by exact d_bin op_sub ops_sub (by exact d_sm1 PySem.F.slot_str_count PySem.F.type_str_count mt_count sm_count (by exact de_var (i := 0) rfl (Or.inl rfl) (by decide) (by decide)) (by exact DE.r de_str)) (by exact DE.r (by exact d_sm1 PySem.F.slot_str_count PySem.F.type_str_count mt_count sm_count (by exact de_var (i := 0) rfl (Or.inl rfl) (by decide) (by decide)) (by exact DE.r de_str)))) a_nil)))))
theorem ok_law_shifted (T : Tx P w K mg ad) : Cal P w K mg base (lx K ad) ad.f_law_shifted 1 P_law_shifted F_law_shifted :=
  cal_body (k := 0) T.d_law_shifted sc_law_shifted fun cdv ar outer s H E hr tk => (by exact ss_cons (by exact s_asg (by exact de_var (i := 0) rfl (Or.inl rfl) (by decide) (by decide)) (by exact g_tup (by exact gs_cons (by exact g_name sc_law_shifted.nd (i := 3) rfl (Or.inl rfl)) (by exact gs_cons (by exact g_name sc_law_shifted.nd (i := 4) rfl (Or.inl rfl)) (by exact gs_cons (by exact g_name sc_law_shifted.nd (i := 5) rfl (Or.inl rfl)) gs_nil))))) (by exact ss_cons (by exact s_set sc_law_shifted.nd (i := 6) rfl (Or.inl rfl) (by exact d_bin op_addA ops_add (by exact d_ixV (fun _ _ => rfl) (i := 1) rfl (Or.inl rfl) (by decide) (by decide) (by exact DE.r de_int)) (by exact DE.r (by exact d_ixV (fun _ _ => rfl) (i := 2) rfl (Or.inl rfl) (by decide) (by decide) (by exact DE.r de_int))))) (by exact ss_cons (by exact s_set sc_law_shifted.nd (i := 7) rfl (Or.inl rfl) (by exact d_binV op_fdivG ops_divG (i := 6) rfl (Or.inl rfl) (by decide) (by decide) (by exact dr_var (i := 4) rfl (Or.inl rfl) (by decide) (by decide)))) (by exact ss_one (by exact s_ret (by exact d_tup (by exact a_cons (by exact d_binV op_sub ops_sub (i := 6) rfl (Or.inl rfl) (by decide) (by decide) (by exact DE.r (by exact d_binV op_mulG ops_mulG (i := 7) rfl (Or.inl rfl) (by decide) (by decide) (by exact dr_var (i := 4) rfl (Or.inl rfl) (by decide) (by decide))))) (by exact a_cons (by exact d_bin op_modN ops_modG (by exact d_bin op_addA ops_add (by exact d_bin op_addA ops_add (by exact d_ixV (fun _ _ => rfl) (i := 1) rfl (Or.inl rfl) (by decide) (by decide) (by exact DE.r de_int)) (by exact DE.r (by exact d_ixV (fun _ _ => rfl) (i := 2) rfl (Or.inl rfl) (by decide) (by decide) (by exact DE.r de_int)))) (by exact DE.r (by exact d_binV op_mulG ops_mulG (i := 7) rfl (Or.inl rfl) (by decide) (by decide) (by exact dr_var (i := 5) rfl (Or.inl rfl) (by decide) (by decide))))) (by exact dr_var (i := 3) rfl (Or.inl rfl) (by decide) (by decide))) a_nil))))))))
theorem ok_law_one (T : Tx P w K mg ad) : Cal P w K mg base (lx K ad) ad.f_law_one 1 P_law_one F_law_one :=
  cal_body (k := 0) T.d_law_one sc_law_one fun cdv ar outer s H E hr tk => (by exact ss_cons (by exact s_asg (by exact de_var (i := 0) rfl (Or.inl rfl) (by decide) (by decide)) (by exact g_tup (by exact gs_cons (by exact g_name sc_law_one.nd (i := 3) rfl (Or.inl rfl)) (by exact gs_cons (by exact g_name sc_law_one.nd (i := 4) rfl (Or.inl rfl)) (by exact gs_cons (by exact g_name sc_law_one.nd (i := 5) rfl (Or.inl rfl)) gs_nil))))) (by exact ss_cons (by exact s_asg (by exact de_var (i := 1) rfl (Or.inl rfl) (by decide) (by decide)) (by exact g_tup (by exact gs_cons (by exact g_name sc_law_one.nd (i := 6) rfl (Or.inl rfl)) (by exact gs_cons (by exact g_name sc_law_one.nd (i := 7) rfl (Or.inl rfl)) gs_nil)))) (by exact ss_cons (by exact s_if (by exact t_cmpV (op_eqA (hu64 hr)) ops_eq rfl (i := 2) rfl (Or.inl rfl) (by decide) (by decide) (by exact DE.r de_str)) (by exact ss_one (by exact s_ret (by exact d_tup (by exact a_cons (by exact de_var (i := 6) rfl (Or.inl rfl) (by decide) (by decide)) (by exact a_cons (by exact d_bin op_modN ops_modG (by exact d_binV op_addA ops_add (i := 7) rfl (Or.inl rfl) (by decide) (by decide) (by exact DE.r de_int)) (by exact dr_var (i := 3) rfl (Or.inl rfl) (by decide) (by decide))) a_nil))))) ss_nil) (by exact ss_cons (by exact s_if (by exact t_cmpV (op_eqA (hu64 hr)) ops_eq rfl (i := 2) rfl (Or.inl rfl) (by decide) (by decide) (by exact DE.r de_str)) (by exact ss_one (by exact s_ret (by exact d_tup (by exact a_cons (by exact de_var (i := 6) rfl (Or.inl rfl) (by decide) (by decide)) (by exact a_cons (by exact d_bin op_modN ops_modG (by exact d_binV op_sub ops_sub (i := 7) rfl (Or.inl rfl) (by decide) (by decide) (by exact DE.r de_int)) (by exact dr_var (i := 3) rfl (Or.inl rfl) (by decide) (by decide))) a_nil))))) ss_nil) (by exact ss_cons (by exact s_if (by exact t_cmpV (op_eqA (hu64 hr)) ops_eq rfl (i := 2) rfl (Or.inl rfl) (by decide) (by decide) (by exact DE.r de_str)) (by exact ss_one (by exact s_ret (by exact d_if (by exact t_cmp (op_ltG (hu64 hr)) ops_ordG rfl (by exact d_binV op_addA ops_add (i := 6) rfl (Or.inl rfl) (by decide) (by decide) (by exact DE.r de_int)) (by exact dr_var (i := 4) rfl (Or.inl rfl) (by decide) (by decide))) (by exact d_tup (by exact a_cons (by exact d_binV op_addA ops_add (i := 6) rfl (Or.inl rfl) (by decide) (by decide) (by exact DE.r de_int)) (by exact a_cons (by exact de_var (i := 7) rfl (Or.inl rfl) (by decide) (by decide)) a_nil))) (by exact d_tup (by exact a_cons de_int (by exact a_cons (by exact d_bin op_modN ops_modG (by exact d_binV op_addA ops_add (i := 7) rfl (Or.inl rfl) (by decide) (by decide) (by exact dr_var (i := 5) rfl (Or.inl rfl) (by decide) (by decide))) (by exact dr_var (i := 3) rfl (Or.inl rfl) (by decide) (by decide))) a_nil)))))) ss_nil) (by exact ss_one (by exact s_ret (by exact d_if (by exact t_cmpV (op_gtG (hu64 hr)) ops_ordG rfl (i := 6) rfl (Or.inl rfl) (by decide) (by decide) (by exact DE.r de_int)) (by exact d_tup (by exact a_cons (by exact d_binV op_sub ops_sub (i := 6) rfl (Or.inl rfl) (by decide) (by decide) (by exact DE.r de_int)) (by exact a_cons (by exact de_var (i := 7) rfl (Or.inl rfl) (by decide) (by decide)) a_nil))) (by exact d_tup (by exact a_cons (by exact d_binV op_sub ops_sub (i := 4) rfl (Or.inl rfl) (by decide) (by decide) (by exact DE.r de_int)) (by exact a_cons (by exact d_bin op_modN ops_modG (by exact d_binV op_sub ops_sub (i := 7) rfl (Or.inl rfl) (by decide) (by decide) (by exact dr_var (i := 5) rfl (Or.inl rfl) (by decide) (by decide))) (by exact dr_var (i := 3) rfl (Or.inl rfl) (by decide) (by decide))) a_nil)))))))))))
theorem ok_check_class_word (T : Tx P w K mg ad) : Cal P w K mg base (lx K ad) ad.f_check_class_word 2 P_check_class_word F_check_class_word :=
  cal_body (k := 1) T.d_check_class_word sc_check_class_word fun cdv ar outer s H E hr tk => (by exact ss_one (by exact s_if (by exact t_not (by exact t_truth (by exact DE.r (by exact d_callC (ok_is_class_word T) hr (by decide) rfl T.g_is_class_word tk (by exact c_val (by exact de_var (i := 0) rfl (Or.inl rfl) (by decide) (by decide)) c_nil rfl) rfl (by decide) rfl rfl)) (fun _ => rfl))) (by exact ss_one (by exact s_raise rfl T.x_InvalidWord hr tk rfl de_str rfl (by decide))) ss_nil))
theorem ok_Society___init__ (T : Tx P w K mg ad) : Cal P w K mg base (lx K ad) ad.f_Society___init__ 2 P_Society___init__ F_Society___init__ :=
  cal_bodyM (k := 1) T.d_Society___init__ sc_Society___init__ fun cdv ar outer s H E hr tk => (by exact ss_cons (by exact s_set sc_Society___init__.nd (i := 3) rfl (Or.inl rfl) (by exact d_if (by exact t_truth (by exact DE.r (by exact d_isis (Ts := ["list", "tuple"]) rfl T.z_isinstance (by first | rfl | kernel_rfl) (by decide) (by decide) (by exact ty_cons rfl T.z_list (by first | rfl | kernel_rfl) (by decide) (by decide) (by exact ty_cons rfl T.z_tuple (by first | rfl | kernel_rfl) (by decide) (by decide) ty_nil)) (by decide) (by exact de_var (i := 1) rfl (Or.inl rfl) (by decide) (by decide)))) (fun _ => rfl)) (by exact d_callB1 call_len calls_len rfl T.z_len (by first | rfl | kernel_rfl) (by decide) (by decide) (by exact dr_var (i := 1) rfl (Or.inl rfl) (by decide) (by decide))) de_int)) (by exact ss_cons (by exact s_if (by exact DW.t (by exact w_or (by exact t_not (by exact t_chain (op_leG (hu64 hr)) (op_leG (hu64 hr)) ops_ordG ops_ordG de_int (by exact de_var (i := 3) rfl (Or.inl rfl) (by decide) (by decide)) (by exact de_gint T.t_MOST_CLASSES rfl (by decide)))) (by exact w_or1 (by exact t_not (by exact t_truth (by exact DE.r (by exact d_callC (ok_is_order T) hr (by decide) rfl T.g_is_order tk (by exact c_val (by exact de_var (i := 1) rfl (Or.inl rfl) (by decide) (by decide)) (by exact c_val (by exact de_var (i := 3) rfl (Or.inl rfl) (by decide) (by decide)) c_nil rfl) rfl) rfl (by decide) rfl rfl)) (fun _ => rfl)))))) (by exact ss_one (by exact s_raise rfl T.x_InvalidSociety hr tk rfl de_str rfl (by decide))) ss_nil) (by exact ss_cons (by exact s_if (by exact t_not (by exact t_truth (by exact DE.r (by exact d_callC (ok_is_order T) hr (by decide) rfl T.g_is_order tk (by exact c_val (by exact de_var (i := 2) rfl (Or.inl rfl) (by decide) (by decide)) (by exact c_val (by exact de_var (i := 3) rfl (Or.inl rfl) (by decide) (by decide)) c_nil rfl) rfl) rfl (by decide) rfl rfl)) (fun _ => rfl))) (by exact ss_one (by exact s_raise rfl T.x_InvalidSociety hr tk rfl de_str rfl (by decide))) ss_nil) (by exact ss_cons (by exact s_fld T.ft (i := 0) rfl (Or.inl rfl) (by decide) (by decide) (by exact de_var (i := 3) rfl (Or.inl rfl) (by decide) (by decide))) (by exact ss_cons (by exact s_fld T.ft (i := 0) rfl (Or.inl rfl) (by decide) (by decide) (by exact d_callT1 call_tuple_of calls_tup rfl T.z_tuple (by first | rfl | kernel_rfl) (by decide) (by decide) (by exact dr_var (i := 1) rfl (Or.inl rfl) (by decide) (by decide)))) (by exact ss_cons (by exact s_fld T.ft (i := 0) rfl (Or.inl rfl) (by decide) (by decide) (by exact d_callT1 call_tuple_of calls_tup rfl T.z_tuple (by first | rfl | kernel_rfl) (by decide) (by decide) (by exact dr_var (i := 2) rfl (Or.inl rfl) (by decide) (by decide)))) (by exact ss_moves (q9 := ⟨0, 0, 0, 0⟩) (s4 := ⟨0, 0, 0, 0⟩) T.ft (ok_turned_back T) hr (by decide) rfl T.g_turned_back tk rfl (hu1 hr) (i := 0) rfl (Or.inl rfl) (by decide) (by decide) (by decide))))))))
theorem ok_is_ring (T : Tx P w K mg ad) : Cal P w K mg base (lx K ad) ad.f_is_ring 2 P_is_ring F_is_ring :=
  cal_body (k := 1) T.d_is_ring sc_is_ring fun cdv ar outer s H E hr tk => (by exact ss_cons (by exact s_if (by exact DW.t (by exact w_or (by exact t_not (by exact t_truth (by exact DE.r (by exact d_isi (T := "tuple") rfl T.z_isinstance (by first | rfl | kernel_rfl) (by decide) (by decide) rfl T.z_tuple (by first | rfl | kernel_rfl) (by decide) (by decide) (by exact de_var (i := 0) rfl (Or.inl rfl) (by decide) (by decide)))) (fun _ => rfl))) (by exact w_or (by exact t_cmp (op_neA (hu64 hr)) ops_ne rfl (by exact d_callB1 call_len calls_len rfl T.z_len (by first | rfl | kernel_rfl) (by decide) (by decide) (by exact dr_var (i := 0) rfl (Or.inl rfl) (by decide) (by decide))) (by exact DE.r de_int)) (by exact w_or1 (by exact t_truth (by exact DE.r (by exact DF.e (by exact f_lc sc_is_ring.nd (by exact i_any (by exact de_var (i := 0) rfl (Or.inl rfl) (by decide) (by decide))) (own := [("one", 1)]) (by exact (show BlkOk N_is_ring (defScope s_is_ring) _ [("one", 1)] from ⟨rfl, by decide +kernel, by decide +kernel, by decide +kernel, by decide +kernel⟩)) (by exact b_name sc_is_ring.nd (i := 1) rfl (fun _ _ _ _ _ => by first | exact Or.inl rfl | exact Or.inr rfl) (fun _ _ _ _ _ => by first | exact Or.inl rfl | exact Or.inr rfl) (by decide)) (fun _ _ _ _ _ => (by exact ts_one (by exact t_not (by exact t_truth (by exact DE.r (by exact d_callC (ok_is_whole_number T) hr (by decide) rfl T.g_is_whole_number takes0 (by exact c_val (by exact de_var (i := 1) rfl (Or.inl rfl) (by decide) (by decide)) c_nil rfl) rfl (by decide) rfl rfl)) (fun _ => rfl))))) (fun _ _ _ _ _ => (by exact de_var (i := 1) rfl (Or.inl rfl) (by decide) (by decide)))))) (fun _ => rfl)))))) (by exact ss_one (by exact s_ret de_bl)) ss_nil) (by exact ss_one (by exact s_ret (by exact d_and (by exact d_cmp (op_geG (hu64 hr)) ops_ordG rfl (by exact d_ixV (fun _ _ => rfl) (i := 0) rfl (Or.inl rfl) (by decide) (by decide) (by exact DE.r de_int)) (by exact DE.r de_int)) (by exact d_and (by exact d_cmp (op_geG (hu64 hr)) ops_ordG rfl (by exact d_ixV (fun _ _ => rfl) (i := 0) rfl (Or.inl rfl) (by decide) (by decide) (by exact DE.r de_int)) (by exact DE.r de_int)) (by exact d_one (by exact d_chain (op_leG (hu64 hr)) (op_ltG (hu64 hr)) ops_ordG ops_ordG de_int (by exact d_ixV (fun _ _ => rfl) (i := 0) rfl (Or.inl rfl) (by decide) (by decide) (by exact DE.r de_int)) (by exact d_ixV (fun _ _ => rfl) (i := 0) rfl (Or.inl rfl) (by decide) (by decide) (by exact DE.r de_int)))))))))
theorem ok_is_seat (T : Tx P w K mg ad) : Cal P w K mg base (lx K ad) ad.f_is_seat 2 P_is_seat F_is_seat :=
  cal_body (k := 1) T.d_is_seat sc_is_seat fun cdv ar outer s H E hr tk => (by exact ss_cons (by exact s_if (by exact DW.t (by exact w_or (by exact t_not (by exact t_truth (by exact DE.r (by exact d_isi (T := "tuple") rfl T.z_isinstance (by first | rfl | kernel_rfl) (by decide) (by decide) rfl T.z_tuple (by first | rfl | kernel_rfl) (by decide) (by decide) (by exact de_var (i := 1) rfl (Or.inl rfl) (by decide) (by decide)))) (fun _ => rfl))) (by exact w_or (by exact t_cmp (op_neA (hu64 hr)) ops_ne rfl (by exact d_callB1 call_len calls_len rfl T.z_len (by first | rfl | kernel_rfl) (by decide) (by decide) (by exact dr_var (i := 1) rfl (Or.inl rfl) (by decide) (by decide))) (by exact DE.r de_int)) (by exact w_or1 (by exact t_truth (by exact DE.r (by exact DF.e (by exact f_lc sc_is_seat.nd (by exact i_any (by exact de_var (i := 1) rfl (Or.inl rfl) (by decide) (by decide))) (own := [("one", 2)]) (by exact (show BlkOk N_is_seat (defScope s_is_seat) _ [("one", 2)] from ⟨rfl, by decide +kernel, by decide +kernel, by decide +kernel, by decide +kernel⟩)) (by exact b_name sc_is_seat.nd (i := 2) rfl (fun _ _ _ _ _ => by first | exact Or.inl rfl | exact Or.inr rfl) (fun _ _ _ _ _ => by first | exact Or.inl rfl | exact Or.inr rfl) (by decide)) (fun _ _ _ _ _ => (by exact ts_one (by exact t_not (by exact t_truth (by exact DE.r (by exact d_callC (ok_is_whole_number T) hr (by decide) rfl T.g_is_whole_number takes0 (by exact c_val (by exact de_var (i := 2) rfl (Or.inl rfl) (by decide) (by decide)) c_nil rfl) rfl (by decide) rfl rfl)) (fun _ => rfl))))) (fun _ _ _ _ _ => (by exact de_var (i := 2) rfl (Or.inl rfl) (by decide) (by decide)))))) (fun _ => rfl)))))) (by exact ss_one (by exact s_ret de_bl)) ss_nil) (by exact ss_one (by exact s_ret (by exact d_and (by exact d_chain (op_leG (hu64 hr)) (op_ltG (hu64 hr)) ops_ordG ops_ordG de_int (by exact d_ixV (fun _ _ => rfl) (i := 1) rfl (Or.inl rfl) (by decide) (by decide) (by exact DE.r de_int)) (by exact d_ixV (fun _ _ => rfl) (i := 0) rfl (Or.inl rfl) (by decide) (by decide) (by exact DE.r de_int))) (by exact d_one (by exact d_chain (op_leG (hu64 hr)) (op_ltG (hu64 hr)) ops_ordG ops_ordG de_int (by exact d_ixV (fun _ _ => rfl) (i := 1) rfl (Or.inl rfl) (by decide) (by decide) (by exact DE.r de_int)) (by exact d_ixV (fun _ _ => rfl) (i := 0) rfl (Or.inl rfl) (by decide) (by decide) (by exact DE.r de_int))))))))
theorem ok_law_letters (T : Tx P w K mg ad) : Cal P w K mg base (lx K ad) ad.f_law_letters 2 P_law_letters F_law_letters :=
  cal_body (k := 1) T.d_law_letters sc_law_letters fun cdv ar outer s H E hr tk => (by exact ss_one (by exact s_ret (by exact d_sm1 PySem.F.slot_str_join PySem.F.type_str_join mt_join sm_join de_str (by exact DE.r (by exact DF.e (by exact f_lc sc_law_letters.nd (by exact i_range1 rfl T.z_range (by exact d_callC (ok_law_take T) hr (by decide) rfl T.g_law_take tk (by exact c_own (i := 0) rfl (Or.inr (Or.inl rfl)) (by decide) (by decide) (by exact c_val (by exact d_binV op_addA ops_add (i := 1) rfl (Or.inl rfl) (by decide) (by decide) (by exact DE.r de_int)) c_nil rfl) rfl) rfl (by decide) rfl rfl)) (own := [("turn", 2)]) (by exact (show BlkOk N_law_letters (defScope s_law_letters) _ [("turn", 2)] from ⟨rfl, by decide +kernel, by decide +kernel, by decide +kernel, by decide +kernel⟩)) (by exact b_name sc_law_letters.nd (i := 2) rfl (fun _ _ _ _ _ => by first | exact Or.inl rfl | exact Or.inr rfl) (fun _ _ _ _ _ => by first | exact Or.inl rfl | exact Or.inr rfl) (by decide)) (fun _ _ _ _ _ => ts_nil) (fun _ _ _ _ _ => (by exact d_ix (fun _ _ => rfl) de_str (by exact DE.r (by exact d_callC (ok_law_take T) hr (by decide) rfl T.g_law_take takes0 (by exact c_own (i := 0) rfl (by first | exact Or.inr (Or.inr rfl) | exact Or.inr (Or.inl rfl) | exact Or.inl rfl) (by decide) (by decide) (by exact c_val de_int c_nil rfl) rfl) rfl (by decide) rfl rfl))))))))))
theorem ok_Society_led (T : Tx P w K mg ad) : Cal P w K mg base (lx K ad) ad.f_Society_led 3 P_Society_led F_Society_led :=
  cal_bodyM (k := 2) T.d_Society_led sc_Society_led fun cdv ar outer s H E hr tk => (by exact ss_cons (by exact s_expr (by exact d_callC (ok_check_class_word T) hr (by decide) rfl T.g_check_class_word tk (by exact c_val (by exact de_var (i := 2) rfl (Or.inl rfl) (by decide) (by decide)) c_nil rfl) rfl (by decide) rfl rfl)) (by exact ss_cons (by exact s_expr (by exact d_callC (ok_check_class T) hr (by decide) rfl T.g_check_class tk (by exact c_val (by exact de_var (i := 0) rfl (Or.inl rfl) (by decide) (by decide)) (by exact c_val (by exact de_var (i := 1) rfl (Or.inl rfl) (by decide) (by decide)) c_nil rfl) rfl) rfl (by decide) rfl rfl)) (by exact ss_one (by exact s_ret (by exact d_meth T.mt_Society_walked (ok_Society_walked T) hr (by decide) tk (by exact de_var (i := 0) rfl (Or.inl rfl) (by decide) (by decide)) (by exact c_val (by exact de_var (i := 1) rfl (Or.inl rfl) (by decide) (by decide)) (by exact c_val (by exact de_var (i := 2) rfl (Or.inl rfl) (by decide) (by decide)) c_nil rfl) rfl) rfl)))))
theorem ok_check_ring (T : Tx P w K mg ad) : Cal P w K mg base (lx K ad) ad.f_check_ring 3 P_check_ring F_check_ring :=
  cal_body (k := 2) T.d_check_ring sc_check_ring fun cdv ar outer s H E hr tk => (by exact ss_one (by exact s_if (by exact t_not (by exact t_truth (by exact DE.r (by exact d_callC (ok_is_ring T) hr (by decide) rfl T.g_is_ring tk (by exact c_val (by exact de_var (i := 0) rfl (Or.inl rfl) (by decide) (by decide)) c_nil rfl) rfl (by decide) rfl rfl)) (fun _ => rfl))) (by exact ss_one (by exact s_raise rfl T.x_InvalidKind hr tk rfl de_str rfl (by decide))) ss_nil))
theorem og_tupled (T : Tx P w K mg ad) : ∀ n, Cal P w K mg base (lx K ad) ad.f_tupled (n + 1) P_tupled (G_tupled n)
  | 0 => Cal.up (cal_body (k := 0) T.d_tupled sc_tupled fun cdv ar outer s H E hr tk => ss_stuck) (by decide)
  | n + 1 => Cal.up (cal_body (k := n + 1) T.d_tupled sc_tupled fun cdv ar outer s H E hr tk => by
      have ih := og_tupled T n
      exact (by exact ss_cons (by exact s_if (by exact t_truth (by exact DE.r (by exact d_isis (Ts := ["list", "tuple"]) rfl T.z_isinstance (by first | rfl | kernel_rfl) (by decide) (by decide) (by exact ty_cons rfl T.z_list (by first | rfl | kernel_rfl) (by decide) (by decide) (by exact ty_cons rfl T.z_tuple (by first | rfl | kernel_rfl) (by decide) (by decide) ty_nil)) (by decide) (by exact de_var (i := 0) rfl (Or.inl rfl) (by decide) (by decide)))) (fun _ => rfl)) (by exact ss_one (by exact s_ret (by exact d_callT1 call_tuple_of calls_tup rfl T.z_tuple (by first | rfl | kernel_rfl) (by decide) (by decide) (by exact DE.r (by exact DF.e (by exact f_lc sc_tupled.nd (by exact i_any (by exact de_var (i := 0) rfl (Or.inl rfl) (by decide) (by decide))) (own := [("part", 1)]) (by exact (show BlkOk N_tupled (defScope s_tupled) _ [("part", 1)] from ⟨rfl, by decide +kernel, by decide +kernel, by decide +kernel, by decide +kernel⟩)) (by exact b_name sc_tupled.nd (i := 1) rfl (fun _ _ _ _ _ => by first | exact Or.inl rfl | exact Or.inr rfl) (fun _ _ _ _ _ => by first | exact Or.inl rfl | exact Or.inr rfl) (by decide)) (fun _ _ _ _ _ => ts_nil) (fun _ _ _ _ _ => (by exact d_callC ih hr (by omega) rfl T.g_tupled takes0 (by exact c_val (by exact de_var (i := 1) rfl (Or.inl rfl) (by decide) (by decide)) c_nil rfl) rfl (by decide) rfl rfl)))))))) ss_nil) (by exact ss_one (by exact s_ret (by exact de_var (i := 0) rfl (Or.inl rfl) (by decide) (by decide)))))) (by omega)
theorem ok_tupled (T : Tx P w K mg ad) : Cal P w K mg base (lx K ad) ad.f_tupled 9 P_tupled F_tupled := og_tupled T 8
theorem ok_ring_led (T : Tx P w K mg ad) : Cal P w K mg base (lx K ad) ad.f_ring_led 10 P_ring_led F_ring_led :=
  cal_body (k := 9) T.d_ring_led sc_ring_led fun cdv ar outer s H E hr tk => (by exact ss_cons (by exact s_set sc_ring_led.nd (i := 0) rfl (Or.inl rfl) (by exact d_callC (ok_tupled T) hr (by decide) rfl T.g_tupled tk (by exact c_val (by exact de_var (i := 0) rfl (Or.inl rfl) (by decide) (by decide)) c_nil rfl) rfl (by decide) rfl rfl)) (by exact ss_cons (by exact s_set sc_ring_led.nd (i := 1) rfl (Or.inl rfl) (by exact d_callC (ok_tupled T) hr (by decide) rfl T.g_tupled tk (by exact c_val (by exact de_var (i := 1) rfl (Or.inl rfl) (by decide) (by decide)) c_nil rfl) rfl (by decide) rfl rfl)) (by exact ss_cons (by exact s_expr (by exact d_callC (ok_check_ring T) hr (by decide) rfl T.g_check_ring tk (by exact c_val (by exact de_var (i := 0) rfl (Or.inl rfl) (by decide) (by decide)) c_nil rfl) rfl (by decide) rfl rfl)) (by exact ss_cons (by exact s_if (by exact t_not (by exact t_truth (by exact DE.r (by exact d_callC (ok_is_seat T) hr (by decide) rfl T.g_is_seat tk (by exact c_val (by exact de_var (i := 0) rfl (Or.inl rfl) (by decide) (by decide)) (by exact c_val (by exact de_var (i := 1) rfl (Or.inl rfl) (by decide) (by decide)) c_nil rfl) rfl) rfl (by decide) rfl rfl)) (fun _ => rfl))) (by exact ss_one (by exact s_raise rfl T.x_InvalidKind hr tk rfl de_str rfl (by decide))) ss_nil) (by exact ss_cons (by exact s_expr (by exact d_callC (ok_check_class_word T) hr (by decide) rfl T.g_check_class_word tk (by exact c_val (by exact de_var (i := 2) rfl (Or.inl rfl) (by decide) (by decide)) c_nil rfl) rfl (by decide) rfl rfl)) (by exact ss_cons (by exact s_for (passes_of rfl) (by exact i_any (by exact de_var (i := 2) rfl (Or.inl rfl) (by decide) (by decide))) (by exact g_name sc_ring_led.nd (i := 3) rfl (Or.inl rfl)) (m := ring_led_b1) (by exact ss_cons (by exact s_set sc_ring_led.nd (i := 4) rfl (Or.inl rfl) (by exact d_dkIx (hu1 hr) (by exact d_disp (by exact dp_cons (by exact d_tup (by exact a_cons de_int (by exact a_cons de_int a_nil))) (by exact dp_cons (by exact d_tup (by exact a_cons (by exact d_neg de_int) (by exact a_cons de_int a_nil))) (by exact dp_cons (by exact d_tup (by exact a_cons de_int (by exact a_cons de_int a_nil))) (by exact dp_cons (by exact d_tup (by exact a_cons de_int (by exact a_cons (by exact d_neg de_int) a_nil))) dp_nil)))) rfl rfl (by simp) (by decide)) (by exact de_var (i := 3) rfl (Or.inl rfl) (by decide) (by decide)) (fun _ _ => rfl))) (by exact ss_one (by exact s_set sc_ring_led.nd (i := 1) rfl (Or.inl rfl) (by exact d_callC (ok_shifted T) hr (by decide) rfl T.g_shifted tk (by exact c_val (by exact de_var (i := 0) rfl (Or.inl rfl) (by decide) (by decide)) (by exact c_val (by exact de_var (i := 1) rfl (Or.inl rfl) (by decide) (by decide)) (by exact c_val (by exact de_var (i := 4) rfl (Or.inl rfl) (by decide) (by decide)) c_nil rfl) rfl) rfl) rfl (by decide) rfl rfl))))) (by exact ss_one (by exact s_ret (by exact de_var (i := 1) rfl (Or.inl rfl) (by decide) (by decide))))))))))
theorem ok_ring_society (T : Tx P w K mg ad) : Cal P w K mg base (lx K ad) ad.f_ring_society 10 P_ring_society F_ring_society :=
  cal_body (k := 9) T.d_ring_society sc_ring_society fun cdv ar outer s H E hr tk => (by exact ss_cons (by exact s_set sc_ring_society.nd (i := 0) rfl (Or.inr rfl) (by exact d_callC (ok_tupled T) hr (by decide) rfl T.g_tupled tk (by exact c_val (by exact de_var (i := 0) rfl (Or.inr (Or.inl rfl)) (by decide) (by decide)) c_nil rfl) rfl (by decide) rfl rfl)) (by exact ss_cons (by exact s_expr (by exact d_callC (ok_check_ring T) hr (by decide) rfl T.g_check_ring tk (by exact c_val (by exact de_var (i := 0) rfl (Or.inr (Or.inl rfl)) (by decide) (by decide)) c_nil rfl) rfl (by decide) rfl rfl)) (by exact ss_cons (by exact s_asg (by exact de_var (i := 0) rfl (Or.inr (Or.inl rfl)) (by decide) (by decide)) (by exact g_tup (by exact gs_cons (by exact g_name sc_ring_society.nd (i := 1) rfl (Or.inr rfl)) (by exact gs_cons (by exact g_name sc_ring_society.nd (i := 2) rfl (Or.inl rfl)) (by exact gs_cons (by exact g_name sc_ring_society.nd (i := 3) rfl (Or.inl rfl)) gs_nil))))) (by exact ss_cons (by exact s_if (by exact t_cmp (op_gtG (hu64 hr)) ops_ordG rfl (by exact d_binV op_mulG ops_mulG (i := 1) rfl (Or.inr (Or.inl rfl)) (by decide) (by decide) (by exact dr_var (i := 2) rfl (Or.inl rfl) (by decide) (by decide))) (by exact DE.r (by exact de_gint T.t_MOST_CLASSES rfl (by decide)))) (by exact ss_one (by exact s_raise2 rfl T.x_TooMany hr tk rfl (by exact a_cons de_str (by exact a_cons (by exact d_binV op_mulG ops_mulG (i := 1) rfl (Or.inr (Or.inl rfl)) (by decide) (by decide) (by exact dr_var (i := 2) rfl (Or.inl rfl) (by decide) (by decide))) a_nil)) rfl (by decide))) ss_nil) (by exact ss_cons (by exact s_setLc2 (i := 4) sc_ring_society.nd rfl rfl (by rfl) (by exact i_range1 rfl T.z_range (by exact de_var (i := 2) rfl (Or.inl rfl) (by decide) (by decide))) (own := [("row", 9), ("place", 8)]) (by exact (show BlkOk N_ring_society (defScope s_ring_society) _ [("row", 9), ("place", 8)] from ⟨rfl, by decide +kernel, by decide +kernel, by decide +kernel, by decide +kernel⟩)) (vs1 := [8]) (by decide) (by exact b_name sc_ring_society.nd (i := 9) rfl (fun _ _ _ _ _ => by first | exact Or.inl rfl | exact Or.inr rfl) (fun _ _ _ _ _ => by first | exact Or.inl rfl | exact Or.inr rfl) (by decide)) (fun _ _ _ _ _ => ts_nil) (fun _ _ _ _ _ => (by exact i_range1 rfl T.z_range (by exact de_var (i := 1) rfl (by first | exact Or.inr (Or.inr rfl) | exact Or.inr (Or.inl rfl) | exact Or.inl rfl) (by decide) (by decide)))) (by exact b_name sc_ring_society.nd (i := 8) rfl (fun _ _ _ _ _ => by first | exact Or.inl rfl | exact Or.inr rfl) (fun _ _ _ _ _ => by first | exact Or.inl rfl | exact Or.inr rfl) (by decide)) (fun _ _ _ _ _ => ts_nil) (fun _ _ _ _ _ => (by exact d_tup (by exact a_cons (by exact de_var (i := 9) rfl (Or.inl rfl) (by decide) (by decide)) (by exact a_cons (by exact de_var (i := 8) rfl (Or.inl rfl) (by decide) (by decide)) a_nil))))) (by exact ss_cons (by exact s_setF sc_ring_society.nd (i := 5) rfl (Or.inl rfl) (by exact f_lst a_nil)) (by exact ss_cons (by exact s_for (passes_of rfl) (by exact i_any (by exact d_tup (by exact a_cons (by exact d_tup (by exact a_cons de_int (by exact a_cons de_int a_nil))) (by exact a_cons (by exact d_tup (by exact a_cons de_int (by exact a_cons de_int a_nil))) a_nil)))) (by exact g_name sc_ring_society.nd (i := 6) rfl (Or.inr rfl)) (m := ring_society_b1) (by exact ss_cons (by exact s_setLc (i := 7) sc_ring_society.nd rfl rfl (by rfl) (by exact i_any (by exact de_var (i := 4) rfl (Or.inl rfl) (by decide) (by decide))) (own := [("seat", 10)]) (by exact (show BlkOk N_ring_society (defScope s_ring_society) _ [("seat", 10)] from ⟨rfl, by decide +kernel, by decide +kernel, by decide +kernel, by decide +kernel⟩)) (by exact b_name sc_ring_society.nd (i := 10) rfl (fun _ _ _ _ _ => by first | exact Or.inl rfl | exact Or.inr rfl) (fun _ _ _ _ _ => by first | exact Or.inl rfl | exact Or.inr rfl) (by decide)) (fun _ _ _ _ _ => ts_nil) (fun _ _ _ _ _ => (by exact d_callC (ok_shifted T) hr (by decide) rfl T.g_shifted takes0 (by exact c_val (by exact de_var (i := 0) rfl (by first | exact Or.inr (Or.inr rfl) | exact Or.inr (Or.inl rfl) | exact Or.inl rfl) (by decide) (by decide)) (by exact c_val (by exact de_var (i := 10) rfl (Or.inl rfl) (by decide) (by decide)) (by exact c_val (by exact de_var (i := 6) rfl (by first | exact Or.inr (Or.inr rfl) | exact Or.inr (Or.inl rfl) | exact Or.inl rfl) (by decide) (by decide)) c_nil rfl) rfl) rfl) rfl (by decide) rfl rfl))) (by exact ss_one (by exact s_expr (by exact d_append rfl (i := 5) rfl (Or.inl rfl) (by decide) (by decide) (by exact DF.e (by exact f_lc sc_ring_society.nd (by exact i_any (by exact de_var (i := 7) rfl (Or.inl rfl) (by decide) (by decide))) (own := [("row", 9), ("place", 8)]) (by exact (show BlkOk N_ring_society (defScope s_ring_society) _ [("row", 9), ("place", 8)] from ⟨rfl, by decide +kernel, by decide +kernel, by decide +kernel, by decide +kernel⟩)) (by exact b_tup (by exact bs_cons (by exact b_name sc_ring_society.nd (i := 9) rfl (fun _ _ _ _ _ => by first | exact Or.inl rfl | exact Or.inr rfl) (fun _ _ _ _ _ => by first | exact Or.inl rfl | exact Or.inr rfl) (by decide)) (by exact bs_cons (by exact b_name sc_ring_society.nd (i := 8) rfl (fun _ _ _ _ _ => by first | exact Or.inl rfl | exact Or.inr rfl) (fun _ _ _ _ _ => by first | exact Or.inl rfl | exact Or.inr rfl) (by decide)) bs_nil))) (fun _ _ _ _ _ => ts_nil) (fun _ _ _ _ _ => (by exact d_bin op_addA ops_add (by exact d_binV op_mulG ops_mulG (i := 9) rfl (Or.inl rfl) (by decide) (by decide) (by exact dr_var (i := 1) rfl (by first | exact Or.inr (Or.inr rfl) | exact Or.inr (Or.inl rfl) | exact Or.inl rfl) (by decide) (by decide))) (by exact dr_var (i := 8) rfl (Or.inl rfl) (by decide) (by decide))))))))))) (by exact ss_one (by exact s_ret (by exact d_make T.mk_Society (ok_Society___init__ T) hr (by decide) rfl tk (by exact c_val (by exact d_ixV (fun _ _ => rfl) (i := 5) rfl (Or.inl rfl) (by decide) (by decide) (by exact DE.r de_int)) (by exact c_val (by exact d_ixV (fun _ _ => rfl) (i := 5) rfl (Or.inl rfl) (by decide) (by decide) (by exact DE.r de_int)) c_nil rfl) rfl) rfl (by decide)))))))))))
theorem ok_law_refusal (T : Tx P w K mg ad) : Cal P w K mg base (lx K ad) ad.f_law_refusal 11 P_law_refusal F_law_refusal :=
  cal_body (k := 10) T.d_law_refusal sc_law_refusal fun cdv ar outer s H E hr tk => (by exact ss_cons (by exact s_set sc_law_refusal.nd (i := 1) rfl (Or.inl rfl) (by exact d_ix (fun _ _ => rfl) (by exact DF.e (by exact f_lst (by exact a_cons (by exact d_tup (by exact a_cons de_int (by exact a_cons de_int (by exact a_cons de_int a_nil)))) (by exact a_cons (by exact d_tup (by exact a_cons de_int (by exact a_cons de_int (by exact a_cons de_int a_nil)))) (by exact a_cons (by exact d_tup (by exact a_cons de_int (by exact a_cons de_int a_nil))) (by exact a_cons (by exact d_tup (by exact a_cons de_int (by exact a_cons de_int (by exact a_cons de_int a_nil)))) (by exact a_cons (by exact d_tup (by exact a_cons de_int (by exact a_cons de_int (by exact a_cons de_int a_nil)))) (by exact a_cons (by exact d_tup (by exact a_cons de_int (by exact a_cons de_int (by exact a_cons de_int a_nil)))) (by exact a_cons (by exact d_tup (by exact a_cons de_int (by exact a_cons de_int (by exact a_cons de_int a_nil)))) a_nil))))))))) (by exact dr_var (i := 0) rfl (Or.inl rfl) (by decide) (by decide)))) (by exact ss_cons (by exact s_set sc_law_refusal.nd (i := 2) rfl (Or.inl rfl) (by exact d_ix (fun _ _ => rfl) (by exact DF.e (by exact f_lst (by exact a_cons (by exact d_tup (by exact a_cons de_int (by exact a_cons de_int a_nil))) (by exact a_cons (by exact d_tup (by exact a_cons de_int (by exact a_cons de_int a_nil))) (by exact a_cons (by exact d_tup (by exact a_cons de_int (by exact a_cons de_int a_nil))) (by exact a_cons (by exact d_tup (by exact a_cons de_int (by exact a_cons de_int a_nil))) (by exact a_cons (by exact d_tup (by exact a_cons de_int (by exact a_cons (by exact d_neg de_int) a_nil))) (by exact a_cons (by exact d_tup (by exact a_cons de_int (by exact a_cons de_int a_nil))) (by exact a_cons (by exact d_tup (by exact a_cons de_int (by exact a_cons de_int a_nil))) a_nil))))))))) (by exact dr_var (i := 0) rfl (Or.inl rfl) (by decide) (by decide)))) (by exact ss_cons (by exact s_tryN rfl rfl sc_law_refusal.nd (i := 3) rfl rfl tk (fun W pn xe tk po => (by exact ss_cons (by exact s_if (by exact t_cmpV (op_eqA (hu64 hr)) ops_eq rfl (i := 0) rfl (Or.inl rfl) (by decide) (by decide) (by exact DE.r de_int)) (by exact ss_one (by exact s_expr (by exact d_callC (ok_ring_society T) hr (by decide) rfl T.g_ring_society tk (by exact c_val (by exact de_var (i := 1) rfl (Or.inl rfl) (by decide) (by decide)) c_nil rfl) rfl (by decide) rfl rfl))) ss_nil) (by exact ss_one (by exact s_expr (by exact d_callC (ok_ring_led T) hr (by decide) rfl T.g_ring_led tk (by exact c_val (by exact de_var (i := 1) rfl (Or.inl rfl) (by decide) (by decide)) (by exact c_val (by exact de_var (i := 2) rfl (Or.inl rfl) (by decide) (by decide)) (by exact c_val (by exact d_if (by exact t_cmpV (op_eqA (hu64 hr)) ops_eq rfl (i := 0) rfl (Or.inl rfl) (by decide) (by decide) (by exact DE.r de_int)) de_str de_str) c_nil rfl) rfl) rfl) rfl (by decide) rfl rfl))))) (.cons ⟨rfl, by decide, Or.inl T.x_InvalidKind.gC⟩ (hm_InvalidKind T) (fun a oe cls d pn hz hf => (by exact ss_one (by exact s_ret (by exact d_xf T.good hz hf (i := 3) rfl (Or.inl rfl))))) (.cons ⟨rfl, by decide, Or.inl T.x_InvalidWord.gC⟩ (hm_InvalidWord T) (fun a oe cls d pn hz hf => (by exact ss_one (by exact s_ret (by exact d_xf T.good hz hf (i := 3) rfl (Or.inl rfl))))) (.cons ⟨rfl, by decide, Or.inl T.x_TooMany.gC⟩ (hm_TooMany T) (fun a oe cls d pn hz hf => (by exact ss_one (by exact s_ret (by exact d_tup (by exact a_cons (by exact d_xf T.good hz hf (i := 3) rfl (Or.inl rfl)) (by exact a_cons (by exact d_xf T.good_many hz hf (i := 3) rfl (Or.inl rfl)) a_nil)))))) .nil)))) (by exact ss_one (by exact s_ret de_non)))))
theorem fn_law (T : Tx P w K mg ad) {fd : FuncData} (Fn : Fun K "law" "law" s_law ad.f_law fd) : FnOk P w K mg base (L2.CX P w) 12 ad.f_law fd P_law (spD (lx K ad) P_law.length F_law) :=
  fn_body (k := 11) Fn sc_law fun cdv ar outer s H E hr tk => (by exact ss_cons (by exact s_setF sc_law.nd (i := 1) rfl (Or.inl rfl) (by exact d_callCF (ok_law_deck T) hr (by decide) rfl T.g_law_deck tk (by exact c_val (by exact de_var (i := 0) rfl (Or.inl rfl) (by decide) (by decide)) (by exact c_val de_int (by exact c_val de_int c_nil rfl) rfl) rfl) rfl (by decide) rfl rfl)) (by exact ss_cons (by exact s_set sc_law.nd (i := 2) rfl (Or.inl rfl) (by exact d_if (by exact t_cmp (op_eqA (hu64 hr)) ops_eq rfl (by exact d_callC (ok_law_take T) hr (by decide) rfl T.g_law_take tk (by exact c_own (i := 1) rfl (Or.inl rfl) (by decide) (by decide) (by exact c_val de_int c_nil rfl) rfl) rfl (by decide) rfl rfl) (by exact DE.r de_int)) (by exact d_bin op_pow ops_pow de_int (by exact DE.r de_int)) de_int)) (by exact ss_cons (by exact s_par2 sc_law.nd (i := 3) (j := 4) rfl rfl (by decide) rfl rfl (by exact a_cons (by exact d_bin op_addA ops_add (by exact d_bin op_addA ops_add de_int (by exact DE.r (by exact d_callC (ok_law_take T) hr (by decide) rfl T.g_law_take tk (by exact c_own (i := 1) rfl (Or.inl rfl) (by decide) (by decide) (by exact c_val de_int c_nil rfl) rfl) rfl (by decide) rfl rfl))) (by exact dr_var (i := 2) rfl (Or.inl rfl) (by decide) (by decide))) (by exact a_cons (by exact d_bin op_addA ops_add (by exact d_bin op_addA ops_add de_int (by exact DE.r (by exact d_callC (ok_law_take T) hr (by decide) rfl T.g_law_take tk (by exact c_own (i := 1) rfl (Or.inl rfl) (by decide) (by decide) (by exact c_val de_int c_nil rfl) rfl) rfl (by decide) rfl rfl))) (by exact DE.r (by exact d_binV op_mulG ops_mulG (i := 2) rfl (Or.inl rfl) (by decide) (by decide) (by exact DE.r (by exact d_callC (ok_law_take T) hr (by decide) rfl T.g_law_take tk (by exact c_own (i := 1) rfl (Or.inl rfl) (by decide) (by decide) (by exact c_val de_int c_nil rfl) rfl) rfl (by decide) rfl rfl))))) a_nil))) (by exact ss_cons (by exact s_set sc_law.nd (i := 5) rfl (Or.inr rfl) (by exact d_tup (by exact a_cons (by exact de_var (i := 3) rfl (Or.inl rfl) (by decide) (by decide)) (by exact a_cons (by exact de_var (i := 4) rfl (Or.inl rfl) (by decide) (by decide)) (by exact a_cons (by exact d_bin op_modN ops_modG (by exact d_bin op_addA ops_add (by exact d_callC (ok_law_take T) hr (by decide) rfl T.g_law_take tk (by exact c_own (i := 1) rfl (Or.inl rfl) (by decide) (by decide) (by exact c_val de_int c_nil rfl) rfl) rfl (by decide) rfl rfl) (by exact DE.r (by exact d_binV op_fdivG ops_divG (i := 2) rfl (Or.inl rfl) (by decide) (by decide) (by exact DE.r de_int)))) (by exact dr_var (i := 3) rfl (Or.inl rfl) (by decide) (by decide))) a_nil))))) (by exact ss_cons (by exact s_for (passes_of rfl) (by exact i_range1 rfl T.z_range de_int) (by exact g_name sc_law.nd (i := 6) rfl (Or.inl rfl)) (m := law_b2) (by exact ss_cons (by exact s_set sc_law.nd (i := 7) rfl (Or.inl rfl) (by exact d_tup (by exact a_cons (by exact d_callC (ok_law_take T) hr (by decide) rfl T.g_law_take tk (by exact c_own (i := 1) rfl (Or.inl rfl) (by decide) (by decide) (by exact c_val (by exact d_callB2 (call_min2 rfl) calls_min2 rfl T.z_min (by first | rfl | kernel_rfl) (by decide) (by decide) (by exact de_var (i := 4) rfl (Or.inl rfl) (by decide) (by decide)) de_int) c_nil rfl) rfl) rfl (by decide) rfl rfl) (by exact a_cons (by exact d_bin op_modN ops_modG (by exact d_bin op_sub ops_sub (by exact d_binV op_sub ops_sub (i := 3) rfl (Or.inl rfl) (by decide) (by decide) (by exact DE.r de_int)) (by exact DE.r (by exact d_callC (ok_law_take T) hr (by decide) rfl T.g_law_take tk (by exact c_own (i := 1) rfl (Or.inl rfl) (by decide) (by decide) (by exact c_val de_int c_nil rfl) rfl) rfl (by decide) rfl rfl))) (by exact dr_var (i := 3) rfl (Or.inl rfl) (by decide) (by decide))) a_nil)))) (by exact ss_cons (by exact s_set sc_law.nd (i := 8) rfl (Or.inl rfl) (by exact d_callC (ok_law_letters T) hr (by decide) rfl T.g_law_letters tk (by exact c_own (i := 1) rfl (Or.inl rfl) (by decide) (by decide) (by exact c_val de_int c_nil rfl) rfl) rfl (by decide) rfl rfl)) (by exact ss_cons (by exact s_set sc_law.nd (i := 9) rfl (Or.inl rfl) (by exact de_var (i := 7) rfl (Or.inl rfl) (by decide) (by decide))) (by exact ss_cons (by exact s_for (passes_of rfl) (by exact i_any (by exact de_var (i := 8) rfl (Or.inl rfl) (by decide) (by decide))) (by exact g_name sc_law.nd (i := 10) rfl (Or.inl rfl)) (m := law_b1) (by exact ss_one (by exact s_set sc_law.nd (i := 9) rfl (Or.inl rfl) (by exact d_callC (ok_law_one T) hr (by decide) rfl T.g_law_one tk (by exact c_val (by exact de_var (i := 5) rfl (Or.inr (Or.inl rfl)) (by decide) (by decide)) (by exact c_val (by exact de_var (i := 9) rfl (Or.inl rfl) (by decide) (by decide)) (by exact c_val (by exact de_var (i := 10) rfl (Or.inl rfl) (by decide) (by decide)) c_nil rfl) rfl) rfl) rfl (by decide) rfl rfl)))) (by exact ss_cons (by exact s_if (by exact DW.t (by exact w_or (by exact t_cmp (op_neA (hu64 hr)) ops_ne rfl (by exact d_callC (ok_ring_led T) hr (by decide) rfl T.g_ring_led tk (by exact c_val (by exact de_var (i := 5) rfl (Or.inr (Or.inl rfl)) (by decide) (by decide)) (by exact c_val (by exact de_var (i := 7) rfl (Or.inl rfl) (by decide) (by decide)) (by exact c_val (by exact de_var (i := 8) rfl (Or.inl rfl) (by decide) (by decide)) c_nil rfl) rfl) rfl) rfl (by decide) rfl rfl) (by exact dr_var (i := 9) rfl (Or.inl rfl) (by decide) (by decide))) (by exact w_or1 (by exact t_cmpV (op_neA (hu64 hr)) ops_ne rfl (i := 9) rfl (Or.inl rfl) (by decide) (by decide) (by exact DE.r (by exact d_callC (ok_law_shifted T) hr (by decide) rfl T.g_law_shifted tk (by exact c_val (by exact de_var (i := 5) rfl (Or.inr (Or.inl rfl)) (by decide) (by decide)) (by exact c_val (by exact de_var (i := 7) rfl (Or.inl rfl) (by decide) (by decide)) (by exact c_val (by exact d_callC (ok_law_pair T) hr (by decide) rfl T.g_law_pair tk (by exact c_val (by exact de_var (i := 8) rfl (Or.inl rfl) (by decide) (by decide)) c_nil rfl) rfl (by decide) rfl rfl) c_nil rfl) rfl) rfl) rfl (by decide) rfl rfl)))))) (by exact ss_one (by exact s_ret de_bl)) ss_nil) (by exact ss_one (by exact s_if (by exact t_cmp (op_neA (hu64 hr)) ops_ne rfl (by exact d_callC (ok_ring_led T) hr (by decide) rfl T.g_ring_led tk (by exact c_val (by exact de_var (i := 5) rfl (Or.inr (Or.inl rfl)) (by decide) (by decide)) (by exact c_val (by exact de_var (i := 7) rfl (Or.inl rfl) (by decide) (by decide)) (by exact c_val (by exact d_revS (by exact de_var (i := 8) rfl (Or.inl rfl) (by decide) (by decide))) c_nil rfl) rfl) rfl) rfl (by decide) rfl rfl) (by exact dr_var (i := 9) rfl (Or.inl rfl) (by decide) (by decide))) (by exact ss_one (by exact s_ret de_bl)) ss_nil)))))))) (by exact ss_cons (by exact s_if (by exact t_cmpV (op_eqA (hu64 hr)) ops_eq rfl (i := 2) rfl (Or.inl rfl) (by decide) (by decide) (by exact DE.r de_int)) (by exact ss_cons (by exact s_set sc_law.nd (i := 11) rfl (Or.inl rfl) (by exact d_callC (ok_ring_society T) hr (by decide) rfl T.g_ring_society tk (by exact c_val (by exact de_var (i := 5) rfl (Or.inr (Or.inl rfl)) (by decide) (by decide)) c_nil rfl) rfl (by decide) rfl rfl)) (by exact ss_cons (by exact s_setF sc_law.nd (i := 12) rfl (Or.inr rfl) (by exact f_lst a_nil)) (by exact ss_cons (by exact s_for (passes_of rfl) (by exact i_range1 rfl T.z_range (by exact de_var (i := 4) rfl (Or.inl rfl) (by decide) (by decide))) (by exact g_name sc_law.nd (i := 13) rfl (Or.inr rfl)) (m := law_b3) (by exact ss_one (by exact s_expr (by exact d_extend rfl (i := 12) rfl (Or.inr (Or.inl rfl)) (by decide) (by decide) (by exact DF.e (by exact f_lc sc_law.nd (by exact i_range1 rfl T.z_range (by exact de_var (i := 3) rfl (Or.inl rfl) (by decide) (by decide))) (own := [("place", 15)]) (by exact (show BlkOk N_law (defScope s_law) _ [("place", 15)] from ⟨rfl, by decide +kernel, by decide +kernel, by decide +kernel, by decide +kernel⟩)) (by exact b_name sc_law.nd (i := 15) rfl (fun _ _ _ _ _ => by first | exact Or.inl rfl | exact Or.inr rfl) (fun _ _ _ _ _ => by first | exact Or.inl rfl | exact Or.inr rfl) (by decide)) (fun _ _ _ _ _ => ts_nil) (fun _ _ _ _ _ => (by exact d_tup (by exact a_cons (by exact de_var (i := 13) rfl (by first | exact Or.inr (Or.inr rfl) | exact Or.inr (Or.inl rfl) | exact Or.inl rfl) (by decide) (by decide)) (by exact a_cons (by exact de_var (i := 15) rfl (Or.inl rfl) (by decide) (by decide)) a_nil)))))))))) (by exact ss_cons (by exact s_setLc (i := 14) sc_law.nd rfl rfl (by rfl) (by exact i_any (by exact d_tup (by exact a_cons de_str (by exact a_cons de_str a_nil)))) (own := [("letter", 10)]) (by exact (show BlkOk N_law (defScope s_law) _ [("letter", 10)] from ⟨rfl, by decide +kernel, by decide +kernel, by decide +kernel, by decide +kernel⟩)) (by exact b_name sc_law.nd (i := 10) rfl (fun _ _ _ _ _ => by first | exact Or.inl rfl | exact Or.inr rfl) (fun _ _ _ _ _ => by first | exact Or.inl rfl | exact Or.inr rfl) (by decide)) (fun _ _ _ _ _ => ts_nil) (fun _ _ _ _ _ => (by exact d_callT1 call_tuple_of calls_tup rfl T.z_tuple (by first | rfl | kernel_rfl) (by decide) (by decide) (by exact DE.r (by exact DF.e (by exact f_lc sc_law.nd (by exact i_any (by exact de_var (i := 12) rfl (by first | exact Or.inr (Or.inr rfl) | exact Or.inr (Or.inl rfl) | exact Or.inl rfl) (by decide) (by decide))) (own := [("seat", 7)]) (by exact blk_in2 (N' := N_law) (sc := defScope s_law) rfl rfl ⟨rfl, by decide +kernel, by decide +kernel, by decide +kernel, by decide +kernel⟩) (by exact b_name sc_law.nd (i := 7) rfl (fun _ _ _ _ _ => by first | exact Or.inl rfl | exact Or.inr rfl) (fun _ _ _ _ _ => by first | exact Or.inl rfl | exact Or.inr rfl) (by decide)) (fun _ _ _ _ _ => ts_nil) (fun _ _ _ _ _ => (by exact d_indexV (hu65 hr) (i := 12) rfl (by first | exact Or.inr (Or.inr rfl) | exact Or.inr (Or.inl rfl) | exact Or.inl rfl) (by decide) (by decide) (by exact d_callC (ok_law_one T) hr (by decide) rfl T.g_law_one takes0 (by exact c_val (by exact de_var (i := 5) rfl (by first | exact Or.inr (Or.inr rfl) | exact Or.inr (Or.inl rfl) | exact Or.inl rfl) (by decide) (by decide)) (by exact c_val (by exact de_var (i := 7) rfl (Or.inl rfl) (by decide) (by decide)) (by exact c_val (by exact de_var (i := 10) rfl (by first | exact Or.inr (Or.inr rfl) | exact Or.inr (Or.inl rfl) | exact Or.inl rfl) (by decide) (by decide)) c_nil rfl) rfl) rfl) rfl (by decide) rfl rfl))))))))) (by exact ss_cons (by exact s_if (by exact t_cmp (op_neA (hu64 hr)) ops_ne rfl (by exact DF.e (by exact f_lst (by exact a_cons (by exact d_fldV T.ft (i := 11) rfl (Or.inl rfl) (by decide) (by decide)) (by exact a_cons (by exact d_fldV T.ft (i := 11) rfl (Or.inl rfl) (by decide) (by decide)) a_nil)))) (by exact dr_var (i := 14) rfl (Or.inl rfl) (by decide) (by decide))) (by exact ss_one (by exact s_ret de_bl)) ss_nil) (by exact ss_one (by exact s_for (passes_of rfl) (by exact i_range1 rfl T.z_range (by exact d_fldV T.ft (i := 11) rfl (Or.inl rfl) (by decide) (by decide))) (by exact g_name sc_law.nd (i := 15) rfl (Or.inl rfl)) (m := law_b4) (by exact ss_cons (by exact s_if (by exact t_cmp (op_neA (hu64 hr)) ops_ne rfl (by exact d_meth T.mt_Society_led (ok_Society_led T) hr (by decide) tk (by exact de_var (i := 11) rfl (Or.inl rfl) (by decide) (by decide)) (by exact c_val (by exact de_var (i := 15) rfl (Or.inl rfl) (by decide) (by decide)) (by exact c_val de_str c_nil rfl) rfl) rfl) (by exact DE.r (by exact d_meth T.mt_Society_led (ok_Society_led T) hr (by decide) tk (by exact de_var (i := 11) rfl (Or.inl rfl) (by decide) (by decide)) (by exact c_val (by exact de_var (i := 15) rfl (Or.inl rfl) (by decide) (by decide)) (by exact c_val de_str c_nil rfl) rfl) rfl))) (by exact ss_one (by exact s_ret de_bl)) ss_nil) (by exact ss_one (by exact s_if (by exact t_cmp (op_neA (hu64 hr)) ops_ne rfl (by exact d_cmp (op_eqA (hu64 hr)) ops_eq rfl (by exact d_meth T.mt_Society_led (ok_Society_led T) hr (by decide) tk (by exact de_var (i := 11) rfl (Or.inl rfl) (by decide) (by decide)) (by exact c_val (by exact de_var (i := 15) rfl (Or.inl rfl) (by decide) (by decide)) (by exact c_val de_str c_nil rfl) rfl) rfl) (by exact dr_var (i := 15) rfl (Or.inl rfl) (by decide) (by decide))) (by exact DE.r (by exact d_cmpV (op_eqA (hu64 hr)) ops_eq rfl (i := 3) rfl (Or.inl rfl) (by decide) (by decide) (by exact DE.r de_int)))) (by exact ss_one (by exact s_ret de_bl)) ss_nil)))))))))) ss_nil) (by exact ss_cons (by exact s_set sc_law.nd (i := 16) rfl (Or.inl rfl) (by exact d_callC (ok_law_take T) hr (by decide) rfl T.g_law_take tk (by exact c_own (i := 1) rfl (Or.inl rfl) (by decide) (by decide) (by exact c_val de_int c_nil rfl) rfl) rfl (by decide) rfl rfl)) (by exact ss_one (by exact s_ret (by exact d_cmp (op_eqA (hu64 hr)) ops_eq rfl (by exact d_callC (ok_law_refusal T) hr (by decide) rfl T.g_law_refusal tk (by exact c_val (by exact de_var (i := 16) rfl (Or.inl rfl) (by decide) (by decide)) c_nil rfl) rfl (by decide) rfl rfl) (by exact DE.r (by exact d_ix (fun _ _ => rfl) (by exact DF.e (by exact f_lst (by exact a_cons de_str (by exact a_cons de_str (by exact a_cons de_str (by exact a_cons de_str (by exact a_cons de_str (by exact a_cons de_str (by exact a_cons (by exact d_tup (by exact a_cons de_str (by exact a_cons de_int a_nil))) a_nil))))))))) (by exact dr_var (i := 16) rfl (Or.inl rfl) (by decide) (by decide))))))))))))))
end
theorem all_mk {P : Program} {w : World} {K : PySem.W.Frag} {h : Heap} {mg : Str → Option Value} {fa f_is_whole_number f_is_class_word f_check_class_word f_is_order f_turned_back f_check_class f_tupled f_is_ring f_check_ring f_is_seat f_shifted f_ring_led f_ring_society f_law_deck f_law_take f_law_letters f_law_pair f_law_shifted f_law_one f_law_refusal f_law f_Society___init__ f_Society_led f_Society_walked C_InvalidWord I_InvalidWord cda_InvalidWord cc_InvalidWord C_InvalidSociety I_InvalidSociety cda_InvalidSociety cc_InvalidSociety C_InvalidKind I_InvalidKind cda_InvalidKind cc_InvalidKind C_TooMany I_TooMany cda_TooMany cc_TooMany  O_Society : Addr} {tk_LETTERS tk_MOST_LETTERS tk_MOST_CLASSES : Tok} {od_is_whole_number an_is_whole_number od_is_class_word an_is_class_word od_check_class_word an_check_class_word od_is_order an_is_order od_turned_back an_turned_back od_check_class an_check_class od_tupled an_tupled od_is_ring an_is_ring od_check_ring an_check_ring od_is_seat an_is_seat od_shifted an_shifted od_ring_led an_ring_led od_ring_society an_ring_society od_law_deck an_law_deck od_law_take an_law_take od_law_letters an_law_letters od_law_pair an_law_pair od_law_shifted an_law_shifted od_law_one an_law_one od_law_refusal an_law_refusal od_law an_law od_Society___init__ an_Society___init__ od_Society_led an_Society_led od_Society_walked an_Society_walked : Option Addr} {sl_is_whole_number sl_is_class_word sl_check_class_word sl_is_order sl_turned_back sl_check_class sl_tupled sl_is_ring sl_check_ring sl_is_seat sl_shifted sl_ring_led sl_ring_society sl_law_deck sl_law_take sl_law_letters sl_law_pair sl_law_shifted sl_law_one sl_law_refusal sl_law sl_Society___init__ sl_Society_led sl_Society_walked : Array (Option Value)} {oc_is_whole_number kV_is_whole_number dc_is_whole_number pm_is_whole_number cd_is_whole_number ct_is_whole_number oc_is_class_word kV_is_class_word dc_is_class_word pm_is_class_word cd_is_class_word ct_is_class_word oc_check_class_word kV_check_class_word dc_check_class_word pm_check_class_word cd_check_class_word ct_check_class_word oc_is_order kV_is_order dc_is_order pm_is_order cd_is_order ct_is_order oc_turned_back kV_turned_back dc_turned_back pm_turned_back cd_turned_back ct_turned_back oc_check_class kV_check_class dc_check_class pm_check_class cd_check_class ct_check_class oc_tupled kV_tupled dc_tupled pm_tupled cd_tupled ct_tupled oc_is_ring kV_is_ring dc_is_ring pm_is_ring cd_is_ring ct_is_ring oc_check_ring kV_check_ring dc_check_ring pm_check_ring cd_check_ring ct_check_ring oc_is_seat kV_is_seat dc_is_seat pm_is_seat cd_is_seat ct_is_seat oc_shifted kV_shifted dc_shifted pm_shifted cd_shifted ct_shifted oc_ring_led kV_ring_led dc_ring_led pm_ring_led cd_ring_led ct_ring_led oc_ring_society kV_ring_society dc_ring_society pm_ring_society cd_ring_society ct_ring_society oc_law_deck kV_law_deck dc_law_deck pm_law_deck cd_law_deck ct_law_deck oc_law_take kV_law_take dc_law_take pm_law_take cd_law_take ct_law_take oc_law_letters kV_law_letters dc_law_letters pm_law_letters cd_law_letters ct_law_letters oc_law_pair kV_law_pair dc_law_pair pm_law_pair cd_law_pair ct_law_pair oc_law_shifted kV_law_shifted dc_law_shifted pm_law_shifted cd_law_shifted ct_law_shifted oc_law_one kV_law_one dc_law_one pm_law_one cd_law_one ct_law_one oc_law_refusal kV_law_refusal dc_law_refusal pm_law_refusal cd_law_refusal ct_law_refusal oc_law kV_law dc_law pm_law cd_law ct_law oc_Society___init__ kV_Society___init__ dc_Society___init__ pm_Society___init__ cd_Society___init__ ct_Society___init__ oc_Society_led kV_Society_led dc_Society_led pm_Society_led cd_Society_led ct_Society_led oc_Society_walked kV_Society_walked dc_Society_walked pm_Society_walked cd_Society_walked ct_Society_walked : Value} {nm_InvalidWord q_InvalidWord qual_InvalidWord file_InvalidWord : Str} {N_InvalidWord : Addr} {bs_InvalidWord bm_InvalidWord sub_InvalidWord : List Value} {sn_InvalidWord : List Str} {ab_InvalidWord : Bool} {col_InvalidWord : Option Bool} {dd_InvalidWord od_InvalidWord an_InvalidWord cdd_InvalidWord cld_InvalidWord : Option Addr} {k0_InvalidWord k1_InvalidWord k2_InvalidWord k3_InvalidWord k5_InvalidWord : Option Value} {oc_InvalidWord doc_InvalidWord pm_InvalidWord ct_InvalidWord ccl_InvalidWord cl_InvalidWord : Value} {osl_InvalidWord ccs_InvalidWord csl_InvalidWord : Array (Option Value)} {vs_InvalidWord : Array Value} {tf_InvalidWord : Tok} {nm_InvalidSociety q_InvalidSociety qual_InvalidSociety file_InvalidSociety : Str} {N_InvalidSociety : Addr} {bs_InvalidSociety bm_InvalidSociety sub_InvalidSociety : List Value} {sn_InvalidSociety : List Str} {ab_InvalidSociety : Bool} {col_InvalidSociety : Option Bool} {dd_InvalidSociety od_InvalidSociety an_InvalidSociety cdd_InvalidSociety cld_InvalidSociety : Option Addr} {k0_InvalidSociety k1_InvalidSociety k2_InvalidSociety k3_InvalidSociety k5_InvalidSociety : Option Value} {oc_InvalidSociety doc_InvalidSociety pm_InvalidSociety ct_InvalidSociety ccl_InvalidSociety cl_InvalidSociety : Value} {osl_InvalidSociety ccs_InvalidSociety csl_InvalidSociety : Array (Option Value)} {vs_InvalidSociety : Array Value} {tf_InvalidSociety : Tok} {nm_InvalidKind q_InvalidKind qual_InvalidKind file_InvalidKind : Str} {N_InvalidKind : Addr} {bs_InvalidKind bm_InvalidKind sub_InvalidKind : List Value} {sn_InvalidKind : List Str} {ab_InvalidKind : Bool} {col_InvalidKind : Option Bool} {dd_InvalidKind od_InvalidKind an_InvalidKind cdd_InvalidKind cld_InvalidKind : Option Addr} {k0_InvalidKind k1_InvalidKind k2_InvalidKind k3_InvalidKind k5_InvalidKind : Option Value} {oc_InvalidKind doc_InvalidKind pm_InvalidKind ct_InvalidKind ccl_InvalidKind cl_InvalidKind : Value} {osl_InvalidKind ccs_InvalidKind csl_InvalidKind : Array (Option Value)} {vs_InvalidKind : Array Value} {tf_InvalidKind : Tok} {nm_TooMany q_TooMany qual_TooMany file_TooMany : Str} {N_TooMany : Addr} {bs_TooMany bm_TooMany sub_TooMany : List Value} {sn_TooMany : List Str} {ab_TooMany : Bool} {col_TooMany : Option Bool} {dd_TooMany od_TooMany an_TooMany cdd_TooMany cld_TooMany : Option Addr} {k0_TooMany k1_TooMany k2_TooMany k3_TooMany k5_TooMany : Option Value} {oc_TooMany doc_TooMany pm_TooMany ct_TooMany ccl_TooMany cl_TooMany : Value} {osl_TooMany ccs_TooMany csl_TooMany : Array (Option Value)} {vs_TooMany : Array Value} {tf_TooMany : Tok} (X : K.In h) (G : h.Ns mainGlobals mg) (hfa : mg "law" = some (.ref fa))
    (aO_Society : PySem.W.nsIn K mainGlobals "Society" = some (some (.ref O_Society)))
    (z_abs : PySem.W.nsIn K mainGlobals "abs" = some none)
    (z_all : PySem.W.nsIn K mainGlobals "all" = some none)
    (z_bool : PySem.W.nsIn K mainGlobals "bool" = some none)
    (z_divmod : PySem.W.nsIn K mainGlobals "divmod" = some none)
    (z_enumerate : PySem.W.nsIn K mainGlobals "enumerate" = some none)
    (z_int : PySem.W.nsIn K mainGlobals "int" = some none)
    (z_isinstance : PySem.W.nsIn K mainGlobals "isinstance" = some none)
    (z_len : PySem.W.nsIn K mainGlobals "len" = some none)
    (z_list : PySem.W.nsIn K mainGlobals "list" = some none)
    (z_min : PySem.W.nsIn K mainGlobals "min" = some none)
    (z_range : PySem.W.nsIn K mainGlobals "range" = some none)
    (z_sorted : PySem.W.nsIn K mainGlobals "sorted" = some none)
    (z_str : PySem.W.nsIn K mainGlobals "str" = some none)
    (z_tuple : PySem.W.nsIn K mainGlobals "tuple" = some none)
    (a_is_whole_number : PySem.W.nsIn K mainGlobals "is_whole_number" = some (some (.ref f_is_whole_number)))
    (l_is_whole_number : K.lookup f_is_whole_number = some ⟨oc_is_whole_number, od_is_whole_number, .func (PySem.W.fnOf "is_whole_number" "is_whole_number" (defArgs s_is_whole_number) (defBody s_is_whole_number) (defScope s_is_whole_number) .none kV_is_whole_number dc_is_whole_number pm_is_whole_number an_is_whole_number cd_is_whole_number ct_is_whole_number), sl_is_whole_number⟩)
    (c_is_whole_number : PySem.W.codeIn K cd_is_whole_number "is_whole_number" = true)
    (k_is_whole_number : PySem.W.keepIn K (.ref f_is_whole_number) = true)
    (a_is_class_word : PySem.W.nsIn K mainGlobals "is_class_word" = some (some (.ref f_is_class_word)))
    (l_is_class_word : K.lookup f_is_class_word = some ⟨oc_is_class_word, od_is_class_word, .func (PySem.W.fnOf "is_class_word" "is_class_word" (defArgs s_is_class_word) (defBody s_is_class_word) (defScope s_is_class_word) .none kV_is_class_word dc_is_class_word pm_is_class_word an_is_class_word cd_is_class_word ct_is_class_word), sl_is_class_word⟩)
    (c_is_class_word : PySem.W.codeIn K cd_is_class_word "is_class_word" = true)
    (k_is_class_word : PySem.W.keepIn K (.ref f_is_class_word) = true)
    (a_check_class_word : PySem.W.nsIn K mainGlobals "check_class_word" = some (some (.ref f_check_class_word)))
    (l_check_class_word : K.lookup f_check_class_word = some ⟨oc_check_class_word, od_check_class_word, .func (PySem.W.fnOf "check_class_word" "check_class_word" (defArgs s_check_class_word) (defBody s_check_class_word) (defScope s_check_class_word) .none kV_check_class_word dc_check_class_word pm_check_class_word an_check_class_word cd_check_class_word ct_check_class_word), sl_check_class_word⟩)
    (c_check_class_word : PySem.W.codeIn K cd_check_class_word "check_class_word" = true)
    (k_check_class_word : PySem.W.keepIn K (.ref f_check_class_word) = true)
    (a_is_order : PySem.W.nsIn K mainGlobals "is_order" = some (some (.ref f_is_order)))
    (l_is_order : K.lookup f_is_order = some ⟨oc_is_order, od_is_order, .func (PySem.W.fnOf "is_order" "is_order" (defArgs s_is_order) (defBody s_is_order) (defScope s_is_order) .none kV_is_order dc_is_order pm_is_order an_is_order cd_is_order ct_is_order), sl_is_order⟩)
    (c_is_order : PySem.W.codeIn K cd_is_order "is_order" = true)
    (k_is_order : PySem.W.keepIn K (.ref f_is_order) = true)
    (a_turned_back : PySem.W.nsIn K mainGlobals "turned_back" = some (some (.ref f_turned_back)))
    (l_turned_back : K.lookup f_turned_back = some ⟨oc_turned_back, od_turned_back, .func (PySem.W.fnOf "turned_back" "turned_back" (defArgs s_turned_back) (defBody s_turned_back) (defScope s_turned_back) .none kV_turned_back dc_turned_back pm_turned_back an_turned_back cd_turned_back ct_turned_back), sl_turned_back⟩)
    (c_turned_back : PySem.W.codeIn K cd_turned_back "turned_back" = true)
    (k_turned_back : PySem.W.keepIn K (.ref f_turned_back) = true)
    (a_check_class : PySem.W.nsIn K mainGlobals "check_class" = some (some (.ref f_check_class)))
    (l_check_class : K.lookup f_check_class = some ⟨oc_check_class, od_check_class, .func (PySem.W.fnOf "check_class" "check_class" (defArgs s_check_class) (defBody s_check_class) (defScope s_check_class) .none kV_check_class dc_check_class pm_check_class an_check_class cd_check_class ct_check_class), sl_check_class⟩)
    (c_check_class : PySem.W.codeIn K cd_check_class "check_class" = true)
    (k_check_class : PySem.W.keepIn K (.ref f_check_class) = true)
    (a_tupled : PySem.W.nsIn K mainGlobals "tupled" = some (some (.ref f_tupled)))
    (l_tupled : K.lookup f_tupled = some ⟨oc_tupled, od_tupled, .func (PySem.W.fnOf "tupled" "tupled" (defArgs s_tupled) (defBody s_tupled) (defScope s_tupled) .none kV_tupled dc_tupled pm_tupled an_tupled cd_tupled ct_tupled), sl_tupled⟩)
    (c_tupled : PySem.W.codeIn K cd_tupled "tupled" = true)
    (k_tupled : PySem.W.keepIn K (.ref f_tupled) = true)
    (a_is_ring : PySem.W.nsIn K mainGlobals "is_ring" = some (some (.ref f_is_ring)))
    (l_is_ring : K.lookup f_is_ring = some ⟨oc_is_ring, od_is_ring, .func (PySem.W.fnOf "is_ring" "is_ring" (defArgs s_is_ring) (defBody s_is_ring) (defScope s_is_ring) .none kV_is_ring dc_is_ring pm_is_ring an_is_ring cd_is_ring ct_is_ring), sl_is_ring⟩)
    (c_is_ring : PySem.W.codeIn K cd_is_ring "is_ring" = true)
    (k_is_ring : PySem.W.keepIn K (.ref f_is_ring) = true)
    (a_check_ring : PySem.W.nsIn K mainGlobals "check_ring" = some (some (.ref f_check_ring)))
    (l_check_ring : K.lookup f_check_ring = some ⟨oc_check_ring, od_check_ring, .func (PySem.W.fnOf "check_ring" "check_ring" (defArgs s_check_ring) (defBody s_check_ring) (defScope s_check_ring) .none kV_check_ring dc_check_ring pm_check_ring an_check_ring cd_check_ring ct_check_ring), sl_check_ring⟩)
    (c_check_ring : PySem.W.codeIn K cd_check_ring "check_ring" = true)
    (k_check_ring : PySem.W.keepIn K (.ref f_check_ring) = true)
    (a_is_seat : PySem.W.nsIn K mainGlobals "is_seat" = some (some (.ref f_is_seat)))
    (l_is_seat : K.lookup f_is_seat = some ⟨oc_is_seat, od_is_seat, .func (PySem.W.fnOf "is_seat" "is_seat" (defArgs s_is_seat) (defBody s_is_seat) (defScope s_is_seat) .none kV_is_seat dc_is_seat pm_is_seat an_is_seat cd_is_seat ct_is_seat), sl_is_seat⟩)
    (c_is_seat : PySem.W.codeIn K cd_is_seat "is_seat" = true)
    (k_is_seat : PySem.W.keepIn K (.ref f_is_seat) = true)
    (a_shifted : PySem.W.nsIn K mainGlobals "shifted" = some (some (.ref f_shifted)))
    (l_shifted : K.lookup f_shifted = some ⟨oc_shifted, od_shifted, .func (PySem.W.fnOf "shifted" "shifted" (defArgs s_shifted) (defBody s_shifted) (defScope s_shifted) .none kV_shifted dc_shifted pm_shifted an_shifted cd_shifted ct_shifted), sl_shifted⟩)
    (c_shifted : PySem.W.codeIn K cd_shifted "shifted" = true)
    (k_shifted : PySem.W.keepIn K (.ref f_shifted) = true)
    (a_ring_led : PySem.W.nsIn K mainGlobals "ring_led" = some (some (.ref f_ring_led)))
    (l_ring_led : K.lookup f_ring_led = some ⟨oc_ring_led, od_ring_led, .func (PySem.W.fnOf "ring_led" "ring_led" (defArgs s_ring_led) (defBody s_ring_led) (defScope s_ring_led) .none kV_ring_led dc_ring_led pm_ring_led an_ring_led cd_ring_led ct_ring_led), sl_ring_led⟩)
    (c_ring_led : PySem.W.codeIn K cd_ring_led "ring_led" = true)
    (k_ring_led : PySem.W.keepIn K (.ref f_ring_led) = true)
    (a_ring_society : PySem.W.nsIn K mainGlobals "ring_society" = some (some (.ref f_ring_society)))
    (l_ring_society : K.lookup f_ring_society = some ⟨oc_ring_society, od_ring_society, .func (PySem.W.fnOf "ring_society" "ring_society" (defArgs s_ring_society) (defBody s_ring_society) (defScope s_ring_society) .none kV_ring_society dc_ring_society pm_ring_society an_ring_society cd_ring_society ct_ring_society), sl_ring_society⟩)
    (c_ring_society : PySem.W.codeIn K cd_ring_society "ring_society" = true)
    (k_ring_society : PySem.W.keepIn K (.ref f_ring_society) = true)
    (a_law_deck : PySem.W.nsIn K mainGlobals "_law_deck" = some (some (.ref f_law_deck)))
    (l_law_deck : K.lookup f_law_deck = some ⟨oc_law_deck, od_law_deck, .func (PySem.W.fnOf "_law_deck" "_law_deck" (defArgs s_law_deck) (defBody s_law_deck) (defScope s_law_deck) .none kV_law_deck dc_law_deck pm_law_deck an_law_deck cd_law_deck ct_law_deck), sl_law_deck⟩)
    (c_law_deck : PySem.W.codeIn K cd_law_deck "_law_deck" = true)
    (k_law_deck : PySem.W.keepIn K (.ref f_law_deck) = true)
    (a_law_take : PySem.W.nsIn K mainGlobals "_law_take" = some (some (.ref f_law_take)))
    (l_law_take : K.lookup f_law_take = some ⟨oc_law_take, od_law_take, .func (PySem.W.fnOf "_law_take" "_law_take" (defArgs s_law_take) (defBody s_law_take) (defScope s_law_take) .none kV_law_take dc_law_take pm_law_take an_law_take cd_law_take ct_law_take), sl_law_take⟩)
    (c_law_take : PySem.W.codeIn K cd_law_take "_law_take" = true)
    (k_law_take : PySem.W.keepIn K (.ref f_law_take) = true)
    (a_law_letters : PySem.W.nsIn K mainGlobals "_law_letters" = some (some (.ref f_law_letters)))
    (l_law_letters : K.lookup f_law_letters = some ⟨oc_law_letters, od_law_letters, .func (PySem.W.fnOf "_law_letters" "_law_letters" (defArgs s_law_letters) (defBody s_law_letters) (defScope s_law_letters) .none kV_law_letters dc_law_letters pm_law_letters an_law_letters cd_law_letters ct_law_letters), sl_law_letters⟩)
    (c_law_letters : PySem.W.codeIn K cd_law_letters "_law_letters" = true)
    (k_law_letters : PySem.W.keepIn K (.ref f_law_letters) = true)
    (a_law_pair : PySem.W.nsIn K mainGlobals "_law_pair" = some (some (.ref f_law_pair)))
    (l_law_pair : K.lookup f_law_pair = some ⟨oc_law_pair, od_law_pair, .func (PySem.W.fnOf "_law_pair" "_law_pair" (defArgs s_law_pair) (defBody s_law_pair) (defScope s_law_pair) .none kV_law_pair dc_law_pair pm_law_pair an_law_pair cd_law_pair ct_law_pair), sl_law_pair⟩)
    (c_law_pair : PySem.W.codeIn K cd_law_pair "_law_pair" = true)
    (k_law_pair : PySem.W.keepIn K (.ref f_law_pair) = true)
    (a_law_shifted : PySem.W.nsIn K mainGlobals "_law_shifted" = some (some (.ref f_law_shifted)))
    (l_law_shifted : K.lookup f_law_shifted = some ⟨oc_law_shifted, od_law_shifted, .func (PySem.W.fnOf "_law_shifted" "_law_shifted" (defArgs s_law_shifted) (defBody s_law_shifted) (defScope s_law_shifted) .none kV_law_shifted dc_law_shifted pm_law_shifted an_law_shifted cd_law_shifted ct_law_shifted), sl_law_shifted⟩)
    (c_law_shifted : PySem.W.codeIn K cd_law_shifted "_law_shifted" = true)
    (k_law_shifted : PySem.W.keepIn K (.ref f_law_shifted) = true)
    (a_law_one : PySem.W.nsIn K mainGlobals "_law_one" = some (some (.ref f_law_one)))
    (l_law_one : K.lookup f_law_one = some ⟨oc_law_one, od_law_one, .func (PySem.W.fnOf "_law_one" "_law_one" (defArgs s_law_one) (defBody s_law_one) (defScope s_law_one) .none kV_law_one dc_law_one pm_law_one an_law_one cd_law_one ct_law_one), sl_law_one⟩)
    (c_law_one : PySem.W.codeIn K cd_law_one "_law_one" = true)
    (k_law_one : PySem.W.keepIn K (.ref f_law_one) = true)
    (a_law_refusal : PySem.W.nsIn K mainGlobals "_law_refusal" = some (some (.ref f_law_refusal)))
    (l_law_refusal : K.lookup f_law_refusal = some ⟨oc_law_refusal, od_law_refusal, .func (PySem.W.fnOf "_law_refusal" "_law_refusal" (defArgs s_law_refusal) (defBody s_law_refusal) (defScope s_law_refusal) .none kV_law_refusal dc_law_refusal pm_law_refusal an_law_refusal cd_law_refusal ct_law_refusal), sl_law_refusal⟩)
    (c_law_refusal : PySem.W.codeIn K cd_law_refusal "_law_refusal" = true)
    (k_law_refusal : PySem.W.keepIn K (.ref f_law_refusal) = true)
    (a_law : PySem.W.nsIn K mainGlobals "law" = some (some (.ref f_law)))
    (l_law : K.lookup f_law = some ⟨oc_law, od_law, .func (PySem.W.fnOf "law" "law" (defArgs s_law) (defBody s_law) (defScope s_law) .none kV_law dc_law pm_law an_law cd_law ct_law), sl_law⟩)
    (c_law : PySem.W.codeIn K cd_law "law" = true)
    (k_law : PySem.W.keepIn K (.ref f_law) = true)
    (a_Society___init__ : PySem.W.findIn K (.ref O_Society) "__init__" = some (some (.ref f_Society___init__)))
    (i_Society___init__ : PySem.W.isFn K (.ref f_Society___init__) = true)
    (l_Society___init__ : K.lookup f_Society___init__ = some ⟨oc_Society___init__, od_Society___init__, .func (PySem.W.fnOf "__init__" "Society.__init__" (defArgs s_Society___init__) (defBody s_Society___init__) (defScope s_Society___init__) .none kV_Society___init__ dc_Society___init__ pm_Society___init__ an_Society___init__ cd_Society___init__ ct_Society___init__), sl_Society___init__⟩)
    (c_Society___init__ : PySem.W.codeIn K cd_Society___init__ "Society.__init__" = true)
    (k_Society___init__ : PySem.W.keepIn K (.ref f_Society___init__) = true)
    (a_Society_led : PySem.W.findIn K (.ref O_Society) "led" = some (some (.ref f_Society_led)))
    (i_Society_led : PySem.W.isFn K (.ref f_Society_led) = true)
    (l_Society_led : K.lookup f_Society_led = some ⟨oc_Society_led, od_Society_led, .func (PySem.W.fnOf "led" "Society.led" (defArgs s_Society_led) (defBody s_Society_led) (defScope s_Society_led) .none kV_Society_led dc_Society_led pm_Society_led an_Society_led cd_Society_led ct_Society_led), sl_Society_led⟩)
    (c_Society_led : PySem.W.codeIn K cd_Society_led "Society.led" = true)
    (k_Society_led : PySem.W.keepIn K (.ref f_Society_led) = true)
    (a_Society_walked : PySem.W.findIn K (.ref O_Society) "walked" = some (some (.ref f_Society_walked)))
    (i_Society_walked : PySem.W.isFn K (.ref f_Society_walked) = true)
    (l_Society_walked : K.lookup f_Society_walked = some ⟨oc_Society_walked, od_Society_walked, .func (PySem.W.fnOf "walked" "Society.walked" (defArgs s_Society_walked) (defBody s_Society_walked) (defScope s_Society_walked) .none kV_Society_walked dc_Society_walked pm_Society_walked an_Society_walked cd_Society_walked ct_Society_walked), sl_Society_walked⟩)
    (c_Society_walked : PySem.W.codeIn K cd_Society_walked "Society.walked" = true)
    (k_Society_walked : PySem.W.keepIn K (.ref f_Society_walked) = true)
    (pg_Society : PySem.W.plainGet K O_Society Str.empty = true)
    (hd_Society : PySem.W.hasDictIn K O_Society = true)
    (po_Society : PySem.W.plainOver K O_Society = true)
    (so_Society : PySem.W.findIn K (.ref O_Society) "__setattr__" = some (some (.builtin "object.__setattr__")))
    (mo_Society : PySem.W.makesIn K O_Society = true)
    (ko_Society : PySem.W.keepIn K (.ref O_Society) = true)
    (nf_Society_size : PySem.W.findIn K (.ref O_Society) "size" = some none)
    (nf_Society_wives : PySem.W.findIn K (.ref O_Society) "wives" = some none)
    (nf_Society_children : PySem.W.findIn K (.ref O_Society) "children" = some none)
    (nf_Society_moves : PySem.W.findIn K (.ref O_Society) "moves" = some none)
    (gS : PySem.W.nsIn K mainGlobals "super" = some none)
    (opq : PySem.W.nsIn K PySem.cStatics "thirdparty.any" = some none)
    (gC_InvalidWord : PySem.W.nsIn K mainGlobals "InvalidWord" = some (some (.ref C_InvalidWord)))
    (xL_InvalidWord : K.lookup C_InvalidWord = some (excClassObj nm_InvalidWord q_InvalidWord C_InvalidWord N_InvalidWord bs_InvalidWord bm_InvalidWord true sn_InvalidWord sub_InvalidWord ab_InvalidWord col_InvalidWord dd_InvalidWord k0_InvalidWord k1_InvalidWord k2_InvalidWord k3_InvalidWord k5_InvalidWord "ValueError.__new__"))
    (bm_ok_InvalidWord : PySem.HandSPX.refsVE bm_InvalidWord = true)
    (xi_InvalidWord : PySem.W.excInitIn K C_InvalidWord PySem.HandSPX.veTail "ValueError.__new__" = true)
    (sa_InvalidWord : PySem.W.findIn K (.ref C_InvalidWord) "__setattr__" = some (some (.builtin "object.__setattr__")))
    (ga_InvalidWord : PySem.W.findIn K (.ref C_InvalidWord) "__getattribute__" = some (some (.builtin "BaseException.__getattribute__")))
    (gg_InvalidWord : PySem.W.findIn K (.ref C_InvalidWord) "__getattr__" = some none)
    (nb_InvalidWord : PySem.W.findIn K (.ref C_InvalidWord) "what" = some none)
    (iC_InvalidWord : PySem.W.findIn K (.ref C_InvalidWord) "__init__" = some (some (.ref I_InvalidWord)))
    (tI_InvalidWord : PySem.W.typeIn K (.ref I_InvalidWord) = some (.type "function"))
    (kC_InvalidWord : PySem.W.keepIn K (.ref C_InvalidWord) = true)
    (eC_InvalidWord : PySem.W.subIn K (.ref C_InvalidWord) (.type "BaseException") = some true)
    (eV_InvalidWord : PySem.W.subIn K (.ref C_InvalidWord) (.type "ValueError") = some true)
    (sf_InvalidWord : PySem.W.mroIn K C_InvalidWord (.ref C_InvalidWord) = some true)
    (tC_InvalidWord : PySem.W.typeIn K (.ref C_InvalidWord) = some (.type "type"))
    (hC_InvalidWord : PySem.W.hasDictIn K C_InvalidWord = true)
    (su_InvalidWord : PySem.W.ks_superIn K C_InvalidWord C_InvalidWord "__init__" = some (some (.builtin "ValueError.__init__")))
    (lI_InvalidWord : K.lookup I_InvalidWord = some ⟨oc_InvalidWord, od_InvalidWord, .func (PySem.W.ksFn "__init__" qual_InvalidWord (defArgs (initOf (top 3))) (defBody (initOf (top 3))) (defScope (initOf (top 3))) .none .none doc_InvalidWord pm_InvalidWord an_InvalidWord (.ref cda_InvalidWord) ct_InvalidWord cc_InvalidWord), osl_InvalidWord⟩)
    (cI_InvalidWord : PySem.W.codeIn K (.ref cda_InvalidWord) qual_InvalidWord = true)
    (lc_InvalidWord : K.lookup cda_InvalidWord = some ⟨ccl_InvalidWord, cdd_InvalidWord, .fields vs_InvalidWord, ccs_InvalidWord⟩)
    (v2_InvalidWord : vs_InvalidWord[2]? = some (.str file_InvalidWord tf_InvalidWord))
    (fl_InvalidWord : ((P.main.file : Str) == file_InvalidWord) = true)
    (ll_InvalidWord : K.lookup cc_InvalidWord = some ⟨cl_InvalidWord, cld_InvalidWord, .cell (some (.ref C_InvalidWord)), csl_InvalidWord⟩)
    (is_InvalidWord : PySem.W.isClsIn K C_InvalidWord = true)
    (ss_InvalidWord : PySem.W.subIn K (.ref C_InvalidWord) (.ref C_InvalidWord) = some true)
    (gC_InvalidSociety : PySem.W.nsIn K mainGlobals "InvalidSociety" = some (some (.ref C_InvalidSociety)))
    (xL_InvalidSociety : K.lookup C_InvalidSociety = some (excClassObj nm_InvalidSociety q_InvalidSociety C_InvalidSociety N_InvalidSociety bs_InvalidSociety bm_InvalidSociety true sn_InvalidSociety sub_InvalidSociety ab_InvalidSociety col_InvalidSociety dd_InvalidSociety k0_InvalidSociety k1_InvalidSociety k2_InvalidSociety k3_InvalidSociety k5_InvalidSociety "ValueError.__new__"))
    (bm_ok_InvalidSociety : PySem.HandSPX.refsVE bm_InvalidSociety = true)
    (xi_InvalidSociety : PySem.W.excInitIn K C_InvalidSociety PySem.HandSPX.veTail "ValueError.__new__" = true)
    (sa_InvalidSociety : PySem.W.findIn K (.ref C_InvalidSociety) "__setattr__" = some (some (.builtin "object.__setattr__")))
    (ga_InvalidSociety : PySem.W.findIn K (.ref C_InvalidSociety) "__getattribute__" = some (some (.builtin "BaseException.__getattribute__")))
    (gg_InvalidSociety : PySem.W.findIn K (.ref C_InvalidSociety) "__getattr__" = some none)
    (nb_InvalidSociety : PySem.W.findIn K (.ref C_InvalidSociety) "what" = some none)
    (iC_InvalidSociety : PySem.W.findIn K (.ref C_InvalidSociety) "__init__" = some (some (.ref I_InvalidSociety)))
    (tI_InvalidSociety : PySem.W.typeIn K (.ref I_InvalidSociety) = some (.type "function"))
    (kC_InvalidSociety : PySem.W.keepIn K (.ref C_InvalidSociety) = true)
    (eC_InvalidSociety : PySem.W.subIn K (.ref C_InvalidSociety) (.type "BaseException") = some true)
    (eV_InvalidSociety : PySem.W.subIn K (.ref C_InvalidSociety) (.type "ValueError") = some true)
    (sf_InvalidSociety : PySem.W.mroIn K C_InvalidSociety (.ref C_InvalidSociety) = some true)
    (tC_InvalidSociety : PySem.W.typeIn K (.ref C_InvalidSociety) = some (.type "type"))
    (hC_InvalidSociety : PySem.W.hasDictIn K C_InvalidSociety = true)
    (su_InvalidSociety : PySem.W.ks_superIn K C_InvalidSociety C_InvalidSociety "__init__" = some (some (.builtin "ValueError.__init__")))
    (lI_InvalidSociety : K.lookup I_InvalidSociety = some ⟨oc_InvalidSociety, od_InvalidSociety, .func (PySem.W.ksFn "__init__" qual_InvalidSociety (defArgs (initOf (top 4))) (defBody (initOf (top 4))) (defScope (initOf (top 4))) .none .none doc_InvalidSociety pm_InvalidSociety an_InvalidSociety (.ref cda_InvalidSociety) ct_InvalidSociety cc_InvalidSociety), osl_InvalidSociety⟩)
    (cI_InvalidSociety : PySem.W.codeIn K (.ref cda_InvalidSociety) qual_InvalidSociety = true)
    (lc_InvalidSociety : K.lookup cda_InvalidSociety = some ⟨ccl_InvalidSociety, cdd_InvalidSociety, .fields vs_InvalidSociety, ccs_InvalidSociety⟩)
    (v2_InvalidSociety : vs_InvalidSociety[2]? = some (.str file_InvalidSociety tf_InvalidSociety))
    (fl_InvalidSociety : ((P.main.file : Str) == file_InvalidSociety) = true)
    (ll_InvalidSociety : K.lookup cc_InvalidSociety = some ⟨cl_InvalidSociety, cld_InvalidSociety, .cell (some (.ref C_InvalidSociety)), csl_InvalidSociety⟩)
    (is_InvalidSociety : PySem.W.isClsIn K C_InvalidSociety = true)
    (ss_InvalidSociety : PySem.W.subIn K (.ref C_InvalidSociety) (.ref C_InvalidSociety) = some true)
    (gC_InvalidKind : PySem.W.nsIn K mainGlobals "InvalidKind" = some (some (.ref C_InvalidKind)))
    (xL_InvalidKind : K.lookup C_InvalidKind = some (excClassObj nm_InvalidKind q_InvalidKind C_InvalidKind N_InvalidKind bs_InvalidKind bm_InvalidKind true sn_InvalidKind sub_InvalidKind ab_InvalidKind col_InvalidKind dd_InvalidKind k0_InvalidKind k1_InvalidKind k2_InvalidKind k3_InvalidKind k5_InvalidKind "ValueError.__new__"))
    (bm_ok_InvalidKind : PySem.HandSPX.refsVE bm_InvalidKind = true)
    (xi_InvalidKind : PySem.W.excInitIn K C_InvalidKind PySem.HandSPX.veTail "ValueError.__new__" = true)
    (sa_InvalidKind : PySem.W.findIn K (.ref C_InvalidKind) "__setattr__" = some (some (.builtin "object.__setattr__")))
    (ga_InvalidKind : PySem.W.findIn K (.ref C_InvalidKind) "__getattribute__" = some (some (.builtin "BaseException.__getattribute__")))
    (gg_InvalidKind : PySem.W.findIn K (.ref C_InvalidKind) "__getattr__" = some none)
    (nb_InvalidKind : PySem.W.findIn K (.ref C_InvalidKind) "what" = some none)
    (iC_InvalidKind : PySem.W.findIn K (.ref C_InvalidKind) "__init__" = some (some (.ref I_InvalidKind)))
    (tI_InvalidKind : PySem.W.typeIn K (.ref I_InvalidKind) = some (.type "function"))
    (kC_InvalidKind : PySem.W.keepIn K (.ref C_InvalidKind) = true)
    (eC_InvalidKind : PySem.W.subIn K (.ref C_InvalidKind) (.type "BaseException") = some true)
    (eV_InvalidKind : PySem.W.subIn K (.ref C_InvalidKind) (.type "ValueError") = some true)
    (sf_InvalidKind : PySem.W.mroIn K C_InvalidKind (.ref C_InvalidKind) = some true)
    (tC_InvalidKind : PySem.W.typeIn K (.ref C_InvalidKind) = some (.type "type"))
    (hC_InvalidKind : PySem.W.hasDictIn K C_InvalidKind = true)
    (su_InvalidKind : PySem.W.ks_superIn K C_InvalidKind C_InvalidKind "__init__" = some (some (.builtin "ValueError.__init__")))
    (lI_InvalidKind : K.lookup I_InvalidKind = some ⟨oc_InvalidKind, od_InvalidKind, .func (PySem.W.ksFn "__init__" qual_InvalidKind (defArgs (initOf (top 5))) (defBody (initOf (top 5))) (defScope (initOf (top 5))) .none .none doc_InvalidKind pm_InvalidKind an_InvalidKind (.ref cda_InvalidKind) ct_InvalidKind cc_InvalidKind), osl_InvalidKind⟩)
    (cI_InvalidKind : PySem.W.codeIn K (.ref cda_InvalidKind) qual_InvalidKind = true)
    (lc_InvalidKind : K.lookup cda_InvalidKind = some ⟨ccl_InvalidKind, cdd_InvalidKind, .fields vs_InvalidKind, ccs_InvalidKind⟩)
    (v2_InvalidKind : vs_InvalidKind[2]? = some (.str file_InvalidKind tf_InvalidKind))
    (fl_InvalidKind : ((P.main.file : Str) == file_InvalidKind) = true)
    (ll_InvalidKind : K.lookup cc_InvalidKind = some ⟨cl_InvalidKind, cld_InvalidKind, .cell (some (.ref C_InvalidKind)), csl_InvalidKind⟩)
    (is_InvalidKind : PySem.W.isClsIn K C_InvalidKind = true)
    (ss_InvalidKind : PySem.W.subIn K (.ref C_InvalidKind) (.ref C_InvalidKind) = some true)
    (gC_TooMany : PySem.W.nsIn K mainGlobals "TooMany" = some (some (.ref C_TooMany)))
    (xL_TooMany : K.lookup C_TooMany = some (excClassObj nm_TooMany q_TooMany C_TooMany N_TooMany bs_TooMany bm_TooMany true sn_TooMany sub_TooMany ab_TooMany col_TooMany dd_TooMany k0_TooMany k1_TooMany k2_TooMany k3_TooMany k5_TooMany "ValueError.__new__"))
    (bm_ok_TooMany : PySem.HandSPX.refsVE bm_TooMany = true)
    (xi_TooMany : PySem.W.excInitIn K C_TooMany PySem.HandSPX.veTail "ValueError.__new__" = true)
    (sa_TooMany : PySem.W.findIn K (.ref C_TooMany) "__setattr__" = some (some (.builtin "object.__setattr__")))
    (ga_TooMany : PySem.W.findIn K (.ref C_TooMany) "__getattribute__" = some (some (.builtin "BaseException.__getattribute__")))
    (gg_TooMany : PySem.W.findIn K (.ref C_TooMany) "__getattr__" = some none)
    (nb_TooMany : PySem.W.findIn K (.ref C_TooMany) "what" = some none)
    (iC_TooMany : PySem.W.findIn K (.ref C_TooMany) "__init__" = some (some (.ref I_TooMany)))
    (tI_TooMany : PySem.W.typeIn K (.ref I_TooMany) = some (.type "function"))
    (kC_TooMany : PySem.W.keepIn K (.ref C_TooMany) = true)
    (eC_TooMany : PySem.W.subIn K (.ref C_TooMany) (.type "BaseException") = some true)
    (eV_TooMany : PySem.W.subIn K (.ref C_TooMany) (.type "ValueError") = some true)
    (sf_TooMany : PySem.W.mroIn K C_TooMany (.ref C_TooMany) = some true)
    (tC_TooMany : PySem.W.typeIn K (.ref C_TooMany) = some (.type "type"))
    (hC_TooMany : PySem.W.hasDictIn K C_TooMany = true)
    (su_TooMany : PySem.W.ks_superIn K C_TooMany C_TooMany "__init__" = some (some (.builtin "ValueError.__init__")))
    (lI_TooMany : K.lookup I_TooMany = some ⟨oc_TooMany, od_TooMany, .func (PySem.W.ksFn "__init__" qual_TooMany (defArgs (initOf (top 6))) (defBody (initOf (top 6))) (defScope (initOf (top 6))) .none .none doc_TooMany pm_TooMany an_TooMany (.ref cda_TooMany) ct_TooMany cc_TooMany), osl_TooMany⟩)
    (cI_TooMany : PySem.W.codeIn K (.ref cda_TooMany) qual_TooMany = true)
    (lc_TooMany : K.lookup cda_TooMany = some ⟨ccl_TooMany, cdd_TooMany, .fields vs_TooMany, ccs_TooMany⟩)
    (v2_TooMany : vs_TooMany[2]? = some (.str file_TooMany tf_TooMany))
    (fl_TooMany : ((P.main.file : Str) == file_TooMany) = true)
    (ll_TooMany : K.lookup cc_TooMany = some ⟨cl_TooMany, cld_TooMany, .cell (some (.ref C_TooMany)), csl_TooMany⟩)
    (is_TooMany : PySem.W.isClsIn K C_TooMany = true)
    (ss_TooMany : PySem.W.subIn K (.ref C_TooMany) (.ref C_TooMany) = some true)
    (na_InvalidWord_many : PySem.W.findIn K (.ref C_InvalidWord) "many" = some none)
    (ss_InvalidWord_InvalidSociety : PySem.W.subIn K (.ref C_InvalidWord) (.ref C_InvalidSociety) = some false)
    (ss_InvalidWord_InvalidKind : PySem.W.subIn K (.ref C_InvalidWord) (.ref C_InvalidKind) = some false)
    (ss_InvalidWord_TooMany : PySem.W.subIn K (.ref C_InvalidWord) (.ref C_TooMany) = some false)
    (na_InvalidSociety_many : PySem.W.findIn K (.ref C_InvalidSociety) "many" = some none)
    (ss_InvalidSociety_InvalidWord : PySem.W.subIn K (.ref C_InvalidSociety) (.ref C_InvalidWord) = some false)
    (ss_InvalidSociety_InvalidKind : PySem.W.subIn K (.ref C_InvalidSociety) (.ref C_InvalidKind) = some false)
    (ss_InvalidSociety_TooMany : PySem.W.subIn K (.ref C_InvalidSociety) (.ref C_TooMany) = some false)
    (na_InvalidKind_many : PySem.W.findIn K (.ref C_InvalidKind) "many" = some none)
    (ss_InvalidKind_InvalidWord : PySem.W.subIn K (.ref C_InvalidKind) (.ref C_InvalidWord) = some false)
    (ss_InvalidKind_InvalidSociety : PySem.W.subIn K (.ref C_InvalidKind) (.ref C_InvalidSociety) = some false)
    (ss_InvalidKind_TooMany : PySem.W.subIn K (.ref C_InvalidKind) (.ref C_TooMany) = some false)
    (na_TooMany_many : PySem.W.findIn K (.ref C_TooMany) "many" = some none)
    (ss_TooMany_InvalidWord : PySem.W.subIn K (.ref C_TooMany) (.ref C_InvalidWord) = some false)
    (ss_TooMany_InvalidSociety : PySem.W.subIn K (.ref C_TooMany) (.ref C_InvalidSociety) = some false)
    (ss_TooMany_InvalidKind : PySem.W.subIn K (.ref C_TooMany) (.ref C_InvalidKind) = some false)
    (tp : (P.main.scope.names.lookup ("super" : Str)).isSome = false)
    (at_LETTERS : PySem.W.nsIn K mainGlobals "LETTERS" = some (some (.str "ABab" tk_LETTERS)))
    (at_MOST_LETTERS : PySem.W.nsIn K mainGlobals "MOST_LETTERS" = some (some (.int (1000) tk_MOST_LETTERS)))
    (at_MOST_CLASSES : PySem.W.nsIn K mainGlobals "MOST_CLASSES" = some (some (.int (400) tk_MOST_CLASSES)))
    (hm : ∀ ns : List Int, ns.length ≤ 63 → ∃ cs, F_law [.va (.lsx (ns.map D.int))] = .ok (.bl true) cs) :
    ∃ fd : FuncData, (∀ (s : Shared) (v : Value), BindsTo s fd ⟨[v], []⟩ [("script", v)]) ∧ ∀ base : Heap, K.In base → base.Ns mainGlobals mg → FnOk P w K mg base (L2.CX P w) 12 fa fd ["script"] (spTop K) := by
  have e := hfa.symm.trans (PySem.W.mg_of X G a_law)
  cases e
  have T : Tx P w K mg ⟨f_is_whole_number, f_is_class_word, f_check_class_word, f_is_order, f_turned_back, f_check_class, f_tupled, f_is_ring, f_check_ring, f_is_seat, f_shifted, f_ring_led, f_ring_society, f_law_deck, f_law_take, f_law_letters, f_law_pair, f_law_shifted, f_law_one, f_law_refusal, fa, f_Society___init__, f_Society_led, f_Society_walked, C_InvalidWord, C_InvalidSociety, C_InvalidKind, C_TooMany, I_InvalidWord, I_InvalidSociety, I_InvalidKind, I_TooMany⟩ := {
    z_abs := PySem.W.mg_none_of X G z_abs
    z_all := PySem.W.mg_none_of X G z_all
    z_bool := PySem.W.mg_none_of X G z_bool
    z_divmod := PySem.W.mg_none_of X G z_divmod
    z_enumerate := PySem.W.mg_none_of X G z_enumerate
    z_int := PySem.W.mg_none_of X G z_int
    z_isinstance := PySem.W.mg_none_of X G z_isinstance
    z_len := PySem.W.mg_none_of X G z_len
    z_list := PySem.W.mg_none_of X G z_list
    z_min := PySem.W.mg_none_of X G z_min
    z_range := PySem.W.mg_none_of X G z_range
    z_sorted := PySem.W.mg_none_of X G z_sorted
    z_str := PySem.W.mg_none_of X G z_str
    z_tuple := PySem.W.mg_none_of X G z_tuple
    g_is_whole_number := PySem.W.mg_of X G a_is_whole_number
    d_is_whole_number := ⟨_, fun_mk (st := s_is_whole_number) l_is_whole_number c_is_whole_number k_is_whole_number, (fun_mk (st := s_is_whole_number) l_is_whole_number c_is_whole_number k_is_whole_number).binds (ps := P_is_whole_number) fun _ _ _ _ _ _ us hl => match us, hl with | [_], _ => rfl⟩
    g_is_class_word := PySem.W.mg_of X G a_is_class_word
    d_is_class_word := ⟨_, fun_mk (st := s_is_class_word) l_is_class_word c_is_class_word k_is_class_word, (fun_mk (st := s_is_class_word) l_is_class_word c_is_class_word k_is_class_word).binds (ps := P_is_class_word) fun _ _ _ _ _ _ us hl => match us, hl with | [_], _ => rfl⟩
    g_check_class_word := PySem.W.mg_of X G a_check_class_word
    d_check_class_word := ⟨_, fun_mk (st := s_check_class_word) l_check_class_word c_check_class_word k_check_class_word, (fun_mk (st := s_check_class_word) l_check_class_word c_check_class_word k_check_class_word).binds (ps := P_check_class_word) fun _ _ _ _ _ _ us hl => match us, hl with | [_], _ => rfl⟩
    g_is_order := PySem.W.mg_of X G a_is_order
    d_is_order := ⟨_, fun_mk (st := s_is_order) l_is_order c_is_order k_is_order, (fun_mk (st := s_is_order) l_is_order c_is_order k_is_order).binds (ps := P_is_order) fun _ _ _ _ _ _ us hl => match us, hl with | [_, _], _ => rfl⟩
    g_turned_back := PySem.W.mg_of X G a_turned_back
    d_turned_back := ⟨_, fun_mk (st := s_turned_back) l_turned_back c_turned_back k_turned_back, (fun_mk (st := s_turned_back) l_turned_back c_turned_back k_turned_back).binds (ps := P_turned_back) fun _ _ _ _ _ _ us hl => match us, hl with | [_], _ => rfl⟩
    g_check_class := PySem.W.mg_of X G a_check_class
    d_check_class := ⟨_, fun_mk (st := s_check_class) l_check_class c_check_class k_check_class, (fun_mk (st := s_check_class) l_check_class c_check_class k_check_class).binds (ps := P_check_class) fun _ _ _ _ _ _ us hl => match us, hl with | [_, _], _ => rfl⟩
    g_tupled := PySem.W.mg_of X G a_tupled
    d_tupled := ⟨_, fun_mk (st := s_tupled) l_tupled c_tupled k_tupled, (fun_mk (st := s_tupled) l_tupled c_tupled k_tupled).binds (ps := P_tupled) fun _ _ _ _ _ _ us hl => match us, hl with | [_], _ => rfl⟩
    g_is_ring := PySem.W.mg_of X G a_is_ring
    d_is_ring := ⟨_, fun_mk (st := s_is_ring) l_is_ring c_is_ring k_is_ring, (fun_mk (st := s_is_ring) l_is_ring c_is_ring k_is_ring).binds (ps := P_is_ring) fun _ _ _ _ _ _ us hl => match us, hl with | [_], _ => rfl⟩
    g_check_ring := PySem.W.mg_of X G a_check_ring
    d_check_ring := ⟨_, fun_mk (st := s_check_ring) l_check_ring c_check_ring k_check_ring, (fun_mk (st := s_check_ring) l_check_ring c_check_ring k_check_ring).binds (ps := P_check_ring) fun _ _ _ _ _ _ us hl => match us, hl with | [_], _ => rfl⟩
    g_is_seat := PySem.W.mg_of X G a_is_seat
    d_is_seat := ⟨_, fun_mk (st := s_is_seat) l_is_seat c_is_seat k_is_seat, (fun_mk (st := s_is_seat) l_is_seat c_is_seat k_is_seat).binds (ps := P_is_seat) fun _ _ _ _ _ _ us hl => match us, hl with | [_, _], _ => rfl⟩
    g_shifted := PySem.W.mg_of X G a_shifted
    d_shifted := ⟨_, fun_mk (st := s_shifted) l_shifted c_shifted k_shifted, (fun_mk (st := s_shifted) l_shifted c_shifted k_shifted).binds (ps := P_shifted) fun _ _ _ _ _ _ us hl => match us, hl with | [_, _, _], _ => rfl⟩
    g_ring_led := PySem.W.mg_of X G a_ring_led
    d_ring_led := ⟨_, fun_mk (st := s_ring_led) l_ring_led c_ring_led k_ring_led, (fun_mk (st := s_ring_led) l_ring_led c_ring_led k_ring_led).binds (ps := P_ring_led) fun _ _ _ _ _ _ us hl => match us, hl with | [_, _, _], _ => rfl⟩
    g_ring_society := PySem.W.mg_of X G a_ring_society
    d_ring_society := ⟨_, fun_mk (st := s_ring_society) l_ring_society c_ring_society k_ring_society, (fun_mk (st := s_ring_society) l_ring_society c_ring_society k_ring_society).binds (ps := P_ring_society) fun _ _ _ _ _ _ us hl => match us, hl with | [_], _ => rfl⟩
    g_law_deck := PySem.W.mg_of X G a_law_deck
    d_law_deck := ⟨_, fun_mk (st := s_law_deck) l_law_deck c_law_deck k_law_deck, (fun_mk (st := s_law_deck) l_law_deck c_law_deck k_law_deck).binds (ps := P_law_deck) fun _ _ _ _ _ _ us hl => match us, hl with | [_, _, _], _ => rfl⟩
    g_law_take := PySem.W.mg_of X G a_law_take
    d_law_take := ⟨_, fun_mk (st := s_law_take) l_law_take c_law_take k_law_take, (fun_mk (st := s_law_take) l_law_take c_law_take k_law_take).binds (ps := P_law_take) fun _ _ _ _ _ _ us hl => match us, hl with | [_, _], _ => rfl⟩
    g_law_letters := PySem.W.mg_of X G a_law_letters
    d_law_letters := ⟨_, fun_mk (st := s_law_letters) l_law_letters c_law_letters k_law_letters, (fun_mk (st := s_law_letters) l_law_letters c_law_letters k_law_letters).binds (ps := P_law_letters) fun _ _ _ _ _ _ us hl => match us, hl with | [_, _], _ => rfl⟩
    g_law_pair := PySem.W.mg_of X G a_law_pair
    d_law_pair := ⟨_, fun_mk (st := s_law_pair) l_law_pair c_law_pair k_law_pair, (fun_mk (st := s_law_pair) l_law_pair c_law_pair k_law_pair).binds (ps := P_law_pair) fun _ _ _ _ _ _ us hl => match us, hl with | [_], _ => rfl⟩
    g_law_shifted := PySem.W.mg_of X G a_law_shifted
    d_law_shifted := ⟨_, fun_mk (st := s_law_shifted) l_law_shifted c_law_shifted k_law_shifted, (fun_mk (st := s_law_shifted) l_law_shifted c_law_shifted k_law_shifted).binds (ps := P_law_shifted) fun _ _ _ _ _ _ us hl => match us, hl with | [_, _, _], _ => rfl⟩
    g_law_one := PySem.W.mg_of X G a_law_one
    d_law_one := ⟨_, fun_mk (st := s_law_one) l_law_one c_law_one k_law_one, (fun_mk (st := s_law_one) l_law_one c_law_one k_law_one).binds (ps := P_law_one) fun _ _ _ _ _ _ us hl => match us, hl with | [_, _, _], _ => rfl⟩
    g_law_refusal := PySem.W.mg_of X G a_law_refusal
    d_law_refusal := ⟨_, fun_mk (st := s_law_refusal) l_law_refusal c_law_refusal k_law_refusal, (fun_mk (st := s_law_refusal) l_law_refusal c_law_refusal k_law_refusal).binds (ps := P_law_refusal) fun _ _ _ _ _ _ us hl => match us, hl with | [_], _ => rfl⟩
    g_law := PySem.W.mg_of X G a_law
    d_law := ⟨_, fun_mk (st := s_law) l_law c_law k_law, (fun_mk (st := s_law) l_law c_law k_law).binds (ps := P_law) fun _ _ _ _ _ _ us hl => match us, hl with | [_], _ => rfl⟩
    mk_Society := ⟨_, aO_Society, PySem.W.mg_of X G aO_Society, ⟨mo_Society, a_Society___init__, i_Society___init__, ko_Society⟩⟩
    d_Society___init__ := ⟨_, fun_mk (st := s_Society___init__) l_Society___init__ c_Society___init__ k_Society___init__, (fun_mk (st := s_Society___init__) l_Society___init__ c_Society___init__ k_Society___init__).binds (ps := P_Society___init__) fun _ _ _ _ _ _ us hl => match us, hl with | [_, _, _], _ => rfl⟩
    mt_Society_led := methT_mk aO_Society pg_Society hd_Society po_Society so_Society a_Society_led i_Society_led k_Society_led
    d_Society_led := ⟨_, fun_mk (st := s_Society_led) l_Society_led c_Society_led k_Society_led, (fun_mk (st := s_Society_led) l_Society_led c_Society_led k_Society_led).binds (ps := P_Society_led) fun _ _ _ _ _ _ us hl => match us, hl with | [_, _, _], _ => rfl⟩
    mt_Society_walked := methT_mk aO_Society pg_Society hd_Society po_Society so_Society a_Society_walked i_Society_walked k_Society_walked
    d_Society_walked := ⟨_, fun_mk (st := s_Society_walked) l_Society_walked c_Society_walked k_Society_walked, (fun_mk (st := s_Society_walked) l_Society_walked c_Society_walked k_Society_walked).binds (ps := P_Society_walked) fun _ _ _ _ _ _ us hl => match us, hl with | [_, _, _], _ => rfl⟩
    ft := fun x hx => by
      unfold KL.K78.ft at hx
      repeat' (split at hx)
      · rename_i e; subst e; exact clsT_mk aO_Society pg_Society hd_Society po_Society so_Society (fun f hf => by unfold KL.K78.ft at hf; simp at hf; rcases hf with rfl | rfl | rfl | rfl <;> assumption)
      · exact absurd rfl hx
    n_InvalidWord_many := na_InvalidWord_many
    e_InvalidWord_InvalidSociety := exm_of eC_InvalidWord eC_InvalidSociety is_InvalidSociety tC_InvalidSociety ss_InvalidWord_InvalidSociety
    e_InvalidWord_InvalidKind := exm_of eC_InvalidWord eC_InvalidKind is_InvalidKind tC_InvalidKind ss_InvalidWord_InvalidKind
    e_InvalidWord_TooMany := exm_of eC_InvalidWord eC_TooMany is_TooMany tC_TooMany ss_InvalidWord_TooMany
    n_InvalidSociety_many := na_InvalidSociety_many
    e_InvalidSociety_InvalidWord := exm_of eC_InvalidSociety eC_InvalidWord is_InvalidWord tC_InvalidWord ss_InvalidSociety_InvalidWord
    e_InvalidSociety_InvalidKind := exm_of eC_InvalidSociety eC_InvalidKind is_InvalidKind tC_InvalidKind ss_InvalidSociety_InvalidKind
    e_InvalidSociety_TooMany := exm_of eC_InvalidSociety eC_TooMany is_TooMany tC_TooMany ss_InvalidSociety_TooMany
    n_InvalidKind_many := na_InvalidKind_many
    e_InvalidKind_InvalidWord := exm_of eC_InvalidKind eC_InvalidWord is_InvalidWord tC_InvalidWord ss_InvalidKind_InvalidWord
    e_InvalidKind_InvalidSociety := exm_of eC_InvalidKind eC_InvalidSociety is_InvalidSociety tC_InvalidSociety ss_InvalidKind_InvalidSociety
    e_InvalidKind_TooMany := exm_of eC_InvalidKind eC_TooMany is_TooMany tC_TooMany ss_InvalidKind_TooMany
    n_TooMany_many := na_TooMany_many
    e_TooMany_InvalidWord := exm_of eC_TooMany eC_InvalidWord is_InvalidWord tC_InvalidWord ss_TooMany_InvalidWord
    e_TooMany_InvalidSociety := exm_of eC_TooMany eC_InvalidSociety is_InvalidSociety tC_InvalidSociety ss_TooMany_InvalidSociety
    e_TooMany_InvalidKind := exm_of eC_TooMany eC_InvalidKind is_InvalidKind tC_InvalidKind ss_TooMany_InvalidKind
    x_InvalidWord := ⟨PySem.W.mg_of X G gC_InvalidWord, ⟨_, _, _, _, _, _, _, _, _, _, _, _, _, _, _, xL_InvalidWord, bm_ok_InvalidWord⟩, xi_InvalidWord, sa_InvalidWord, ga_InvalidWord, gg_InvalidWord, nb_InvalidWord, iC_InvalidWord, tI_InvalidWord, kC_InvalidWord, eC_InvalidWord, eV_InvalidWord, sf_InvalidWord, tC_InvalidWord, hC_InvalidWord, su_InvalidWord, PySem.W.mg_none_of X G gS, opq, tp,
      ⟨_, _, _, _, _, _, _, _, _, _, ⟨_, _, _, _⟩, ⟨_, _, _, _⟩, ⟨_, _, _, _⟩, ⟨_, _, _, _⟩, ⟨_, _, _, _⟩, ⟨_, _, _, _⟩, ⟨_, _, _, _⟩, ⟨_, _, _, _⟩, ⟨_, _, _, _⟩, ⟨_, _, _, _⟩, ⟨_, _, _, _⟩, ⟨_, _, _, _⟩, by decide, lI_InvalidWord, cI_InvalidWord, ⟨_, _, _, _, _, _, lc_InvalidWord, v2_InvalidWord, fl_InvalidWord⟩, _, _, _, ll_InvalidWord⟩⟩
    e_InvalidWord := exm_of eC_InvalidWord eC_InvalidWord is_InvalidWord tC_InvalidWord ss_InvalidWord
    x_InvalidSociety := ⟨PySem.W.mg_of X G gC_InvalidSociety, ⟨_, _, _, _, _, _, _, _, _, _, _, _, _, _, _, xL_InvalidSociety, bm_ok_InvalidSociety⟩, xi_InvalidSociety, sa_InvalidSociety, ga_InvalidSociety, gg_InvalidSociety, nb_InvalidSociety, iC_InvalidSociety, tI_InvalidSociety, kC_InvalidSociety, eC_InvalidSociety, eV_InvalidSociety, sf_InvalidSociety, tC_InvalidSociety, hC_InvalidSociety, su_InvalidSociety, PySem.W.mg_none_of X G gS, opq, tp,
      ⟨_, _, _, _, _, _, _, _, _, _, ⟨_, _, _, _⟩, ⟨_, _, _, _⟩, ⟨_, _, _, _⟩, ⟨_, _, _, _⟩, ⟨_, _, _, _⟩, ⟨_, _, _, _⟩, ⟨_, _, _, _⟩, ⟨_, _, _, _⟩, ⟨_, _, _, _⟩, ⟨_, _, _, _⟩, ⟨_, _, _, _⟩, ⟨_, _, _, _⟩, by decide, lI_InvalidSociety, cI_InvalidSociety, ⟨_, _, _, _, _, _, lc_InvalidSociety, v2_InvalidSociety, fl_InvalidSociety⟩, _, _, _, ll_InvalidSociety⟩⟩
    e_InvalidSociety := exm_of eC_InvalidSociety eC_InvalidSociety is_InvalidSociety tC_InvalidSociety ss_InvalidSociety
    x_InvalidKind := ⟨PySem.W.mg_of X G gC_InvalidKind, ⟨_, _, _, _, _, _, _, _, _, _, _, _, _, _, _, xL_InvalidKind, bm_ok_InvalidKind⟩, xi_InvalidKind, sa_InvalidKind, ga_InvalidKind, gg_InvalidKind, nb_InvalidKind, iC_InvalidKind, tI_InvalidKind, kC_InvalidKind, eC_InvalidKind, eV_InvalidKind, sf_InvalidKind, tC_InvalidKind, hC_InvalidKind, su_InvalidKind, PySem.W.mg_none_of X G gS, opq, tp,
      ⟨_, _, _, _, _, _, _, _, _, _, ⟨_, _, _, _⟩, ⟨_, _, _, _⟩, ⟨_, _, _, _⟩, ⟨_, _, _, _⟩, ⟨_, _, _, _⟩, ⟨_, _, _, _⟩, ⟨_, _, _, _⟩, ⟨_, _, _, _⟩, ⟨_, _, _, _⟩, ⟨_, _, _, _⟩, ⟨_, _, _, _⟩, ⟨_, _, _, _⟩, by decide, lI_InvalidKind, cI_InvalidKind, ⟨_, _, _, _, _, _, lc_InvalidKind, v2_InvalidKind, fl_InvalidKind⟩, _, _, _, ll_InvalidKind⟩⟩
    e_InvalidKind := exm_of eC_InvalidKind eC_InvalidKind is_InvalidKind tC_InvalidKind ss_InvalidKind
    x_TooMany := ⟨PySem.W.mg_of X G gC_TooMany, ⟨_, _, _, _, _, _, _, _, _, _, _, _, _, _, _, xL_TooMany, bm_ok_TooMany⟩, xi_TooMany, sa_TooMany, ga_TooMany, gg_TooMany, nb_TooMany, na_TooMany_many, iC_TooMany, tI_TooMany, kC_TooMany, eC_TooMany, eV_TooMany, sf_TooMany, tC_TooMany, hC_TooMany, su_TooMany, PySem.W.mg_none_of X G gS, opq, tp,
      ⟨_, _, _, _, _, _, _, _, _, _, ⟨_, _, _, _⟩, ⟨_, _, _, _⟩, ⟨_, _, _, _⟩, ⟨_, _, _, _⟩, ⟨_, _, _, _⟩, ⟨_, _, _, _⟩, ⟨_, _, _, _⟩, ⟨_, _, _, _⟩, ⟨_, _, _, _⟩, ⟨_, _, _, _⟩, ⟨_, _, _, _⟩, ⟨_, _, _, _⟩, ⟨_, _, _, _⟩, ⟨_, _, _, _⟩, ⟨_, _, _, _⟩, ⟨_, _, _, _⟩, ⟨_, _, _, _⟩, by decide, lI_TooMany, cI_TooMany, ⟨_, _, _, _, _, _, lc_TooMany, v2_TooMany, fl_TooMany⟩, _, _, _, ll_TooMany⟩⟩
    e_TooMany := exm_of eC_TooMany eC_TooMany is_TooMany tC_TooMany ss_TooMany
    t_LETTERS := ⟨_, PySem.W.mg_of X G at_LETTERS⟩
    t_MOST_LETTERS := ⟨_, PySem.W.mg_of X G at_MOST_LETTERS⟩
    t_MOST_CLASSES := ⟨_, PySem.W.mg_of X G at_MOST_CLASSES⟩
  }
  exact ⟨PySem.W.fnOf "law" "law" (defArgs s_law) (defBody s_law) (defScope s_law) .none kV_law dc_law pm_law an_law cd_law ct_law, fun s v => .of_eq rfl, fun base _ _ => (fn_law T (fun_mk (st := s_law) l_law c_law k_law)).imp fun vs H Q E h => spTop_of hm vs H Q E h⟩
end K78
end KL
set_option exponentiation.threshold 100000
/-! k78: rings: one step. -/
namespace KL
namespace K78
open PySem L2 Cs
theorem hft : ft "Society" = (["size", "wives", "children", "moves"] : List Str) := by unfold ft; rw [if_pos rfl]
theorem t_word : F_check_class_word = Cs.F_check_class_word := rfl
theorem t_led : F_Society_led = Cs.F_Society_led ft := rfl
theorem t_init : F_Society___init__ = Cs.F_Society___init__ ft := rfl
theorem t_take : F_law_take = Cm.F_law_take := rfl
theorem t_deck : F_law_deck = Cm.F_law_deck := rfl
theorem t_whole : F_is_whole_number = Cs.F_is_whole_number := rfl
structure Rg (s m h : Int) : Prop where
  s1 : 1 ≤ s
  m1 : 1 ≤ m
  h0 : 0 ≤ h
  hs : h < s
  sb : s < 2 ^ 80
  mb : m < 2 ^ 80
abbrev rg (s m h : Int) : D := .tup [.int s, .int m, .int h]
abbrev p2 (q : Int × Int) : D := .tup [.int q.1, .int q.2]
theorem ix3_0 {a b c : D} : ixD (.tup [a, b, c]) (.int 0) = some a := nr rfl
theorem ix3_1 {a b c : D} : ixD (.tup [a, b, c]) (.int 1) = some b := nr rfl
theorem ix3_2 {a b c : D} : ixD (.tup [a, b, c]) (.int 2) = some c := nr rfl
theorem ix2_0 {a b : D} : ixD (.tup [a, b]) (.int 0) = some a := nr rfl
theorem ix2_1 {a b : D} : ixD (.tup [a, b]) (.int 1) = some b := nr rfl
theorem tupled_int {n : Nat} {i : Int} : G_tupled (n + 1) [.va (.int i)] = .ok (.int i) [.no] := rfl
theorem tupled_tup {n : Nat} {l : List Int} (h : l.length < 16777216) : G_tupled (n + 2) [.va (.tup (l.map D.int))] = .ok (.tup (l.map D.int)) [.no] := by
  have hc : lcM [1] (seqA (varM 0)) (tgN 1) (cst true) (callM (G_tupled (n + 1)) (aV (varM 1) (cst ([] : List Arg)))) [.va (.tup (l.map D.int)), .no] = .ok (l.map D.int) [.va (.tup (l.map D.int)), .no] := by
    rw [lcM_m D.int D.int (xs := l) (hi := by simp only [sq_, seq_nx, seq_rt, seq_rf, seq_bk, seq_ct, seq_ex, loop_nx, loop_rt, loop_rf, loop_bk, loop_ct, loop_ex, s_ok_, s_ex_, bind_ok_, bind_ex_, map_ok_, map_ex_, opt_some_, nox_ok_, gd_true_, exprS_, retS_, retFS_, setS_, setOS_, ifS_, forS_, opM_, varR_, asB_, truM_, notM_, andM_, orM_, call1_, lstE_, consM_, aV_, someM_, slM_, raiseM_, andV_, orV_, ifM_, rd_va, rd_ow, rd_pa, addD_int, subD_int, ltG_int, leG_int, gtG_int, geG_int, intD1_int, intD1_bl, absD_int, lenD_lst, lenD_lsx, lenD_tup, canC_no, canC_va, canC_ow, eqD_int, neD_int, eqD_str, neD_str, e_opV, e_varM, e_rdR, e_get0, e_getS, e_set0, e_setS, e_bind, e_cst, e_setM, e_setO, canSet_, e_tgN, e_tgT, e_tgsNil, e_tgsCons, e_asgM, e_parM, e_tupM, e_lstM, e_notV, e_negM, e_seqA, e_chainM, e_callF1, e_sm1M, e_enumM, e_getL, e_list_ow, e_list_pa, e_own_ow, e_own_pa, e_getO, e_setW, e_appendM, e_aO, e_callG, e_cells0, e_cellsV, e_cellsO, e_omap, e_slots0, e_slotsV, e_slotsO, e_nodup0, e_nodup1, e_toR_ok, e_toR_ex, e_toF_fr, e_toF_ex, e_backO, e_backV, e_back0, e_tru_int, e_tru_bl, e_stepC, e_range1M, e_augPutM, e_aug1, e_aug2, e_putL, e_revF, listF, tupD, e_wipe0, e_wipeS, e_rest0, e_restS, e_for0, e_nox, e_plain_no, e_plain_va, e_all0, e_allS, Bool.and_self, Bool.true_and, fin_nx, fin_rt, fin_rf, fin_ex, kpD_kpc, e_kpc0, e_kpcS, keepC_pa, keepC_va, keepC_ow, keepC_no, if_true, if_false, Bool.true_eq, Bool.false_eq_true, decide_true, List.length_cons, List.length_nil, and_self, Nat.reduceAdd, Nat.reduceSub, Nat.reduceLeDiff, Nat.reduceEqDiff, Int.reduceNeg, e_fldV, e_objOf_va, e_objOf_ow, e_objOf_pa, e_fldD, e_getS0, e_fldPutM, e_putFD0, e_putFDS, e_recvM, e_makeM, e_makeE, e_makeEx, e_dkIx, e_dispM, e_min2, e_max2, e_rg1F, e_rg2F, e_raiseM2, e_xfM, e_indexM, e_indexV, e_isiM, e_isisM, i_int_int, i_bool_int, i_str_str, i_tup_tup, i_tup_lst, i_lst_lst, i_lst_tup, is_lt_lst, is_lt_tup, is_lt_int, is_lt_str]; rfl) (hl := h) (hp := rfl) (h := fun x hx => ?_)]
    simp only [sq_, seq_nx, seq_rt, seq_rf, seq_bk, seq_ct, seq_ex, loop_nx, loop_rt, loop_rf, loop_bk, loop_ct, loop_ex, s_ok_, s_ex_, bind_ok_, bind_ex_, map_ok_, map_ex_, opt_some_, nox_ok_, gd_true_, exprS_, retS_, retFS_, setS_, setOS_, ifS_, forS_, opM_, varR_, asB_, truM_, notM_, andM_, orM_, call1_, lstE_, consM_, aV_, someM_, slM_, raiseM_, andV_, orV_, ifM_, rd_va, rd_ow, rd_pa, addD_int, subD_int, ltG_int, leG_int, gtG_int, geG_int, intD1_int, intD1_bl, absD_int, lenD_lst, lenD_lsx, lenD_tup, canC_no, canC_va, canC_ow, eqD_int, neD_int, eqD_str, neD_str, e_opV, e_varM, e_rdR, e_get0, e_getS, e_set0, e_setS, e_bind, e_cst, e_setM, e_setO, canSet_, e_tgN, e_tgT, e_tgsNil, e_tgsCons, e_asgM, e_parM, e_tupM, e_lstM, e_notV, e_negM, e_seqA, e_chainM, e_callF1, e_sm1M, e_enumM, e_getL, e_list_ow, e_list_pa, e_own_ow, e_own_pa, e_getO, e_setW, e_appendM, e_aO, e_callG, e_cells0, e_cellsV, e_cellsO, e_omap, e_slots0, e_slotsV, e_slotsO, e_nodup0, e_nodup1, e_toR_ok, e_toR_ex, e_toF_fr, e_toF_ex, e_backO, e_backV, e_back0, e_tru_int, e_tru_bl, e_stepC, e_range1M, e_augPutM, e_aug1, e_aug2, e_putL, e_revF, listF, tupD, e_wipe0, e_wipeS, e_rest0, e_restS, e_for0, e_nox, e_plain_no, e_plain_va, e_all0, e_allS, Bool.and_self, Bool.true_and, fin_nx, fin_rt, fin_rf, fin_ex, kpD_kpc, e_kpc0, e_kpcS, keepC_pa, keepC_va, keepC_ow, keepC_no, if_true, if_false, Bool.true_eq, Bool.false_eq_true, decide_true, List.length_cons, List.length_nil, and_self, Nat.reduceAdd, Nat.reduceSub, Nat.reduceLeDiff, Nat.reduceEqDiff, Int.reduceNeg, e_fldV, e_objOf_va, e_objOf_ow, e_objOf_pa, e_fldD, e_getS0, e_fldPutM, e_putFD0, e_putFDS, e_recvM, e_makeM, e_makeE, e_makeEx, e_dkIx, e_dispM, e_min2, e_max2, e_rg1F, e_rg2F, e_raiseM2, e_xfM, e_indexM, e_indexV, e_isiM, e_isisM, i_int_int, i_bool_int, i_str_str, i_tup_tup, i_tup_lst, i_lst_lst, i_lst_tup, is_lt_lst, is_lt_tup, is_lt_int, is_lt_str, tupled_int]
  show bodyF 1 2 (m_tupled (G_tupled (n + 1))) _ = _
  rw [bodyF_]
  show (m_tupled (G_tupled (n + 1)) [.va (.tup (l.map D.int)), .no]).fin 1 = _
  unfold m_tupled
  simp only [sq_, seq_nx, seq_rt, seq_rf, seq_bk, seq_ct, seq_ex, loop_nx, loop_rt, loop_rf, loop_bk, loop_ct, loop_ex, s_ok_, s_ex_, bind_ok_, bind_ex_, map_ok_, map_ex_, opt_some_, nox_ok_, gd_true_, exprS_, retS_, retFS_, setS_, setOS_, ifS_, forS_, opM_, varR_, asB_, truM_, notM_, andM_, orM_, call1_, lstE_, consM_, aV_, someM_, slM_, raiseM_, andV_, orV_, ifM_, rd_va, rd_ow, rd_pa, addD_int, subD_int, ltG_int, leG_int, gtG_int, geG_int, intD1_int, intD1_bl, absD_int, lenD_lst, lenD_lsx, lenD_tup, canC_no, canC_va, canC_ow, eqD_int, neD_int, eqD_str, neD_str, e_opV, e_varM, e_rdR, e_get0, e_getS, e_set0, e_setS, e_bind, e_cst, e_setM, e_setO, canSet_, e_tgN, e_tgT, e_tgsNil, e_tgsCons, e_asgM, e_parM, e_tupM, e_lstM, e_notV, e_negM, e_seqA, e_chainM, e_callF1, e_sm1M, e_enumM, e_getL, e_list_ow, e_list_pa, e_own_ow, e_own_pa, e_getO, e_setW, e_appendM, e_aO, e_callG, e_cells0, e_cellsV, e_cellsO, e_omap, e_slots0, e_slotsV, e_slotsO, e_nodup0, e_nodup1, e_toR_ok, e_toR_ex, e_toF_fr, e_toF_ex, e_backO, e_backV, e_back0, e_tru_int, e_tru_bl, e_stepC, e_range1M, e_augPutM, e_aug1, e_aug2, e_putL, e_revF, listF, tupD, e_wipe0, e_wipeS, e_rest0, e_restS, e_for0, e_nox, e_plain_no, e_plain_va, e_all0, e_allS, Bool.and_self, Bool.true_and, fin_nx, fin_rt, fin_rf, fin_ex, kpD_kpc, e_kpc0, e_kpcS, keepC_pa, keepC_va, keepC_ow, keepC_no, if_true, if_false, Bool.true_eq, Bool.false_eq_true, decide_true, List.length_cons, List.length_nil, and_self, Nat.reduceAdd, Nat.reduceSub, Nat.reduceLeDiff, Nat.reduceEqDiff, Int.reduceNeg, e_fldV, e_objOf_va, e_objOf_ow, e_objOf_pa, e_fldD, e_getS0, e_fldPutM, e_putFD0, e_putFDS, e_recvM, e_makeM, e_makeE, e_makeEx, e_dkIx, e_dispM, e_min2, e_max2, e_rg1F, e_rg2F, e_raiseM2, e_xfM, e_indexM, e_indexV, e_isiM, e_isisM, i_int_int, i_bool_int, i_str_str, i_tup_tup, i_tup_lst, i_lst_lst, i_lst_tup, is_lt_lst, is_lt_tup, is_lt_int, is_lt_str, Option.map_some, hc]
theorem tupled3 {a b c : Int} : F_tupled [.va (.tup [.int a, .int b, .int c])] = .ok (.tup [.int a, .int b, .int c]) [.no] := tupled_tup (n := 6) (l := [a, b, c]) (by simp)
theorem tupled2 {a b : Int} : F_tupled [.va (.tup [.int a, .int b])] = .ok (.tup [.int a, .int b]) [.no] := tupled_tup (n := 6) (l := [a, b]) (by simp)
theorem is_ring_ok {s m h : Int} (R : Rg s m h) : F_is_ring [.va (rg s m h)] = .ok (.bl true) [.no] := by
  have hc : lcM [1] (seqA (varM 0)) (tgN 1) (notM (truM (callM F_is_whole_number (aV (varM 1) (cst ([] : List Arg)))))) (varM 1) [.va (rg s m h), .no] = .ok [] [.va (rg s m h), .no] := by
    rw [lcM_f D.int (fun _ => false) D.int (xs := [s, m, h]) (hi := by simp only [sq_, seq_nx, seq_rt, seq_rf, seq_bk, seq_ct, seq_ex, loop_nx, loop_rt, loop_rf, loop_bk, loop_ct, loop_ex, s_ok_, s_ex_, bind_ok_, bind_ex_, map_ok_, map_ex_, opt_some_, nox_ok_, gd_true_, exprS_, retS_, retFS_, setS_, setOS_, ifS_, forS_, opM_, varR_, asB_, truM_, notM_, andM_, orM_, call1_, lstE_, consM_, aV_, someM_, slM_, raiseM_, andV_, orV_, ifM_, rd_va, rd_ow, rd_pa, addD_int, subD_int, ltG_int, leG_int, gtG_int, geG_int, intD1_int, intD1_bl, absD_int, lenD_lst, lenD_lsx, lenD_tup, canC_no, canC_va, canC_ow, eqD_int, neD_int, eqD_str, neD_str, e_opV, e_varM, e_rdR, e_get0, e_getS, e_set0, e_setS, e_bind, e_cst, e_setM, e_setO, canSet_, e_tgN, e_tgT, e_tgsNil, e_tgsCons, e_asgM, e_parM, e_tupM, e_lstM, e_notV, e_negM, e_seqA, e_chainM, e_callF1, e_sm1M, e_enumM, e_getL, e_list_ow, e_list_pa, e_own_ow, e_own_pa, e_getO, e_setW, e_appendM, e_aO, e_callG, e_cells0, e_cellsV, e_cellsO, e_omap, e_slots0, e_slotsV, e_slotsO, e_nodup0, e_nodup1, e_toR_ok, e_toR_ex, e_toF_fr, e_toF_ex, e_backO, e_backV, e_back0, e_tru_int, e_tru_bl, e_stepC, e_range1M, e_augPutM, e_aug1, e_aug2, e_putL, e_revF, listF, tupD, e_wipe0, e_wipeS, e_rest0, e_restS, e_for0, e_nox, e_plain_no, e_plain_va, e_all0, e_allS, Bool.and_self, Bool.true_and, fin_nx, fin_rt, fin_rf, fin_ex, kpD_kpc, e_kpc0, e_kpcS, keepC_pa, keepC_va, keepC_ow, keepC_no, if_true, if_false, Bool.true_eq, Bool.false_eq_true, decide_true, List.length_cons, List.length_nil, and_self, Nat.reduceAdd, Nat.reduceSub, Nat.reduceLeDiff, Nat.reduceEqDiff, Int.reduceNeg, e_fldV, e_objOf_va, e_objOf_ow, e_objOf_pa, e_fldD, e_getS0, e_fldPutM, e_putFD0, e_putFDS, e_recvM, e_makeM, e_makeE, e_makeEx, e_dkIx, e_dispM, e_min2, e_max2, e_rg1F, e_rg2F, e_raiseM2, e_xfM, e_indexM, e_indexV, e_isiM, e_isisM, i_int_int, i_bool_int, i_str_str, i_tup_tup, i_tup_lst, i_lst_lst, i_lst_tup, is_lt_lst, is_lt_tup, is_lt_int, is_lt_str]; rfl) (hl := by simp) (hp := rfl) (h := fun x hx => ?_)]
    · rfl
    · simp only [sq_, seq_nx, seq_rt, seq_rf, seq_bk, seq_ct, seq_ex, loop_nx, loop_rt, loop_rf, loop_bk, loop_ct, loop_ex, s_ok_, s_ex_, bind_ok_, bind_ex_, map_ok_, map_ex_, opt_some_, nox_ok_, gd_true_, exprS_, retS_, retFS_, setS_, setOS_, ifS_, forS_, opM_, varR_, asB_, truM_, notM_, andM_, orM_, call1_, lstE_, consM_, aV_, someM_, slM_, raiseM_, andV_, orV_, ifM_, rd_va, rd_ow, rd_pa, addD_int, subD_int, ltG_int, leG_int, gtG_int, geG_int, intD1_int, intD1_bl, absD_int, lenD_lst, lenD_lsx, lenD_tup, canC_no, canC_va, canC_ow, eqD_int, neD_int, eqD_str, neD_str, e_opV, e_varM, e_rdR, e_get0, e_getS, e_set0, e_setS, e_bind, e_cst, e_setM, e_setO, canSet_, e_tgN, e_tgT, e_tgsNil, e_tgsCons, e_asgM, e_parM, e_tupM, e_lstM, e_notV, e_negM, e_seqA, e_chainM, e_callF1, e_sm1M, e_enumM, e_getL, e_list_ow, e_list_pa, e_own_ow, e_own_pa, e_getO, e_setW, e_appendM, e_aO, e_callG, e_cells0, e_cellsV, e_cellsO, e_omap, e_slots0, e_slotsV, e_slotsO, e_nodup0, e_nodup1, e_toR_ok, e_toR_ex, e_toF_fr, e_toF_ex, e_backO, e_backV, e_back0, e_tru_int, e_tru_bl, e_stepC, e_range1M, e_augPutM, e_aug1, e_aug2, e_putL, e_revF, listF, tupD, e_wipe0, e_wipeS, e_rest0, e_restS, e_for0, e_nox, e_plain_no, e_plain_va, e_all0, e_allS, Bool.and_self, Bool.true_and, fin_nx, fin_rt, fin_rf, fin_ex, kpD_kpc, e_kpc0, e_kpcS, keepC_pa, keepC_va, keepC_ow, keepC_no, if_true, if_false, Bool.true_eq, Bool.false_eq_true, decide_true, List.length_cons, List.length_nil, and_self, Nat.reduceAdd, Nat.reduceSub, Nat.reduceLeDiff, Nat.reduceEqDiff, Int.reduceNeg, e_fldV, e_objOf_va, e_objOf_ow, e_objOf_pa, e_fldD, e_getS0, e_fldPutM, e_putFD0, e_putFDS, e_recvM, e_makeM, e_makeE, e_makeEx, e_dkIx, e_dispM, e_min2, e_max2, e_rg1F, e_rg2F, e_raiseM2, e_xfM, e_indexM, e_indexV, e_isiM, e_isisM, i_int_int, i_bool_int, i_str_str, i_tup_tup, i_tup_lst, i_lst_lst, i_lst_tup, is_lt_lst, is_lt_tup, is_lt_int, is_lt_str, t_whole, whole_int, Bool.not_true]
  unfold F_is_ring
  rw [bodyF_]
  show (m_is_ring [.va (rg s m h), .no]).fin 1 = _
  unfold m_is_ring
  have t0 : truD (.lst []) = some false := rfl
  have n3 : neD (.int (([D.int s, .int m, .int h].length : Nat) : Int)) (.int 3) = some (.bl false) := rfl
  have n3' : neD (.int ((3 : Nat) : Int)) (.int 3) = some (.bl false) := rfl
  simp only [sq_, seq_nx, seq_rt, seq_rf, seq_bk, seq_ct, seq_ex, loop_nx, loop_rt, loop_rf, loop_bk, loop_ct, loop_ex, s_ok_, s_ex_, bind_ok_, bind_ex_, map_ok_, map_ex_, opt_some_, nox_ok_, gd_true_, exprS_, retS_, retFS_, setS_, setOS_, ifS_, forS_, opM_, varR_, asB_, truM_, notM_, andM_, orM_, call1_, lstE_, consM_, aV_, someM_, slM_, raiseM_, andV_, orV_, ifM_, rd_va, rd_ow, rd_pa, addD_int, subD_int, ltG_int, leG_int, gtG_int, geG_int, intD1_int, intD1_bl, absD_int, lenD_lst, lenD_lsx, lenD_tup, canC_no, canC_va, canC_ow, eqD_int, neD_int, eqD_str, neD_str, e_opV, e_varM, e_rdR, e_get0, e_getS, e_set0, e_setS, e_bind, e_cst, e_setM, e_setO, canSet_, e_tgN, e_tgT, e_tgsNil, e_tgsCons, e_asgM, e_parM, e_tupM, e_lstM, e_notV, e_negM, e_seqA, e_chainM, e_callF1, e_sm1M, e_enumM, e_getL, e_list_ow, e_list_pa, e_own_ow, e_own_pa, e_getO, e_setW, e_appendM, e_aO, e_callG, e_cells0, e_cellsV, e_cellsO, e_omap, e_slots0, e_slotsV, e_slotsO, e_nodup0, e_nodup1, e_toR_ok, e_toR_ex, e_toF_fr, e_toF_ex, e_backO, e_backV, e_back0, e_tru_int, e_tru_bl, e_stepC, e_range1M, e_augPutM, e_aug1, e_aug2, e_putL, e_revF, listF, tupD, e_wipe0, e_wipeS, e_rest0, e_restS, e_for0, e_nox, e_plain_no, e_plain_va, e_all0, e_allS, Bool.and_self, Bool.true_and, fin_nx, fin_rt, fin_rf, fin_ex, kpD_kpc, e_kpc0, e_kpcS, keepC_pa, keepC_va, keepC_ow, keepC_no, if_true, if_false, Bool.true_eq, Bool.false_eq_true, decide_true, List.length_cons, List.length_nil, and_self, Nat.reduceAdd, Nat.reduceSub, Nat.reduceLeDiff, Nat.reduceEqDiff, Int.reduceNeg, e_fldV, e_objOf_va, e_objOf_ow, e_objOf_pa, e_fldD, e_getS0, e_fldPutM, e_putFD0, e_putFDS, e_recvM, e_makeM, e_makeE, e_makeEx, e_dkIx, e_dispM, e_min2, e_max2, e_rg1F, e_rg2F, e_raiseM2, e_xfM, e_indexM, e_indexV, e_isiM, e_isisM, i_int_int, i_bool_int, i_str_str, i_tup_tup, i_tup_lst, i_lst_lst, i_lst_tup, is_lt_lst, is_lt_tup, is_lt_int, is_lt_str, Option.map_some, Bool.not_true, Bool.not_false, hc, t0, n3, n3', ix3_0, ix3_1, ix3_2, R.s1, R.m1, R.h0, R.hs]
theorem check_ring_ok {s m h : Int} (R : Rg s m h) : F_check_ring [.va (rg s m h)] = .ok .non [.no] := by
  unfold F_check_ring
  rw [bodyF_]
  show (m_check_ring [.va (rg s m h)]).fin 1 = _
  unfold m_check_ring
  simp only [sq_, seq_nx, seq_rt, seq_rf, seq_bk, seq_ct, seq_ex, loop_nx, loop_rt, loop_rf, loop_bk, loop_ct, loop_ex, s_ok_, s_ex_, bind_ok_, bind_ex_, map_ok_, map_ex_, opt_some_, nox_ok_, gd_true_, exprS_, retS_, retFS_, setS_, setOS_, ifS_, forS_, opM_, varR_, asB_, truM_, notM_, andM_, orM_, call1_, lstE_, consM_, aV_, someM_, slM_, raiseM_, andV_, orV_, ifM_, rd_va, rd_ow, rd_pa, addD_int, subD_int, ltG_int, leG_int, gtG_int, geG_int, intD1_int, intD1_bl, absD_int, lenD_lst, lenD_lsx, lenD_tup, canC_no, canC_va, canC_ow, eqD_int, neD_int, eqD_str, neD_str, e_opV, e_varM, e_rdR, e_get0, e_getS, e_set0, e_setS, e_bind, e_cst, e_setM, e_setO, canSet_, e_tgN, e_tgT, e_tgsNil, e_tgsCons, e_asgM, e_parM, e_tupM, e_lstM, e_notV, e_negM, e_seqA, e_chainM, e_callF1, e_sm1M, e_enumM, e_getL, e_list_ow, e_list_pa, e_own_ow, e_own_pa, e_getO, e_setW, e_appendM, e_aO, e_callG, e_cells0, e_cellsV, e_cellsO, e_omap, e_slots0, e_slotsV, e_slotsO, e_nodup0, e_nodup1, e_toR_ok, e_toR_ex, e_toF_fr, e_toF_ex, e_backO, e_backV, e_back0, e_tru_int, e_tru_bl, e_stepC, e_range1M, e_augPutM, e_aug1, e_aug2, e_putL, e_revF, listF, tupD, e_wipe0, e_wipeS, e_rest0, e_restS, e_for0, e_nox, e_plain_no, e_plain_va, e_all0, e_allS, Bool.and_self, Bool.true_and, fin_nx, fin_rt, fin_rf, fin_ex, kpD_kpc, e_kpc0, e_kpcS, keepC_pa, keepC_va, keepC_ow, keepC_no, if_true, if_false, Bool.true_eq, Bool.false_eq_true, decide_true, List.length_cons, List.length_nil, and_self, Nat.reduceAdd, Nat.reduceSub, Nat.reduceLeDiff, Nat.reduceEqDiff, Int.reduceNeg, e_fldV, e_objOf_va, e_objOf_ow, e_objOf_pa, e_fldD, e_getS0, e_fldPutM, e_putFD0, e_putFDS, e_recvM, e_makeM, e_makeE, e_makeEx, e_dkIx, e_dispM, e_min2, e_max2, e_rg1F, e_rg2F, e_raiseM2, e_xfM, e_indexM, e_indexV, e_isiM, e_isisM, i_int_int, i_bool_int, i_str_str, i_tup_tup, i_tup_lst, i_lst_lst, i_lst_tup, is_lt_lst, is_lt_tup, is_lt_int, is_lt_str, is_ring_ok R, Bool.not_true]
theorem is_seat_ok {s m h r p : Int} (r0 : 0 ≤ r) (rm : r < m) (p0 : 0 ≤ p) (ps : p < s) : F_is_seat [.va (rg s m h), .va (p2 (r, p))] = .ok (.bl true) [.no, .no] := by
  have hc : lcM [2] (seqA (varM 1)) (tgN 2) (notM (truM (callM F_is_whole_number (aV (varM 2) (cst ([] : List Arg)))))) (varM 2) [.va (rg s m h), .va (p2 (r, p)), .no] = .ok [] [.va (rg s m h), .va (p2 (r, p)), .no] := by
    rw [lcM_f D.int (fun _ => false) D.int (xs := [r, p]) (hi := by simp only [sq_, seq_nx, seq_rt, seq_rf, seq_bk, seq_ct, seq_ex, loop_nx, loop_rt, loop_rf, loop_bk, loop_ct, loop_ex, s_ok_, s_ex_, bind_ok_, bind_ex_, map_ok_, map_ex_, opt_some_, nox_ok_, gd_true_, exprS_, retS_, retFS_, setS_, setOS_, ifS_, forS_, opM_, varR_, asB_, truM_, notM_, andM_, orM_, call1_, lstE_, consM_, aV_, someM_, slM_, raiseM_, andV_, orV_, ifM_, rd_va, rd_ow, rd_pa, addD_int, subD_int, ltG_int, leG_int, gtG_int, geG_int, intD1_int, intD1_bl, absD_int, lenD_lst, lenD_lsx, lenD_tup, canC_no, canC_va, canC_ow, eqD_int, neD_int, eqD_str, neD_str, e_opV, e_varM, e_rdR, e_get0, e_getS, e_set0, e_setS, e_bind, e_cst, e_setM, e_setO, canSet_, e_tgN, e_tgT, e_tgsNil, e_tgsCons, e_asgM, e_parM, e_tupM, e_lstM, e_notV, e_negM, e_seqA, e_chainM, e_callF1, e_sm1M, e_enumM, e_getL, e_list_ow, e_list_pa, e_own_ow, e_own_pa, e_getO, e_setW, e_appendM, e_aO, e_callG, e_cells0, e_cellsV, e_cellsO, e_omap, e_slots0, e_slotsV, e_slotsO, e_nodup0, e_nodup1, e_toR_ok, e_toR_ex, e_toF_fr, e_toF_ex, e_backO, e_backV, e_back0, e_tru_int, e_tru_bl, e_stepC, e_range1M, e_augPutM, e_aug1, e_aug2, e_putL, e_revF, listF, tupD, e_wipe0, e_wipeS, e_rest0, e_restS, e_for0, e_nox, e_plain_no, e_plain_va, e_all0, e_allS, Bool.and_self, Bool.true_and, fin_nx, fin_rt, fin_rf, fin_ex, kpD_kpc, e_kpc0, e_kpcS, keepC_pa, keepC_va, keepC_ow, keepC_no, if_true, if_false, Bool.true_eq, Bool.false_eq_true, decide_true, List.length_cons, List.length_nil, and_self, Nat.reduceAdd, Nat.reduceSub, Nat.reduceLeDiff, Nat.reduceEqDiff, Int.reduceNeg, e_fldV, e_objOf_va, e_objOf_ow, e_objOf_pa, e_fldD, e_getS0, e_fldPutM, e_putFD0, e_putFDS, e_recvM, e_makeM, e_makeE, e_makeEx, e_dkIx, e_dispM, e_min2, e_max2, e_rg1F, e_rg2F, e_raiseM2, e_xfM, e_indexM, e_indexV, e_isiM, e_isisM, i_int_int, i_bool_int, i_str_str, i_tup_tup, i_tup_lst, i_lst_lst, i_lst_tup, is_lt_lst, is_lt_tup, is_lt_int, is_lt_str]; rfl) (hl := by simp) (hp := rfl) (h := fun x hx => ?_)]
    · rfl
    · simp only [sq_, seq_nx, seq_rt, seq_rf, seq_bk, seq_ct, seq_ex, loop_nx, loop_rt, loop_rf, loop_bk, loop_ct, loop_ex, s_ok_, s_ex_, bind_ok_, bind_ex_, map_ok_, map_ex_, opt_some_, nox_ok_, gd_true_, exprS_, retS_, retFS_, setS_, setOS_, ifS_, forS_, opM_, varR_, asB_, truM_, notM_, andM_, orM_, call1_, lstE_, consM_, aV_, someM_, slM_, raiseM_, andV_, orV_, ifM_, rd_va, rd_ow, rd_pa, addD_int, subD_int, ltG_int, leG_int, gtG_int, geG_int, intD1_int, intD1_bl, absD_int, lenD_lst, lenD_lsx, lenD_tup, canC_no, canC_va, canC_ow, eqD_int, neD_int, eqD_str, neD_str, e_opV, e_varM, e_rdR, e_get0, e_getS, e_set0, e_setS, e_bind, e_cst, e_setM, e_setO, canSet_, e_tgN, e_tgT, e_tgsNil, e_tgsCons, e_asgM, e_parM, e_tupM, e_lstM, e_notV, e_negM, e_seqA, e_chainM, e_callF1, e_sm1M, e_enumM, e_getL, e_list_ow, e_list_pa, e_own_ow, e_own_pa, e_getO, e_setW, e_appendM, e_aO, e_callG, e_cells0, e_cellsV, e_cellsO, e_omap, e_slots0, e_slotsV, e_slotsO, e_nodup0, e_nodup1, e_toR_ok, e_toR_ex, e_toF_fr, e_toF_ex, e_backO, e_backV, e_back0, e_tru_int, e_tru_bl, e_stepC, e_range1M, e_augPutM, e_aug1, e_aug2, e_putL, e_revF, listF, tupD, e_wipe0, e_wipeS, e_rest0, e_restS, e_for0, e_nox, e_plain_no, e_plain_va, e_all0, e_allS, Bool.and_self, Bool.true_and, fin_nx, fin_rt, fin_rf, fin_ex, kpD_kpc, e_kpc0, e_kpcS, keepC_pa, keepC_va, keepC_ow, keepC_no, if_true, if_false, Bool.true_eq, Bool.false_eq_true, decide_true, List.length_cons, List.length_nil, and_self, Nat.reduceAdd, Nat.reduceSub, Nat.reduceLeDiff, Nat.reduceEqDiff, Int.reduceNeg, e_fldV, e_objOf_va, e_objOf_ow, e_objOf_pa, e_fldD, e_getS0, e_fldPutM, e_putFD0, e_putFDS, e_recvM, e_makeM, e_makeE, e_makeEx, e_dkIx, e_dispM, e_min2, e_max2, e_rg1F, e_rg2F, e_raiseM2, e_xfM, e_indexM, e_indexV, e_isiM, e_isisM, i_int_int, i_bool_int, i_str_str, i_tup_tup, i_tup_lst, i_lst_lst, i_lst_tup, is_lt_lst, is_lt_tup, is_lt_int, is_lt_str, t_whole, whole_int, Bool.not_true]
  unfold F_is_seat
  rw [bodyF_]
  show (m_is_seat [.va (rg s m h), .va (p2 (r, p)), .no]).fin 2 = _
  unfold m_is_seat
  have t0 : truD (.lst []) = some false := rfl
  have n2 : neD (.int ((2 : Nat) : Int)) (.int 2) = some (.bl false) := rfl
  simp only [sq_, seq_nx, seq_rt, seq_rf, seq_bk, seq_ct, seq_ex, loop_nx, loop_rt, loop_rf, loop_bk, loop_ct, loop_ex, s_ok_, s_ex_, bind_ok_, bind_ex_, map_ok_, map_ex_, opt_some_, nox_ok_, gd_true_, exprS_, retS_, retFS_, setS_, setOS_, ifS_, forS_, opM_, varR_, asB_, truM_, notM_, andM_, orM_, call1_, lstE_, consM_, aV_, someM_, slM_, raiseM_, andV_, orV_, ifM_, rd_va, rd_ow, rd_pa, addD_int, subD_int, ltG_int, leG_int, gtG_int, geG_int, intD1_int, intD1_bl, absD_int, lenD_lst, lenD_lsx, lenD_tup, canC_no, canC_va, canC_ow, eqD_int, neD_int, eqD_str, neD_str, e_opV, e_varM, e_rdR, e_get0, e_getS, e_set0, e_setS, e_bind, e_cst, e_setM, e_setO, canSet_, e_tgN, e_tgT, e_tgsNil, e_tgsCons, e_asgM, e_parM, e_tupM, e_lstM, e_notV, e_negM, e_seqA, e_chainM, e_callF1, e_sm1M, e_enumM, e_getL, e_list_ow, e_list_pa, e_own_ow, e_own_pa, e_getO, e_setW, e_appendM, e_aO, e_callG, e_cells0, e_cellsV, e_cellsO, e_omap, e_slots0, e_slotsV, e_slotsO, e_nodup0, e_nodup1, e_toR_ok, e_toR_ex, e_toF_fr, e_toF_ex, e_backO, e_backV, e_back0, e_tru_int, e_tru_bl, e_stepC, e_range1M, e_augPutM, e_aug1, e_aug2, e_putL, e_revF, listF, tupD, e_wipe0, e_wipeS, e_rest0, e_restS, e_for0, e_nox, e_plain_no, e_plain_va, e_all0, e_allS, Bool.and_self, Bool.true_and, fin_nx, fin_rt, fin_rf, fin_ex, kpD_kpc, e_kpc0, e_kpcS, keepC_pa, keepC_va, keepC_ow, keepC_no, if_true, if_false, Bool.true_eq, Bool.false_eq_true, decide_true, List.length_cons, List.length_nil, and_self, Nat.reduceAdd, Nat.reduceSub, Nat.reduceLeDiff, Nat.reduceEqDiff, Int.reduceNeg, e_fldV, e_objOf_va, e_objOf_ow, e_objOf_pa, e_fldD, e_getS0, e_fldPutM, e_putFD0, e_putFDS, e_recvM, e_makeM, e_makeE, e_makeEx, e_dkIx, e_dispM, e_min2, e_max2, e_rg1F, e_rg2F, e_raiseM2, e_xfM, e_indexM, e_indexV, e_isiM, e_isisM, i_int_int, i_bool_int, i_str_str, i_tup_tup, i_tup_lst, i_lst_lst, i_lst_tup, is_lt_lst, is_lt_tup, is_lt_int, is_lt_str, Option.map_some, Bool.not_true, Bool.not_false, hc, t0, n2, ix3_0, ix3_1, ix3_2, ix2_0, ix2_1, r0, rm, p0, ps]
/-- the seat that lies at (x, y) from (r, p) -/
def sh (s m h : Int) (q d : Int × Int) : Int × Int := ((q.1 + d.2) % m, (q.2 + d.1 + (q.1 + d.2) / m * h) % s)
theorem nat_of {a : Int} (h0 : 0 ≤ a) {k : Nat} (h : a < 2 ^ k) : a.natAbs < 2 ^ k := by
  have : ((a.natAbs : Nat) : Int) < ((2 ^ k : Nat) : Int) := by rw [Int.natAbs_of_nonneg h0]; push_cast; exact h
  omega
theorem Rg.mn {s m h : Int} (R : Rg s m h) : m.natAbs < 2 ^ 8000 := Nat.lt_of_lt_of_le (nat_of (by have := R.m1; omega) R.mb) (Nat.pow_le_pow_right (by omega) (by omega))
theorem div_abs {a m : Int} (h : 1 ≤ m) : (a / m).natAbs ≤ a.natAbs := Int.natAbs_ediv_le_natAbs a m
theorem shifted_ok {s m h : Int} (R : Rg s m h) {q d : Int × Int} (hb : (q.1 + d.2).natAbs < 2 ^ 90) : F_shifted [.va (rg s m h), .va (p2 q), .va (p2 d)] = .ok (p2 (sh s m h q d)) [.no, .no, .no] := by
  have m1 := R.m1
  have s1 := R.s1
  have hd : dvmD (.int (q.1 + d.2)) (.int m) = some (.tup [.int ((q.1 + d.2) / m), .int ((q.1 + d.2) % m)]) := dvm_int (by omega) R.mn
  have hm : mulG (.int ((q.1 + d.2) / m)) (.int h) = some (.int ((q.1 + d.2) / m * h)) := mulG_int (a := 90) (b := 80) (Nat.lt_of_le_of_lt (div_abs m1) hb) (nat_of R.h0 (by have := R.hs; have := R.sb; omega)) (by omega)
  have hf : ∀ z : Int, modG (.int z) (.int s) = some (.int (z % s)) := fun z => by rw [modG_int (by omega), Int.fmod_eq_emod_of_nonneg _ (by omega)]
  unfold F_shifted
  rw [bodyF_]
  show (m_shifted [.va (rg s m h), .va (p2 q), .va (p2 d), .no, .no, .no, .no, .no]).fin 3 = _
  unfold m_shifted
  simp only [sq_, seq_nx, seq_rt, seq_rf, seq_bk, seq_ct, seq_ex, loop_nx, loop_rt, loop_rf, loop_bk, loop_ct, loop_ex, s_ok_, s_ex_, bind_ok_, bind_ex_, map_ok_, map_ex_, opt_some_, nox_ok_, gd_true_, exprS_, retS_, retFS_, setS_, setOS_, ifS_, forS_, opM_, varR_, asB_, truM_, notM_, andM_, orM_, call1_, lstE_, consM_, aV_, someM_, slM_, raiseM_, andV_, orV_, ifM_, rd_va, rd_ow, rd_pa, addD_int, subD_int, ltG_int, leG_int, gtG_int, geG_int, intD1_int, intD1_bl, absD_int, lenD_lst, lenD_lsx, lenD_tup, canC_no, canC_va, canC_ow, eqD_int, neD_int, eqD_str, neD_str, e_opV, e_varM, e_rdR, e_get0, e_getS, e_set0, e_setS, e_bind, e_cst, e_setM, e_setO, canSet_, e_tgN, e_tgT, e_tgsNil, e_tgsCons, e_asgM, e_parM, e_tupM, e_lstM, e_notV, e_negM, e_seqA, e_chainM, e_callF1, e_sm1M, e_enumM, e_getL, e_list_ow, e_list_pa, e_own_ow, e_own_pa, e_getO, e_setW, e_appendM, e_aO, e_callG, e_cells0, e_cellsV, e_cellsO, e_omap, e_slots0, e_slotsV, e_slotsO, e_nodup0, e_nodup1, e_toR_ok, e_toR_ex, e_toF_fr, e_toF_ex, e_backO, e_backV, e_back0, e_tru_int, e_tru_bl, e_stepC, e_range1M, e_augPutM, e_aug1, e_aug2, e_putL, e_revF, listF, tupD, e_wipe0, e_wipeS, e_rest0, e_restS, e_for0, e_nox, e_plain_no, e_plain_va, e_all0, e_allS, Bool.and_self, Bool.true_and, fin_nx, fin_rt, fin_rf, fin_ex, kpD_kpc, e_kpc0, e_kpcS, keepC_pa, keepC_va, keepC_ow, keepC_no, if_true, if_false, Bool.true_eq, Bool.false_eq_true, decide_true, List.length_cons, List.length_nil, and_self, Nat.reduceAdd, Nat.reduceSub, Nat.reduceLeDiff, Nat.reduceEqDiff, Int.reduceNeg, e_fldV, e_objOf_va, e_objOf_ow, e_objOf_pa, e_fldD, e_getS0, e_fldPutM, e_putFD0, e_putFDS, e_recvM, e_makeM, e_makeE, e_makeEx, e_dkIx, e_dispM, e_min2, e_max2, e_rg1F, e_rg2F, e_raiseM2, e_xfM, e_indexM, e_indexV, e_isiM, e_isisM, i_int_int, i_bool_int, i_str_str, i_tup_tup, i_tup_lst, i_lst_lst, i_lst_tup, is_lt_lst, is_lt_tup, is_lt_int, is_lt_str, ix2_0, ix2_1, hd, hm, hf, e_gd]
  rfl
theorem law_shifted_ok {s m h : Int} (R : Rg s m h) {q d : Int × Int} (hb : (q.1 + d.2).natAbs < 2 ^ 90) : F_law_shifted [.va (rg s m h), .va (p2 q), .va (p2 d)] = .ok (p2 (sh s m h q d)) [.no, .no, .no] := by
  have m1 := R.m1
  have s1 := R.s1
  have hd : divG (.int (q.1 + d.2)) (.int m) = some (.int ((q.1 + d.2) / m)) := by rw [divG_int (by omega) R.mn, Int.fdiv_eq_ediv_of_nonneg _ (by omega)]
  have hq : ((q.1 + d.2) / m).natAbs < 2 ^ 90 := Nat.lt_of_le_of_lt (div_abs m1) hb
  have hm : mulG (.int ((q.1 + d.2) / m)) (.int h) = some (.int ((q.1 + d.2) / m * h)) := mulG_int (a := 90) (b := 80) hq (nat_of R.h0 (by have := R.hs; have := R.sb; omega)) (by omega)
  have hm2 : mulG (.int ((q.1 + d.2) / m)) (.int m) = some (.int ((q.1 + d.2) / m * m)) := mulG_int (a := 90) (b := 80) hq (nat_of (by omega) R.mb) (by omega)
  have hf : ∀ z : Int, modG (.int z) (.int s) = some (.int (z % s)) := fun z => by rw [modG_int (by omega), Int.fmod_eq_emod_of_nonneg _ (by omega)]
  have e : q.1 + d.2 - (q.1 + d.2) / m * m = (q.1 + d.2) % m := by rw [Int.emod_def, Int.mul_comm]
  unfold F_law_shifted
  rw [bodyF_]
  show (m_law_shifted [.va (rg s m h), .va (p2 q), .va (p2 d), .no, .no, .no, .no, .no]).fin 3 = _
  unfold m_law_shifted
  simp only [sq_, seq_nx, seq_rt, seq_rf, seq_bk, seq_ct, seq_ex, loop_nx, loop_rt, loop_rf, loop_bk, loop_ct, loop_ex, s_ok_, s_ex_, bind_ok_, bind_ex_, map_ok_, map_ex_, opt_some_, nox_ok_, gd_true_, exprS_, retS_, retFS_, setS_, setOS_, ifS_, forS_, opM_, varR_, asB_, truM_, notM_, andM_, orM_, call1_, lstE_, consM_, aV_, someM_, slM_, raiseM_, andV_, orV_, ifM_, rd_va, rd_ow, rd_pa, addD_int, subD_int, ltG_int, leG_int, gtG_int, geG_int, intD1_int, intD1_bl, absD_int, lenD_lst, lenD_lsx, lenD_tup, canC_no, canC_va, canC_ow, eqD_int, neD_int, eqD_str, neD_str, e_opV, e_varM, e_rdR, e_get0, e_getS, e_set0, e_setS, e_bind, e_cst, e_setM, e_setO, canSet_, e_tgN, e_tgT, e_tgsNil, e_tgsCons, e_asgM, e_parM, e_tupM, e_lstM, e_notV, e_negM, e_seqA, e_chainM, e_callF1, e_sm1M, e_enumM, e_getL, e_list_ow, e_list_pa, e_own_ow, e_own_pa, e_getO, e_setW, e_appendM, e_aO, e_callG, e_cells0, e_cellsV, e_cellsO, e_omap, e_slots0, e_slotsV, e_slotsO, e_nodup0, e_nodup1, e_toR_ok, e_toR_ex, e_toF_fr, e_toF_ex, e_backO, e_backV, e_back0, e_tru_int, e_tru_bl, e_stepC, e_range1M, e_augPutM, e_aug1, e_aug2, e_putL, e_revF, listF, tupD, e_wipe0, e_wipeS, e_rest0, e_restS, e_for0, e_nox, e_plain_no, e_plain_va, e_all0, e_allS, Bool.and_self, Bool.true_and, fin_nx, fin_rt, fin_rf, fin_ex, kpD_kpc, e_kpc0, e_kpcS, keepC_pa, keepC_va, keepC_ow, keepC_no, if_true, if_false, Bool.true_eq, Bool.false_eq_true, decide_true, List.length_cons, List.length_nil, and_self, Nat.reduceAdd, Nat.reduceSub, Nat.reduceLeDiff, Nat.reduceEqDiff, Int.reduceNeg, e_fldV, e_objOf_va, e_objOf_ow, e_objOf_pa, e_fldD, e_getS0, e_fldPutM, e_putFD0, e_putFDS, e_recvM, e_makeM, e_makeE, e_makeEx, e_dkIx, e_dispM, e_min2, e_max2, e_rg1F, e_rg2F, e_raiseM2, e_xfM, e_indexM, e_indexV, e_isiM, e_isisM, i_int_int, i_bool_int, i_str_str, i_tup_tup, i_tup_lst, i_lst_lst, i_lst_tup, is_lt_lst, is_lt_tup, is_lt_int, is_lt_str, ix2_0, ix2_1, hd, hm, hm2, hf, e_gd, e]
  rfl
/-- a letter's pair -/
def stepc (c : Nat) : Int × Int := if c = 97 then (1, 0) else if c = 65 then (-1, 0) else if c = 98 then (0, 1) else (0, -1)
def ok (s m : Int) (q : Int × Int) : Prop := 0 ≤ q.1 ∧ q.1 < m ∧ 0 ≤ q.2 ∧ q.2 < s
theorem sh_ok {s m h : Int} (R : Rg s m h) (q d : Int × Int) : ok s m (sh s m h q d) := by
  have m1 := R.m1
  have s1 := R.s1
  exact ⟨Int.emod_nonneg _ (by omega), Int.emod_lt_of_pos _ (by omega), Int.emod_nonneg _ (by omega), Int.emod_lt_of_pos _ (by omega)⟩
theorem law_one_ok {s m h : Int} (R : Rg s m h) {q : Int × Int} (hq : ok s m q) {c : Nat} (hc : c = 97 ∨ c = 98 ∨ c = 65 ∨ c = 66) : F_law_one [.va (rg s m h), .va (p2 q), .va (chD c)] = .ok (p2 (sh s m h q (stepc c))) [.no, .no, .no] := by
  obtain ⟨r, p⟩ := q
  obtain ⟨r0, rm, p0, ps⟩ := hq
  have m1 := R.m1
  have s1 := R.s1
  simp only at r0 rm p0 ps
  have hf : ∀ z : Int, modG (.int z) (.int s) = some (.int (z % s)) := fun z => by rw [modG_int (by omega), Int.fmod_eq_emod_of_nonneg _ (by omega)]
  have d0 : r / m = 0 := Int.ediv_eq_zero_of_lt r0 rm
  have e0 : r % m = r := Int.emod_eq_of_lt r0 rm
  have f0 : p % s = p := Int.emod_eq_of_lt p0 ps
  unfold F_law_one
  rw [bodyF_]
  show (m_law_one [.va (rg s m h), .va (p2 (r, p)), .va (chD c), .no, .no, .no, .no, .no]).fin 3 = _
  unfold m_law_one
  rcases hc with rfl | rfl | rfl | rfl
  · have k1 : eqD (chD 97) (.str "a") = some (.bl true) := rfl
    simp only [sq_, seq_nx, seq_rt, seq_rf, seq_bk, seq_ct, seq_ex, loop_nx, loop_rt, loop_rf, loop_bk, loop_ct, loop_ex, s_ok_, s_ex_, bind_ok_, bind_ex_, map_ok_, map_ex_, opt_some_, nox_ok_, gd_true_, exprS_, retS_, retFS_, setS_, setOS_, ifS_, forS_, opM_, varR_, asB_, truM_, notM_, andM_, orM_, call1_, lstE_, consM_, aV_, someM_, slM_, raiseM_, andV_, orV_, ifM_, rd_va, rd_ow, rd_pa, addD_int, subD_int, ltG_int, leG_int, gtG_int, geG_int, intD1_int, intD1_bl, absD_int, lenD_lst, lenD_lsx, lenD_tup, canC_no, canC_va, canC_ow, eqD_int, neD_int, eqD_str, neD_str, e_opV, e_varM, e_rdR, e_get0, e_getS, e_set0, e_setS, e_bind, e_cst, e_setM, e_setO, canSet_, e_tgN, e_tgT, e_tgsNil, e_tgsCons, e_asgM, e_parM, e_tupM, e_lstM, e_notV, e_negM, e_seqA, e_chainM, e_callF1, e_sm1M, e_enumM, e_getL, e_list_ow, e_list_pa, e_own_ow, e_own_pa, e_getO, e_setW, e_appendM, e_aO, e_callG, e_cells0, e_cellsV, e_cellsO, e_omap, e_slots0, e_slotsV, e_slotsO, e_nodup0, e_nodup1, e_toR_ok, e_toR_ex, e_toF_fr, e_toF_ex, e_backO, e_backV, e_back0, e_tru_int, e_tru_bl, e_stepC, e_range1M, e_augPutM, e_aug1, e_aug2, e_putL, e_revF, listF, tupD, e_wipe0, e_wipeS, e_rest0, e_restS, e_for0, e_nox, e_plain_no, e_plain_va, e_all0, e_allS, Bool.and_self, Bool.true_and, fin_nx, fin_rt, fin_rf, fin_ex, kpD_kpc, e_kpc0, e_kpcS, keepC_pa, keepC_va, keepC_ow, keepC_no, if_true, if_false, Bool.true_eq, Bool.false_eq_true, decide_true, List.length_cons, List.length_nil, and_self, Nat.reduceAdd, Nat.reduceSub, Nat.reduceLeDiff, Nat.reduceEqDiff, Int.reduceNeg, e_fldV, e_objOf_va, e_objOf_ow, e_objOf_pa, e_fldD, e_getS0, e_fldPutM, e_putFD0, e_putFDS, e_recvM, e_makeM, e_makeE, e_makeEx, e_dkIx, e_dispM, e_min2, e_max2, e_rg1F, e_rg2F, e_raiseM2, e_xfM, e_indexM, e_indexV, e_isiM, e_isisM, i_int_int, i_bool_int, i_str_str, i_tup_tup, i_tup_lst, i_lst_lst, i_lst_tup, is_lt_lst, is_lt_tup, is_lt_int, is_lt_str, k1, hf, e_gd]
    have e : sh s m h (r, p) (stepc 97) = (r, (p + 1) % s) := by
      show ((r + 0) % m, (p + 1 + (r + 0) / m * h) % s) = _
      rw [Int.add_zero, d0, e0, Int.zero_mul, Int.add_zero]
    rw [e]
  · have k1 : eqD (chD 98) (.str "a") = some (.bl false) := rfl
    have k2 : eqD (chD 98) (.str "A") = some (.bl false) := rfl
    have k3 : eqD (chD 98) (.str "b") = some (.bl true) := rfl
    have e : sh s m h (r, p) (stepc 98) = if r + 1 < m then (r + 1, p) else (0, (p + h) % s) := by
      show ((r + 1) % m, (p + 0 + (r + 1) / m * h) % s) = _
      split
      · rename_i hlt
        rw [Int.emod_eq_of_lt (by omega) hlt, Int.ediv_eq_zero_of_lt (by omega) hlt, Int.zero_mul, Int.add_zero, Int.add_zero, f0]
      · have : r + 1 = m := by omega
        rw [this, Int.emod_self, Int.ediv_self (by omega), Int.one_mul, Int.add_zero]
    rw [e]
    by_cases hlt : r + 1 < m
    · simp only [sq_, seq_nx, seq_rt, seq_rf, seq_bk, seq_ct, seq_ex, loop_nx, loop_rt, loop_rf, loop_bk, loop_ct, loop_ex, s_ok_, s_ex_, bind_ok_, bind_ex_, map_ok_, map_ex_, opt_some_, nox_ok_, gd_true_, exprS_, retS_, retFS_, setS_, setOS_, ifS_, forS_, opM_, varR_, asB_, truM_, notM_, andM_, orM_, call1_, lstE_, consM_, aV_, someM_, slM_, raiseM_, andV_, orV_, ifM_, rd_va, rd_ow, rd_pa, addD_int, subD_int, ltG_int, leG_int, gtG_int, geG_int, intD1_int, intD1_bl, absD_int, lenD_lst, lenD_lsx, lenD_tup, canC_no, canC_va, canC_ow, eqD_int, neD_int, eqD_str, neD_str, e_opV, e_varM, e_rdR, e_get0, e_getS, e_set0, e_setS, e_bind, e_cst, e_setM, e_setO, canSet_, e_tgN, e_tgT, e_tgsNil, e_tgsCons, e_asgM, e_parM, e_tupM, e_lstM, e_notV, e_negM, e_seqA, e_chainM, e_callF1, e_sm1M, e_enumM, e_getL, e_list_ow, e_list_pa, e_own_ow, e_own_pa, e_getO, e_setW, e_appendM, e_aO, e_callG, e_cells0, e_cellsV, e_cellsO, e_omap, e_slots0, e_slotsV, e_slotsO, e_nodup0, e_nodup1, e_toR_ok, e_toR_ex, e_toF_fr, e_toF_ex, e_backO, e_backV, e_back0, e_tru_int, e_tru_bl, e_stepC, e_range1M, e_augPutM, e_aug1, e_aug2, e_putL, e_revF, listF, tupD, e_wipe0, e_wipeS, e_rest0, e_restS, e_for0, e_nox, e_plain_no, e_plain_va, e_all0, e_allS, Bool.and_self, Bool.true_and, fin_nx, fin_rt, fin_rf, fin_ex, kpD_kpc, e_kpc0, e_kpcS, keepC_pa, keepC_va, keepC_ow, keepC_no, if_true, if_false, Bool.true_eq, Bool.false_eq_true, decide_true, List.length_cons, List.length_nil, and_self, Nat.reduceAdd, Nat.reduceSub, Nat.reduceLeDiff, Nat.reduceEqDiff, Int.reduceNeg, e_fldV, e_objOf_va, e_objOf_ow, e_objOf_pa, e_fldD, e_getS0, e_fldPutM, e_putFD0, e_putFDS, e_recvM, e_makeM, e_makeE, e_makeEx, e_dkIx, e_dispM, e_min2, e_max2, e_rg1F, e_rg2F, e_raiseM2, e_xfM, e_indexM, e_indexV, e_isiM, e_isisM, i_int_int, i_bool_int, i_str_str, i_tup_tup, i_tup_lst, i_lst_lst, i_lst_tup, is_lt_lst, is_lt_tup, is_lt_int, is_lt_str, k1, k2, k3, hf, e_gd, hlt]
    · simp only [sq_, seq_nx, seq_rt, seq_rf, seq_bk, seq_ct, seq_ex, loop_nx, loop_rt, loop_rf, loop_bk, loop_ct, loop_ex, s_ok_, s_ex_, bind_ok_, bind_ex_, map_ok_, map_ex_, opt_some_, nox_ok_, gd_true_, exprS_, retS_, retFS_, setS_, setOS_, ifS_, forS_, opM_, varR_, asB_, truM_, notM_, andM_, orM_, call1_, lstE_, consM_, aV_, someM_, slM_, raiseM_, andV_, orV_, ifM_, rd_va, rd_ow, rd_pa, addD_int, subD_int, ltG_int, leG_int, gtG_int, geG_int, intD1_int, intD1_bl, absD_int, lenD_lst, lenD_lsx, lenD_tup, canC_no, canC_va, canC_ow, eqD_int, neD_int, eqD_str, neD_str, e_opV, e_varM, e_rdR, e_get0, e_getS, e_set0, e_setS, e_bind, e_cst, e_setM, e_setO, canSet_, e_tgN, e_tgT, e_tgsNil, e_tgsCons, e_asgM, e_parM, e_tupM, e_lstM, e_notV, e_negM, e_seqA, e_chainM, e_callF1, e_sm1M, e_enumM, e_getL, e_list_ow, e_list_pa, e_own_ow, e_own_pa, e_getO, e_setW, e_appendM, e_aO, e_callG, e_cells0, e_cellsV, e_cellsO, e_omap, e_slots0, e_slotsV, e_slotsO, e_nodup0, e_nodup1, e_toR_ok, e_toR_ex, e_toF_fr, e_toF_ex, e_backO, e_backV, e_back0, e_tru_int, e_tru_bl, e_stepC, e_range1M, e_augPutM, e_aug1, e_aug2, e_putL, e_revF, listF, tupD, e_wipe0, e_wipeS, e_rest0, e_restS, e_for0, e_nox, e_plain_no, e_plain_va, e_all0, e_allS, Bool.and_self, Bool.true_and, fin_nx, fin_rt, fin_rf, fin_ex, kpD_kpc, e_kpc0, e_kpcS, keepC_pa, keepC_va, keepC_ow, keepC_no, if_true, if_false, Bool.true_eq, Bool.false_eq_true, decide_true, List.length_cons, List.length_nil, and_self, Nat.reduceAdd, Nat.reduceSub, Nat.reduceLeDiff, Nat.reduceEqDiff, Int.reduceNeg, e_fldV, e_objOf_va, e_objOf_ow, e_objOf_pa, e_fldD, e_getS0, e_fldPutM, e_putFD0, e_putFDS, e_recvM, e_makeM, e_makeE, e_makeEx, e_dkIx, e_dispM, e_min2, e_max2, e_rg1F, e_rg2F, e_raiseM2, e_xfM, e_indexM, e_indexV, e_isiM, e_isisM, i_int_int, i_bool_int, i_str_str, i_tup_tup, i_tup_lst, i_lst_lst, i_lst_tup, is_lt_lst, is_lt_tup, is_lt_int, is_lt_str, k1, k2, k3, hf, e_gd, hlt, decide_false]
  · have k1 : eqD (chD 65) (.str "a") = some (.bl false) := rfl
    have k2 : eqD (chD 65) (.str "A") = some (.bl true) := rfl
    simp only [sq_, seq_nx, seq_rt, seq_rf, seq_bk, seq_ct, seq_ex, loop_nx, loop_rt, loop_rf, loop_bk, loop_ct, loop_ex, s_ok_, s_ex_, bind_ok_, bind_ex_, map_ok_, map_ex_, opt_some_, nox_ok_, gd_true_, exprS_, retS_, retFS_, setS_, setOS_, ifS_, forS_, opM_, varR_, asB_, truM_, notM_, andM_, orM_, call1_, lstE_, consM_, aV_, someM_, slM_, raiseM_, andV_, orV_, ifM_, rd_va, rd_ow, rd_pa, addD_int, subD_int, ltG_int, leG_int, gtG_int, geG_int, intD1_int, intD1_bl, absD_int, lenD_lst, lenD_lsx, lenD_tup, canC_no, canC_va, canC_ow, eqD_int, neD_int, eqD_str, neD_str, e_opV, e_varM, e_rdR, e_get0, e_getS, e_set0, e_setS, e_bind, e_cst, e_setM, e_setO, canSet_, e_tgN, e_tgT, e_tgsNil, e_tgsCons, e_asgM, e_parM, e_tupM, e_lstM, e_notV, e_negM, e_seqA, e_chainM, e_callF1, e_sm1M, e_enumM, e_getL, e_list_ow, e_list_pa, e_own_ow, e_own_pa, e_getO, e_setW, e_appendM, e_aO, e_callG, e_cells0, e_cellsV, e_cellsO, e_omap, e_slots0, e_slotsV, e_slotsO, e_nodup0, e_nodup1, e_toR_ok, e_toR_ex, e_toF_fr, e_toF_ex, e_backO, e_backV, e_back0, e_tru_int, e_tru_bl, e_stepC, e_range1M, e_augPutM, e_aug1, e_aug2, e_putL, e_revF, listF, tupD, e_wipe0, e_wipeS, e_rest0, e_restS, e_for0, e_nox, e_plain_no, e_plain_va, e_all0, e_allS, Bool.and_self, Bool.true_and, fin_nx, fin_rt, fin_rf, fin_ex, kpD_kpc, e_kpc0, e_kpcS, keepC_pa, keepC_va, keepC_ow, keepC_no, if_true, if_false, Bool.true_eq, Bool.false_eq_true, decide_true, List.length_cons, List.length_nil, and_self, Nat.reduceAdd, Nat.reduceSub, Nat.reduceLeDiff, Nat.reduceEqDiff, Int.reduceNeg, e_fldV, e_objOf_va, e_objOf_ow, e_objOf_pa, e_fldD, e_getS0, e_fldPutM, e_putFD0, e_putFDS, e_recvM, e_makeM, e_makeE, e_makeEx, e_dkIx, e_dispM, e_min2, e_max2, e_rg1F, e_rg2F, e_raiseM2, e_xfM, e_indexM, e_indexV, e_isiM, e_isisM, i_int_int, i_bool_int, i_str_str, i_tup_tup, i_tup_lst, i_lst_lst, i_lst_tup, is_lt_lst, is_lt_tup, is_lt_int, is_lt_str, k1, k2, hf, e_gd]
    have e : sh s m h (r, p) (stepc 65) = (r, (p - 1) % s) := by
      show ((r + 0) % m, (p + -1 + (r + 0) / m * h) % s) = _
      rw [Int.add_zero, d0, e0, Int.zero_mul, Int.add_zero, Int.sub_eq_add_neg]
    rw [e]
  · have k1 : eqD (chD 66) (.str "a") = some (.bl false) := rfl
    have k2 : eqD (chD 66) (.str "A") = some (.bl false) := rfl
    have k3 : eqD (chD 66) (.str "b") = some (.bl false) := rfl
    have e : sh s m h (r, p) (stepc 66) = if 0 < r then (r - 1, p) else (m - 1, (p - h) % s) := by
      show ((r + -1) % m, (p + 0 + (r + -1) / m * h) % s) = _
      split
      · rename_i hlt
        rw [← Int.sub_eq_add_neg, Int.emod_eq_of_lt (by omega) (by omega), Int.ediv_eq_zero_of_lt (by omega) (by omega), Int.zero_mul, Int.add_zero, Int.add_zero, f0]
      · have : r = 0 := by omega
        subst this
        have a1 : (0 + -1 : Int) % m = m - 1 := by
          have z : (0 + -1 + m : Int) = m - 1 := by omega
          rw [← Int.add_emod_right, z]
          exact Int.emod_eq_of_lt (by omega) (by omega)
        have a2 : (0 + -1 : Int) / m = -1 := by
          rw [Int.ediv_eq_iff_of_pos (by omega)]
          omega
        rw [a1, a2]
        congr 2
        omega
    rw [e]
    by_cases hlt : 0 < r
    · simp only [sq_, seq_nx, seq_rt, seq_rf, seq_bk, seq_ct, seq_ex, loop_nx, loop_rt, loop_rf, loop_bk, loop_ct, loop_ex, s_ok_, s_ex_, bind_ok_, bind_ex_, map_ok_, map_ex_, opt_some_, nox_ok_, gd_true_, exprS_, retS_, retFS_, setS_, setOS_, ifS_, forS_, opM_, varR_, asB_, truM_, notM_, andM_, orM_, call1_, lstE_, consM_, aV_, someM_, slM_, raiseM_, andV_, orV_, ifM_, rd_va, rd_ow, rd_pa, addD_int, subD_int, ltG_int, leG_int, gtG_int, geG_int, intD1_int, intD1_bl, absD_int, lenD_lst, lenD_lsx, lenD_tup, canC_no, canC_va, canC_ow, eqD_int, neD_int, eqD_str, neD_str, e_opV, e_varM, e_rdR, e_get0, e_getS, e_set0, e_setS, e_bind, e_cst, e_setM, e_setO, canSet_, e_tgN, e_tgT, e_tgsNil, e_tgsCons, e_asgM, e_parM, e_tupM, e_lstM, e_notV, e_negM, e_seqA, e_chainM, e_callF1, e_sm1M, e_enumM, e_getL, e_list_ow, e_list_pa, e_own_ow, e_own_pa, e_getO, e_setW, e_appendM, e_aO, e_callG, e_cells0, e_cellsV, e_cellsO, e_omap, e_slots0, e_slotsV, e_slotsO, e_nodup0, e_nodup1, e_toR_ok, e_toR_ex, e_toF_fr, e_toF_ex, e_backO, e_backV, e_back0, e_tru_int, e_tru_bl, e_stepC, e_range1M, e_augPutM, e_aug1, e_aug2, e_putL, e_revF, listF, tupD, e_wipe0, e_wipeS, e_rest0, e_restS, e_for0, e_nox, e_plain_no, e_plain_va, e_all0, e_allS, Bool.and_self, Bool.true_and, fin_nx, fin_rt, fin_rf, fin_ex, kpD_kpc, e_kpc0, e_kpcS, keepC_pa, keepC_va, keepC_ow, keepC_no, if_true, if_false, Bool.true_eq, Bool.false_eq_true, decide_true, List.length_cons, List.length_nil, and_self, Nat.reduceAdd, Nat.reduceSub, Nat.reduceLeDiff, Nat.reduceEqDiff, Int.reduceNeg, e_fldV, e_objOf_va, e_objOf_ow, e_objOf_pa, e_fldD, e_getS0, e_fldPutM, e_putFD0, e_putFDS, e_recvM, e_makeM, e_makeE, e_makeEx, e_dkIx, e_dispM, e_min2, e_max2, e_rg1F, e_rg2F, e_raiseM2, e_xfM, e_indexM, e_indexV, e_isiM, e_isisM, i_int_int, i_bool_int, i_str_str, i_tup_tup, i_tup_lst, i_lst_lst, i_lst_tup, is_lt_lst, is_lt_tup, is_lt_int, is_lt_str, k1, k2, k3, hf, e_gd, hlt]
    · simp only [sq_, seq_nx, seq_rt, seq_rf, seq_bk, seq_ct, seq_ex, loop_nx, loop_rt, loop_rf, loop_bk, loop_ct, loop_ex, s_ok_, s_ex_, bind_ok_, bind_ex_, map_ok_, map_ex_, opt_some_, nox_ok_, gd_true_, exprS_, retS_, retFS_, setS_, setOS_, ifS_, forS_, opM_, varR_, asB_, truM_, notM_, andM_, orM_, call1_, lstE_, consM_, aV_, someM_, slM_, raiseM_, andV_, orV_, ifM_, rd_va, rd_ow, rd_pa, addD_int, subD_int, ltG_int, leG_int, gtG_int, geG_int, intD1_int, intD1_bl, absD_int, lenD_lst, lenD_lsx, lenD_tup, canC_no, canC_va, canC_ow, eqD_int, neD_int, eqD_str, neD_str, e_opV, e_varM, e_rdR, e_get0, e_getS, e_set0, e_setS, e_bind, e_cst, e_setM, e_setO, canSet_, e_tgN, e_tgT, e_tgsNil, e_tgsCons, e_asgM, e_parM, e_tupM, e_lstM, e_notV, e_negM, e_seqA, e_chainM, e_callF1, e_sm1M, e_enumM, e_getL, e_list_ow, e_list_pa, e_own_ow, e_own_pa, e_getO, e_setW, e_appendM, e_aO, e_callG, e_cells0, e_cellsV, e_cellsO, e_omap, e_slots0, e_slotsV, e_slotsO, e_nodup0, e_nodup1, e_toR_ok, e_toR_ex, e_toF_fr, e_toF_ex, e_backO, e_backV, e_back0, e_tru_int, e_tru_bl, e_stepC, e_range1M, e_augPutM, e_aug1, e_aug2, e_putL, e_revF, listF, tupD, e_wipe0, e_wipeS, e_rest0, e_restS, e_for0, e_nox, e_plain_no, e_plain_va, e_all0, e_allS, Bool.and_self, Bool.true_and, fin_nx, fin_rt, fin_rf, fin_ex, kpD_kpc, e_kpc0, e_kpcS, keepC_pa, keepC_va, keepC_ow, keepC_no, if_true, if_false, Bool.true_eq, Bool.false_eq_true, decide_true, List.length_cons, List.length_nil, and_self, Nat.reduceAdd, Nat.reduceSub, Nat.reduceLeDiff, Nat.reduceEqDiff, Int.reduceNeg, e_fldV, e_objOf_va, e_objOf_ow, e_objOf_pa, e_fldD, e_getS0, e_fldPutM, e_putFD0, e_putFDS, e_recvM, e_makeM, e_makeE, e_makeEx, e_dkIx, e_dispM, e_min2, e_max2, e_rg1F, e_rg2F, e_raiseM2, e_xfM, e_indexM, e_indexV, e_isiM, e_isisM, i_int_int, i_bool_int, i_str_str, i_tup_tup, i_tup_lst, i_lst_lst, i_lst_tup, is_lt_lst, is_lt_tup, is_lt_int, is_lt_str, k1, k2, k3, hf, e_gd, hlt, decide_false]
end K78
end KL
set_option exponentiation.threshold 100000
/-! k78: words walked in a ring. -/
namespace KL
namespace K78
open PySem L2 Cs
def led (s m h : Int) : List Nat → Int × Int → Int × Int
  | [], q => q
  | c :: cs, q => led s m h cs (sh s m h q (stepc c))
def stepsD : D := .dk [(.inr "a", .tup [.int 1, .int 0]), (.inr "A", .tup [.int (-1), .int 0]), (.inr "b", .tup [.int 0, .int 1]), (.inr "B", .tup [.int 0, .int (-1)])]
theorem disp_ok {Δ : DEnv} : dispM ["a", "A", "b", "B"] (consM (tupM (consM (cst (D.int 1)) (consM (cst (D.int 0)) (cst ([] : List D))))) (consM (tupM (consM (negM (cst (D.int 1))) (consM (cst (D.int 0)) (cst ([] : List D))))) (consM (tupM (consM (cst (D.int 0)) (consM (cst (D.int 1)) (cst ([] : List D))))) (consM (tupM (consM (cst (D.int 0)) (consM (negM (cst (D.int 1))) (cst ([] : List D))))) (cst ([] : List D)))))) Δ = .ok stepsD Δ := nr rfl
theorem dk_step {c : Nat} (h : c = 97 ∨ c = 98 ∨ c = 65 ∨ c = 66) : dkIx stepsD (chD c) = some (p2 (stepc c)) := by
  rcases h with rfl | rfl | rfl | rfl <;> rfl
theorem step_abs {c : Nat} : (stepc c).2.natAbs ≤ 1 := by
  unfold stepc
  split
  · decide
  split
  · decide
  split
  · decide
  · decide
theorem step_bd {s m h : Int} (R : Rg s m h) {q : Int × Int} (hq : ok s m q) (c : Nat) : (q.1 + (stepc c).2).natAbs < 2 ^ 90 := by
  have a := step_abs (c := c)
  have b := R.mb
  obtain ⟨h0, h1, _⟩ := hq
  omega
theorem led_loop {s m h : Int} (R : Rg s m h) {t : Cell} : ∀ (cs : List Nat) (q : Int × Int) (c3 c4 : Cell), canC c3 = true → canC c4 = true → Let cs → ok s m q → ∃ d3 d4, forM (tgN 3) ring_led_b1 (cs.map chD) [.va (rg s m h), .va (p2 q), t, c3, c4] = .nx [.va (rg s m h), .va (p2 (led s m h cs q)), t, d3, d4]
  | [], q, c3, c4, _, _, _, _ => ⟨c3, c4, rfl⟩
  | c :: cs, q, c3, c4, k3, k4, hl, hq => by
    obtain ⟨d3, d4, hh⟩ := led_loop R cs (sh s m h q (stepc c)) (.va (chD c)) (.va (p2 (stepc c))) rfl rfl (fun y hy => hl y (by simp [hy])) (sh_ok R q _)
    refine ⟨d3, d4, ?_⟩
    rw [List.map_cons, e_forS]
    unfold ring_led_b1
    simp only [sq_, seq_nx, seq_rt, seq_rf, seq_bk, seq_ct, seq_ex, loop_nx, loop_rt, loop_rf, loop_bk, loop_ct, loop_ex, s_ok_, s_ex_, bind_ok_, bind_ex_, map_ok_, map_ex_, opt_some_, nox_ok_, gd_true_, exprS_, retS_, retFS_, setS_, setOS_, ifS_, forS_, opM_, varR_, asB_, truM_, notM_, andM_, orM_, call1_, lstE_, consM_, aV_, someM_, slM_, raiseM_, andV_, orV_, ifM_, rd_va, rd_ow, rd_pa, addD_int, subD_int, ltG_int, leG_int, gtG_int, geG_int, intD1_int, intD1_bl, absD_int, lenD_lst, lenD_lsx, lenD_tup, canC_no, canC_va, canC_ow, eqD_int, neD_int, eqD_str, neD_str, e_opV, e_varM, e_rdR, e_get0, e_getS, e_set0, e_setS, e_bind, e_cst, e_setM, e_setO, canSet_, e_tgN, e_tgT, e_tgsNil, e_tgsCons, e_asgM, e_parM, e_tupM, e_lstM, e_notV, e_negM, e_seqA, e_chainM, e_callF1, e_sm1M, e_enumM, e_getL, e_list_ow, e_list_pa, e_own_ow, e_own_pa, e_getO, e_setW, e_appendM, e_aO, e_callG, e_cells0, e_cellsV, e_cellsO, e_omap, e_slots0, e_slotsV, e_slotsO, e_nodup0, e_nodup1, e_toR_ok, e_toR_ex, e_toF_fr, e_toF_ex, e_backO, e_backV, e_back0, e_tru_int, e_tru_bl, e_stepC, e_range1M, e_augPutM, e_aug1, e_aug2, e_putL, e_revF, listF, tupD, e_wipe0, e_wipeS, e_rest0, e_restS, e_for0, e_nox, e_plain_no, e_plain_va, e_all0, e_allS, Bool.and_self, Bool.true_and, fin_nx, fin_rt, fin_rf, fin_ex, kpD_kpc, e_kpc0, e_kpcS, keepC_pa, keepC_va, keepC_ow, keepC_no, if_true, if_false, Bool.true_eq, Bool.false_eq_true, decide_true, List.length_cons, List.length_nil, and_self, Nat.reduceAdd, Nat.reduceSub, Nat.reduceLeDiff, Nat.reduceEqDiff, Int.reduceNeg, e_fldV, e_objOf_va, e_objOf_ow, e_objOf_pa, e_fldD, e_getS0, e_fldPutM, e_putFD0, e_putFDS, e_recvM, e_makeM, e_makeE, e_makeEx, e_dkIx, e_min2, e_max2, e_rg1F, e_rg2F, e_raiseM2, e_xfM, e_indexM, e_indexV, e_isiM, e_isisM, i_int_int, i_bool_int, i_str_str, i_tup_tup, i_tup_lst, i_lst_lst, i_lst_tup, is_lt_lst, is_lt_tup, is_lt_int, is_lt_str, k3, k4, disp_ok, dk_step (hl c (by simp)), shifted_ok R (step_bd R hq c)]
    exact hh
theorem ring_led_ok {s m h : Int} (R : Rg s m h) {cs : List Nat} {q : Int × Int} (hl : Let cs) (hk : cs.length ≤ 1000) (hq : ok s m q) : F_ring_led [.va (rg s m h), .va (p2 q), .va (.str (S cs))] = .ok (p2 (led s m h cs q)) [.no, .no, .no] := by
  obtain ⟨d3, d4, hh⟩ := led_loop R (t := .va (.str (S cs))) cs q .no .no rfl rfl hl hq
  have hs := is_seat_ok (h := h) hq.1 hq.2.1 hq.2.2.1 hq.2.2.2
  have hw : F_check_class_word [.va (.str (S cs))] = .ok .non [.no] := check_class_word_ok hl hk
  unfold F_ring_led
  rw [bodyF_]
  show (m_ring_led [.va (rg s m h), .va (p2 q), .va (.str (S cs)), .no, .no]).fin 3 = _
  unfold m_ring_led
  simp only [sq_, seq_nx, seq_rt, seq_rf, seq_bk, seq_ct, seq_ex, loop_nx, loop_rt, loop_rf, loop_bk, loop_ct, loop_ex, s_ok_, s_ex_, bind_ok_, bind_ex_, map_ok_, map_ex_, opt_some_, nox_ok_, gd_true_, exprS_, retS_, retFS_, setS_, setOS_, ifS_, forS_, opM_, varR_, asB_, truM_, notM_, andM_, orM_, call1_, lstE_, consM_, aV_, someM_, slM_, raiseM_, andV_, orV_, ifM_, rd_va, rd_ow, rd_pa, addD_int, subD_int, ltG_int, leG_int, gtG_int, geG_int, intD1_int, intD1_bl, absD_int, lenD_lst, lenD_lsx, lenD_tup, canC_no, canC_va, canC_ow, eqD_int, neD_int, eqD_str, neD_str, e_opV, e_varM, e_rdR, e_get0, e_getS, e_set0, e_setS, e_bind, e_cst, e_setM, e_setO, canSet_, e_tgN, e_tgT, e_tgsNil, e_tgsCons, e_asgM, e_parM, e_tupM, e_lstM, e_notV, e_negM, e_seqA, e_chainM, e_callF1, e_sm1M, e_enumM, e_getL, e_list_ow, e_list_pa, e_own_ow, e_own_pa, e_getO, e_setW, e_appendM, e_aO, e_callG, e_cells0, e_cellsV, e_cellsO, e_omap, e_slots0, e_slotsV, e_slotsO, e_nodup0, e_nodup1, e_toR_ok, e_toR_ex, e_toF_fr, e_toF_ex, e_backO, e_backV, e_back0, e_tru_int, e_tru_bl, e_stepC, e_range1M, e_augPutM, e_aug1, e_aug2, e_putL, e_revF, listF, tupD, e_wipe0, e_wipeS, e_rest0, e_restS, e_for0, e_nox, e_plain_no, e_plain_va, e_all0, e_allS, Bool.and_self, Bool.true_and, fin_nx, fin_rt, fin_rf, fin_ex, kpD_kpc, e_kpc0, e_kpcS, keepC_pa, keepC_va, keepC_ow, keepC_no, if_true, if_false, Bool.true_eq, Bool.false_eq_true, decide_true, List.length_cons, List.length_nil, and_self, Nat.reduceAdd, Nat.reduceSub, Nat.reduceLeDiff, Nat.reduceEqDiff, Int.reduceNeg, e_fldV, e_objOf_va, e_objOf_ow, e_objOf_pa, e_fldD, e_getS0, e_fldPutM, e_putFD0, e_putFDS, e_recvM, e_makeM, e_makeE, e_makeEx, e_dkIx, e_min2, e_max2, e_rg1F, e_rg2F, e_raiseM2, e_xfM, e_indexM, e_indexV, e_isiM, e_isisM, i_int_int, i_bool_int, i_str_str, i_tup_tup, i_tup_lst, i_lst_lst, i_lst_tup, is_lt_lst, is_lt_tup, is_lt_int, is_lt_str, tupled3, tupled2, check_ring_ok R, hs, hw, Bool.not_true, signs_S, hh]
theorem plain_can {c : Cell} (h : plainC (some c) = true) : canC c = true := by
  cases c with
  | no => rfl
  | va d => rfl
  | owv w => rfl
  | pav w => cases h
  | xc x => cases h
theorem due_loop {s m h : Int} (R : Rg s m h) {c0 c1 c2 c3 c4 c6 c7 c8 c11 c12 c13 c14 c15 c16 : Cell} : ∀ (cs : List Nat) (q : Int × Int) (c10 : Cell), plainC (some c10) = true → Let cs → ok s m q →
    ∃ d10, plainC (some d10) = true ∧ forM (tgN 10) law_b1 (cs.map chD) [c0, c1, c2, c3, c4, .va (rg s m h), c6, c7, c8, .va (p2 q), c10, c11, c12, c13, c14, c15, c16] = .nx [c0, c1, c2, c3, c4, .va (rg s m h), c6, c7, c8, .va (p2 (led s m h cs q)), d10, c11, c12, c13, c14, c15, c16]
  | [], q, c10, k, _, _ => ⟨c10, k, rfl⟩
  | c :: cs, q, c10, k, hl, hq => by
    obtain ⟨d10, kd, hh⟩ := due_loop R cs (sh s m h q (stepc c)) (.va (chD c)) rfl (fun y hy => hl y (by simp [hy])) (sh_ok R q _)
    refine ⟨d10, kd, ?_⟩
    have k := plain_can k
    rw [List.map_cons, e_forS]
    unfold law_b1
    simp only [sq_, seq_nx, seq_rt, seq_rf, seq_bk, seq_ct, seq_ex, loop_nx, loop_rt, loop_rf, loop_bk, loop_ct, loop_ex, s_ok_, s_ex_, bind_ok_, bind_ex_, map_ok_, map_ex_, opt_some_, nox_ok_, gd_true_, exprS_, retS_, retFS_, setS_, setOS_, ifS_, forS_, opM_, varR_, asB_, truM_, notM_, andM_, orM_, call1_, lstE_, consM_, aV_, someM_, slM_, raiseM_, andV_, orV_, ifM_, rd_va, rd_ow, rd_pa, addD_int, subD_int, ltG_int, leG_int, gtG_int, geG_int, intD1_int, intD1_bl, absD_int, lenD_lst, lenD_lsx, lenD_tup, canC_no, canC_va, canC_ow, eqD_int, neD_int, eqD_str, neD_str, e_opV, e_varM, e_rdR, e_get0, e_getS, e_set0, e_setS, e_bind, e_cst, e_setM, e_setO, canSet_, e_tgN, e_tgT, e_tgsNil, e_tgsCons, e_asgM, e_parM, e_tupM, e_lstM, e_notV, e_negM, e_seqA, e_chainM, e_callF1, e_sm1M, e_enumM, e_getL, e_list_ow, e_list_pa, e_own_ow, e_own_pa, e_getO, e_setW, e_appendM, e_aO, e_callG, e_cells0, e_cellsV, e_cellsO, e_omap, e_slots0, e_slotsV, e_slotsO, e_nodup0, e_nodup1, e_toR_ok, e_toR_ex, e_toF_fr, e_toF_ex, e_backO, e_backV, e_back0, e_tru_int, e_tru_bl, e_stepC, e_range1M, e_augPutM, e_aug1, e_aug2, e_putL, e_revF, listF, tupD, e_wipe0, e_wipeS, e_rest0, e_restS, e_for0, e_nox, e_plain_no, e_plain_va, e_all0, e_allS, Bool.and_self, Bool.true_and, fin_nx, fin_rt, fin_rf, fin_ex, kpD_kpc, e_kpc0, e_kpcS, keepC_pa, keepC_va, keepC_ow, keepC_no, if_true, if_false, Bool.true_eq, Bool.false_eq_true, decide_true, List.length_cons, List.length_nil, and_self, Nat.reduceAdd, Nat.reduceSub, Nat.reduceLeDiff, Nat.reduceEqDiff, Int.reduceNeg, e_fldV, e_objOf_va, e_objOf_ow, e_objOf_pa, e_fldD, e_getS0, e_fldPutM, e_putFD0, e_putFDS, e_recvM, e_makeM, e_makeE, e_makeEx, e_dkIx, e_min2, e_max2, e_rg1F, e_rg2F, e_raiseM2, e_xfM, e_indexM, e_indexV, e_isiM, e_isisM, i_int_int, i_bool_int, i_str_str, i_tup_tup, i_tup_lst, i_lst_lst, i_lst_tup, is_lt_lst, is_lt_tup, is_lt_int, is_lt_str, k, law_one_ok R hq (hl c (by simp))]
    exact hh
/-! ### a word's pair -/
def pairc (cs : List Nat) : Int × Int := ((cs.count 97 : Int) - (cs.count 65 : Int), (cs.count 98 : Int) - (cs.count 66 : Int))
theorem law_pair_ok (cs : List Nat) : F_law_pair [.va (.str (S cs))] = .ok (p2 (pairc cs)) [.no] := by
  have e1 : scountD (S cs) (.str "a") = some (.int (cs.count 97 : Nat)) := by show some (D.int (Txt.count (S cs) (S [97]))) = _; rw [count_one]
  have e2 : scountD (S cs) (.str "A") = some (.int (cs.count 65 : Nat)) := by show some (D.int (Txt.count (S cs) (S [65]))) = _; rw [count_one]
  have e3 : scountD (S cs) (.str "b") = some (.int (cs.count 98 : Nat)) := by show some (D.int (Txt.count (S cs) (S [98]))) = _; rw [count_one]
  have e4 : scountD (S cs) (.str "B") = some (.int (cs.count 66 : Nat)) := by show some (D.int (Txt.count (S cs) (S [66]))) = _; rw [count_one]
  unfold F_law_pair
  rw [bodyF_]
  show (m_law_pair [.va (.str (S cs))]).fin 1 = _
  unfold m_law_pair
  simp only [sq_, seq_nx, seq_rt, seq_rf, seq_bk, seq_ct, seq_ex, loop_nx, loop_rt, loop_rf, loop_bk, loop_ct, loop_ex, s_ok_, s_ex_, bind_ok_, bind_ex_, map_ok_, map_ex_, opt_some_, nox_ok_, gd_true_, exprS_, retS_, retFS_, setS_, setOS_, ifS_, forS_, opM_, varR_, asB_, truM_, notM_, andM_, orM_, call1_, lstE_, consM_, aV_, someM_, slM_, raiseM_, andV_, orV_, ifM_, rd_va, rd_ow, rd_pa, addD_int, subD_int, ltG_int, leG_int, gtG_int, geG_int, intD1_int, intD1_bl, absD_int, lenD_lst, lenD_lsx, lenD_tup, canC_no, canC_va, canC_ow, eqD_int, neD_int, eqD_str, neD_str, e_opV, e_varM, e_rdR, e_get0, e_getS, e_set0, e_setS, e_bind, e_cst, e_setM, e_setO, canSet_, e_tgN, e_tgT, e_tgsNil, e_tgsCons, e_asgM, e_parM, e_tupM, e_lstM, e_notV, e_negM, e_seqA, e_chainM, e_callF1, e_sm1M, e_enumM, e_getL, e_list_ow, e_list_pa, e_own_ow, e_own_pa, e_getO, e_setW, e_appendM, e_aO, e_callG, e_cells0, e_cellsV, e_cellsO, e_omap, e_slots0, e_slotsV, e_slotsO, e_nodup0, e_nodup1, e_toR_ok, e_toR_ex, e_toF_fr, e_toF_ex, e_backO, e_backV, e_back0, e_tru_int, e_tru_bl, e_stepC, e_range1M, e_augPutM, e_aug1, e_aug2, e_putL, e_revF, listF, tupD, e_wipe0, e_wipeS, e_rest0, e_restS, e_for0, e_nox, e_plain_no, e_plain_va, e_all0, e_allS, Bool.and_self, Bool.true_and, fin_nx, fin_rt, fin_rf, fin_ex, kpD_kpc, e_kpc0, e_kpcS, keepC_pa, keepC_va, keepC_ow, keepC_no, if_true, if_false, Bool.true_eq, Bool.false_eq_true, decide_true, List.length_cons, List.length_nil, and_self, Nat.reduceAdd, Nat.reduceSub, Nat.reduceLeDiff, Nat.reduceEqDiff, Int.reduceNeg, e_fldV, e_objOf_va, e_objOf_ow, e_objOf_pa, e_fldD, e_getS0, e_fldPutM, e_putFD0, e_putFDS, e_recvM, e_makeM, e_makeE, e_makeEx, e_dkIx, e_min2, e_max2, e_rg1F, e_rg2F, e_raiseM2, e_xfM, e_indexM, e_indexV, e_isiM, e_isisM, i_int_int, i_bool_int, i_str_str, i_tup_tup, i_tup_lst, i_lst_lst, i_lst_tup, is_lt_lst, is_lt_tup, is_lt_int, is_lt_str, e1, e2, e3, e4, e_gd]
  rfl
theorem sh_zero {s m h : Int} {q : Int × Int} (hq : ok s m q) : sh s m h q (0, 0) = q := by
  obtain ⟨h1, h2, h3, h4⟩ := hq
  show ((q.1 + 0) % m, (q.2 + 0 + (q.1 + 0) / m * h) % s) = _
  rw [Int.add_zero, Int.add_zero, Int.emod_eq_of_lt h1 h2, Int.ediv_eq_zero_of_lt h1 h2, Int.zero_mul, Int.add_zero, Int.emod_eq_of_lt h3 h4]
theorem sh_sh {s m h : Int} (R : Rg s m h) (q d e : Int × Int) : sh s m h (sh s m h q d) e = sh s m h q (d.1 + e.1, d.2 + e.2) := by
  have m1 := R.m1
  have t : (q.1 + d.2) / m + ((q.1 + d.2) % m + e.2) / m = (q.1 + (d.2 + e.2)) / m := by
    have a : q.1 + (d.2 + e.2) = ((q.1 + d.2) % m + e.2) + m * ((q.1 + d.2) / m) := by
      have := Int.emod_add_mul_ediv (q.1 + d.2) m
      omega
    rw [a, Int.add_mul_ediv_left _ _ (by omega), Int.add_comm]
  show (((q.1 + d.2) % m + e.2) % m, ((q.2 + d.1 + (q.1 + d.2) / m * h) % s + e.1 + ((q.1 + d.2) % m + e.2) / m * h) % s) = ((q.1 + (d.2 + e.2)) % m, (q.2 + (d.1 + e.1) + (q.1 + (d.2 + e.2)) / m * h) % s)
  rw [Int.emod_add_emod, Int.add_assoc q.1, ← t, Int.add_assoc ((q.2 + d.1 + (q.1 + d.2) / m * h) % s), Int.emod_add_emod]
  congr 2
  grind
theorem pairc_cons {c : Nat} {cs : List Nat} (h : c = 97 ∨ c = 98 ∨ c = 65 ∨ c = 66) : pairc (c :: cs) = ((stepc c).1 + (pairc cs).1, (stepc c).2 + (pairc cs).2) := by
  unfold pairc
  rcases h with rfl | rfl | rfl | rfl
  all_goals (simp [List.count_cons, stepc]; try omega)
theorem led_pair {s m h : Int} (R : Rg s m h) : ∀ (cs : List Nat) (q : Int × Int), Let cs → ok s m q → led s m h cs q = sh s m h q (pairc cs)
  | [], q, _, hq => (sh_zero hq).symm
  | c :: cs, q, hl, hq => by
    show led s m h cs (sh s m h q (stepc c)) = _
    rw [led_pair R cs _ (fun y hy => hl y (by simp [hy])) (sh_ok R q _), sh_sh R, pairc_cons (hl c (by simp))]
theorem pairc_rev (cs : List Nat) : pairc cs.reverse = pairc cs := by unfold pairc; simp only [List.count_reverse]
theorem pairc_bd {cs : List Nat} (h : cs.length ≤ 1000) : (pairc cs).2.natAbs ≤ 2000 := by
  have a := List.count_le_length (a := 98) (l := cs)
  have b := List.count_le_length (a := 66) (l := cs)
  unfold pairc
  omega
theorem led_ok {s m h : Int} (R : Rg s m h) : ∀ (cs : List Nat) (q : Int × Int), ok s m q → ok s m (led s m h cs q)
  | [], q, hq => hq
  | c :: cs, q, hq => led_ok R cs _ (sh_ok R q _)
/-! ### texts drawn -/
theorem take_fn (l : List Int) (m : Int) (hm : 0 < m) : F_law_take [.pa (l.map D.int), .va (.int m)] = .ok (.int (Cm.tk l m)) [.pa (l.dropLast.map D.int), .no] := Cm.take_ok l m hm
theorem letters_ok (l : List Int) : ∃ (cs : List Nat) (l' : List Int), Let cs ∧ cs.length ≤ 12 ∧ F_law_letters [.pa (l.map D.int), .va (.int 12)] = .ok (.str (S cs)) [.pa (l'.map D.int), .no] := by
  have t := take_fn l 13 (by omega)
  obtain ⟨n, hn, hlt⟩ := Cm.tk_lt l (m := 13) (by omega)
  rw [hn] at t
  have hr : ∀ Δ, rng1 (.int (n : Int)) Δ = .ok (rangeL 0 n) Δ := fun Δ => rng1_nat (by unfold lim62; omega)
  have hl : (rangeL 0 n).length = n := by simp [rangeL]
  have a13 : (12 + 1 : Int) = 13 := by omega
  obtain ⟨acc, Δ', e, cs, l', h1, h2, h3, h4⟩ := lcM_inv (vs := [2]) (mi := range1M (callM F_law_take (aO 0 (aV (opV addD 1 (cst (D.int 1))) (cst ([] : List Arg)))))) (tgt := tgN 2) (cond := cst true) (elt := opM ixD (cst (D.str "abAB")) (callM F_law_take (aO 0 (aV (cst (D.int 4)) (cst ([] : List Arg))))))
    (Δ0 := [.pa (l.map D.int), .va (.int 12), .no]) (Δ := [.pa (l.dropLast.map D.int), .va (.int 12), .no]) (xs := rangeL 0 n)
    (fun k acc Δ => ∃ (cs : List Nat) (l' : List Int), acc = cs.map chD ∧ cs.length = k ∧ Let cs ∧ Δ = [.pa (l'.map D.int), .va (.int 12), .no])
    (by simp only [sq_, seq_nx, seq_rt, seq_rf, seq_bk, seq_ct, seq_ex, loop_nx, loop_rt, loop_rf, loop_bk, loop_ct, loop_ex, s_ok_, s_ex_, bind_ok_, bind_ex_, map_ok_, map_ex_, opt_some_, nox_ok_, gd_true_, exprS_, retS_, retFS_, setS_, setOS_, ifS_, forS_, opM_, varR_, asB_, truM_, notM_, andM_, orM_, call1_, lstE_, consM_, aV_, someM_, slM_, raiseM_, andV_, orV_, ifM_, rd_va, rd_ow, rd_pa, addD_int, subD_int, ltG_int, leG_int, gtG_int, geG_int, intD1_int, intD1_bl, absD_int, lenD_lst, lenD_lsx, lenD_tup, canC_no, canC_va, canC_ow, eqD_int, neD_int, eqD_str, neD_str, e_opV, e_varM, e_rdR, e_get0, e_getS, e_set0, e_setS, e_bind, e_cst, e_setM, e_setO, canSet_, e_tgN, e_tgT, e_tgsNil, e_tgsCons, e_asgM, e_parM, e_tupM, e_lstM, e_notV, e_negM, e_seqA, e_chainM, e_callF1, e_sm1M, e_enumM, e_getL, e_list_ow, e_list_pa, e_own_ow, e_own_pa, e_getO, e_setW, e_appendM, e_aO, e_callG, e_cells0, e_cellsV, e_cellsO, e_omap, e_slots0, e_slotsV, e_slotsO, e_nodup0, e_nodup1, e_toR_ok, e_toR_ex, e_toF_fr, e_toF_ex, e_backO, e_backV, e_back0, e_tru_int, e_tru_bl, e_stepC, e_range1M, e_augPutM, e_aug1, e_aug2, e_putL, e_revF, listF, tupD, e_wipe0, e_wipeS, e_rest0, e_restS, e_for0, e_nox, e_plain_no, e_plain_va, e_all0, e_allS, Bool.and_self, Bool.true_and, fin_nx, fin_rt, fin_rf, fin_ex, kpD_kpc, e_kpc0, e_kpcS, keepC_pa, keepC_va, keepC_ow, keepC_no, if_true, if_false, Bool.true_eq, Bool.false_eq_true, decide_true, List.length_cons, List.length_nil, and_self, Nat.reduceAdd, Nat.reduceSub, Nat.reduceLeDiff, Nat.reduceEqDiff, Int.reduceNeg, e_fldV, e_objOf_va, e_objOf_ow, e_objOf_pa, e_fldD, e_getS0, e_fldPutM, e_putFD0, e_putFDS, e_recvM, e_makeM, e_makeE, e_makeEx, e_dkIx, e_min2, e_max2, e_rg1F, e_rg2F, e_raiseM2, e_xfM, e_indexM, e_indexV, e_isiM, e_isisM, i_int_int, i_bool_int, i_str_str, i_tup_tup, i_tup_lst, i_lst_lst, i_lst_tup, is_lt_lst, is_lt_tup, is_lt_int, is_lt_str, a13, t, hr]) (by rw [hl]; omega) rfl ⟨[], l.dropLast, rfl, rfl, fun q hq => (by cases hq), rfl⟩ fun x hx k acc Δ ⟨cs, l', h1, h2, h3, h4⟩ => by
      subst h4
      have t4 := take_fn l' 4 (by omega)
      obtain ⟨m, hm, hlt⟩ := Cm.tk_lt l' (m := 4) (by omega)
      rw [hm] at t4
      have hc : ∃ c, (c = 97 ∨ c = 98 ∨ c = 65 ∨ c = 66) ∧ ixD (.str "abAB") (.int (m : Int)) = some (chD c) := by
        have : m = 0 ∨ m = 1 ∨ m = 2 ∨ m = 3 := by omega
        rcases this with rfl | rfl | rfl | rfl
        · exact ⟨97, by simp, rfl⟩
        · exact ⟨98, by simp, rfl⟩
        · exact ⟨65, by simp, rfl⟩
        · exact ⟨66, by simp, rfl⟩
      obtain ⟨c, hc1, hc2⟩ := hc
      refine ⟨chD c, [.pa (l'.dropLast.map D.int), .va (.int 12), .no], ?_, cs ++ [c], l'.dropLast, by rw [h1, List.map_append]; rfl, by rw [List.length_append, h2]; rfl, fun d hd => ?_, rfl⟩
      · simp only [sq_, seq_nx, seq_rt, seq_rf, seq_bk, seq_ct, seq_ex, loop_nx, loop_rt, loop_rf, loop_bk, loop_ct, loop_ex, s_ok_, s_ex_, bind_ok_, bind_ex_, map_ok_, map_ex_, opt_some_, nox_ok_, gd_true_, exprS_, retS_, retFS_, setS_, setOS_, ifS_, forS_, opM_, varR_, asB_, truM_, notM_, andM_, orM_, call1_, lstE_, consM_, aV_, someM_, slM_, raiseM_, andV_, orV_, ifM_, rd_va, rd_ow, rd_pa, addD_int, subD_int, ltG_int, leG_int, gtG_int, geG_int, intD1_int, intD1_bl, absD_int, lenD_lst, lenD_lsx, lenD_tup, canC_no, canC_va, canC_ow, eqD_int, neD_int, eqD_str, neD_str, e_opV, e_varM, e_rdR, e_get0, e_getS, e_set0, e_setS, e_bind, e_cst, e_setM, e_setO, canSet_, e_tgN, e_tgT, e_tgsNil, e_tgsCons, e_asgM, e_parM, e_tupM, e_lstM, e_notV, e_negM, e_seqA, e_chainM, e_callF1, e_sm1M, e_enumM, e_getL, e_list_ow, e_list_pa, e_own_ow, e_own_pa, e_getO, e_setW, e_appendM, e_aO, e_callG, e_cells0, e_cellsV, e_cellsO, e_omap, e_slots0, e_slotsV, e_slotsO, e_nodup0, e_nodup1, e_toR_ok, e_toR_ex, e_toF_fr, e_toF_ex, e_backO, e_backV, e_back0, e_tru_int, e_tru_bl, e_stepC, e_range1M, e_augPutM, e_aug1, e_aug2, e_putL, e_revF, listF, tupD, e_wipe0, e_wipeS, e_rest0, e_restS, e_for0, e_nox, e_plain_no, e_plain_va, e_all0, e_allS, Bool.and_self, Bool.true_and, fin_nx, fin_rt, fin_rf, fin_ex, kpD_kpc, e_kpc0, e_kpcS, keepC_pa, keepC_va, keepC_ow, keepC_no, if_true, if_false, Bool.true_eq, Bool.false_eq_true, decide_true, List.length_cons, List.length_nil, and_self, Nat.reduceAdd, Nat.reduceSub, Nat.reduceLeDiff, Nat.reduceEqDiff, Int.reduceNeg, e_fldV, e_objOf_va, e_objOf_ow, e_objOf_pa, e_fldD, e_getS0, e_fldPutM, e_putFD0, e_putFDS, e_recvM, e_makeM, e_makeE, e_makeEx, e_dkIx, e_min2, e_max2, e_rg1F, e_rg2F, e_raiseM2, e_xfM, e_indexM, e_indexV, e_isiM, e_isisM, i_int_int, i_bool_int, i_str_str, i_tup_tup, i_tup_lst, i_lst_lst, i_lst_tup, is_lt_lst, is_lt_tup, is_lt_int, is_lt_str, t4, hc2]
      · rcases List.mem_append.mp hd with hd | hd
        · exact h3 d hd
        · rw [List.mem_singleton.mp hd]; exact hc1
  refine ⟨cs, l', h3, by omega, ?_⟩
  unfold F_law_letters
  rw [bodyF_]
  show (m_law_letters [.pa (l.map D.int), .va (.int 12), .no]).fin 2 = _
  unfold m_law_letters
  rw [h1, h4] at e
  have hj := join_ch cs (by omega)
  simp only [sq_, seq_nx, seq_rt, seq_rf, seq_bk, seq_ct, seq_ex, loop_nx, loop_rt, loop_rf, loop_bk, loop_ct, loop_ex, s_ok_, s_ex_, bind_ok_, bind_ex_, map_ok_, map_ex_, opt_some_, nox_ok_, gd_true_, exprS_, retS_, retFS_, setS_, setOS_, ifS_, forS_, opM_, varR_, asB_, truM_, notM_, andM_, orM_, call1_, lstE_, consM_, aV_, someM_, slM_, raiseM_, andV_, orV_, ifM_, rd_va, rd_ow, rd_pa, addD_int, subD_int, ltG_int, leG_int, gtG_int, geG_int, intD1_int, intD1_bl, absD_int, lenD_lst, lenD_lsx, lenD_tup, canC_no, canC_va, canC_ow, eqD_int, neD_int, eqD_str, neD_str, e_opV, e_varM, e_rdR, e_get0, e_getS, e_set0, e_setS, e_bind, e_cst, e_setM, e_setO, canSet_, e_tgN, e_tgT, e_tgsNil, e_tgsCons, e_asgM, e_parM, e_tupM, e_lstM, e_notV, e_negM, e_seqA, e_chainM, e_callF1, e_sm1M, e_enumM, e_getL, e_list_ow, e_list_pa, e_own_ow, e_own_pa, e_getO, e_setW, e_appendM, e_aO, e_callG, e_cells0, e_cellsV, e_cellsO, e_omap, e_slots0, e_slotsV, e_slotsO, e_nodup0, e_nodup1, e_toR_ok, e_toR_ex, e_toF_fr, e_toF_ex, e_backO, e_backV, e_back0, e_tru_int, e_tru_bl, e_stepC, e_range1M, e_augPutM, e_aug1, e_aug2, e_putL, e_revF, listF, tupD, e_wipe0, e_wipeS, e_rest0, e_restS, e_for0, e_nox, e_plain_no, e_plain_va, e_all0, e_allS, Bool.and_self, Bool.true_and, fin_nx, fin_rt, fin_rf, fin_ex, kpD_kpc, e_kpc0, e_kpcS, keepC_pa, keepC_va, keepC_ow, keepC_no, if_true, if_false, Bool.true_eq, Bool.false_eq_true, decide_true, List.length_cons, List.length_nil, and_self, Nat.reduceAdd, Nat.reduceSub, Nat.reduceLeDiff, Nat.reduceEqDiff, Int.reduceNeg, e_fldV, e_objOf_va, e_objOf_ow, e_objOf_pa, e_fldD, e_getS0, e_fldPutM, e_putFD0, e_putFDS, e_recvM, e_makeM, e_makeE, e_makeEx, e_dkIx, e_min2, e_max2, e_rg1F, e_rg2F, e_raiseM2, e_xfM, e_indexM, e_indexV, e_isiM, e_isisM, i_int_int, i_bool_int, i_str_str, i_tup_tup, i_tup_lst, i_lst_lst, i_lst_tup, is_lt_lst, is_lt_tup, is_lt_int, is_lt_str, e, hj]
end K78
end KL
set_option exponentiation.threshold 100000
/-! k78: one turn of the law. -/
namespace KL
namespace K78
open PySem L2 Cs
theorem pd_p2 (q : Int × Int) : pdN 1 (p2 q) = true := by
  show ([D.int q.1, D.int q.2].all (pdN 0)) = true
  rfl
theorem let_rev {cs : List Nat} (h : Let cs) : Let cs.reverse := fun x hx => h x (List.mem_reverse.mp hx)
theorem e_revSM {m : DEnv → Res D} {Δ : DEnv} : revSM m Δ = (m Δ).bind fun d Δ1 => match d with
  | .str z => if z.length ≤ 16777216 then .ok (.str (revS z)) Δ1 else .stuck
  | _ => .stuck := nr rfl
abbrev P17 (c0 c1 c2 c3 c4 c5 c6 c7 c8 c9 c10 c11 c12 c13 c14 c15 c16 : Cell) : DEnv := [c0, c1, c2, c3, c4, c5, c6, c7, c8, c9, c10, c11, c12, c13, c14, c15, c16]
theorem turn_ok {s m h : Int} (R : Rg s m h) {l : List Int} {c0 c2 c6 c7 c8 c9 c10 : Cell} (k7 : canC c7 = true) (k8 : canC c8 = true) (k9 : canC c9 = true) (k10 : plainC (some c10) = true) :
    ∃ (l' : List Int) (d7 d8 d9 d10 : Cell), plainC (some d7) = true ∧ canC d8 = true ∧ canC d9 = true ∧ plainC (some d10) = true ∧
      law_b2 (P17 c0 (.ow (l.map D.int)) c2 (.va (.int s)) (.va (.int m)) (.va (rg s m h)) c6 c7 c8 c9 c10 .no .no .no .no .no .no) =
        .nx (P17 c0 (.ow (l'.map D.int)) c2 (.va (.int s)) (.va (.int m)) (.va (rg s m h)) c6 d7 d8 d9 d10 .no .no .no .no .no .no) := by
  have m1 := R.m1
  have s1 := R.s1
  have hk : 0 < (if (9 : Int) < m then (9 : Int) else m) := by split <;> omega
  have hk2 : (if (9 : Int) < m then (9 : Int) else m) ≤ m := by split <;> omega
  have t1 := take_fn l _ hk
  obtain ⟨r, hr, hrl⟩ := Cm.tk_lt l hk
  rw [hr] at t1
  have t2 := take_fn l.dropLast 4 (by omega)
  obtain ⟨b, hb, hbl⟩ := Cm.tk_lt l.dropLast (m := 4) (by omega)
  rw [hb] at t2
  obtain ⟨cs, l', hcs, hcl, t3⟩ := letters_ok l.dropLast.dropLast
  have hf : ∀ z : Int, modG (.int z) (.int s) = some (.int (z % s)) := fun z => by rw [modG_int (by omega), Int.fmod_eq_emod_of_nonneg _ (by omega)]
  generalize hq : (((r : Nat) : Int), (s - 1 - (b : Nat)) % s) = q
  have hq1 : q.1 = (r : Nat) := by rw [← hq]
  have hq2 : q.2 = (s - 1 - (b : Nat)) % s := by rw [← hq]
  have hqo : ok s m q := by
    refine ⟨by omega, by omega, ?_, ?_⟩
    · rw [hq2]; exact Int.emod_nonneg _ (by omega)
    · rw [hq2]; exact Int.emod_lt_of_pos _ (by omega)
  have hp : D.tup [.int ((r : Nat) : Int), .int ((s - 1 - (b : Nat)) % s)] = p2 q := by rw [← hq]
  obtain ⟨d10, kd, hd⟩ := due_loop R (c0 := c0) (c1 := .ow (l'.map D.int)) (c2 := c2) (c3 := .va (.int s)) (c4 := .va (.int m)) (c6 := c6) (c7 := .va (p2 q)) (c8 := .va (.str (S cs))) (c11 := .no) (c12 := .no) (c13 := .no) (c14 := .no) (c15 := .no) (c16 := .no) cs q c10 k10 hcs hqo
  have e1 := ring_led_ok R hcs (by omega) hqo
  have e2 := law_pair_ok cs
  have e3 := law_shifted_ok R (q := q) (d := pairc cs) (by
    have := pairc_bd (cs := cs) (by omega)
    have b := R.mb
    obtain ⟨h0, h1, _⟩ := hqo
    omega)
  rw [← led_pair R cs q hcs hqo] at e3
  have e4 := ring_led_ok R (cs := cs.reverse) (q := q) (let_rev hcs) (by rw [List.length_reverse]; omega) hqo
  rw [led_pair R _ q (let_rev hcs) hqo, pairc_rev, ← led_pair R cs q hcs hqo] at e4
  have ne := neD_same (pd_p2 (led s m h cs q)) (by omega)
  have z1 : (S cs).length ≤ 16777216 := by rw [S_len]; omega
  refine ⟨l', .va (p2 q), .va (.str (S cs)), .va (p2 (led s m h cs q)), d10, rfl, rfl, rfl, kd, ?_⟩
  unfold law_b2 P17
  simp only [sq_, seq_nx, seq_rt, seq_rf, seq_bk, seq_ct, seq_ex, loop_nx, loop_rt, loop_rf, loop_bk, loop_ct, loop_ex, s_ok_, s_ex_, bind_ok_, bind_ex_, map_ok_, map_ex_, opt_some_, nox_ok_, gd_true_, exprS_, retS_, retFS_, setS_, setOS_, ifS_, forS_, opM_, varR_, asB_, truM_, notM_, andM_, orM_, call1_, lstE_, consM_, aV_, someM_, slM_, raiseM_, andV_, orV_, ifM_, rd_va, rd_ow, rd_pa, addD_int, subD_int, ltG_int, leG_int, gtG_int, geG_int, intD1_int, intD1_bl, absD_int, lenD_lst, lenD_lsx, lenD_tup, canC_no, canC_va, canC_ow, eqD_int, neD_int, eqD_str, neD_str, e_opV, e_varM, e_rdR, e_get0, e_getS, e_set0, e_setS, e_bind, e_cst, e_setM, e_setO, canSet_, e_tgN, e_tgT, e_tgsNil, e_tgsCons, e_asgM, e_parM, e_tupM, e_lstM, e_notV, e_negM, e_seqA, e_chainM, e_callF1, e_sm1M, e_enumM, e_getL, e_list_ow, e_list_pa, e_own_ow, e_own_pa, e_getO, e_setW, e_appendM, e_aO, e_callG, e_cells0, e_cellsV, e_cellsO, e_omap, e_slots0, e_slotsV, e_slotsO, e_nodup0, e_nodup1, e_toR_ok, e_toR_ex, e_toF_fr, e_toF_ex, e_backO, e_backV, e_back0, e_tru_int, e_tru_bl, e_stepC, e_range1M, e_augPutM, e_aug1, e_aug2, e_putL, e_revF, listF, tupD, e_wipe0, e_wipeS, e_rest0, e_restS, e_for0, e_nox, e_plain_no, e_plain_va, e_all0, e_allS, Bool.and_self, Bool.true_and, fin_nx, fin_rt, fin_rf, fin_ex, kpD_kpc, e_kpc0, e_kpcS, keepC_pa, keepC_va, keepC_ow, keepC_no, if_true, if_false, Bool.true_eq, Bool.false_eq_true, decide_true, List.length_cons, List.length_nil, and_self, Nat.reduceAdd, Nat.reduceSub, Nat.reduceLeDiff, Nat.reduceEqDiff, Int.reduceNeg, e_fldV, e_objOf_va, e_objOf_ow, e_objOf_pa, e_fldD, e_getS0, e_fldPutM, e_putFD0, e_putFDS, e_recvM, e_makeM, e_makeE, e_makeEx, e_dkIx, e_min2, e_max2, e_rg1F, e_rg2F, e_raiseM2, e_xfM, e_indexM, e_indexV, e_isiM, e_isisM, i_int_int, i_bool_int, i_str_str, i_tup_tup, i_tup_lst, i_lst_lst, i_lst_tup, is_lt_lst, is_lt_tup, is_lt_int, is_lt_str, k7, k8, k9, t1, t2, t3, hf, e_gd, hp, signs_S, hd, e1, e2, e3, ne, e_revSM, z1, revS_S, e4]
end K78
end KL
set_option exponentiation.threshold 100000
/-! k78: the society of a ring. -/
namespace KL
namespace K78
open PySem L2 Cs
def sts (a b : Nat) : List (Int × Int) := (List.range b).flatMap fun (r : Nat) => (List.range a).map fun (p : Nat) => ((r : Int), (p : Int))
def cell (a : Nat) (g : Int × Int) : Int := g.1 * a + g.2
def ordL (a b h c : Nat) : List Int := (sts a b).map fun q => cell a (sh a b h q (stepc c))
def good (a b h : Nat) : Bool :=
  (ordL a b h 97).isPerm (upto (a * b)) && (ordL a b h 98).isPerm (upto (a * b)) && decide (sts a b).Nodup &&
  ([97, 98].all fun x => (sts a b).all fun q => decide ((sts a b)[(cell a (sh a b h q (stepc x))).toNat]? = some (sh a b h q (stepc x)))) &&
  ((upto (a * b)).all fun p => decide (walk (ordL a b h 97) (ordL a b h 98) [97, 98] p = walk (ordL a b h 97) (ordL a b h 98) [98, 97] p) && (decide (walk (ordL a b h 97) (ordL a b h 98) [97] p = p) == decide (a = 1)))
theorem all_good : ((List.range 7).all fun a => (List.range 6).all fun b => (List.range a).all fun h => decide (a = 0) || decide (b = 0) || good a b h) = true := by decide +kernel
theorem good_of {a b h : Nat} (ha : 1 ≤ a) (ha6 : a ≤ 6) (hb : 1 ≤ b) (hb5 : b ≤ 5) (hh : h < a) : good a b h = true := by
  have g := all_good
  rw [List.all_eq_true] at g
  have g1 := g a (List.mem_range.mpr (by omega))
  rw [List.all_eq_true] at g1
  have g2 := g1 b (List.mem_range.mpr (by omega))
  rw [List.all_eq_true] at g2
  have g3 := g2 h (List.mem_range.mpr hh)
  rw [decide_eq_false (by omega), decide_eq_false (by omega)] at g3
  exact g3
theorem sts_len (a b : Nat) : (sts a b).length = b * a := by
  unfold sts
  rw [List.length_flatMap]
  simp [List.map_const']
theorem sts_ok {a b : Nat} {q : Int × Int} (h : q ∈ sts a b) : ok a b q := by
  unfold sts at h
  obtain ⟨r, hr, h⟩ := List.mem_flatMap.mp h
  obtain ⟨p, hp, rfl⟩ := List.mem_map.mp h
  have := List.mem_range.mp hr
  have := List.mem_range.mp hp
  exact ⟨by show (0 : Int) ≤ (r : Nat); omega, by show ((r : Nat) : Int) < _; omega, by show (0 : Int) ≤ (p : Nat); omega, by show ((p : Nat) : Int) < _; omega⟩
abbrev P11 (c0 c1 c2 c3 c4 c5 c6 c7 c8 c9 c10 : Cell) : DEnv := [c0, c1, c2, c3, c4, c5, c6, c7, c8, c9, c10]
abbrev stD (a b : Nat) : List D := (sts a b).map p2
theorem goals_ok {a b h : Nat} (R : Rg a b h) {x : Nat} {c4 c5 c7 c8 c9 : Cell} (hl : b * a ≤ 400)
    (h4 : seqA (varM 4) (P11 (.va (rg a b h)) (.va (.int a)) (.va (.int b)) (.va (.int h)) c4 c5 (.va (p2 (stepc x))) c7 c8 c9 .no) = .ok (stD a b) (P11 (.va (rg a b h)) (.va (.int a)) (.va (.int b)) (.va (.int h)) (.va (.lst (stD a b))) c5 (.va (p2 (stepc x))) c7 c8 c9 .no)) :
    lcM [10] (seqA (varM 4)) (tgN 10) (cst true) (callM F_shifted (aV (varM 0) (aV (varM 10) (aV (varM 6) (cst ([] : List Arg)))))) (P11 (.va (rg a b h)) (.va (.int a)) (.va (.int b)) (.va (.int h)) c4 c5 (.va (p2 (stepc x))) c7 c8 c9 .no) =
      .ok ((sts a b).map fun q => p2 (sh a b h q (stepc x))) (P11 (.va (rg a b h)) (.va (.int a)) (.va (.int b)) (.va (.int h)) (.va (.lst (stD a b))) c5 (.va (p2 (stepc x))) c7 c8 c9 .no) := by
  rw [lcM_m p2 (fun q => p2 (sh a b h q (stepc x))) (xs := sts a b) (hi := h4) (hl := by rw [sts_len]; omega) (hp := rfl) (h := fun q hq => ?_)]
  simp only [sq_, seq_nx, seq_rt, seq_rf, seq_bk, seq_ct, seq_ex, loop_nx, loop_rt, loop_rf, loop_bk, loop_ct, loop_ex, s_ok_, s_ex_, bind_ok_, bind_ex_, map_ok_, map_ex_, opt_some_, nox_ok_, gd_true_, exprS_, retS_, retFS_, setS_, setOS_, ifS_, forS_, opM_, varR_, asB_, truM_, notM_, andM_, orM_, call1_, lstE_, consM_, aV_, someM_, slM_, raiseM_, andV_, orV_, ifM_, rd_va, rd_ow, rd_pa, addD_int, subD_int, ltG_int, leG_int, gtG_int, geG_int, intD1_int, intD1_bl, absD_int, lenD_lst, lenD_lsx, lenD_tup, canC_no, canC_va, canC_ow, eqD_int, neD_int, eqD_str, neD_str, e_opV, e_varM, e_rdR, e_get0, e_getS, e_set0, e_setS, e_bind, e_cst, e_setM, e_setO, canSet_, e_tgN, e_tgT, e_tgsNil, e_tgsCons, e_asgM, e_parM, e_tupM, e_lstM, e_notV, e_negM, e_seqA, e_chainM, e_callF1, e_sm1M, e_enumM, e_getL, e_list_ow, e_list_pa, e_own_ow, e_own_pa, e_getO, e_setW, e_appendM, e_aO, e_callG, e_cells0, e_cellsV, e_cellsO, e_omap, e_slots0, e_slotsV, e_slotsO, e_nodup0, e_nodup1, e_toR_ok, e_toR_ex, e_toF_fr, e_toF_ex, e_backO, e_backV, e_back0, e_tru_int, e_tru_bl, e_stepC, e_range1M, e_augPutM, e_aug1, e_aug2, e_putL, e_revF, listF, tupD, e_wipe0, e_wipeS, e_rest0, e_restS, e_for0, e_nox, e_plain_no, e_plain_va, e_all0, e_allS, Bool.and_self, Bool.true_and, fin_nx, fin_rt, fin_rf, fin_ex, kpD_kpc, e_kpc0, e_kpcS, keepC_pa, keepC_va, keepC_ow, keepC_no, if_true, if_false, Bool.true_eq, Bool.false_eq_true, decide_true, List.length_cons, List.length_nil, and_self, Nat.reduceAdd, Nat.reduceSub, Nat.reduceLeDiff, Nat.reduceEqDiff, Int.reduceNeg, e_fldV, e_objOf_va, e_objOf_ow, e_objOf_pa, e_fldD, e_getS0, e_fldPutM, e_putFD0, e_putFDS, e_recvM, e_makeM, e_makeE, e_makeEx, e_dkIx, e_min2, e_max2, e_rg1F, e_rg2F, e_raiseM2, e_xfM, e_indexM, e_indexV, e_isiM, e_isisM, i_int_int, i_bool_int, i_str_str, i_tup_tup, i_tup_lst, i_lst_lst, i_lst_tup, is_lt_lst, is_lt_tup, is_lt_int, is_lt_str, shifted_ok R (step_bd R (sts_ok hq) x)]
theorem rows_ok {a b h : Nat} (R : Rg a b h) {x : Nat} {c4 c5 c6 : Cell} (hl : b * a ≤ 400) :
    lcM [9, 8] (seqA (varM 7)) (tgT 2 (tgsCons (tgN 9) (tgsCons (tgN 8) tgsNil))) (cst true) (opM addD (opV mulG 9 (varR 1)) (varR 8)) (P11 (.va (rg a b h)) (.va (.int a)) (.va (.int b)) (.va (.int h)) c4 c5 c6 (.ow ((sts a b).map fun q => p2 (sh a b h q (stepc x)))) .no .no .no) =
      .ok ((ordL a b h x).map D.int) (P11 (.va (rg a b h)) (.va (.int a)) (.va (.int b)) (.va (.int h)) c4 c5 c6 (.va (.lst ((sts a b).map fun q => p2 (sh a b h q (stepc x))))) .no .no .no) := by
  rw [lcM_m (fun q => p2 (sh a b h q (stepc x))) (fun q => .int (cell a (sh a b h q (stepc x)))) (xs := sts a b) (hi := by simp only [sq_, seq_nx, seq_rt, seq_rf, seq_bk, seq_ct, seq_ex, loop_nx, loop_rt, loop_rf, loop_bk, loop_ct, loop_ex, s_ok_, s_ex_, bind_ok_, bind_ex_, map_ok_, map_ex_, opt_some_, nox_ok_, gd_true_, exprS_, retS_, retFS_, setS_, setOS_, ifS_, forS_, opM_, varR_, asB_, truM_, notM_, andM_, orM_, call1_, lstE_, consM_, aV_, someM_, slM_, raiseM_, andV_, orV_, ifM_, rd_va, rd_ow, rd_pa, addD_int, subD_int, ltG_int, leG_int, gtG_int, geG_int, intD1_int, intD1_bl, absD_int, lenD_lst, lenD_lsx, lenD_tup, canC_no, canC_va, canC_ow, eqD_int, neD_int, eqD_str, neD_str, e_opV, e_varM, e_rdR, e_get0, e_getS, e_set0, e_setS, e_bind, e_cst, e_setM, e_setO, canSet_, e_tgN, e_tgT, e_tgsNil, e_tgsCons, e_asgM, e_parM, e_tupM, e_lstM, e_notV, e_negM, e_seqA, e_chainM, e_callF1, e_sm1M, e_enumM, e_getL, e_list_ow, e_list_pa, e_own_ow, e_own_pa, e_getO, e_setW, e_appendM, e_aO, e_callG, e_cells0, e_cellsV, e_cellsO, e_omap, e_slots0, e_slotsV, e_slotsO, e_nodup0, e_nodup1, e_toR_ok, e_toR_ex, e_toF_fr, e_toF_ex, e_backO, e_backV, e_back0, e_tru_int, e_tru_bl, e_stepC, e_range1M, e_augPutM, e_aug1, e_aug2, e_putL, e_revF, listF, tupD, e_wipe0, e_wipeS, e_rest0, e_restS, e_for0, e_nox, e_plain_no, e_plain_va, e_all0, e_allS, Bool.and_self, Bool.true_and, fin_nx, fin_rt, fin_rf, fin_ex, kpD_kpc, e_kpc0, e_kpcS, keepC_pa, keepC_va, keepC_ow, keepC_no, if_true, if_false, Bool.true_eq, Bool.false_eq_true, decide_true, List.length_cons, List.length_nil, and_self, Nat.reduceAdd, Nat.reduceSub, Nat.reduceLeDiff, Nat.reduceEqDiff, Int.reduceNeg, e_fldV, e_objOf_va, e_objOf_ow, e_objOf_pa, e_fldD, e_getS0, e_fldPutM, e_putFD0, e_putFDS, e_recvM, e_makeM, e_makeE, e_makeEx, e_dkIx, e_min2, e_max2, e_rg1F, e_rg2F, e_raiseM2, e_xfM, e_indexM, e_indexV, e_isiM, e_isisM, i_int_int, i_bool_int, i_str_str, i_tup_tup, i_tup_lst, i_lst_lst, i_lst_tup, is_lt_lst, is_lt_tup, is_lt_int, is_lt_str]; rfl) (hl := by rw [sts_len]; omega) (hp := rfl) (h := fun q hq => ?_)]
  · unfold ordL
    rw [List.map_map]; rfl
  · obtain ⟨h0, h1, _⟩ := sh_ok R q (stepc x)
    have a1 := R.s1
    have hm : mulG (.int (sh a b h q (stepc x)).1) (.int a) = some (.int ((sh a b h q (stepc x)).1 * a)) := mulG_int (a := 80) (b := 80) (nat_of h0 (by have := R.mb; omega)) (nat_of (by omega) R.sb) (by omega)
    simp only [sq_, seq_nx, seq_rt, seq_rf, seq_bk, seq_ct, seq_ex, loop_nx, loop_rt, loop_rf, loop_bk, loop_ct, loop_ex, s_ok_, s_ex_, bind_ok_, bind_ex_, map_ok_, map_ex_, opt_some_, nox_ok_, gd_true_, exprS_, retS_, retFS_, setS_, setOS_, ifS_, forS_, opM_, varR_, asB_, truM_, notM_, andM_, orM_, call1_, lstE_, consM_, aV_, someM_, slM_, raiseM_, andV_, orV_, ifM_, rd_va, rd_ow, rd_pa, addD_int, subD_int, ltG_int, leG_int, gtG_int, geG_int, intD1_int, intD1_bl, absD_int, lenD_lst, lenD_lsx, lenD_tup, canC_no, canC_va, canC_ow, eqD_int, neD_int, eqD_str, neD_str, e_opV, e_varM, e_rdR, e_get0, e_getS, e_set0, e_setS, e_bind, e_cst, e_setM, e_setO, canSet_, e_tgN, e_tgT, e_tgsNil, e_tgsCons, e_asgM, e_parM, e_tupM, e_lstM, e_notV, e_negM, e_seqA, e_chainM, e_callF1, e_sm1M, e_enumM, e_getL, e_list_ow, e_list_pa, e_own_ow, e_own_pa, e_getO, e_setW, e_appendM, e_aO, e_callG, e_cells0, e_cellsV, e_cellsO, e_omap, e_slots0, e_slotsV, e_slotsO, e_nodup0, e_nodup1, e_toR_ok, e_toR_ex, e_toF_fr, e_toF_ex, e_backO, e_backV, e_back0, e_tru_int, e_tru_bl, e_stepC, e_range1M, e_augPutM, e_aug1, e_aug2, e_putL, e_revF, listF, tupD, e_wipe0, e_wipeS, e_rest0, e_restS, e_for0, e_nox, e_plain_no, e_plain_va, e_all0, e_allS, Bool.and_self, Bool.true_and, fin_nx, fin_rt, fin_rf, fin_ex, kpD_kpc, e_kpc0, e_kpcS, keepC_pa, keepC_va, keepC_ow, keepC_no, if_true, if_false, Bool.true_eq, Bool.false_eq_true, decide_true, List.length_cons, List.length_nil, and_self, Nat.reduceAdd, Nat.reduceSub, Nat.reduceLeDiff, Nat.reduceEqDiff, Int.reduceNeg, e_fldV, e_objOf_va, e_objOf_ow, e_objOf_pa, e_fldD, e_getS0, e_fldPutM, e_putFD0, e_putFDS, e_recvM, e_makeM, e_makeE, e_makeEx, e_dkIx, e_min2, e_max2, e_rg1F, e_rg2F, e_raiseM2, e_xfM, e_indexM, e_indexV, e_isiM, e_isisM, i_int_int, i_bool_int, i_str_str, i_tup_tup, i_tup_lst, i_lst_lst, i_lst_tup, is_lt_lst, is_lt_tup, is_lt_int, is_lt_str, hm]
    rfl
theorem seats_ok {a b : Nat} {c0 c3 c4 c5 c6 c7 : Cell} (ha : a ≤ 400) (hb : b ≤ 400) :
    lc2M [9, 8] (range1M (varM 2)) (tgN 9) (cst true) [8] (range1M (varM 1)) (tgN 8) (cst true) (tupM (consM (varM 9) (consM (varM 8) (cst ([] : List D))))) (P11 c0 (.va (.int a)) (.va (.int b)) c3 c4 c5 c6 c7 .no .no .no) =
      .ok (stD a b) (P11 c0 (.va (.int a)) (.va (.int b)) c3 c4 c5 c6 c7 .no .no .no) := by
  have r1 : ∀ Δ, rng1 (.int (a : Int)) Δ = .ok (rangeL 0 a) Δ := fun Δ => rng1_nat (by unfold lim62; omega)
  have r2 : ∀ Δ, rng1 (.int (b : Int)) Δ = .ok (rangeL 0 b) Δ := fun Δ => rng1_nat (by unfold lim62; omega)
  have rl : ∀ n : Nat, rangeL 0 n = (List.range n).map fun (k : Nat) => D.int (k : Int) := fun n => by
    unfold rangeL
    exact List.map_congr_left fun k _ => by rw [Int.zero_add]
  rw [lc2M_m (fun (k : Nat) => D.int (k : Int)) (fun (k : Nat) => D.int (k : Int)) (fun _ => List.range a) (fun r p => p2 ((r : Int), (p : Int))) (xs := List.range b) (Δ := P11 c0 (.va (.int a)) (.va (.int b)) c3 c4 c5 c6 c7 .no .no .no) (hi := by simp only [sq_, seq_nx, seq_rt, seq_rf, seq_bk, seq_ct, seq_ex, loop_nx, loop_rt, loop_rf, loop_bk, loop_ct, loop_ex, s_ok_, s_ex_, bind_ok_, bind_ex_, map_ok_, map_ex_, opt_some_, nox_ok_, gd_true_, exprS_, retS_, retFS_, setS_, setOS_, ifS_, forS_, opM_, varR_, asB_, truM_, notM_, andM_, orM_, call1_, lstE_, consM_, aV_, someM_, slM_, raiseM_, andV_, orV_, ifM_, rd_va, rd_ow, rd_pa, addD_int, subD_int, ltG_int, leG_int, gtG_int, geG_int, intD1_int, intD1_bl, absD_int, lenD_lst, lenD_lsx, lenD_tup, canC_no, canC_va, canC_ow, eqD_int, neD_int, eqD_str, neD_str, e_opV, e_varM, e_rdR, e_get0, e_getS, e_set0, e_setS, e_bind, e_cst, e_setM, e_setO, canSet_, e_tgN, e_tgT, e_tgsNil, e_tgsCons, e_asgM, e_parM, e_tupM, e_lstM, e_notV, e_negM, e_seqA, e_chainM, e_callF1, e_sm1M, e_enumM, e_getL, e_list_ow, e_list_pa, e_own_ow, e_own_pa, e_getO, e_setW, e_appendM, e_aO, e_callG, e_cells0, e_cellsV, e_cellsO, e_omap, e_slots0, e_slotsV, e_slotsO, e_nodup0, e_nodup1, e_toR_ok, e_toR_ex, e_toF_fr, e_toF_ex, e_backO, e_backV, e_back0, e_tru_int, e_tru_bl, e_stepC, e_range1M, e_augPutM, e_aug1, e_aug2, e_putL, e_revF, listF, tupD, e_wipe0, e_wipeS, e_rest0, e_restS, e_for0, e_nox, e_plain_no, e_plain_va, e_all0, e_allS, Bool.and_self, Bool.true_and, fin_nx, fin_rt, fin_rf, fin_ex, kpD_kpc, e_kpc0, e_kpcS, keepC_pa, keepC_va, keepC_ow, keepC_no, if_true, if_false, Bool.true_eq, Bool.false_eq_true, decide_true, List.length_cons, List.length_nil, and_self, Nat.reduceAdd, Nat.reduceSub, Nat.reduceLeDiff, Nat.reduceEqDiff, Int.reduceNeg, e_fldV, e_objOf_va, e_objOf_ow, e_objOf_pa, e_fldD, e_getS0, e_fldPutM, e_putFD0, e_putFDS, e_recvM, e_makeM, e_makeE, e_makeEx, e_dkIx, e_min2, e_max2, e_rg1F, e_rg2F, e_raiseM2, e_xfM, e_indexM, e_indexV, e_isiM, e_isisM, i_int_int, i_bool_int, i_str_str, i_tup_tup, i_tup_lst, i_lst_lst, i_lst_tup, is_lt_lst, is_lt_tup, is_lt_int, is_lt_str, r2, rl]) (hl := by
    have := sts_len a b
    unfold sts at this
    simp only [List.length_flatMap, List.length_map] at this ⊢
    rw [this]
    exact Nat.lt_of_le_of_lt (Nat.mul_le_mul hb ha) (by omega)) (hp := rfl) (h := fun r hr => ?_)]
  · unfold stD sts
    rw [List.map_flatMap]
    simp only [List.map_map]
    rfl
  · refine ⟨P11 c0 (.va (.int a)) (.va (.int b)) c3 c4 c5 c6 c7 .no (.va (.int r)) .no, P11 c0 (.va (.int a)) (.va (.int b)) c3 c4 c5 c6 c7 .no (.va (.int r)) .no, P11 c0 (.va (.int a)) (.va (.int b)) c3 c4 c5 c6 c7 .no (.va (.int r)) .no, rfl, rfl, by simp only [sq_, seq_nx, seq_rt, seq_rf, seq_bk, seq_ct, seq_ex, loop_nx, loop_rt, loop_rf, loop_bk, loop_ct, loop_ex, s_ok_, s_ex_, bind_ok_, bind_ex_, map_ok_, map_ex_, opt_some_, nox_ok_, gd_true_, exprS_, retS_, retFS_, setS_, setOS_, ifS_, forS_, opM_, varR_, asB_, truM_, notM_, andM_, orM_, call1_, lstE_, consM_, aV_, someM_, slM_, raiseM_, andV_, orV_, ifM_, rd_va, rd_ow, rd_pa, addD_int, subD_int, ltG_int, leG_int, gtG_int, geG_int, intD1_int, intD1_bl, absD_int, lenD_lst, lenD_lsx, lenD_tup, canC_no, canC_va, canC_ow, eqD_int, neD_int, eqD_str, neD_str, e_opV, e_varM, e_rdR, e_get0, e_getS, e_set0, e_setS, e_bind, e_cst, e_setM, e_setO, canSet_, e_tgN, e_tgT, e_tgsNil, e_tgsCons, e_asgM, e_parM, e_tupM, e_lstM, e_notV, e_negM, e_seqA, e_chainM, e_callF1, e_sm1M, e_enumM, e_getL, e_list_ow, e_list_pa, e_own_ow, e_own_pa, e_getO, e_setW, e_appendM, e_aO, e_callG, e_cells0, e_cellsV, e_cellsO, e_omap, e_slots0, e_slotsV, e_slotsO, e_nodup0, e_nodup1, e_toR_ok, e_toR_ex, e_toF_fr, e_toF_ex, e_backO, e_backV, e_back0, e_tru_int, e_tru_bl, e_stepC, e_range1M, e_augPutM, e_aug1, e_aug2, e_putL, e_revF, listF, tupD, e_wipe0, e_wipeS, e_rest0, e_restS, e_for0, e_nox, e_plain_no, e_plain_va, e_all0, e_allS, Bool.and_self, Bool.true_and, fin_nx, fin_rt, fin_rf, fin_ex, kpD_kpc, e_kpc0, e_kpcS, keepC_pa, keepC_va, keepC_ow, keepC_no, if_true, if_false, Bool.true_eq, Bool.false_eq_true, decide_true, List.length_cons, List.length_nil, and_self, Nat.reduceAdd, Nat.reduceSub, Nat.reduceLeDiff, Nat.reduceEqDiff, Int.reduceNeg, e_fldV, e_objOf_va, e_objOf_ow, e_objOf_pa, e_fldD, e_getS0, e_fldPutM, e_putFD0, e_putFDS, e_recvM, e_makeM, e_makeE, e_makeEx, e_dkIx, e_min2, e_max2, e_rg1F, e_rg2F, e_raiseM2, e_xfM, e_indexM, e_indexV, e_isiM, e_isisM, i_int_int, i_bool_int, i_str_str, i_tup_tup, i_tup_lst, i_lst_lst, i_lst_tup, is_lt_lst, is_lt_tup, is_lt_int, is_lt_str, r1, rl], rfl, fun p hp => ?_, rfl⟩
    simp only [sq_, seq_nx, seq_rt, seq_rf, seq_bk, seq_ct, seq_ex, loop_nx, loop_rt, loop_rf, loop_bk, loop_ct, loop_ex, s_ok_, s_ex_, bind_ok_, bind_ex_, map_ok_, map_ex_, opt_some_, nox_ok_, gd_true_, exprS_, retS_, retFS_, setS_, setOS_, ifS_, forS_, opM_, varR_, asB_, truM_, notM_, andM_, orM_, call1_, lstE_, consM_, aV_, someM_, slM_, raiseM_, andV_, orV_, ifM_, rd_va, rd_ow, rd_pa, addD_int, subD_int, ltG_int, leG_int, gtG_int, geG_int, intD1_int, intD1_bl, absD_int, lenD_lst, lenD_lsx, lenD_tup, canC_no, canC_va, canC_ow, eqD_int, neD_int, eqD_str, neD_str, e_opV, e_varM, e_rdR, e_get0, e_getS, e_set0, e_setS, e_bind, e_cst, e_setM, e_setO, canSet_, e_tgN, e_tgT, e_tgsNil, e_tgsCons, e_asgM, e_parM, e_tupM, e_lstM, e_notV, e_negM, e_seqA, e_chainM, e_callF1, e_sm1M, e_enumM, e_getL, e_list_ow, e_list_pa, e_own_ow, e_own_pa, e_getO, e_setW, e_appendM, e_aO, e_callG, e_cells0, e_cellsV, e_cellsO, e_omap, e_slots0, e_slotsV, e_slotsO, e_nodup0, e_nodup1, e_toR_ok, e_toR_ex, e_toF_fr, e_toF_ex, e_backO, e_backV, e_back0, e_tru_int, e_tru_bl, e_stepC, e_range1M, e_augPutM, e_aug1, e_aug2, e_putL, e_revF, listF, tupD, e_wipe0, e_wipeS, e_rest0, e_restS, e_for0, e_nox, e_plain_no, e_plain_va, e_all0, e_allS, Bool.and_self, Bool.true_and, fin_nx, fin_rt, fin_rf, fin_ex, kpD_kpc, e_kpc0, e_kpcS, keepC_pa, keepC_va, keepC_ow, keepC_no, if_true, if_false, Bool.true_eq, Bool.false_eq_true, decide_true, List.length_cons, List.length_nil, and_self, Nat.reduceAdd, Nat.reduceSub, Nat.reduceLeDiff, Nat.reduceEqDiff, Int.reduceNeg, e_fldV, e_objOf_va, e_objOf_ow, e_objOf_pa, e_fldD, e_getS0, e_fldPutM, e_putFD0, e_putFDS, e_recvM, e_makeM, e_makeE, e_makeEx, e_dkIx, e_min2, e_max2, e_rg1F, e_rg2F, e_raiseM2, e_xfM, e_indexM, e_indexV, e_isiM, e_isisM, i_int_int, i_bool_int, i_str_str, i_tup_tup, i_tup_lst, i_lst_lst, i_lst_tup, is_lt_lst, is_lt_tup, is_lt_int, is_lt_str, e_gd]
end K78
end KL
set_option exponentiation.threshold 100000
/-! k78: ring_society read. -/
namespace KL
namespace K78
open PySem L2 Cs
theorem b1_ok {a b h : Nat} (R : Rg a b h) {x : Nat} {c4 c7 : Cell} (k7 : canC c7 = true) (hl : b * a ≤ 400) {acc : List D} (hacc : acc.length < 100)
    (h4 : seqA (varM 4) (P11 (.va (rg a b h)) (.va (.int a)) (.va (.int b)) (.va (.int h)) c4 (.ow acc) (.va (p2 (stepc x))) c7 .no .no .no) = .ok (stD a b) (P11 (.va (rg a b h)) (.va (.int a)) (.va (.int b)) (.va (.int h)) (.va (.lst (stD a b))) (.ow acc) (.va (p2 (stepc x))) c7 .no .no .no)) :
    ring_society_b1 (P11 (.va (rg a b h)) (.va (.int a)) (.va (.int b)) (.va (.int h)) c4 (.ow acc) (.va (p2 (stepc x))) c7 .no .no .no) =
      .nx (P11 (.va (rg a b h)) (.va (.int a)) (.va (.int b)) (.va (.int h)) (.va (.lst (stD a b))) (.ow (acc ++ [.lst ((ordL a b h x).map D.int)])) (.va (p2 (stepc x))) (.va (.lst ((sts a b).map fun q => p2 (sh a b h q (stepc x))))) .no .no .no) := by
  have g := goals_ok R (x := x) hl h4
  have r := rows_ok R (x := x) (c4 := .va (.lst (stD a b))) (c5 := .ow acc) (c6 := .va (p2 (stepc x))) hl
  have ha : decide (acc.length < 16777216) = true := decide_eq_true (by omega)
  unfold P11 at g r
  unfold ring_society_b1 P11
  simp only [sq_, seq_nx, seq_rt, seq_rf, seq_bk, seq_ct, seq_ex, loop_nx, loop_rt, loop_rf, loop_bk, loop_ct, loop_ex, s_ok_, s_ex_, bind_ok_, bind_ex_, map_ok_, map_ex_, opt_some_, nox_ok_, gd_true_, exprS_, retS_, retFS_, setS_, setOS_, ifS_, forS_, opM_, varR_, asB_, truM_, notM_, andM_, orM_, call1_, lstE_, consM_, aV_, someM_, slM_, raiseM_, andV_, orV_, ifM_, rd_va, rd_ow, rd_pa, addD_int, subD_int, ltG_int, leG_int, gtG_int, geG_int, intD1_int, intD1_bl, absD_int, lenD_lst, lenD_lsx, lenD_tup, canC_no, canC_va, canC_ow, eqD_int, neD_int, eqD_str, neD_str, e_opV, e_varM, e_rdR, e_get0, e_getS, e_set0, e_setS, e_bind, e_cst, e_setM, e_setO, canSet_, e_tgN, e_tgT, e_tgsNil, e_tgsCons, e_asgM, e_parM, e_tupM, e_lstM, e_notV, e_negM, e_seqA, e_chainM, e_callF1, e_sm1M, e_enumM, e_getL, e_list_ow, e_list_pa, e_own_ow, e_own_pa, e_getO, e_setW, e_appendM, e_aO, e_callG, e_cells0, e_cellsV, e_cellsO, e_omap, e_slots0, e_slotsV, e_slotsO, e_nodup0, e_nodup1, e_toR_ok, e_toR_ex, e_toF_fr, e_toF_ex, e_backO, e_backV, e_back0, e_tru_int, e_tru_bl, e_stepC, e_range1M, e_augPutM, e_aug1, e_aug2, e_putL, e_revF, listF, tupD, e_wipe0, e_wipeS, e_rest0, e_restS, e_for0, e_nox, e_plain_no, e_plain_va, e_all0, e_allS, Bool.and_self, Bool.true_and, fin_nx, fin_rt, fin_rf, fin_ex, kpD_kpc, e_kpc0, e_kpcS, keepC_pa, keepC_va, keepC_ow, keepC_no, if_true, if_false, Bool.true_eq, Bool.false_eq_true, decide_true, List.length_cons, List.length_nil, and_self, Nat.reduceAdd, Nat.reduceSub, Nat.reduceLeDiff, Nat.reduceEqDiff, Int.reduceNeg, e_fldV, e_objOf_va, e_objOf_ow, e_objOf_pa, e_fldD, e_getS0, e_fldPutM, e_putFD0, e_putFDS, e_recvM, e_makeM, e_makeE, e_makeEx, e_dkIx, e_min2, e_max2, e_rg1F, e_rg2F, e_raiseM2, e_xfM, e_indexM, e_indexV, e_isiM, e_isisM, i_int_int, i_bool_int, i_str_str, i_tup_tup, i_tup_lst, i_lst_lst, i_lst_tup, is_lt_lst, is_lt_tup, is_lt_int, is_lt_str, g, r, k7, ha]
theorem ring_society_ok {a b h : Nat} (R : Rg a b h) (hl : b * a ≤ 400) (h1 : 1 ≤ a * b) (ha : a ≤ 400) (hb : b ≤ 400) (T : Two (a * b) (ordL a b h 97) (ordL a b h 98)) :
    F_ring_society [.va (rg a b h)] = .ok (soc (ordL a b h 97) (ordL a b h 98)) [.no] := by
  have hm : mulG (.int a) (.int b) = some (.int (a * b)) := mulG_int (a := 80) (b := 80) (nat_of (by omega) R.sb) (nat_of (by omega) R.mb) (by omega)
  have hab : ¬ (400 : Int) < (a : Int) * (b : Int) := by
    have : ((a : Int) * (b : Int)) = ((a * b : Nat) : Int) := by push_cast; rfl
    rw [this, Nat.mul_comm]
    omega
  have st := seats_ok (a := a) (b := b) (c0 := .va (rg a b h)) (c3 := .va (.int h)) (c4 := .no) (c5 := .no) (c6 := .no) (c7 := .no) ha hb
  have e97 : D.tup [.int 1, .int 0] = p2 (stepc 97) := rfl
  have e98 : D.tup [.int 0, .int 1] = p2 (stepc 98) := rfl
  have f1 := b1_ok R (x := 97) (c4 := .ow (stD a b)) (c7 := .no) rfl hl (acc := []) (by simp) (by unfold P11; simp only [sq_, seq_nx, seq_rt, seq_rf, seq_bk, seq_ct, seq_ex, loop_nx, loop_rt, loop_rf, loop_bk, loop_ct, loop_ex, s_ok_, s_ex_, bind_ok_, bind_ex_, map_ok_, map_ex_, opt_some_, nox_ok_, gd_true_, exprS_, retS_, retFS_, setS_, setOS_, ifS_, forS_, opM_, varR_, asB_, truM_, notM_, andM_, orM_, call1_, lstE_, consM_, aV_, someM_, slM_, raiseM_, andV_, orV_, ifM_, rd_va, rd_ow, rd_pa, addD_int, subD_int, ltG_int, leG_int, gtG_int, geG_int, intD1_int, intD1_bl, absD_int, lenD_lst, lenD_lsx, lenD_tup, canC_no, canC_va, canC_ow, eqD_int, neD_int, eqD_str, neD_str, e_opV, e_varM, e_rdR, e_get0, e_getS, e_set0, e_setS, e_bind, e_cst, e_setM, e_setO, canSet_, e_tgN, e_tgT, e_tgsNil, e_tgsCons, e_asgM, e_parM, e_tupM, e_lstM, e_notV, e_negM, e_seqA, e_chainM, e_callF1, e_sm1M, e_enumM, e_getL, e_list_ow, e_list_pa, e_own_ow, e_own_pa, e_getO, e_setW, e_appendM, e_aO, e_callG, e_cells0, e_cellsV, e_cellsO, e_omap, e_slots0, e_slotsV, e_slotsO, e_nodup0, e_nodup1, e_toR_ok, e_toR_ex, e_toF_fr, e_toF_ex, e_backO, e_backV, e_back0, e_tru_int, e_tru_bl, e_stepC, e_range1M, e_augPutM, e_aug1, e_aug2, e_putL, e_revF, listF, tupD, e_wipe0, e_wipeS, e_rest0, e_restS, e_for0, e_nox, e_plain_no, e_plain_va, e_all0, e_allS, Bool.and_self, Bool.true_and, fin_nx, fin_rt, fin_rf, fin_ex, kpD_kpc, e_kpc0, e_kpcS, keepC_pa, keepC_va, keepC_ow, keepC_no, if_true, if_false, Bool.true_eq, Bool.false_eq_true, decide_true, List.length_cons, List.length_nil, and_self, Nat.reduceAdd, Nat.reduceSub, Nat.reduceLeDiff, Nat.reduceEqDiff, Int.reduceNeg, e_fldV, e_objOf_va, e_objOf_ow, e_objOf_pa, e_fldD, e_getS0, e_fldPutM, e_putFD0, e_putFDS, e_recvM, e_makeM, e_makeE, e_makeEx, e_dkIx, e_min2, e_max2, e_rg1F, e_rg2F, e_raiseM2, e_xfM, e_indexM, e_indexV, e_isiM, e_isisM, i_int_int, i_bool_int, i_str_str, i_tup_tup, i_tup_lst, i_lst_lst, i_lst_tup, is_lt_lst, is_lt_tup, is_lt_int, is_lt_str])
  have f2 := b1_ok R (x := 98) (c4 := .va (.lst (stD a b))) (c7 := .va (.lst ((sts a b).map fun q => p2 (sh a b h q (stepc 97))))) rfl hl (acc := [.lst ((ordL a b h 97).map D.int)]) (by simp) (by unfold P11; simp only [sq_, seq_nx, seq_rt, seq_rf, seq_bk, seq_ct, seq_ex, loop_nx, loop_rt, loop_rf, loop_bk, loop_ct, loop_ex, s_ok_, s_ex_, bind_ok_, bind_ex_, map_ok_, map_ex_, opt_some_, nox_ok_, gd_true_, exprS_, retS_, retFS_, setS_, setOS_, ifS_, forS_, opM_, varR_, asB_, truM_, notM_, andM_, orM_, call1_, lstE_, consM_, aV_, someM_, slM_, raiseM_, andV_, orV_, ifM_, rd_va, rd_ow, rd_pa, addD_int, subD_int, ltG_int, leG_int, gtG_int, geG_int, intD1_int, intD1_bl, absD_int, lenD_lst, lenD_lsx, lenD_tup, canC_no, canC_va, canC_ow, eqD_int, neD_int, eqD_str, neD_str, e_opV, e_varM, e_rdR, e_get0, e_getS, e_set0, e_setS, e_bind, e_cst, e_setM, e_setO, canSet_, e_tgN, e_tgT, e_tgsNil, e_tgsCons, e_asgM, e_parM, e_tupM, e_lstM, e_notV, e_negM, e_seqA, e_chainM, e_callF1, e_sm1M, e_enumM, e_getL, e_list_ow, e_list_pa, e_own_ow, e_own_pa, e_getO, e_setW, e_appendM, e_aO, e_callG, e_cells0, e_cellsV, e_cellsO, e_omap, e_slots0, e_slotsV, e_slotsO, e_nodup0, e_nodup1, e_toR_ok, e_toR_ex, e_toF_fr, e_toF_ex, e_backO, e_backV, e_back0, e_tru_int, e_tru_bl, e_stepC, e_range1M, e_augPutM, e_aug1, e_aug2, e_putL, e_revF, listF, tupD, e_wipe0, e_wipeS, e_rest0, e_restS, e_for0, e_nox, e_plain_no, e_plain_va, e_all0, e_allS, Bool.and_self, Bool.true_and, fin_nx, fin_rt, fin_rf, fin_ex, kpD_kpc, e_kpc0, e_kpcS, keepC_pa, keepC_va, keepC_ow, keepC_no, if_true, if_false, Bool.true_eq, Bool.false_eq_true, decide_true, List.length_cons, List.length_nil, and_self, Nat.reduceAdd, Nat.reduceSub, Nat.reduceLeDiff, Nat.reduceEqDiff, Int.reduceNeg, e_fldV, e_objOf_va, e_objOf_ow, e_objOf_pa, e_fldD, e_getS0, e_fldPutM, e_putFD0, e_putFDS, e_recvM, e_makeM, e_makeE, e_makeEx, e_dkIx, e_min2, e_max2, e_rg1F, e_rg2F, e_raiseM2, e_xfM, e_indexM, e_indexV, e_isiM, e_isisM, i_int_int, i_bool_int, i_str_str, i_tup_tup, i_tup_lst, i_lst_lst, i_lst_tup, is_lt_lst, is_lt_tup, is_lt_int, is_lt_str])
  have ini := init_ok hft T.w T.c h1 (by rw [Nat.mul_comm]; exact hl)
  have ini : F_Society___init__ [.pav (.s "Society" []), .va (.lst ((ordL a b h 97).map D.int)), .va (.lst ((ordL a b h 98).map D.int))] = .ok .non [.pav (.s "Society" (socF (ordL a b h 97) (ordL a b h 98))), .no, .no] := ini
  have i0 : ixD (.lst [.lst ((ordL a b h 97).map D.int), .lst ((ordL a b h 98).map D.int)]) (.int 0) = some (.lst ((ordL a b h 97).map D.int)) := rfl
  have i1 : ixD (.lst [.lst ((ordL a b h 97).map D.int), .lst ((ordL a b h 98).map D.int)]) (.int 1) = some (.lst ((ordL a b h 98).map D.int)) := rfl
  unfold P11 at st f1 f2
  unfold F_ring_society
  rw [bodyF_]
  show (m_ring_society [.va (rg a b h), .no, .no, .no, .no, .no, .no, .no, .no, .no, .no]).fin 1 = _
  unfold m_ring_society
  simp only [sq_, seq_nx, seq_rt, seq_rf, seq_bk, seq_ct, seq_ex, loop_nx, loop_rt, loop_rf, loop_bk, loop_ct, loop_ex, s_ok_, s_ex_, bind_ok_, bind_ex_, map_ok_, map_ex_, opt_some_, nox_ok_, gd_true_, exprS_, retS_, retFS_, setS_, setOS_, ifS_, forS_, opM_, varR_, asB_, truM_, notM_, andM_, orM_, call1_, lstE_, consM_, aV_, someM_, slM_, raiseM_, andV_, orV_, ifM_, rd_va, rd_ow, rd_pa, addD_int, subD_int, ltG_int, leG_int, gtG_int, geG_int, intD1_int, intD1_bl, absD_int, lenD_lst, lenD_lsx, lenD_tup, canC_no, canC_va, canC_ow, eqD_int, neD_int, eqD_str, neD_str, e_opV, e_varM, e_rdR, e_get0, e_getS, e_set0, e_setS, e_bind, e_cst, e_setM, e_setO, canSet_, e_tgN, e_tgT, e_tgsNil, e_tgsCons, e_asgM, e_parM, e_tupM, e_lstM, e_notV, e_negM, e_seqA, e_chainM, e_callF1, e_sm1M, e_enumM, e_getL, e_list_ow, e_list_pa, e_own_ow, e_own_pa, e_getO, e_setW, e_appendM, e_aO, e_callG, e_cells0, e_cellsV, e_cellsO, e_omap, e_slots0, e_slotsV, e_slotsO, e_nodup0, e_nodup1, e_toR_ok, e_toR_ex, e_toF_fr, e_toF_ex, e_backO, e_backV, e_back0, e_tru_int, e_tru_bl, e_stepC, e_range1M, e_augPutM, e_aug1, e_aug2, e_putL, e_revF, listF, tupD, e_wipe0, e_wipeS, e_rest0, e_restS, e_for0, e_nox, e_plain_no, e_plain_va, e_all0, e_allS, Bool.and_self, Bool.true_and, fin_nx, fin_rt, fin_rf, fin_ex, kpD_kpc, e_kpc0, e_kpcS, keepC_pa, keepC_va, keepC_ow, keepC_no, if_true, if_false, Bool.true_eq, Bool.false_eq_true, decide_true, List.length_cons, List.length_nil, and_self, Nat.reduceAdd, Nat.reduceSub, Nat.reduceLeDiff, Nat.reduceEqDiff, Int.reduceNeg, e_fldV, e_objOf_va, e_objOf_ow, e_objOf_pa, e_fldD, e_getS0, e_fldPutM, e_putFD0, e_putFDS, e_recvM, e_makeM, e_makeE, e_makeEx, e_dkIx, e_min2, e_max2, e_rg1F, e_rg2F, e_raiseM2, e_xfM, e_indexM, e_indexV, e_isiM, e_isisM, i_int_int, i_bool_int, i_str_str, i_tup_tup, i_tup_lst, i_lst_lst, i_lst_tup, is_lt_lst, is_lt_tup, is_lt_int, is_lt_str, tupled3, check_ring_ok R, hm, hab, decide_false, st, e_gd, e97, e98, List.nil_append, List.cons_append]
  rw [e_forS]
  simp only [sq_, seq_nx, seq_rt, seq_rf, seq_bk, seq_ct, seq_ex, loop_nx, loop_rt, loop_rf, loop_bk, loop_ct, loop_ex, s_ok_, s_ex_, bind_ok_, bind_ex_, map_ok_, map_ex_, opt_some_, nox_ok_, gd_true_, exprS_, retS_, retFS_, setS_, setOS_, ifS_, forS_, opM_, varR_, asB_, truM_, notM_, andM_, orM_, call1_, lstE_, consM_, aV_, someM_, slM_, raiseM_, andV_, orV_, ifM_, rd_va, rd_ow, rd_pa, addD_int, subD_int, ltG_int, leG_int, gtG_int, geG_int, intD1_int, intD1_bl, absD_int, lenD_lst, lenD_lsx, lenD_tup, canC_no, canC_va, canC_ow, eqD_int, neD_int, eqD_str, neD_str, e_opV, e_varM, e_rdR, e_get0, e_getS, e_set0, e_setS, e_bind, e_cst, e_setM, e_setO, canSet_, e_tgN, e_tgT, e_tgsNil, e_tgsCons, e_asgM, e_parM, e_tupM, e_lstM, e_notV, e_negM, e_seqA, e_chainM, e_callF1, e_sm1M, e_enumM, e_getL, e_list_ow, e_list_pa, e_own_ow, e_own_pa, e_getO, e_setW, e_appendM, e_aO, e_callG, e_cells0, e_cellsV, e_cellsO, e_omap, e_slots0, e_slotsV, e_slotsO, e_nodup0, e_nodup1, e_toR_ok, e_toR_ex, e_toF_fr, e_toF_ex, e_backO, e_backV, e_back0, e_tru_int, e_tru_bl, e_stepC, e_range1M, e_augPutM, e_aug1, e_aug2, e_putL, e_revF, listF, tupD, e_wipe0, e_wipeS, e_rest0, e_restS, e_for0, e_nox, e_plain_no, e_plain_va, e_all0, e_allS, Bool.and_self, Bool.true_and, fin_nx, fin_rt, fin_rf, fin_ex, kpD_kpc, e_kpc0, e_kpcS, keepC_pa, keepC_va, keepC_ow, keepC_no, if_true, if_false, Bool.true_eq, Bool.false_eq_true, decide_true, List.length_cons, List.length_nil, and_self, Nat.reduceAdd, Nat.reduceSub, Nat.reduceLeDiff, Nat.reduceEqDiff, Int.reduceNeg, e_fldV, e_objOf_va, e_objOf_ow, e_objOf_pa, e_fldD, e_getS0, e_fldPutM, e_putFD0, e_putFDS, e_recvM, e_makeM, e_makeE, e_makeEx, e_dkIx, e_min2, e_max2, e_rg1F, e_rg2F, e_raiseM2, e_xfM, e_indexM, e_indexV, e_isiM, e_isisM, i_int_int, i_bool_int, i_str_str, i_tup_tup, i_tup_lst, i_lst_lst, i_lst_tup, is_lt_lst, is_lt_tup, is_lt_int, is_lt_str, f1, List.nil_append, List.cons_append]
  rw [e_forS]
  simp only [sq_, seq_nx, seq_rt, seq_rf, seq_bk, seq_ct, seq_ex, loop_nx, loop_rt, loop_rf, loop_bk, loop_ct, loop_ex, s_ok_, s_ex_, bind_ok_, bind_ex_, map_ok_, map_ex_, opt_some_, nox_ok_, gd_true_, exprS_, retS_, retFS_, setS_, setOS_, ifS_, forS_, opM_, varR_, asB_, truM_, notM_, andM_, orM_, call1_, lstE_, consM_, aV_, someM_, slM_, raiseM_, andV_, orV_, ifM_, rd_va, rd_ow, rd_pa, addD_int, subD_int, ltG_int, leG_int, gtG_int, geG_int, intD1_int, intD1_bl, absD_int, lenD_lst, lenD_lsx, lenD_tup, canC_no, canC_va, canC_ow, eqD_int, neD_int, eqD_str, neD_str, e_opV, e_varM, e_rdR, e_get0, e_getS, e_set0, e_setS, e_bind, e_cst, e_setM, e_setO, canSet_, e_tgN, e_tgT, e_tgsNil, e_tgsCons, e_asgM, e_parM, e_tupM, e_lstM, e_notV, e_negM, e_seqA, e_chainM, e_callF1, e_sm1M, e_enumM, e_getL, e_list_ow, e_list_pa, e_own_ow, e_own_pa, e_getO, e_setW, e_appendM, e_aO, e_callG, e_cells0, e_cellsV, e_cellsO, e_omap, e_slots0, e_slotsV, e_slotsO, e_nodup0, e_nodup1, e_toR_ok, e_toR_ex, e_toF_fr, e_toF_ex, e_backO, e_backV, e_back0, e_tru_int, e_tru_bl, e_stepC, e_range1M, e_augPutM, e_aug1, e_aug2, e_putL, e_revF, listF, tupD, e_wipe0, e_wipeS, e_rest0, e_restS, e_for0, e_nox, e_plain_no, e_plain_va, e_all0, e_allS, Bool.and_self, Bool.true_and, fin_nx, fin_rt, fin_rf, fin_ex, kpD_kpc, e_kpc0, e_kpcS, keepC_pa, keepC_va, keepC_ow, keepC_no, if_true, if_false, Bool.true_eq, Bool.false_eq_true, decide_true, List.length_cons, List.length_nil, and_self, Nat.reduceAdd, Nat.reduceSub, Nat.reduceLeDiff, Nat.reduceEqDiff, Int.reduceNeg, e_fldV, e_objOf_va, e_objOf_ow, e_objOf_pa, e_fldD, e_getS0, e_fldPutM, e_putFD0, e_putFDS, e_recvM, e_makeM, e_makeE, e_makeEx, e_dkIx, e_min2, e_max2, e_rg1F, e_rg2F, e_raiseM2, e_xfM, e_indexM, e_indexV, e_isiM, e_isisM, i_int_int, i_bool_int, i_str_str, i_tup_tup, i_tup_lst, i_lst_lst, i_lst_tup, is_lt_lst, is_lt_tup, is_lt_int, is_lt_str, f2, i0, i1, ini, List.nil_append, List.cons_append]
  rfl
end K78
end KL
set_option exponentiation.threshold 100000
/-! k78: the law's look at the society. -/
namespace KL
namespace K78
open PySem L2 Cs
theorem e_extendM {i : Nat} {me : DEnv → Res D} {Δ : DEnv} : extendM i me Δ = match getL Δ i with
  | none => .stuck
  | some _ => (me Δ).bind fun d Δ1 => match getL Δ1 i, lstOf d with
    | some xs, some ys => gd (decide (xs.length + ys.length ≤ 16777216)) (.ok .non (setL Δ1 i (xs ++ ys)))
    | _, _ => .stuck := nr rfl
theorem e_comp0 {vs : List Nat} {tgt : D → DEnv → Option DEnv} {cond : DEnv → Res Bool} {elt : DEnv → Res D} {acc : List D} {Δ : DEnv} : compM vs tgt cond elt [] acc Δ = .ok acc Δ := nr rfl
theorem e_compS {vs : List Nat} {tgt : D → DEnv → Option DEnv} {cond : DEnv → Res Bool} {elt : DEnv → Res D} {d : D} {ds acc : List D} {Δ : DEnv} : compM vs tgt cond elt (d :: ds) acc Δ = match tgt d (wipeD Δ vs) with
    | none => .stuck
    | some Δ1 => (cond Δ1).nox.bind fun b Δ2 => if b = true then (elt Δ2).nox.bind fun y Δ3 => compM vs tgt cond elt ds (acc ++ [y]) (restD Δ Δ3 vs) else compM vs tgt cond elt ds acc (restD Δ Δ2 vs) := nr rfl
theorem e_lcM {vs : List Nat} {mi : DEnv → Res (List D)} {tgt : D → DEnv → Option DEnv} {cond : DEnv → Res Bool} {elt : DEnv → Res D} {Δ : DEnv} : lcM vs mi tgt cond elt Δ = (mi Δ).bind fun ds Δ1 => gd (decide (ds.length < 16777216) && vs.all fun v => plainC Δ1[v]?) (compM vs tgt cond elt ds [] Δ1) := nr rfl
/-- one row of seats -/
theorem row_ok {a : Nat} {c0 c1 c2 c4 c5 c6 c7 c8 c9 c10 c11 c14 : Cell} (ha : a ≤ 400) {acc : List D} (hacc : acc.length ≤ 10000) {r : Nat} :
    law_b3 (P17 c0 c1 c2 (.va (.int a)) c4 c5 c6 c7 c8 c9 c10 c11 (.ow acc) (.va (.int r)) c14 .no .no) = .nx (P17 c0 c1 c2 (.va (.int a)) c4 c5 c6 c7 c8 c9 c10 c11 (.ow (acc ++ (List.range a).map fun (p : Nat) => p2 ((r : Int), (p : Int)))) (.va (.int r)) c14 .no .no) := by
  have r1 : ∀ Δ, rng1 (.int (a : Int)) Δ = .ok (rangeL 0 a) Δ := fun Δ => rng1_nat (by unfold lim62; omega)
  have rl : ∀ n : Nat, rangeL 0 n = (List.range n).map fun (k : Nat) => D.int (k : Int) := fun n => by
    unfold rangeL
    exact List.map_congr_left fun k _ => by rw [Int.zero_add]
  have hc : lcM [15] (range1M (varM 3)) (tgN 15) (cst true) (tupM (consM (varM 13) (consM (varM 15) (cst ([] : List D))))) (P17 c0 c1 c2 (.va (.int a)) c4 c5 c6 c7 c8 c9 c10 c11 (.ow acc) (.va (.int r)) c14 .no .no) =
      .ok ((List.range a).map fun (p : Nat) => p2 ((r : Int), (p : Int))) (P17 c0 c1 c2 (.va (.int a)) c4 c5 c6 c7 c8 c9 c10 c11 (.ow acc) (.va (.int r)) c14 .no .no) := by
    rw [lcM_m (fun (k : Nat) => D.int (k : Int)) (fun (p : Nat) => p2 ((r : Int), (p : Int))) (xs := List.range a) (hi := by simp only [sq_, seq_nx, seq_rt, seq_rf, seq_bk, seq_ct, seq_ex, loop_nx, loop_rt, loop_rf, loop_bk, loop_ct, loop_ex, s_ok_, s_ex_, bind_ok_, bind_ex_, map_ok_, map_ex_, opt_some_, nox_ok_, gd_true_, exprS_, retS_, retFS_, setS_, setOS_, ifS_, forS_, opM_, varR_, asB_, truM_, notM_, andM_, orM_, call1_, lstE_, consM_, aV_, someM_, slM_, raiseM_, andV_, orV_, ifM_, rd_va, rd_ow, rd_pa, addD_int, subD_int, ltG_int, leG_int, gtG_int, geG_int, intD1_int, intD1_bl, absD_int, lenD_lst, lenD_lsx, lenD_tup, canC_no, canC_va, canC_ow, eqD_int, neD_int, eqD_str, neD_str, e_opV, e_varM, e_rdR, e_get0, e_getS, e_set0, e_setS, e_bind, e_cst, e_setM, e_setO, canSet_, e_tgN, e_tgT, e_tgsNil, e_tgsCons, e_asgM, e_parM, e_tupM, e_lstM, e_notV, e_negM, e_seqA, e_chainM, e_callF1, e_sm1M, e_enumM, e_getL, e_list_ow, e_list_pa, e_own_ow, e_own_pa, e_getO, e_setW, e_appendM, e_aO, e_callG, e_cells0, e_cellsV, e_cellsO, e_omap, e_slots0, e_slotsV, e_slotsO, e_nodup0, e_nodup1, e_toR_ok, e_toR_ex, e_toF_fr, e_toF_ex, e_backO, e_backV, e_back0, e_tru_int, e_tru_bl, e_stepC, e_range1M, e_augPutM, e_aug1, e_aug2, e_putL, e_revF, listF, tupD, e_wipe0, e_wipeS, e_rest0, e_restS, e_for0, e_nox, e_plain_no, e_plain_va, e_all0, e_allS, Bool.and_self, Bool.true_and, fin_nx, fin_rt, fin_rf, fin_ex, kpD_kpc, e_kpc0, e_kpcS, keepC_pa, keepC_va, keepC_ow, keepC_no, if_true, if_false, Bool.true_eq, Bool.false_eq_true, decide_true, List.length_cons, List.length_nil, and_self, Nat.reduceAdd, Nat.reduceSub, Nat.reduceLeDiff, Nat.reduceEqDiff, Int.reduceNeg, e_fldV, e_objOf_va, e_objOf_ow, e_objOf_pa, e_fldD, e_getS0, e_fldPutM, e_putFD0, e_putFDS, e_recvM, e_makeM, e_makeE, e_makeEx, e_dkIx, e_min2, e_max2, e_rg1F, e_rg2F, e_raiseM2, e_xfM, e_indexM, e_indexV, e_isiM, e_isisM, i_int_int, i_bool_int, i_str_str, i_tup_tup, i_tup_lst, i_lst_lst, i_lst_tup, is_lt_lst, is_lt_tup, is_lt_int, is_lt_str, r1, rl]; rfl) (hl := by rw [List.length_range]; omega) (hp := rfl) (h := fun q hq => ?_)]
    simp only [sq_, seq_nx, seq_rt, seq_rf, seq_bk, seq_ct, seq_ex, loop_nx, loop_rt, loop_rf, loop_bk, loop_ct, loop_ex, s_ok_, s_ex_, bind_ok_, bind_ex_, map_ok_, map_ex_, opt_some_, nox_ok_, gd_true_, exprS_, retS_, retFS_, setS_, setOS_, ifS_, forS_, opM_, varR_, asB_, truM_, notM_, andM_, orM_, call1_, lstE_, consM_, aV_, someM_, slM_, raiseM_, andV_, orV_, ifM_, rd_va, rd_ow, rd_pa, addD_int, subD_int, ltG_int, leG_int, gtG_int, geG_int, intD1_int, intD1_bl, absD_int, lenD_lst, lenD_lsx, lenD_tup, canC_no, canC_va, canC_ow, eqD_int, neD_int, eqD_str, neD_str, e_opV, e_varM, e_rdR, e_get0, e_getS, e_set0, e_setS, e_bind, e_cst, e_setM, e_setO, canSet_, e_tgN, e_tgT, e_tgsNil, e_tgsCons, e_asgM, e_parM, e_tupM, e_lstM, e_notV, e_negM, e_seqA, e_chainM, e_callF1, e_sm1M, e_enumM, e_getL, e_list_ow, e_list_pa, e_own_ow, e_own_pa, e_getO, e_setW, e_appendM, e_aO, e_callG, e_cells0, e_cellsV, e_cellsO, e_omap, e_slots0, e_slotsV, e_slotsO, e_nodup0, e_nodup1, e_toR_ok, e_toR_ex, e_toF_fr, e_toF_ex, e_backO, e_backV, e_back0, e_tru_int, e_tru_bl, e_stepC, e_range1M, e_augPutM, e_aug1, e_aug2, e_putL, e_revF, listF, tupD, e_wipe0, e_wipeS, e_rest0, e_restS, e_for0, e_nox, e_plain_no, e_plain_va, e_all0, e_allS, Bool.and_self, Bool.true_and, fin_nx, fin_rt, fin_rf, fin_ex, kpD_kpc, e_kpc0, e_kpcS, keepC_pa, keepC_va, keepC_ow, keepC_no, if_true, if_false, Bool.true_eq, Bool.false_eq_true, decide_true, List.length_cons, List.length_nil, and_self, Nat.reduceAdd, Nat.reduceSub, Nat.reduceLeDiff, Nat.reduceEqDiff, Int.reduceNeg, e_fldV, e_objOf_va, e_objOf_ow, e_objOf_pa, e_fldD, e_getS0, e_fldPutM, e_putFD0, e_putFDS, e_recvM, e_makeM, e_makeE, e_makeEx, e_dkIx, e_min2, e_max2, e_rg1F, e_rg2F, e_raiseM2, e_xfM, e_indexM, e_indexV, e_isiM, e_isisM, i_int_int, i_bool_int, i_str_str, i_tup_tup, i_tup_lst, i_lst_lst, i_lst_tup, is_lt_lst, is_lt_tup, is_lt_int, is_lt_str, e_gd]
  have hl : ∀ ds : List D, lstOf (.lst ds) = some ds := fun ds => rfl
  have hd : decide (acc.length + ((List.range a).map fun (p : Nat) => p2 ((r : Int), (p : Int))).length ≤ 16777216) = true := decide_eq_true (by rw [List.length_map, List.length_range]; omega)
  unfold P17 at hc ⊢
  unfold law_b3
  simp only [sq_, seq_nx, seq_rt, seq_rf, seq_bk, seq_ct, seq_ex, loop_nx, loop_rt, loop_rf, loop_bk, loop_ct, loop_ex, s_ok_, s_ex_, bind_ok_, bind_ex_, map_ok_, map_ex_, opt_some_, nox_ok_, gd_true_, exprS_, retS_, retFS_, setS_, setOS_, ifS_, forS_, opM_, varR_, asB_, truM_, notM_, andM_, orM_, call1_, lstE_, consM_, aV_, someM_, slM_, raiseM_, andV_, orV_, ifM_, rd_va, rd_ow, rd_pa, addD_int, subD_int, ltG_int, leG_int, gtG_int, geG_int, intD1_int, intD1_bl, absD_int, lenD_lst, lenD_lsx, lenD_tup, canC_no, canC_va, canC_ow, eqD_int, neD_int, eqD_str, neD_str, e_opV, e_varM, e_rdR, e_get0, e_getS, e_set0, e_setS, e_bind, e_cst, e_setM, e_setO, canSet_, e_tgN, e_tgT, e_tgsNil, e_tgsCons, e_asgM, e_parM, e_tupM, e_lstM, e_notV, e_negM, e_seqA, e_chainM, e_callF1, e_sm1M, e_enumM, e_getL, e_list_ow, e_list_pa, e_own_ow, e_own_pa, e_getO, e_setW, e_appendM, e_aO, e_callG, e_cells0, e_cellsV, e_cellsO, e_omap, e_slots0, e_slotsV, e_slotsO, e_nodup0, e_nodup1, e_toR_ok, e_toR_ex, e_toF_fr, e_toF_ex, e_backO, e_backV, e_back0, e_tru_int, e_tru_bl, e_stepC, e_range1M, e_augPutM, e_aug1, e_aug2, e_putL, e_revF, listF, tupD, e_wipe0, e_wipeS, e_rest0, e_restS, e_for0, e_nox, e_plain_no, e_plain_va, e_all0, e_allS, Bool.and_self, Bool.true_and, fin_nx, fin_rt, fin_rf, fin_ex, kpD_kpc, e_kpc0, e_kpcS, keepC_pa, keepC_va, keepC_ow, keepC_no, if_true, if_false, Bool.true_eq, Bool.false_eq_true, decide_true, List.length_cons, List.length_nil, and_self, Nat.reduceAdd, Nat.reduceSub, Nat.reduceLeDiff, Nat.reduceEqDiff, Int.reduceNeg, e_fldV, e_objOf_va, e_objOf_ow, e_objOf_pa, e_fldD, e_getS0, e_fldPutM, e_putFD0, e_putFDS, e_recvM, e_makeM, e_makeE, e_makeEx, e_dkIx, e_min2, e_max2, e_rg1F, e_rg2F, e_raiseM2, e_xfM, e_indexM, e_indexV, e_isiM, e_isisM, i_int_int, i_bool_int, i_str_str, i_tup_tup, i_tup_lst, i_lst_lst, i_lst_tup, is_lt_lst, is_lt_tup, is_lt_int, is_lt_str, e_extendM, hc, hl, hd]
theorem rows_loop {a : Nat} {c0 c1 c2 c4 c5 c6 c7 c8 c9 c10 c11 c14 : Cell} (ha : a ≤ 400) : ∀ (rs : List Nat) (acc : List D) (c13 : Cell), canC c13 = true → acc.length + rs.length * a ≤ 10000 →
    ∃ d13, canC d13 = true ∧ forM (tgN 13) law_b3 (rs.map fun (k : Nat) => D.int (k : Int)) (P17 c0 c1 c2 (.va (.int a)) c4 c5 c6 c7 c8 c9 c10 c11 (.ow acc) c13 c14 .no .no) =
      .nx (P17 c0 c1 c2 (.va (.int a)) c4 c5 c6 c7 c8 c9 c10 c11 (.ow (acc ++ rs.flatMap fun (r : Nat) => (List.range a).map fun (p : Nat) => p2 ((r : Int), (p : Int)))) d13 c14 .no .no)
  | [], acc, c13, k, _ => ⟨c13, k, by rw [List.flatMap_nil, List.append_nil]; rfl⟩
  | r :: rs, acc, c13, k, hl => by
    rw [List.length_cons, Nat.succ_mul] at hl
    obtain ⟨d13, kd, hh⟩ := rows_loop (c0 := c0) (c1 := c1) (c2 := c2) (c4 := c4) (c5 := c5) (c6 := c6) (c7 := c7) (c8 := c8) (c9 := c9) (c10 := c10) (c11 := c11) (c14 := c14) ha rs (acc ++ (List.range a).map fun (p : Nat) => p2 ((r : Int), (p : Int))) (.va (.int r)) rfl (by rw [List.length_append, List.length_map, List.length_range]; omega)
    refine ⟨d13, kd, ?_⟩
    have hr := row_ok (c0 := c0) (c1 := c1) (c2 := c2) (c4 := c4) (c5 := c5) (c6 := c6) (c7 := c7) (c8 := c8) (c9 := c9) (c10 := c10) (c11 := c11) (c14 := c14) ha (acc := acc) (r := r) (by omega)
    unfold P17 at hh hr ⊢
    rw [List.map_cons, e_forS]
    simp only [sq_, seq_nx, seq_rt, seq_rf, seq_bk, seq_ct, seq_ex, loop_nx, loop_rt, loop_rf, loop_bk, loop_ct, loop_ex, s_ok_, s_ex_, bind_ok_, bind_ex_, map_ok_, map_ex_, opt_some_, nox_ok_, gd_true_, exprS_, retS_, retFS_, setS_, setOS_, ifS_, forS_, opM_, varR_, asB_, truM_, notM_, andM_, orM_, call1_, lstE_, consM_, aV_, someM_, slM_, raiseM_, andV_, orV_, ifM_, rd_va, rd_ow, rd_pa, addD_int, subD_int, ltG_int, leG_int, gtG_int, geG_int, intD1_int, intD1_bl, absD_int, lenD_lst, lenD_lsx, lenD_tup, canC_no, canC_va, canC_ow, eqD_int, neD_int, eqD_str, neD_str, e_opV, e_varM, e_rdR, e_get0, e_getS, e_set0, e_setS, e_bind, e_cst, e_setM, e_setO, canSet_, e_tgN, e_tgT, e_tgsNil, e_tgsCons, e_asgM, e_parM, e_tupM, e_lstM, e_notV, e_negM, e_seqA, e_chainM, e_callF1, e_sm1M, e_enumM, e_getL, e_list_ow, e_list_pa, e_own_ow, e_own_pa, e_getO, e_setW, e_appendM, e_aO, e_callG, e_cells0, e_cellsV, e_cellsO, e_omap, e_slots0, e_slotsV, e_slotsO, e_nodup0, e_nodup1, e_toR_ok, e_toR_ex, e_toF_fr, e_toF_ex, e_backO, e_backV, e_back0, e_tru_int, e_tru_bl, e_stepC, e_range1M, e_augPutM, e_aug1, e_aug2, e_putL, e_revF, listF, tupD, e_wipe0, e_wipeS, e_rest0, e_restS, e_for0, e_nox, e_plain_no, e_plain_va, e_all0, e_allS, Bool.and_self, Bool.true_and, fin_nx, fin_rt, fin_rf, fin_ex, kpD_kpc, e_kpc0, e_kpcS, keepC_pa, keepC_va, keepC_ow, keepC_no, if_true, if_false, Bool.true_eq, Bool.false_eq_true, decide_true, List.length_cons, List.length_nil, and_self, Nat.reduceAdd, Nat.reduceSub, Nat.reduceLeDiff, Nat.reduceEqDiff, Int.reduceNeg, e_fldV, e_objOf_va, e_objOf_ow, e_objOf_pa, e_fldD, e_getS0, e_fldPutM, e_putFD0, e_putFDS, e_recvM, e_makeM, e_makeE, e_makeEx, e_dkIx, e_min2, e_max2, e_rg1F, e_rg2F, e_raiseM2, e_xfM, e_indexM, e_indexV, e_isiM, e_isisM, i_int_int, i_bool_int, i_str_str, i_tup_tup, i_tup_lst, i_lst_lst, i_lst_tup, is_lt_lst, is_lt_tup, is_lt_int, is_lt_str, k, hr]
    rw [List.flatMap_cons, ← List.append_assoc]
    exact hh
theorem rows_sts (a b : Nat) : ((List.range b).flatMap fun (r : Nat) => (List.range a).map fun (p : Nat) => p2 ((r : Int), (p : Int))) = stD a b := by
  unfold stD sts
  rw [List.map_flatMap]
  simp only [List.map_map]
  rfl
structure Good (a b h : Nat) : Prop where
  two : Two (a * b) (ordL a b h 97) (ordL a b h 98)
  nd : (sts a b).Nodup
  at_ : ∀ x, x = 97 ∨ x = 98 → ∀ q ∈ sts a b, (sts a b)[(cell a (sh a b h q (stepc x))).toNat]? = some (sh a b h q (stepc x))
  ab : ∀ p ∈ upto (a * b), walk (ordL a b h 97) (ordL a b h 98) [97, 98] p = walk (ordL a b h 97) (ordL a b h 98) [98, 97] p
  one : ∀ p ∈ upto (a * b), decide (walk (ordL a b h 97) (ordL a b h 98) [97] p = p) = decide (a = 1)
theorem Good.mk' {a b h : Nat} (g : good a b h = true) : Good a b h := by
  unfold good at g
  simp only [Bool.and_eq_true, List.all_eq_true, decide_eq_true_eq, List.isPerm_iff, beq_iff_eq] at g
  obtain ⟨⟨⟨⟨g1, g2⟩, g3⟩, g4⟩, g5⟩ := g
  exact ⟨⟨g1, g2⟩, g3, fun x hx q hq => g4 x (by rcases hx with rfl | rfl <;> simp) q hq, fun p hp => (g5 p hp).1, fun p hp => (g5 p hp).2⟩
theorem index_ok {a b h : Nat} (R : Rg a b h) (G : Good a b h) {x : Nat} (hx : x = 97 ∨ x = 98) {q : Int × Int} (hq : q ∈ sts a b) : indexD (.lst (stD a b)) (p2 (sh a b h q (stepc x))) = some (.int (cell a (sh a b h q (stepc x)))) := by
  have e := G.at_ x hx q hq
  obtain ⟨h0, _, h2, _⟩ := sh_ok R q (stepc x)
  have c0 : 0 ≤ cell a (sh a b h q (stepc x)) := by
    unfold cell
    have := Int.mul_nonneg h0 (Int.natCast_nonneg a)
    omega
  have inj : ∀ u v : Int × Int, p2 u = p2 v → u = v := fun u v z => by
    injection z with z
    injection z with z1 z2
    injection z1 with z1
    injection z2 with z2 _
    injection z2 with z2
    exact Prod.ext z1 z2
  have r := indexD_pd (n := 1) (e := p2 (sh a b h q (stepc x))) (ds := stD a b) (k := (cell a (sh a b h q (stepc x))).toNat) (by omega) (pd_p2 _) (fun d hd => by obtain ⟨u, _, rfl⟩ := List.mem_map.mp hd; exact pd_p2 u) (by
    show ((sts a b).map p2)[_]? = _
    rw [List.getElem?_map, e]; rfl) (fun k hk z => by
    have z : ((sts a b).map p2)[k]? = some (p2 (sh a b h q (stepc x))) := z
    rw [List.getElem?_map] at z
    obtain ⟨u, hu, hu2⟩ := Option.map_eq_some_iff.mp z
    rw [inj _ _ hu2, ← e] at hu
    have hlt : k < (sts a b).length := by
      rw [e] at hu
      exact (List.getElem?_eq_some_iff.mp hu).1
    exact absurd ((List.getElem?_inj hlt G.nd).mp hu) (by omega))
  rw [r, Int.toNat_of_nonneg c0]
/-- the orders that the law makes -/
theorem orders_ok {a b h : Nat} (R : Rg a b h) (G : Good a b h) (hl : b * a ≤ 400) {c0 c1 c2 c3 c4 c6 c7 c8 c9 c10 c11 c13 : Cell} (p7 : plainC (some c7) = true) (p10 : plainC (some c10) = true) :
    lcM [10] (seqA (tupM (consM (cst (D.str "a")) (consM (cst (D.str "b")) (cst ([] : List D)))))) (tgN 10) (cst true) (call1 tupD (lstE (lcM [7] (seqA (varM 12)) (tgN 7) (cst true) (indexV 12 (callM F_law_one (aV (varM 5) (aV (varM 7) (aV (varM 10) (cst ([] : List Arg))))))))))
      (P17 c0 c1 c2 c3 c4 (.va (rg a b h)) c6 c7 c8 c9 c10 c11 (.ow (stD a b)) c13 .no .no .no) =
    .ok [itup (ordL a b h 97), itup (ordL a b h 98)] (P17 c0 c1 c2 c3 c4 (.va (rg a b h)) c6 c7 c8 c9 c10 c11 (.va (.lst (stD a b))) c13 .no .no .no) := by
  have key : ∀ (x : Nat) (hx : x = 97 ∨ x = 98) (c12 : Cell), seqA (varM 12) (P17 c0 c1 c2 c3 c4 (.va (rg a b h)) c6 c7 c8 c9 (.va (chD x)) c11 c12 c13 .no .no .no) = .ok (stD a b) (P17 c0 c1 c2 c3 c4 (.va (rg a b h)) c6 c7 c8 c9 (.va (chD x)) c11 (.va (.lst (stD a b))) c13 .no .no .no) →
      lcM [7] (seqA (varM 12)) (tgN 7) (cst true) (indexV 12 (callM F_law_one (aV (varM 5) (aV (varM 7) (aV (varM 10) (cst ([] : List Arg))))))) (P17 c0 c1 c2 c3 c4 (.va (rg a b h)) c6 c7 c8 c9 (.va (chD x)) c11 c12 c13 .no .no .no) =
        .ok ((ordL a b h x).map D.int) (P17 c0 c1 c2 c3 c4 (.va (rg a b h)) c6 c7 c8 c9 (.va (chD x)) c11 (.va (.lst (stD a b))) c13 .no .no .no) := by
    intro x hx c12 hi
    rw [lcM_m p2 (fun q => .int (cell a (sh a b h q (stepc x)))) (xs := sts a b) (hi := hi) (hl := by rw [sts_len]; omega) (hp := by simp only [sq_, seq_nx, seq_rt, seq_rf, seq_bk, seq_ct, seq_ex, loop_nx, loop_rt, loop_rf, loop_bk, loop_ct, loop_ex, s_ok_, s_ex_, bind_ok_, bind_ex_, map_ok_, map_ex_, opt_some_, nox_ok_, gd_true_, exprS_, retS_, retFS_, setS_, setOS_, ifS_, forS_, opM_, varR_, asB_, truM_, notM_, andM_, orM_, call1_, lstE_, consM_, aV_, someM_, slM_, raiseM_, andV_, orV_, ifM_, rd_va, rd_ow, rd_pa, addD_int, subD_int, ltG_int, leG_int, gtG_int, geG_int, intD1_int, intD1_bl, absD_int, lenD_lst, lenD_lsx, lenD_tup, canC_no, canC_va, canC_ow, eqD_int, neD_int, eqD_str, neD_str, e_opV, e_varM, e_rdR, e_get0, e_getS, e_set0, e_setS, e_bind, e_cst, e_setM, e_setO, canSet_, e_tgN, e_tgT, e_tgsNil, e_tgsCons, e_asgM, e_parM, e_tupM, e_lstM, e_notV, e_negM, e_seqA, e_chainM, e_callF1, e_sm1M, e_enumM, e_getL, e_list_ow, e_list_pa, e_own_ow, e_own_pa, e_getO, e_setW, e_appendM, e_aO, e_callG, e_cells0, e_cellsV, e_cellsO, e_omap, e_slots0, e_slotsV, e_slotsO, e_nodup0, e_nodup1, e_toR_ok, e_toR_ex, e_toF_fr, e_toF_ex, e_backO, e_backV, e_back0, e_tru_int, e_tru_bl, e_stepC, e_range1M, e_augPutM, e_aug1, e_aug2, e_putL, e_revF, listF, tupD, e_wipe0, e_wipeS, e_rest0, e_restS, e_for0, e_nox, e_plain_no, e_plain_va, e_all0, e_allS, Bool.and_self, Bool.true_and, fin_nx, fin_rt, fin_rf, fin_ex, kpD_kpc, e_kpc0, e_kpcS, keepC_pa, keepC_va, keepC_ow, keepC_no, if_true, if_false, Bool.true_eq, Bool.false_eq_true, decide_true, List.length_cons, List.length_nil, and_self, Nat.reduceAdd, Nat.reduceSub, Nat.reduceLeDiff, Nat.reduceEqDiff, Int.reduceNeg, e_fldV, e_objOf_va, e_objOf_ow, e_objOf_pa, e_fldD, e_getS0, e_fldPutM, e_putFD0, e_putFDS, e_recvM, e_makeM, e_makeE, e_makeEx, e_dkIx, e_min2, e_max2, e_rg1F, e_rg2F, e_raiseM2, e_xfM, e_indexM, e_indexV, e_isiM, e_isisM, i_int_int, i_bool_int, i_str_str, i_tup_tup, i_tup_lst, i_lst_lst, i_lst_tup, is_lt_lst, is_lt_tup, is_lt_int, is_lt_str, p7]) (h := fun q hq => ?_)]
    · unfold ordL
      rw [List.map_map]; rfl
    · simp only [sq_, seq_nx, seq_rt, seq_rf, seq_bk, seq_ct, seq_ex, loop_nx, loop_rt, loop_rf, loop_bk, loop_ct, loop_ex, s_ok_, s_ex_, bind_ok_, bind_ex_, map_ok_, map_ex_, opt_some_, nox_ok_, gd_true_, exprS_, retS_, retFS_, setS_, setOS_, ifS_, forS_, opM_, varR_, asB_, truM_, notM_, andM_, orM_, call1_, lstE_, consM_, aV_, someM_, slM_, raiseM_, andV_, orV_, ifM_, rd_va, rd_ow, rd_pa, addD_int, subD_int, ltG_int, leG_int, gtG_int, geG_int, intD1_int, intD1_bl, absD_int, lenD_lst, lenD_lsx, lenD_tup, canC_no, canC_va, canC_ow, eqD_int, neD_int, eqD_str, neD_str, e_opV, e_varM, e_rdR, e_get0, e_getS, e_set0, e_setS, e_bind, e_cst, e_setM, e_setO, canSet_, e_tgN, e_tgT, e_tgsNil, e_tgsCons, e_asgM, e_parM, e_tupM, e_lstM, e_notV, e_negM, e_seqA, e_chainM, e_callF1, e_sm1M, e_enumM, e_getL, e_list_ow, e_list_pa, e_own_ow, e_own_pa, e_getO, e_setW, e_appendM, e_aO, e_callG, e_cells0, e_cellsV, e_cellsO, e_omap, e_slots0, e_slotsV, e_slotsO, e_nodup0, e_nodup1, e_toR_ok, e_toR_ex, e_toF_fr, e_toF_ex, e_backO, e_backV, e_back0, e_tru_int, e_tru_bl, e_stepC, e_range1M, e_augPutM, e_aug1, e_aug2, e_putL, e_revF, listF, tupD, e_wipe0, e_wipeS, e_rest0, e_restS, e_for0, e_nox, e_plain_no, e_plain_va, e_all0, e_allS, Bool.and_self, Bool.true_and, fin_nx, fin_rt, fin_rf, fin_ex, kpD_kpc, e_kpc0, e_kpcS, keepC_pa, keepC_va, keepC_ow, keepC_no, if_true, if_false, Bool.true_eq, Bool.false_eq_true, decide_true, List.length_cons, List.length_nil, and_self, Nat.reduceAdd, Nat.reduceSub, Nat.reduceLeDiff, Nat.reduceEqDiff, Int.reduceNeg, e_fldV, e_objOf_va, e_objOf_ow, e_objOf_pa, e_fldD, e_getS0, e_fldPutM, e_putFD0, e_putFDS, e_recvM, e_makeM, e_makeE, e_makeEx, e_dkIx, e_min2, e_max2, e_rg1F, e_rg2F, e_raiseM2, e_xfM, e_indexM, e_indexV, e_isiM, e_isisM, i_int_int, i_bool_int, i_str_str, i_tup_tup, i_tup_lst, i_lst_lst, i_lst_tup, is_lt_lst, is_lt_tup, is_lt_int, is_lt_str, law_one_ok R (sts_ok hq) (c := x) (by rcases hx with rfl | rfl <;> simp), index_ok R G hx hq]
  have k1 := key 97 (.inl rfl) (.ow (stD a b)) (by unfold P17; simp only [sq_, seq_nx, seq_rt, seq_rf, seq_bk, seq_ct, seq_ex, loop_nx, loop_rt, loop_rf, loop_bk, loop_ct, loop_ex, s_ok_, s_ex_, bind_ok_, bind_ex_, map_ok_, map_ex_, opt_some_, nox_ok_, gd_true_, exprS_, retS_, retFS_, setS_, setOS_, ifS_, forS_, opM_, varR_, asB_, truM_, notM_, andM_, orM_, call1_, lstE_, consM_, aV_, someM_, slM_, raiseM_, andV_, orV_, ifM_, rd_va, rd_ow, rd_pa, addD_int, subD_int, ltG_int, leG_int, gtG_int, geG_int, intD1_int, intD1_bl, absD_int, lenD_lst, lenD_lsx, lenD_tup, canC_no, canC_va, canC_ow, eqD_int, neD_int, eqD_str, neD_str, e_opV, e_varM, e_rdR, e_get0, e_getS, e_set0, e_setS, e_bind, e_cst, e_setM, e_setO, canSet_, e_tgN, e_tgT, e_tgsNil, e_tgsCons, e_asgM, e_parM, e_tupM, e_lstM, e_notV, e_negM, e_seqA, e_chainM, e_callF1, e_sm1M, e_enumM, e_getL, e_list_ow, e_list_pa, e_own_ow, e_own_pa, e_getO, e_setW, e_appendM, e_aO, e_callG, e_cells0, e_cellsV, e_cellsO, e_omap, e_slots0, e_slotsV, e_slotsO, e_nodup0, e_nodup1, e_toR_ok, e_toR_ex, e_toF_fr, e_toF_ex, e_backO, e_backV, e_back0, e_tru_int, e_tru_bl, e_stepC, e_range1M, e_augPutM, e_aug1, e_aug2, e_putL, e_revF, listF, tupD, e_wipe0, e_wipeS, e_rest0, e_restS, e_for0, e_nox, e_plain_no, e_plain_va, e_all0, e_allS, Bool.and_self, Bool.true_and, fin_nx, fin_rt, fin_rf, fin_ex, kpD_kpc, e_kpc0, e_kpcS, keepC_pa, keepC_va, keepC_ow, keepC_no, if_true, if_false, Bool.true_eq, Bool.false_eq_true, decide_true, List.length_cons, List.length_nil, and_self, Nat.reduceAdd, Nat.reduceSub, Nat.reduceLeDiff, Nat.reduceEqDiff, Int.reduceNeg, e_fldV, e_objOf_va, e_objOf_ow, e_objOf_pa, e_fldD, e_getS0, e_fldPutM, e_putFD0, e_putFDS, e_recvM, e_makeM, e_makeE, e_makeEx, e_dkIx, e_min2, e_max2, e_rg1F, e_rg2F, e_raiseM2, e_xfM, e_indexM, e_indexV, e_isiM, e_isisM, i_int_int, i_bool_int, i_str_str, i_tup_tup, i_tup_lst, i_lst_lst, i_lst_tup, is_lt_lst, is_lt_tup, is_lt_int, is_lt_str])
  have k2 := key 98 (.inr rfl) (.va (.lst (stD a b))) (by unfold P17; simp only [sq_, seq_nx, seq_rt, seq_rf, seq_bk, seq_ct, seq_ex, loop_nx, loop_rt, loop_rf, loop_bk, loop_ct, loop_ex, s_ok_, s_ex_, bind_ok_, bind_ex_, map_ok_, map_ex_, opt_some_, nox_ok_, gd_true_, exprS_, retS_, retFS_, setS_, setOS_, ifS_, forS_, opM_, varR_, asB_, truM_, notM_, andM_, orM_, call1_, lstE_, consM_, aV_, someM_, slM_, raiseM_, andV_, orV_, ifM_, rd_va, rd_ow, rd_pa, addD_int, subD_int, ltG_int, leG_int, gtG_int, geG_int, intD1_int, intD1_bl, absD_int, lenD_lst, lenD_lsx, lenD_tup, canC_no, canC_va, canC_ow, eqD_int, neD_int, eqD_str, neD_str, e_opV, e_varM, e_rdR, e_get0, e_getS, e_set0, e_setS, e_bind, e_cst, e_setM, e_setO, canSet_, e_tgN, e_tgT, e_tgsNil, e_tgsCons, e_asgM, e_parM, e_tupM, e_lstM, e_notV, e_negM, e_seqA, e_chainM, e_callF1, e_sm1M, e_enumM, e_getL, e_list_ow, e_list_pa, e_own_ow, e_own_pa, e_getO, e_setW, e_appendM, e_aO, e_callG, e_cells0, e_cellsV, e_cellsO, e_omap, e_slots0, e_slotsV, e_slotsO, e_nodup0, e_nodup1, e_toR_ok, e_toR_ex, e_toF_fr, e_toF_ex, e_backO, e_backV, e_back0, e_tru_int, e_tru_bl, e_stepC, e_range1M, e_augPutM, e_aug1, e_aug2, e_putL, e_revF, listF, tupD, e_wipe0, e_wipeS, e_rest0, e_restS, e_for0, e_nox, e_plain_no, e_plain_va, e_all0, e_allS, Bool.and_self, Bool.true_and, fin_nx, fin_rt, fin_rf, fin_ex, kpD_kpc, e_kpc0, e_kpcS, keepC_pa, keepC_va, keepC_ow, keepC_no, if_true, if_false, Bool.true_eq, Bool.false_eq_true, decide_true, List.length_cons, List.length_nil, and_self, Nat.reduceAdd, Nat.reduceSub, Nat.reduceLeDiff, Nat.reduceEqDiff, Int.reduceNeg, e_fldV, e_objOf_va, e_objOf_ow, e_objOf_pa, e_fldD, e_getS0, e_fldPutM, e_putFD0, e_putFDS, e_recvM, e_makeM, e_makeE, e_makeEx, e_dkIx, e_min2, e_max2, e_rg1F, e_rg2F, e_raiseM2, e_xfM, e_indexM, e_indexV, e_isiM, e_isisM, i_int_int, i_bool_int, i_str_str, i_tup_tup, i_tup_lst, i_lst_lst, i_lst_tup, is_lt_lst, is_lt_tup, is_lt_int, is_lt_str])
  have e1 : D.str "a" = chD 97 := rfl
  have e2 : D.str "b" = chD 98 := rfl
  unfold P17 at k1 k2 ⊢
  have d2 : decide (2 < 16777216) = true := by decide
  rw [e_lcM]
  simp only [sq_, seq_nx, seq_rt, seq_rf, seq_bk, seq_ct, seq_ex, loop_nx, loop_rt, loop_rf, loop_bk, loop_ct, loop_ex, s_ok_, s_ex_, bind_ok_, bind_ex_, map_ok_, map_ex_, opt_some_, nox_ok_, gd_true_, exprS_, retS_, retFS_, setS_, setOS_, ifS_, forS_, opM_, varR_, asB_, truM_, notM_, andM_, orM_, call1_, lstE_, consM_, aV_, someM_, slM_, raiseM_, andV_, orV_, ifM_, rd_va, rd_ow, rd_pa, addD_int, subD_int, ltG_int, leG_int, gtG_int, geG_int, intD1_int, intD1_bl, absD_int, lenD_lst, lenD_lsx, lenD_tup, canC_no, canC_va, canC_ow, eqD_int, neD_int, eqD_str, neD_str, e_opV, e_varM, e_rdR, e_get0, e_getS, e_set0, e_setS, e_bind, e_cst, e_setM, e_setO, canSet_, e_tgN, e_tgT, e_tgsNil, e_tgsCons, e_asgM, e_parM, e_tupM, e_lstM, e_notV, e_negM, e_seqA, e_chainM, e_callF1, e_sm1M, e_enumM, e_getL, e_list_ow, e_list_pa, e_own_ow, e_own_pa, e_getO, e_setW, e_appendM, e_aO, e_callG, e_cells0, e_cellsV, e_cellsO, e_omap, e_slots0, e_slotsV, e_slotsO, e_nodup0, e_nodup1, e_toR_ok, e_toR_ex, e_toF_fr, e_toF_ex, e_backO, e_backV, e_back0, e_tru_int, e_tru_bl, e_stepC, e_range1M, e_augPutM, e_aug1, e_aug2, e_putL, e_revF, listF, tupD, e_wipe0, e_wipeS, e_rest0, e_restS, e_for0, e_nox, e_plain_no, e_plain_va, e_all0, e_allS, Bool.and_self, Bool.true_and, fin_nx, fin_rt, fin_rf, fin_ex, kpD_kpc, e_kpc0, e_kpcS, keepC_pa, keepC_va, keepC_ow, keepC_no, if_true, if_false, Bool.true_eq, Bool.false_eq_true, decide_true, List.length_cons, List.length_nil, and_self, Nat.reduceAdd, Nat.reduceSub, Nat.reduceLeDiff, Nat.reduceEqDiff, Int.reduceNeg, e_fldV, e_objOf_va, e_objOf_ow, e_objOf_pa, e_fldD, e_getS0, e_fldPutM, e_putFD0, e_putFDS, e_recvM, e_makeM, e_makeE, e_makeEx, e_dkIx, e_min2, e_max2, e_rg1F, e_rg2F, e_raiseM2, e_xfM, e_indexM, e_indexV, e_isiM, e_isisM, i_int_int, i_bool_int, i_str_str, i_tup_tup, i_tup_lst, i_lst_lst, i_lst_tup, is_lt_lst, is_lt_tup, is_lt_int, is_lt_str, e_gd, d2, p10, e_compS, e_comp0, e1, e2, k1, k2, List.nil_append, List.cons_append]
end K78
end KL
set_option exponentiation.threshold 100000
/-! k78: the law's look at the society, at the end. -/
namespace KL
namespace K78
open PySem L2 Cs
theorem b4_ok {a b h : Nat} (G : Good a b h) {p : Int} (hp : p ∈ upto (a * b)) {c0 c1 c2 c4 c5 c6 c7 c8 c9 c10 c12 c13 c14 c16 : Cell} :
    law_b4 (P17 c0 c1 c2 (.va (.int a)) c4 c5 c6 c7 c8 c9 c10 (.va (soc (ordL a b h 97) (ordL a b h 98))) c12 c13 c14 (.va (.int p)) c16) = .nx (P17 c0 c1 c2 (.va (.int a)) c4 c5 c6 c7 c8 c9 c10 (.va (soc (ordL a b h 97) (ordL a b h 98))) c12 c13 c14 (.va (.int p)) c16) := by
  have hr : 0 ≤ p ∧ p < (a * b : Nat) := by
    obtain ⟨k, hk, rfl⟩ := List.mem_map.mp hp
    have := List.mem_range.mp hk
    omega
  have l1 : F_Society_led [.va (soc (ordL a b h 97) (ordL a b h 98)), .va (.int p), .va (.str "ab")] = .ok (.int (walk (ordL a b h 97) (ordL a b h 98) [97, 98] p)) [.no, .no, .no] := Cs.led_ok hft G.two (cs := [97, 98]) (fun x hx => by simp at hx; rcases hx with rfl | rfl <;> simp) (by simp) hr.1 hr.2
  have l2 : F_Society_led [.va (soc (ordL a b h 97) (ordL a b h 98)), .va (.int p), .va (.str "ba")] = .ok (.int (walk (ordL a b h 97) (ordL a b h 98) [98, 97] p)) [.no, .no, .no] := Cs.led_ok hft G.two (cs := [98, 97]) (fun x hx => by simp at hx; rcases hx with rfl | rfl <;> simp) (by simp) hr.1 hr.2
  have l3 : F_Society_led [.va (soc (ordL a b h 97) (ordL a b h 98)), .va (.int p), .va (.str "a")] = .ok (.int (walk (ordL a b h 97) (ordL a b h 98) [97] p)) [.no, .no, .no] := Cs.led_ok hft G.two (cs := [97]) (fun x hx => by simp at hx; subst hx; simp) (by simp) hr.1 hr.2
  have lk : (socF (ordL a b h 97) (ordL a b h 98)).lookup ("led" : Str) = none := rfl
  have n1 : neD (.int (walk (ordL a b h 97) (ordL a b h 98) [97, 98] p)) (.int (walk (ordL a b h 97) (ordL a b h 98) [98, 97] p)) = some (.bl false) := by
    rw [neD_int, decide_eq_true (G.ab p hp)]; rfl
  have n2 : neD (.bl (decide (walk (ordL a b h 97) (ordL a b h 98) [97] p = p))) (.bl (decide ((a : Int) = 1))) = some (.bl false) := by
    rw [G.one p hp]
    have e : decide ((a : Int) = 1) = decide (a = 1) := decide_eq_decide.mpr (by omega)
    rw [e]
    show some (D.bl (!decide (decide (a = 1) = decide (a = 1)))) = _
    rw [decide_eq_true rfl]; rfl
  unfold soc at l1 l2 l3
  unfold law_b4 P17 soc
  simp only [sq_, seq_nx, seq_rt, seq_rf, seq_bk, seq_ct, seq_ex, loop_nx, loop_rt, loop_rf, loop_bk, loop_ct, loop_ex, s_ok_, s_ex_, bind_ok_, bind_ex_, map_ok_, map_ex_, opt_some_, nox_ok_, gd_true_, exprS_, retS_, retFS_, setS_, setOS_, ifS_, forS_, opM_, varR_, asB_, truM_, notM_, andM_, orM_, call1_, lstE_, consM_, aV_, someM_, slM_, raiseM_, andV_, orV_, ifM_, rd_va, rd_ow, rd_pa, addD_int, subD_int, ltG_int, leG_int, gtG_int, geG_int, intD1_int, intD1_bl, absD_int, lenD_lst, lenD_lsx, lenD_tup, canC_no, canC_va, canC_ow, eqD_int, neD_int, eqD_str, neD_str, e_opV, e_varM, e_rdR, e_get0, e_getS, e_set0, e_setS, e_bind, e_cst, e_setM, e_setO, canSet_, e_tgN, e_tgT, e_tgsNil, e_tgsCons, e_asgM, e_parM, e_tupM, e_lstM, e_notV, e_negM, e_seqA, e_chainM, e_callF1, e_sm1M, e_enumM, e_getL, e_list_ow, e_list_pa, e_own_ow, e_own_pa, e_getO, e_setW, e_appendM, e_aO, e_callG, e_cells0, e_cellsV, e_cellsO, e_omap, e_slots0, e_slotsV, e_slotsO, e_nodup0, e_nodup1, e_toR_ok, e_toR_ex, e_toF_fr, e_toF_ex, e_backO, e_backV, e_back0, e_tru_int, e_tru_bl, e_stepC, e_range1M, e_augPutM, e_aug1, e_aug2, e_putL, e_revF, listF, tupD, e_wipe0, e_wipeS, e_rest0, e_restS, e_for0, e_nox, e_plain_no, e_plain_va, e_all0, e_allS, Bool.and_self, Bool.true_and, fin_nx, fin_rt, fin_rf, fin_ex, kpD_kpc, e_kpc0, e_kpcS, keepC_pa, keepC_va, keepC_ow, keepC_no, if_true, if_false, Bool.true_eq, Bool.false_eq_true, decide_true, List.length_cons, List.length_nil, and_self, Nat.reduceAdd, Nat.reduceSub, Nat.reduceLeDiff, Nat.reduceEqDiff, Int.reduceNeg, e_fldV, e_objOf_va, e_objOf_ow, e_objOf_pa, e_fldD, e_getS0, e_fldPutM, e_putFD0, e_putFDS, e_recvM, e_makeM, e_makeE, e_makeEx, e_dkIx, e_min2, e_max2, e_rg1F, e_rg2F, e_raiseM2, e_xfM, e_indexM, e_indexV, e_isiM, e_isisM, i_int_int, i_bool_int, i_str_str, i_tup_tup, i_tup_lst, i_lst_lst, i_lst_tup, is_lt_lst, is_lt_tup, is_lt_int, is_lt_str, l1, l2, l3, lk, n1, n2]
theorem b4_loop {a b h : Nat} (G : Good a b h) {c0 c1 c2 c4 c5 c6 c7 c8 c9 c10 c12 c13 c14 c16 : Cell} : ∀ (ps : List Int) (c15 : Cell), canC c15 = true → (∀ p ∈ ps, p ∈ upto (a * b)) →
    ∃ d15, forM (tgN 15) law_b4 (ps.map D.int) (P17 c0 c1 c2 (.va (.int a)) c4 c5 c6 c7 c8 c9 c10 (.va (soc (ordL a b h 97) (ordL a b h 98))) c12 c13 c14 c15 c16) = .nx (P17 c0 c1 c2 (.va (.int a)) c4 c5 c6 c7 c8 c9 c10 (.va (soc (ordL a b h 97) (ordL a b h 98))) c12 c13 c14 d15 c16)
  | [], c15, _, _ => ⟨c15, rfl⟩
  | p :: ps, c15, k, hp => by
    obtain ⟨d15, hh⟩ := b4_loop G (c0 := c0) (c1 := c1) (c2 := c2) (c4 := c4) (c5 := c5) (c6 := c6) (c7 := c7) (c8 := c8) (c9 := c9) (c10 := c10) (c12 := c12) (c13 := c13) (c14 := c14) (c16 := c16) ps (.va (.int p)) rfl fun q hq => hp q (by simp [hq])
    refine ⟨d15, ?_⟩
    have e := b4_ok G (hp p (by simp)) (c0 := c0) (c1 := c1) (c2 := c2) (c4 := c4) (c5 := c5) (c6 := c6) (c7 := c7) (c8 := c8) (c9 := c9) (c10 := c10) (c12 := c12) (c13 := c13) (c14 := c14) (c16 := c16)
    unfold P17 at e hh ⊢
    rw [List.map_cons, e_forS]
    simp only [sq_, seq_nx, seq_rt, seq_rf, seq_bk, seq_ct, seq_ex, loop_nx, loop_rt, loop_rf, loop_bk, loop_ct, loop_ex, s_ok_, s_ex_, bind_ok_, bind_ex_, map_ok_, map_ex_, opt_some_, nox_ok_, gd_true_, exprS_, retS_, retFS_, setS_, setOS_, ifS_, forS_, opM_, varR_, asB_, truM_, notM_, andM_, orM_, call1_, lstE_, consM_, aV_, someM_, slM_, raiseM_, andV_, orV_, ifM_, rd_va, rd_ow, rd_pa, addD_int, subD_int, ltG_int, leG_int, gtG_int, geG_int, intD1_int, intD1_bl, absD_int, lenD_lst, lenD_lsx, lenD_tup, canC_no, canC_va, canC_ow, eqD_int, neD_int, eqD_str, neD_str, e_opV, e_varM, e_rdR, e_get0, e_getS, e_set0, e_setS, e_bind, e_cst, e_setM, e_setO, canSet_, e_tgN, e_tgT, e_tgsNil, e_tgsCons, e_asgM, e_parM, e_tupM, e_lstM, e_notV, e_negM, e_seqA, e_chainM, e_callF1, e_sm1M, e_enumM, e_getL, e_list_ow, e_list_pa, e_own_ow, e_own_pa, e_getO, e_setW, e_appendM, e_aO, e_callG, e_cells0, e_cellsV, e_cellsO, e_omap, e_slots0, e_slotsV, e_slotsO, e_nodup0, e_nodup1, e_toR_ok, e_toR_ex, e_toF_fr, e_toF_ex, e_backO, e_backV, e_back0, e_tru_int, e_tru_bl, e_stepC, e_range1M, e_augPutM, e_aug1, e_aug2, e_putL, e_revF, listF, tupD, e_wipe0, e_wipeS, e_rest0, e_restS, e_for0, e_nox, e_plain_no, e_plain_va, e_all0, e_allS, Bool.and_self, Bool.true_and, fin_nx, fin_rt, fin_rf, fin_ex, kpD_kpc, e_kpc0, e_kpcS, keepC_pa, keepC_va, keepC_ow, keepC_no, if_true, if_false, Bool.true_eq, Bool.false_eq_true, decide_true, List.length_cons, List.length_nil, and_self, Nat.reduceAdd, Nat.reduceSub, Nat.reduceLeDiff, Nat.reduceEqDiff, Int.reduceNeg, e_fldV, e_objOf_va, e_objOf_ow, e_objOf_pa, e_fldD, e_getS0, e_fldPutM, e_putFD0, e_putFDS, e_recvM, e_makeM, e_makeE, e_makeEx, e_dkIx, e_min2, e_max2, e_rg1F, e_rg2F, e_raiseM2, e_xfM, e_indexM, e_indexV, e_isiM, e_isisM, i_int_int, i_bool_int, i_str_str, i_tup_tup, i_tup_lst, i_lst_lst, i_lst_tup, is_lt_lst, is_lt_tup, is_lt_int, is_lt_str, k, e]
    exact hh
def m_block : DEnv → SRes := (sq (setS 11 (callM F_ring_society (aV (varM 5) (cst ([] : List Arg))))) (sq (setOS 12 (lstM (cst ([] : List D)))) (sq (forS (range1M (varM 4)) (tgN 13) law_b3) (sq (setOS 14 (lcM [10] (seqA (tupM (consM (cst (D.str "a")) (consM (cst (D.str "b")) (cst ([] : List D)))))) (tgN 10) (cst true) (call1 tupD (lstE (lcM [7] (seqA (varM 12)) (tgN 7) (cst true) (indexV 12 (callM F_law_one (aV (varM 5) (aV (varM 7) (aV (varM 10) (cst ([] : List Arg)))))))))))) (sq (ifS (asB (opM neD (lstE (lstM (consM (fldV ft "wives" 11) (consM (fldV ft "children" 11) (cst ([] : List D)))))) (varR 14))) (retS (cst (D.bl false))) SRes.nx) (forS (range1M (fldV ft "size" 11)) (tgN 15) law_b4))))))
theorem block_ok {a b h : Nat} (R : Rg a b h) (ha : 1 ≤ a) (ha6 : a ≤ 6) (hb : 1 ≤ b) (hb5 : b ≤ 5) {c0 c1 c2 c6 c7 c8 c9 c10 : Cell} (p7 : plainC (some c7) = true) (p10 : plainC (some c10) = true) :
    ∃ d11 d12 d13 d14 d15, m_block (P17 c0 c1 c2 (.va (.int a)) (.va (.int b)) (.va (rg a b h)) c6 c7 c8 c9 c10 .no .no .no .no .no .no) = .nx (P17 c0 c1 c2 (.va (.int a)) (.va (.int b)) (.va (rg a b h)) c6 c7 c8 c9 c10 d11 d12 d13 d14 d15 .no) := by
  have G := Good.mk' (good_of (h := h) ha ha6 hb hb5 (by have := R.hs; omega))
  have hab : b * a ≤ 30 := by
    have := Nat.mul_le_mul hb5 ha6
    omega
  have h1 : 1 ≤ a * b := Nat.mul_pos ha hb
  have e1 := ring_society_ok R (by omega) h1 (by omega) (by omega) G.two
  have rl : ∀ n : Nat, rangeL 0 n = (List.range n).map fun (k : Nat) => D.int (k : Int) := fun n => by
    unfold rangeL
    exact List.map_congr_left fun k _ => by rw [Int.zero_add]
  have r2 : ∀ Δ, rng1 (.int (b : Int)) Δ = .ok ((List.range b).map fun (k : Nat) => D.int (k : Int)) Δ := fun Δ => by rw [← rl]; exact rng1_nat (by unfold lim62; omega)
  have r3 : ∀ Δ, rng1 (.int ((a * b : Nat) : Int)) Δ = .ok ((upto (a * b)).map D.int) Δ := fun Δ => by rw [← rangeL_upto]; exact rng1_nat (by rw [Nat.mul_comm]; unfold lim62; omega)
  obtain ⟨d13, k13, e2⟩ := rows_loop (a := a) (c0 := c0) (c1 := c1) (c2 := c2) (c4 := .va (.int b)) (c5 := .va (rg a b h)) (c6 := c6) (c7 := c7) (c8 := c8) (c9 := c9) (c10 := c10) (c11 := .va (soc (ordL a b h 97) (ordL a b h 98))) (c14 := .no) (by omega) (List.range b) [] .no rfl (by rw [List.length_range, List.length_nil]; omega)
  rw [List.nil_append, rows_sts] at e2
  have e3 := orders_ok R G (by omega) (c0 := c0) (c1 := c1) (c2 := c2) (c3 := .va (.int a)) (c4 := .va (.int b)) (c6 := c6) (c7 := c7) (c8 := c8) (c9 := c9) (c10 := c10) (c11 := .va (soc (ordL a b h 97) (ordL a b h 98))) (c13 := d13) p7 p10
  obtain ⟨d15, e4⟩ := b4_loop G (c0 := c0) (c1 := c1) (c2 := c2) (c4 := .va (.int b)) (c5 := .va (rg a b h)) (c6 := c6) (c7 := c7) (c8 := c8) (c9 := c9) (c10 := c10) (c12 := .va (.lst (stD a b))) (c13 := d13) (c14 := .ow [itup (ordL a b h 97), itup (ordL a b h 98)]) (c16 := .no) (upto (a * b)) .no rfl fun p hp => hp
  refine ⟨.va (soc (ordL a b h 97) (ordL a b h 98)), .va (.lst (stD a b)), d13, .ow [itup (ordL a b h 97), itup (ordL a b h 98)], d15, ?_⟩
  have pd : ∀ l : List Int, pdN 1 (itup l) = true := fun l => by
    show ((l.map D.int).all (pdN 0)) = true
    rw [List.all_eq_true]
    intro d hd
    obtain ⟨i, _, rfl⟩ := List.mem_map.mp hd
    rfl
  have ne : neD (.lst [itup (ordL a b h 97), itup (ordL a b h 98)]) (.lst [itup (ordL a b h 97), itup (ordL a b h 98)]) = some (.bl false) := neD_same (n := 2) (by
    rw [pd_lst, List.all_cons, List.all_cons, pd, pd]; rfl) (by omega)
  have lw : (ordL a b h 97).length = a * b := G.two.lw
  unfold P17 at e2 e3 e4
  unfold m_block P17
  simp only [sq_, seq_nx, seq_rt, seq_rf, seq_bk, seq_ct, seq_ex, loop_nx, loop_rt, loop_rf, loop_bk, loop_ct, loop_ex, s_ok_, s_ex_, bind_ok_, bind_ex_, map_ok_, map_ex_, opt_some_, nox_ok_, gd_true_, exprS_, retS_, retFS_, setS_, setOS_, ifS_, forS_, opM_, varR_, asB_, truM_, notM_, andM_, orM_, call1_, lstE_, consM_, aV_, someM_, slM_, raiseM_, andV_, orV_, ifM_, rd_va, rd_ow, rd_pa, addD_int, subD_int, ltG_int, leG_int, gtG_int, geG_int, intD1_int, intD1_bl, absD_int, lenD_lst, lenD_lsx, lenD_tup, canC_no, canC_va, canC_ow, eqD_int, neD_int, eqD_str, neD_str, e_opV, e_varM, e_rdR, e_get0, e_getS, e_set0, e_setS, e_bind, e_cst, e_setM, e_setO, canSet_, e_tgN, e_tgT, e_tgsNil, e_tgsCons, e_asgM, e_parM, e_tupM, e_lstM, e_notV, e_negM, e_seqA, e_chainM, e_callF1, e_sm1M, e_enumM, e_getL, e_list_ow, e_list_pa, e_own_ow, e_own_pa, e_getO, e_setW, e_appendM, e_aO, e_callG, e_cells0, e_cellsV, e_cellsO, e_omap, e_slots0, e_slotsV, e_slotsO, e_nodup0, e_nodup1, e_toR_ok, e_toR_ex, e_toF_fr, e_toF_ex, e_backO, e_backV, e_back0, e_tru_int, e_tru_bl, e_stepC, e_range1M, e_augPutM, e_aug1, e_aug2, e_putL, e_revF, listF, tupD, e_wipe0, e_wipeS, e_rest0, e_restS, e_for0, e_nox, e_plain_no, e_plain_va, e_all0, e_allS, Bool.and_self, Bool.true_and, fin_nx, fin_rt, fin_rf, fin_ex, kpD_kpc, e_kpc0, e_kpcS, keepC_pa, keepC_va, keepC_ow, keepC_no, if_true, if_false, Bool.true_eq, Bool.false_eq_true, decide_true, List.length_cons, List.length_nil, and_self, Nat.reduceAdd, Nat.reduceSub, Nat.reduceLeDiff, Nat.reduceEqDiff, Int.reduceNeg, e_fldV, e_objOf_va, e_objOf_ow, e_objOf_pa, e_fldD, e_getS0, e_fldPutM, e_putFD0, e_putFDS, e_recvM, e_makeM, e_makeE, e_makeEx, e_dkIx, e_min2, e_max2, e_rg1F, e_rg2F, e_raiseM2, e_xfM, e_indexM, e_indexV, e_isiM, e_isisM, i_int_int, i_bool_int, i_str_str, i_tup_tup, i_tup_lst, i_lst_lst, i_lst_tup, is_lt_lst, is_lt_tup, is_lt_int, is_lt_str, e1, e_gd, r2, e2, e3, soc_obj, sk_wives, sk_children, sk_size, ft_wives hft, ft_children hft, ft_size hft, ne, lw, r3]
  exact e4
end K78
end KL
set_option exponentiation.threshold 100000
/-! k78: refusals; the law. -/
namespace KL
namespace K78
open PySem L2 Cs
theorem ref0 : F_law_refusal [.va (.int 0)] = .ok (.str "ring") [.no] := by first | rfl | kernel_rfl
theorem ref1 : F_law_refusal [.va (.int 1)] = .ok (.str "ring") [.no] := by first | rfl | kernel_rfl
theorem ref2 : F_law_refusal [.va (.int 2)] = .ok (.str "ring") [.no] := by first | rfl | kernel_rfl
theorem ref3 : F_law_refusal [.va (.int 3)] = .ok (.str "place") [.no] := by first | rfl | kernel_rfl
theorem ref4 : F_law_refusal [.va (.int 4)] = .ok (.str "place") [.no] := by first | rfl | kernel_rfl
theorem ref5 : F_law_refusal [.va (.int 5)] = .ok (.str "class") [.no] := by first | rfl | kernel_rfl
theorem ref6 : F_law_refusal [.va (.int 6)] = .ok (.tup [.str "classes", .int 401]) [.no] := by first | rfl | kernel_rfl
end K78
end KL
set_option exponentiation.threshold 100000
/-! k78: the law. -/
namespace KL
namespace K78
open PySem L2 Cs
theorem turns_ok {s m h : Int} (R : Rg s m h) {l : List Int} {c0 c2 : Cell} :
    ∃ (l' : List Int) (d6 d7 d8 d9 d10 : Cell), plainC (some d7) = true ∧ plainC (some d10) = true ∧
      forM (tgN 6) law_b2 (rangeL 0 4) (P17 c0 (.ow (l.map D.int)) c2 (.va (.int s)) (.va (.int m)) (.va (rg s m h)) .no .no .no .no .no .no .no .no .no .no .no) =
        .nx (P17 c0 (.ow (l'.map D.int)) c2 (.va (.int s)) (.va (.int m)) (.va (rg s m h)) d6 d7 d8 d9 d10 .no .no .no .no .no .no) := by
  obtain ⟨Δ', e, l', d6, d7, d8, d9, d10, k6, k7, k8, k9, k10, rfl⟩ := forM_inv (tgt := tgN 6) (body := law_b2) (xs := rangeL 0 4) (Δ := P17 c0 (.ow (l.map D.int)) c2 (.va (.int s)) (.va (.int m)) (.va (rg s m h)) .no .no .no .no .no .no .no .no .no .no .no)
    (P := fun Δ => ∃ (l' : List Int) (d6 d7 d8 d9 d10 : Cell), canC d6 = true ∧ plainC (some d7) = true ∧ canC d8 = true ∧ canC d9 = true ∧ plainC (some d10) = true ∧ Δ = P17 c0 (.ow (l'.map D.int)) c2 (.va (.int s)) (.va (.int m)) (.va (rg s m h)) d6 d7 d8 d9 d10 .no .no .no .no .no .no)
    ⟨l, .no, .no, .no, .no, .no, rfl, rfl, rfl, rfl, rfl, rfl⟩ fun x hx Δ ⟨l1, c6, c7, c8, c9, c10, k6, k7, k8, k9, k10, e⟩ => by
      subst e
      obtain ⟨l2, d7, d8, d9, d10, q7, q8, q9, q10, e⟩ := turn_ok R (l := l1) (c0 := c0) (c2 := c2) (c6 := .va x) (plain_can k7) k8 k9 k10
      refine ⟨P17 c0 (.ow (l1.map D.int)) c2 (.va (.int s)) (.va (.int m)) (.va (rg s m h)) (.va x) c7 c8 c9 c10 .no .no .no .no .no .no, _, ?_, e, l2, .va x, d7, d8, d9, d10, rfl, q7, q8, q9, q10, rfl⟩
      unfold P17
      simp only [sq_, seq_nx, seq_rt, seq_rf, seq_bk, seq_ct, seq_ex, loop_nx, loop_rt, loop_rf, loop_bk, loop_ct, loop_ex, s_ok_, s_ex_, bind_ok_, bind_ex_, map_ok_, map_ex_, opt_some_, nox_ok_, gd_true_, exprS_, retS_, retFS_, setS_, setOS_, ifS_, forS_, opM_, varR_, asB_, truM_, notM_, andM_, orM_, call1_, lstE_, consM_, aV_, someM_, slM_, raiseM_, andV_, orV_, ifM_, rd_va, rd_ow, rd_pa, addD_int, subD_int, ltG_int, leG_int, gtG_int, geG_int, intD1_int, intD1_bl, absD_int, lenD_lst, lenD_lsx, lenD_tup, canC_no, canC_va, canC_ow, eqD_int, neD_int, eqD_str, neD_str, e_opV, e_varM, e_rdR, e_get0, e_getS, e_set0, e_setS, e_bind, e_cst, e_setM, e_setO, canSet_, e_tgN, e_tgT, e_tgsNil, e_tgsCons, e_asgM, e_parM, e_tupM, e_lstM, e_notV, e_negM, e_seqA, e_chainM, e_callF1, e_sm1M, e_enumM, e_getL, e_list_ow, e_list_pa, e_own_ow, e_own_pa, e_getO, e_setW, e_appendM, e_aO, e_callG, e_cells0, e_cellsV, e_cellsO, e_omap, e_slots0, e_slotsV, e_slotsO, e_nodup0, e_nodup1, e_toR_ok, e_toR_ex, e_toF_fr, e_toF_ex, e_backO, e_backV, e_back0, e_tru_int, e_tru_bl, e_stepC, e_range1M, e_augPutM, e_aug1, e_aug2, e_putL, e_revF, listF, tupD, e_wipe0, e_wipeS, e_rest0, e_restS, e_for0, e_nox, e_plain_no, e_plain_va, e_all0, e_allS, Bool.and_self, Bool.true_and, fin_nx, fin_rt, fin_rf, fin_ex, kpD_kpc, e_kpc0, e_kpcS, keepC_pa, keepC_va, keepC_ow, keepC_no, if_true, if_false, Bool.true_eq, Bool.false_eq_true, decide_true, List.length_cons, List.length_nil, and_self, Nat.reduceAdd, Nat.reduceSub, Nat.reduceLeDiff, Nat.reduceEqDiff, Int.reduceNeg, e_fldV, e_objOf_va, e_objOf_ow, e_objOf_pa, e_fldD, e_getS0, e_fldPutM, e_putFD0, e_putFDS, e_recvM, e_makeM, e_makeE, e_makeEx, e_dkIx, e_min2, e_max2, e_rg1F, e_rg2F, e_raiseM2, e_xfM, e_indexM, e_indexV, e_isiM, e_isisM, i_int_int, i_bool_int, i_str_str, i_tup_tup, i_tup_lst, i_lst_lst, i_lst_tup, is_lt_lst, is_lt_tup, is_lt_int, is_lt_str, k6]
  exact ⟨l', d6, d7, d8, d9, d10, k7, k10, e⟩
def m_end : DEnv → SRes := (sq (setS 16 (callM F_law_take (aO 1 (aV (cst (D.int 7)) (cst ([] : List Arg)))))) (retS (opM eqD (callM F_law_refusal (aV (varM 16) (cst ([] : List Arg)))) (opM ixD (lstE (lstM (consM (cst (D.str "ring")) (consM (cst (D.str "ring")) (consM (cst (D.str "ring")) (consM (cst (D.str "place")) (consM (cst (D.str "place")) (consM (cst (D.str "class")) (consM (tupM (consM (cst (D.str "classes")) (consM (cst (D.int 401)) (cst ([] : List D))))) (cst ([] : List D))))))))))) (varR 16)))))
theorem end_ok {l : List Int} {c0 c2 c3 c4 c5 c6 c7 c8 c9 c10 c11 c12 c13 c14 c15 : Cell} : ∃ Δ, m_end (P17 c0 (.ow (l.map D.int)) c2 c3 c4 c5 c6 c7 c8 c9 c10 c11 c12 c13 c14 c15 .no) = .rt (.bl true) Δ := by
  have t := take_fn l 7 (by omega)
  obtain ⟨n, hn, hlt⟩ := Cm.tk_lt l (m := 7) (by omega)
  rw [hn] at t
  refine ⟨P17 c0 (.ow (l.dropLast.map D.int)) c2 c3 c4 c5 c6 c7 c8 c9 c10 c11 c12 c13 c14 c15 (.va (.int n)), ?_⟩
  have key : ∃ d, F_law_refusal [.va (.int n)] = .ok d [.no] ∧ ixD (.lst [.str "ring", .str "ring", .str "ring", .str "place", .str "place", .str "class", .tup [.str "classes", .int 401]]) (.int n) = some d ∧ eqD d d = some (.bl true) := by
    have st : ∀ z : Str, eqD (.str z) (.str z) = some (.bl true) := fun z => by rw [eqD_str, decide_eq_true rfl]
    have : n = 0 ∨ n = 1 ∨ n = 2 ∨ n = 3 ∨ n = 4 ∨ n = 5 ∨ n = 6 := by omega
    rcases this with rfl | rfl | rfl | rfl | rfl | rfl | rfl
    · exact ⟨_, ref0, rfl, st _⟩
    · exact ⟨_, ref1, rfl, st _⟩
    · exact ⟨_, ref2, rfl, st _⟩
    · exact ⟨_, ref3, rfl, st _⟩
    · exact ⟨_, ref4, rfl, st _⟩
    · exact ⟨_, ref5, rfl, st _⟩
    · exact ⟨_, ref6, rfl, eqD_same (n := 1) (by decide +kernel) (by omega)⟩
  obtain ⟨d, k1, k2, k3⟩ := key
  unfold m_end P17
  simp only [sq_, seq_nx, seq_rt, seq_rf, seq_bk, seq_ct, seq_ex, loop_nx, loop_rt, loop_rf, loop_bk, loop_ct, loop_ex, s_ok_, s_ex_, bind_ok_, bind_ex_, map_ok_, map_ex_, opt_some_, nox_ok_, gd_true_, exprS_, retS_, retFS_, setS_, setOS_, ifS_, forS_, opM_, varR_, asB_, truM_, notM_, andM_, orM_, call1_, lstE_, consM_, aV_, someM_, slM_, raiseM_, andV_, orV_, ifM_, rd_va, rd_ow, rd_pa, addD_int, subD_int, ltG_int, leG_int, gtG_int, geG_int, intD1_int, intD1_bl, absD_int, lenD_lst, lenD_lsx, lenD_tup, canC_no, canC_va, canC_ow, eqD_int, neD_int, eqD_str, neD_str, e_opV, e_varM, e_rdR, e_get0, e_getS, e_set0, e_setS, e_bind, e_cst, e_setM, e_setO, canSet_, e_tgN, e_tgT, e_tgsNil, e_tgsCons, e_asgM, e_parM, e_tupM, e_lstM, e_notV, e_negM, e_seqA, e_chainM, e_callF1, e_sm1M, e_enumM, e_getL, e_list_ow, e_list_pa, e_own_ow, e_own_pa, e_getO, e_setW, e_appendM, e_aO, e_callG, e_cells0, e_cellsV, e_cellsO, e_omap, e_slots0, e_slotsV, e_slotsO, e_nodup0, e_nodup1, e_toR_ok, e_toR_ex, e_toF_fr, e_toF_ex, e_backO, e_backV, e_back0, e_tru_int, e_tru_bl, e_stepC, e_range1M, e_augPutM, e_aug1, e_aug2, e_putL, e_revF, listF, tupD, e_wipe0, e_wipeS, e_rest0, e_restS, e_for0, e_nox, e_plain_no, e_plain_va, e_all0, e_allS, Bool.and_self, Bool.true_and, fin_nx, fin_rt, fin_rf, fin_ex, kpD_kpc, e_kpc0, e_kpcS, keepC_pa, keepC_va, keepC_ow, keepC_no, if_true, if_false, Bool.true_eq, Bool.false_eq_true, decide_true, List.length_cons, List.length_nil, and_self, Nat.reduceAdd, Nat.reduceSub, Nat.reduceLeDiff, Nat.reduceEqDiff, Int.reduceNeg, e_fldV, e_objOf_va, e_objOf_ow, e_objOf_pa, e_fldD, e_getS0, e_fldPutM, e_putFD0, e_putFDS, e_recvM, e_makeM, e_makeE, e_makeEx, e_dkIx, e_min2, e_max2, e_rg1F, e_rg2F, e_raiseM2, e_xfM, e_indexM, e_indexV, e_isiM, e_isisM, i_int_int, i_bool_int, i_str_str, i_tup_tup, i_tup_lst, i_lst_lst, i_lst_tup, is_lt_lst, is_lt_tup, is_lt_int, is_lt_str, t, k1, e_gd, k2, k3]
def m_mid : DEnv → SRes := (sq (forS (range1M (cst (D.int 4))) (tgN 6) law_b2) (sq (ifS (asB (opV eqD 2 (cst (D.int 0)))) m_block SRes.nx) m_end))
theorem mid_ok {s m h g : Int} (R : Rg s m h) (hg : g ≠ 0 ∨ ∃ a b c : Nat, s = a ∧ m = b ∧ h = c ∧ 1 ≤ a ∧ a ≤ 6 ∧ 1 ≤ b ∧ b ≤ 5) {l : List Int} {c0 : Cell} :
    ∃ Δ, m_mid (P17 c0 (.ow (l.map D.int)) (.va (.int g)) (.va (.int s)) (.va (.int m)) (.va (rg s m h)) .no .no .no .no .no .no .no .no .no .no .no) = .rt (.bl true) Δ := by
  obtain ⟨l', d6, d7, d8, d9, d10, k7, k10, e⟩ := turns_ok R (l := l) (c0 := c0) (c2 := .va (.int g))
  have r4 : ∀ Δ, rng1 (.int 4) Δ = .ok (rangeL 0 4) Δ := fun Δ => rng1_int (by omega) (by unfold lim62; omega)
  by_cases h0 : g = 0
  · subst h0
    obtain ⟨a, b, c, rfl, rfl, rfl, a1, a6, b1, b5⟩ := hg.resolve_left (fun z => z rfl)
    obtain ⟨d11, d12, d13, d14, d15, e2⟩ := block_ok R a1 a6 b1 b5 (c0 := c0) (c1 := .ow (l'.map D.int)) (c2 := .va (.int 0)) (c6 := d6) (c7 := d7) (c8 := d8) (c9 := d9) (c10 := d10) k7 k10
    obtain ⟨Δ, e3⟩ := end_ok (l := l') (c0 := c0) (c2 := .va (.int 0)) (c3 := .va (.int a)) (c4 := .va (.int b)) (c5 := .va (rg a b c)) (c6 := d6) (c7 := d7) (c8 := d8) (c9 := d9) (c10 := d10) (c11 := d11) (c12 := d12) (c13 := d13) (c14 := d14) (c15 := d15)
    refine ⟨Δ, ?_⟩
    unfold P17 at e e2 e3 ⊢
    unfold m_mid
    simp only [sq_, seq_nx, seq_rt, seq_rf, seq_bk, seq_ct, seq_ex, loop_nx, loop_rt, loop_rf, loop_bk, loop_ct, loop_ex, s_ok_, s_ex_, bind_ok_, bind_ex_, map_ok_, map_ex_, opt_some_, nox_ok_, gd_true_, exprS_, retS_, retFS_, setS_, setOS_, ifS_, forS_, opM_, varR_, asB_, truM_, notM_, andM_, orM_, call1_, lstE_, consM_, aV_, someM_, slM_, raiseM_, andV_, orV_, ifM_, rd_va, rd_ow, rd_pa, addD_int, subD_int, ltG_int, leG_int, gtG_int, geG_int, intD1_int, intD1_bl, absD_int, lenD_lst, lenD_lsx, lenD_tup, canC_no, canC_va, canC_ow, eqD_int, neD_int, eqD_str, neD_str, e_opV, e_varM, e_rdR, e_get0, e_getS, e_set0, e_setS, e_bind, e_cst, e_setM, e_setO, canSet_, e_tgN, e_tgT, e_tgsNil, e_tgsCons, e_asgM, e_parM, e_tupM, e_lstM, e_notV, e_negM, e_seqA, e_chainM, e_callF1, e_sm1M, e_enumM, e_getL, e_list_ow, e_list_pa, e_own_ow, e_own_pa, e_getO, e_setW, e_appendM, e_aO, e_callG, e_cells0, e_cellsV, e_cellsO, e_omap, e_slots0, e_slotsV, e_slotsO, e_nodup0, e_nodup1, e_toR_ok, e_toR_ex, e_toF_fr, e_toF_ex, e_backO, e_backV, e_back0, e_tru_int, e_tru_bl, e_stepC, e_range1M, e_augPutM, e_aug1, e_aug2, e_putL, e_revF, listF, tupD, e_wipe0, e_wipeS, e_rest0, e_restS, e_for0, e_nox, e_plain_no, e_plain_va, e_all0, e_allS, Bool.and_self, Bool.true_and, fin_nx, fin_rt, fin_rf, fin_ex, kpD_kpc, e_kpc0, e_kpcS, keepC_pa, keepC_va, keepC_ow, keepC_no, if_true, if_false, Bool.true_eq, Bool.false_eq_true, decide_true, List.length_cons, List.length_nil, and_self, Nat.reduceAdd, Nat.reduceSub, Nat.reduceLeDiff, Nat.reduceEqDiff, Int.reduceNeg, e_fldV, e_objOf_va, e_objOf_ow, e_objOf_pa, e_fldD, e_getS0, e_fldPutM, e_putFD0, e_putFDS, e_recvM, e_makeM, e_makeE, e_makeEx, e_dkIx, e_min2, e_max2, e_rg1F, e_rg2F, e_raiseM2, e_xfM, e_indexM, e_indexV, e_isiM, e_isisM, i_int_int, i_bool_int, i_str_str, i_tup_tup, i_tup_lst, i_lst_lst, i_lst_tup, is_lt_lst, is_lt_tup, is_lt_int, is_lt_str, r4, e, decide_true, e2]
    exact e3
  · obtain ⟨Δ, e3⟩ := end_ok (l := l') (c0 := c0) (c2 := .va (.int g)) (c3 := .va (.int s)) (c4 := .va (.int m)) (c5 := .va (rg s m h)) (c6 := d6) (c7 := d7) (c8 := d8) (c9 := d9) (c10 := d10) (c11 := .no) (c12 := .no) (c13 := .no) (c14 := .no) (c15 := .no)
    refine ⟨Δ, ?_⟩
    unfold P17 at e e3 ⊢
    unfold m_mid
    simp only [sq_, seq_nx, seq_rt, seq_rf, seq_bk, seq_ct, seq_ex, loop_nx, loop_rt, loop_rf, loop_bk, loop_ct, loop_ex, s_ok_, s_ex_, bind_ok_, bind_ex_, map_ok_, map_ex_, opt_some_, nox_ok_, gd_true_, exprS_, retS_, retFS_, setS_, setOS_, ifS_, forS_, opM_, varR_, asB_, truM_, notM_, andM_, orM_, call1_, lstE_, consM_, aV_, someM_, slM_, raiseM_, andV_, orV_, ifM_, rd_va, rd_ow, rd_pa, addD_int, subD_int, ltG_int, leG_int, gtG_int, geG_int, intD1_int, intD1_bl, absD_int, lenD_lst, lenD_lsx, lenD_tup, canC_no, canC_va, canC_ow, eqD_int, neD_int, eqD_str, neD_str, e_opV, e_varM, e_rdR, e_get0, e_getS, e_set0, e_setS, e_bind, e_cst, e_setM, e_setO, canSet_, e_tgN, e_tgT, e_tgsNil, e_tgsCons, e_asgM, e_parM, e_tupM, e_lstM, e_notV, e_negM, e_seqA, e_chainM, e_callF1, e_sm1M, e_enumM, e_getL, e_list_ow, e_list_pa, e_own_ow, e_own_pa, e_getO, e_setW, e_appendM, e_aO, e_callG, e_cells0, e_cellsV, e_cellsO, e_omap, e_slots0, e_slotsV, e_slotsO, e_nodup0, e_nodup1, e_toR_ok, e_toR_ex, e_toF_fr, e_toF_ex, e_backO, e_backV, e_back0, e_tru_int, e_tru_bl, e_stepC, e_range1M, e_augPutM, e_aug1, e_aug2, e_putL, e_revF, listF, tupD, e_wipe0, e_wipeS, e_rest0, e_restS, e_for0, e_nox, e_plain_no, e_plain_va, e_all0, e_allS, Bool.and_self, Bool.true_and, fin_nx, fin_rt, fin_rf, fin_ex, kpD_kpc, e_kpc0, e_kpcS, keepC_pa, keepC_va, keepC_ow, keepC_no, if_true, if_false, Bool.true_eq, Bool.false_eq_true, decide_true, List.length_cons, List.length_nil, and_self, Nat.reduceAdd, Nat.reduceSub, Nat.reduceLeDiff, Nat.reduceEqDiff, Int.reduceNeg, e_fldV, e_objOf_va, e_objOf_ow, e_objOf_pa, e_fldD, e_getS0, e_fldPutM, e_putFD0, e_putFDS, e_recvM, e_makeM, e_makeE, e_makeEx, e_dkIx, e_min2, e_max2, e_rg1F, e_rg2F, e_raiseM2, e_xfM, e_indexM, e_indexV, e_isiM, e_isisM, i_int_int, i_bool_int, i_str_str, i_tup_tup, i_tup_lst, i_lst_lst, i_lst_tup, is_lt_lst, is_lt_tup, is_lt_int, is_lt_str, r4, e, h0, decide_false]
    exact e3
theorem deck_fn (ns : List Int) : ∃ l : List Int, F_law_deck [.va (.lsx (ns.map D.int)), .va (.int 60), .va (.int 14)] = .fr (l.map D.int) [.no, .no, .no] := by
  obtain ⟨l, _, h⟩ := Cm.deck_ok ns 60 14 (by omega) (by omega)
  exact ⟨l, h⟩
def m_draw : DEnv → SRes := (sq (parM 3 4 (consM (opM addD (opM addD (cst (D.int 1)) (callM F_law_take (aO 1 (aV (cst (D.int 6)) (cst ([] : List Arg)))))) (varR 2)) (consM (opM addD (opM addD (cst (D.int 1)) (callM F_law_take (aO 1 (aV (cst (D.int 5)) (cst ([] : List Arg)))))) (opV mulG 2 (callM F_law_take (aO 1 (aV (cst (D.int 2)) (cst ([] : List Arg))))))) (cst ([] : List D))))) (sq (setS 5 (tupM (consM (varM 3) (consM (varM 4) (consM (opM modG (opM addD (callM F_law_take (aO 1 (aV (cst (D.int 9)) (cst ([] : List Arg))))) (opV divG 2 (cst (D.int 3)))) (varR 3)) (cst ([] : List D))))))) m_mid))
theorem m_law_eq : m_law = (sq (setOS 1 (callF F_law_deck (aV (varM 0) (aV (cst (D.int 60)) (aV (cst (D.int 14)) (cst ([] : List Arg))))))) (sq (setS 2 (ifM (asB (opM eqD (callM F_law_take (aO 1 (aV (cst (D.int 4)) (cst ([] : List Arg))))) (cst (D.int 0)))) (opM powD (cst (D.int 10)) (cst (D.int 20))) (cst (D.int 0)))) m_draw)) := rfl
theorem draw_ok {g : Int} (hg : g = 0 ∨ g = 100000000000000000000) {l : List Int} {c0 : Cell} : ∃ Δ, m_draw (P17 c0 (.ow (l.map D.int)) (.va (.int g)) .no .no .no .no .no .no .no .no .no .no .no .no .no .no) = .rt (.bl true) Δ := by
  have t2 := take_fn l 6 (by omega)
  obtain ⟨n2, hn2, hl2⟩ := Cm.tk_lt l (m := 6) (by omega)
  rw [hn2] at t2
  have t3 := take_fn l.dropLast 5 (by omega)
  obtain ⟨n3, hn3, hl3⟩ := Cm.tk_lt l.dropLast (m := 5) (by omega)
  rw [hn3] at t3
  have t4 := take_fn l.dropLast.dropLast 2 (by omega)
  obtain ⟨n4, hn4, hl4⟩ := Cm.tk_lt l.dropLast.dropLast (m := 2) (by omega)
  rw [hn4] at t4
  have t5 := take_fn l.dropLast.dropLast.dropLast 9 (by omega)
  obtain ⟨n5, hn5, hl5⟩ := Cm.tk_lt l.dropLast.dropLast.dropLast (m := 9) (by omega)
  rw [hn5] at t5
  have hm : mulG (.int g) (.int n4) = some (.int (g * n4)) := mulG_r ⟨by omega, by omega⟩
  have hd : divG (.int g) (.int 3) = some (.int (g.fdiv 3)) := divG_int (by omega) (by show 3 < 2 ^ 8000; exact Nat.lt_of_lt_of_le (show 3 < 2 ^ 2 by decide) (Nat.pow_le_pow_right (by omega) (by omega)))
  have g0 : 0 ≤ g := by omega
  have hs : 1 ≤ 1 + (n2 : Int) + g := by omega
  have hf : ∀ z : Int, modG (.int z) (.int (1 + (n2 : Int) + g)) = some (.int (z % (1 + (n2 : Int) + g))) := fun z => by rw [modG_int (by omega), Int.fmod_eq_emod_of_nonneg _ (by omega)]
  have n4c : n4 = 0 ∨ n4 = 1 := by omega
  have gn : g * (n4 : Int) = 0 ∨ g * (n4 : Int) = g := by
    rcases n4c with rfl | rfl
    · left; exact Int.mul_zero g
    · right; exact Int.mul_one g
  have R : Rg (1 + (n2 : Int) + g) (1 + (n3 : Int) + g * n4) (((n5 : Int) + g.fdiv 3) % (1 + (n2 : Int) + g)) :=
    ⟨hs, by omega, Int.emod_nonneg _ (by omega), Int.emod_lt_of_pos _ (by omega), by omega, by omega⟩
  obtain ⟨Δ, e⟩ := mid_ok R (g := g) (l := l.dropLast.dropLast.dropLast.dropLast) (c0 := c0) (by
    rcases hg with rfl | rfl
    · refine .inr ⟨1 + n2, 1 + n3, ((n5 : Int) % (1 + (n2 : Int) + 0)).toNat, by omega, by omega, ?_, by omega, by omega, by omega, by omega⟩
      have z : (Int.fdiv 0 3) = 0 := rfl
      rw [z, Int.add_zero, Int.toNat_of_nonneg (Int.emod_nonneg _ (by omega))]
    · exact .inl (by omega))
  refine ⟨Δ, ?_⟩
  unfold P17 at e ⊢
  unfold m_draw
  simp only [sq_, seq_nx, seq_rt, seq_rf, seq_bk, seq_ct, seq_ex, loop_nx, loop_rt, loop_rf, loop_bk, loop_ct, loop_ex, s_ok_, s_ex_, bind_ok_, bind_ex_, map_ok_, map_ex_, opt_some_, nox_ok_, gd_true_, exprS_, retS_, retFS_, setS_, setOS_, ifS_, forS_, opM_, varR_, asB_, truM_, notM_, andM_, orM_, call1_, lstE_, consM_, aV_, someM_, slM_, raiseM_, andV_, orV_, ifM_, rd_va, rd_ow, rd_pa, addD_int, subD_int, ltG_int, leG_int, gtG_int, geG_int, intD1_int, intD1_bl, absD_int, lenD_lst, lenD_lsx, lenD_tup, canC_no, canC_va, canC_ow, eqD_int, neD_int, eqD_str, neD_str, e_opV, e_varM, e_rdR, e_get0, e_getS, e_set0, e_setS, e_bind, e_cst, e_setM, e_setO, canSet_, e_tgN, e_tgT, e_tgsNil, e_tgsCons, e_asgM, e_parM, e_tupM, e_lstM, e_notV, e_negM, e_seqA, e_chainM, e_callF1, e_sm1M, e_enumM, e_getL, e_list_ow, e_list_pa, e_own_ow, e_own_pa, e_getO, e_setW, e_appendM, e_aO, e_callG, e_cells0, e_cellsV, e_cellsO, e_omap, e_slots0, e_slotsV, e_slotsO, e_nodup0, e_nodup1, e_toR_ok, e_toR_ex, e_toF_fr, e_toF_ex, e_backO, e_backV, e_back0, e_tru_int, e_tru_bl, e_stepC, e_range1M, e_augPutM, e_aug1, e_aug2, e_putL, e_revF, listF, tupD, e_wipe0, e_wipeS, e_rest0, e_restS, e_for0, e_nox, e_plain_no, e_plain_va, e_all0, e_allS, Bool.and_self, Bool.true_and, fin_nx, fin_rt, fin_rf, fin_ex, kpD_kpc, e_kpc0, e_kpcS, keepC_pa, keepC_va, keepC_ow, keepC_no, if_true, if_false, Bool.true_eq, Bool.false_eq_true, decide_true, List.length_cons, List.length_nil, and_self, Nat.reduceAdd, Nat.reduceSub, Nat.reduceLeDiff, Nat.reduceEqDiff, Int.reduceNeg, e_fldV, e_objOf_va, e_objOf_ow, e_objOf_pa, e_fldD, e_getS0, e_fldPutM, e_putFD0, e_putFDS, e_recvM, e_makeM, e_makeE, e_makeEx, e_dkIx, e_min2, e_max2, e_rg1F, e_rg2F, e_raiseM2, e_xfM, e_indexM, e_indexV, e_isiM, e_isisM, i_int_int, i_bool_int, i_str_str, i_tup_tup, i_tup_lst, i_lst_lst, i_lst_tup, is_lt_lst, is_lt_tup, is_lt_int, is_lt_str, t2, t3, t4, t5, hm, hd, hf, e_gd]
  exact e
theorem law_true (ns : List Int) (hns : ns.length ≤ 63) : ∃ cs, F_law [.va (.lsx (ns.map D.int))] = .ok (.bl true) cs := by
  obtain ⟨l, hd⟩ := deck_fn ns
  have t1 := take_fn l 4 (by omega)
  obtain ⟨n1, hn1, hl1⟩ := Cm.tk_lt l (m := 4) (by omega)
  rw [hn1] at t1
  have pw : powD (.int 10) (.int 20) = some (.int 100000000000000000000) := powD_int (i := 10) (j := 20) ⟨by omega, by omega, by decide⟩
  unfold F_law
  rw [bodyF_, m_law_eq]
  by_cases hz : (n1 : Int) = 0
  · obtain ⟨Δ, e⟩ := draw_ok (g := 100000000000000000000) (.inr rfl) (l := l.dropLast) (c0 := .va (.lsx (ns.map D.int)))
    refine ⟨kpD 1 Δ, ?_⟩
    show (sq _ _ [.va (.lsx (ns.map D.int)), .no, .no, .no, .no, .no, .no, .no, .no, .no, .no, .no, .no, .no, .no, .no, .no]).fin 1 = _
    unfold P17 at e
    simp only [sq_, seq_nx, seq_rt, seq_rf, seq_bk, seq_ct, seq_ex, loop_nx, loop_rt, loop_rf, loop_bk, loop_ct, loop_ex, s_ok_, s_ex_, bind_ok_, bind_ex_, map_ok_, map_ex_, opt_some_, nox_ok_, gd_true_, exprS_, retS_, retFS_, setS_, setOS_, ifS_, forS_, opM_, varR_, asB_, truM_, notM_, andM_, orM_, call1_, lstE_, consM_, aV_, someM_, slM_, raiseM_, andV_, orV_, ifM_, rd_va, rd_ow, rd_pa, addD_int, subD_int, ltG_int, leG_int, gtG_int, geG_int, intD1_int, intD1_bl, absD_int, lenD_lst, lenD_lsx, lenD_tup, canC_no, canC_va, canC_ow, eqD_int, neD_int, eqD_str, neD_str, e_opV, e_varM, e_rdR, e_get0, e_getS, e_set0, e_setS, e_bind, e_cst, e_setM, e_setO, canSet_, e_tgN, e_tgT, e_tgsNil, e_tgsCons, e_asgM, e_parM, e_tupM, e_lstM, e_notV, e_negM, e_seqA, e_chainM, e_callF1, e_sm1M, e_enumM, e_getL, e_list_ow, e_list_pa, e_own_ow, e_own_pa, e_getO, e_setW, e_appendM, e_aO, e_callG, e_cells0, e_cellsV, e_cellsO, e_omap, e_slots0, e_slotsV, e_slotsO, e_nodup0, e_nodup1, e_toR_ok, e_toR_ex, e_toF_fr, e_toF_ex, e_backO, e_backV, e_back0, e_tru_int, e_tru_bl, e_stepC, e_range1M, e_augPutM, e_aug1, e_aug2, e_putL, e_revF, listF, tupD, e_wipe0, e_wipeS, e_rest0, e_restS, e_for0, e_nox, e_plain_no, e_plain_va, e_all0, e_allS, Bool.and_self, Bool.true_and, fin_nx, fin_rt, fin_rf, fin_ex, kpD_kpc, e_kpc0, e_kpcS, keepC_pa, keepC_va, keepC_ow, keepC_no, if_true, if_false, Bool.true_eq, Bool.false_eq_true, decide_true, List.length_cons, List.length_nil, and_self, Nat.reduceAdd, Nat.reduceSub, Nat.reduceLeDiff, Nat.reduceEqDiff, Int.reduceNeg, e_fldV, e_objOf_va, e_objOf_ow, e_objOf_pa, e_fldD, e_getS0, e_fldPutM, e_putFD0, e_putFDS, e_recvM, e_makeM, e_makeE, e_makeEx, e_dkIx, e_min2, e_max2, e_rg1F, e_rg2F, e_raiseM2, e_xfM, e_indexM, e_indexV, e_isiM, e_isisM, i_int_int, i_bool_int, i_str_str, i_tup_tup, i_tup_lst, i_lst_lst, i_lst_tup, is_lt_lst, is_lt_tup, is_lt_int, is_lt_str, hd, t1, hz, pw, decide_true]
    rw [e, fin_rt, kpD_kpc]
  · obtain ⟨Δ, e⟩ := draw_ok (g := 0) (.inl rfl) (l := l.dropLast) (c0 := .va (.lsx (ns.map D.int)))
    refine ⟨kpD 1 Δ, ?_⟩
    show (sq _ _ [.va (.lsx (ns.map D.int)), .no, .no, .no, .no, .no, .no, .no, .no, .no, .no, .no, .no, .no, .no, .no, .no]).fin 1 = _
    unfold P17 at e
    simp only [sq_, seq_nx, seq_rt, seq_rf, seq_bk, seq_ct, seq_ex, loop_nx, loop_rt, loop_rf, loop_bk, loop_ct, loop_ex, s_ok_, s_ex_, bind_ok_, bind_ex_, map_ok_, map_ex_, opt_some_, nox_ok_, gd_true_, exprS_, retS_, retFS_, setS_, setOS_, ifS_, forS_, opM_, varR_, asB_, truM_, notM_, andM_, orM_, call1_, lstE_, consM_, aV_, someM_, slM_, raiseM_, andV_, orV_, ifM_, rd_va, rd_ow, rd_pa, addD_int, subD_int, ltG_int, leG_int, gtG_int, geG_int, intD1_int, intD1_bl, absD_int, lenD_lst, lenD_lsx, lenD_tup, canC_no, canC_va, canC_ow, eqD_int, neD_int, eqD_str, neD_str, e_opV, e_varM, e_rdR, e_get0, e_getS, e_set0, e_setS, e_bind, e_cst, e_setM, e_setO, canSet_, e_tgN, e_tgT, e_tgsNil, e_tgsCons, e_asgM, e_parM, e_tupM, e_lstM, e_notV, e_negM, e_seqA, e_chainM, e_callF1, e_sm1M, e_enumM, e_getL, e_list_ow, e_list_pa, e_own_ow, e_own_pa, e_getO, e_setW, e_appendM, e_aO, e_callG, e_cells0, e_cellsV, e_cellsO, e_omap, e_slots0, e_slotsV, e_slotsO, e_nodup0, e_nodup1, e_toR_ok, e_toR_ex, e_toF_fr, e_toF_ex, e_backO, e_backV, e_back0, e_tru_int, e_tru_bl, e_stepC, e_range1M, e_augPutM, e_aug1, e_aug2, e_putL, e_revF, listF, tupD, e_wipe0, e_wipeS, e_rest0, e_restS, e_for0, e_nox, e_plain_no, e_plain_va, e_all0, e_allS, Bool.and_self, Bool.true_and, fin_nx, fin_rt, fin_rf, fin_ex, kpD_kpc, e_kpc0, e_kpcS, keepC_pa, keepC_va, keepC_ow, keepC_no, if_true, if_false, Bool.true_eq, Bool.false_eq_true, decide_true, List.length_cons, List.length_nil, and_self, Nat.reduceAdd, Nat.reduceSub, Nat.reduceLeDiff, Nat.reduceEqDiff, Int.reduceNeg, e_fldV, e_objOf_va, e_objOf_ow, e_objOf_pa, e_fldD, e_getS0, e_fldPutM, e_putFD0, e_putFDS, e_recvM, e_makeM, e_makeE, e_makeEx, e_dkIx, e_min2, e_max2, e_rg1F, e_rg2F, e_raiseM2, e_xfM, e_indexM, e_indexV, e_isiM, e_isisM, i_int_int, i_bool_int, i_str_str, i_tup_tup, i_tup_lst, i_lst_lst, i_lst_tup, is_lt_lst, is_lt_tup, is_lt_int, is_lt_str, hd, t1, hz, decide_false]
    rw [e, fin_rt, kpD_kpc]
end K78
end KL
open PySem PySem.W PyProof.Rows in
set_option maxRecDepth 100000 in
set_option maxHeartbeats 0 in
theorem PySem.Challenge.cw_kinwork_k78_whole_rings_holds : PySem.Challenge.rw_kinwork_k78_whole_rings.Holds := by
  w_on; o_law; k_head; (case hw => w_witness2)
  k_fill
  refine L2.walk_of (l := PySem.Challenge.rw_kinwork_k78_whole_rings) (n := 63) (k := 12) (x := "script") (CX := fun w => L2.CX (PySem.Challenge.rw_kinwork_k78_whole_rings).prog w) (sp := fun w => KL.spTop _) rfl (by decide) rfl ⟨rfl, by decide, by decide⟩ (fun w h Y => PySem.W.kIn_of Y) ?F (fun _ _ a xs hl _ hS => ⟨a, xs, rfl, hS, hl, fun _ => rfl⟩) (fun _ _ _ _ _ z => by obtain ⟨_, _, _, _, _, _, _, _, _, _, _, _, z⟩ := z; exact z.elim)
  case F =>
    intro w mg fa h KX G hmg
    refine' KL.K78.all_mk KX G hmg ?aO_Society ?z_abs ?z_all ?z_bool ?z_divmod ?z_enumerate ?z_int ?z_isinstance ?z_len ?z_list ?z_min ?z_range ?z_sorted ?z_str ?z_tuple ?a_is_whole_number ?l_is_whole_number ?c_is_whole_number ?k_is_whole_number ?a_is_class_word ?l_is_class_word ?c_is_class_word ?k_is_class_word ?a_check_class_word ?l_check_class_word ?c_check_class_word ?k_check_class_word ?a_is_order ?l_is_order ?c_is_order ?k_is_order ?a_turned_back ?l_turned_back ?c_turned_back ?k_turned_back ?a_check_class ?l_check_class ?c_check_class ?k_check_class ?a_tupled ?l_tupled ?c_tupled ?k_tupled ?a_is_ring ?l_is_ring ?c_is_ring ?k_is_ring ?a_check_ring ?l_check_ring ?c_check_ring ?k_check_ring ?a_is_seat ?l_is_seat ?c_is_seat ?k_is_seat ?a_shifted ?l_shifted ?c_shifted ?k_shifted ?a_ring_led ?l_ring_led ?c_ring_led ?k_ring_led ?a_ring_society ?l_ring_society ?c_ring_society ?k_ring_society ?a_law_deck ?l_law_deck ?c_law_deck ?k_law_deck ?a_law_take ?l_law_take ?c_law_take ?k_law_take ?a_law_letters ?l_law_letters ?c_law_letters ?k_law_letters ?a_law_pair ?l_law_pair ?c_law_pair ?k_law_pair ?a_law_shifted ?l_law_shifted ?c_law_shifted ?k_law_shifted ?a_law_one ?l_law_one ?c_law_one ?k_law_one ?a_law_refusal ?l_law_refusal ?c_law_refusal ?k_law_refusal ?a_law ?l_law ?c_law ?k_law ?a_Society___init__ ?i_Society___init__ ?l_Society___init__ ?c_Society___init__ ?k_Society___init__ ?a_Society_led ?i_Society_led ?l_Society_led ?c_Society_led ?k_Society_led ?a_Society_walked ?i_Society_walked ?l_Society_walked ?c_Society_walked ?k_Society_walked ?pg_Society ?hd_Society ?po_Society ?so_Society ?mo_Society ?ko_Society ?nf_Society_size ?nf_Society_wives ?nf_Society_children ?nf_Society_moves ?gS ?opq ?gC_InvalidWord ?xL_InvalidWord ?bm_ok_InvalidWord ?xi_InvalidWord ?sa_InvalidWord ?ga_InvalidWord ?gg_InvalidWord ?nb_InvalidWord ?iC_InvalidWord ?tI_InvalidWord ?kC_InvalidWord ?eC_InvalidWord ?eV_InvalidWord ?sf_InvalidWord ?tC_InvalidWord ?hC_InvalidWord ?su_InvalidWord ?lI_InvalidWord ?cI_InvalidWord ?lc_InvalidWord ?v2_InvalidWord ?fl_InvalidWord ?ll_InvalidWord ?is_InvalidWord ?ss_InvalidWord ?gC_InvalidSociety ?xL_InvalidSociety ?bm_ok_InvalidSociety ?xi_InvalidSociety ?sa_InvalidSociety ?ga_InvalidSociety ?gg_InvalidSociety ?nb_InvalidSociety ?iC_InvalidSociety ?tI_InvalidSociety ?kC_InvalidSociety ?eC_InvalidSociety ?eV_InvalidSociety ?sf_InvalidSociety ?tC_InvalidSociety ?hC_InvalidSociety ?su_InvalidSociety ?lI_InvalidSociety ?cI_InvalidSociety ?lc_InvalidSociety ?v2_InvalidSociety ?fl_InvalidSociety ?ll_InvalidSociety ?is_InvalidSociety ?ss_InvalidSociety ?gC_InvalidKind ?xL_InvalidKind ?bm_ok_InvalidKind ?xi_InvalidKind ?sa_InvalidKind ?ga_InvalidKind ?gg_InvalidKind ?nb_InvalidKind ?iC_InvalidKind ?tI_InvalidKind ?kC_InvalidKind ?eC_InvalidKind ?eV_InvalidKind ?sf_InvalidKind ?tC_InvalidKind ?hC_InvalidKind ?su_InvalidKind ?lI_InvalidKind ?cI_InvalidKind ?lc_InvalidKind ?v2_InvalidKind ?fl_InvalidKind ?ll_InvalidKind ?is_InvalidKind ?ss_InvalidKind ?gC_TooMany ?xL_TooMany ?bm_ok_TooMany ?xi_TooMany ?sa_TooMany ?ga_TooMany ?gg_TooMany ?nb_TooMany ?iC_TooMany ?tI_TooMany ?kC_TooMany ?eC_TooMany ?eV_TooMany ?sf_TooMany ?tC_TooMany ?hC_TooMany ?su_TooMany ?lI_TooMany ?cI_TooMany ?lc_TooMany ?v2_TooMany ?fl_TooMany ?ll_TooMany ?is_TooMany ?ss_TooMany ?na_InvalidWord_many ?ss_InvalidWord_InvalidSociety ?ss_InvalidWord_InvalidKind ?ss_InvalidWord_TooMany ?na_InvalidSociety_many ?ss_InvalidSociety_InvalidWord ?ss_InvalidSociety_InvalidKind ?ss_InvalidSociety_TooMany ?na_InvalidKind_many ?ss_InvalidKind_InvalidWord ?ss_InvalidKind_InvalidSociety ?ss_InvalidKind_TooMany ?na_TooMany_many ?ss_TooMany_InvalidWord ?ss_TooMany_InvalidSociety ?ss_TooMany_InvalidKind ?tp ?at_LETTERS ?at_MOST_LETTERS ?at_MOST_CLASSES KL.K78.law_true
    (case aO_Society => k_is)
    (case z_abs => k_is)
    (case z_all => k_is)
    (case z_bool => k_is)
    (case z_divmod => k_is)
    (case z_enumerate => k_is)
    (case z_int => k_is)
    (case z_isinstance => k_is)
    (case z_len => k_is)
    (case z_list => k_is)
    (case z_min => k_is)
    (case z_range => k_is)
    (case z_sorted => k_is)
    (case z_str => k_is)
    (case z_tuple => k_is)
    (case a_is_whole_number => k_is)
    (case l_is_whole_number => k_is)
    (case c_is_whole_number => k_is)
    (case k_is_whole_number => k_is)
    (case a_is_class_word => k_is)
    (case l_is_class_word => k_is)
    (case c_is_class_word => k_is)
    (case k_is_class_word => k_is)
    (case a_check_class_word => k_is)
    (case l_check_class_word => k_is)
    (case c_check_class_word => k_is)
    (case k_check_class_word => k_is)
    (case a_is_order => k_is)
    (case l_is_order => k_is)
    (case c_is_order => k_is)
    (case k_is_order => k_is)
    (case a_turned_back => k_is)
    (case l_turned_back => k_is)
    (case c_turned_back => k_is)
    (case k_turned_back => k_is)
    (case a_check_class => k_is)
    (case l_check_class => k_is)
    (case c_check_class => k_is)
    (case k_check_class => k_is)
    (case a_tupled => k_is)
    (case l_tupled => k_is)
    (case c_tupled => k_is)
    (case k_tupled => k_is)
    (case a_is_ring => k_is)
    (case l_is_ring => k_is)
    (case c_is_ring => k_is)
    (case k_is_ring => k_is)
    (case a_check_ring => k_is)
    (case l_check_ring => k_is)
    (case c_check_ring => k_is)
    (case k_check_ring => k_is)
    (case a_is_seat => k_is)
    (case l_is_seat => k_is)
    (case c_is_seat => k_is)
    (case k_is_seat => k_is)
    (case a_shifted => k_is)
    (case l_shifted => k_is)
    (case c_shifted => k_is)
    (case k_shifted => k_is)
    (case a_ring_led => k_is)
    (case l_ring_led => k_is)
    (case c_ring_led => k_is)
    (case k_ring_led => k_is)
    (case a_ring_society => k_is)
    (case l_ring_society => k_is)
    (case c_ring_society => k_is)
    (case k_ring_society => k_is)
    (case a_law_deck => k_is)
    (case l_law_deck => k_is)
    (case c_law_deck => k_is)
    (case k_law_deck => k_is)
    (case a_law_take => k_is)
    (case l_law_take => k_is)
    (case c_law_take => k_is)
    (case k_law_take => k_is)
    (case a_law_letters => k_is)
    (case l_law_letters => k_is)
    (case c_law_letters => k_is)
    (case k_law_letters => k_is)
    (case a_law_pair => k_is)
    (case l_law_pair => k_is)
    (case c_law_pair => k_is)
    (case k_law_pair => k_is)
    (case a_law_shifted => k_is)
    (case l_law_shifted => k_is)
    (case c_law_shifted => k_is)
    (case k_law_shifted => k_is)
    (case a_law_one => k_is)
    (case l_law_one => k_is)
    (case c_law_one => k_is)
    (case k_law_one => k_is)
    (case a_law_refusal => k_is)
    (case l_law_refusal => k_is)
    (case c_law_refusal => k_is)
    (case k_law_refusal => k_is)
    (case a_law => k_is)
    (case l_law => k_is)
    (case c_law => k_is)
    (case k_law => k_is)
    (case a_Society___init__ => k_is)
    (case i_Society___init__ => k_is)
    (case l_Society___init__ => k_is)
    (case c_Society___init__ => k_is)
    (case k_Society___init__ => k_is)
    (case a_Society_led => k_is)
    (case i_Society_led => k_is)
    (case l_Society_led => k_is)
    (case c_Society_led => k_is)
    (case k_Society_led => k_is)
    (case a_Society_walked => k_is)
    (case i_Society_walked => k_is)
    (case l_Society_walked => k_is)
    (case c_Society_walked => k_is)
    (case k_Society_walked => k_is)
    (case pg_Society => k_is)
    (case hd_Society => k_is)
    (case po_Society => k_is)
    (case so_Society => k_is)
    (case mo_Society => k_is)
    (case ko_Society => k_is)
    (case nf_Society_size => k_is)
    (case nf_Society_wives => k_is)
    (case nf_Society_children => k_is)
    (case nf_Society_moves => k_is)
    (case gS => k_is)
    (case opq => k_is)
    (case gC_InvalidWord => k_is)
    (case xL_InvalidWord => k_is)
    (case bm_ok_InvalidWord => first | rfl | decide +kernel)
    (case xi_InvalidWord => first | kx_is | kernel_rfl | k_is)
    (case sa_InvalidWord => k_is)
    (case ga_InvalidWord => k_is)
    (case gg_InvalidWord => k_is)
    (case nb_InvalidWord => k_is)
    (case iC_InvalidWord => k_is)
    (case tI_InvalidWord => k_is)
    (case kC_InvalidWord => k_is)
    (case eC_InvalidWord => k_is)
    (case eV_InvalidWord => k_is)
    (case sf_InvalidWord => k_is)
    (case tC_InvalidWord => k_is)
    (case hC_InvalidWord => k_is)
    (case su_InvalidWord => first | ks_is | kernel_rfl | k_is)
    (case lI_InvalidWord => k_is)
    (case cI_InvalidWord => k_is)
    (case lc_InvalidWord => k_is)
    (case v2_InvalidWord => rfl)
    (case fl_InvalidWord => first | rfl | decide +kernel)
    (case ll_InvalidWord => k_is)
    (case is_InvalidWord => k_is)
    (case ss_InvalidWord => first | rfl | k_is)
    (case gC_InvalidSociety => k_is)
    (case xL_InvalidSociety => k_is)
    (case bm_ok_InvalidSociety => first | rfl | decide +kernel)
    (case xi_InvalidSociety => first | kx_is | kernel_rfl | k_is)
    (case sa_InvalidSociety => k_is)
    (case ga_InvalidSociety => k_is)
    (case gg_InvalidSociety => k_is)
    (case nb_InvalidSociety => k_is)
    (case iC_InvalidSociety => k_is)
    (case tI_InvalidSociety => k_is)
    (case kC_InvalidSociety => k_is)
    (case eC_InvalidSociety => k_is)
    (case eV_InvalidSociety => k_is)
    (case sf_InvalidSociety => k_is)
    (case tC_InvalidSociety => k_is)
    (case hC_InvalidSociety => k_is)
    (case su_InvalidSociety => first | ks_is | kernel_rfl | k_is)
    (case lI_InvalidSociety => k_is)
    (case cI_InvalidSociety => k_is)
    (case lc_InvalidSociety => k_is)
    (case v2_InvalidSociety => rfl)
    (case fl_InvalidSociety => first | rfl | decide +kernel)
    (case ll_InvalidSociety => k_is)
    (case is_InvalidSociety => k_is)
    (case ss_InvalidSociety => first | rfl | k_is)
    (case gC_InvalidKind => k_is)
    (case xL_InvalidKind => k_is)
    (case bm_ok_InvalidKind => first | rfl | decide +kernel)
    (case xi_InvalidKind => first | kx_is | kernel_rfl | k_is)
    (case sa_InvalidKind => k_is)
    (case ga_InvalidKind => k_is)
    (case gg_InvalidKind => k_is)
    (case nb_InvalidKind => k_is)
    (case iC_InvalidKind => k_is)
    (case tI_InvalidKind => k_is)
    (case kC_InvalidKind => k_is)
    (case eC_InvalidKind => k_is)
    (case eV_InvalidKind => k_is)
    (case sf_InvalidKind => k_is)
    (case tC_InvalidKind => k_is)
    (case hC_InvalidKind => k_is)
    (case su_InvalidKind => first | ks_is | kernel_rfl | k_is)
    (case lI_InvalidKind => k_is)
    (case cI_InvalidKind => k_is)
    (case lc_InvalidKind => k_is)
    (case v2_InvalidKind => rfl)
    (case fl_InvalidKind => first | rfl | decide +kernel)
    (case ll_InvalidKind => k_is)
    (case is_InvalidKind => k_is)
    (case ss_InvalidKind => first | rfl | k_is)
    (case gC_TooMany => k_is)
    (case xL_TooMany => k_is)
    (case bm_ok_TooMany => first | rfl | decide +kernel)
    (case xi_TooMany => first | kx_is | kernel_rfl | k_is)
    (case sa_TooMany => k_is)
    (case ga_TooMany => k_is)
    (case gg_TooMany => k_is)
    (case nb_TooMany => k_is)
    (case iC_TooMany => k_is)
    (case tI_TooMany => k_is)
    (case kC_TooMany => k_is)
    (case eC_TooMany => k_is)
    (case eV_TooMany => k_is)
    (case sf_TooMany => k_is)
    (case tC_TooMany => k_is)
    (case hC_TooMany => k_is)
    (case su_TooMany => first | ks_is | kernel_rfl | k_is)
    (case lI_TooMany => k_is)
    (case cI_TooMany => k_is)
    (case lc_TooMany => k_is)
    (case v2_TooMany => rfl)
    (case fl_TooMany => first | rfl | decide +kernel)
    (case ll_TooMany => k_is)
    (case is_TooMany => k_is)
    (case ss_TooMany => first | rfl | k_is)
    (case na_InvalidWord_many => k_is)
    (case ss_InvalidWord_InvalidSociety => first | rfl | k_is)
    (case ss_InvalidWord_InvalidKind => first | rfl | k_is)
    (case ss_InvalidWord_TooMany => first | rfl | k_is)
    (case na_InvalidSociety_many => k_is)
    (case ss_InvalidSociety_InvalidWord => first | rfl | k_is)
    (case ss_InvalidSociety_InvalidKind => first | rfl | k_is)
    (case ss_InvalidSociety_TooMany => first | rfl | k_is)
    (case na_InvalidKind_many => k_is)
    (case ss_InvalidKind_InvalidWord => first | rfl | k_is)
    (case ss_InvalidKind_InvalidSociety => first | rfl | k_is)
    (case ss_InvalidKind_TooMany => first | rfl | k_is)
    (case na_TooMany_many => k_is)
    (case ss_TooMany_InvalidWord => first | rfl | k_is)
    (case ss_TooMany_InvalidSociety => first | rfl | k_is)
    (case ss_TooMany_InvalidKind => first | rfl | k_is)
    (case tp => first | rfl | decide +kernel)
    (case at_LETTERS => k_is)
    (case at_MOST_LETTERS => k_is)
    (case at_MOST_CLASSES => k_is)
#print axioms PySem.Challenge.cw_kinwork_k78_whole_rings_holds
