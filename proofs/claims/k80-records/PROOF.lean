import PyProof.Rows.All
import HandS.ForMost
import HandS.IsInst
import HandS.Walk
import HandS.Zip
import HandS.TupAny
import HandS.Deep
import HandS.SortInts
import HandS.Flow
import HandS.Style
import HandS.TupMul
import HandS.SortRule
import HandS.NoneIn
import HandS.SetFor
import HandS.SetKeys
import PyProof.Rows.SortShellAny
import HandS.Conv
import KE.GoesEnum
import Wide.All
import OpenK.AllK
import Wide.FinOn
import PySem.Challenge.RW_aheadworkers_k80_records_or_none
set_option Elab.async false
set_option linter.all false
set_option maxRecDepth 100000
set_option maxHeartbeats 8000000
namespace AW
open PySem PySem.Spec PyProof.Rows L2

/-- a list's kind: frozen for good; borrowed for the time of a call; a foreign one (the script), read only -/
inductive LK where
  | frz | bor | ext
  deriving DecidableEq
/-- data: tuples and frozen lists are trees, what may be written stands in a store's cell -/
inductive D where
  | non | bl (b : Bool) | int (i : Int) | str (x : Str)
  | tup (ds : List D) | lst (k : LK) (ds : List D) | ref (i : Nat)
instance : Inhabited D := ⟨.non⟩
/-- a cell of the store -/
inductive CO where
  | lst (ds : List D)
  | dead

mutual
def eqD : D → D → Bool
  | .non, .non => true
  | .bl a, .bl b => decide (a = b)
  | .int a, .int b => decide (a = b)
  | .str a, .str b => decide (a = b)
  | .tup a, .tup b => eqDs a b
  | .lst k a, .lst l b => decide (k = l) && eqDs a b
  | .ref a, .ref b => decide (a = b)
  | _, _ => false
def eqDs : List D → List D → Bool
  | [], [] => true
  | a :: as, b :: bs => eqD a b && eqDs as bs
  | _, _ => false
end
mutual
theorem eqD_eq : ∀ {a b : D}, eqD a b = true → a = b
  | .non, b, h => by cases b <;> simp [eqD] at h; rfl
  | .bl x, b, h => by cases b <;> simp [eqD] at h; rw [h]
  | .int x, b, h => by cases b <;> simp [eqD] at h; rw [h]
  | .str x, b, h => by cases b <;> simp [eqD] at h; rw [h]
  | .tup x, b, h => by cases b <;> simp [eqD] at h; rw [eqDs_eq h]
  | .lst k x, b, h => by cases b <;> simp [eqD] at h; rw [h.1, eqDs_eq h.2]
  | .ref x, b, h => by cases b <;> simp [eqD] at h; rw [h]
theorem eqDs_eq : ∀ {a b : List D}, eqDs a b = true → a = b
  | [], b, h => by cases b <;> simp [eqDs] at h; rfl
  | x :: xs, b, h => by
    cases b with
    | nil => simp [eqDs] at h
    | cons y ys => simp [eqDs] at h; rw [eqD_eq h.1, eqDs_eq h.2]
end
mutual
theorem eqD_refl : ∀ (a : D), eqD a a = true
  | .non => rfl
  | .bl x => by simp [eqD]
  | .int x => by simp [eqD]
  | .str x => by simp [eqD]
  | .tup x => by simp [eqD, eqDs_refl x]
  | .lst k x => by simp [eqD, eqDs_refl x]
  | .ref x => by simp [eqD]
theorem eqDs_refl : ∀ (a : List D), eqDs a a = true
  | [] => rfl
  | x :: xs => by simp [eqDs, eqD_refl x, eqDs_refl xs]
end
instance : DecidableEq D := fun a b => if h : eqD a b = true then .isTrue (eqD_eq h) else .isFalse fun e => h (by rw [e]; exact eqD_refl b)

abbrev Env := List (Option D)
abbrev Sto := List CO
abbrev M (α : Type) := Option (α × Sto)

/-! ### representation -/
structure Wd where
  rhw : List Addr
  F : Hp
  B : Hp

def RpQ (K : PySem.W.Frag) (w : Wd) (k : LK) (a : Addr) (xs : List V) : Prop := match k with
  | .frz => w.F a = some (.lst xs)
  | .bor => w.B a = some (.lst xs)
  | .ext => SqL K w.F a xs
mutual
def Rp (K : PySem.W.Frag) (w : Wd) : D → V → Prop
  | .non, v => v = .non
  | .bl b, v => v = .bl b
  | .int i, v => v = .int i
  | .str x, v => v = .str x
  | .tup ds, v => ∃ a xs, v = .ref a ∧ w.F a = some (.tup xs) ∧ RpL K w ds xs
  | .lst k ds, v => ∃ a xs, v = .ref a ∧ RpQ K w k a xs ∧ RpL K w ds xs
  | .ref i, v => ∃ a, w.rhw[i]? = some a ∧ v = .ref a
def RpL (K : PySem.W.Frag) (w : Wd) : List D → List V → Prop
  | [], xs => xs = []
  | d :: ds, xs => ∃ x r, xs = x :: r ∧ Rp K w d x ∧ RpL K w ds r
end
def RpO (K : PySem.W.Frag) (w : Wd) : CO → HO → Prop
  | .lst ds, o => ∃ xs, o = .lst xs ∧ RpL K w ds xs
  | .dead, _ => True

def Sub (F F' : Hp) : Prop := ∀ a o, F a = some o → F' a = some o
theorem Sub.refl (F : Hp) : Sub F F := fun _ _ h => h
theorem Sub.trans {F G H : Hp} (a : Sub F G) (b : Sub G H) : Sub F H := fun c o h => b c o (a c o h)
theorem Sub.rd {F F' : Hp} (e : Sub F F') {a : Addr} {u : HO} (h : Rd F a u) : Rd F' a u := by
  rcases h with h | ⟨o, h⟩
  · exact .inl (e _ _ h)
  · exact .inr ⟨o, e _ _ h⟩
theorem Sub.sqL {K : PySem.W.Frag} {F F' : Hp} (e : Sub F F') {a : Addr} {xs : List V} (h : SqL K F a xs) : SqL K F' a xs := by
  rcases h with h | h
  · exact .inl (e.rd h)
  · exact .inr h
theorem Sub.sqT {K : PySem.W.Frag} {F F' : Hp} (e : Sub F F') {a : Addr} {xs : List V} (h : SqT K F a xs) : SqT K F' a xs := by
  rcases h with h | h
  · exact .inl (e.rd h)
  · exact .inr h

structure WdLe (w w' : Wd) : Prop where
  p : ∃ more, w'.rhw = w.rhw ++ more
  f : Sub w.F w'.F
  b : Sub w.B w'.B
theorem WdLe.refl (w : Wd) : WdLe w w := ⟨⟨[], by simp⟩, Sub.refl _, Sub.refl _⟩
theorem WdLe.trans {u v w : Wd} (a : WdLe u v) (b : WdLe v w) : WdLe u w := by
  obtain ⟨m, e⟩ := a.p
  obtain ⟨n, f⟩ := b.p
  exact ⟨⟨m ++ n, by rw [f, e, List.append_assoc]⟩, a.f.trans b.f, a.b.trans b.b⟩
theorem WdLe.ix {w w' : Wd} (e : WdLe w w') {i : Nat} {a : Addr} (h : w.rhw[i]? = some a) : w'.rhw[i]? = some a := by
  obtain ⟨m, e⟩ := e.p
  rw [e, List.getElem?_append_left (List.getElem?_eq_some_iff.mp h).1]
  exact h
theorem WdLe.q {K : PySem.W.Frag} {w w' : Wd} (e : WdLe w w') {k : LK} {a : Addr} {xs : List V} (h : RpQ K w k a xs) : RpQ K w' k a xs := by
  cases k with
  | frz => exact e.f _ _ h
  | bor => exact e.b _ _ h
  | ext => exact e.f.sqL h
mutual
theorem Rp.mono {K : PySem.W.Frag} {w w' : Wd} (e : WdLe w w') : ∀ {d : D} {v : V}, Rp K w d v → Rp K w' d v
  | .non, _, h => by simpa [Rp] using h
  | .bl _, _, h => by simpa [Rp] using h
  | .int _, _, h => by simpa [Rp] using h
  | .str _, _, h => by simpa [Rp] using h
  | .tup ds, _, h => by
    simp only [Rp] at h ⊢
    obtain ⟨a, xs, h1, h2, h3⟩ := h
    exact ⟨a, xs, h1, e.f _ _ h2, RpL.mono e h3⟩
  | .lst k ds, _, h => by
    simp only [Rp] at h ⊢
    obtain ⟨a, xs, h1, h2, h3⟩ := h
    exact ⟨a, xs, h1, e.q h2, RpL.mono e h3⟩
  | .ref i, _, h => by
    simp only [Rp] at h ⊢
    obtain ⟨a, h1, h2⟩ := h
    exact ⟨a, e.ix h1, h2⟩
theorem RpL.mono {K : PySem.W.Frag} {w w' : Wd} (e : WdLe w w') : ∀ {ds : List D} {xs : List V}, RpL K w ds xs → RpL K w' ds xs
  | [], _, h => by simpa [RpL] using h
  | d :: ds, _, h => by
    simp only [RpL] at h ⊢
    obtain ⟨x, r, h1, h2, h3⟩ := h
    exact ⟨x, r, h1, Rp.mono e h2, RpL.mono e h3⟩
end
theorem RpO.mono {K : PySem.W.Frag} {w w' : Wd} (e : WdLe w w') {c : CO} {o : HO} (h : RpO K w c o) : RpO K w' c o := by
  cases c with
  | lst ds =>
    obtain ⟨xs, h1, h2⟩ := h
    exact ⟨xs, h1, h2.mono e⟩
  | dead => trivial

/-! ### lists of data -/
section
variable {K : PySem.W.Frag} {w : Wd}
theorem RpL.len : ∀ {ds : List D} {xs : List V}, RpL K w ds xs → ds.length = xs.length
  | [], _, h => by simp only [RpL] at h; rw [h]; rfl
  | d :: ds, _, h => by
    simp only [RpL] at h
    obtain ⟨x, r, rfl, _, h3⟩ := h
    simp [h3.len]
theorem RpL.get : ∀ {ds : List D} {xs : List V} {i : Nat} {d : D}, RpL K w ds xs → ds[i]? = some d → ∃ x, xs[i]? = some x ∧ Rp K w d x
  | [], _, _, _, _, e => by simp at e
  | d :: ds, _, 0, d', h, e => by
    simp only [RpL] at h
    obtain ⟨x, r, rfl, h2, _⟩ := h
    simp at e; subst e
    exact ⟨x, rfl, h2⟩
  | d :: ds, _, i + 1, d', h, e => by
    simp only [RpL] at h
    obtain ⟨x, r, rfl, _, h3⟩ := h
    simpa using RpL.get (i := i) h3 (by simpa using e)
theorem RpL.getV : ∀ {ds : List D} {xs : List V} {i : Nat} {x : V}, RpL K w ds xs → xs[i]? = some x → ∃ d, ds[i]? = some d ∧ Rp K w d x
  | [], _, _, _, h, e => by simp only [RpL] at h; subst h; simp at e
  | d :: ds, _, 0, x', h, e => by
    simp only [RpL] at h
    obtain ⟨x, r, rfl, h2, _⟩ := h
    simp at e; subst e
    exact ⟨d, rfl, h2⟩
  | d :: ds, _, i + 1, x', h, e => by
    simp only [RpL] at h
    obtain ⟨x, r, rfl, _, h3⟩ := h
    simpa using RpL.getV (i := i) h3 (by simpa using e)
theorem RpL.append : ∀ {ds es : List D} {xs ys : List V}, RpL K w ds xs → RpL K w es ys → RpL K w (ds ++ es) (xs ++ ys)
  | [], _, _, _, h, g => by simp only [RpL] at h; subst h; exact g
  | d :: ds, es, _, _, h, g => by
    simp only [RpL] at h
    obtain ⟨x, r, rfl, h2, h3⟩ := h
    simp only [List.cons_append, RpL]
    exact ⟨x, _, rfl, h2, h3.append g⟩
theorem RpL.nil : RpL K w [] [] := by simp [RpL]
theorem RpL.cons {d : D} {v : V} {ds : List D} {xs : List V} (h : Rp K w d v) (t : RpL K w ds xs) : RpL K w (d :: ds) (v :: xs) := by
  simp only [RpL]; exact ⟨v, xs, rfl, h, t⟩
theorem RpL.one {d : D} {v : V} (h : Rp K w d v) : RpL K w [d] [v] := .cons h .nil
theorem RpL.cons_inv {d : D} {ds : List D} {xs : List V} (h : RpL K w (d :: ds) xs) : ∃ x r, xs = x :: r ∧ Rp K w d x ∧ RpL K w ds r := by
  simpa only [RpL] using h
theorem RpL.nil_inv {xs : List V} (h : RpL K w [] xs) : xs = [] := by simpa only [RpL] using h
theorem RpL.take : ∀ (n : Nat) {ds : List D} {xs : List V}, RpL K w ds xs → RpL K w (ds.take n) (xs.take n)
  | 0, _, _, _ => by simp [RpL]
  | n + 1, [], _, h => by rw [h.nil_inv]; simp [RpL]
  | n + 1, d :: ds, _, h => by
    obtain ⟨x, r, rfl, h2, h3⟩ := h.cons_inv
    simpa using RpL.cons h2 (h3.take n)
theorem RpL.drop : ∀ (n : Nat) {ds : List D} {xs : List V}, RpL K w ds xs → RpL K w (ds.drop n) (xs.drop n)
  | 0, _, _, h => h
  | n + 1, [], _, h => by rw [h.nil_inv]; simp [RpL]
  | n + 1, d :: ds, _, h => by
    obtain ⟨x, r, rfl, h2, h3⟩ := h.cons_inv
    simpa using h3.drop n
theorem RpL.set : ∀ (i : Nat) {ds : List D} {xs : List V} {d : D} {v : V}, RpL K w ds xs → Rp K w d v → RpL K w (ds.set i d) (xs.set i v)
  | _, [], _, _, _, h, _ => by rw [h.nil_inv]; simp [RpL]
  | 0, d :: ds, _, _, _, h, g => by
    obtain ⟨x, r, rfl, h2, h3⟩ := h.cons_inv
    simpa using RpL.cons g h3
  | i + 1, d :: ds, _, _, _, h, g => by
    obtain ⟨x, r, rfl, h2, h3⟩ := h.cons_inv
    simpa using RpL.cons h2 (h3.set i g)
theorem RpL.eraseIdx : ∀ (i : Nat) {ds : List D} {xs : List V}, RpL K w ds xs → RpL K w (ds.eraseIdx i) (xs.eraseIdx i)
  | _, [], _, h => by rw [h.nil_inv]; simp [RpL]
  | 0, d :: ds, _, h => by
    obtain ⟨x, r, rfl, h2, h3⟩ := h.cons_inv
    simpa using h3
  | i + 1, d :: ds, _, h => by
    obtain ⟨x, r, rfl, h2, h3⟩ := h.cons_inv
    simpa using RpL.cons h2 (h3.eraseIdx i)
theorem RpL.reverse : ∀ {ds : List D} {xs : List V}, RpL K w ds xs → RpL K w ds.reverse xs.reverse
  | [], _, h => by rw [h.nil_inv]; simp [RpL]
  | d :: ds, _, h => by
    obtain ⟨x, r, rfl, h2, h3⟩ := h.cons_inv
    simpa using h3.reverse.append (RpL.one h2)
end

/-! ### the store held by the heap; what may change -/
structure SimC (K : PySem.W.Frag) (w : Wd) (H : Hp) (S : Sto) : Prop where
  fs : Sub w.F H
  bs : Sub w.B H
  len : w.rhw.length = S.length
  nd : w.rhw.Nodup
  nf : ∀ a ∈ w.rhw, w.F a = none ∧ w.B a = none
  cell : ∀ (i : Nat) (co : CO), S[i]? = some co → ∃ a o, w.rhw[i]? = some a ∧ H a = some o ∧ RpO K w co o
def SimE (K : PySem.W.Frag) (w : Wd) (σ : L2.St) (E : Env) : Prop := ∀ (i : Nat) (d : D), E[i]? = some (some d) → ∃ v, σ[i]? = some (some v) ∧ Rp K w d v
/-- from (w, H) to (w', H'): B stays -/
structure Ext (w : Wd) (H : Hp) (w' : Wd) (H' : Hp) : Prop where
  p : ∃ more, w'.rhw = w.rhw ++ more ∧ ∀ a ∈ more, H a = none
  f : Sub w.F w'.F
  b : w'.B = w.B
  ff : ∀ a, H a ≠ none → w.F a = none → w'.F a = none
  keep : ∀ a o, H a = some o → a ∉ w.rhw → H' a = some o
  dom : ∀ a, H a ≠ none → H' a ≠ none
theorem Ext.le {w w' : Wd} {H H' : Hp} (e : Ext w H w' H') : WdLe w w' :=
  ⟨let ⟨m, h, _⟩ := e.p; ⟨m, h⟩, e.f, by rw [e.b]; exact Sub.refl _⟩
theorem Ext.refl (w : Wd) (H : Hp) : Ext w H w H := ⟨⟨[], by simp, by simp⟩, Sub.refl _, rfl, fun _ _ h => h, fun _ _ h _ => h, fun _ h => h⟩
theorem Ext.trans {w w1 w2 : Wd} {H H1 H2 : Hp} (a : Ext w H w1 H1) (b : Ext w1 H1 w2 H2) : Ext w H w2 H2 := by
  obtain ⟨m, e, f⟩ := a.p
  obtain ⟨n, g, k⟩ := b.p
  refine ⟨⟨m ++ n, by rw [g, e, List.append_assoc], fun x hx => ?_⟩, a.f.trans b.f, b.b.trans a.b, fun x h1 h2 => b.ff x (a.dom x h1) (a.ff x h1 h2), fun x o h1 h2 => b.keep x o (a.keep x o h1 h2) fun hx => ?_, fun x h => b.dom x (a.dom x h)⟩
  · rcases List.mem_append.mp hx with hx | hx
    · exact f x hx
    · cases q : H x with
      | none => rfl
      | some o => exact absurd (k x hx) (a.dom x (by rw [q]; simp))
  · rw [e] at hx
    rcases List.mem_append.mp hx with hx | hx
    · exact h2 hx
    · rw [f x hx] at h1; cases h1
section
variable {K : PySem.W.Frag} {w w' : Wd} {H H' : Hp} {S S' : Sto} {σ : L2.St} {E : Env}
theorem SimE.mono (e : WdLe w w') (h : SimE K w σ E) : SimE K w' σ E := fun i d q => let ⟨v, h1, h2⟩ := h i d q; ⟨v, h1, h2.mono e⟩
theorem SimC.some (c : SimC K w H S) {a : Addr} (h : a ∈ w.rhw) : ∃ o, H a = some o := by
  obtain ⟨i, hi, e⟩ := List.getElem_of_mem h
  have hs : i < S.length := by rw [← c.len]; exact hi
  obtain ⟨b, o, h1, h2, _⟩ := c.cell i S[i] (List.getElem?_eq_getElem hs)
  rw [List.getElem?_eq_getElem hi] at h1
  cases h1
  exact ⟨o, by rw [← e]; exact h2⟩
/-- a new object that is not told -/
theorem alloc_un (c : SimC K w H S) {p : Addr} {o : HO} (hp : H p = none) : SimC K w (upd H p o) S ∧ Ext w H w (upd H p o) := by
  have k : ∀ a u, H a = some u → upd H p o a = some u := fun a u h => by rw [upd_ne (ne_of_none h hp)]; exact h
  refine ⟨⟨fun a u h => k _ _ (c.fs a u h), fun a u h => k _ _ (c.bs a u h), c.len, c.nd, c.nf, fun i co h => ?_⟩, ⟨⟨[], by simp, by simp⟩, Sub.refl _, rfl, fun _ _ h => h, fun a u h _ => k a u h, fun a h => ?_⟩⟩
  · obtain ⟨a, u, h1, h2, h3⟩ := c.cell i co h
    exact ⟨a, u, h1, k _ _ h2, h3⟩
  · cases q : H a with
    | none => exact absurd q h
    | some u => rw [k a u q]; simp
/-- a new object, frozen -/
theorem alloc_frz (c : SimC K w H S) {p : Addr} {o : HO} (hp : H p = none) : SimC K { w with F := upd w.F p o } (upd H p o) S ∧ Ext w H { w with F := upd w.F p o } (upd H p o) := by
  have k : ∀ a u, H a = some u → upd H p o a = some u := fun a u h => by rw [upd_ne (ne_of_none h hp)]; exact h
  have fp : w.F p = none := by
    cases q : w.F p with
    | none => rfl
    | some u => rw [c.fs p u q] at hp; cases hp
  have fk : Sub w.F (upd w.F p o) := fun a u h => by rw [upd_ne (ne_of_none h fp)]; exact h
  have np : ∀ a ∈ w.rhw, a ≠ p := fun a ha e => by obtain ⟨u, h⟩ := c.some ha; rw [e, hp] at h; cases h
  have le : WdLe w { w with F := upd w.F p o } := ⟨⟨[], by simp⟩, fk, Sub.refl _⟩
  refine ⟨⟨fun a u h => ?_, fun a u h => k _ _ (c.bs a u h), c.len, c.nd, fun a ha => ⟨?_, (c.nf a ha).2⟩, fun i co h => ?_⟩, ⟨⟨[], by simp, by simp⟩, fk, rfl, fun a h1 h2 => ?_, fun a u h _ => k a u h, fun a h => ?_⟩⟩
  · by_cases e : a = p
    · subst e
      have h : upd w.F a o a = some u := h
      rw [upd_same] at h ⊢; exact h
    · have h : upd w.F p o a = some u := h
      rw [upd_ne e] at h; exact k _ _ (c.fs _ _ h)
  · show upd w.F p o a = none
    rw [upd_ne (np a ha)]; exact (c.nf a ha).1
  · obtain ⟨a, u, h1, h2, h3⟩ := c.cell i co h
    exact ⟨a, u, h1, k _ _ h2, h3.mono le⟩
  · show upd w.F p o a = none
    rw [upd_ne (fun e => h1 (by rw [e]; exact hp))]; exact h2
  · cases q : H a with
    | none => exact absurd q h
    | some u => rw [k a u q]; simp
/-- a new object, a new cell -/
theorem alloc_cell (c : SimC K w H S) {p : Addr} {o : HO} {co : CO} (hp : H p = none) (r : RpO K w co o) : SimC K { w with rhw := w.rhw ++ [p] } (upd H p o) (S ++ [co]) ∧ Ext w H { w with rhw := w.rhw ++ [p] } (upd H p o) := by
  have k : ∀ a u, H a = some u → upd H p o a = some u := fun a u h => by rw [upd_ne (ne_of_none h hp)]; exact h
  have le : WdLe w { w with rhw := w.rhw ++ [p] } := ⟨⟨[p], rfl⟩, Sub.refl _, Sub.refl _⟩
  have np : p ∉ w.rhw := fun hm => by obtain ⟨u, h⟩ := c.some hm; rw [hp] at h; cases h
  have no : ∀ {G : Hp}, Sub G H → G p = none := fun {G} s => by
    cases q : G p with
    | none => rfl
    | some u => rw [s p u q] at hp; cases hp
  refine ⟨⟨fun a u h => k _ _ (c.fs a u h), fun a u h => k _ _ (c.bs a u h), by simp [c.len], ?_, fun a ha => ?_, fun i co' h => ?_⟩, ⟨⟨[p], rfl, by simp [hp]⟩, Sub.refl _, rfl, fun _ _ h => h, fun a u h _ => k a u h, fun a h => ?_⟩⟩
  · show (w.rhw ++ [p]).Nodup
    refine List.nodup_append.mpr ⟨c.nd, by simp, fun a ha b hb => ?_⟩
    have : b = p := by simpa using hb
    subst this
    exact fun e => np (e ▸ ha)
  · have ha : a ∈ w.rhw ++ [p] := ha
    rcases List.mem_append.mp ha with ha | ha
    · exact c.nf a ha
    · have : a = p := by simpa using ha
      subst this
      exact ⟨no c.fs, no c.bs⟩
  · by_cases hi : i < S.length
    · rw [List.getElem?_append_left hi] at h
      obtain ⟨a, u, h1, h2, h3⟩ := c.cell i co' h
      exact ⟨a, u, le.ix h1, k _ _ h2, h3.mono le⟩
    · have hl : i < (S ++ [co]).length := (List.getElem?_eq_some_iff.mp h).1
      have e : i = S.length := by simp at hl; omega
      subst e
      simp at h
      subst h
      exact ⟨p, o, by show (w.rhw ++ [p])[S.length]? = _; rw [← c.len]; simp, upd_same, r.mono le⟩
  · cases q : H a with
    | none => exact absurd q h
    | some u => rw [k a u q]; simp
/-- a cell is written -/
theorem write_cell (c : SimC K w H S) {i : Nat} {a : Addr} {o : HO} {co : CO} (hi : w.rhw[i]? = some a) (r : RpO K w co o) : SimC K w (upd H a o) (S.set i co) ∧ Ext w H w (upd H a o) := by
  have am : a ∈ w.rhw := List.mem_of_getElem? hi
  have na := c.nf a am
  have k : ∀ b u, b ≠ a → H b = some u → upd H a o b = some u := fun b u n h => by rw [upd_ne n]; exact h
  have nG : ∀ {G : Hp} b u, G a = none → G b = some u → b ≠ a := fun {G} b u g h e => by rw [e, g] at h; cases h
  refine ⟨⟨fun b u h => k _ _ (nG b u na.1 h) (c.fs b u h), fun b u h => k _ _ (nG b u na.2 h) (c.bs b u h), by simp [c.len], c.nd, c.nf, fun j co' h => ?_⟩, ⟨⟨[], by simp, by simp⟩, Sub.refl _, rfl, fun _ _ h => h, fun b u h n => k b u (fun e => n (e ▸ am)) h, fun b h => ?_⟩⟩
  · by_cases e : j = i
    · subst e
      have hl : j < S.length := by
        have := (List.getElem?_eq_some_iff.mp h).1
        simpa using this
      rw [List.getElem?_set_self hl] at h
      cases h
      exact ⟨a, o, hi, upd_same, r⟩
    · rw [List.getElem?_set_ne (Ne.symm e)] at h
      obtain ⟨b, u, h1, h2, h3⟩ := c.cell j co' h
      refine ⟨b, u, h1, k b u (fun z => ?_) h2, h3⟩
      subst z
      obtain ⟨x1, y1⟩ := List.getElem?_eq_some_iff.mp h1
      obtain ⟨x2, y2⟩ := List.getElem?_eq_some_iff.mp hi
      exact e ((List.getElem_inj c.nd).mp (y1.trans y2.symm))
  · by_cases e : b = a
    · subst e; rw [upd_same]; simp
    · rw [upd_ne e]; exact h
end
end AW

namespace AW
open PySem PySem.Spec PyProof.Rows L2

/-- lists and texts of ours are shorter -/
def LIM : Nat := 1000000
theorem lim_lt {n : Nat} (h : n ≤ LIM) : n < sizeLine := Nat.lt_of_le_of_lt h (by rw [sizeLine_eq]; decide)
theorem lim_le {n : Nat} (h : n ≤ LIM) : n ≤ sizeLine := Nat.le_of_lt (lim_lt h)

def Aft (K : PySem.W.Frag) (w : Wd) (H : Hp) (r : M D) (Q : VK) : Prop :=
  ∃ d S', r = some (d, S') ∧ ∀ v w' H', Ext w H w' H' → SimC K w' H' S' → Rp K w' d v → Q v H'

/-! ### reading -/
/-- a list that stands in the heap as such -/
def readL (S : Sto) : D → Option (List D)
  | .lst .frz ds => some ds
  | .lst .bor ds => some ds
  | .ref i => match S[i]? with | some (.lst ds) => some ds | _ => none
  | _ => none
/-- any list -/
def readS (S : Sto) : D → Option (List D)
  | .lst _ ds => some ds
  | .ref i => match S[i]? with | some (.lst ds) => some ds | _ => none
  | _ => none
def flatOf : D → Option V
  | .non => some .non
  | .bl b => some (.bl b)
  | .int i => some (.int i)
  | .str x => some (.str x)
  | _ => none
def flatsOf : List D → Option (List V)
  | [] => some []
  | d :: ds => match flatOf d, flatsOf ds with | some v, some vs => some (v :: vs) | _, _ => none
def intsOf : List D → Option (List Int)
  | [] => some []
  | .int i :: ds => match intsOf ds with | some is => some (i :: is) | _ => none
  | _ => none
def strsOf : List D → Option (List Str)
  | [] => some []
  | .str i :: ds => match strsOf ds with | some is => some (i :: is) | _ => none
  | _ => none
def blsOf : List D → Option (List Bool)
  | [] => some []
  | .bl i :: ds => match blsOf ds with | some is => some (i :: is) | _ => none
  | _ => none
section
variable {K : PySem.W.Frag} {w w' : Wd} {H H' : Hp} {S S' : Sto} {Q : VK}
theorem aft_pure {d : D} {v : V} (c : SimC K w H S) (r : Rp K w d v) (q : Aft K w H (some (d, S)) Q) : Q v H := by
  obtain ⟨d', S', e, q⟩ := q
  cases e
  exact q v w H (Ext.refl _ _) c r
theorem rp_int {i : Int} : Rp K w (.int i) (.int i) := by simp [Rp]
theorem rp_bl {b : Bool} : Rp K w (.bl b) (.bl b) := by simp [Rp]
theorem rp_str {x : Str} : Rp K w (.str x) (.str x) := by simp [Rp]
theorem rp_non : Rp K w .non .non := by simp [Rp]
theorem rp_int' {i : Int} {v : V} (h : Rp K w (.int i) v) : v = .int i := by simpa [Rp] using h
theorem rp_bl' {i : Bool} {v : V} (h : Rp K w (.bl i) v) : v = .bl i := by simpa [Rp] using h
theorem rp_str' {i : Str} {v : V} (h : Rp K w (.str i) v) : v = .str i := by simpa [Rp] using h
theorem rp_non' {v : V} (h : Rp K w .non v) : v = .non := by simpa [Rp] using h
theorem rp_tup' {ds : List D} {v : V} (h : Rp K w (.tup ds) v) : ∃ a xs, v = .ref a ∧ w.F a = some (.tup xs) ∧ RpL K w ds xs := by simpa only [Rp] using h
theorem aft_int {i : Int} (c : SimC K w H S) (q : Aft K w H (some (.int i, S)) Q) : Q (.int i) H := aft_pure c rp_int q
theorem aft_bl {i : Bool} (c : SimC K w H S) (q : Aft K w H (some (.bl i, S)) Q) : Q (.bl i) H := aft_pure c rp_bl q
theorem aft_str {i : Str} (c : SimC K w H S) (q : Aft K w H (some (.str i, S)) Q) : Q (.str i) H := aft_pure c rp_str q
theorem aft_non (c : SimC K w H S) (q : Aft K w H (some (.non, S)) Q) : Q .non H := aft_pure c rp_non q
theorem aft_tup {ds : List D} {xs : List V} (c : SimC K w H S) (r : RpL K w ds xs) (q : Aft K w H (some (.tup ds, S)) Q) : ∀ p, H p = none → Q (.ref p) (upd H p (.tup xs)) := fun p hp => by
  obtain ⟨d', S', e, q⟩ := q
  cases e
  obtain ⟨c', x⟩ := alloc_frz c (o := .tup xs) hp
  refine q _ _ _ x c' ?_
  simp only [Rp]
  exact ⟨p, xs, rfl, upd_same, r.mono x.le⟩
/-- a new list: a cell or frozen -/
def newL (mk : Bool) (ds : List D) (S : Sto) : M D := if mk then some (.ref S.length, S ++ [.lst ds]) else some (.lst .frz ds, S)
theorem aft_new {mk : Bool} {ds : List D} {xs : List V} (c : SimC K w H S) (r : RpL K w ds xs) (q : Aft K w H (newL mk ds S) Q) : ∀ p, H p = none → Q (.ref p) (upd H p (.lst xs)) := fun p hp => by
  obtain ⟨d', S', e, q⟩ := q
  cases mk with
  | false =>
    cases e
    obtain ⟨c', x⟩ := alloc_frz c (o := .lst xs) hp
    refine q _ _ _ x c' ?_
    simp only [Rp]
    exact ⟨p, xs, rfl, upd_same, r.mono x.le⟩
  | true =>
    cases e
    obtain ⟨c', x⟩ := alloc_cell c (o := .lst xs) (co := .lst ds) hp ⟨xs, rfl, r⟩
    refine q _ _ _ x c' ?_
    simp only [Rp]
    exact ⟨p, by rw [← c.len]; simp, rfl⟩
theorem readL_ok {d : D} {ds : List D} {v : V} (c : SimC K w H S) (e : readL S d = some ds) (r : Rp K w d v) : ∃ a xs, v = .ref a ∧ H a = some (.lst xs) ∧ RpL K w ds xs := by
  cases d with
  | lst k es =>
    simp only [Rp] at r
    obtain ⟨a, xs, h1, h2, h3⟩ := r
    cases k with
    | frz => cases e; exact ⟨a, xs, h1, c.fs _ _ h2, h3⟩
    | bor => cases e; exact ⟨a, xs, h1, c.bs _ _ h2, h3⟩
    | ext => cases e
  | ref i =>
    simp only [Rp] at r
    obtain ⟨a, h1, h2⟩ := r
    simp only [readL] at e
    split at e
    · rename_i es he
      cases e
      obtain ⟨b, o, g1, g2, xs, rfl, g3⟩ := c.cell i _ he
      rw [h1] at g1
      cases g1
      exact ⟨a, xs, h2, g2, g3⟩
    · cases e
  | _ => cases e
theorem readS_ok {d : D} {ds : List D} {v : V} (c : SimC K w H S) (e : readS S d = some ds) (r : Rp K w d v) : ∃ a xs, v = .ref a ∧ SqL K H a xs ∧ RpL K w ds xs := by
  cases d with
  | lst k es =>
    simp only [Rp] at r
    obtain ⟨a, xs, h1, h2, h3⟩ := r
    cases e
    cases k with
    | frz => exact ⟨a, xs, h1, SqL.of (c.fs _ _ h2), h3⟩
    | bor => exact ⟨a, xs, h1, SqL.of (c.bs _ _ h2), h3⟩
    | ext => exact ⟨a, xs, h1, c.fs.sqL h2, h3⟩
  | ref i =>
    obtain ⟨a, xs, h1, h2, h3⟩ := readL_ok c (show readL S (.ref i) = some ds from e) r
    exact ⟨a, xs, h1, SqL.of h2, h3⟩
  | _ => cases e
theorem tup_ok {ds : List D} {v : V} (c : SimC K w H S) (r : Rp K w (.tup ds) v) : ∃ a xs, v = .ref a ∧ SqT K H a xs ∧ H a = some (.tup xs) ∧ RpL K w ds xs := by
  obtain ⟨a, xs, h1, h2, h3⟩ := rp_tup' r
  exact ⟨a, xs, h1, SqT.of (c.fs _ _ h2), c.fs _ _ h2, h3⟩
theorem flat_ok {d : D} {v u : V} (e : flatOf d = some u) (r : Rp K w d v) : v = u ∧ flatV v = true := by
  cases d <;> simp [flatOf] at e <;> simp [Rp] at r <;> subst r <;> subst e <;> exact ⟨rfl, rfl⟩
theorem flats_ok : ∀ {ds : List D} {vs us : List V}, flatsOf ds = some us → RpL K w ds vs → vs = us ∧ vs.all flatV = true
  | [], _, _, e, r => by cases e; rw [r.nil_inv]; exact ⟨rfl, rfl⟩
  | d :: ds, _, _, e, r => by
    obtain ⟨x, t, rfl, h1, h2⟩ := r.cons_inv
    simp only [flatsOf] at e
    split at e
    · rename_i a b h3 h4
      cases e
      obtain ⟨e1, e2⟩ := flat_ok h3 h1
      obtain ⟨e3, e4⟩ := flats_ok h4 h2
      subst e1 e3
      exact ⟨rfl, by simp [e2, e4]⟩
    · cases e
theorem ints_ok : ∀ {ds : List D} {vs : List V} {ns : List Int}, intsOf ds = some ns → RpL K w ds vs → vs = ns.map V.int
  | [], _, _, e, r => by cases e; rw [r.nil_inv]; rfl
  | .int i :: ds, _, _, e, r => by
    obtain ⟨x, t, rfl, h1, h2⟩ := r.cons_inv
    simp only [intsOf] at e
    split at e
    · rename_i is h3
      cases e
      rw [rp_int' h1, ints_ok h3 h2]; rfl
    · cases e
  | .non :: _, _, _, e, _ => by cases e
  | .bl _ :: _, _, _, e, _ => by cases e
  | .str _ :: _, _, _, e, _ => by cases e
  | .tup _ :: _, _, _, e, _ => by cases e
  | .lst _ _ :: _, _, _, e, _ => by cases e
  | .ref _ :: _, _, _, e, _ => by cases e
theorem strs_ok : ∀ {ds : List D} {vs : List V} {ns : List Str}, strsOf ds = some ns → RpL K w ds vs → vs = ns.map V.str
  | [], _, _, e, r => by cases e; rw [r.nil_inv]; rfl
  | .str i :: ds, _, _, e, r => by
    obtain ⟨x, t, rfl, h1, h2⟩ := r.cons_inv
    simp only [strsOf] at e
    split at e
    · rename_i is h3
      cases e
      rw [rp_str' h1, strs_ok h3 h2]; rfl
    · cases e
  | .non :: _, _, _, e, _ => by cases e
  | .bl _ :: _, _, _, e, _ => by cases e
  | .int _ :: _, _, _, e, _ => by cases e
  | .tup _ :: _, _, _, e, _ => by cases e
  | .lst _ _ :: _, _, _, e, _ => by cases e
  | .ref _ :: _, _, _, e, _ => by cases e
theorem bls_ok : ∀ {ds : List D} {vs : List V} {ns : List Bool}, blsOf ds = some ns → RpL K w ds vs → vs = ns.map V.bl
  | [], _, _, e, r => by cases e; rw [r.nil_inv]; rfl
  | .bl i :: ds, _, _, e, r => by
    obtain ⟨x, t, rfl, h1, h2⟩ := r.cons_inv
    simp only [blsOf] at e
    split at e
    · rename_i is h3
      cases e
      rw [rp_bl' h1, bls_ok h3 h2]; rfl
    · cases e
  | .non :: _, _, _, e, _ => by cases e
  | .str _ :: _, _, _, e, _ => by cases e
  | .int _ :: _, _, _, e, _ => by cases e
  | .tup _ :: _, _, _, e, _ => by cases e
  | .lst _ _ :: _, _, _, e, _ => by cases e
  | .ref _ :: _, _, _, e, _ => by cases e
theorem rpl_ints : ∀ {ns : List Int}, RpL K w (ns.map D.int) (ns.map V.int)
  | [] => .nil
  | _ :: _ => .cons rp_int rpl_ints
theorem rpl_strs : ∀ {ns : List Str}, RpL K w (ns.map D.str) (ns.map V.str)
  | [] => .nil
  | _ :: _ => .cons rp_str rpl_strs
end

/-! ### arithmetic -/
abbrev Op2 := D → D → Sto → M D
/-- a two-place operation is told by f -/
def OkOp (X : Cx) (f : Value → Value → Sem Value) (m : Op2) : Prop := ∃ r, OpR X f r ∧ ∀ {w : Wd} {H : Hp} {S : Sto} {Q : VK} {d e : D} {x y : V}, SimC X.K w H S → Rp X.K w d x → Rp X.K w e y → Aft X.K w H (m d e S) Q → r x y H Q
section
variable {X : Cx}
/-- m where it tells something, else n -/
theorem OkOp.or {f : Value → Value → Sem Value} {m n : Op2} (a : OkOp X f m) (b : OkOp X f n) : OkOp X f fun d e S => match m d e S with | some r => some r | none => n d e S := by
  obtain ⟨r, o, h⟩ := a
  obtain ⟨r', o', h'⟩ := b
  refine ⟨_, o.or o', fun {w H S Q d e x y} c r1 r2 q => ?_⟩
  cases hm : m d e S with
  | some z => simp only [hm] at q; exact .inl (h c r1 r2 (by rw [hm]; exact q))
  | none => simp only [hm] at q; exact .inr (h' c r1 r2 q)
def op2I (C : Int → Int → Bool) (g : Int → Int → D) : Op2 := fun d e S => match d, e with
  | .int i, .int j => if C i j then some (g i j, S) else none
  | _, _ => none
theorem op2I_ok {f : Value → Value → Sem Value} {CP : Int → Int → Prop} {gV : Int → Int → V} {C : Int → Int → Bool} {g : Int → Int → D} (o : OpR X f (rI CP gV)) (hC : ∀ i j, C i j = true → CP i j) (hg : ∀ w i j, Rp X.K w (g i j) (gV i j)) : OkOp X f (op2I C g) := by
  refine ⟨_, o, fun {w H S Q d e x y} c r1 r2 q => ?_⟩
  cases d <;> try (obtain ⟨_, _, e, _⟩ := q; cases e; done)
  cases e <;> try (obtain ⟨_, _, e, _⟩ := q; cases e; done)
  rename_i i j
  simp only [op2I] at q
  by_cases hc : C i j = true
  · rw [if_pos hc] at q
    exact ⟨i, j, rp_int' r1, rp_int' r2, hC i j hc, aft_pure c (hg _ _ _) q⟩
  · rw [if_neg hc] at q; obtain ⟨_, _, e, _⟩ := q; cases e
theorem rI0_I {f : Value → Value → Sem Value} {gV : Int → Int → V} (o : OpR X f (rI0 gV)) : OpR X f (rI (fun _ _ => True) gV) := fun pins s σ H x y v u Q I r1 r2 h => by
  obtain ⟨i, j, e1, e2, _, q⟩ := h
  exact o pins s σ H x y v u Q I r1 r2 ⟨i, j, e1, e2, q⟩
def op2S (g : Str → Str → D) : Op2 := fun d e S => match d, e with
  | .str i, .str j => if i.length + j.length ≤ LIM then some (g i j, S) else none
  | _, _ => none
def opAddI : Op2 := op2I (fun _ _ => true) fun i j => .int (i + j)
def opAddS : Op2 := op2S fun i j => .str (i ++ j)
def opAddT : Op2 := fun d e S => match d, e with
  | .tup a, .tup b => if a.length + b.length ≤ LIM then some (.tup (a ++ b), S) else none
  | _, _ => none
def opAddL (mk : Bool) : Op2 := fun d e S => match readL S d, readL S e with
  | some a, some b => if a.length + b.length ≤ LIM then newL mk (a ++ b) S else none
  | _, _ => none
/-- a + b -/
def opAdd (mk : Bool) : Op2 := fun d e S => match d, e with
  | .int i, .int j => some (.int (i + j), S)
  | .str i, .str j => opAddS (.str i) (.str j) S
  | .tup a, .tup b => opAddT (.tup a) (.tup b) S
  | d, e => opAddL mk d e S
theorem okAddI : OkOp X (binaryOp .Add) opAddI := op2I_ok (rI0_I op_add) (fun _ _ _ => trivial) fun _ _ _ => rp_int
theorem okAddS : OkOp X (binaryOp .Add) opAddS := by
  refine ⟨_, op_add_str, fun {w H S Q d e x y} c r1 r2 q => ?_⟩
  cases d <;> try (obtain ⟨_, _, e, _⟩ := q; cases e; done)
  cases e <;> try (obtain ⟨_, _, e, _⟩ := q; cases e; done)
  rename_i i j
  simp only [opAddS, op2S] at q
  split at q
  · rename_i h
    exact ⟨i, j, rp_str' r1, rp_str' r2, lim_le h, aft_str c q⟩
  · obtain ⟨_, _, e, _⟩ := q; cases e
theorem okAddT : OkOp X (binaryOp .Add) opAddT := by
  refine ⟨_, op_catA, fun {w H S Q d e x y} c r1 r2 q => ?_⟩
  cases d <;> try (obtain ⟨_, _, e, _⟩ := q; cases e; done)
  cases e <;> try (obtain ⟨_, _, e, _⟩ := q; cases e; done)
  rename_i i j
  simp only [opAddT] at q
  split at q
  · rename_i h
    obtain ⟨a, xs, rfl, h1, h2, h3⟩ := tup_ok c r1
    obtain ⟨b, ys, rfl, g1, g2, g3⟩ := tup_ok c r2
    refine ⟨a, b, xs, ys, rfl, rfl, h1, g1, by rw [← h3.len, ← g3.len]; exact lim_le h, fun e => ?_, fun _ e => ?_, fun _ _ p hp => aft_tup c (h3.append g3) q p hp⟩
    · have e' : i = [] := List.length_eq_zero_iff.mp (by rw [h3.len, e]; rfl)
      subst e'
      exact aft_pure c r2 q
    · have e' : j = [] := List.length_eq_zero_iff.mp (by rw [g3.len, e]; rfl)
      subst e'
      rw [List.append_nil] at q
      exact aft_pure c r1 q
  · obtain ⟨_, _, e, _⟩ := q; cases e
theorem okAddL {mk : Bool} : OkOp X (binaryOp .Add) (opAddL mk) := by
  refine ⟨_, op_cat, fun {w H S Q d e x y} c r1 r2 q => ?_⟩
  simp only [opAddL] at q
  split at q
  · rename_i i j h1 h2
    split at q
    · rename_i h
      obtain ⟨a, xs, rfl, h1, h3⟩ := readL_ok c h1 r1
      obtain ⟨b, ys, rfl, g1, g3⟩ := readL_ok c h2 r2
      exact ⟨a, b, xs, ys, rfl, rfl, h1, g1, by rw [← h3.len, ← g3.len]; exact lim_le h, aft_new c (h3.append g3) q⟩
    · obtain ⟨_, _, e, _⟩ := q; cases e
  · obtain ⟨_, _, e, _⟩ := q; cases e
/-- by the kinds of its operands -/
theorem OkOp.by {f : Value → Value → Sem Value} {m m' : Op2} (a : OkOp X f m) (h : ∀ d e S r, m' d e S = some r → m d e S = some r) : OkOp X f m' := by
  obtain ⟨r, o, k⟩ := a
  exact ⟨r, o, fun c r1 r2 q => k c r1 r2 (by obtain ⟨d, S', e, q⟩ := q; exact ⟨d, S', h _ _ _ _ e, q⟩)⟩
theorem okAdd {mk : Bool} : OkOp X (binaryOp .Add) (opAdd mk) := by
  refine (okAddI.or (okAddS.or (okAddT.or (okAddL (mk := mk))))).by fun d e S r h => ?_
  cases d <;> cases e <;> simp only [opAdd] at h <;> simp only [opAddI, op2I, opAddS, op2S, opAddT] <;> first | exact h | (simp only [opAddS, op2S, opAddT] at h; rw [h]) | (rw [if_pos rfl]; exact h)
def opSub : Op2 := op2I (fun _ _ => true) fun i j => .int (i - j)
theorem okSub : OkOp X (binaryOp .Sub) opSub := op2I_ok (rI0_I op_sub) (fun _ _ _ => trivial) fun _ _ _ => rp_int
def W64 (i : Int) : Bool := decide (-18446744073709551616 < i) && decide (i < 18446744073709551616)
def opMulI : Op2 := op2I (fun i j => W64 i || W64 j) fun i j => .int (i * j)
theorem okMulI : OkOp X (binaryOp .Mult) opMulI := op2I_ok op_mul (fun i j h => by
  simp only [W64, Bool.or_eq_true, Bool.and_eq_true, decide_eq_true_eq] at h
  unfold CMul
  have e : (2 : Int) ^ 64 = 18446744073709551616 := by decide
  rw [e]; exact h) fun _ _ _ => rp_int
def opMulL (mk : Bool) : Op2 := fun d e S => match readL S d, e with
  | some a, .int k => if k ≤ 1000 ∧ -1000 ≤ k ∧ a.length ≤ 1000 then newL mk (List.replicate k.toNat a).flatten S else none
  | _, _ => none
theorem RpL.rep {K : PySem.W.Frag} {w : Wd} {ds : List D} {xs : List V} (h : RpL K w ds xs) : ∀ n : Nat, RpL K w (List.replicate n ds).flatten (List.replicate n xs).flatten
  | 0 => by simp [RpL]
  | n + 1 => by simpa [List.replicate_succ] using h.append (h.rep n)
theorem okMulL {mk : Bool} : OkOp X (binaryOp .Mult) (opMulL mk) := by
  refine ⟨_, op_rep, fun {w H S Q d e x y} c r1 r2 q => ?_⟩
  simp only [opMulL] at q
  split at q
  · rename_i a k h1
    split at q
    · rename_i h
      obtain ⟨p, xs, rfl, h1, h3⟩ := readL_ok c h1 r1
      have e1 := h3.len
      refine ⟨p, k, xs, rfl, rp_int' r2, h1, by omega, by omega, ?_, aft_new c (h3.rep _) q⟩
      rw [sizeLine_eq]
      have : xs.length * k.toNat ≤ 1000 * 1000 := Nat.mul_le_mul (by omega) (by omega)
      omega
    · obtain ⟨_, _, e, _⟩ := q; cases e
  · obtain ⟨_, _, e, _⟩ := q; cases e
def opMulT : Op2 := fun d e S => match d, e with
  | .tup a, .int k => if 2 ≤ k ∧ k ≤ 1000 ∧ a.length ≤ 1000 ∧ a ≠ [] then some (.tup (List.replicate k.toNat a).flatten, S) else none
  | _, _ => none
theorem okMulT : OkOp X (binaryOp .Mult) opMulT := by
  refine ⟨_, op_repT, fun {w H S Q d e x y} c r1 r2 q => ?_⟩
  cases d <;> try (obtain ⟨_, _, e, _⟩ := q; cases e; done)
  cases e <;> try (obtain ⟨_, _, e, _⟩ := q; cases e; done)
  rename_i a k
  simp only [opMulT] at q
  split at q
  · rename_i h
    obtain ⟨p, xs, rfl, h1, h2, h3⟩ := tup_ok c r1
    have e1 := h3.len
    refine ⟨p, k, xs, rfl, rp_int' r2, h1, fun z => h.2.2.2 (List.length_eq_zero_iff.mp (by rw [e1, z]; rfl)), h.1, h.2.1, by rw [← e1]; exact h.2.2.1, aft_tup c (h3.rep _) q⟩
  · obtain ⟨_, _, e, _⟩ := q; cases e
def opMul (mk : Bool) : Op2 := fun d e S => match d with
  | .int i => opMulI (.int i) e S
  | .tup a => opMulT (.tup a) e S
  | d => opMulL mk d e S
theorem okMul {mk : Bool} : OkOp X (binaryOp .Mult) (opMul mk) := by
  refine (okMulI.or (okMulT.or (okMulL (mk := mk)))).by fun d e S r h => ?_
  cases d with
  | int i => simp only [opMul] at h; rw [h]
  | tup a => simp only [opMul] at h; simp only [opMulI, op2I]; rw [h]
  | _ => simp only [opMul] at h; simp only [opMulI, op2I, opMulT]; exact h
def opFdiv : Op2 := op2I (fun _ j => decide (0 < j) && decide (j < 1073741824)) fun i j => .int (i / j)
theorem okFdiv : OkOp X (binaryOp .FloorDiv) opFdiv := op2I_ok op_fdiv (fun i j h => by simpa [CDiv] using h) fun _ _ _ => rp_int
def opMod : Op2 := op2I (fun _ j => decide (0 < j)) fun i j => .int (i % j)
theorem okMod : OkOp X (binaryOp .Mod) opMod := op2I_ok op_mod (fun i j h => by simpa using h) fun _ _ _ => rp_int
def opPow : Op2 := op2I (fun i j => decide (0 ≤ j) && decide (j ≤ 1000) && decide (i.natAbs < 1000000)) fun i j => .int (i ^ j.toNat)
theorem okPow : OkOp X (binaryOp .Pow) opPow := op2I_ok op_pow (fun i j h => by
  simp only [Bool.and_eq_true, decide_eq_true_eq] at h
  have e : (2 : Nat) ^ 64 = 18446744073709551616 := by decide
  unfold CPow
  rw [e]; omega) fun _ _ _ => rp_int

/-! ### comparisons -/
mutual
def toPW (f : Nat → Option PyData) : D → Option PyData
  | .non => some .none
  | .bl b => some (.bool b)
  | .int i => some (.int i)
  | .str x => some (.str x)
  | .tup ds => match toPsW f ds with | some ps => some (.tuple ps) | none => none
  | .lst _ ds => match toPsW f ds with | some ps => some (.list ps) | none => none
  | .ref i => f i
def toPsW (f : Nat → Option PyData) : List D → Option (List PyData)
  | [] => some []
  | d :: ds => match toPW f d, toPsW f ds with | some p, some ps => some (p :: ps) | _, _ => none
end
def cellP (S : Sto) : Nat → Nat → Option PyData
  | 0, _ => none
  | n + 1, i => match S[i]? with
    | some (.lst ds) => match toPsW (cellP S n) ds with | some ps => some (.list ps) | none => none
    | _ => none
/-- data as the library's == reads it -/
def toP (S : Sto) (d : D) : Option PyData := toPW (cellP S 6) d
section
variable {K : PySem.W.Frag} {w : Wd} {H : Hp} {S : Sto}
mutual
theorem toPW_ok {f : Nat → Option PyData} (c : SimC K w H S) (hf : ∀ i p a, f i = some p → w.rhw[i]? = some a → Dp K H (.ref a) p) : ∀ {d : D} {p : PyData} {v : V}, toPW f d = some p → Rp K w d v → Dp K H v p
  | .non, _, _, e, r => by simp [toPW] at e; subst e; rw [rp_non' r]; exact .non
  | .bl b, _, _, e, r => by simp [toPW] at e; subst e; rw [rp_bl' r]; exact .bl b
  | .int b, _, _, e, r => by simp [toPW] at e; subst e; rw [rp_int' r]; exact .int b
  | .str b, _, _, e, r => by simp [toPW] at e; subst e; rw [rp_str' r]; exact .str b
  | .tup ds, _, _, e, r => by
    simp only [toPW] at e
    split at e
    · rename_i ps hp
      cases e
      obtain ⟨a, xs, rfl, h1, _, h3⟩ := tup_ok c r
      exact .tup h1 (toPsW_ok c hf hp h3)
    · cases e
  | .lst k ds, _, _, e, r => by
    simp only [toPW] at e
    split at e
    · rename_i ps hp
      cases e
      obtain ⟨a, xs, rfl, h1, h3⟩ := readS_ok (d := .lst k ds) c rfl r
      exact .lst h1 (toPsW_ok c hf hp h3)
    · cases e
  | .ref i, _, _, e, r => by
    simp only [toPW] at e
    simp only [Rp] at r
    obtain ⟨a, h1, rfl⟩ := r
    exact hf i _ a e h1
theorem toPsW_ok {f : Nat → Option PyData} (c : SimC K w H S) (hf : ∀ i p a, f i = some p → w.rhw[i]? = some a → Dp K H (.ref a) p) : ∀ {ds : List D} {ps : List PyData} {vs : List V}, toPsW f ds = some ps → RpL K w ds vs → DpAll K H vs ps
  | [], _, _, e, r => by simp [toPsW] at e; subst e; rw [r.nil_inv]; exact .nil
  | d :: ds, _, _, e, r => by
    obtain ⟨x, t, rfl, h1, h2⟩ := r.cons_inv
    simp only [toPsW] at e
    split at e
    · rename_i p ps h3 h4
      cases e
      exact .cons (toPW_ok c hf h3 h1) (toPsW_ok c hf h4 h2)
    · cases e
end
theorem cellP_ok (c : SimC K w H S) : ∀ (n i : Nat) (p : PyData) (a : Addr), cellP S n i = some p → w.rhw[i]? = some a → Dp K H (.ref a) p
  | 0, _, _, _, e, _ => by cases e
  | n + 1, i, p, a, e, ha => by
    simp only [cellP] at e
    split at e
    · rename_i ds hd
      split at e
      · rename_i ps hp
        cases e
        obtain ⟨b, o, g1, g2, xs, rfl, g3⟩ := c.cell i _ hd
        rw [ha] at g1
        cases g1
        exact .lst (SqL.of g2) (toPsW_ok c (cellP_ok c n) hp g3)
      · cases e
    · cases e
theorem toP_ok (c : SimC K w H S) {d : D} {p : PyData} {v : V} (e : toP S d = some p) (r : Rp K w d v) : Dp K H v p := toPW_ok c (cellP_ok c 6) e r
end
section
variable {X : Cx}
def opEqP : Op2 := fun d e S => match toP S d, toP S e with
  | some p, some q => if SeqAt.shaped p && SeqAt.shaped q then some (.bl (p.eqv q), S) else none
  | _, _ => none
def opNeP : Op2 := fun d e S => match toP S d, toP S e with
  | some p, some q => if SeqAt.shaped p && SeqAt.shaped q then some (.bl (!p.eqv q), S) else none
  | _, _ => none
theorem okEqP (hu : X.A.units + 64 < cLine) : OkOp X (compareOp .Eq) opEqP := by
  refine ⟨_, op_eqD hu, fun {w H S Q d e x y} c r1 r2 q => ?_⟩
  simp only [opEqP] at q
  split at q
  · rename_i a b h1 h2
    split at q
    · rename_i h
      rw [Bool.and_eq_true] at h
      exact ⟨a, b, toP_ok c h1 r1, toP_ok c h2 r2, h.1, h.2, aft_bl c q⟩
    · obtain ⟨_, _, e, _⟩ := q; cases e
  · obtain ⟨_, _, e, _⟩ := q; cases e
theorem okNeP (hu : X.A.units + 64 < cLine) : OkOp X (compareOp .NotEq) opNeP := by
  refine ⟨_, op_neD hu, fun {w H S Q d e x y} c r1 r2 q => ?_⟩
  simp only [opNeP] at q
  split at q
  · rename_i a b h1 h2
    split at q
    · rename_i h
      rw [Bool.and_eq_true] at h
      exact ⟨a, b, toP_ok c h1 r1, toP_ok c h2 r2, h.1, h.2, aft_bl c q⟩
    · obtain ⟨_, _, e, _⟩ := q; cases e
  · obtain ⟨_, _, e, _⟩ := q; cases e
/-- scalars of one kind -/
def opEqF (neg : Bool) : Op2 := fun d e S => match d, e with
  | .int i, .int j => some (.bl (neg ^^ decide (i = j)), S)
  | .str i, .str j => some (.bl (neg ^^ decide (i = j)), S)
  | .bl i, .bl j => some (.bl (neg ^^ decide (i = j)), S)
  | _, _ => none
theorem dV_int {i j : Int} : decide (V.int i = V.int j) = decide (i = j) := by by_cases h : i = j <;> simp [h]
theorem dV_str {i j : Str} : decide (V.str i = V.str j) = decide (i = j) := by by_cases h : i = j <;> simp [h]
theorem dV_bl {i j : Bool} : decide (V.bl i = V.bl j) = decide (i = j) := by by_cases h : i = j <;> simp [h]
theorem okEqF : OkOp X (compareOp .Eq) (opEqF false) := by
  refine ⟨_, op_eq, fun {w H S Q d e x y} c r1 r2 q => ?_⟩
  cases d <;> try (obtain ⟨_, _, e, _⟩ := q; cases e; done)
  all_goals cases e <;> try (obtain ⟨_, _, e, _⟩ := q; cases e; done)
  · rw [rp_bl' r1, rp_bl' r2]; refine ⟨rfl, ?_⟩; rw [dV_bl]; exact aft_bl c (by simpa [opEqF] using q)
  · rw [rp_int' r1, rp_int' r2]; refine ⟨rfl, ?_⟩; rw [dV_int]; exact aft_bl c (by simpa [opEqF] using q)
  · rw [rp_str' r1, rp_str' r2]; refine ⟨rfl, ?_⟩; rw [dV_str]; exact aft_bl c (by simpa [opEqF] using q)
theorem okNeF : OkOp X (compareOp .NotEq) (opEqF true) := by
  refine ⟨_, op_ne, fun {w H S Q d e x y} c r1 r2 q => ?_⟩
  cases d <;> try (obtain ⟨_, _, e, _⟩ := q; cases e; done)
  all_goals cases e <;> try (obtain ⟨_, _, e, _⟩ := q; cases e; done)
  · rw [rp_bl' r1, rp_bl' r2]; refine ⟨rfl, ?_⟩; rw [dV_bl]; exact aft_bl c (by simpa [opEqF] using q)
  · rw [rp_int' r1, rp_int' r2]; refine ⟨rfl, ?_⟩; rw [dV_int]; exact aft_bl c (by simpa [opEqF] using q)
  · rw [rp_str' r1, rp_str' r2]; refine ⟨rfl, ?_⟩; rw [dV_str]; exact aft_bl c (by simpa [opEqF] using q)
/-- a == b, a != b -/
def opEq : Op2 := fun d e S => match opEqF false d e S with | some r => some r | none => opEqP d e S
def opNe : Op2 := fun d e S => match opEqF true d e S with | some r => some r | none => opNeP d e S
theorem okEq (hu : X.A.units + 64 < cLine) : OkOp X (compareOp .Eq) opEq := okEqF.or (okEqP hu)
theorem okNe (hu : X.A.units + 64 < cLine) : OkOp X (compareOp .NotEq) opNe := okNeF.or (okNeP hu)
def op2SB (g : Str → Str → Bool) : Op2 := fun d e S => match d, e with
  | .str i, .str j => some (.bl (g i j), S)
  | _, _ => none
theorem op2SB_ok {f : Value → Value → Sem Value} {g : Str → Str → Bool} (o : OpR X f (fun x y H Q => ∃ i j, x = .str i ∧ y = .str j ∧ Q (.bl (g i j)) H)) : OkOp X f (op2SB g) := by
  refine ⟨_, o, fun {w H S Q d e x y} c r1 r2 q => ?_⟩
  cases d <;> try (obtain ⟨_, _, e, _⟩ := q; cases e; done)
  cases e <;> try (obtain ⟨_, _, e, _⟩ := q; cases e; done)
  exact ⟨_, _, rp_str' r1, rp_str' r2, aft_bl c q⟩
/-- tuples of ints -/
def opLtT : Op2 := fun d e S => match d, e with
  | .tup a, .tup b => match intsOf a, intsOf b with
    | some ns, some ms => some (.bl (HT.lexLt ns ms), S)
    | _, _ => none
  | _, _ => none
theorem okLtT (hu : X.A.units < cLine) : OkOp X (compareOp .Lt) opLtT := by
  refine ⟨_, op_ltT hu, fun {w H S Q d e x y} c r1 r2 q => ?_⟩
  cases d <;> try (obtain ⟨_, _, e, _⟩ := q; cases e; done)
  cases e <;> try (obtain ⟨_, _, e, _⟩ := q; cases e; done)
  simp only [opLtT] at q
  split at q
  · rename_i a b ns ms h1 h2
    obtain ⟨p, xs, rfl, g1, _, g3⟩ := tup_ok c r1
    obtain ⟨p', ys, rfl, k1, _, k3⟩ := tup_ok c r2
    rw [ints_ok h1 g3] at g1
    rw [ints_ok h2 k3] at k1
    exact ⟨p, p', ns, ms, rfl, rfl, g1, k1, aft_bl c q⟩
  · obtain ⟨_, _, e, _⟩ := q; cases e
def opLtI : Op2 := op2I (fun _ _ => true) fun i j => .bl (decide (i < j))
def opLeI : Op2 := op2I (fun _ _ => true) fun i j => .bl (decide (i ≤ j))
def opGtI : Op2 := op2I (fun _ _ => true) fun i j => .bl (decide (j < i))
def opGeI : Op2 := op2I (fun _ _ => true) fun i j => .bl (decide (j ≤ i))
theorem okLtI : OkOp X (compareOp .Lt) opLtI := op2I_ok (rI0_I op_lt) (fun _ _ _ => trivial) fun _ _ _ => rp_bl
theorem okLeI : OkOp X (compareOp .LtE) opLeI := op2I_ok (rI0_I op_le) (fun _ _ _ => trivial) fun _ _ _ => rp_bl
theorem okGtI : OkOp X (compareOp .Gt) opGtI := op2I_ok (rI0_I op_gt) (fun _ _ _ => trivial) fun _ _ _ => rp_bl
theorem okGeI : OkOp X (compareOp .GtE) opGeI := op2I_ok (rI0_I op_ge) (fun _ _ _ => trivial) fun _ _ _ => rp_bl
def opLtS : Op2 := op2SB fun i j => decide (i.cps.toList < j.cps.toList)
def opLeS : Op2 := op2SB fun i j => !decide (j.cps.toList < i.cps.toList)
def opGtS : Op2 := op2SB fun i j => decide (j.cps.toList < i.cps.toList)
def opGeS : Op2 := op2SB fun i j => !decide (i.cps.toList < j.cps.toList)
def opLt : Op2 := fun d e S => match d with | .int _ => opLtI d e S | .str _ => opLtS d e S | _ => opLtT d e S
def opLe : Op2 := fun d e S => match d with | .int _ => opLeI d e S | _ => opLeS d e S
def opGt : Op2 := fun d e S => match d with | .int _ => opGtI d e S | _ => opGtS d e S
def opGe : Op2 := fun d e S => match d with | .int _ => opGeI d e S | _ => opGeS d e S
theorem okLt (hu : X.A.units < cLine) : OkOp X (compareOp .Lt) opLt := by
  refine (okLtI.or ((op2SB_ok op_lt_str).or (okLtT hu))).by fun d e S r h => ?_
  cases d with
  | int i => simp only [opLt] at h; rw [h]
  | str i => simp only [opLt, opLtS] at h; simp only [opLtI, op2I]; rw [h]
  | _ => simp only [opLt] at h; simp only [opLtI, op2I, op2SB]; exact h
theorem okLe : OkOp X (compareOp .LtE) opLe := by
  refine (okLeI.or (op2SB_ok op_le_str)).by fun d e S r h => ?_
  cases d with
  | int i => simp only [opLe] at h; rw [h]
  | _ => simp only [opLe] at h; simp only [opLeI, op2I]; exact h
theorem okGt : OkOp X (compareOp .Gt) opGt := by
  refine (okGtI.or (op2SB_ok op_gt_str)).by fun d e S r h => ?_
  cases d with
  | int i => simp only [opGt] at h; rw [h]
  | _ => simp only [opGt] at h; simp only [opGtI, op2I]; exact h
theorem okGe : OkOp X (compareOp .GtE) opGe := by
  refine (okGeI.or (op2SB_ok op_ge_str)).by fun d e S r h => ?_
  cases d with
  | int i => simp only [opGe] at h; rw [h]
  | _ => simp only [opGe] at h; simp only [opGeI, op2I]; exact h
/-- x in xs -/
def seqOf (S : Sto) : D → Option (List D)
  | .tup ds => some ds
  | d => readS S d
def opInF (neg : Bool) : Op2 := fun d e S => match flatOf d, (seqOf S e).bind flatsOf with
  | some v, some vs => some (.bl (if neg then !inV v vs else inV v vs), S)
  | _, _ => none
theorem seq_ok {K : PySem.W.Frag} {w : Wd} {H : Hp} {S : Sto} {d : D} {ds : List D} {v : V} (c : SimC K w H S) (e : seqOf S d = some ds) (r : Rp K w d v) : ∃ a xs, v = .ref a ∧ (SqL K H a xs ∨ SqT K H a xs) ∧ RpL K w ds xs := by
  cases d with
  | tup es =>
    cases e
    obtain ⟨a, xs, h1, h2, _, h3⟩ := tup_ok c r
    exact ⟨a, xs, h1, .inr h2, h3⟩
  | _ =>
    obtain ⟨a, xs, h1, h2, h3⟩ := readS_ok c (by simpa only [seqOf] using e) r
    exact ⟨a, xs, h1, .inl h2, h3⟩
theorem okInF_ {op : CmpOp} {neg : Bool} (o : OpR X (compareOp op) (rIn X.K neg)) : OkOp X (compareOp op) (opInF neg) := by
  refine ⟨_, o, fun {w H S Q d e x y} c r1 r2 q => ?_⟩
  simp only [opInF] at q
  split at q
  · rename_i v vs h1 h2
    rw [Option.bind_eq_some_iff] at h2
    obtain ⟨ds, h2, h3⟩ := h2
    obtain ⟨a, xs, rfl, h4, h5⟩ := seq_ok c h2 r2
    obtain ⟨e1, e2⟩ := flat_ok h1 r1
    obtain ⟨e3, e4⟩ := flats_ok h3 h5
    subst e1 e3
    exact ⟨a, xs, rfl, h4, e2, e4, aft_bl c q⟩
  · obtain ⟨_, _, e, _⟩ := q; cases e
/-- one sign in a text -/
def opInC (neg : Bool) : Op2 := fun d e S => match d, e with
  | .str x, .str z => match x.cps.toList with
    | [ch] => some (.bl (if neg then !decide (ch ∈ z.cps.toList) else decide (ch ∈ z.cps.toList)), S)
    | _ => none
  | _, _ => none
theorem one_sign {x : Str} {ch : Nat} (h : x.cps.toList = [ch]) : x = ⟨#[ch]⟩ := by
  cases x with
  | mk cps =>
    have : cps = #[ch] := Array.toList_inj.mp (by simpa using h)
    rw [this]
theorem okInC : OkOp X (compareOp .In) (opInC false) := by
  refine ⟨_, op_in_sign, fun {w H S Q d e x y} c r1 r2 q => ?_⟩
  cases d <;> try (obtain ⟨_, _, e, _⟩ := q; cases e; done)
  cases e <;> try (obtain ⟨_, _, e, _⟩ := q; cases e; done)
  simp only [opInC] at q
  split at q
  · rename_i ch h
    refine ⟨ch, _, ?_, rp_str' r2, aft_bl c q⟩
    rw [rp_str' r1, one_sign h]
  · obtain ⟨_, _, e, _⟩ := q; cases e
theorem okNotInC : OkOp X (compareOp .NotIn) (opInC true) := by
  refine ⟨_, op_notIn_sign, fun {w H S Q d e x y} c r1 r2 q => ?_⟩
  cases d <;> try (obtain ⟨_, _, e, _⟩ := q; cases e; done)
  cases e <;> try (obtain ⟨_, _, e, _⟩ := q; cases e; done)
  simp only [opInC] at q
  split at q
  · rename_i ch h
    refine ⟨ch, _, ?_, rp_str' r2, aft_bl c q⟩
    rw [rp_str' r1, one_sign h]
  · obtain ⟨_, _, e, _⟩ := q; cases e
/-- x in a list of data of any depth -/
def opInD (neg : Bool) : Op2 := fun d e S => match toP S d, toP S e with
  | some p, some (.list qs) => if SeqAt.shaped p && SeqAt.shaped (.list qs) then some (.bl (if neg then !(qs.any fun z => PyData.eqv z p) else qs.any fun z => PyData.eqv z p), S) else none
  | _, _ => none
theorem okInD (hu : X.A.units + 65 < cLine) : OkOp X (compareOp .In) (opInD false) := by
  refine ⟨_, op_inD hu, fun {w H S Q d e x y} c r1 r2 q => ?_⟩
  simp only [opInD] at q
  split at q
  · rename_i a b h1 h2
    split at q
    · rename_i h
      rw [Bool.and_eq_true] at h
      exact ⟨a, b, toP_ok c h1 r1, toP_ok c h2 r2, h.1, h.2, aft_bl c (by simpa using q)⟩
    · obtain ⟨_, _, e, _⟩ := q; cases e
  · obtain ⟨_, _, e, _⟩ := q; cases e
theorem okNotInD (hu : X.A.units + 65 < cLine) : OkOp X (compareOp .NotIn) (opInD true) := by
  refine ⟨_, op_notInD hu, fun {w H S Q d e x y} c r1 r2 q => ?_⟩
  simp only [opInD] at q
  split at q
  · rename_i a b h1 h2
    split at q
    · rename_i h
      rw [Bool.and_eq_true] at h
      exact ⟨a, b, toP_ok c h1 r1, toP_ok c h2 r2, h.1, h.2, aft_bl c (by simpa using q)⟩
    · obtain ⟨_, _, e, _⟩ := q; cases e
  · obtain ⟨_, _, e, _⟩ := q; cases e
def opIn (neg : Bool) : Op2 := fun d e S => match opInF neg d e S with
  | some r => some r
  | none => match opInC neg d e S with
    | some r => some r
    | none => opInD neg d e S
theorem okIn (hu : X.A.units + 65 < cLine) : OkOp X (compareOp .In) (opIn false) := (okInF_ op_in_seq).or (okInC.or (okInD hu))
theorem okNotIn (hu : X.A.units + 65 < cLine) : OkOp X (compareOp .NotIn) (opIn true) := (okInF_ op_notIn_seq).or (okNotInC.or (okNotInD hu))
/-- is None -/
def isNon : D → Bool
  | .non => true
  | _ => false
def opIs (neg : Bool) : Op2 := fun d e S => match e with
  | .non => some (.bl (neg ^^ isNon d), S)
  | _ => none
theorem isNon_ok {K : PySem.W.Frag} {w : Wd} {d : D} {v : V} (r : Rp K w d v) : decide (v = .non) = isNon d := by
  cases d <;> simp only [Rp] at r <;> first | (subst r; rfl) | (obtain ⟨a, xs, rfl, _⟩ := r; rfl) | (obtain ⟨a, _, rfl⟩ := r; rfl)
theorem okIs : OkOp X (compareOp .Is) (opIs false) := by
  refine ⟨_, op_isN, fun {w H S Q d e x y} c r1 r2 q => ?_⟩
  cases e <;> try (obtain ⟨_, _, e, _⟩ := q; cases e; done)
  refine ⟨rp_non' r2, ?_⟩
  rw [isNon_ok r1]
  exact aft_bl c (by simpa [opIs] using q)
theorem okIsNot : OkOp X (compareOp .IsNot) (opIs true) := by
  refine ⟨_, op_notN, fun {w H S Q d e x y} c r1 r2 q => ?_⟩
  cases e <;> try (obtain ⟨_, _, e, _⟩ := q; cases e; done)
  refine ⟨rp_non' r2, ?_⟩
  rw [isNon_ok r1]
  exact aft_bl c (by simpa [opIs] using q)

/-! ### one-place operations, truth -/
abbrev Op1 := D → Sto → M D
def OkUn (X : Cx) (f : Value → Sem Value) (m : Op1) : Prop := ∃ r, UnR X f r ∧ ∀ {w : Wd} {H : Hp} {S : Sto} {Q : VK} {d : D} {x : V}, SimC X.K w H S → Rp X.K w d x → Aft X.K w H (m d S) Q → r x H Q
def opNeg : Op1 := fun d S => match d with | .int i => some (.int (-i), S) | _ => none
theorem okNeg : OkUn X (unaryOp .USub) opNeg := by
  refine ⟨_, un_neg, fun {w H S Q d x} c r1 q => ?_⟩
  cases d <;> try (obtain ⟨_, _, e, _⟩ := q; cases e; done)
  exact ⟨_, rp_int' r1, aft_int c q⟩
/-- truth -/
def truD (S : Sto) : D → Option Bool
  | .non => some false
  | .bl b => some b
  | .int i => some (decide (i ≠ 0))
  | .str x => if x.length ≤ LIM then some (decide (x.length ≠ 0)) else none
  | d => (seqOf S d).map fun ds => !ds.isEmpty
theorem RpL.emp {K : PySem.W.Frag} {w : Wd} {ds : List D} {xs : List V} (h : RpL K w ds xs) : ds.isEmpty = xs.isEmpty := by
  have e := h.len
  cases ds <;> cases xs <;> simp at e <;> rfl
theorem tru_seq {K : PySem.W.Frag} {w : Wd} {H : Hp} {S : Sto} {d : D} {v : V} {b : Bool} (c : SimC K w H S) (r : Rp K w d v) (e : (seqOf S d).map (fun ds => !ds.isEmpty) = some b) : TruV K v H b := by
  cases h : seqOf S d with
  | none => rw [h] at e; cases e
  | some ds =>
    rw [h] at e; cases e
    obtain ⟨a, xs, rfl, h1, h2⟩ := seq_ok c h r
    rcases h1 with h1 | h1
    · exact .inl ⟨xs, h1, by show (!ds.isEmpty) = _; rw [h2.emp]⟩
    · exact .inr (.inl ⟨xs, h1, by show (!ds.isEmpty) = _; rw [h2.emp]⟩)
theorem tru_okD {K : PySem.W.Frag} {w : Wd} {H : Hp} {S : Sto} {d : D} {v : V} {b : Bool} (c : SimC K w H S) (r : Rp K w d v) (e : truD S d = some b) : TruV K v H b := by
  cases d with
  | non => rw [rp_non' r]; cases e; rfl
  | bl x => rw [rp_bl' r]; cases e; rfl
  | int i =>
    rw [rp_int' r]; cases e
    show decide (i ≠ 0) = (i != 0)
    by_cases h : i = 0 <;> simp [h]
  | str x =>
    rw [rp_str' r]
    simp only [truD] at e
    split at e
    · rename_i h
      cases e
      refine ⟨lim_le h, ?_⟩
      by_cases h : x.length = 0 <;> simp [h]
    · cases e
  | tup ds => exact tru_seq c r e
  | lst k ds => exact tru_seq c r e
  | ref i => exact tru_seq c r e
end
end
end AW

namespace AW
open PySem PySem.Spec PyProof.Rows L2

abbrev OpN := List D → Sto → M D
def OkCall (X : Cx) (f : Value) (m : OpN) : Prop := ∃ r, CallR X f r ∧ ∀ {w : Wd} {H : Hp} {S : Sto} {Q : VK} {ds : List D} {vs : List V}, SimC X.K w H S → RpL X.K w ds vs → Aft X.K w H (m ds S) Q → r vs H Q
theorem OkCall.or {X : Cx} {f : Value} {m n : OpN} (a : OkCall X f m) (b : OkCall X f n) : OkCall X f fun ds S => match m ds S with | some r => some r | none => n ds S := by
  obtain ⟨r, o, h⟩ := a
  obtain ⟨r', o', h'⟩ := b
  refine ⟨_, o.or o', fun {w H S Q ds vs} c r1 q => ?_⟩
  cases hm : m ds S with
  | some z => simp only [hm] at q; exact .inl (h c r1 (by rw [hm]; exact q))
  | none => simp only [hm] at q; exact .inr (h' c r1 q)
theorem rpl1 {K : PySem.W.Frag} {w : Wd} {d : D} {vs : List V} (r : RpL K w [d] vs) : ∃ v, vs = [v] ∧ Rp K w d v := by
  obtain ⟨x, t, rfl, h1, h2⟩ := r.cons_inv
  rw [h2.nil_inv]; exact ⟨x, rfl, h1⟩
theorem rpl2 {K : PySem.W.Frag} {w : Wd} {d e : D} {vs : List V} (r : RpL K w [d, e] vs) : ∃ v u, vs = [v, u] ∧ Rp K w d v ∧ Rp K w e u := by
  obtain ⟨x, t, rfl, h1, h2⟩ := r.cons_inv
  obtain ⟨y, rfl, h3⟩ := rpl1 h2
  exact ⟨x, y, rfl, h1, h3⟩

/-! ### sorting, told -/
def insI (x : Int) : List Int → List Int
  | [] => [x]
  | y :: ys => if x ≤ y then x :: y :: ys else y :: insI x ys
def sortI : List Int → List Int
  | [] => []
  | x :: xs => insI x (sortI xs)
theorem insI_perm (x : Int) : ∀ ys, (insI x ys).Perm (x :: ys)
  | [] => .refl _
  | y :: ys => by
    unfold insI
    split
    · exact .refl _
    · exact ((insI_perm x ys).cons y).trans (.swap x y ys)
theorem sortI_perm : ∀ xs, (sortI xs).Perm xs
  | [] => .refl _
  | x :: xs => (insI_perm x _).trans ((sortI_perm xs).cons x)
theorem insI_sorted (x : Int) : ∀ ys : List Int, ys.Pairwise (· ≤ ·) → (insI x ys).Pairwise (· ≤ ·)
  | [], _ => by simp [insI]
  | y :: ys, h => by
    have hy := List.pairwise_cons.mp h
    unfold insI
    split
    · rename_i hxy
      refine List.pairwise_cons.mpr ⟨fun z hz => ?_, h⟩
      rcases List.mem_cons.mp hz with rfl | hz
      · exact hxy
      · exact Int.le_trans hxy (hy.1 z hz)
    · rename_i hxy
      refine List.pairwise_cons.mpr ⟨fun z hz => ?_, insI_sorted x ys hy.2⟩
      rcases List.mem_cons.mp ((insI_perm x ys).mem_iff.mp hz) with rfl | hz
      · omega
      · exact hy.1 z hz
theorem sortI_sorted : ∀ xs, (sortI xs).Pairwise (· ≤ ·)
  | [] => .nil
  | x :: xs => insI_sorted x _ (sortI_sorted xs)
theorem sortI_uniq {xs ys : List Int} (p : ys.Perm xs) (s : ys.Pairwise (· ≤ ·)) : ys = sortI xs :=
  List.Perm.eq_of_pairwise (fun _ _ _ _ a b => Int.le_antisymm a b) s (sortI_sorted xs) (p.trans (sortI_perm xs).symm)
/-- texts, by their codes -/
def leS (x y : Str) : Bool := !ltCps y.cps.toList x.cps.toList
def insS (x : Str) : List Str → List Str
  | [] => [x]
  | y :: ys => if leS x y then x :: y :: ys else y :: insS x ys
def sortS : List Str → List Str
  | [] => []
  | x :: xs => insS x (sortS xs)
theorem ltC_irr : ∀ a : List Nat, ltCps a a = false
  | [] => rfl
  | a :: r => by simp [ltCps, ltC_irr r]
theorem ltC_tri : ∀ {a b : List Nat}, ltCps a b = false → ltCps b a = false → a = b
  | [], [], _, _ => rfl
  | [], _ :: _, h, _ => by simp [ltCps] at h
  | _ :: _, [], _, h => by simp [ltCps] at h
  | a :: r, b :: t, h, g => by
    simp only [ltCps, Bool.or_eq_false_iff, decide_eq_false_iff_not, Bool.and_eq_false_imp, beq_iff_eq] at h g
    have e : a = b := by omega
    subst e
    rw [ltC_tri (h.2 rfl) (g.2 rfl)]
theorem ltC_trans : ∀ {a b c : List Nat}, ltCps a b = true → ltCps b c = true → ltCps a c = true
  | [], [], _, h, _ => by simp [ltCps] at h
  | [], _ :: _, [], _, g => by simp [ltCps] at g
  | [], _ :: _, _ :: _, _, _ => rfl
  | _ :: _, [], _, h, _ => by simp [ltCps] at h
  | _ :: _, _ :: _, [], _, g => by simp [ltCps] at g
  | a :: r, b :: t, c :: u, h, g => by
    simp only [ltCps, Bool.or_eq_true, decide_eq_true_eq, Bool.and_eq_true, beq_iff_eq] at h g ⊢
    rcases h with h | ⟨rfl, h⟩
    · rcases g with g | ⟨rfl, g⟩
      · left; omega
      · left; exact h
    · rcases g with g | ⟨rfl, g⟩
      · left; exact g
      · right; exact ⟨rfl, ltC_trans h g⟩
theorem leS_trans {x y z : Str} (h : leS x y = true) (g : leS y z = true) : leS x z = true := by
  simp only [leS, Bool.not_eq_true'] at *
  cases q : ltCps z.cps.toList x.cps.toList with
  | false => rfl
  | true =>
    by_cases e : ltCps x.cps.toList y.cps.toList = true
    · rw [ltC_trans q e] at g; cases g
    · have e' : x.cps.toList = y.cps.toList := ltC_tri (by simpa using e) h
      rw [e', g] at q; cases q
theorem leS_antisymm {x y : Str} (h : leS x y = true) (g : leS y x = true) : x = y := by
  simp only [leS, Bool.not_eq_true'] at *
  have e := ltC_tri g h
  cases x; cases y
  simp only [PySem.Str.mk.injEq]
  exact Array.toList_inj.mp e
theorem leS_total {x y : Str} (h : ¬ leS x y = true) : leS y x = true := by
  simp only [leS, Bool.not_eq_true', Bool.not_eq_false] at *
  cases q : ltCps x.cps.toList y.cps.toList with
  | false => rfl
  | true =>
    have := ltC_trans q h
    rw [ltC_irr] at this; cases this
theorem insS_perm (x : Str) : ∀ ys, (insS x ys).Perm (x :: ys)
  | [] => .refl _
  | y :: ys => by
    unfold insS
    split
    · exact .refl _
    · exact ((insS_perm x ys).cons y).trans (.swap x y ys)
theorem sortS_perm : ∀ xs, (sortS xs).Perm xs
  | [] => .refl _
  | x :: xs => (insS_perm x _).trans ((sortS_perm xs).cons x)
theorem insS_sorted (x : Str) : ∀ ys : List Str, ys.Pairwise (leS · ·) → (insS x ys).Pairwise (leS · ·)
  | [], _ => by simp [insS]
  | y :: ys, h => by
    have hy := List.pairwise_cons.mp h
    unfold insS
    split
    · rename_i hxy
      refine List.pairwise_cons.mpr ⟨fun z hz => ?_, h⟩
      rcases List.mem_cons.mp hz with rfl | hz
      · exact hxy
      · exact leS_trans hxy (hy.1 z hz)
    · rename_i hxy
      refine List.pairwise_cons.mpr ⟨fun z hz => ?_, insS_sorted x ys hy.2⟩
      rcases List.mem_cons.mp ((insS_perm x ys).mem_iff.mp hz) with rfl | hz
      · exact leS_total hxy
      · exact hy.1 z hz
theorem sortS_sorted : ∀ xs, (sortS xs).Pairwise (leS · ·)
  | [] => .nil
  | x :: xs => insS_sorted x _ (sortS_sorted xs)
theorem risingS_all : ∀ {ys : List Str} {p : Str}, risingS p ys = true → (p :: ys).Pairwise (leS · ·)
  | [], _, _ => by simp
  | y :: ys, p, h => by
    simp only [risingS, Bool.and_eq_true] at h
    have ih := risingS_all h.2
    refine List.pairwise_cons.mpr ⟨fun z hz => ?_, ih⟩
    have h1 : leS p y = true := h.1
    rcases List.mem_cons.mp hz with rfl | hz
    · exact h1
    · exact leS_trans h1 ((List.pairwise_cons.mp ih).1 z hz)
theorem sortS_uniq {xs ys : List Str} (p : ys.Perm xs) (s : sortedS ys = true) : ys = sortS xs := by
  refine List.Perm.eq_of_pairwise (fun _ _ _ _ a b => leS_antisymm a b) ?_ (sortS_sorted xs) (p.trans (sortS_perm xs).symm)
  cases ys with
  | nil => exact .nil
  | cons y ys => exact risingS_all s
/-- pairs of ints -/
def pairsOf : List D → Option (List (Int × Int))
  | [] => some []
  | .tup [.int i, .int j] :: ds => match pairsOf ds with | some is => some ((i, j) :: is) | _ => none
  | _ => none
def leP (a b : Int × Int) : Bool := decide (a.1 < b.1) || (decide (a.1 = b.1) && decide (a.2 ≤ b.2))
def insP (x : Int × Int) : List (Int × Int) → List (Int × Int)
  | [] => [x]
  | y :: ys => if leP x y then x :: y :: ys else y :: insP x ys
def sortP : List (Int × Int) → List (Int × Int)
  | [] => []
  | x :: xs => insP x (sortP xs)
def dP (p : Int × Int) : D := .tup [.int p.1, .int p.2]
theorem leP_iff {a b : Int × Int} : leP a b = true ↔ a.1 < b.1 ∨ (a.1 = b.1 ∧ a.2 ≤ b.2) := by simp [leP]
theorem insP_perm (x : Int × Int) : ∀ ys, (insP x ys).Perm (x :: ys)
  | [] => .refl _
  | y :: ys => by
    unfold insP
    split
    · exact .refl _
    · exact ((insP_perm x ys).cons y).trans (.swap x y ys)
theorem sortP_perm : ∀ xs, (sortP xs).Perm xs
  | [] => .refl _
  | x :: xs => (insP_perm x _).trans ((sortP_perm xs).cons x)
theorem insP_sorted (x : Int × Int) : ∀ ys : List (Int × Int), ys.Pairwise (leP · ·) → (insP x ys).Pairwise (leP · ·)
  | [], _ => by simp [insP]
  | y :: ys, h => by
    have hy := List.pairwise_cons.mp h
    unfold insP
    split
    · rename_i hxy
      refine List.pairwise_cons.mpr ⟨fun z hz => ?_, h⟩
      rcases List.mem_cons.mp hz with rfl | hz
      · exact hxy
      · have := hy.1 z hz; rw [leP_iff] at *; omega
    · rename_i hxy
      refine List.pairwise_cons.mpr ⟨fun z hz => ?_, insP_sorted x ys hy.2⟩
      rcases List.mem_cons.mp ((insP_perm x ys).mem_iff.mp hz) with rfl | hz
      · rw [leP_iff] at *; omega
      · exact hy.1 z hz
theorem sortP_sorted : ∀ xs, (sortP xs).Pairwise (leP · ·)
  | [] => .nil
  | x :: xs => insP_sorted x _ (sortP_sorted xs)
theorem sortP_uniq {xs ys : List (Int × Int)} (p : ys.Perm xs) (s : ys.Pairwise (leP · ·)) : ys = sortP xs :=
  List.Perm.eq_of_pairwise (fun a b _ _ h g => by
    rw [leP_iff] at h g
    exact Prod.ext (by omega) (by omega)) s (sortP_sorted xs) (p.trans (sortP_perm xs).symm)

/-! ### built-ins -/
section
variable {X : Cx}
def bLen : OpN := fun ds S => match ds with
  | [.str x] => if x.length ≤ LIM then some (.int x.length, S) else none
  | [d] => match seqOf S d with | some es => some (.int es.length, S) | none => none
  | _ => none
theorem okLen : OkCall X (.builtin "len") bLen := by
  refine ⟨_, call_len, fun {w H S Q ds vs} c r q => ?_⟩
  match ds, r, q with
  | [], _, q => obtain ⟨_, _, e, _⟩ := q; cases e
  | _ :: _ :: _, _, q => obtain ⟨_, _, e, _⟩ := q; simp [bLen] at e
  | [d], r, q =>
    obtain ⟨v, rfl, r1⟩ := rpl1 r
    cases d with
    | str x =>
      simp only [bLen] at q
      split at q
      · rename_i h
        refine ⟨_, x.length, rfl, ?_, aft_int c q⟩
        rw [rp_str' r1]
        exact ⟨lim_le h, rfl⟩
      · obtain ⟨_, _, e, _⟩ := q; cases e
    | _ =>
      simp only [bLen] at q
      split at q
      · rename_i es he
        obtain ⟨a, xs, rfl, h1, h2⟩ := seq_ok c he r1
        refine ⟨_, xs.length, rfl, ?_, aft_int c (by rw [← h2.len]; exact q)⟩
        rcases h1 with h1 | h1
        · exact .inl ⟨xs, h1, rfl⟩
        · exact .inr ⟨xs, h1, rfl⟩
      · obtain ⟨_, _, e, _⟩ := q; cases e
def bAbs : OpN := fun ds S => match ds with
  | [.int i] => some (.int (if i < 0 then -i else i), S)
  | _ => none
theorem okAbs : OkCall X (.builtin "abs") bAbs := by
  refine ⟨_, call_abs, fun {w H S Q ds vs} c r q => ?_⟩
  unfold bAbs at q
  split at q
  · obtain ⟨v, rfl, r1⟩ := rpl1 r
    exact ⟨_, by rw [rp_int' r1], aft_int c q⟩
  · obtain ⟨_, _, e, _⟩ := q; cases e
def bMax2 : OpN := fun ds S => match ds with
  | [.int i, .int j] => some (.int (if j > i then j else i), S)
  | _ => none
theorem okMax2 (hc : X.calm = true) : OkCall X (.builtin "max") bMax2 := by
  refine ⟨_, call_max2 hc, fun {w H S Q ds vs} c r q => ?_⟩
  unfold bMax2 at q
  split at q
  · obtain ⟨v, u, rfl, r1, r2⟩ := rpl2 r
    exact ⟨_, _, by rw [rp_int' r1, rp_int' r2], aft_int c q⟩
  · obtain ⟨_, _, e, _⟩ := q; cases e
def bMin2 : OpN := fun ds S => match ds with
  | [.int i, .int j] => some (.int (if j < i then j else i), S)
  | _ => none
theorem okMin2 (hc : X.calm = true) : OkCall X (.builtin "min") bMin2 := by
  refine ⟨_, call_min2 hc, fun {w H S Q ds vs} c r q => ?_⟩
  unfold bMin2 at q
  split at q
  · obtain ⟨v, u, rfl, r1, r2⟩ := rpl2 r
    exact ⟨_, _, by rw [rp_int' r1, rp_int' r2], aft_int c q⟩
  · obtain ⟨_, _, e, _⟩ := q; cases e
/-- one list of ints -/
def listInts (S : Sto) : List D → Option (List Int)
  | [d] => (readS S d).bind intsOf
  | _ => none
theorem listInts_ok {K : PySem.W.Frag} {w : Wd} {H : Hp} {S : Sto} {ds : List D} {vs : List V} {ns : List Int} (c : SimC K w H S) (e : listInts S ds = some ns) (r : RpL K w ds vs) : ∃ a, vs = [.ref a] ∧ SqL K H a (ns.map V.int) := by
  match ds, r, e with
  | [], _, e => cases e
  | _ :: _ :: _, _, e => cases e
  | [d], r, e =>
    obtain ⟨v, rfl, r1⟩ := rpl1 r
    simp only [listInts] at e
    rw [Option.bind_eq_some_iff] at e
    obtain ⟨es, h1, h2⟩ := e
    obtain ⟨a, xs, rfl, h3, h4⟩ := readS_ok c h1 r1
    rw [ints_ok h2 h4] at h3
    exact ⟨a, rfl, h3⟩
def maxI : Int → List Int → Int
  | m, [] => m
  | m, x :: xs => maxI (if x > m then x else m) xs
theorem maxI_spec : ∀ (xs : List Int) (m : Int), (maxI m xs = m ∨ maxI m xs ∈ xs) ∧ m ≤ maxI m xs ∧ ∀ y ∈ xs, y ≤ maxI m xs
  | [], m => by simp [maxI]
  | x :: xs, m => by
    obtain ⟨h1, h2, h3⟩ := maxI_spec xs (if x > m then x else m)
    simp only [maxI]
    have hz : ∀ z, (if x > m then x else m) = z → m ≤ z ∧ x ≤ z := fun z e => by rw [← e]; split <;> omega
    refine ⟨?_, ?_, fun y hy => ?_⟩
    · rcases h1 with h1 | h1
      · rw [h1]; split
        · exact .inr List.mem_cons_self
        · exact .inl rfl
      · exact .inr (List.mem_cons_of_mem _ h1)
    · have := hz _ rfl; omega
    · rcases List.mem_cons.mp hy with e | hy
      · have := hz _ rfl; rw [e]; omega
      · exact h3 y hy
def minI : Int → List Int → Int
  | m, [] => m
  | m, x :: xs => minI (if x < m then x else m) xs
theorem minI_spec : ∀ (xs : List Int) (m : Int), (minI m xs = m ∨ minI m xs ∈ xs) ∧ minI m xs ≤ m ∧ ∀ y ∈ xs, minI m xs ≤ y
  | [], m => by simp [minI]
  | x :: xs, m => by
    obtain ⟨h1, h2, h3⟩ := minI_spec xs (if x < m then x else m)
    simp only [minI]
    have hz : ∀ z, (if x < m then x else m) = z → z ≤ m ∧ z ≤ x := fun z e => by rw [← e]; split <;> omega
    refine ⟨?_, ?_, fun y hy => ?_⟩
    · rcases h1 with h1 | h1
      · rw [h1]; split
        · exact .inr List.mem_cons_self
        · exact .inl rfl
      · exact .inr (List.mem_cons_of_mem _ h1)
    · have := hz _ rfl; omega
    · rcases List.mem_cons.mp hy with e | hy
      · have := hz _ rfl; rw [e]; omega
      · exact h3 y hy
def bMax1 : OpN := fun ds S => match listInts S ds with
  | some (n :: ns) => some (.int (maxI n ns), S)
  | _ => none
theorem okMax1 (hc : X.calm = true) : OkCall X (.builtin "max") bMax1 := by
  refine ⟨_, cr_max hc, fun {w H S Q ds vs} c r q => ?_⟩
  unfold bMax1 at q
  split at q
  · rename_i n ns e
    obtain ⟨a, rfl, h⟩ := listInts_ok c e r
    refine ⟨a, n :: ns, rfl, h, by simp, fun m hm hy => ?_⟩
    obtain ⟨h1, h2, h3⟩ := maxI_spec ns n
    have e : m = maxI n ns := by
      have a1 : maxI n ns ≤ m := by
        rcases h1 with h1 | h1
        · rw [h1]; exact hy _ List.mem_cons_self
        · exact hy _ (List.mem_cons_of_mem _ h1)
      have a2 : m ≤ maxI n ns := by
        rcases List.mem_cons.mp hm with rfl | hm
        · exact h2
        · exact h3 _ hm
      omega
    rw [e]; exact aft_int c q
  · obtain ⟨_, _, e, _⟩ := q; cases e
def bMin1 : OpN := fun ds S => match listInts S ds with
  | some (n :: ns) => some (.int (minI n ns), S)
  | _ => none
theorem okMin1 (hc : X.calm = true) : OkCall X (.builtin "min") bMin1 := by
  refine ⟨_, cr_min hc, fun {w H S Q ds vs} c r q => ?_⟩
  unfold bMin1 at q
  split at q
  · rename_i n ns e
    obtain ⟨a, rfl, h⟩ := listInts_ok c e r
    refine ⟨a, n :: ns, rfl, h, by simp, fun m hm hy => ?_⟩
    obtain ⟨h1, h2, h3⟩ := minI_spec ns n
    have e : m = minI n ns := by
      have a1 : m ≤ minI n ns := by
        rcases h1 with h1 | h1
        · rw [h1]; exact hy _ List.mem_cons_self
        · exact hy _ (List.mem_cons_of_mem _ h1)
      have a2 : minI n ns ≤ m := by
        rcases List.mem_cons.mp hm with rfl | hm
        · exact h2
        · exact h3 _ hm
      omega
    rw [e]; exact aft_int c q
  · obtain ⟨_, _, e, _⟩ := q; cases e
def bMax : OpN := fun ds S => match bMax2 ds S with | some r => some r | none => bMax1 ds S
def bMin : OpN := fun ds S => match bMin2 ds S with | some r => some r | none => bMin1 ds S
theorem okMax (hc : X.calm = true) : OkCall X (.builtin "max") bMax := (okMax2 hc).or (okMax1 hc)
theorem okMin (hc : X.calm = true) : OkCall X (.builtin "min") bMin := (okMin2 hc).or (okMin1 hc)
def bSum : OpN := fun ds S => match listInts S ds with
  | some ns => some (.int ns.sum, S)
  | _ => none
theorem okSum (hc : X.calm = true) : OkCall X (.builtin "sum") bSum := by
  refine ⟨_, cr_sum hc, fun {w H S Q ds vs} c r q => ?_⟩
  unfold bSum at q
  split at q
  · rename_i ns e
    obtain ⟨a, rfl, h⟩ := listInts_ok c e r
    exact ⟨a, ns, rfl, h, aft_int c q⟩
  · obtain ⟨_, _, e, _⟩ := q; cases e
def listBls (S : Sto) : List D → Option (List Bool)
  | [d] => (readS S d).bind blsOf
  | _ => none
theorem listBls_ok {K : PySem.W.Frag} {w : Wd} {H : Hp} {S : Sto} {ds : List D} {vs : List V} {ns : List Bool} (c : SimC K w H S) (e : listBls S ds = some ns) (r : RpL K w ds vs) : ∃ a, vs = [.ref a] ∧ SqL K H a (ns.map V.bl) := by
  match ds, r, e with
  | [], _, e => cases e
  | _ :: _ :: _, _, e => cases e
  | [d], r, e =>
    obtain ⟨v, rfl, r1⟩ := rpl1 r
    simp only [listBls] at e
    rw [Option.bind_eq_some_iff] at e
    obtain ⟨es, h1, h2⟩ := e
    obtain ⟨a, xs, rfl, h3, h4⟩ := readS_ok c h1 r1
    rw [bls_ok h2 h4] at h3
    exact ⟨a, rfl, h3⟩
def bAll : OpN := fun ds S => match listBls S ds with
  | some bs => some (.bl (bs.all id), S)
  | _ => none
theorem okAll (hc : X.calm = true) : OkCall X (.builtin "all") bAll := by
  refine ⟨_, cr_all hc, fun {w H S Q ds vs} c r q => ?_⟩
  unfold bAll at q
  split at q
  · rename_i ns e
    obtain ⟨a, rfl, h⟩ := listBls_ok c e r
    exact ⟨a, ns, rfl, h, aft_bl c q⟩
  · obtain ⟨_, _, e, _⟩ := q; cases e
def bAny : OpN := fun ds S => match listBls S ds with
  | some bs => some (.bl (bs.any id), S)
  | _ => none
theorem okAny (hc : X.calm = true) : OkCall X (.builtin "any") bAny := by
  refine ⟨_, cr_any hc, fun {w H S Q ds vs} c r q => ?_⟩
  unfold bAny at q
  split at q
  · rename_i ns e
    obtain ⟨a, rfl, h⟩ := listBls_ok c e r
    exact ⟨a, ns, rfl, h, aft_bl c q⟩
  · obtain ⟨_, _, e, _⟩ := q; cases e
def bSortedI (mk : Bool) : OpN := fun ds S => match listInts S ds with
  | some ns => newL mk ((sortI ns).map D.int) S
  | _ => none
theorem okSortedI {mk : Bool} : OkCall X (.builtin "sorted") (bSortedI mk) := by
  refine ⟨_, cr_sortedI, fun {w H S Q ds vs} c r q => ?_⟩
  unfold bSortedI at q
  split at q
  · rename_i ns e
    obtain ⟨a, rfl, h⟩ := listInts_ok c e r
    refine ⟨a, ns, rfl, h, fun ns' p h1 h2 hp => ?_⟩
    rw [sortI_uniq h1 h2]
    exact aft_new c rpl_ints q p hp
  · obtain ⟨_, _, e, _⟩ := q; cases e
def listStrs (S : Sto) : List D → Option (List Str)
  | [d] => (readS S d).bind strsOf
  | _ => none
theorem listStrs_ok {K : PySem.W.Frag} {w : Wd} {H : Hp} {S : Sto} {ds : List D} {vs : List V} {ns : List Str} (c : SimC K w H S) (e : listStrs S ds = some ns) (r : RpL K w ds vs) : ∃ a, vs = [.ref a] ∧ SqL K H a (ns.map V.str) := by
  match ds, r, e with
  | [], _, e => cases e
  | _ :: _ :: _, _, e => cases e
  | [d], r, e =>
    obtain ⟨v, rfl, r1⟩ := rpl1 r
    simp only [listStrs] at e
    rw [Option.bind_eq_some_iff] at e
    obtain ⟨es, h1, h2⟩ := e
    obtain ⟨a, xs, rfl, h3, h4⟩ := readS_ok c h1 r1
    rw [strs_ok h2 h4] at h3
    exact ⟨a, rfl, h3⟩
def bSortedS (mk : Bool) : OpN := fun ds S => match listStrs S ds with
  | some ns => if ns.length < 64 then newL mk ((sortS ns).map D.str) S else none
  | _ => none
theorem okSortedS {mk : Bool} : OkCall X (.builtin "sorted") (bSortedS mk) := by
  refine ⟨_, cr_sortedS, fun {w H S Q ds vs} c r q => ?_⟩
  unfold bSortedS at q
  split at q
  · rename_i ns e
    split at q
    · rename_i h64
      obtain ⟨a, rfl, h⟩ := listStrs_ok c e r
      refine ⟨a, ns, rfl, h, h64, fun ns' p h1 h2 hp => ?_⟩
      rw [sortS_uniq h1 h2]
      exact aft_new c rpl_strs q p hp
    · obtain ⟨_, _, e, _⟩ := q; cases e
  · obtain ⟨_, _, e, _⟩ := q; cases e
def listPairs (S : Sto) : List D → Option (List (Int × Int))
  | [d] => (readS S d).bind pairsOf
  | _ => none
theorem pairs_ok {K : PySem.W.Frag} {w : Wd} {H : Hp} {S : Sto} (c : SimC K w H S) : ∀ {ds : List D} {vs : List V} {ps : List (Int × Int)}, pairsOf ds = some ps → RpL K w ds vs → ds = ps.map dP ∧
    Paired (fun (p : Int × Int) v => ∃ t, v = V.ref t ∧ H t = some (.tup [.int p.1, .int p.2]) ∧ Rp K w (dP p) v) ps vs := by
  intro ds
  induction ds with
  | nil => intro vs ps e r; cases e; rw [r.nil_inv]; exact ⟨rfl, .nil⟩
  | cons d ds ih =>
    intro vs ps e r
    obtain ⟨x, t, rfl, h1, h2⟩ := r.cons_inv
    unfold pairsOf at e
    split at e
    · rename_i he; cases he
    · rename_i i j ds' he
      cases he
      split at e
      · rename_i is h3
        cases e
        obtain ⟨e1, e2⟩ := ih h3 h2
        obtain ⟨a, xs, rfl, _, g2, g3⟩ := tup_ok c h1
        obtain ⟨u, v, rfl, k1, k2⟩ := rpl2 g3
        refine ⟨by rw [e1]; rfl, .cons ⟨a, rfl, ?_, h1⟩ e2⟩
        rw [rp_int' k1, rp_int' k2] at g2
        exact g2
      · cases e
    · cases e
theorem perm_paired {α β : Type} {R : α → β → Prop} {xs ys : List β} (p : ys.Perm xs) : ∀ {as : List α}, Paired R as xs → ∃ bs, bs.Perm as ∧ Paired R bs ys := by
  induction p with
  | nil => intro as h; exact ⟨as, .refl _, h⟩
  | cons x p ih =>
    intro as h
    cases h with
    | cons r t =>
      obtain ⟨bs, h1, h2⟩ := ih t
      exact ⟨_ :: bs, h1.cons _, .cons r h2⟩
  | swap x y l =>
    intro as h
    cases h with
    | cons r t =>
      cases t with
      | cons r' t' => exact ⟨_, .swap _ _ _, .cons r' (.cons r t')⟩
  | trans p1 p2 ih1 ih2 =>
    intro as h
    obtain ⟨bs, h1, h2⟩ := ih2 h
    obtain ⟨cs, h3, h4⟩ := ih1 h2
    exact ⟨cs, h3.trans h1, h4⟩
theorem paired_rpl {K : PySem.W.Frag} {w : Wd} {H : Hp} : ∀ {ps : List (Int × Int)} {vs : List V}, Paired (fun (p : Int × Int) v => ∃ t, v = V.ref t ∧ H t = some (.tup [.int p.1, .int p.2]) ∧ Rp K w (dP p) v) ps vs → RpL K w (ps.map dP) vs
  | _, _, .nil => .nil
  | _, _, .cons ⟨_, _, _, r⟩ t => .cons r (paired_rpl t)
def keyP (H : Hp) (v : V) : Int × Int := match v with
  | .ref t => match H t with
    | some (.tup [.int i, .int j]) => (i, j)
    | _ => (0, 0)
  | _ => (0, 0)
theorem keyP_of {K : PySem.W.Frag} {w : Wd} {H : Hp} : ∀ {ps : List (Int × Int)} {vs : List V}, Paired (fun (p : Int × Int) v => ∃ t, v = V.ref t ∧ H t = some (.tup [.int p.1, .int p.2]) ∧ Rp K w (dP p) v) ps vs → vs.map (keyP H) = ps ∧ ∀ x ∈ vs, ∃ t, x = V.ref t ∧ H t = some (.tup [.int (keyP H x).1, .int (keyP H x).2])
  | _, _, .nil => ⟨rfl, by simp⟩
  | p :: ps, _, .cons ⟨t, e1, e2, _⟩ tl => by
    obtain ⟨h1, h2⟩ := keyP_of tl
    have k : keyP H (V.ref t) = p := by simp [keyP, e2]
    subst e1
    refine ⟨by rw [List.map_cons, k, h1], fun x hx => ?_⟩
    rcases List.mem_cons.mp hx with rfl | hx
    · exact ⟨t, rfl, by rw [k]; exact e2⟩
    · exact h2 x hx
def bSortedP (mk : Bool) : OpN := fun ds S => match listPairs S ds with
  | some ps => newL mk ((sortP ps).map dP) S
  | _ => none
theorem okSortedP {mk : Bool} : OkCall X (.builtin "sorted") (bSortedP mk) := by
  refine ⟨_, cr_sortedPO, fun {w H S Q ds vs} c r q => ?_⟩
  unfold bSortedP at q
  split at q
  · rename_i ps e
    match ds, r, e with
    | [], _, e => cases e
    | _ :: _ :: _, _, e => cases e
    | [d], r, e =>
      obtain ⟨v, rfl, r1⟩ := rpl1 r
      simp only [listPairs] at e
      rw [Option.bind_eq_some_iff] at e
      obtain ⟨es, h1, h2⟩ := e
      obtain ⟨a, xs, rfl, h3, h4⟩ := readS_ok c h1 r1
      obtain ⟨_, pr⟩ := pairs_ok c h2 h4
      obtain ⟨k1, k2⟩ := keyP_of pr
      refine ⟨a, xs, keyP H, rfl, h3, k2, fun ys p s b hp => ?_⟩
      obtain ⟨qs, g1, g2⟩ := perm_paired b.perm pr
      obtain ⟨k3, _⟩ := keyP_of g2
      have e : qs = sortP ps := by
        refine sortP_uniq g1 ?_
        rw [← k3]
        refine List.pairwise_map.mpr (List.Pairwise.imp (fun {x y} h => ?_) s)
        have h' : SrtO.lexB (keyP H y) (keyP H x) = false := h
        have := SrtO.lexB_no.mp h'
        rw [leP_iff]; omega
      rw [e] at g2
      exact aft_new c (paired_rpl g2) q p hp
  · obtain ⟨_, _, e, _⟩ := q; cases e
def bSorted (mk : Bool) : OpN := fun ds S => match bSortedI mk ds S with
  | some r => some r
  | none => match bSortedS mk ds S with
    | some r => some r
    | none => bSortedP mk ds S
theorem okSorted {mk : Bool} : OkCall X (.builtin "sorted") (bSorted mk) := okSortedI.or (okSortedS.or okSortedP)
def bInt : OpN := fun ds S => match ds with
  | [.int i] => some (.int i, S)
  | [.bl b] => some (.int (if b then 1 else 0), S)
  | _ => none
theorem okInt : OkCall X (.type "int") bInt := by
  refine ⟨_, call_int1, fun {w H S Q ds vs} c r q => ?_⟩
  unfold bInt at q
  split at q
  · obtain ⟨v, rfl, r1⟩ := rpl1 r
    exact .inl ⟨_, by rw [rp_int' r1], aft_int c q⟩
  · obtain ⟨v, rfl, r1⟩ := rpl1 r
    exact .inr ⟨_, by rw [rp_bl' r1], aft_int c q⟩
  · obtain ⟨_, _, e, _⟩ := q; cases e
def bBool : OpN := fun ds S => match ds with
  | [.int i] => some (.bl (i != 0), S)
  | [.bl b] => some (.bl b, S)
  | _ => none
theorem okBool : OkCall X (.type "bool") bBool := by
  refine ⟨_, call_bool1, fun {w H S Q ds vs} c r q => ?_⟩
  unfold bBool at q
  split at q
  · obtain ⟨v, rfl, r1⟩ := rpl1 r
    exact .inl ⟨_, by rw [rp_int' r1], aft_bl c q⟩
  · obtain ⟨v, rfl, r1⟩ := rpl1 r
    exact .inr ⟨_, by rw [rp_bl' r1], aft_bl c q⟩
  · obtain ⟨_, _, e, _⟩ := q; cases e
def bStr : OpN := fun ds S => match ds with
  | [.int i] => if i.natAbs < 1000000000000000000000 then some (.str (Str.ofString (toString i)), S) else none
  | _ => none
theorem okStr : OkCall X (.type "str") bStr := by
  refine ⟨_, call_str_int, fun {w H S Q ds vs} c r q => ?_⟩
  unfold bStr at q
  split at q
  · rename_i i
    split at q
    · rename_i h
      obtain ⟨v, rfl, r1⟩ := rpl1 r
      refine ⟨_, by rw [rp_int' r1], ?_, aft_str c q⟩
      by_cases h0 : i.natAbs = 0
      · rw [h0]; decide
      · rw [Nat.log2_lt h0]
        exact Nat.lt_of_lt_of_le h (Nat.le_trans (by decide : 1000000000000000000000 ≤ 2 ^ 100) (Nat.pow_le_pow_right (by decide) (by decide)))
    · obtain ⟨_, _, e, _⟩ := q; cases e
  · obtain ⟨_, _, e, _⟩ := q; cases e
def bList (mk : Bool) : OpN := fun ds S => match ds with
  | [d] => match seqOf S d with | some es => newL mk es S | none => none
  | _ => none
theorem okList {mk : Bool} : OkCall X (.type "list") (bList mk) := by
  refine ⟨_, call_list_of, fun {w H S Q ds vs} c r q => ?_⟩
  match ds, r, q with
  | [], _, q => obtain ⟨_, _, e, _⟩ := q; cases e
  | _ :: _ :: _, _, q => obtain ⟨_, _, e, _⟩ := q; cases e
  | [d], r, q =>
    obtain ⟨v, rfl, r1⟩ := rpl1 r
    simp only [bList] at q
    split at q
    · rename_i es he
      obtain ⟨a, xs, rfl, h1, h2⟩ := seq_ok c he r1
      exact ⟨a, xs, rfl, h1, aft_new c h2 q⟩
    · obtain ⟨_, _, e, _⟩ := q; cases e
def bTuple : OpN := fun ds S => match ds with
  | [d] => match seqOf S d with | some es => some (.tup es, S) | none => none
  | _ => none
theorem okTuple : OkCall X (.type "tuple") bTuple := by
  refine ⟨_, call_tuple_of, fun {w H S Q ds vs} c r q => ?_⟩
  match ds, r, q with
  | [], _, q => obtain ⟨_, _, e, _⟩ := q; cases e
  | _ :: _ :: _, _, q => obtain ⟨_, _, e, _⟩ := q; cases e
  | [d], r, q =>
    obtain ⟨v, rfl, r1⟩ := rpl1 r
    cases d with
    | tup es =>
      obtain ⟨a, xs, rfl, h1, h2, h3⟩ := tup_ok c r1
      exact ⟨a, xs, rfl, .inr ⟨h1, aft_pure c r1 q⟩⟩
    | _ =>
      simp only [bTuple, seqOf] at q
      split at q
      · rename_i es he
        obtain ⟨a, xs, rfl, h1, h2⟩ := readS_ok c he r1
        exact ⟨a, xs, rfl, .inl ⟨h1, aft_tup c h2 q⟩⟩
      · obtain ⟨_, _, e, _⟩ := q; cases e

/-! ### isinstance -/
inductive Ty where
  | non | bl | int | str | tup | lst | dic
  deriving DecidableEq
def Ty.name : Ty → String
  | .non => "NoneType" | .bl => "bool" | .int => "int" | .str => "str" | .tup => "tuple" | .lst => "list" | .dic => "dict"
def isTy : Ty → Ty → Bool
  | .bl, .int => true
  | a, b => decide (a = b)
def tyD (S : Sto) : D → Option Ty
  | .non => some .non
  | .bl _ => some .bl
  | .int _ => some .int
  | .str _ => some .str
  | .tup _ => some .tup
  | .lst k _ => match k with | .ext => none | _ => some .lst
  | .ref i => match S[i]? with | some (.lst _) => some .lst | _ => none
theorem tyD_ok {K : PySem.W.Frag} {w : Wd} {H : Hp} {S : Sto} {d : D} {v : V} {t : Ty} (c : SimC K w H S) (e : tyD S d = some t) (r : Rp K w d v) : TyX K H v (.type t.name) := by
  cases d with
  | non => cases e; rw [rp_non' r]; exact .base .non
  | bl b => cases e; rw [rp_bl' r]; exact .base (.bl b)
  | int b => cases e; rw [rp_int' r]; exact .base (.int b)
  | str b => cases e; rw [rp_str' r]; exact .base (.str b)
  | tup ds =>
    cases e
    obtain ⟨a, xs, rfl, _, h2, _⟩ := tup_ok c r
    exact .base (.tup h2)
  | lst k ds =>
    cases k with
    | ext => cases e
    | frz =>
      cases e
      obtain ⟨a, xs, rfl, h2, _⟩ := readL_ok c (show readL S (.lst .frz ds) = some ds from rfl) r
      exact .base (.lst h2)
    | bor =>
      cases e
      obtain ⟨a, xs, rfl, h2, _⟩ := readL_ok c (show readL S (.lst .bor ds) = some ds from rfl) r
      exact .base (.lst h2)
  | ref i =>
    simp only [tyD] at e
    split at e
    · rename_i ds hd
      cases e
      obtain ⟨a, xs, rfl, h2, _⟩ := readL_ok c (show readL S (.ref i) = some ds by simp [readL, hd]) r
      exact .base (.lst h2)
    · cases e
theorem kit_is {K : PySem.W.Frag} : ∀ (a b : Ty), PySem.W.kitOne K (.type a.name) (.type b.name) = some (isTy a b)
  | .non, .non => kit_ty (by decide +kernel) | .non, .bl => kit_ty (by decide +kernel) | .non, .int => kit_ty (by decide +kernel) | .non, .str => kit_ty (by decide +kernel) | .non, .tup => kit_ty (by decide +kernel) | .non, .lst => kit_ty (by decide +kernel) | .non, .dic => kit_ty (by decide +kernel)
  | .bl, .non => kit_ty (by decide +kernel) | .bl, .bl => kit_ty (by decide +kernel) | .bl, .int => kit_ty (by decide +kernel) | .bl, .str => kit_ty (by decide +kernel) | .bl, .tup => kit_ty (by decide +kernel) | .bl, .lst => kit_ty (by decide +kernel) | .bl, .dic => kit_ty (by decide +kernel)
  | .int, .non => kit_ty (by decide +kernel) | .int, .bl => kit_ty (by decide +kernel) | .int, .int => kit_ty (by decide +kernel) | .int, .str => kit_ty (by decide +kernel) | .int, .tup => kit_ty (by decide +kernel) | .int, .lst => kit_ty (by decide +kernel) | .int, .dic => kit_ty (by decide +kernel)
  | .str, .non => kit_ty (by decide +kernel) | .str, .bl => kit_ty (by decide +kernel) | .str, .int => kit_ty (by decide +kernel) | .str, .str => kit_ty (by decide +kernel) | .str, .tup => kit_ty (by decide +kernel) | .str, .lst => kit_ty (by decide +kernel) | .str, .dic => kit_ty (by decide +kernel)
  | .tup, .non => kit_ty (by decide +kernel) | .tup, .bl => kit_ty (by decide +kernel) | .tup, .int => kit_ty (by decide +kernel) | .tup, .str => kit_ty (by decide +kernel) | .tup, .tup => kit_ty (by decide +kernel) | .tup, .lst => kit_ty (by decide +kernel) | .tup, .dic => kit_ty (by decide +kernel)
  | .lst, .non => kit_ty (by decide +kernel) | .lst, .bl => kit_ty (by decide +kernel) | .lst, .int => kit_ty (by decide +kernel) | .lst, .str => kit_ty (by decide +kernel) | .lst, .tup => kit_ty (by decide +kernel) | .lst, .lst => kit_ty (by decide +kernel) | .lst, .dic => kit_ty (by decide +kernel)
  | .dic, .non => kit_ty (by decide +kernel) | .dic, .bl => kit_ty (by decide +kernel) | .dic, .int => kit_ty (by decide +kernel) | .dic, .str => kit_ty (by decide +kernel) | .dic, .tup => kit_ty (by decide +kernel) | .dic, .lst => kit_ty (by decide +kernel) | .dic, .dic => kit_ty (by decide +kernel)
theorem kit_any {K : PySem.W.Frag} (a : Ty) : ∀ bs : List Ty, PySem.W.kitAny K (.type a.name) (bs.map fun b => .type b.name) = some (bs.any (isTy a))
  | [] => rfl
  | b :: bs => by
    refine kitAny_cons (kit_is a b) (fun h => ?_) fun h => by simp [h]
    rw [kit_any a bs]; simp [h]
def opIsi (ts : List Ty) : Op1 := fun d S => match tyD S d with
  | some t => some (.bl (ts.any (isTy t)), S)
  | none => none
end

/-! ### methods of lists -/
abbrev OpM := D → List D → Sto → M D
def OkMt (X : Cx) (id : String) (m : OpM) : Prop := ∃ r, MtR X id r ∧
  ∀ {w : Wd} {H : Hp} {S : Sto} {Q : VK} {d : D} {x : V} {ds : List D} {vs : List V}, SimC X.K w H S → Rp X.K w d x → RpL X.K w ds vs → Aft X.K w H (m d ds S) Q → r x vs H Q
/-- a cell's list -/
theorem cell_ok {K : PySem.W.Frag} {w : Wd} {H : Hp} {S : Sto} {i : Nat} {ds : List D} {v : V} (c : SimC K w H S) (e : S[i]? = some (.lst ds)) (r : Rp K w (.ref i) v) : ∃ a xs, v = .ref a ∧ w.rhw[i]? = some a ∧ H a = some (.lst xs) ∧ RpL K w ds xs := by
  simp only [Rp] at r
  obtain ⟨a, h1, h2⟩ := r
  obtain ⟨b, o, g1, g2, xs, rfl, g3⟩ := c.cell i _ e
  rw [h1] at g1
  cases g1
  exact ⟨a, xs, h2, h1, g2, g3⟩
theorem aft_cell {K : PySem.W.Frag} {w : Wd} {H : Hp} {S : Sto} {Q : VK} {i : Nat} {a : Addr} {d : D} {v : V} {ds : List D} {xs : List V} (c : SimC K w H S) (hi : w.rhw[i]? = some a) (r : RpL K w ds xs) (rd : Rp K w d v) (q : Aft K w H (some (d, S.set i (.lst ds))) Q) : Q v (upd H a (.lst xs)) := by
  obtain ⟨d', S', e, q⟩ := q
  cases e
  obtain ⟨c', x⟩ := write_cell c (o := .lst xs) (co := .lst ds) hi ⟨xs, rfl, r⟩
  exact q _ _ _ x c' rd
section
variable {X : Cx}
def mAppend : OpM := fun d ds S => match d, ds with
  | .ref i, [e] => match S[i]? with
    | some (.lst es) => if es.length < LIM then some (.non, S.set i (.lst (es ++ [e]))) else none
    | _ => none
  | _, _ => none
theorem okAppend : OkMt X "list.append" mAppend := by
  refine ⟨_, mt_append, fun {w H S Q d x ds vs} c r rs q => ?_⟩
  unfold mAppend at q
  split at q
  · rename_i i e
    split at q
    · rename_i es he
      split at q
      · rename_i hl
        obtain ⟨a, xs, rfl, h1, h2, h3⟩ := cell_ok c he r
        obtain ⟨y, rfl, r1⟩ := rpl1 rs
        exact ⟨a, xs, y, rfl, rfl, h2, by rw [← h3.len]; exact lim_lt (Nat.le_of_lt hl), aft_cell c h1 (h3.append (.one r1)) rp_non q⟩
      · obtain ⟨_, _, e, _⟩ := q; cases e
    · obtain ⟨_, _, e, _⟩ := q; cases e
  · obtain ⟨_, _, e, _⟩ := q; cases e
def mPop0 : OpM := fun d ds S => match d, ds with
  | .ref i, [] => match S[i]? with
    | some (.lst es) => match es.getLast? with
      | some y => some (y, S.set i (.lst es.dropLast))
      | none => none
    | _ => none
  | _, _ => none
theorem RpL.dropLast {K : PySem.W.Frag} {w : Wd} {ds : List D} {xs : List V} (h : RpL K w ds xs) : RpL K w ds.dropLast xs.dropLast := by
  rw [List.dropLast_eq_take, List.dropLast_eq_take, h.len]
  exact h.take _
theorem okPop0 : OkMt X "list.pop" mPop0 := by
  refine ⟨_, mt_pop, fun {w H S Q d x ds vs} c r rs q => ?_⟩
  unfold mPop0 at q
  split at q
  · rename_i i
    split at q
    · rename_i es he
      split at q
      · rename_i y hy
        obtain ⟨a, xs, rfl, h1, h2, h3⟩ := cell_ok c he r
        rw [List.getLast?_eq_getElem?] at hy
        obtain ⟨v, hv, rv⟩ := h3.get hy
        rw [h3.len] at hv
        exact ⟨a, xs, v, rfl, rs.nil_inv, h2, hv, aft_cell c h1 h3.dropLast rv q⟩
      · obtain ⟨_, _, e, _⟩ := q; cases e
    · obtain ⟨_, _, e, _⟩ := q; cases e
  · obtain ⟨_, _, e, _⟩ := q; cases e
def mPop1 : OpM := fun d ds S => match d, ds with
  | .ref i, [.int k] => match S[i]? with
    | some (.lst es) => if 0 ≤ k ∧ k < es.length ∧ k < 1000000 then match es[k.toNat]? with
        | some y => some (y, S.set i (.lst (es.eraseIdx k.toNat)))
        | none => none
      else none
    | _ => none
  | _, _ => none
theorem okPop1 : OkMt X "list.pop" mPop1 := by
  refine ⟨_, mt_popAt, fun {w H S Q d x ds vs} c r rs q => ?_⟩
  unfold mPop1 at q
  split at q
  · rename_i i k
    split at q
    · rename_i es he
      split at q
      · rename_i hk
        split at q
        · rename_i y hy
          obtain ⟨a, xs, rfl, h1, h2, h3⟩ := cell_ok c he r
          obtain ⟨v, rfl, r1⟩ := rpl1 rs
          obtain ⟨v, hv, rv⟩ := h3.get hy
          have hl := h3.len
          refine ⟨a, xs, k, k.toNat, v, rfl, by rw [rp_int' r1], h2, by omega, by omega, ?_, hv, aft_cell c h1 (h3.eraseIdx _) rv q⟩
          · have hx : ixN xs.length k = some k.toNat := by
              unfold ixN
              rw [if_pos hk.1, if_pos (by omega)]
            exact (ixN_seq hx).1
        · obtain ⟨_, _, e, _⟩ := q; cases e
      · obtain ⟨_, _, e, _⟩ := q; cases e
    · obtain ⟨_, _, e, _⟩ := q; cases e
  · obtain ⟨_, _, e, _⟩ := q; cases e
def mClear : OpM := fun d ds S => match d, ds with
  | .ref i, [] => match S[i]? with
    | some (.lst _) => some (.non, S.set i (.lst []))
    | _ => none
  | _, _ => none
theorem okClear : OkMt X "list.clear" mClear := by
  refine ⟨_, mt_clear, fun {w H S Q d x ds vs} c r rs q => ?_⟩
  unfold mClear at q
  split at q
  · rename_i i
    split at q
    · rename_i es he
      obtain ⟨a, xs, rfl, h1, h2, h3⟩ := cell_ok c he r
      exact ⟨a, xs, rfl, rs.nil_inv, h2, aft_cell c h1 .nil rp_non q⟩
    · obtain ⟨_, _, e, _⟩ := q; cases e
  · obtain ⟨_, _, e, _⟩ := q; cases e
def mReverse : OpM := fun d ds S => match d, ds with
  | .ref i, [] => match S[i]? with
    | some (.lst es) => some (.non, S.set i (.lst es.reverse))
    | _ => none
  | _, _ => none
theorem okReverse : OkMt X "list.reverse" mReverse := by
  refine ⟨_, mt_reverse, fun {w H S Q d x ds vs} c r rs q => ?_⟩
  unfold mReverse at q
  split at q
  · rename_i i
    split at q
    · rename_i es he
      obtain ⟨a, xs, rfl, h1, h2, h3⟩ := cell_ok c he r
      exact ⟨a, xs, rfl, rs.nil_inv, h2, aft_cell c h1 h3.reverse rp_non q⟩
    · obtain ⟨_, _, e, _⟩ := q; cases e
  · obtain ⟨_, _, e, _⟩ := q; cases e
def mExtend : OpM := fun d ds S => match d, ds with
  | .ref i, [e] => match S[i]?, readL S e with
    | some (.lst es), some fs => if es.length + fs.length ≤ LIM then some (.non, S.set i (.lst (es ++ fs))) else none
    | _, _ => none
  | _, _ => none
theorem okExtend : OkMt X "list.extend" mExtend := by
  refine ⟨_, mt_extend, fun {w H S Q d x ds vs} c r rs q => ?_⟩
  unfold mExtend at q
  split at q
  · rename_i i e
    split at q
    · rename_i es fs he hf
      split at q
      · rename_i hl
        obtain ⟨a, xs, rfl, h1, h2, h3⟩ := cell_ok c he r
        obtain ⟨y, rfl, r1⟩ := rpl1 rs
        obtain ⟨b, ys, rfl, g1, g2⟩ := readL_ok c hf r1
        exact ⟨a, b, xs, ys, rfl, rfl, h2, g1, by rw [← h3.len, ← g2.len]; exact lim_le hl, aft_cell c h1 (h3.append g2) rp_non q⟩
      · obtain ⟨_, _, e, _⟩ := q; cases e
    · obtain ⟨_, _, e, _⟩ := q; cases e
  · obtain ⟨_, _, e, _⟩ := q; cases e

/-! ### subscripts and slices -/
def atD (ds : List D) (k : Int) : Option D := atI ds k
theorem atD_ok {K : PySem.W.Frag} {w : Wd} {ds : List D} {xs : List V} {k : Int} {d : D} (r : RpL K w ds xs) (e : atD ds k = some d) : ∃ v, atI xs k = some v ∧ Rp K w d v := by
  unfold atD atI at e
  rw [r.len] at e
  cases h : ixN xs.length k with
  | none => rw [h] at e; cases e
  | some j =>
    rw [h] at e
    obtain ⟨v, hv, rv⟩ := r.get e
    exact ⟨v, by unfold atI; rw [h]; exact hv, rv⟩
def opIx : Op2 := fun d e S => match e with
  | .int k => match d with
    | .tup ds => match atD ds k with | some y => some (y, S) | none => none
    | .str z => if z.length ≤ LIM then match atI z.cps.toList k with | some ch => some (.str ⟨#[ch]⟩, S) | none => none else none
    | d => match readS S d with
      | some ds => match atD ds k with | some y => some (y, S) | none => none
      | none => none
  | _ => none
def OkIx (X : Cx) (m : Op2) : Prop := ∃ r, IxR X r ∧ ∀ {w : Wd} {H : Hp} {S : Sto} {Q : VK} {d e : D} {x y : V}, SimC X.K w H S → Rp X.K w d x → Rp X.K w e y → Aft X.K w H (m d e S) Q → r x y H Q
theorem okIx : OkIx X opIx := by
  refine ⟨_, ix_seq, fun {w H S Q d e x y} c r1 r2 q => ?_⟩
  unfold opIx at q
  split at q
  · rename_i k
    split at q
    · split at q
      · rename_i ds y hy
        obtain ⟨a, xs, rfl, h1, _, h3⟩ := tup_ok c r1
        obtain ⟨v, hv, rv⟩ := atD_ok h3 hy
        exact .inr (.inl ⟨a, xs, k, v, rfl, rp_int' r2, h1, hv, aft_pure c rv q⟩)
      · obtain ⟨_, _, e, _⟩ := q; cases e
    · split at q
      · rename_i z hz
        split at q
        · rename_i ch hc
          exact .inr (.inr ⟨z, k, ch, rp_str' r1, rp_int' r2, lim_le hz, hc, aft_str c q⟩)
        · obtain ⟨_, _, e, _⟩ := q; cases e
      · obtain ⟨_, _, e, _⟩ := q; cases e
    · split at q
      · rename_i ds hd
        split at q
        · rename_i y hy
          obtain ⟨a, xs, rfl, h1, h3⟩ := readS_ok c hd r1
          obtain ⟨v, hv, rv⟩ := atD_ok h3 hy
          exact .inl ⟨a, xs, k, v, rfl, rp_int' r2, h1, hv, aft_pure c rv q⟩
        · obtain ⟨_, _, e, _⟩ := q; cases e
      · obtain ⟨_, _, e, _⟩ := q; cases e
  · obtain ⟨_, _, e, _⟩ := q; cases e
/-- xs[lo:hi], told -/
def cutD (ds : List D) (lo hi : Option Int) : List D := (ds.drop (HT.sIx ds.length 0 lo)).take (HT.sIx ds.length ds.length hi - HT.sIx ds.length 0 lo)
theorem cutD_ok {K : PySem.W.Frag} {w : Wd} {ds : List D} {xs : List V} {lo hi : Option Int} (r : RpL K w ds xs) : RpL K w (cutD ds lo hi) (cutV xs lo hi) := by
  unfold cutD cutV
  rw [r.len]
  exact (r.drop _).take _
abbrev OpSl := D → Option Int → Option Int → Sto → M D
def OkSl (X : Cx) (m : OpSl) : Prop := ∃ r, SlR X r ∧ ∀ {w : Wd} {H : Hp} {S : Sto} {Q : VK} {d : D} {x : V} {lo hi : Option Int}, SimC X.K w H S → Rp X.K w d x → Aft X.K w H (m d lo hi S) Q → r x lo hi H Q
def opSl (mk : Bool) : OpSl := fun d lo hi S => match d with
  | .tup ds => some (.tup (cutD ds lo hi), S)
  | .str z => if z.length ≤ LIM then some (.str (cutS z lo hi), S) else none
  | d => match readS S d with | some ds => newL mk (cutD ds lo hi) S | none => none
theorem okSl {mk : Bool} : OkSl X (opSl mk) := by
  refine ⟨_, sl_list.or (sl_tupA.or sl_str), fun {w H S Q d x lo hi} c r1 q => ?_⟩
  unfold opSl at q
  split at q
  · rename_i ds
    obtain ⟨a, xs, rfl, h1, _, h3⟩ := tup_ok c r1
    refine .inr (.inl ⟨a, xs, rfl, h1, fun h => ?_, fun _ p hp => aft_tup c (cutD_ok h3) q p hp⟩)
    have e : cutD ds lo hi = ds := by
      unfold cutD
      rw [h3.len, h.1, h.2, Nat.sub_zero, List.drop_zero, ← h3.len, List.take_length]
    rw [e] at q
    exact aft_pure c r1 q
  · split at q
    · rename_i z hz
      exact .inr (.inr ⟨z, rp_str' r1, lim_le hz, aft_str c q⟩)
    · obtain ⟨_, _, e, _⟩ := q; cases e
  · split at q
    · rename_i ds hd
      obtain ⟨a, xs, rfl, h1, h3⟩ := readS_ok c hd r1
      exact .inl ⟨a, xs, rfl, h1, fun p hp => aft_new c (cutD_ok h3) q p hp⟩
    · obtain ⟨_, _, e, _⟩ := q; cases e
end
end AW

namespace AW
open PySem PySem.Spec PyProof.Rows L2 HT

section
variable {prog : Program} {w : World} {A : Around} {E : Value → Shared → Prop} {s : Shared}
theorem adjust_back (n : Nat) : Builtin.Slice.sliceAdjust none none (-1) (n : Int) = ((n : Int) - 1, -1) := rfl
theorem places_back (n : Nat) : Builtin.Slice.slicePlaces ((n : Int) - 1) (-1) (-1) = n := by
  have h1 : ¬ ((-1 : Int) > 0) := by decide
  unfold Builtin.Slice.slicePlaces
  simp only [h1, if_false]
  split
  · rw [show (- -1 : Int) = 1 by decide, Int.ediv_one]; omega
  · omega
theorem pick_back (xs : Array Value) : ((List.range xs.size).filterMap fun (m : Nat) => xs[((xs.size : Int) - 1 + (m : Int) * (-1)).toNat]?).toArray = xs.toList.reverse.toArray := by
  have e : (List.range xs.size).filterMap (fun (m : Nat) => xs[((xs.size : Int) - 1 + (m : Int) * (-1)).toNat]?) = (List.range xs.size).filterMap fun m => xs[xs.size - 1 - m]? := by
    congr 1
    funext m
    rw [show ((xs.size : Int) - 1 + (m : Int) * (-1)).toNat = xs.size - 1 - m by omega]
  rw [e, ← PySem.W.krv_all xs, ← List.filterMap_reverse, ← PySem.W.krv_range, List.filterMap_map]
  rfl
theorem getItem_tup_back {t sl : Addr} {items : Array Value} {vk : Value} {Q : Value → Shared → Prop} (ht : IsTup s.heap t items) (hs : s.heap.IsSliceOf sl .none .none vk) (pk : IsPart vk (some (-1))) (hsz : items.size ≤ sizeLine)
    (h : Q (.ref s.heap.objs.size) { s with heap := s.heap.push { cls := .type "tuple", data := .seq items.toList.reverse.toArray } }) : wpAny (model prog w) A (getItem (.ref t) (.ref sl)) Q E s := by
  obtain ⟨ob, hob, hcl, hda⟩ := id hs
  have tS : s.TypeIs (.ref sl) "slice" := ⟨ob, hob, hcl⟩
  have size : sizeOk (.seq items.toList.reverse.toArray) := by
    show items.toList.reverse.toArray.size ≤ sizeLine
    rw [List.size_toArray, List.length_reverse, Array.length_toList]; exact hsz
  unfold getItem
  try with_reducible refine wpAny_holding ?_
  first | refine wpAny_bind (wpAny_pure ?_) | skip
  have sk := ht.typeIs
  refine wpAny_bind (wpAny_sequenceKey sk (by decide) ?_)
  refine wpAny_bind (wpAny_callSpecial?_slot (name := Str.ofString "__getitem__") sk PyProof.Rows.slot_tuple_getitem (wpAny_call_entry PyProof.Rows.slot_tuple_getitem sk entry_tuple_getitem ?_ (args_tuple_getitem _ _)))
  show wpAny _ _ (Builtin.Tuple.tupleItemsOf (.ref t) >>= _) _ _ s
  refine wpAny_bind (tupleItemsOf_ ht ?_)
  refine wpAny_bind (wpAny_typeOf tS ?_)
  rw [if_pos (by decide)]
  refine wpAny_bind ?_
  unfold Builtin.Slice.sliceApplied Builtin.Slice.sliceFields
  refine wpAny_bind (wpAny_bind (wpAny_field hob hda (x := .none) rfl (wpAny_bind (wpAny_field hob hda (x := .none) rfl (wpAny_bind (wpAny_field hob hda (x := vk) rfl (wpAny_pure ?_)))))))
  refine wpAny_bind (slicePart_ pk ?_)
  show wpAny _ _ (if ((-1 : Int) == 0) = true then _ else _) _ _ s
  rw [if_neg (by decide)]
  refine wpAny_bind (slicePart_ .none (wpAny_bind (slicePart_ .none (wpAny_bind (wpAny_pure ?_)))))
  show wpAny _ _ (match Builtin.Slice.sliceAdjust none none (-1) (items.size : Int) with | (lo, hi) => pure (lo, (-1 : Int), Builtin.Slice.slicePlaces lo hi (-1))) _ _ s
  rw [adjust_back]
  show wpAny _ _ (pure ((items.size : Int) - 1, (-1 : Int), Builtin.Slice.slicePlaces ((items.size : Int) - 1) (-1) (-1))) _ _ s
  rw [places_back]
  refine wpAny_pure ?_
  show wpAny _ _ (if (((items.size : Int) - 1) == 0 && (-1 : Int) == 1 && items.size == items.size) = true then _ else _) _ _ s
  rw [if_neg (by rw [show ((-1 : Int) == 1) = false from rfl, Bool.and_false, Bool.false_and]; exact Bool.false_ne_true), pick_back]
  first
    | exact wpAny_bind (m := Builtin.Tuple.tupleExact _) (wpAny_newObj_type (wpAny_pure ⟨_, rfl, wpAny_pure h⟩) size)
    | exact wpAny_bind (m := Builtin.Tuple.tupleExact _) (wpAny_newObj_type (wpAny_bind (wpAny_pure (wpAny_pure ⟨_, rfl, wpAny_pure h⟩))) size)
    | exact wpAny_bind (wpAny_bind (m := Builtin.Tuple.tupleExact _) (wpAny_newObj_type (wpAny_pure (wpAny_pure ⟨_, rfl, wpAny_pure h⟩)) size))
    | exact wpAny_bind (wpAny_bind (m := Builtin.Tuple.tupleExact _) (wpAny_newObj_type (wpAny_pure ⟨_, rfl, wpAny_pure h⟩) size))
end
section
variable {X : Cx}
def tRevT (K : PySem.W.Frag) (te : TE) : TE := fun σ H Q => te σ H fun x H1 => ∃ a xs, x = .ref a ∧ SqT K H1 a xs ∧ ∀ p, H1 p = none → Q (.ref p) (upd H1 p (.tup xs.reverse))
theorem pe_revT {e : Expr} {te : TE} {k : Nat} {p1 p2 p3 pos : Pos} (he : PE X e te) : PE X (.Subscript e (.Slice none none (some (.UnaryOp .USub (.Constant (.int 1) k p1) p2)) p3) pos) (tRevT X.K te) := by
  refine ⟨fun pins s σ H Q I h => Subscript_ (thn (he.run pins s σ H _ I h) fun v s1 ⟨x, H1, I1, r1, a, xs, ex, hx, q⟩ => ?_)⟩
  subst ex
  cases r1
  have minus : PO X (some (.UnaryOp .USub (.Constant (.int 1) k p1) p2)) (tPart (tUn (rU fun i => .int (-i)) (tC (.int 1)))) := po_some (pe_un un_neg pe_int)
  refine wpAny_Slice (thn (po_none.run pins s1 σ H1 (fun o H2 => o = none ∧ H2 = H1) I1 ⟨rfl, rfl⟩) fun vl s2 ⟨l, H2, I2, pl, el, e2⟩ => ?_)
  subst el e2
  refine thn (po_none.run pins s2 σ H2 (fun o H3 => o = none ∧ H3 = H2) I2 ⟨rfl, rfl⟩) fun vu s3 ⟨u, H3, I3, pu, eu, e3⟩ => ?_
  subst eu e3
  refine thn (minus.run pins s3 σ H3 (fun o H4 => o = some (-1) ∧ H4 = H3) I3 ⟨1, rfl, -1, rfl, rfl, rfl⟩) fun vs s4 ⟨o, H4, I4, ps, eo, e4⟩ => ?_
  subst eo e4
  cases pl
  cases pu
  have J : Inv X pins σ H4 { s4 with heap := s4.heap.push { cls := .type "slice", data := .fields #[.none, .none, vs] } } := I4.kept (t' := s4.toks) fun b ob q => Heap.get?_push_of_some _ q
  obtain ⟨its, r, ht, hz⟩ := J.tuple hx
  have hlen := r.length
  refine tail_any (ops := [.ref a, .ref s4.heap.objs.size]) ht.typeIs PyProof.Rows.slot_tuple_getitem.lookup ?_ (by with_unfolding_all rfl)
  refine getItem_tup_back ht (Heap.IsSliceOf.new _ .none .none vs) ps (by rw [List.size_toArray, ← hlen]; exact hz) ?_
  refine ⟨.ref _, _, J.laid (t' := s4.toks) (o := .tup xs.reverse) (fun b ob q => Heap.get?_push_of_some _ q) (Nat.le_refl _) ?_, rfl, q _ (J.hok.fresh (Nat.le_refl _))⟩
  exact ⟨by rw [List.length_reverse]; exact hz, _, r.reverse, IsTup.new _ _⟩
end
end AW

namespace AW
open PySem PySem.Spec PyProof.Rows L2

/-! ### a reading told by a function of the store -/
def AftM {α β : Type} (K : PySem.W.Frag) (R : Wd → α → β → Prop) (w : Wd) (H : Hp) (r : M α) (Q : β → Hp → Prop) : Prop :=
  ∃ a S', r = some (a, S') ∧ ∀ b w' H', Ext w H w' H' → SimC K w' H' S' → R w' a b → Q b H'
def rdM {α β : Type} (K : PySem.W.Frag) (R : Wd → α → β → Prop) (m : Env → Sto → M α) (σ : L2.St) (H : Hp) (Q : β → Hp → Prop) : Prop :=
  ∃ w E S, SimC K w H S ∧ SimE K w σ E ∧ AftM K R w H (m E S) Q
abbrev SemE := Env → Sto → M D
abbrev SemT := Env → Sto → M Bool
abbrev SemA := Env → Sto → M (List D)
abbrev SemO := Env → Sto → M (Option Int)
def rdE (K : PySem.W.Frag) (m : SemE) : TE := rdM K (Rp K) m
def rdT (K : PySem.W.Frag) (m : SemT) : TT := rdM K (fun _ a b => a = b) m
def rdA (K : PySem.W.Frag) (m : SemA) : TA := rdM K (RpL K) m
def rdO (K : PySem.W.Frag) (m : SemO) : TO := rdM K (fun _ a b => a = b) m
abbrev OkE (X : Cx) (e : Expr) (m : SemE) : Prop := PE X e (rdE X.K m)
abbrev OkT (X : Cx) (e : Expr) (m : SemT) : Prop := PT X e (rdT X.K m)
abbrev OkW (X : Cx) (e : Expr) (m : SemT) : Prop := PW X e (rdT X.K m)
abbrev OkA (X : Cx) (es : List Expr) (m : SemA) : Prop := PA X es (rdA X.K m)
abbrev OkO (X : Cx) (e : Option Expr) (m : SemO) : Prop := PO X e (rdO X.K m)
section
variable {α β γ : Type} {K : PySem.W.Frag} {w w1 : Wd} {H H1 : Hp} {R : Wd → α → β → Prop} {r : M α} {Q : β → Hp → Prop}
theorem AftM.ext (x : Ext w H w1 H1) (q : AftM K R w H r Q) : AftM K R w1 H1 r Q := by
  obtain ⟨a, S', e, q⟩ := q
  exact ⟨a, S', e, fun b w' H' x' c r => q b w' H' (x.trans x') c r⟩
theorem aft_bind {s : M γ} {k : γ × Sto → M α} (q : AftM K R w H (s.bind k) Q) : ∃ a S1, s = some (a, S1) ∧ AftM K R w H (k (a, S1)) Q := by
  cases s with
  | none => obtain ⟨_, _, e, _⟩ := q; cases e
  | some p => exact ⟨p.1, p.2, rfl, q⟩
theorem aftM_none (q : AftM K R w H none Q) : False := by obtain ⟨_, _, e, _⟩ := q; cases e
theorem aft_of {Q : VK} {r : M D} (q : AftM K (Rp K) w H r Q) : Aft K w H r Q := q
end
theorem _root_.L2.PE.imp {X : Cx} {e : Expr} {t t' : TE} (h : PE X e t) (k : ∀ σ H Q, t' σ H Q → t σ H Q) : PE X e t' := ⟨fun pins s σ H Q I q => h.run pins s σ H Q I (k σ H Q q)⟩
theorem _root_.L2.PT.imp {X : Cx} {e : Expr} {t t' : TT} (h : PT X e t) (k : ∀ σ H Q, t' σ H Q → t σ H Q) : PT X e t' := ⟨fun pins s σ H Q I q => h.run pins s σ H Q I (k σ H Q q)⟩
theorem _root_.L2.PW.imp {X : Cx} {e : Expr} {t t' : TT} (h : PW X e t) (k : ∀ σ H Q, t' σ H Q → t σ H Q) : PW X e t' := ⟨fun wh pins s σ H Q I q => h.run wh pins s σ H Q I (k σ H Q q)⟩
theorem _root_.L2.PA.imp {X : Cx} {e : List Expr} {t t' : TA} (h : PA X e t) (k : ∀ σ H Q, t' σ H Q → t σ H Q) : PA X e t' := ⟨fun po pins s σ H Q I q => h.run po pins s σ H Q I (k σ H Q q)⟩
theorem _root_.L2.PO.imp {X : Cx} {e : Option Expr} {t t' : TO} (h : PO X e t) (k : ∀ σ H Q, t' σ H Q → t σ H Q) : PO X e t' := by
  obtain ⟨h⟩ := h
  constructor
  intros
  first
    | exact h _ _ _ _ _ (by assumption) (k _ _ _ (by assumption))
    | (apply h <;> first | assumption | exact k _ _ _ (by assumption))

/-! ### syntax -/
def plainE : Expr → Bool
  | .Constant (.int _) _ _ => true
  | .Constant (.bool _) _ _ => true
  | .Constant (.str _) _ _ => true
  | .Constant .none _ _ => true
  | .Name .. => true
  | .BinOp .. => true
  | .UnaryOp .. => true
  | .BoolOp .. => true
  | .Compare .. => true
  | .Call .. => true
  | .Subscript .. => true
  | .List .. => true
  | .Tuple .. => true
  | .IfExp .. => true
  | .ListComp .. => true
  | .Attribute .. => true
  | _ => false
def isLc : Expr → Bool
  | .ListComp .. => true
  | _ => false
theorem star_plain {e : Expr} {es : List Expr} {env : PySem.Env} (h : plainE e = true) : starEach (e :: es) env = (false, eval e env) :: starEach es env := by
  cases e <;> first | rfl | simp [plainE] at h
theorem ix_plain {b : Expr} (h : plainE b = true) : PlainIx b := by
  cases b <;> first | (intro o i; rfl) | simp [plainE] at h
/-- an expression whose test is its value's truth -/
def tstE : Expr → Bool
  | .Name .. => true
  | .Call .. => true
  | .Subscript .. => true
  | .List .. => true
  | .Attribute .. => true
  | .BinOp .. => true
  | _ => false
theorem tst_plain {e : Expr} {env : PySem.Env} (h : tstE e = true) : ∀ whole, isTrue e env whole = (do let v ← whole; standAt e.pos; holding [v] (truthy v)) := by
  cases e <;> first | (intro w; rfl) | simp [tstE] at h
/-- the base of an attribute -/
def baseE : Expr → Bool
  | .Name .. => true
  | .Subscript .. => true
  | .Attribute .. => true
  | .Constant (.str _) _ _ => true
  | _ => false
theorem base_plain {e : Expr} {f : Str} {env : PySem.Env} (h : baseE e = true) : attributeBase e f env (eval e env) = eval e env := by
  cases e <;> first | rfl | simp [baseE] at h
theorem fsi_plain {e : Expr} {env : PySem.Env} (h : plainE e = true) : ∀ x, foldedSetIterable e env x = pure x := by
  cases e <;> first | (intro x; rfl) | simp [plainE] at h
theorem sw_plain {e : Expr} {l : Nat} {env : PySem.Env} (h : plainE e = true) (h2 : isLc e = false) (t : Option Expr) : swapsWith e t l env = pure false := by
  cases e <;> first | rfl | (simp [plainE] at h; done) | (simp [isLc] at h2)
theorem any_plain {env : PySem.Env} {pos : Pos} : ∀ {es : List Expr}, es.all plainE = true → (backTo pos (starEach es env)).any (·.1) = false
  | [], _ => rfl
  | e :: es, h => by
    rw [List.all_cons, Bool.and_eq_true] at h
    rw [star_plain h.1]
    have := any_plain (env := env) (pos := pos) h.2
    simpa [backTo] using this

/-! ### expressions -/
def eC (d : D) : SemE := fun _ S => some (d, S)
def eVar (i : Nat) : SemE := fun E S => match E[i]? with | some (some d) => some (d, S) | _ => none
def eBin (f : Op2) (a b : SemE) : SemE := fun E S => (a E S).bind fun p => (b E p.2).bind fun q => f p.1 q.1 q.2
def eUn (f : Op1) (a : SemE) : SemE := fun E S => (a E S).bind fun p => f p.1 p.2
def aNil : SemA := fun _ S => some ([], S)
def aCons (a : SemE) (b : SemA) : SemA := fun E S => (a E S).bind fun p => (b E p.2).bind fun q => some (p.1 :: q.1, q.2)
def eArgs (f : OpN) (a : SemA) : SemE := fun E S => (a E S).bind fun p => f p.1 p.2
def fTup : OpN := fun ds S => if ds.length ≤ LIM then some (.tup ds, S) else none
def fLst (mk : Bool) : OpN := fun ds S => if ds.length ≤ LIM then newL mk ds S else none
def eIf (t : SemT) (a b : SemE) : SemE := fun E S => (t E S).bind fun p => if p.1 = true then a E p.2 else b E p.2
def eAnd (a b : SemE) : SemE := fun E S => (a E S).bind fun p => match truD p.2 p.1 with
  | some true => b E p.2
  | some false => some p
  | none => none
def eOr (a b : SemE) : SemE := fun E S => (a E S).bind fun p => match truD p.2 p.1 with
  | some true => some p
  | some false => b E p.2
  | none => none
def eNot (a : SemE) : SemE := fun E S => (a E S).bind fun p => match truD p.2 p.1 with
  | some k => some (.bl (!k), p.2)
  | none => none
def eChain (f g : Op2) (a b c : SemE) : SemE := fun E S => (a E S).bind fun p => (b E p.2).bind fun q => (f p.1 q.1 q.2).bind fun r => match r.1 with
  | .bl true => (c E r.2).bind fun s => g q.1 s.1 s.2
  | .bl false => some (.bl false, r.2)
  | _ => none
def eMeth (f : OpM) (o : SemE) (a : SemA) : SemE := fun E S => (o E S).bind fun p => (a E p.2).bind fun q => f p.1 q.1 q.2
def tVal (a : SemE) : SemT := fun E S => (a E S).bind fun p => match truD p.2 p.1 with
  | some k => some (k, p.2)
  | none => none
def tBl (a : SemE) : SemT := fun E S => (a E S).bind fun p => match p.1 with
  | .bl k => some (k, p.2)
  | _ => none
def tAnd (a b : SemT) : SemT := fun E S => (a E S).bind fun p => if p.1 = true then b E p.2 else some (false, p.2)
def tOr (a b : SemT) : SemT := fun E S => (a E S).bind fun p => if p.1 = true then some (true, p.2) else b E p.2
def tNot (a : SemT) : SemT := fun E S => (a E S).bind fun p => some (!p.1, p.2)
def oNone : SemO := fun _ S => some (none, S)
def oSome (a : SemE) : SemO := fun E S => (a E S).bind fun p => match p.1 with
  | .int i => some (some i, p.2)
  | _ => none
def eSl (f : OpSl) (a : SemE) (lo hi : SemO) : SemE := fun E S => (a E S).bind fun p => (lo E p.2).bind fun q => (hi E q.2).bind fun r => f p.1 q.1 r.1 r.2
def opRev (mk : Bool) : D → Sto → M D := fun d S => match d with
  | .tup ds => some (.tup ds.reverse, S)
  | d => match readS S d with
    | some ds => newL mk ds.reverse S
    | none => none
theorem opRev_no {mk : Bool} {x : D} {S : Sto} (h : ∀ ds, x ≠ .tup ds) : opRev mk x S = (match readS S x with | some ds => newL mk ds.reverse S | none => none) := by cases x <;> first | rfl | exact (h _ rfl).elim
def eRev (mk : Bool) (a : SemE) : SemE := fun E S => (a E S).bind fun p => opRev mk p.1 p.2
theorem _root_.L2.PE.or {X : Cx} {e : Expr} {t t' : TE} (h : PE X e t) (h' : PE X e t') : PE X e (fun σ H Q => t σ H Q ∨ t' σ H Q) :=
  ⟨fun pins s σ H Q I q => q.elim (fun q => h.run pins s σ H Q I q) fun q => h'.run pins s σ H Q I q⟩
section
variable {X : Cx} {a b c : Expr} {ma mb mc : SemE} {pos : Pos} {es : List Expr} {mA : SemA}
theorem okC {d : D} {v : V} (h : PE X a (tC v)) (r : ∀ w, Rp X.K w d v) : OkE X a (eC d) := h.imp fun σ H Q q => by
  obtain ⟨w, E, S, c, se, _, _, e, q⟩ := q
  cases e
  exact q v w H (Ext.refl _ _) c (r w)
theorem okVar {i : Nat} (h : PE X a (tVar i)) : OkE X a (eVar i) := h.imp fun σ H Q q => by
  obtain ⟨w, E, S, c, se, q⟩ := q
  obtain ⟨d, S', e, q⟩ := q
  unfold eVar at e
  split at e
  · rename_i d' hd
    cases e
    obtain ⟨v, h1, h2⟩ := se i d hd
    exact ⟨v, h1, q v w H (Ext.refl _ _) c h2⟩
  · cases e
theorem okBin {op : Operator} {f : Op2} (o : OkOp X (binaryOp op) f) (ha : OkE X a ma) (hb : OkE X b mb) : OkE X (.BinOp a op b pos) (eBin f ma mb) := by
  obtain ⟨r, o, h⟩ := o
  refine (pe_op o ha hb).imp fun σ H Q ⟨w, E, S, c, se, q⟩ => ?_
  obtain ⟨x, S1, e1, q⟩ := aft_bind q
  refine ⟨w, E, S, c, se, x, S1, e1, fun v w1 H1 x1 c1 r1 => ?_⟩
  obtain ⟨y, S2, e2, q⟩ := aft_bind q
  exact ⟨w1, E, S1, c1, se.mono x1.le, y, S2, e2, fun u w2 H2 x2 c2 r2 => h c2 (r1.mono x2.le) r2 (aft_of (q.ext (x1.trans x2)))⟩
theorem okCmp {op : CmpOp} {f : Op2} (o : OkOp X (compareOp op) f) (ha : OkE X a ma) (hb : OkE X b mb) (hm : behindInMarks op b = false) : OkE X (.Compare a [op] [b] pos) (eBin f ma mb) := by
  obtain ⟨r, o, h⟩ := o
  refine (pe_cmpR o ha hb hm).imp fun σ H Q ⟨w, E, S, c, se, q⟩ => ?_
  obtain ⟨x, S1, e1, q⟩ := aft_bind q
  refine ⟨w, E, S, c, se, x, S1, e1, fun v w1 H1 x1 c1 r1 => ?_⟩
  obtain ⟨y, S2, e2, q⟩ := aft_bind q
  exact ⟨w1, E, S1, c1, se.mono x1.le, y, S2, e2, fun u w2 H2 x2 c2 r2 => h c2 (r1.mono x2.le) r2 (aft_of (q.ext (x1.trans x2)))⟩
theorem rp_blT {K : PySem.W.Frag} {w : Wd} {d : D} {v : V} {k : Bool} (r : Rp K w d v) (e : d = .bl k) : v = .bl k := by subst e; exact rp_bl' r
/-- what a test of a value that is a bool asks -/
theorem tbl_of {K : PySem.W.Frag} {m : SemE} {te : TE} (h : ∀ σ H Q, rdE K m σ H Q → te σ H Q) : ∀ σ H Q, rdT K (tBl m) σ H Q → tTest te σ H Q := fun σ H Q ⟨w, E, S, c, se, q⟩ => by
  obtain ⟨x, S1, e1, k, S2, e2, q⟩ := aft_bind q
  refine h σ H _ ⟨w, E, S, c, se, x, S1, e1, fun v w1 H1 x1 c1 r1 => ?_⟩
  simp only at e2
  split at e2
  · cases e2
    exact ⟨_, rp_bl' r1, q _ _ _ x1 c1 rfl⟩
  · cases e2
theorem okCmpT {op : CmpOp} {f : Op2} (o : OkOp X (compareOp op) f) (ha : OkE X a ma) (hb : OkE X b mb) (hm : behindInMarks op b = false) : OkT X (.Compare a [op] [b] pos) (tBl (eBin f ma mb)) := by
  obtain ⟨r, o, h⟩ := o
  refine (pt_cmpR o ha hb hm).imp (tbl_of fun σ H Q ⟨w, E, S, c, se, q⟩ => ?_)
  obtain ⟨x, S1, e1, q⟩ := aft_bind q
  refine ⟨w, E, S, c, se, x, S1, e1, fun v w1 H1 x1 c1 r1 => ?_⟩
  obtain ⟨y, S2, e2, q⟩ := aft_bind q
  exact ⟨w1, E, S1, c1, se.mono x1.le, y, S2, e2, fun u w2 H2 x2 c2 r2 => h c2 (r1.mono x2.le) r2 (aft_of (q.ext (x1.trans x2)))⟩
theorem chain_rd {r r' : R2} {f g : Op2}
    (h : ∀ {w : Wd} {H : Hp} {S : Sto} {Q : VK} {d e : D} {x y : V}, SimC X.K w H S → Rp X.K w d x → Rp X.K w e y → Aft X.K w H (f d e S) Q → r x y H Q)
    (h' : ∀ {w : Wd} {H : Hp} {S : Sto} {Q : VK} {d e : D} {x y : V}, SimC X.K w H S → Rp X.K w d x → Rp X.K w e y → Aft X.K w H (g d e S) Q → r' x y H Q) :
    ∀ σ H Q, rdE X.K (eChain f g ma mb mc) σ H Q → tChain r r' (rdE X.K ma) (rdE X.K mb) (rdE X.K mc) σ H Q := fun σ H Q ⟨w, E, S, c, se, q⟩ => by
  obtain ⟨x, S1, e1, q⟩ := aft_bind q
  refine ⟨w, E, S, c, se, x, S1, e1, fun v w1 H1 x1 c1 r1 => ?_⟩
  obtain ⟨y, S2, e2, q⟩ := aft_bind q
  refine ⟨w1, E, S1, c1, se.mono x1.le, y, S2, e2, fun u w2 H2 x2 c2 r2 => ?_⟩
  obtain ⟨z, S3, e3, q⟩ := aft_bind q
  refine h c2 (r1.mono x2.le) r2 ⟨z, S3, e3, fun t w3 H3 x3 c3 r3 => ?_⟩
  have q := q.ext ((x1.trans x2).trans x3)
  simp only at q
  split at q
  · refine ⟨true, rp_bl' r3, ?_⟩
    rw [if_pos rfl]
    obtain ⟨t2, S4, e4, q⟩ := aft_bind q
    exact ⟨w3, E, S3, c3, se.mono ((x1.trans x2).trans x3).le, t2, S4, e4, fun u' w4 H4 x4 c4 r4 => h' c4 (r2.mono (x3.trans x4).le) r4 (aft_of (q.ext x4))⟩
  · refine ⟨false, rp_bl' r3, ?_⟩
    rw [if_neg (by decide)]
    exact aft_bl c3 (aft_of q)
  · exact (aftM_none q).elim
theorem okChain {op op' : CmpOp} {f g : Op2} (o : OkOp X (compareOp op) f) (o' : OkOp X (compareOp op') g) (ha : OkE X a ma) (hb : OkE X b mb) (hc : OkE X c mc) (hm : lastMarks [op, op'] [b, c] = false) :
    OkE X (.Compare a [op, op'] [b, c] pos) (eChain f g ma mb mc) := by
  obtain ⟨r, o, h⟩ := o
  obtain ⟨r', o', h'⟩ := o'
  exact (pe_chain o o' ha hb hc hm).imp (chain_rd h h')
theorem okChainT {op op' : CmpOp} {f g : Op2} (o : OkOp X (compareOp op) f) (o' : OkOp X (compareOp op') g) (ha : OkE X a ma) (hb : OkE X b mb) (hc : OkE X c mc) (hm : lastMarks [op, op'] [b, c] = false) :
    OkT X (.Compare a [op, op'] [b, c] pos) (tBl (eChain f g ma mb mc)) := by
  obtain ⟨r, o, h⟩ := o
  obtain ⟨r', o', h'⟩ := o'
  exact (pt_chain o o' ha hb hc hm).imp (tbl_of (chain_rd h h'))
theorem okUn {op : UnaryOp} {f : Op1} (o : OkUn X (unaryOp op) f) (ha : OkE X a ma) : OkE X (.UnaryOp op a pos) (eUn f ma) := by
  obtain ⟨r, o, h⟩ := o
  refine (pe_un o ha).imp fun σ H Q ⟨w, E, S, c, se, q⟩ => ?_
  obtain ⟨x, S1, e1, q⟩ := aft_bind q
  exact ⟨w, E, S, c, se, x, S1, e1, fun v w1 H1 x1 c1 r1 => h c1 r1 (aft_of (q.ext x1))⟩
theorem okNil : OkA X [] aNil := pa_nil.imp fun σ H Q ⟨w, E, S, c, se, _, _, e, q⟩ => by
  cases e
  exact q [] w H (Ext.refl _ _) c .nil
theorem okCons (ha : OkE X a ma) (hr : OkA X es mA) (hp : plainE a = true) : OkA X (a :: es) (aCons ma mA) := by
  refine (pa_cons ha hr (star_plain hp)).imp fun σ H Q ⟨w, E, S, c, se, q⟩ => ?_
  obtain ⟨x, S1, e1, q⟩ := aft_bind q
  refine ⟨w, E, S, c, se, x, S1, e1, fun v w1 H1 x1 c1 r1 => ?_⟩
  obtain ⟨y, S2, e2, q⟩ := aft_bind q
  refine ⟨w1, E, S1, c1, se.mono x1.le, y, S2, e2, fun u w2 H2 x2 c2 r2 => ?_⟩
  obtain ⟨_, _, e, q⟩ := q
  cases e
  exact q _ w2 H2 (x1.trans x2) c2 (.cons (r1.mono x2.le) r2)
theorem okTup {k : Nat} (h : OkA X es mA) : OkE X (.Tuple es k pos) (eArgs fTup mA) := by
  refine (pe_tup h).imp fun σ H Q ⟨w, E, S, c, se, q⟩ => ?_
  obtain ⟨x, S1, e1, q⟩ := aft_bind q
  refine ⟨w, E, S, c, se, x, S1, e1, fun v w1 H1 x1 c1 r1 => ?_⟩
  have q := q.ext x1
  unfold fTup at q
  by_cases hl : x.length ≤ LIM
  · rw [if_pos hl] at q
    exact ⟨by rw [← r1.len]; exact lim_le hl, aft_tup c1 r1 (aft_of q)⟩
  · rw [if_neg hl] at q; exact (aftM_none q).elim
theorem okLst {mk : Bool} (h : OkA X es mA) : OkE X (.List es pos) (eArgs (fLst mk) mA) := by
  refine (pe_lst h).imp fun σ H Q ⟨w, E, S, c, se, q⟩ => ?_
  obtain ⟨x, S1, e1, q⟩ := aft_bind q
  refine ⟨w, E, S, c, se, x, S1, e1, fun v w1 H1 x1 c1 r1 => ?_⟩
  have q := q.ext x1
  unfold fLst at q
  by_cases hl : x.length ≤ LIM
  · rw [if_pos hl] at q
    exact ⟨by rw [← r1.len]; exact lim_le hl, aft_new c1 r1 (aft_of q)⟩
  · rw [if_neg hl] at q; exact (aftM_none q).elim
theorem okIf {t : Expr} {mt : SemT} (ht : OkT X t mt) (ha : OkE X a ma) (hb : OkE X b mb) : OkE X (.IfExp t a b pos) (eIf mt ma mb) := by
  refine (pe_ifExp ht ha hb).imp fun σ H Q ⟨w, E, S, c, se, q⟩ => ?_
  obtain ⟨k, S1, e1, q⟩ := aft_bind q
  refine ⟨w, E, S, c, se, k, S1, e1, fun k' w1 H1 x1 c1 r1 => ?_⟩
  subst r1
  have q := q.ext x1
  cases k with
  | true => rw [if_pos rfl] at q ⊢; exact ⟨w1, E, S1, c1, se.mono x1.le, q⟩
  | false => rw [if_neg Bool.false_ne_true] at q ⊢; exact ⟨w1, E, S1, c1, se.mono x1.le, q⟩
theorem okAndV {rest : List Expr} (ha : OkE X a ma) (hb : OkE X (.BoolOp .And (b :: rest) pos) mb) : OkE X (.BoolOp .And (a :: b :: rest) pos) (eAnd ma mb) := by
  refine (pe_andT ha hb).imp fun σ H Q ⟨w, E, S, c, se, q⟩ => ?_
  obtain ⟨x, S1, e1, q⟩ := aft_bind q
  refine ⟨w, E, S, c, se, x, S1, e1, fun v w1 H1 x1 c1 r1 => ?_⟩
  have q := q.ext x1
  simp only at q
  split at q
  · rename_i h
    exact ⟨true, tru_okD c1 r1 h, by rw [if_pos rfl]; exact ⟨w1, E, S1, c1, se.mono x1.le, q⟩⟩
  · rename_i h
    exact ⟨false, tru_okD c1 r1 h, by rw [if_neg (by decide)]; exact aft_pure c1 r1 (aft_of q)⟩
  · exact (aftM_none q).elim
theorem okOrV {rest : List Expr} (ha : OkE X a ma) (hb : OkE X (.BoolOp .Or (b :: rest) pos) mb) : OkE X (.BoolOp .Or (a :: b :: rest) pos) (eOr ma mb) := by
  refine (pe_orT ha hb).imp fun σ H Q ⟨w, E, S, c, se, q⟩ => ?_
  obtain ⟨x, S1, e1, q⟩ := aft_bind q
  refine ⟨w, E, S, c, se, x, S1, e1, fun v w1 H1 x1 c1 r1 => ?_⟩
  have q := q.ext x1
  simp only at q
  split at q
  · rename_i h
    exact ⟨true, tru_okD c1 r1 h, by rw [if_pos rfl]; exact aft_pure c1 r1 (aft_of q)⟩
  · rename_i h
    exact ⟨false, tru_okD c1 r1 h, by rw [if_neg (by decide)]; exact ⟨w1, E, S1, c1, se.mono x1.le, q⟩⟩
  · exact (aftM_none q).elim
theorem okOneV {op : PySem.BoolOp} (ha : OkE X a ma) : OkE X (.BoolOp op [a] pos) ma := pe_one ha
theorem okNotV (ha : OkE X a ma) : OkE X (.UnaryOp .Not a pos) (eNot ma) := by
  refine (pe_notT ha).imp fun σ H Q ⟨w, E, S, c, se, q⟩ => ?_
  obtain ⟨x, S1, e1, q⟩ := aft_bind q
  refine ⟨w, E, S, c, se, x, S1, e1, fun v w1 H1 x1 c1 r1 => ?_⟩
  have q := q.ext x1
  simp only at q
  split at q
  · rename_i k h
    exact ⟨k, tru_okD c1 r1 h, aft_bl c1 (aft_of q)⟩
  · exact (aftM_none q).elim
/-! tests -/
theorem okTruth (ha : OkE X a ma) (he : tstE a = true) : OkT X a (tVal ma) := by
  refine (pt_truth ha (tst_plain he)).imp fun σ H Q ⟨w, E, S, c, se, q⟩ => ?_
  obtain ⟨x, S1, e1, q⟩ := aft_bind q
  refine ⟨w, E, S, c, se, x, S1, e1, fun v w1 H1 x1 c1 r1 => ?_⟩
  have q := q.ext x1
  simp only at q
  split at q
  · rename_i k h
    obtain ⟨_, _, e, q⟩ := q
    cases e
    exact ⟨k, tru_okD c1 r1 h, q k w1 H1 (Ext.refl _ _) c1 rfl⟩
  · exact (aftM_none q).elim
variable {mt mu : SemT}
theorem okW1 {op : PySem.BoolOp} (ha : OkT X a mt) : OkW X (.BoolOp op [a] pos) mt := by
  cases op with
  | And => exact pw_and1 ha
  | Or => exact pw_or1 ha
theorem okWAnd {rest : List Expr} (ha : OkT X a mt) (hb : OkW X (.BoolOp .And (b :: rest) pos) mu) : OkW X (.BoolOp .And (a :: b :: rest) pos) (tAnd mt mu) := by
  refine (pw_and ha hb).imp fun σ H Q ⟨w, E, S, c, se, q⟩ => ?_
  obtain ⟨k, S1, e1, q⟩ := aft_bind q
  refine ⟨w, E, S, c, se, k, S1, e1, fun k' w1 H1 x1 c1 r1 => ?_⟩
  subst r1
  have q := q.ext x1
  cases k with
  | true => rw [if_pos rfl] at q ⊢; exact ⟨w1, E, S1, c1, se.mono x1.le, q⟩
  | false =>
    rw [if_neg Bool.false_ne_true] at q ⊢
    obtain ⟨_, _, e, q⟩ := q
    cases e
    exact q _ w1 H1 (Ext.refl _ _) c1 rfl
theorem okWOr {rest : List Expr} (ha : OkT X a mt) (hb : OkW X (.BoolOp .Or (b :: rest) pos) mu) : OkW X (.BoolOp .Or (a :: b :: rest) pos) (tOr mt mu) := by
  refine (pw_or ha hb).imp fun σ H Q ⟨w, E, S, c, se, q⟩ => ?_
  obtain ⟨k, S1, e1, q⟩ := aft_bind q
  refine ⟨w, E, S, c, se, k, S1, e1, fun k' w1 H1 x1 c1 r1 => ?_⟩
  subst r1
  have q := q.ext x1
  cases k with
  | false => rw [if_neg Bool.false_ne_true] at q ⊢; exact ⟨w1, E, S1, c1, se.mono x1.le, q⟩
  | true =>
    rw [if_pos rfl] at q ⊢
    obtain ⟨_, _, e, q⟩ := q
    cases e
    exact q _ w1 H1 (Ext.refl _ _) c1 rfl
theorem okTNot (ha : OkT X a mt) : OkT X (.UnaryOp .Not a pos) (tNot mt) := by
  refine (pt_not ha).imp fun σ H Q ⟨w, E, S, c, se, q⟩ => ?_
  obtain ⟨k, S1, e1, q⟩ := aft_bind q
  refine ⟨w, E, S, c, se, k, S1, e1, fun k' w1 H1 x1 c1 r1 => ?_⟩
  subst r1
  obtain ⟨_, _, e, q⟩ := q
  cases e
  exact q _ w1 H1 x1 c1 rfl
/-! subscripts, slices -/
theorem okIxE {f : Op2} (o : OkIx X f) (ha : OkE X a ma) (hb : OkE X b mb) (hp : plainE b = true) : OkE X (.Subscript a b pos) (eBin f ma mb) := by
  obtain ⟨r, o, h⟩ := o
  refine (pe_ix o ha hb (ix_plain hp)).imp fun σ H Q ⟨w, E, S, c, se, q⟩ => ?_
  obtain ⟨x, S1, e1, q⟩ := aft_bind q
  refine ⟨w, E, S, c, se, x, S1, e1, fun v w1 H1 x1 c1 r1 => ?_⟩
  obtain ⟨y, S2, e2, q⟩ := aft_bind q
  exact ⟨w1, E, S1, c1, se.mono x1.le, y, S2, e2, fun u w2 H2 x2 c2 r2 => h c2 (r1.mono x2.le) r2 (aft_of (q.ext (x1.trans x2)))⟩
theorem okONone : OkO X none oNone := po_none.imp fun σ H Q ⟨w, E, S, c, se, _, _, e, q⟩ => by
  cases e
  exact q none w H (Ext.refl _ _) c rfl
theorem okOSome (ha : OkE X a ma) : OkO X (some a) (oSome ma) := (po_some ha).imp fun σ H Q ⟨w, E, S, c, se, q⟩ => by
  obtain ⟨x, S1, e1, q⟩ := aft_bind q
  refine ⟨w, E, S, c, se, x, S1, e1, fun v w1 H1 x1 c1 r1 => ?_⟩
  simp only at q
  split at q
  · obtain ⟨_, _, e, q⟩ := q
    cases e
    exact ⟨_, rp_int' r1, q _ w1 H1 x1 c1 rfl⟩
  · exact (aftM_none q).elim
theorem okSlE {f : OpSl} {lo hi : Option Expr} {ml mh : SemO} {p2 : Pos} (o : OkSl X f) (ha : OkE X a ma) (hl : OkO X lo ml) (hh : OkO X hi mh) : OkE X (.Subscript a (.Slice lo hi none p2) pos) (eSl f ma ml mh) := by
  obtain ⟨r, o, h⟩ := o
  refine (pe_slice o ha hl hh).imp fun σ H Q ⟨w, E, S, c, se, q⟩ => ?_
  obtain ⟨x, S1, e1, q⟩ := aft_bind q
  refine ⟨w, E, S, c, se, x, S1, e1, fun v w1 H1 x1 c1 r1 => ?_⟩
  obtain ⟨l, S2, e2, q⟩ := aft_bind q
  refine ⟨w1, E, S1, c1, se.mono x1.le, l, S2, e2, fun l' w2 H2 x2 c2 r2 => ?_⟩
  subst r2
  obtain ⟨u, S3, e3, q⟩ := aft_bind q
  refine ⟨w2, E, S2, c2, se.mono (x1.trans x2).le, u, S3, e3, fun u' w3 H3 x3 c3 r3 => ?_⟩
  subst r3
  exact h c3 (r1.mono (x2.trans x3).le) (aft_of (q.ext ((x1.trans x2).trans x3)))
theorem okRevE {mk : Bool} {k : Nat} {p1 p2 p3 : Pos} (ha : OkE X a ma) : OkE X (.Subscript a (.Slice none none (some (.UnaryOp .USub (.Constant (.int 1) k p1) p2)) p3) pos) (eRev mk ma) := by
  refine ((pe_revL ha).or (pe_revT ha)).imp fun σ H Q ⟨w, E, S, c, se, q⟩ => ?_
  obtain ⟨x, S1, e1, q⟩ := aft_bind q
  by_cases hx : ∃ ds, x = .tup ds
  · obtain ⟨ds, rfl⟩ := hx
    refine .inr ⟨w, E, S, c, se, _, S1, e1, fun v w1 H1 x1 c1 r1 => ?_⟩
    obtain ⟨a, xs, rfl, h1, _, h3⟩ := tup_ok c1 r1
    exact ⟨a, xs, rfl, h1, fun p hp => aft_tup c1 h3.reverse (aft_of (q.ext x1)) p hp⟩
  · rw [opRev_no fun ds h => hx ⟨ds, h⟩] at q
    refine .inl ⟨w, E, S, c, se, x, S1, e1, fun v w1 H1 x1 c1 r1 => ?_⟩
    simp only at q
    split at q
    · rename_i ds hd
      obtain ⟨a, xs, rfl, h1, h3⟩ := readS_ok c1 hd r1
      exact ⟨a, xs, rfl, h1, fun p hp => aft_new c1 h3.reverse (aft_of (q.ext x1)) p hp⟩
    · exact (aftM_none q).elim
/-! calls of built-ins, methods -/
theorem rd_args {f : OpN} {r : List V → Hp → VK → Prop} (h : ∀ {w : Wd} {H : Hp} {S : Sto} {Q : VK} {ds : List D} {vs : List V}, SimC X.K w H S → RpL X.K w ds vs → Aft X.K w H (f ds S) Q → r vs H Q) :
    ∀ σ H Q, rdE X.K (eArgs f mA) σ H Q → tCB r (rdA X.K mA) σ H Q := fun σ H Q ⟨w, E, S, c, se, q⟩ => by
  obtain ⟨x, S1, e1, q⟩ := aft_bind q
  exact ⟨w, E, S, c, se, x, S1, e1, fun v w1 H1 x1 c1 r1 => h c1 r1 (aft_of (q.ext x1))⟩
theorem okCallB {x : Str} {p : Pos} {id : String} {f : OpN} (o : OkCall X (.builtin id) f) (hg : Gl X x) (hm : X.mg x = none) (hv : bootBuiltins x = some (.builtin id)) (ha : OkA X (a :: es) mA) (hp : plainE a = true) (hps : es.all plainE = true)
    (hn : x ≠ "__name__") (hdb : (x == ("__debug__" : Str)) = false) : OkE X (.Call (.Name x p) (a :: es) [] pos) (eArgs f mA) := by
  obtain ⟨r, o, h⟩ := o
  exact (pe_callB o hg hm hv ha hn hdb (star_plain hp) (any_plain hps)).imp (rd_args h)
theorem okCallTy {x : Str} {p : Pos} {T : String} {f : OpN} (o : OkCall X (.type T) f) (hg : Gl X x) (hm : X.mg x = none) (hv : bootBuiltins x = some (.type T)) (ha : OkA X (a :: es) mA) (hp : plainE a = true) (hps : es.all plainE = true)
    (hn : x ≠ "__name__") (hdb : (x == ("__debug__" : Str)) = false) : OkE X (.Call (.Name x p) (a :: es) [] pos) (eArgs f mA) := by
  obtain ⟨r, o, h⟩ := o
  exact (pe_callTy o hg hm hv ha hn hdb (star_plain hp) (any_plain hps)).imp (rd_args h)
end
end AW

namespace AW
open PySem PySem.Spec PyProof.Rows L2

/-! ### sets of keys of any kind: made of a list or tuple, sorted -/
section
variable {P : Program} {w : World} {κ : Type} [DecidableEq κ] {knd : PySem.KeyKind P w κ}
/-- these elements hold these keys, one each -/
inductive Held (knd : PySem.KeyKind P w κ) : List κ → List (Int × Value) → Prop
  | nil : Held knd [] []
  | cons {k : κ} {e : Int × Value} {ks : List κ} {es : List (Int × Value)} (a : knd.is k e.2 = true) (b : e.1 = knd.hash k) (c : e.2.scannable = true) (t : Held knd ks es) : Held knd (k :: ks) (e :: es)
theorem Held.len {ks : List κ} {es : List (Int × Value)} (h : Held knd ks es) : ks.length = es.length := by
  induction h with
  | nil => rfl
  | cons _ _ _ _ ih => simp [ih]
theorem Held.elems {ks : List κ} {es : List (Int × Value)} (h : Held knd ks es) : ElemsOf knd es := by
  induction h with
  | nil => intro e he; cases he
  | cons a b c _ ih =>
    intro e he
    rcases List.mem_cons.mp he with rfl | he
    · exact ⟨⟨_, a, b⟩, c⟩
    · exact ih e he
theorem Held.mem {ks : List κ} {es : List (Int × Value)} (h : Held knd ks es) (k : κ) : k ∈ ks ↔ ∃ e ∈ es, knd.is k e.2 = true := by
  induction h with
  | nil => simp
  | @cons k0 e0 ks0 es0 a b c _ ih =>
    rw [List.mem_cons, ih]
    constructor
    · rintro (rfl | ⟨e, he, q⟩)
      · exact ⟨e0, List.mem_cons_self, a⟩
      · exact ⟨e, List.mem_cons_of_mem _ he, q⟩
    · rintro ⟨e, he, q⟩
      rcases List.mem_cons.mp he with rfl | he
      · exact .inl (knd.inj _ _ _ q a)
      · exact .inr ⟨e, he, q⟩
theorem Held.perm {es es' : List (Int × Value)} (p : es.Perm es') : ∀ {ks : List κ}, Held knd ks es → ∃ ks', Held knd ks' es' ∧ ks'.Perm ks := by
  induction p with
  | nil => intro ks h; exact ⟨ks, h, .refl _⟩
  | cons x _ ih =>
    intro ks h
    cases h with
    | cons a b c t =>
      obtain ⟨ks', h', q⟩ := ih t
      exact ⟨_, .cons a b c h', q.cons _⟩
  | swap x y l =>
    intro ks h
    cases h with
    | cons a b c t =>
      cases t with
      | cons a' b' c' t' => exact ⟨_, .cons a' b' c' (.cons a b c t'), .swap _ _ _⟩
  | trans _ _ ih1 ih2 =>
    intro ks h
    obtain ⟨k1, h1, q1⟩ := ih1 h
    obtain ⟨k2, h2, q2⟩ := ih2 h1
    exact ⟨k2, h2, q2.trans q1⟩
/-- a set at a that holds the keys ks -/
def SetG (knd : PySem.KeyKind P w κ) (h : Heap) (a : Addr) (ks : List κ) : Prop :=
  ∃ ob es ep tb, h.get? a = some ob ∧ ob.ExactSet ∧ ob.data = .set es ep tb ∧ Held knd ks es.toList ∧ ks.Nodup ∧ es.size < scanBound ∧ tb.fits es.size = true ∧ Ris tb.place.toList ∧ (w.params.followText "set-order" = true ∨ tb.led = true)
theorem SetG.keep {h h' : Heap} {a : Addr} {ks : List κ} (G : SetG knd h a ks) (m : ∀ o, h.get? a = some o → h'.get? a = some o) : SetG knd h' a ks := by
  obtain ⟨ob, es, ep, tb, ho, rest⟩ := G
  exact ⟨ob, es, ep, tb, m ob ho, rest⟩
section
variable {A : Around} {E : Value → Shared → Prop} {s : Shared} {a : Addr}
theorem setG_store {g : Bool → Sem Unit} (quiet : ∀ (b : Bool) (s₁ : Shared) (Q' : Unit → Shared → Prop), Q' () s₁ → wpAny (model P w) A (g b) Q' E s₁) {ob : Obj} {es : Array (Int × Value)} {ep : Nat} {tb : SetTable}
    (at0 : s.heap.get? a = some ob) (exact0 : ob.ExactSet) (data0 : ob.data = .set es ep tb) {es1 : Array (Int × Value)} {tb1 : SetTable} {ks1 : List κ} (held1 : Held knd ks1 es1.toList) (nd1 : ks1.Nodup) (small : es1.size < scanBound) (fits1 : tb1.fits es1.size = true)
    (ris1 : Ris tb1.place.toList) (led1 : w.params.followText "set-order" = true ∨ tb1.led = true) {was : Bool} {R : Option Bool → Shared → Prop} (fin : ∀ h' ks2, ks2.Perm ks1 → Heap.SameBut a s.heap h' → SetG knd h' a ks2 → R (some true) { s with heap := h' }) :
    wpAny (model P w) A (do
        storeSet a es1 tb1
        if (!was && tb1.tooFull) = true then do
            g (relayAll tb1 es1 (SetTable.grown es1.size)).2.2
            storeSet a (relayAll tb1 es1 (SetTable.grown es1.size)).1 (relayAll tb1 es1 (SetTable.grown es1.size)).2.1
            pure (some true)
          else pure (some true)) R E s := by
  refine wpAny_bind (wpAny_storeSet_of at0 data0 ?_ (fits_of_scanBound small))
  have at1 := store_at (es' := es1) (t' := tb1) at0 data0
  have same1 := Heap.SameBut.update s.heap a (Obj.putSet es1 tb1)
  split
  · have pm := relayAll_perm tb1 es1 (SetTable.grown es1.size)
    have fits2 := relayAll_fits tb1 es1 (SetTable.grown es1.size)
    have ris2 := relayAll_ris tb1 es1 (SetTable.grown es1.size)
    have led2 := relayAll_led tb1 es1 (SetTable.grown es1.size)
    generalize relayAll tb1 es1 (SetTable.grown es1.size) = z at pm fits2 ris2 led2 ⊢
    obtain ⟨es2, tb2, gave⟩ := z
    dsimp only at pm fits2 ris2 led2 ⊢
    have size2 : es2.size = es1.size := by rw [← Array.length_toList, pm.length_eq, Array.length_toList]
    have small2 : es2.size < scanBound := by rw [size2]; exact small
    obtain ⟨ks2, held2, pk⟩ := held1.perm pm.symm
    refine wpAny_bind (quiet _ _ _ ?_)
    refine wpAny_bind (wpAny_storeSet_of at1 rfl ?_ (fits_of_scanBound small2))
    have at2 := store_at (es' := es2) (t' := tb2) at1 rfl
    exact wpAny_pure (fin _ ks2 pk (same1.trans (Heap.SameBut.update _ a _)) ⟨_, es2, _, tb2, at2, exact0, rfl, held2, pk.nodup_iff.mpr nd1, small2, fits2, ris2, led1.imp id fun q => by rw [led2]; exact q⟩)
  · exact wpAny_pure (fin _ ks1 (.refl _) same1 ⟨_, es1, _, tb1, at1, exact0, rfl, held1, nd1, small, fits1, ris1, led1⟩)
theorem setG_add {k : κ} {x : Value} {ks : List κ} {Q : Bool → Shared → Prop} (hk : knd.is k x = true) (hx : x.scannable = true) (G : SetG knd s.heap a ks) (room : ks.length + 1 < scanBound)
    (fin : ∀ (h' : Heap) (ks' : List κ) (b : Bool), Heap.SameBut a s.heap h' → SetG knd h' a ks' → (∀ j, j ∈ ks' ↔ j ∈ ks ∨ j = k) → ks'.length ≤ ks.length + 1 → Q b { s with heap := h' }) :
    wpAny (model P w) A (setAddHashed a x (knd.hash k)) Q E s := by
  obtain ⟨ob, es, ep, tb, at0, exact0, data0, held0, nd0, small0, fits0, ris0, led0⟩ := G
  have elems0 := held0.elems
  unfold setAddHashed setAddHashedIn
  refine wpAny_holding (wpAny_bind (wpAny_setState_of at0 data0 fits0 ?_))
  dsimp only
  rw [byScan_of hx small0 elems0]
  simp only [↓reduceIte]
  unfold setAddByScan
  refine wpAny_bind ?_
  refine wpAny_bind (wpAny_rule ?_)
  refine wpAny_bind (wpAny_setScan_of hk at0 data0 fits0 elems0 ?_)
  cases found : List.findIdx? (fun e => knd.is k e.2) es.toList with
  | some j =>
    dsimp only
    obtain ⟨hj, pj, _⟩ := List.findIdx?_eq_some_iff_getElem.mp found
    have hin : k ∈ ks := (held0.mem k).2 ⟨es.toList[j], List.getElem_mem hj, pj⟩
    exact wpAny_pure (wpAny_pure (fin s.heap ks _ (Heap.SameBut.refl a s.heap) ⟨ob, es, ep, tb, at0, exact0, data0, held0, nd0, small0, fits0, ris0, led0⟩ (fun i => ⟨.inl, fun q => q.elim id fun e => e ▸ hin⟩) (Nat.le_succ _)))
  | none =>
    dsimp only
    have hout : k ∉ ks := fun q => by
      obtain ⟨e, he, p⟩ := (held0.mem k).1 q
      have c := List.findIdx?_eq_none_iff.mp found e he
      rw [p] at c
      cases c
    have quiet : ∀ (b : Bool) {s₁ : Shared} {Q' : Unit → Shared → Prop}, Q' () s₁ → wpAny (model P w) A (match b with | true => rule "set.scan.the-table-gave-way" | false => pure ()) Q' E s₁ :=
      fun b s₁ Q' q => by cases b <;> first | exact wpAny_pure q | exact wpAny_rule q
    have pm := layNew_perm tb es (knd.hash k) x
    have fits1 := layNew_fits tb es (knd.hash k) x
    have ris1 := layNew_ris tb es (knd.hash k) x ris0
    have led1 := layNew_led tb es (knd.hash k) x
    generalize layNew tb es (knd.hash k) x = z at pm fits1 ris1 led1 ⊢
    obtain ⟨es1, tb1, was, gave⟩ := z
    dsimp only at pm fits1 ris1 led1 ⊢
    rw [Array.toList_push] at pm
    have pc : es1.toList.Perm ((knd.hash k, x) :: es.toList) := pm.trans (List.perm_append_singleton _ _)
    obtain ⟨ks1, held1, pk⟩ := (Held.cons (k := k) (e := (knd.hash k, x)) hk rfl hx held0).perm pc.symm
    have nd1 : ks1.Nodup := pk.nodup_iff.mpr (List.nodup_cons.mpr ⟨hout, nd0⟩)
    have len1 : ks1.length = ks.length + 1 := by rw [pk.length_eq, List.length_cons]
    have size1 : es1.size < scanBound := by rw [← Array.length_toList, ← held1.len, len1]; exact room
    have led1' : w.params.followText "set-order" = true ∨ tb1.led = true := led0.imp id fun q => by rw [led1]; exact q
    have done : ∀ h' ks2, ks2.Perm ks1 → Heap.SameBut a s.heap h' → SetG knd h' a ks2 → Q true { s with heap := h' } := fun h' ks2 p2 sb G2 => fin h' ks2 true sb G2 (fun j => by rw [(p2.trans pk).mem_iff, List.mem_cons]; exact Or.comm) (by rw [p2.length_eq, len1]; exact Nat.le_refl _)
    refine wpAny_bind (quiet _ ?_)
    split
    · refine wpAny_bind ?_
      rw [hashByValue_scannable 8 hx]
      refine wpAny_pure ?_
      refine setG_store ?_ at0 exact0 data0 held1 nd1 size1 ?_ ?_ ?_ ?_
      · intro b s₁ Q' q; cases b <;> first | exact wpAny_pure q | exact wpAny_rule q
      · first | (split <;> first | exact fits1 | exact SetTable.fits_plain_off fits1) | exact fits1
      · first | (split <;> exact ris1) | exact ris1
      · first | (split <;> exact led1') | exact led1'
      · intro h' ks2 p2 sb G2; dsimp only; exact wpAny_pure (done h' ks2 p2 sb G2)
    · refine wpAny_bind (wpAny_pure ?_)
      simp only [↓reduceIte]
      refine setG_store ?_ at0 exact0 data0 held1 nd1 size1 fits1 ris1 led1' ?_
      · intro b s₁ Q' q; cases b <;> first | exact wpAny_pure q | exact wpAny_rule q
      · intro h' ks2 p2 sb G2; dsimp only; exact wpAny_pure (done h' ks2 p2 sb G2)
/-- what stands at each place -/
inductive KeysAre (knd : PySem.KeyKind P w κ) : List κ → List Value → Prop
  | nil : KeysAre knd [] []
  | cons {k : κ} {v : Value} {ks : List κ} {vs : List Value} (a : knd.is k v = true) (c : v.scannable = true) (t : KeysAre knd ks vs) : KeysAre knd (k :: ks) (v :: vs)
theorem KeysAre.len {ks : List κ} {vs : List Value} (h : KeysAre knd ks vs) : ks.length = vs.length := by
  induction h with
  | nil => rfl
  | cons _ _ _ ih => simp [ih]
theorem KeysAre.get {ks : List κ} {vs : List Value} (h : KeysAre knd ks vs) : ∀ {i : Nat} {v : Value}, vs[i]? = some v → ∃ k, ks[i]? = some k ∧ knd.is k v = true ∧ v.scannable = true := by
  induction h with
  | nil => intro i v e; simp at e
  | @cons k v0 ks vs a c t ih =>
    intro i v e
    cases i with
    | zero => simp at e; subst e; exact ⟨k, rfl, a, c⟩
    | succ i => simp at e; obtain ⟨k', h1, h2⟩ := ih e; exact ⟨k', by simpa using h1, h2⟩
theorem setG_loop {it : Addr} {foot wrote : List Addr} {G : Array GenState → Array GenState → Prop} {n : Nat} {Pv : Nat → Value → Prop} {St : Nat → Shared → Prop} {R : Result → Shared → Prop}
    (wk : WalksS P w A.in1 it foot wrote G n Pv St) (S : Addr) (off : S ∉ foot) (ns : List κ) (hn : n = ns.length) (room : ns.length + 1 < scanBound) (val : ∀ i v, Pv i v → ∃ k, ns[i]? = some k ∧ knd.is k v = true ∧ v.scannable = true) :
    ∀ (left i : Nat) (s : Shared), n - i = left → i ≤ n → St i s → (∃ ks : List κ, ks.length ≤ i ∧ SetG knd s.heap S ks ∧ ∀ j, j ∈ ks ↔ j ∈ ns.take i) →
      (∀ s' (ks : List κ), Moved (S :: wrote) G s s' → ks.length ≤ n → SetG knd s'.heap S ks → (∀ j, j ∈ ks ↔ j ∈ ns) → R (.ok (.ret .none)) s') →
      codeAny (model P w) A (.builtin "set.update.loop" ⟨[.ref S, .ref it], []⟩) R s := by
  have Sw : S ∉ wrote := fun h => off (wk.sub _ h)
  have sub : ∀ b ∈ wrote, b ∈ S :: wrote := fun b hb => List.mem_cons_of_mem _ hb
  intro left
  induction left with
  | zero =>
    intro i s hl hi st ⟨ks, h1, h2, h3⟩ fin
    obtain rfl : i = n := by omega
    refine codeAny_builtin F.entry_set_update_loop ?_
    rw [Around.under_plainId F.plain_set_update_loop _]
    show wpAny _ A.in1 (pyNext (.ref it) >>= _) _ _ s
    refine wpAny_bind (wk.done s _ _ st fun s' mv => ?_)
    show wpAny _ A.in1 (ret Value.none) _ _ s'
    rw [List.take_of_length_le (by omega)] at h3
    exact wpAny_pure (fin s' ks (mv.mono sub) h1 (h2.keep fun o e => mv.heap S o Sw e) h3)
  | succ left ih =>
    intro i s hl hi st ⟨ks, h1, h2, h3⟩ fin
    have lt : i < n := by omega
    refine codeAny_builtin F.entry_set_update_loop ?_
    rw [Around.under_plainId F.plain_set_update_loop _]
    show wpAny _ A.in1 (pyNext (.ref it) >>= _) _ _ s
    refine wpAny_bind (wk.item i s _ _ lt st fun v s' hP st' mv => ?_)
    obtain ⟨z, hz, is, sc⟩ := val i v hP
    have G' : SetG knd s'.heap S ks := h2.keep fun o e => mv.heap S o Sw e
    show wpAny _ A.in1 (holding [v] (setAdd S v) >>= _) _ _ s'
    refine wpAny_bind (wpAny_holding ?_)
    unfold setAdd
    refine wpAny_holding (wpAny_bind (knd.pyHash is ?_))
    refine setG_add (s := { s' with toks := s'.toks + 1 }) is sc G' (by omega) fun h' ks' b sb G2 m2 l2 => ?_
    refine wpAny_pure ⟨plainId_quiet F.plain_set_update_loop _, ih (i + 1) _ (by omega) lt (wk.frame _ s' _ _ st' (Nat.le_succ _) fun b hb o e => ?_) ⟨ks', by omega, G2, fun j => ?_⟩ fun s'' k2 mv2 c2 G3 m3 => ?_⟩
    · rw [sb.2 b (fun h : b = S => off (by rw [← h]; exact hb))]; exact e
    · rw [m2 j, h3 j, List.take_add_one, hz, List.mem_append]
      simp
    · refine fin s'' k2 (Moved.trans wk.gtrans ((mv.mono sub).then_heap (Nat.le_succ _) fun b o hb e => ?_) mv2) c2 G3 m3
      rw [sb.2 b (fun h : b = S => hb (by rw [h]; exact List.mem_cons_self))]; exact e
theorem setG_fresh {h : Heap} {b : Addr} (ho : h.get? b = some { cls := .type "set", dict := none, data := .set #[] 0 (.fresh 0 0 (!w.params.followText "set-order")) }) : SetG knd h b [] :=
  ⟨_, #[], 0, _, ho, ⟨rfl, rfl, rfl⟩, rfl, .nil, List.nodup_nil, by decide, by rfl, List.Pairwise.nil, by
    show _ ∨ (!w.params.followText "set-order") = true
    cases w.params.followText "set-order"
    · exact .inr rfl
    · exact .inl rfl⟩
abbrev NewSet_T (w : World) : Obj := { cls := .type "set", dict := none, data := .set #[] 0 (.fresh 0 0 (!w.params.followText "set-order")) }
theorem call_setG_T {l : Addr} {items : Array Value} (ns : List κ) {Q : Value → Shared → Prop} (hh : A.handled = none) (hl : s.heap.IsTuple l items) (hit : KeysAre knd ns items.toList) (room : ns.length + 1 < scanBound)
    (fin : ∀ (h' : Heap) (tk : Nat) (ks : List κ), SetG knd h' s.heap.objs.size ks → ks.length ≤ ns.length → (∀ j, j ∈ ks ↔ j ∈ ns) → (∀ b o, s.heap.get? b = some o → h'.get? b = some o) → Q (.ref s.heap.objs.size) { s with heap := h', toks := tk }) :
    wpAny (model P w) A (call (.type "set") [.ref l]) Q E s := by
  have size : items.size = ns.length := by rw [← Array.length_toList, hit.len]
  obtain ⟨c, tl, hmro⟩ := F.called_set.mro
  have hmade := F.called_set.made
  have hsub := F.called_set.sub
  refine wpAny_call (codeAny_of_tree ?_)
  show wpAny _ _ (callAny (.type "set") _) _ _ _
  refine wpAny_pure ⟨Code.quiet_builtin _ (by decide +kernel), codeAny_builtin F.entry_type_call ?_⟩
  rw [Around.under_plain (weight_type_call_type "set" [.ref l] []) rfl]
  have h1 := F.called_set.notType
  have h2 := F.called_set.canCreate
  have hct := F.typeCall_set_1 (.ref l)
  repeat (any_goals (first | assumption | wp_step))
  refine codeAny_mono (code_set_led1 (.ref l) (E := E) (Q₁ := fun obj s₁ => obj = .ref s.heap.objs.size ∧ s₁ = { s with heap := s.heap.push (NewSet_T w) }) ⟨rfl, rfl⟩) fun r s₁ hr => ?_
  cases r with
  | error e => exact hr
  | ok fl =>
    cases fl with
    | ret obj =>
      obtain ⟨rfl, rfl⟩ := hr
      have at0 : (s.heap.push (NewSet_T w)).get? s.heap.objs.size = some (NewSet_T w) := Heap.get?_push_size _ rfl
      have hT : Shared.TypeIs { s with heap := s.heap.push (NewSet_T w) } (.ref s.heap.objs.size) "set" := ⟨_, at0, rfl⟩
      have hli := F.called_set.init.lookup
      have hbi := F.called_set.init.bind (.ref s.heap.objs.size)
      repeat (any_goals (first | assumption | wp_step))
      refine codeAny_mono (codeAny_call_builtin (R := wants (fun r s₂ => r = .none ∧ ∃ h' tk, ∃ ks : List κ, s₂ = { s with heap := h', toks := tk } ∧ SetG knd h' s.heap.objs.size ks ∧ ks.length ≤ ns.length ∧ (∀ j, j ∈ ks ↔ j ∈ ns) ∧
          (∀ b o, s.heap.get? b = some o → h'.get? b = some o)) E) F.called_set.init.plain F.entry_set_init (check_set_init_1 hT ?_)) fun r₂ s₂ hr₂ => ?_
      · obtain ⟨ol, hol, hcl, nl, hdl⟩ := hl
        obtain ⟨ocls, odict, odata, oslots⟩ := ol
        simp only at hcl hdl
        subst hcl hdl
        have hol' : (s.heap.push (NewSet_T w)).get? l = some { cls := .type "tuple", dict := odict, data := .seq items nl, slots := oslots } := Heap.get?_push_of_some _ hol
        have hsls := F.sub_tuple_set
        have hslf := F.sub_tuple_frozenset
        have hne : (Value.type "tuple" == Value.type "dict") = false := by decide
        have hl1 : (s.heap.push (NewSet_T w)).IsTuple l items := ⟨_, hol', rfl, nl, rfl⟩
        unfold Builtin.«set.__init__» noKeywords Builtin.Frozenset.updateFrom
        generalize hPI : pyIter = PI
        wp_walk
        subst hPI
        refine wpAny_pyIter_tuple hl1 ?_
        refine wpAny_bind (wpAny_runValue ?_)
        have below : l < s.heap.objs.size := Heap.lt_size hol
        have hh3 : A.in1.in1.in1.handled = none := by simp [hh]
        have other : l ≠ (s.heap.push (NewSet_T w)).objs.size := by rw [Heap.size_push]; exact Nat.ne_of_lt (Nat.lt_succ_of_lt below)
        have off : s.heap.objs.size ∉ [(s.heap.push (NewSet_T w)).objs.size, l] := by
          rw [Heap.size_push]; simp only [List.mem_cons, List.not_mem_nil, or_false, not_or]
          exact ⟨Nat.ne_of_lt (Nat.lt_succ_self _), Nat.ne_of_gt below⟩
        refine setG_loop ((Walks.tuple hh3 _ l other items).toS) s.heap.objs.size off ns size room (fun i v hv => hit.get (by rw [Array.getElem?_toList]; exact hv)) (items.size - 0) 0 _ (by omega) (Nat.zero_le _) ⟨⟨_, Heap.get?_push_size _ rfl, rfl, rfl⟩, (hl1.push _)⟩ ?start ?stop
        case start => exact ⟨[], Nat.le_refl 0, setG_fresh (Heap.get?_push_of_some _ at0), fun j => by simp⟩
        case stop =>
          intro s' ks mv c1 G1 m1
          obtain ⟨h', g2, d', tk', os'⟩ := s'
          have eg : g2 = s.gens := mv.gens
          have ed : d' = s.drawn := mv.drawn
          have eo : os' = s.os := mv.os
          subst eg ed eo
          show wpAny _ _ _ _ _ _
          refine wpAny_pure ?_
          show wpAny _ _ (ret Value.none) _ _ _
          rw [size] at c1
          refine wpAny_pure ⟨rfl, h', tk', ks, rfl, G1, c1, m1, fun b o e => ?_⟩
          have b0 : b < s.heap.objs.size := Heap.lt_size e
          refine mv.heap b o ?_ (Heap.get?_push_of_some _ (Heap.get?_push_of_some _ e))
          rw [Heap.size_push]
          simp only [List.mem_cons, List.not_mem_nil, or_false, not_or]
          exact ⟨Nat.ne_of_lt b0, Nat.ne_of_lt (Nat.lt_succ_of_lt b0)⟩
      · cases r₂ with
        | error e => exact hr₂
        | ok fl₂ =>
          cases fl₂ with
          | ret r =>
            obtain ⟨rfl, h', tk, ks, rfl, G1, c1, m1, k1⟩ := hr₂
            repeat (any_goals (first | assumption | wp_step))
            exact fin _ _ _ G1 c1 m1 k1
          | _ => exact hr₂.elim
    | _ => exact hr.elim
abbrev NewSet_L (w : World) : Obj := { cls := .type "set", dict := none, data := .set #[] 0 (.fresh 0 0 (!w.params.followText "set-order")) }
theorem call_setG_L {l : Addr} {items : Array Value} (ns : List κ) {Q : Value → Shared → Prop} (hh : A.handled = none) (hl : s.heap.IsList l items) (hit : KeysAre knd ns items.toList) (room : ns.length + 1 < scanBound)
    (fin : ∀ (h' : Heap) (tk : Nat) (ks : List κ), SetG knd h' s.heap.objs.size ks → ks.length ≤ ns.length → (∀ j, j ∈ ks ↔ j ∈ ns) → (∀ b o, s.heap.get? b = some o → h'.get? b = some o) → Q (.ref s.heap.objs.size) { s with heap := h', toks := tk }) :
    wpAny (model P w) A (call (.type "set") [.ref l]) Q E s := by
  have size : items.size = ns.length := by rw [← Array.length_toList, hit.len]
  obtain ⟨c, tl, hmro⟩ := F.called_set.mro
  have hmade := F.called_set.made
  have hsub := F.called_set.sub
  refine wpAny_call (codeAny_of_tree ?_)
  show wpAny _ _ (callAny (.type "set") _) _ _ _
  refine wpAny_pure ⟨Code.quiet_builtin _ (by decide +kernel), codeAny_builtin F.entry_type_call ?_⟩
  rw [Around.under_plain (weight_type_call_type "set" [.ref l] []) rfl]
  have h1 := F.called_set.notType
  have h2 := F.called_set.canCreate
  have hct := F.typeCall_set_1 (.ref l)
  repeat (any_goals (first | assumption | wp_step))
  refine codeAny_mono (code_set_led1 (.ref l) (E := E) (Q₁ := fun obj s₁ => obj = .ref s.heap.objs.size ∧ s₁ = { s with heap := s.heap.push (NewSet_L w) }) ⟨rfl, rfl⟩) fun r s₁ hr => ?_
  cases r with
  | error e => exact hr
  | ok fl =>
    cases fl with
    | ret obj =>
      obtain ⟨rfl, rfl⟩ := hr
      have at0 : (s.heap.push (NewSet_L w)).get? s.heap.objs.size = some (NewSet_L w) := Heap.get?_push_size _ rfl
      have hT : Shared.TypeIs { s with heap := s.heap.push (NewSet_L w) } (.ref s.heap.objs.size) "set" := ⟨_, at0, rfl⟩
      have hli := F.called_set.init.lookup
      have hbi := F.called_set.init.bind (.ref s.heap.objs.size)
      repeat (any_goals (first | assumption | wp_step))
      refine codeAny_mono (codeAny_call_builtin (R := wants (fun r s₂ => r = .none ∧ ∃ h' tk, ∃ ks : List κ, s₂ = { s with heap := h', toks := tk } ∧ SetG knd h' s.heap.objs.size ks ∧ ks.length ≤ ns.length ∧ (∀ j, j ∈ ks ↔ j ∈ ns) ∧
          (∀ b o, s.heap.get? b = some o → h'.get? b = some o)) E) F.called_set.init.plain F.entry_set_init (check_set_init_1 hT ?_)) fun r₂ s₂ hr₂ => ?_
      · obtain ⟨ol, hol, hcl, nl, hdl⟩ := hl
        obtain ⟨ocls, odict, odata, oslots⟩ := ol
        simp only at hcl hdl
        subst hcl hdl
        have hol' : (s.heap.push (NewSet_L w)).get? l = some { cls := .type "list", dict := odict, data := .seq items nl, slots := oslots } := Heap.get?_push_of_some _ hol
        have hsls := PySem.F.sub_list_set
        have hslf := PySem.F.sub_list_frozenset
        have hne : (Value.type "list" == Value.type "dict") = false := by decide
        have hl1 : (s.heap.push (NewSet_L w)).IsList l items := ⟨_, hol', rfl, nl, rfl⟩
        unfold Builtin.«set.__init__» noKeywords Builtin.Frozenset.updateFrom
        generalize hPI : pyIter = PI
        wp_walk
        subst hPI
        refine wpAny_pyIter_list hl1 ?_
        refine wpAny_bind (wpAny_runValue ?_)
        have below : l < s.heap.objs.size := Heap.lt_size hol
        have hh3 : A.in1.in1.in1.handled = none := by simp [hh]
        have other : l ≠ (s.heap.push (NewSet_L w)).objs.size := by rw [Heap.size_push]; exact Nat.ne_of_lt (Nat.lt_succ_of_lt below)
        have off : s.heap.objs.size ∉ [(s.heap.push (NewSet_L w)).objs.size, l] := by
          rw [Heap.size_push]; simp only [List.mem_cons, List.not_mem_nil, or_false, not_or]
          exact ⟨Nat.ne_of_lt (Nat.lt_succ_self _), Nat.ne_of_gt below⟩
        refine setG_loop ((Walks.list hh3 _ l other items).toS) s.heap.objs.size off ns size room (fun i v hv => hit.get (by rw [Array.getElem?_toList]; exact hv)) (items.size - 0) 0 _ (by omega) (Nat.zero_le _) ⟨⟨_, Heap.get?_push_size _ rfl, rfl, rfl⟩, (hl1.push _)⟩ ?start ?stop
        case start => exact ⟨[], Nat.le_refl 0, setG_fresh (Heap.get?_push_of_some _ at0), fun j => by simp⟩
        case stop =>
          intro s' ks mv c1 G1 m1
          obtain ⟨h', g2, d', tk', os'⟩ := s'
          have eg : g2 = s.gens := mv.gens
          have ed : d' = s.drawn := mv.drawn
          have eo : os' = s.os := mv.os
          subst eg ed eo
          show wpAny _ _ _ _ _ _
          refine wpAny_pure ?_
          show wpAny _ _ (ret Value.none) _ _ _
          rw [size] at c1
          refine wpAny_pure ⟨rfl, h', tk', ks, rfl, G1, c1, m1, fun b o e => ?_⟩
          have b0 : b < s.heap.objs.size := Heap.lt_size e
          refine mv.heap b o ?_ (Heap.get?_push_of_some _ (Heap.get?_push_of_some _ e))
          rw [Heap.size_push]
          simp only [List.mem_cons, List.not_mem_nil, or_false, not_or]
          exact ⟨Nat.ne_of_lt b0, Nat.ne_of_lt (Nat.lt_succ_of_lt b0)⟩
      · cases r₂ with
        | error e => exact hr₂
        | ok fl₂ =>
          cases fl₂ with
          | ret r =>
            obtain ⟨rfl, h', tk, ks, rfl, G1, c1, m1, k1⟩ := hr₂
            repeat (any_goals (first | assumption | wp_step))
            exact fin _ _ _ G1 c1 m1 k1
          | _ => exact hr₂.elim
    | _ => exact hr.elim
end
end
end AW

namespace AW
open PySem PySem.Spec PyProof.Rows L2

section
variable {P : Program} {w : World} {κ : Type} [DecidableEq κ] {knd : PySem.KeyKind P w κ} {A : Around} {E : Value → Shared → Prop} {s : Shared} {a : Addr}
theorem Held.vals {ks : List κ} {es : List (Int × Value)} (h : Held knd ks es) : KeysAre knd ks (es.map (·.2)) := by
  induction h with
  | nil => exact .nil
  | cons a b c _ ih => exact .cons a c ih
theorem KeysAre.perm {vs vs' : List Value} (p : vs.Perm vs') : ∀ {ks : List κ}, KeysAre knd ks vs → ∃ ks', KeysAre knd ks' vs' ∧ ks'.Perm ks := by
  induction p with
  | nil => intro ks h; exact ⟨ks, h, .refl _⟩
  | cons x _ ih =>
    intro ks h
    cases h with
    | cons a c t =>
      obtain ⟨ks', h', q⟩ := ih t
      exact ⟨_, .cons a c h', q.cons _⟩
  | swap x y l =>
    intro ks h
    cases h with
    | cons a c t =>
      cases t with
      | cons a' c' t' => exact ⟨_, .cons a' c' (.cons a c t'), .swap _ _ _⟩
  | trans _ _ ih1 ih2 =>
    intro ks h
    obtain ⟨k1, h1, q1⟩ := ih1 h
    obtain ⟨k2, h2, q2⟩ := ih2 h1
    exact ⟨k2, h2, q2.trans q1⟩
/-- sorted(set): the set's members in a list, then the list's own sort -/
theorem sorted_setG {ks : List κ} {Q : Value → Shared → Prop} (G : SetG knd s.heap a ks) (hh : A.handled = none)
    (srt : ∀ (s1 : Shared) (vs : List Value) (ks' : List κ), KeysAre knd ks' vs → ks'.Perm ks → (∀ b o, s.heap.get? b = some o → s1.heap.get? b = some o) → s1.gens = s.gens → s1.os = s.os → s.heap.objs.size ≤ s1.heap.objs.size → vs.length ≤ sizeLine →
      ∀ (B : Around) (at0 : (s1.heap.push (seqObj "list" vs.toArray 0)).get? s1.heap.objs.size = some (seqObj "list" vs.toArray 0)),
      wpAny (model P w) B (Builtin.«list.sort» ⟨[.ref s1.heap.objs.size], []⟩) (fun f s₂ => ∃ v, f = .done (.ret v) ∧ Q (.ref s1.heap.objs.size) s₂) E { s1 with heap := s1.heap.push (seqObj "list" vs.toArray 0) }) :
    wpAny (model P w) A (call (.builtin "sorted") [.ref a]) Q E s := by
  obtain ⟨ob, es, ep, tb, ho, hex, hd, held, nd, small, fits, ris, led⟩ := G
  refine Calls.call_function_entry kind_sorted plain_sorted entry_sorted (args_sorted1 _) ?_
  unfold Builtin.«sorted»
  refine wpAny_bind (m := checkCount "sorted" 1 1 _) (wpAny_pure ?_)
  refine wpAny_bind (collect_set (A := A.in1) hh ⟨ob, ho, hex.1, hd⟩ fits small ris led fun s1 vs keep size gens os pm => ?_)
  obtain ⟨ks', kv, pk⟩ := held.vals.perm pm.symm
  have len : vs.length ≤ sizeLine := by rw [pm.length_eq, List.length_map, Array.length_toList]; exact fits_of_scanBound small
  refine wpAny_bind (wpAny_newList ?_ len)
  have at0 : (s1.heap.push (seqObj "list" vs.toArray 0)).get? s1.heap.objs.size = some (seqObj "list" vs.toArray 0) := Heap.get?_push_size _ rfl
  refine wpAny_bind (wpAny_holding (wpAny_call_entry slot_list_sort ⟨_, at0, rfl⟩ entry_list_sort (wpAny_mono (srt s1 vs ks' kv pk keep gens os size len _ at0) (fun f s₂ ⟨v, e, q⟩ => ⟨v, e, wpAny_pure ⟨_, rfl, q⟩⟩) fun _ _ e => e) (args_list_sort _)))
end
/-! ### sorted(set(xs)): texts, ints -/
section
variable {P : Program} {w : World} {A : Around} {E : Value → Shared → Prop} {s : Shared} {a : Addr}
theorem strs_of_keys {ks : List Str} {vs : List Value} (h : KeysAre (PySem.strKind P w) ks vs) : StrsAre vs ks := by
  induction h with
  | nil => exact .nil
  | cons a c _ ih =>
    obtain ⟨t, rfl⟩ := Value.isStrOf_shape a
    exact .cons _ t ih
theorem ints_of_keys {ks : List Int} {vs : List Value} (h : KeysAre (PySem.intKind P w) ks vs) : IntsAre vs ks := by
  induction h with
  | nil => exact .nil
  | cons a c _ ih =>
    obtain ⟨t, rfl⟩ := Value.isInt_shape a
    exact .cons _ t ih
theorem keys_of_strs : ∀ {ks : List Str} {vs : List Value}, StrsAre vs ks → KeysAre (PySem.strKind P w) ks vs
  | _, _, .nil => .nil
  | _, _, .cons x t r => .cons (strKind_is P w x t) rfl (keys_of_strs r)
theorem keys_of_ints : ∀ {ks : List Int} {vs : List Value}, IntsAre vs ks → KeysAre (PySem.intKind P w) ks vs
  | _, _, .nil => .nil
  | _, _, .cons x t r => .cons (intKind_is P w x t) rfl (keys_of_ints r)
theorem sorted_strsG {ks : List Str} {Q : Value → Shared → Prop} (G : SetG (PySem.strKind P w) s.heap a ks) (hh : A.handled = none)
    (fin : ∀ s' p (out : Array Value) (c : Nat) (ys : List Str), (∀ b o, s.heap.get? b = some o → s'.heap.get? b = some o) → s'.gens = s.gens → s'.os = s.os → s.heap.objs.size ≤ p →
      s'.heap.get? p = some (seqObj "list" out c) → StrsAre out.toList ys → ys.Perm ks → sortedS ys = true → Q (.ref p) s') :
    wpAny (model P w) A (call (.builtin "sorted") [.ref a]) Q E s := by
  refine sorted_setG G hh fun s1 vs ks' kv pk keep gens os size len B at0 => ?_
  have hS := strs_of_keys kv
  refine list_sort_treeKAny strKind_oneLt at0 hS.keysOf (fun v₁ v₂ rest e => keyKind_strs (by rw [← e]; exact hS)) len fun st' hp hs => ?_
  obtain ⟨ys, h1, h2, h3⟩ := sorted_out_str hS hp hs
  obtain ⟨c, hc⟩ := sortedHeap_at (vs := vs) (out := (arrOf st').map (·.2)) at0
  refine ⟨_, rfl, fin _ _ _ c ys (fun b o e => ?_) gens os size hc h1 (h2.trans pk) h3⟩
  have q := keep b o e
  have lt := Heap.lt_size q
  show (sortedHeap (s1.heap.push (seqObj "list" vs.toArray 0)) s1.heap.objs.size vs ((arrOf st').map (·.2))).get? b = some o
  rw [sortedHeap_old (Nat.ne_of_lt lt) (by rw [size_push']; exact Nat.lt_succ_of_lt lt)]
  exact Heap.get?_push_of_some _ q
theorem sorted_intsG {ks : List Int} {Q : Value → Shared → Prop} (G : SetG (PySem.intKind P w) s.heap a ks) (hh : A.handled = none)
    (fin : ∀ s' p (out : Array Value) (c : Nat) (ys : List Int), (∀ b o, s.heap.get? b = some o → s'.heap.get? b = some o) → s'.gens = s.gens → s'.os = s.os → s.heap.objs.size ≤ p →
      s'.heap.get? p = some (seqObj "list" out c) → IntsAre out.toList ys → ys.Perm ks → ys.Pairwise (· ≤ ·) → Q (.ref p) s') :
    wpAny (model P w) A (call (.builtin "sorted") [.ref a]) Q E s := by
  refine sorted_setG G hh fun s1 vs ks' kv pk keep gens os size len B at0 => ?_
  refine list_sort_treeAny at0 (ints_of_keys kv) len fun out ys h1 h2 h3 => ?_
  obtain ⟨c, hc⟩ := sortedHeap_at (vs := vs) (out := out) at0
  refine ⟨_, rfl, fin _ _ _ c ys (fun b o e => ?_) gens os size hc h1 (h2.trans pk) h3⟩
  have q := keep b o e
  have lt := Heap.lt_size q
  show (sortedHeap (s1.heap.push (seqObj "list" vs.toArray 0)) s1.heap.objs.size vs out).get? b = some o
  rw [sortedHeap_old (Nat.ne_of_lt lt) (by rw [size_push']; exact Nat.lt_succ_of_lt lt)]
  exact Heap.get?_push_of_some _ q
end
/-! ### the rule of the layer: sorted(set(xs)), texts or ints, in a list or a tuple -/
/-- each once -/
def once {α : Type} [DecidableEq α] : List α → List α
  | [] => []
  | x :: xs => if x ∈ once xs then once xs else x :: once xs
theorem once_mem {α : Type} [DecidableEq α] {y : α} : ∀ {xs : List α}, y ∈ once xs ↔ y ∈ xs
  | [] => .rfl
  | x :: xs => by
    have ih := once_mem (y := y) (xs := xs)
    unfold once
    split
    · rename_i h
      rw [ih, List.mem_cons]
      exact ⟨.inr, fun q => q.elim (fun e => by subst e; exact once_mem.mp h) id⟩
    · rw [List.mem_cons, List.mem_cons, ih]
theorem once_nodup {α : Type} [DecidableEq α] : ∀ xs : List α, (once xs).Nodup
  | [] => List.nodup_nil
  | x :: xs => by
    unfold once
    split
    · exact once_nodup xs
    · rename_i h; exact List.nodup_cons.mpr ⟨h, once_nodup xs⟩
theorem once_len {α : Type} [DecidableEq α] : ∀ xs : List α, (once xs).length ≤ xs.length
  | [] => Nat.le_refl _
  | x :: xs => by
    have := once_len xs
    unfold once
    split
    · rw [List.length_cons]; omega
    · rw [List.length_cons, List.length_cons]; omega
def tSortSet (K : PySem.W.Frag) (te : TE) : TE := fun σ H Q => te σ H fun x H1 => ∃ l, x = .ref l ∧
  ((∃ xs : List Str, (SqL K H1 l (xs.map V.str) ∨ SqT K H1 l (xs.map V.str)) ∧ xs.length ≤ 1000 ∧ ∀ (ys : List Str) (p : Addr), ys.Perm (once xs) → sortedS ys = true → H1 p = none → Q (.ref p) (upd H1 p (.lst (ys.map V.str)))) ∨
   (∃ xs : List Int, (SqL K H1 l (xs.map V.int) ∨ SqT K H1 l (xs.map V.int)) ∧ xs.length ≤ 1000 ∧ ∀ (ys : List Int) (p : Addr), ys.Perm (once xs) → ys.Pairwise (· ≤ ·) → H1 p = none → Q (.ref p) (upd H1 p (.lst (ys.map V.int)))))
section
variable {X : Cx}
theorem SetG.nd {P : Program} {w : World} {κ : Type} [DecidableEq κ] {knd : PySem.KeyKind P w κ} {h : Heap} {a : Addr} {ks : List κ} (G : SetG knd h a ks) : ks.Nodup := by
  obtain ⟨_, _, _, _, _, _, _, _, nd, _⟩ := G
  exact nd
theorem pe_sortSet {a : Expr} {ta : TE} {p p2 q pos : Pos} (hc : X.calm = true) (hg : Gl X "sorted") (hm : X.mg "sorted" = none) (hg2 : Gl X "set") (hm2 : X.mg "set" = none) (ha : PE X a ta)
    (na : starEach [a] X.env = (false, eval a X.env) :: starEach [] X.env := by rfl) : PE X (.Call (.Name "sorted" p) [.Call (.Name "set" p2) [a] [] q] [] pos) (tSortSet X.K ta) := by
  refine ⟨fun pins s σ H Q I h => Call_ (ld_blt I hg hm boot_sorted (PyProof.Rows.callWith_builtin1 (PyProof.Rows.args_cons (Call_ (ld_blt I hg2 hm2 boot_set ?_)) rfl) rfl rfl))⟩
  refine PyProof.Rows.callWith_type1 (PyProof.Rows.args_cons (thn (ha.run pins s σ H _ I h) fun v s1 ⟨x, H1, I1, r1, l, ex, q1⟩ => PyProof.Rows.args_nil ?_) na) na rfl
  subst ex
  cases r1
  have hd := I1.ok.hd hc
  have fin : ∀ (o : HO) (s2 : Shared) (s' : Shared) (p : Addr), Inv X pins σ H1 s2 → (∀ b o, s2.heap.get? b = some o → s'.heap.get? b = some o) → s'.gens = s2.gens → s'.os = s2.os → s2.heap.objs.size ≤ p → ObjOk X.prog X.w (upd H1 p o) s'.heap p o → Q (.ref p) (upd H1 p o) → EP X pins σ Q (.ref p) s' := fun o s2 s' p I2 k g os hp ok q => by
    have J : Inv X pins σ (upd H1 p o) { s2 with heap := s'.heap, gens := s'.gens, drawn := s'.drawn, toks := s'.toks } :=
      I2.call (ch := []) (Un.laid k hp (I2.hok.fresh hp)) (I2.hok.laid k hp ok) (by rw [g]; exact I2.bare) (fun _ z => nomatch z)
    have e : s' = { s2 with heap := s'.heap, gens := s'.gens, drawn := s'.drawn, toks := s'.toks } := by
      cases s'; cases s2; cases os; rfl
    rw [e]
    exact ⟨.ref p, _, J, rfl, q⟩
  rcases q1 with ⟨xs, hq, hl, q1⟩ | ⟨xs, hq, hl, q1⟩
  · have go : ∀ (h' : Heap) (tk : Nat) (ks : List Str), SetG (PySem.strKind X.prog X.w) h' s1.heap.objs.size ks → (∀ j, j ∈ ks ↔ j ∈ xs) → (∀ b o, s1.heap.get? b = some o → h'.get? b = some o) →
        wpAny (model X.prog X.w) X.A (spliced (backTo pos (starEach [] X.env))) (fun vs s₂ => wpAny (model X.prog X.w) X.A (call (.builtin "sorted") (Value.ref s1.heap.objs.size :: vs)) (EP X pins σ Q) X.xe s₂) X.xe { s1 with heap := h', toks := tk } := fun h' tk ks G m k => by
      refine PyProof.Rows.args_nil ?_
      have I2 : Inv X pins σ H1 { s1 with heap := h', toks := tk } := I1.kept k
      refine sorted_strsG (s := { s1 with heap := h', toks := tk }) G hd fun s' p out c ys k2 g os hp at1 sa pm srt => ?_
      have pm' : ys.Perm (once xs) := pm.trans ((List.perm_ext_iff_of_nodup G.nd (once_nodup xs)).mpr fun j => (m j).trans once_mem.symm)
      have len : (ys.map V.str).length ≤ sizeLine := by rw [List.length_map, pm'.length_eq, sizeLine_eq]; exact Nat.le_trans (once_len xs) (by omega)
      exact fin (.lst (ys.map V.str)) _ s' p I2 k2 g os hp ⟨len, out.toList, c, vals_of_strs sa, at1⟩ (q1 ys p pm' srt (I2.hok.fresh hp))
    rcases hq with hq | hq
    · obtain ⟨its, r, pl, hz⟩ := I1.list hq
      exact call_setG_L (knd := PySem.strKind X.prog X.w) xs hd pl.isList (keys_of_strs (by simpa using r.strs)) (by unfold scanBound; omega) fun h' tk ks G c1 m1 k1 => go h' tk ks G m1 k1
    · obtain ⟨its, r, pl, hz⟩ := I1.tuple hq
      exact call_setG_T (knd := PySem.strKind X.prog X.w) xs hd pl (keys_of_strs (by simpa using r.strs)) (by unfold scanBound; omega) fun h' tk ks G c1 m1 k1 => go h' tk ks G m1 k1
  · have go : ∀ (h' : Heap) (tk : Nat) (ks : List Int), SetG (PySem.intKind X.prog X.w) h' s1.heap.objs.size ks → (∀ j, j ∈ ks ↔ j ∈ xs) → (∀ b o, s1.heap.get? b = some o → h'.get? b = some o) →
        wpAny (model X.prog X.w) X.A (spliced (backTo pos (starEach [] X.env))) (fun vs s₂ => wpAny (model X.prog X.w) X.A (call (.builtin "sorted") (Value.ref s1.heap.objs.size :: vs)) (EP X pins σ Q) X.xe s₂) X.xe { s1 with heap := h', toks := tk } := fun h' tk ks G m k => by
      refine PyProof.Rows.args_nil ?_
      have I2 : Inv X pins σ H1 { s1 with heap := h', toks := tk } := I1.kept k
      refine sorted_intsG (s := { s1 with heap := h', toks := tk }) G hd fun s' p out c ys k2 g os hp at1 sa pm srt => ?_
      have pm' : ys.Perm (once xs) := pm.trans ((List.perm_ext_iff_of_nodup G.nd (once_nodup xs)).mpr fun j => (m j).trans once_mem.symm)
      have len : (ys.map V.int).length ≤ sizeLine := by rw [List.length_map, pm'.length_eq, sizeLine_eq]; exact Nat.le_trans (once_len xs) (by omega)
      exact fin (.lst (ys.map V.int)) _ s' p I2 k2 g os hp ⟨len, out.toList, c, vals_of_ints sa, at1⟩ (q1 ys p pm' srt (I2.hok.fresh hp))
    rcases hq with hq | hq
    · obtain ⟨its, r, pl, hz⟩ := I1.list hq
      exact call_setG_L (knd := PySem.intKind X.prog X.w) xs hd pl.isList (keys_of_ints (by simpa using r.ints)) (by unfold scanBound; omega) fun h' tk ks G c1 m1 k1 => go h' tk ks G m1 k1
    · obtain ⟨its, r, pl, hz⟩ := I1.tuple hq
      exact call_setG_T (knd := PySem.intKind X.prog X.w) xs hd pl (keys_of_ints (by simpa using r.ints)) (by unfold scanBound; omega) fun h' tk ks G c1 m1 k1 => go h' tk ks G m1 k1
end
/-- sorted(set(xs)) -/
def opSortSet (mk : Bool) : Op1 := fun d S => match seqOf S d with
  | some ds => if ds.length ≤ 1000 then match strsOf ds with
      | some ks => newL mk ((sortS (once ks)).map .str) S
      | none => match intsOf ds with
        | some ks => newL mk ((sortI (once ks)).map .int) S
        | none => none
    else none
  | none => none
theorem okSortSet {X : Cx} {a : Expr} {ma : SemE} {mk : Bool} {p p2 q pos : Pos} (hc : X.calm = true) (hg : Gl X "sorted") (hm : X.mg "sorted" = none) (hg2 : Gl X "set") (hm2 : X.mg "set" = none) (ha : OkE X a ma) (hp : plainE a = true) :
    OkE X (.Call (.Name "sorted" p) [.Call (.Name "set" p2) [a] [] q] [] pos) (eUn (opSortSet mk) ma) := by
  refine (pe_sortSet hc hg hm hg2 hm2 ha (star_plain hp)).imp fun σ H Q ⟨w, E, S, c, se, q⟩ => ?_
  obtain ⟨x, S1, e1, q⟩ := aft_bind q
  refine ⟨w, E, S, c, se, x, S1, e1, fun v w1 H1 x1 c1 r1 => ?_⟩
  simp only [opSortSet] at q
  split at q
  · rename_i ds hd
    obtain ⟨b, xs, rfl, h1, h2⟩ := seq_ok c1 hd r1
    refine ⟨b, rfl, ?_⟩
    split at q
    · rename_i hl
      split at q
      · rename_i ks hk
        have e := strs_ok hk h2
        subst e
        have len := h2.len
        rw [List.length_map] at len
        refine .inl ⟨ks, h1, by omega, fun ys p pm srt hp => ?_⟩
        rw [sortS_uniq pm srt]
        exact aft_new c1 rpl_strs (aft_of (q.ext x1)) p hp
      · split at q
        · rename_i ks hk
          have e := ints_ok hk h2
          subst e
          have len := h2.len
          rw [List.length_map] at len
          refine .inr ⟨ks, h1, by omega, fun ys p pm srt hp => ?_⟩
          rw [sortI_uniq pm srt]
          exact aft_new c1 rpl_ints (aft_of (q.ext x1)) p hp
        · exact (aftM_none q).elim
    · exact (aftM_none q).elim
  · exact (aftM_none q).elim
end AW

namespace AW
open PySem PySem.Spec PyProof.Rows L2

/-! ### what is walked -/
abbrev Chk := List (Nat × List D)
def stable (chk : Chk) (S : Sto) : Bool := chk.all fun p => match S[p.1]? with | some (.lst ds) => eqDs ds p.2 | _ => false
abbrev SemI := Env → Sto → M (List D × Chk)
/-- at each turn, while the cells that are walked stand -/
structure WkD (K : PySem.W.Frag) (w0 : Wd) (J : It) (its : List D) (chk : Chk) : Prop where
  go : ∀ {w H S}, WdLe w0 w → SimC K w H S → stable chk S = true → ∀ i, i < its.length → J.go i H
  yld : ∀ {w H S}, WdLe w0 w → SimC K w H S → stable chk S = true → ∀ i x H', i < its.length → J.yld i H x H' → ∃ w', Ext w H w' H' ∧ SimC K w' H' S ∧ ∀ d, its[i]? = some d → Rp K w' d x
  stop : ∀ {w H S}, WdLe w0 w → SimC K w H S → stable chk S = true → J.stop its.length H
def rdI (K : PySem.W.Frag) (m : SemI) : TI := fun σ H R => ∃ w E S, SimC K w H S ∧ SimE K w σ E ∧ ∃ a S', m E S = some (a, S') ∧ ∀ J w' H', Ext w H w' H' → SimC K w' H' S' → WkD K w' J a.1 a.2 → R J H'
abbrev OkI (X : Cx) (tg iter : Expr) (m : SemI) : Prop := PI X tg iter (rdI X.K m)
theorem _root_.L2.PI.imp {X : Cx} {tg it : Expr} {t t' : TI} (h : PI X tg it t) (k : ∀ σ H Q, t' σ H Q → t σ H Q) : PI X tg it t' := ⟨fun pins s σ H Q I q => h.run pins s σ H Q I (k σ H Q q)⟩
theorem _root_.L2.PI.or {X : Cx} {tg it : Expr} {t t' : TI} (h : PI X tg it t) (h' : PI X tg it t') : PI X tg it (fun σ H R => t σ H R ∨ t' σ H R) :=
  ⟨fun pins s σ H Q I q => q.elim (fun q => h.run pins s σ H Q I q) fun q => h'.run pins s σ H Q I q⟩
/-- a list as it stands later -/
structure LaterL (K : PySem.W.Frag) (w0 : Wd) (a : Addr) (its : List D) (chk : Chk) : Prop where
  now : ∀ {w H S}, WdLe w0 w → SimC K w H S → stable chk S = true → ∃ xs, SqL K H a xs ∧ RpL K w its xs
structure LaterT (K : PySem.W.Frag) (w0 : Wd) (a : Addr) (its : List D) : Prop where
  now : ∀ {w H S}, WdLe w0 w → SimC K w H S → ∃ xs, SqT K H a xs ∧ RpL K w its xs
def chkOf (S : Sto) : D → Chk
  | .ref i => match S[i]? with | some (.lst ds) => [(i, ds)] | _ => []
  | _ => []
theorem stable_one {S : Sto} {i : Nat} {ds : List D} (h : stable [(i, ds)] S = true) : S[i]? = some (.lst ds) := by
  simp only [stable, List.all_cons, List.all_nil, Bool.and_true] at h
  split at h
  · rename_i es he
    rw [eqDs_eq h] at he
    exact he
  · cases h
theorem laterL {K : PySem.W.Frag} {w : Wd} {H : Hp} {S : Sto} {d : D} {ds : List D} {v : V} (c : SimC K w H S) (e : readS S d = some ds) (r : Rp K w d v) : ∃ a, v = .ref a ∧ LaterL K w a ds (chkOf S d) := by
  cases d with
  | lst k es =>
    obtain ⟨a, xs, rfl, _, _⟩ := readS_ok c e r
    refine ⟨a, rfl, ⟨fun {w' H' S'} le c' _ => ?_⟩⟩
    obtain ⟨a', xs', e', h1, h2⟩ := readS_ok c' (show readS S' (.lst k es) = some ds from e) (r.mono le)
    cases e'
    exact ⟨xs', h1, h2⟩
  | ref i =>
    obtain ⟨a, xs, rfl, _, _⟩ := readS_ok c e r
    refine ⟨a, rfl, ⟨fun {w' H' S'} le c' st => ?_⟩⟩
    have e0 : S[i]? = some (.lst ds) := by
      simp only [readS] at e
      split at e
      · rename_i es he; cases e; exact he
      · cases e
    have st' : S'[i]? = some (.lst ds) := stable_one (by simpa [chkOf, e0] using st)
    obtain ⟨a', xs', e', h1, h2⟩ := readS_ok c' (show readS S' (.ref i) = some ds by simp [readS, st']) (r.mono le)
    cases e'
    exact ⟨xs', h1, h2⟩
  | _ => cases e
theorem laterT {K : PySem.W.Frag} {w : Wd} {ds : List D} {v : V} (r : Rp K w (.tup ds) v) : ∃ a, v = .ref a ∧ LaterT K w a ds := by
  obtain ⟨a, xs, rfl, _, _⟩ := rp_tup' r
  refine ⟨a, rfl, ⟨fun {w' H' S'} le c' => ?_⟩⟩
  obtain ⟨a', xs', e', h1, _, h3⟩ := tup_ok c' (r.mono le)
  cases e'
  exact ⟨xs', h1, h3⟩
section
variable {K : PySem.W.Frag} {w0 : Wd} {a b : Addr} {its ys : List D} {chk chk' : Chk}
theorem wk_list (l : LaterL K w0 a its chk) : WkD K w0 (Itl K a) its chk where
  go := fun le c st i hi => by
    obtain ⟨xs, h1, h2⟩ := l.now le c st
    have : i < xs.length := by rw [← h2.len]; exact hi
    exact ⟨xs, xs[i], h1, by simp [this]⟩
  yld := fun {w H S} le c st i x H' hi y => by
    obtain ⟨xs, h1, h2⟩ := l.now le c st
    obtain ⟨e, y⟩ := y
    subst e
    refine ⟨w, Ext.refl _ _, c, fun d hd => ?_⟩
    obtain ⟨v, hv, rv⟩ := h2.get hd
    rw [y xs h1] at hv
    cases hv
    exact rv
  stop := fun le c st => by
    obtain ⟨xs, h1, h2⟩ := l.now le c st
    exact ⟨xs, h1, by rw [h2.len]; exact Nat.le_refl _⟩
theorem wk_tup (l : LaterT K w0 a its) : WkD K w0 (Itt K a) its chk where
  go := fun le c st i hi => by
    obtain ⟨xs, h1, h2⟩ := l.now le c
    have : i < xs.length := by rw [← h2.len]; exact hi
    exact ⟨xs, xs[i], h1, by simp [this]⟩
  yld := fun {w H S} le c st i x H' hi y => by
    obtain ⟨xs, h1, h2⟩ := l.now le c
    obtain ⟨e, y⟩ := y
    subst e
    refine ⟨w, Ext.refl _ _, c, fun d hd => ?_⟩
    obtain ⟨v, hv, rv⟩ := h2.get hd
    rw [y xs h1] at hv
    cases hv
    exact rv
  stop := fun le c st => by
    obtain ⟨xs, h1, h2⟩ := l.now le c
    exact ⟨xs, h1, by rw [h2.len]; exact Nat.le_refl _⟩
def rangeD (lo : Int) (n : Nat) : List D := (List.range n).map fun i => .int (lo + (i : Nat))
theorem rangeD_len (lo : Int) (n : Nat) : (rangeD lo n).length = n := by simp [rangeD]
theorem rangeD_get {lo : Int} {n i : Nat} {d : D} (h : (rangeD lo n)[i]? = some d) : d = .int (lo + (i : Nat)) := by
  simp only [rangeD, List.getElem?_map] at h
  cases q : (List.range n)[i]? with
  | none => rw [q] at h; cases h
  | some j =>
    rw [q] at h
    have := List.getElem?_eq_some_iff.mp q
    obtain ⟨_, e⟩ := this
    simp at e
    subst e
    cases h; rfl
theorem wk_range {lo : Int} {n : Nat} : WkD K w0 (Itr lo n) (rangeD lo n) chk where
  go := fun _ _ _ i hi => by rw [rangeD_len] at hi; exact hi
  yld := fun {w H S} le c st i x H' hi y => by
    obtain ⟨e, y⟩ := y
    subst e y
    refine ⟨w, Ext.refl _ _, c, fun d hd => ?_⟩
    rw [rangeD_get hd]
    exact rp_int
  stop := fun _ _ _ => by rw [rangeD_len]; exact Nat.le_refl _
/-- a new pair is laid -/
theorem pair_laid {w : Wd} {H : Hp} {S : Sto} {T : Addr} {x y : V} {d e : D} (c : SimC K w H S) (hT : H T = none) (r1 : Rp K w d x) (r2 : Rp K w e y) :
    ∃ w', Ext w H w' (upd H T (.tup [x, y])) ∧ SimC K w' (upd H T (.tup [x, y])) S ∧ Rp K w' (.tup [d, e]) (.ref T) := by
  obtain ⟨c', x'⟩ := alloc_frz c (o := .tup [x, y]) hT
  refine ⟨_, x', c', ?_⟩
  simp only [Rp]
  exact ⟨T, [x, y], rfl, upd_same, .cons (r1.mono x'.le) (.one (r2.mono x'.le))⟩
def enumD : Nat → List D → List D
  | _, [] => []
  | k, d :: ds => .tup [.int (k : Nat), d] :: enumD (k + 1) ds
theorem enumD_len : ∀ (ds : List D) (k : Nat), (enumD k ds).length = ds.length
  | [], _ => rfl
  | _ :: ds, k => by simp [enumD, enumD_len ds]
theorem enumD_get : ∀ {ds : List D} {k i : Nat} {d : D}, (enumD k ds)[i]? = some d → ∃ e, ds[i]? = some e ∧ d = .tup [.int ((k + i : Nat) : Int), e]
  | [], _, _, _, h => by simp [enumD] at h
  | d :: ds, k, 0, _, h => by simp [enumD] at h; subst h; exact ⟨d, rfl, rfl⟩
  | d :: ds, k, i + 1, _, h => by
    simp only [enumD, List.getElem?_cons_succ] at h
    obtain ⟨e, h1, h2⟩ := enumD_get h
    exact ⟨e, by simpa using h1, by rw [h2, Nat.add_right_comm, Nat.add_assoc]⟩
theorem wk_enum (l : LaterL K w0 a its chk) : WkD K w0 (Ite K a) (enumD 0 its) chk where
  go := fun le c st i hi => by
    rw [enumD_len] at hi
    obtain ⟨xs, h1, h2⟩ := l.now le c st
    have : i < xs.length := by rw [← h2.len]; exact hi
    exact ⟨xs, xs[i], h1, by simp [this]⟩
  yld := fun {w H S} le c st i x H' hi y => by
    rw [enumD_len] at hi
    obtain ⟨xs, h1, h2⟩ := l.now le c st
    obtain ⟨T, x, rfl, hT, rfl, f⟩ := y
    have hg : its[i]? = some its[i] := List.getElem?_eq_getElem hi
    obtain ⟨v, hv, rv⟩ := h2.get hg
    rw [f xs h1] at hv
    cases hv
    obtain ⟨w', k1, k2, k3⟩ := pair_laid c hT (rp_int (i := ((i : Nat) : Int))) rv
    refine ⟨w', k1, k2, fun d hd => ?_⟩
    obtain ⟨e, g1, g2⟩ := enumD_get hd
    rw [hg] at g1
    cases g1
    rw [g2, Nat.zero_add]
    exact k3
  stop := fun le c st => by
    obtain ⟨xs, h1, h2⟩ := l.now le c st
    exact ⟨xs, h1, by rw [enumD_len, h2.len]; exact Nat.le_refl _⟩
/-- the tuple at a, each item in a new pair -/
def IteT (K : PySem.W.Frag) (a : Addr) : It :=
  ⟨fun i H => ∃ (xs : List V) (x : V), SqT K H a xs ∧ xs[i]? = some x, fun i H v H' => ∃ T x, v = .ref T ∧ H T = none ∧ H' = upd H T (.tup [.int (i : Nat), x]) ∧ ∀ xs, SqT K H a xs → xs[i]? = some x, fun i H => ∃ xs : List V, SqT K H a xs ∧ xs.length ≤ i⟩
def iEnumT (K : PySem.W.Frag) (ta : TA) : TI := fun σ H R => ta σ H fun vs H1 => ∃ a xs, vs = [.ref a] ∧ SqT K H1 a xs ∧ R (IteT K a) H1
theorem wk_enumT (l : LaterT K w0 a its) : WkD K w0 (IteT K a) (enumD 0 its) chk where
  go := fun le c st i hi => by
    rw [enumD_len] at hi
    obtain ⟨xs, h1, h2⟩ := l.now le c
    have : i < xs.length := by rw [← h2.len]; exact hi
    exact ⟨xs, xs[i], h1, by simp [this]⟩
  yld := fun {w H S} le c st i x H' hi y => by
    rw [enumD_len] at hi
    obtain ⟨xs, h1, h2⟩ := l.now le c
    obtain ⟨T, x, rfl, hT, rfl, f⟩ := y
    have hg : its[i]? = some its[i] := List.getElem?_eq_getElem hi
    obtain ⟨v, hv, rv⟩ := h2.get hg
    rw [f xs h1] at hv
    cases hv
    obtain ⟨w', k1, k2, k3⟩ := pair_laid c hT (rp_int (i := ((i : Nat) : Int))) rv
    refine ⟨w', k1, k2, fun d hd => ?_⟩
    obtain ⟨e, g1, g2⟩ := enumD_get hd
    rw [hg] at g1
    cases g1
    rw [g2, Nat.zero_add]
    exact k3
  stop := fun le c st => by
    obtain ⟨xs, h1, h2⟩ := l.now le c
    exact ⟨xs, h1, by rw [enumD_len, h2.len]; exact Nat.le_refl _⟩
def zipD : List D → List D → List D
  | a :: as, b :: bs => .tup [a, b] :: zipD as bs
  | _, _ => []
theorem zipD_len : ∀ (as bs : List D), (zipD as bs).length = min as.length bs.length
  | [], _ => by simp [zipD]
  | _ :: _, [] => by simp [zipD]
  | a :: as, b :: bs => by simp [zipD, zipD_len as bs]
theorem zipD_get : ∀ {as bs : List D} {i : Nat} {d : D}, (zipD as bs)[i]? = some d → ∃ x y, as[i]? = some x ∧ bs[i]? = some y ∧ d = .tup [x, y]
  | [], _, _, _, h => by simp [zipD] at h
  | _ :: _, [], _, _, h => by simp [zipD] at h
  | a :: as, b :: bs, 0, _, h => by simp [zipD] at h; subst h; exact ⟨a, b, rfl, rfl, rfl⟩
  | a :: as, b :: bs, i + 1, _, h => by
    simp only [zipD, List.getElem?_cons_succ] at h
    obtain ⟨x, y, h1, h2, h3⟩ := zipD_get h
    exact ⟨x, y, by simpa using h1, by simpa using h2, h3⟩
theorem stable_app {S : Sto} : stable (chk ++ chk') S = true → stable chk S = true ∧ stable chk' S = true := by
  intro h; unfold stable at *; rw [List.all_append, Bool.and_eq_true] at h; exact h
theorem wk_zip (l : LaterL K w0 a its chk) (l' : LaterL K w0 b ys chk') : WkD K w0 (Itz K a b) (zipD its ys) (chk ++ chk') where
  go := fun le c st i hi => by
    rw [zipD_len] at hi
    obtain ⟨s1, s2⟩ := stable_app st
    obtain ⟨xs, h1, h2⟩ := l.now le c s1
    obtain ⟨zs, g1, g2⟩ := l'.now le c s2
    have a1 : i < xs.length := by rw [← h2.len]; omega
    have a2 : i < zs.length := by rw [← g2.len]; omega
    exact ⟨xs, zs, xs[i], zs[i], h1, g1, by simp [a1], by simp [a2]⟩
  yld := fun {w H S} le c st i x H' hi y => by
    rw [zipD_len] at hi
    obtain ⟨s1, s2⟩ := stable_app st
    obtain ⟨xs, h1, h2⟩ := l.now le c s1
    obtain ⟨zs, g1, g2⟩ := l'.now le c s2
    obtain ⟨T, x, z, rfl, hT, rfl, f, f'⟩ := y
    have e1 : its[i]? = some (its[i]'(by omega)) := List.getElem?_eq_getElem _
    have e2 : ys[i]? = some (ys[i]'(by omega)) := List.getElem?_eq_getElem _
    obtain ⟨v, hv, rv⟩ := h2.get e1
    obtain ⟨v', hv', rv'⟩ := g2.get e2
    rw [f xs h1] at hv
    rw [f' zs g1] at hv'
    cases hv
    cases hv'
    obtain ⟨w', k1, k2, k3⟩ := pair_laid c hT rv rv'
    refine ⟨w', k1, k2, fun d hd => ?_⟩
    obtain ⟨x1, y1, q1, q2, q3⟩ := zipD_get hd
    rw [e1] at q1
    rw [e2] at q2
    cases q1
    cases q2
    rw [q3]; exact k3
  stop := fun le c st => by
    obtain ⟨s1, s2⟩ := stable_app st
    obtain ⟨xs, h1, h2⟩ := l.now le c s1
    obtain ⟨zs, g1, g2⟩ := l'.now le c s2
    refine ⟨xs, zs, h1, g1, ?_⟩
    rw [zipD_len, h2.len, g2.len]; omega
theorem wk_zipT (l : LaterT K w0 a its) (l' : LaterT K w0 b ys) : WkD K w0 (RZ.ItzT K a b) (zipD its ys) chk where
  go := fun le c st i hi => by
    rw [zipD_len] at hi
    obtain ⟨xs, h1, h2⟩ := l.now le c
    obtain ⟨zs, g1, g2⟩ := l'.now le c
    have a1 : i < xs.length := by rw [← h2.len]; omega
    have a2 : i < zs.length := by rw [← g2.len]; omega
    exact ⟨xs, zs, xs[i], zs[i], h1, g1, by simp [a1], by simp [a2]⟩
  yld := fun {w H S} le c st i x H' hi y => by
    rw [zipD_len] at hi
    obtain ⟨xs, h1, h2⟩ := l.now le c
    obtain ⟨zs, g1, g2⟩ := l'.now le c
    obtain ⟨T, x, z, rfl, hT, rfl, f, f'⟩ := y
    have e1 : its[i]? = some (its[i]'(by omega)) := List.getElem?_eq_getElem _
    have e2 : ys[i]? = some (ys[i]'(by omega)) := List.getElem?_eq_getElem _
    obtain ⟨v, hv, rv⟩ := h2.get e1
    obtain ⟨v', hv', rv'⟩ := g2.get e2
    rw [f xs h1] at hv
    rw [f' zs g1] at hv'
    cases hv
    cases hv'
    obtain ⟨w', k1, k2, k3⟩ := pair_laid c hT rv rv'
    refine ⟨w', k1, k2, fun d hd => ?_⟩
    obtain ⟨x1, y1, q1, q2, q3⟩ := zipD_get hd
    rw [e1] at q1
    rw [e2] at q2
    cases q1
    cases q2
    rw [q3]; exact k3
  stop := fun le c st => by
    obtain ⟨xs, h1, h2⟩ := l.now le c
    obtain ⟨zs, g1, g2⟩ := l'.now le c
    refine ⟨xs, zs, h1, g1, ?_⟩
    rw [zipD_len, h2.len, g2.len]; omega
def signsD (z : Str) : List D := z.cps.toList.map fun ch => .str ⟨#[ch]⟩
theorem wk_str {z : Str} : WkD K w0 (Its z) (signsD z) chk where
  go := fun _ _ _ i hi => by
    show i < z.cps.size
    simpa [signsD] using hi
  yld := fun {w H S} le c st i x H' hi y => by
    obtain ⟨e, ch, hc, y⟩ := y
    subst e y
    refine ⟨w, Ext.refl _ _, c, fun d hd => ?_⟩
    simp only [signsD, List.getElem?_map] at hd
    rw [Array.getElem?_toList, hc] at hd
    cases hd
    exact rp_str
  stop := fun _ _ _ => by simp [signsD, Its]
end

/-! ### sources of a walk -/
def iSeq (a : SemE) : SemI := fun E S => (a E S).bind fun p => match p.1 with
  | .str z => some ((signsD z, []), p.2)
  | d => match seqOf p.2 d with
    | some ds => some ((ds, chkOf p.2 d), p.2)
    | none => none
def iRange1 (a : SemA) : SemI := fun E S => (a E S).bind fun p => match p.1 with
  | [.int j] => if j ≤ 1000000 ∧ -1000000 ≤ j then some ((rangeD 0 j.toNat, []), p.2) else none
  | _ => none
def iRange2 (a : SemA) : SemI := fun E S => (a E S).bind fun p => match p.1 with
  | [.int i, .int j] => if j ≤ 1000000 ∧ -1000000 ≤ j ∧ -1000000 ≤ i ∧ i ≤ 1000000 then some ((rangeD i (j - i).toNat, []), p.2) else none
  | _ => none
def iEnumS (a : SemA) : SemI := fun E S => (a E S).bind fun p => match p.1 with
  | [d] => match seqOf p.2 d with
    | some ds => some ((enumD 0 ds, chkOf p.2 d), p.2)
    | none => none
  | _ => none
def iZipS (a : SemA) : SemI := fun E S => (a E S).bind fun p => match p.1 with
  | [.tup ds, .tup es] => some ((zipD ds es, []), p.2)
  | [d, e] => match readS p.2 d, readS p.2 e with
    | some ds, some es => some ((zipD ds es, chkOf p.2 d ++ chkOf p.2 e), p.2)
    | _, _ => none
  | _ => none
section
variable {X : Cx} {tg a b : Expr} {ma mb : SemE} {mA : SemA} {pos p : Pos} {es : List Expr}
theorem okISeq (ha : OkE X a ma) : OkI X tg a (iSeq ma) := by
  refine ((pi_list ha).or ((pi_tup ha).or (pi_str ha))).imp fun σ H R ⟨w, E, S, c, se, a, S', e, q⟩ => ?_
  simp only [iSeq] at e
  cases hx : ma E S with
  | none => rw [hx] at e; cases e
  | some p =>
    obtain ⟨d, S1⟩ := p
    rw [hx] at e
    simp only [Option.bind_some] at e
    split at e
    · rename_i z
      cases e
      refine .inr (.inr ⟨w, E, S, c, se, _, _, hx, fun v w1 H1 x1 c1 r1 => ⟨z, rp_str' r1, ?_⟩⟩)
      exact q _ w1 H1 x1 c1 wk_str
    · split at e
      · rename_i d' hns ds hs
        cases e
        cases d with
        | tup es =>
          cases hs
          refine .inr (.inl ⟨w, E, S, c, se, _, _, hx, fun v w1 H1 x1 c1 r1 => ?_⟩)
          obtain ⟨a, rfl, l⟩ := laterT r1
          obtain ⟨xs, h1, _⟩ := l.now (WdLe.refl _) c1
          exact ⟨a, rfl, ⟨xs, h1⟩, q _ w1 H1 x1 c1 (wk_tup l)⟩
        | _ =>
          refine .inl ⟨w, E, S, c, se, _, _, hx, fun v w1 H1 x1 c1 r1 => ?_⟩
          obtain ⟨a, rfl, l⟩ := laterL c1 (by simpa only [seqOf] using hs) r1
          obtain ⟨a', xs, e', h1, _⟩ := readS_ok c1 (by simpa only [seqOf] using hs) r1
          cases e'
          exact ⟨a, rfl, ⟨xs, h1⟩, q _ w1 H1 x1 c1 (wk_list l)⟩
      · cases e
theorem okIRange1 (hg : Gl X "range") (hm : X.mg "range" = none) (ha : OkA X [a] mA) (hp : plainE a = true) : OkI X tg (.Call (.Name "range" p) [a] [] pos) (iRange1 mA) := by
  refine (pi_range1 hg hm ha (star_plain hp)).imp fun σ H R ⟨w, E, S, c, se, a, S', e, q⟩ => ?_
  simp only [iRange1] at e
  cases hx : mA E S with
  | none => rw [hx] at e; cases e
  | some p =>
    obtain ⟨d, S1⟩ := p
    rw [hx] at e
    simp only [Option.bind_some] at e
    split at e
    · rename_i j
      split at e
      · rename_i hj
        cases e
        refine ⟨w, E, S, c, se, _, _, hx, fun vs w1 H1 x1 c1 r1 => ?_⟩
        obtain ⟨v, rfl, r2⟩ := rpl1 r1
        exact ⟨j, by rw [rp_int' r2], by omega, by omega, q _ w1 H1 x1 c1 wk_range⟩
      · cases e
    · cases e
theorem okIRange2 (hg : Gl X "range") (hm : X.mg "range" = none) (ha : OkA X [a, b] mA) (hp : plainE a = true) (hp2 : plainE b = true) : OkI X tg (.Call (.Name "range" p) [a, b] [] pos) (iRange2 mA) := by
  have s2 : starEach [b] X.env = [(false, eval b X.env)] := star_plain hp2
  have s1 : starEach [a, b] X.env = [(false, eval a X.env), (false, eval b X.env)] := by rw [star_plain hp, s2]
  refine (pi_range2 hg hm ha s1 s2).imp fun σ H R ⟨w, E, S, c, se, a, S', e, q⟩ => ?_
  simp only [iRange2] at e
  cases hx : mA E S with
  | none => rw [hx] at e; cases e
  | some p =>
    obtain ⟨d, S1⟩ := p
    rw [hx] at e
    simp only [Option.bind_some] at e
    split at e
    · rename_i i j
      split at e
      · rename_i hj
        cases e
        refine ⟨w, E, S, c, se, _, _, hx, fun vs w1 H1 x1 c1 r1 => ?_⟩
        obtain ⟨v, u, rfl, r2, r3⟩ := rpl2 r1
        exact ⟨i, j, by rw [rp_int' r2, rp_int' r3], ⟨by omega, by omega, by omega, by omega⟩, q _ w1 H1 x1 c1 wk_range⟩
      · cases e
    · cases e
theorem okIEnum {elts : List Expr} {kk : Nat} {tpos : Pos} (hg : Gl X "enumerate") (hm : X.mg "enumerate" = none) (ha : OkA X [a] mA) (hp : plainE a = true)
    (hT : ∀ {ta : TA}, PA X [a] ta → PI X (.Tuple elts kk tpos) (.Call (.Name "enumerate" p) [a] [] pos) (iEnumT X.K ta)) : OkI X (.Tuple elts kk tpos) (.Call (.Name "enumerate" p) [a] [] pos) (iEnumS mA) := by
  refine ((pi_enum hg hm ha (star_plain hp)).or (hT ha)).imp fun σ H R ⟨w, E, S, c, se, a, S', e, q⟩ => ?_
  simp only [iEnumS] at e
  cases hx : mA E S with
  | none => rw [hx] at e; cases e
  | some p =>
    obtain ⟨d, S1⟩ := p
    rw [hx] at e
    simp only [Option.bind_some] at e
    split at e
    · rename_i d
      split at e
      · rename_i ds hs
        cases e
        cases d with
        | tup es =>
          cases hs
          refine .inr ⟨w, E, S, c, se, _, _, hx, fun v w1 H1 x1 c1 r1 => ?_⟩
          obtain ⟨v, rfl, r2⟩ := rpl1 r1
          obtain ⟨a, rfl, l⟩ := laterT r2
          obtain ⟨xs, h1, _⟩ := l.now (WdLe.refl _) c1
          exact ⟨a, xs, rfl, h1, q _ w1 H1 x1 c1 (wk_enumT l)⟩
        | _ =>
          refine .inl ⟨w, E, S, c, se, _, _, hx, fun v w1 H1 x1 c1 r1 => ?_⟩
          obtain ⟨v, rfl, r2⟩ := rpl1 r1
          obtain ⟨a, rfl, l⟩ := laterL c1 (by simpa only [seqOf] using hs) r2
          obtain ⟨a', xs, e', h1, _⟩ := readS_ok c1 (by simpa only [seqOf] using hs) r2
          cases e'
          exact ⟨a, xs, rfl, h1, q _ w1 H1 x1 c1 (wk_enum l)⟩
      · cases e
    · cases e
theorem okIZip {elts : List Expr} {kk : Nat} {tpos : Pos} (hg : Gl X "zip") (hm : X.mg "zip" = none) (ha : OkA X [a, b] mA) (hp : plainE a = true) (hp2 : plainE b = true) : OkI X (.Tuple elts kk tpos) (.Call (.Name "zip" p) [a, b] [] pos) (iZipS mA) := by
  refine (RZ.pi_zipA hg hm ha (star_plain hp) (any_plain (by simp [hp2]))).imp fun σ H R ⟨w, E, S, c, se, a, S', e, q⟩ => ?_
  simp only [iZipS] at e
  cases hx : mA E S with
  | none => rw [hx] at e; cases e
  | some p =>
    obtain ⟨d, S1⟩ := p
    rw [hx] at e
    simp only [Option.bind_some] at e
    split at e
    · cases e
      refine ⟨w, E, S, c, se, _, _, hx, fun vs w1 H1 x1 c1 r1 => ?_⟩
      obtain ⟨v, u, rfl, r2, r3⟩ := rpl2 r1
      obtain ⟨a, rfl, l⟩ := laterT r2
      obtain ⟨b, rfl, l'⟩ := laterT r3
      obtain ⟨xs, h1, _⟩ := l.now (WdLe.refl _) c1
      obtain ⟨ys, g1, _⟩ := l'.now (WdLe.refl _) c1
      exact ⟨a, b, xs, ys, rfl, .inr ⟨h1, g1, q _ w1 H1 x1 c1 (wk_zipT l l')⟩⟩
    · split at e
      · rename_i d e' _ ds es hs ht
        cases e
        refine ⟨w, E, S, c, se, _, _, hx, fun vs w1 H1 x1 c1 r1 => ?_⟩
        obtain ⟨v, u, rfl, r2, r3⟩ := rpl2 r1
        obtain ⟨a, rfl, l⟩ := laterL c1 hs r2
        obtain ⟨b, rfl, l'⟩ := laterL c1 ht r3
        obtain ⟨a', xs, e1, h1, _⟩ := readS_ok c1 hs r2
        obtain ⟨b', ys, e2, g1, _⟩ := readS_ok c1 ht r3
        cases e1
        cases e2
        exact ⟨a, b, xs, ys, rfl, .inl ⟨h1, g1, q _ w1 H1 x1 c1 (wk_zip l l')⟩⟩
      · cases e
    · cases e
end
end AW

namespace AW
open PySem PySem.Spec PyProof.Rows L2

/-! ### tuple(range(..)), list(range(..)) -/
def mkRg (tp mk : Bool) (i j : Int) (S : Sto) : M D := if j ≤ 1000000 ∧ -1000000 ≤ j ∧ -1000000 ≤ i ∧ i ≤ 1000000 then (if tp then some (.tup (rangeD i (j - i).toNat), S) else newL mk (rangeD i (j - i).toNat) S) else none
def opRg1 (tp mk : Bool) : Op1 := fun d S => match d with
  | .int j => mkRg tp mk 0 j S
  | _ => none
def opRg2 (tp mk : Bool) : Op2 := fun d e S => match d, e with
  | .int i, .int j => mkRg tp mk i j S
  | _, _ => none
theorem rpl_rg {K : PySem.W.Frag} {w : Wd} {i j : Int} : RpL K w (rangeD i (j - i).toNat) (rgV i j) := by
  unfold rangeD rgV
  generalize List.range (j - i).toNat = l
  induction l with
  | nil => exact .nil
  | cons x l ih => exact .cons rp_int ih
theorem rgOk_of {i j : Int} (h : j ≤ 1000000 ∧ -1000000 ≤ j ∧ -1000000 ≤ i ∧ i ≤ 1000000) : RgOk i j := ⟨by omega, by omega, by omega, by omega, by omega⟩
section
variable {X : Cx} {a b : Expr} {ma mb : SemE} {p p2 q pos : Pos} {mk : Bool}
theorem aft_rgT {K : PySem.W.Frag} {w : Wd} {H : Hp} {S : Sto} {Q : VK} {i j : Int} (c : SimC K w H S) (h : Aft K w H (mkRg true mk i j S) Q) : RgOk i j ∧ ∀ q, H q = none → Q (.ref q) (upd H q (.tup (rgV i j))) := by
  unfold mkRg at h
  split at h
  · rename_i hb
    exact ⟨rgOk_of hb, fun q hq => aft_tup c rpl_rg h q hq⟩
  · obtain ⟨_, _, e, _⟩ := h; cases e
theorem aft_rgL {K : PySem.W.Frag} {w : Wd} {H : Hp} {S : Sto} {Q : VK} {i j : Int} (c : SimC K w H S) (h : Aft K w H (mkRg false mk i j S) Q) : RgOk i j ∧ ∀ q, H q = none → Q (.ref q) (upd H q (.lst (rgV i j))) := by
  unfold mkRg at h
  split at h
  · rename_i hb
    exact ⟨rgOk_of hb, fun q hq => aft_new c rpl_rg h q hq⟩
  · obtain ⟨_, _, e, _⟩ := h; cases e
theorem rd_rg1 {K : PySem.W.Frag} {tp : Bool} {R : Int → Int → Hp → VK → Prop} (hR : ∀ {w : Wd} {H : Hp} {S : Sto} {Q : VK} {i j : Int}, SimC K w H S → Aft K w H (mkRg tp mk i j S) Q → R i j H Q) :
    ∀ σ H Q, rdE K (eUn (opRg1 tp mk) ma) σ H Q → tRg1 (rdE K ma) σ H fun i j H1 => R i j H1 Q := fun σ H Q ⟨w, E, S, c, se, h⟩ => by
  obtain ⟨x, S1, e1, h⟩ := aft_bind h
  refine ⟨w, E, S, c, se, x, S1, e1, fun v w1 H1 x1 c1 r1 => ?_⟩
  cases x with
  | int j => exact ⟨j, rp_int' r1, hR c1 (aft_of (h.ext x1))⟩
  | _ => exact (aftM_none h).elim
theorem rd_rg2 {K : PySem.W.Frag} {tp : Bool} {R : Int → Int → Hp → VK → Prop} (hR : ∀ {w : Wd} {H : Hp} {S : Sto} {Q : VK} {i j : Int}, SimC K w H S → Aft K w H (mkRg tp mk i j S) Q → R i j H Q) :
    ∀ σ H Q, rdE K (eBin (opRg2 tp mk) ma mb) σ H Q → tRg2 (rdE K ma) (rdE K mb) σ H fun i j H1 => R i j H1 Q := fun σ H Q ⟨w, E, S, c, se, h⟩ => by
  obtain ⟨x, S1, e1, h⟩ := aft_bind h
  refine ⟨w, E, S, c, se, x, S1, e1, fun v w1 H1 x1 c1 r1 => ?_⟩
  obtain ⟨y, S2, e2, h⟩ := aft_bind h
  refine ⟨w1, E, S1, c1, se.mono x1.le, y, S2, e2, fun u w2 H2 x2 c2 r2 => ?_⟩
  cases x with
  | int i => cases y with
    | int j => exact ⟨i, j, rp_int' r1, rp_int' r2, hR c2 (aft_of (h.ext (x1.trans x2)))⟩
    | _ => exact (aftM_none h).elim
  | _ => exact (aftM_none h).elim
theorem okTupRg1 (hc : X.calm = true) (hg : Gl X "tuple") (hm : X.mg "tuple" = none) (hg2 : Gl X "range") (hm2 : X.mg "range" = none) (ha : OkE X a ma) (hp : plainE a = true) :
    OkE X (.Call (.Name "tuple" p) [.Call (.Name "range" p2) [a] [] q] [] pos) (eUn (opRg1 true mk) ma) :=
  (pe_tupRg hc hg hm (prg_1 hg2 hm2 ha (star_plain hp))).imp (rd_rg1 (R := fun i j H Q => RgOk i j ∧ ∀ q, H q = none → Q (.ref q) (upd H q (.tup (rgV i j)))) aft_rgT)
theorem okTupRg2 (hc : X.calm = true) (hg : Gl X "tuple") (hm : X.mg "tuple" = none) (hg2 : Gl X "range") (hm2 : X.mg "range" = none) (ha : OkE X a ma) (hb : OkE X b mb) (hp : plainE a = true) (hp' : plainE b = true) :
    OkE X (.Call (.Name "tuple" p) [.Call (.Name "range" p2) [a, b] [] q] [] pos) (eBin (opRg2 true mk) ma mb) :=
  (pe_tupRg hc hg hm (prg_2 hg2 hm2 ha hb (star_plain hp) (star_plain hp') (any_plain (by simp [hp'])))).imp (rd_rg2 (R := fun i j H Q => RgOk i j ∧ ∀ q, H q = none → Q (.ref q) (upd H q (.tup (rgV i j)))) aft_rgT)
theorem okLstRg1 (hc : X.calm = true) (hg : Gl X "list") (hm : X.mg "list" = none) (hg2 : Gl X "range") (hm2 : X.mg "range" = none) (ha : OkE X a ma) (hp : plainE a = true) :
    OkE X (.Call (.Name "list" p) [.Call (.Name "range" p2) [a] [] q] [] pos) (eUn (opRg1 false mk) ma) :=
  (pe_listRg hc hg hm (prg_1 hg2 hm2 ha (star_plain hp))).imp (rd_rg1 (R := fun i j H Q => RgOk i j ∧ ∀ q, H q = none → Q (.ref q) (upd H q (.lst (rgV i j)))) aft_rgL)
theorem okLstRg2 (hc : X.calm = true) (hg : Gl X "list") (hm : X.mg "list" = none) (hg2 : Gl X "range") (hm2 : X.mg "range" = none) (ha : OkE X a ma) (hb : OkE X b mb) (hp : plainE a = true) (hp' : plainE b = true) :
    OkE X (.Call (.Name "list" p) [.Call (.Name "range" p2) [a, b] [] q] [] pos) (eBin (opRg2 false mk) ma mb) :=
  (pe_listRg hc hg hm (prg_2 hg2 hm2 ha hb (star_plain hp) (star_plain hp') (any_plain (by simp [hp'])))).imp (rd_rg2 (R := fun i j H Q => RgOk i j ∧ ∀ q, H q = none → Q (.ref q) (upd H q (.lst (rgV i j)))) aft_rgL)
end
end AW

namespace AW
open PySem PySem.Spec PyProof.Rows L2
theorem enum_newT {v : Value} {o : Obj} {H : Heap → Prop} (B : Begins v o H) (hv : checkTypeCall "enumerate" ⟨[v], []⟩ = pure ()) :
    Meets (Builtin.«enumerate.__new__» ⟨[.type "enumerate", v], []⟩) (fun _ R s => H s.heap ∧
      R (.ok (.ret (.ref (s.heap.push o).objs.size))) { s with heap := (s.heap.push o).push { cls := .type "enumerate", data := .fields #[.none, .bool false, .ref s.heap.objs.size, rawInt 0, .none, .none] } }) :=
  .of_wp fun prog w A R s h => by
    obtain ⟨hp, g, d, tk, os⟩ := s; obtain ⟨h1, h⟩ := h
    have hsub := sub_enumerate
    have q1 : ∀ {A' : Around} {E : Value → Shared → Prop} {Q : Value → Shared → Prop}, Q (.ref hp.objs.size) ⟨hp.push o, g, d, tk, os⟩ → wpAny (model prog w) A' (pyIter v) Q E ⟨hp, g, d, tk, os⟩ :=
      fun q => B.iter prog w _ _ ⟨hp, g, d, tk, os⟩ _ h1 q
    wp_walk using q1
    refine wpAny_stack_any fun st => wpAny_pure ?_
    split
    · rename_i c _ _ _ _ _
      cases (c == Value.type "enumerate")
      · wp_walk using q1
        exact ⟨_, rfl, h⟩
      · wp_walk using q1
        exact ⟨_, rfl, h⟩
    · wp_walk using q1
      exact ⟨_, rfl, h⟩
theorem call_enumT {prog : Program} {w : World} {A : Around} {E : Value → Shared → Prop} {s : Shared} {t : Addr} {items : Array Value} {Q : Value → Shared → Prop} (h1 : s.heap.IsTuple t items)
    (h : ∀ h', IsEnum h' (s.heap.objs.size + 1) s.heap.objs.size 0 .none → h'.IsTupleIter s.heap.objs.size t 0 → h'.objs.size = s.heap.objs.size + 2 →
      (∀ b o, s.heap.get? b = some o → h'.get? b = some o) → Q (.ref (s.heap.objs.size + 1)) { s with heap := h' }) :
    wpAny (model prog w) A (call (.type "enumerate") [.ref t]) Q E s := by
  have B := begins_tuple t items
  refine callType_new F.called_enumerate (by decide) (F.typeCall_enumerate_1 _) (F.newCall_enumerate_1 _) (fun obj => F.args_object_init_2 obj _) F.entry_enumerate_new
    (enum_newT B (F.typeCall_enumerate_1 _)) ⟨h1, ?_⟩
  generalize ho : ({ cls := .type "tuple_iterator", data := .fields #[.ref t, .int 0 0] } : Obj) = o
  have hz : (s.heap.push o).objs.size = s.heap.objs.size + 1 := Heap.size_push ..
  show _ ∧ _
  rw [hz]
  have he : IsEnum ((s.heap.push o).push { cls := .type "enumerate", data := .fields #[.none, .bool false, .ref s.heap.objs.size, rawInt 0, .none, .none] }) (s.heap.objs.size + 1) s.heap.objs.size 0 .none := by
    have := Heap.get?_push_size (s.heap.push o) (o := { cls := .type "enumerate", data := .fields #[.none, .bool false, .ref s.heap.objs.size, rawInt 0, .none, .none] }) rfl
    rw [hz] at this; exact this
  refine ⟨⟨_, he, rfl⟩, h _ he ⟨o, Heap.get?_push_of_some _ (Heap.get?_push_size _ (by rw [← ho]; rfl)), by rw [← ho], by rw [← ho]; rfl⟩ (by rw [Heap.size_push, hz]) fun b o x => Heap.get?_push_of_some _ (Heap.get?_push_of_some _ x)⟩
theorem turn_enumT {P : Program} {w : World} {K : PySem.W.Frag} {elts : List Expr} {kk : Nat} {tpos : Pos} (a e it : Addr) :
    Turn P w K (.Tuple elts kk tpos) (IteT K a) [e, it] e (fun i h => (∃ old, IsEnum h e it ((i : Nat) : Int) old) ∧ h.IsTupleIter it a i ∧ e ≠ it ∧ a ≠ it ∧ a ≠ e) where
  mem := by simp
  obj := fun i h st b hb => by
    obtain ⟨⟨old, he⟩, ⟨o, ho, hc, hd⟩, _⟩ := st
    have e' : b = e ∨ b = it := by simpa using hb
    rcases e' with z | z
    · rw [z]; exact ⟨_, he, fun v q => nomatch q⟩
    · rw [z]; exact ⟨o, ho, fun v q => by rw [hd] at q; cases q⟩
  keep := fun i h h' st k => let ⟨⟨old, he⟩, hi, hne⟩ := st; ⟨⟨old, k e (by simp) _ he⟩, hi.at fun o q => k it (by simp) o q, hne⟩
  item := by
    intro X hP hw hK hc i pins s σ H E I hf st hg
    subst hP hw hK
    obtain ⟨⟨old, he⟩, hit, hne, hai, hae⟩ := st
    obtain ⟨xs, x, hq, hx⟩ := hg
    obtain ⟨its, rv, p, hz⟩ := I.tuple hq
    obtain ⟨u, hu, ru⟩ := rv.get hx
    have hel : e < s.heap.objs.size := Heap.lt_size he
    have hil : it < s.heap.objs.size := by obtain ⟨_, q, _⟩ := hit; exact Heap.lt_size q
    have pT : s.heap.IsTuple a its.toArray := p
    have hil2 : i < its.toArray.size := by
      have := (List.getElem?_eq_some_iff.mp hu).1
      simpa using this
    refine wpAny_pyNext_enum_itemD (Draws.tuple (A := X.A.in1) (I.ok.hd hc) it a hai its.toArray) he ⟨hit, pT⟩ hil2 hne (by simp [hne, Ne.symm hae]) fun x' h' tk hP ho hs' hT hsz hk => ?_
    have ex : x' = u := by
      have : its[i]? = some x' := by simpa using hP
      rw [hu] at this; exact (Option.some.inj this).symm
    subst ex
    refine ⟨_, rfl, wpAny_letOwnedTupleGo_enum (s := { s with heap := h', toks := tk + 1 }) ho fun h'' he' sb => ?_⟩
    have hT2 : h''.get? s.heap.objs.size = some { cls := .type "tuple", data := .seq #[.int i tk, x'] } := (sb.2 _ (Nat.ne_of_gt hel)).trans hT
    have new : ObjOk X.prog X.w (upd H s.heap.objs.size (.tup [.int (i : Nat), x])) h'' s.heap.objs.size (.tup [.int (i : Nat), x]) :=
      ⟨by show 2 ≤ sizeLine; decide, [.int i tk, x'], .cons ⟨_, rfl⟩ (.cons ru .nil), ⟨_, hT2, rfl, _, rfl⟩⟩
    have I1 : Inv X pins σ (upd H s.heap.objs.size (.tup [.int (i : Nat), x])) { s with heap := h'', toks := tk + 1 } :=
      I.turnedNew (ch := [e, it]) (fun b ob hb q => (sb.2 b (fun z => hb (by simp [z]))).trans (hk b ob (fun z => hb (by simp [z])) (fun z => hb (by simp [z])) q)) hf (Nat.le_refl _) new
    refine ⟨.ref s.heap.objs.size, _, I1, rfl, ⟨_, x, rfl, I.hok.fresh (Nat.le_refl _), rfl, fun ys hy => by rw [I.tuple_inj hy hq]; exact hx⟩, ⟨⟨x', ?_⟩, hs'.1.at fun o q => (sb.2 it (Ne.symm hne)).trans q, hne, hai, hae⟩, fun b hb => ?_⟩
    · have e1 : ((i + 1 : Nat) : Int) = (i : Int) + 1 := by omega
      rw [e1]; exact he'
    · have hb' : b < s.heap.objs.size := by
        have e' : b = e ∨ b = it := by simpa using hb
        rcases e' with z | z
        · rw [z]; exact hel
        · rw [z]; exact hil
      rw [upd_ne (Nat.ne_of_lt hb')]
      exact (hf b hb).1
  done := by
    intro X hP hw hK hc i pins s σ H E I hf st hg
    subst hP hw hK
    obtain ⟨⟨old, he⟩, hit, hne, hai, hae⟩ := st
    obtain ⟨xs, hq, hx⟩ := hg
    obtain ⟨its, rv, p, hz⟩ := I.tuple hq
    obtain ⟨f0, f1, f2, f3, f4, f5⟩ := hf it (by simp)
    have hl := rv.length
    have pT : s.heap.IsTuple a its.toArray := p
    have hn : its.toArray[i]? = none := by simp; omega
    have hTt : s.TypeIs (.ref e) "enumerate" := ⟨_, he, rfl⟩
    unfold pyNext
    refine wpAny_bind (wpAny_attempt (wpAny_callSpecial?_slot (name := Str.ofString "__next__") hTt F.slot_enumerate_next
      (wpAny_call_entry F.slot_enumerate_next hTt F.entry_enumerate_next ?_ (F.args_enumerate_next_1 _))))
    show wpAny _ _ (field (.ref e) 2 >>= _) _ _ _
    refine wpAny_bind (wpAny_field he rfl (x := .ref it) rfl ?_)
    refine wpAny_bind (wpAny_nextOf_tuple_end (I.ok.hd hc) hit pT hn fun h' x he' hx' => ?_)
    obtain ⟨o, ho, hcc⟩ := hx'
    refine wpAny_bind (wpAny_isInstance (T := "StopIteration") (b := true) ⟨o, ho, hcc⟩ isSubtype_stop ?_)
    exact wpAny_pure ⟨rfl, I.turned (t' := s.toks) (fun b o hb q => he' b o hb q) f0 f1 f3 f4 f5⟩
  self := fun A i s Q E st h => let ⟨⟨_, he⟩, _⟩ := st; wpAny_pyIter_enum he h
theorem pi_enumT {X : Cx} {e : Expr} {ta : TA} {p pos tpos : Pos} {elts : List Expr} {kk : Nat} (hg : Gl X "enumerate") (hm : X.mg "enumerate" = none) (ha : PA X [e] ta) (hs : starEach [e] X.env = [(false, eval e X.env)]) :
    PI X (.Tuple elts kk tpos) (.Call (.Name "enumerate" p) [e] [] pos) (iEnumT X.K ta) := by
  refine ⟨fun pins s σ H R I h => ?_⟩
  refine Call_ (ld_blt I hg hm boot_enumerate (PyProof.Rows.callWith_type1 (thn (ha.run pos pins s σ H _ I h) fun us s1 ⟨vs, H1, I1, r1, q1⟩ => ?_) hs rfl))
  obtain ⟨a, xs, ex, hq, q⟩ := q1
  subst ex
  cases r1 with
  | cons r rr =>
    cases rr
    cases r
    obtain ⟨its, rv, p', hz⟩ := I1.tuple hq
    have pT : s1.heap.IsTuple a its.toArray := p'
    have hal : a < s1.heap.objs.size := by obtain ⟨_, q, _⟩ := p'; exact Heap.lt_size q
    refine call_enumT pT fun h' he hit hsz hk => wpAny_pyIter_enum he ?_
    have I2 : Inv X pins σ H1 { s1 with heap := h' } := I1.kept (t' := s1.toks) hk
    refine ⟨s1.heap.objs.size + 1, [s1.heap.objs.size + 1, s1.heap.objs.size], _, _, H1, rfl, I2, turn_enumT a (s1.heap.objs.size + 1) s1.heap.objs.size, ⟨⟨.none, he⟩, hit, Nat.succ_ne_self _, Nat.ne_of_lt hal, Nat.ne_of_lt (Nat.lt_succ_of_lt hal)⟩, fun b hb => ?_, q⟩
    have e' : b = s1.heap.objs.size + 1 ∨ b = s1.heap.objs.size := by simpa using hb
    have hle : s1.heap.objs.size ≤ b := by
      rcases e' with z | z
      · rw [z]; exact Nat.le_add_right _ _
      · rw [z]; exact Nat.le_refl _
    exact I1.fpOk hle (I1.hok.fresh hle)
end AW

namespace AW
open PySem PySem.Spec PyProof.Rows L2

/-! ### targets -/
abbrev SemG := D → Env → Sto → M Env
/-- σ' is σ but at the slots vs -/
def Touch (vs : List Nat) (σ σ' : L2.St) : Prop := σ'.length = σ.length ∧ ∀ i, i ∉ vs → σ'[i]? = σ[i]?
def rdG (K : PySem.W.Frag) (vs : List Nat) (m : SemG) : TG := fun v σ H Q => ∃ w E S d E' S', SimC K w H S ∧ SimE K w σ E ∧ Rp K w d v ∧ m d E S = some (E', S') ∧
  ∀ σ' w' H', Ext w H w' H' → SimC K w' H' S' → SimE K w' σ' E' → Touch vs σ σ' → Q σ' H'
abbrev OkG (X : Cx) (tg : Expr) (vs : List Nat) (m : SemG) : Prop := PG X tg (rdG X.K vs m)
abbrev SemGs := List D → Env → Sto → M Env
def rdGs (K : PySem.W.Frag) (vs : List Nat) (m : SemGs) : TGs := fun xs σ H Q => ∃ w E S ds E' S', SimC K w H S ∧ SimE K w σ E ∧ RpL K w ds xs ∧ m ds E S = some (E', S') ∧
  ∀ σ' w' H', Ext w H w' H' → SimC K w' H' S' → SimE K w' σ' E' → Touch vs σ σ' → Q σ' H'
abbrev OkGs (X : Cx) (tgs : List Expr) (vs : List Nat) (m : SemGs) : Prop := PGs X tgs (rdGs X.K vs m)
theorem _root_.L2.PG.imp {X : Cx} {tg : Expr} {t t' : TG} (h : PG X tg t) (k : ∀ v σ H Q, t' v σ H Q → t v σ H Q) : PG X tg t' := ⟨fun pins s σ H v u Q I r q => h.run pins s σ H v u Q I r (k v σ H Q q)⟩
theorem _root_.L2.PGs.imp {X : Cx} {tg : List Expr} {t t' : TGs} (h : PGs X tg t) (k : ∀ v σ H Q, t' v σ H Q → t v σ H Q) : PGs X tg t' := ⟨fun pins s σ H v u Q I r q => h.run pins s σ H v u Q I r (k v σ H Q q)⟩
theorem _root_.L2.PG.or {X : Cx} {tg : Expr} {t t' : TG} (h : PG X tg t) (h' : PG X tg t') : PG X tg (fun v σ H Q => t v σ H Q ∨ t' v σ H Q) :=
  ⟨fun pins s σ H v u Q I r q => q.elim (fun q => h.run pins s σ H v u Q I r q) fun q => h'.run pins s σ H v u Q I r q⟩
theorem Touch.refl (σ : L2.St) : Touch [] σ σ := ⟨rfl, fun _ _ => rfl⟩
theorem Touch.trans {vs us : List Nat} {σ σ1 σ2 : L2.St} (a : Touch vs σ σ1) (b : Touch us σ1 σ2) : Touch (vs ++ us) σ σ2 :=
  ⟨b.1.trans a.1, fun i h => by rw [List.mem_append, not_or] at h; exact (b.2 i h.2).trans (a.2 i h.1)⟩
theorem SimE.set {K : PySem.W.Frag} {w : Wd} {σ : L2.St} {E : Env} {i : Nat} {d : D} {v : V} (se : SimE K w σ E) (hi : i < σ.length) (r : Rp K w d v) : SimE K w (σ.set i (some v)) (E.set i (some d)) := fun j d' h => by
  by_cases e : j = i
  · subst e
    have hl : j < E.length := by
      have := (List.getElem?_eq_some_iff.mp h).1
      simpa using this
    rw [List.getElem?_set_self hl] at h
    cases h
    exact ⟨v, List.getElem?_set_self hi, r⟩
  · rw [List.getElem?_set_ne (Ne.symm e)] at h ⊢
    exact se j d' h
def gVar (i : Nat) : SemG := fun d E S => if i < E.length then some (E.set i (some d), S) else none
def gsNil : SemGs := fun ds E S => match ds with | [] => some (E, S) | _ => none
def gsCons (g : SemG) (gs : SemGs) : SemGs := fun ds E S => match ds with
  | [] => none
  | d :: ds => (g d E S).bind fun p => gs ds p.1 p.2
def gUnpack (n : Nat) (gs : SemGs) : SemG := fun d E S => match seqOf S d with
  | some ds => if ds.length = n then gs ds E S else none
  | none => none
section
variable {X : Cx} {tg a b : Expr} {pos : Pos}
theorem okGVar {i : Nat} {x : Str} (hN : X.N.Nodup) (hi : X.N[i]? = some x) (hx : Loc X.env.scope x) (hf : X.fn x = true ∨ X.env.scope.names.lookup x = some .local) (hlen : ∀ w E σ, SimE X.K w σ E → True) : OkG X (.Name x pos) [i] (fun d E S => some (E.set i (some d), S)) := by
  refine ⟨fun pins s σ H v u Q I r h => ?_⟩
  obtain ⟨w, E, S, d, E', S', c, se, rd, e, q⟩ := h
  cases e
  have hi' : i < σ.length := by rw [I.len]; exact (List.getElem?_eq_some_iff.mp hi).1
  exact (pg_name hN hi hx hf).run pins s σ H v u Q I r (q _ w H (Ext.refl _ _) c (se.set hi' rd) ⟨by simp, fun j hj => by
    have : j ≠ i := by simpa using hj
    rw [List.getElem?_set_ne (Ne.symm this)]⟩)
theorem okGsNil : OkGs X [] [] gsNil := pgs_nil.imp fun xs σ H Q ⟨w, E, S, ds, E', S', c, se, rd, e, q⟩ => by
  cases ds with
  | cons _ _ => cases e
  | nil =>
    cases e
    exact ⟨rd.nil_inv, q σ w H (Ext.refl _ _) c se (Touch.refl _)⟩
theorem okGsCons {e : Expr} {es : List Expr} {g : SemG} {gs : SemGs} {vs us : List Nat} (h : OkG X e vs g) (hs : OkGs X es us gs) (ha : (assignEach (e :: es) X.env).map (·.2) = assign e X.env :: (assignEach es X.env).map (·.2)) : OkGs X (e :: es) (vs ++ us) (gsCons g gs) := by
  refine (pgs_cons h hs ha).imp fun xs σ H Q ⟨w, E, S, ds, E', S', c, se, rd, e, q⟩ => ?_
  cases ds with
  | nil => cases e
  | cons d ds =>
    obtain ⟨x, r, rfl, r1, r2⟩ := rd.cons_inv
    simp only [gsCons] at e
    cases hg : g d E S with
    | none => rw [hg] at e; cases e
    | some p =>
      obtain ⟨E1, S1⟩ := p
      rw [hg] at e
      refine ⟨x, r, rfl, w, E, S, d, E1, S1, c, se, r1, hg, fun σ1 w1 H1 x1 c1 se1 t1 => ?_⟩
      exact ⟨w1, E1, S1, ds, E', S', c1, se1, r2.mono x1.le, e, fun σ2 w2 H2 x2 c2 se2 t2 => q σ2 w2 H2 (x1.trans x2) c2 se2 (t1.trans t2)⟩
theorem okGUnpack {es : List Expr} {k n : Nat} {gs : SemGs} {vs : List Nat} (hc : X.calm = true) (h : OkGs X es vs gs) (hn : (assignEach es X.env).length = n) (hst : (assignEach es X.env).findIdx? (·.1) = none) : OkG X (.Tuple es k pos) vs (gUnpack n gs) := by
  refine ((pg_tup hc h hn hst).or (pg_unl hc h hn hst)).imp fun v σ H Q ⟨w, E, S, d, E', S', c, se, rd, e, q⟩ => ?_
  simp only [gUnpack] at e
  split at e
  · rename_i ds hs
    split at e
    · rename_i hl
      cases d with
      | tup es =>
        cases hs
        obtain ⟨a, xs, rfl, h1, _, h3⟩ := tup_ok c rd
        exact .inl ⟨a, xs, rfl, h1, by rw [← h3.len]; exact hl, w, E, S, _, E', S', c, se, h3, e, q⟩
      | _ =>
        obtain ⟨a, xs, rfl, h1, h3⟩ := readS_ok c (by simpa only [seqOf] using hs) rd
        exact .inr ⟨a, xs, rfl, h1, by rw [← h3.len]; exact hl, w, E, S, _, E', S', c, se, h3, e, q⟩
    · cases e
  · cases e
/-- o[i] = .. of a list in a cell -/
def gSubS (o i : SemE) : SemG := fun d E S => (o E S).bind fun p => (i E p.2).bind fun q => match p.1, q.1 with
  | .ref r, .int k => match q.2[r]? with
    | some (.lst es) => match ixN es.length k with
      | some j => some (E, q.2.set r (.lst (es.set j d)))
      | none => none
    | _ => none
  | _, _ => none
theorem okGSub {mo mi : SemE} (ho : OkE X a mo) (hi : OkE X b mi) (ha : ∀ v, assign (.Subscript a b pos) X.env v = (do
      let ov ← holding [v] (eval a X.env)
      let iv ← holding [v, ov] (eval b X.env)
      standAt pos
      holding [v, ov, iv] (setItem ov iv v)
      release [v, ov, iv] [])) : OkG X (.Subscript a b pos) [] (gSubS mo mi) := by
  refine (pg_sub ho hi set_list ha).imp fun v σ H Q ⟨w, E, S, d, E', S', c, se, rd, e, q⟩ => ?_
  simp only [gSubS] at e
  cases h1 : mo E S with
  | none => rw [h1] at e; cases e
  | some p =>
    obtain ⟨p, S1⟩ := p
    rw [h1] at e
    simp only [Option.bind_some] at e
    refine ⟨w, E, S, c, se, p, S1, h1, fun x w1 H1 x1 c1 r1 => ?_⟩
    cases h2 : mi E S1 with
    | none => rw [h2] at e; cases e
    | some p2 =>
      obtain ⟨p2, S2⟩ := p2
      rw [h2] at e
      simp only [Option.bind_some] at e
      refine ⟨w1, E, S1, c1, se.mono x1.le, p2, S2, h2, fun y w2 H2 x2 c2 r2 => ?_⟩
      split at e
      · rename_i r k
        split at e
        · rename_i es he
          split at e
          · rename_i j hj
            cases e
            obtain ⟨a, xs, rfl, g1, g2, g3⟩ := cell_ok c2 he (r1.mono x2.le)
            refine ⟨a, xs, k, j, rfl, rp_int' r2, g2, by rw [← g3.len]; exact hj, ?_⟩
            obtain ⟨c', x'⟩ := write_cell c2 (o := .lst (xs.set j v)) (co := .lst (es.set j d)) g1 ⟨_, rfl, g3.set j (rd.mono (x1.trans x2).le)⟩
            exact q σ _ _ ((x1.trans x2).trans x') c' (se.mono (x1.trans x2).le |>.mono x'.le) (Touch.refl _)
          · cases e
        · cases e
      · cases e
end

/-! ### comprehensions -/
def lcLoop (step : D → Sto → M (Option D)) (chk : Chk) : List D → List D → Sto → M (List D)
  | [], acc, S => if stable chk S then some (acc, S) else none
  | d :: ds, acc, S => if stable chk S then (step d S).bind fun p => lcLoop step chk ds (match p.1 with | some y => acc ++ [y] | none => acc) p.2 else none
def wipeE (E : Env) : List Nat → Env
  | [] => E
  | v :: vs => (wipeE E vs).set v none
theorem SimE.wipe {K : PySem.W.Frag} {w : Wd} {σ : L2.St} {E : Env} (se : SimE K w σ E) : ∀ vs : List Nat, SimE K w (L2.wipe σ vs) (wipeE E vs)
  | [] => se
  | v :: vs => fun i d h => by
    have ih := SimE.wipe se vs
    unfold wipeE at h
    by_cases e : v = i
    · subst e
      by_cases hl : v < (wipeE E vs).length
      · rw [List.getElem?_set_self hl] at h; cases h
      · rw [List.getElem?_eq_none (by simpa using hl)] at h; cases h
    · rw [List.getElem?_set_ne e] at h
      obtain ⟨x, h1, h2⟩ := ih i d h
      unfold L2.wipe
      exact ⟨x, by rw [List.getElem?_set_ne e]; exact h1, h2⟩
theorem Touch.wipe {vs us : List Nat} {σ σ' : L2.St} (t : Touch us σ σ') (h : ∀ i ∈ us, i ∈ vs) : L2.wipe σ' vs = L2.wipe σ vs := by
  refine List.ext_getElem? fun i => ?_
  by_cases hi : i ∈ vs
  · have : ∀ {rhw : L2.St} {ws : List Nat}, i ∈ ws → (L2.wipe rhw ws)[i]? = if i < rhw.length then some none else none := by
      intro rhw ws
      induction ws with
      | nil => intro h; cases h
      | cons v ws ih =>
        intro h
        unfold L2.wipe
        by_cases e : v = i
        · subst e
          by_cases hl : v < rhw.length
          · rw [List.getElem?_set_self (by rw [wipe_length]; exact hl), if_pos hl]
          · rw [List.getElem?_eq_none (by rw [List.length_set, wipe_length]; omega), if_neg hl]
        · rw [List.getElem?_set_ne e]
          exact ih ((List.mem_cons.mp h).resolve_left (Ne.symm e))
    rw [this hi, this hi, t.1]
  · rw [wipe_out hi, wipe_out hi]
    exact t.2 i fun z => hi (h i z)
def lcStep (g : SemG) (t : SemT) (elt : SemE) (own : List Nat) (E : Env) : D → Sto → M (Option D) := fun d S =>
  (g d (wipeE E own) S).bind fun p => (t p.1 p.2).bind fun q => if q.1 = true then (elt p.1 q.2).bind fun r => some (some r.1, r.2) else some (none, q.2)
/-- [elt for tg in it if t] -/
def eComp (mk : Bool) (it : SemI) (g : SemG) (t : SemT) (elt : SemE) (own : List Nat) : SemE := fun E S =>
  (it E S).bind fun p => if p.1.1.length ≤ LIM then (lcLoop (lcStep g t elt own E) p.1.2 p.1.1 [] p.2).bind fun q => newL mk q.1 q.2 else none
def tTrue : SemT := fun _ S => some (true, S)
/-- an object beside the store -/
structure Aside (w : Wd) (D : Addr) : Prop where
  f : w.F D = none
  b : w.B D = none
  p : D ∉ w.rhw
section
variable {K : PySem.W.Frag} {w w' w1 : Wd} {H H' H1 : Hp} {S : Sto} {D : Addr} {o u : HO}
theorem Aside.ext (n : Aside w D) (x : Ext w H w' H') (h : H D = some o) : Aside w' D ∧ H' D = some o := by
  refine ⟨⟨x.ff D (by rw [h]; simp) n.f, by rw [x.b]; exact n.b, fun hm => ?_⟩, x.keep D o h n.p⟩
  obtain ⟨m, e, f⟩ := x.p
  rw [e] at hm
  rcases List.mem_append.mp hm with hm | hm
  · exact n.p hm
  · rw [f D hm] at h; cases h
theorem Aside.new (c : SimC K w H S) (h : H D = none) : Aside w D := by
  refine ⟨?_, ?_, fun hm => ?_⟩
  · cases q : w.F D with
    | none => rfl
    | some u => rw [c.fs D u q] at h; cases h
  · cases q : w.B D with
    | none => rfl
    | some u => rw [c.bs D u q] at h; cases h
  · obtain ⟨u, q⟩ := c.some hm
    rw [h] at q; cases q
/-- such an object is written -/
theorem aside_write (c : SimC K w H S) (n : Aside w D) : SimC K w (upd H D u) S := by
  have k : ∀ b v, b ≠ D → H b = some v → upd H D u b = some v := fun b v hb h => by rw [upd_ne hb]; exact h
  refine ⟨fun b v h => k b v (fun e => ?_) (c.fs b v h), fun b v h => k b v (fun e => ?_) (c.bs b v h), c.len, c.nd, c.nf, fun i co h => ?_⟩
  · rw [e, n.f] at h; cases h
  · rw [e, n.b] at h; cases h
  · obtain ⟨b, v, h1, h2, h3⟩ := c.cell i co h
    exact ⟨b, v, h1, k b v (fun e => n.p (e ▸ List.mem_of_getElem? h1)) h2, h3⟩
/-- .. from a heap that does not have it yet -/
theorem ext_write (x : Ext w1 H1 w H) (h1 : H1 D = none) : Ext w1 H1 w (upd H D u) := by
  refine ⟨x.p, x.f, x.b, x.ff, fun a v h hn => ?_, fun a h => ?_⟩
  · rw [upd_ne (fun e => by rw [e, h1] at h; cases h)]
    exact x.keep a v h hn
  · by_cases e : a = D
    · rw [e, upd_same]; simp
    · rw [upd_ne e]; exact x.dom a h
/-- it is frozen -/
theorem aside_frz (c : SimC K w H S) (n : Aside w D) (h : H D = some o) (x : Ext w1 H1 w H) (h1 : H1 D = none) : SimC K { w with F := upd w.F D o } H S ∧ Ext w1 H1 { w with F := upd w.F D o } H ∧ WdLe w { w with F := upd w.F D o } := by
  have fk : Sub w.F (upd w.F D o) := fun a v q => by rw [upd_ne (ne_of_none q n.f)]; exact q
  have le : WdLe w { w with F := upd w.F D o } := ⟨⟨[], by simp⟩, fk, Sub.refl _⟩
  refine ⟨⟨fun a v q => ?_, c.bs, c.len, c.nd, fun a ha => ⟨?_, (c.nf a ha).2⟩, fun i co q => ?_⟩, ⟨x.p, x.f.trans fk, x.b, fun a q r => ?_, x.keep, x.dom⟩, le⟩
  · have q : upd w.F D o a = some v := q
    by_cases e : a = D
    · subst e; rw [upd_same] at q; cases q; exact h
    · rw [upd_ne e] at q; exact c.fs a v q
  · show upd w.F D o a = none
    rw [upd_ne (fun e => n.p (by rw [← e]; exact ha))]; exact (c.nf a ha).1
  · obtain ⟨b, v, g1, g2, g3⟩ := c.cell i co q
    exact ⟨b, v, g1, g2, g3.mono le⟩
  · show upd w.F D o a = none
    rw [upd_ne (fun e => q (by rw [e]; exact h1))]
    exact x.ff a q r
/-- it becomes a cell -/
theorem aside_cell {co : CO} (c : SimC K w H S) (n : Aside w D) (h : H D = some o) (r : RpO K w co o) (x : Ext w1 H1 w H) (h1 : H1 D = none) : SimC K { w with rhw := w.rhw ++ [D] } H (S ++ [co]) ∧ Ext w1 H1 { w with rhw := w.rhw ++ [D] } H ∧ WdLe w { w with rhw := w.rhw ++ [D] } := by
  have le : WdLe w { w with rhw := w.rhw ++ [D] } := ⟨⟨[D], rfl⟩, Sub.refl _, Sub.refl _⟩
  refine ⟨⟨c.fs, c.bs, by simp [c.len], ?_, fun a ha => ?_, fun i co' q => ?_⟩, ⟨?_, x.f, x.b, x.ff, x.keep, x.dom⟩, le⟩
  · show (w.rhw ++ [D]).Nodup
    refine List.nodup_append.mpr ⟨c.nd, by simp, fun a ha b hb => ?_⟩
    have : b = D := by simpa using hb
    subst this
    exact fun e => n.p (e ▸ ha)
  · have ha : a ∈ w.rhw ++ [D] := ha
    rcases List.mem_append.mp ha with ha | ha
    · exact c.nf a ha
    · have : a = D := by simpa using ha
      subst this
      exact ⟨n.f, n.b⟩
  · by_cases hi : i < S.length
    · rw [List.getElem?_append_left hi] at q
      obtain ⟨a, u, g1, g2, g3⟩ := c.cell i co' q
      exact ⟨a, u, le.ix g1, g2, g3.mono le⟩
    · have hl : i < (S ++ [co]).length := (List.getElem?_eq_some_iff.mp q).1
      have e : i = S.length := by simp at hl; omega
      subst e
      simp at q
      subst q
      exact ⟨D, o, by show (w.rhw ++ [D])[S.length]? = _; rw [← c.len]; simp, h, r.mono le⟩
  · obtain ⟨m, e, f⟩ := x.p
    refine ⟨m ++ [D], by show w.rhw ++ [D] = _; rw [e, List.append_assoc], fun a ha => ?_⟩
    rcases List.mem_append.mp ha with ha | ha
    · exact f a ha
    · have : a = D := by simpa using ha
      subst this; exact h1
end
theorem lc_len {step : D → Sto → M (Option D)} {chk : Chk} : ∀ {ds acc : List D} {S : Sto} {r : List D × Sto}, lcLoop step chk ds acc S = some r → r.1.length ≤ acc.length + ds.length
  | [], acc, S, r, h => by
    unfold lcLoop at h
    split at h
    · cases h; simp
    · cases h
  | d :: ds, acc, S, r, h => by
    unfold lcLoop at h
    split at h
    · cases hs : step d S with
      | none => rw [hs] at h; cases h
      | some p =>
        rw [hs] at h
        have := lc_len (show lcLoop step chk ds _ p.2 = some r from h)
        split at this <;> simp at this ⊢ <;> omega
    · cases h
section
/-- the turns of a comprehension's innermost loop -/
theorem lc_turns {K : PySem.W.Frag} {g : SemG} {t : SemT} {elt : SemE} {own us : List Nat} (hu : ∀ i ∈ us, i ∈ own) {E : Env} {σ : L2.St} {its : List D} {chk : Chk} {w0 w1 wc : Wd} {H1 Hc : Hp} {S2 Sc : Sto} {J : It} {D : Addr} {acc acc0 : List AW.D} {accV : List V} {QQ : Hp → Prop}
    (wk : WkD K w0 J its chk) (le : WdLe w0 wc) (hD : H1 D = none) (c : SimC K wc Hc Sc) (se : SimE K wc σ E) (x : Ext w1 H1 wc Hc) (n : Aside wc D) (hDc : Hc D = some (.lst accV)) (ra : RpL K wc acc accV) (hl : acc.length + its.length ≤ LIM)
    (e : lcLoop (lcStep g t elt own E) chk its acc Sc = some (acc0, S2))
    (hq : ∀ w' H' accV', SimC K w' H' S2 → WdLe wc w' → Ext w1 H1 w' H' → Aside w' D → H' D = some (.lst accV') → RpL K w' acc0 accV' → QQ H') :
    ∃ W : Nat → Nat → Hp → Prop, (∃ m, W 0 m Hc) ∧ ∀ i m H, W i m H →
      (J.stop i H ∧ QQ H) ∨ (J.go i H ∧ ∃ Nx : Hp → Prop, (∀ H', Nx H' → ∃ m', m' < m ∧ W (i + 1) m' H') ∧ ∀ x H', J.yld i H x H' → rdG K us g x (L2.wipe σ own) H' fun σ2 H2 => L2.wipe σ2 own = L2.wipe σ own ∧ rdT K t σ2 H2 fun b H3 =>
        if b = true then rdE K elt σ2 H3 fun y H4 => ∃ acc, H4 D = some (.lst acc) ∧ acc.length < sizeLine ∧ Nx (upd H4 D (.lst (acc ++ [y]))) else Nx H3) := by
  refine ⟨fun i m Hi => m = its.length - i ∧ i ≤ its.length ∧ ∃ wi Si ai aV, SimC K wi Hi Si ∧ WdLe wc wi ∧ Ext w1 H1 wi Hi ∧ Aside wi D ∧ Hi D = some (.lst aV) ∧ RpL K wi ai aV ∧ ai.length ≤ acc.length + i ∧ lcLoop (lcStep g t elt own E) chk (its.drop i) ai Si = some (acc0, S2), ?_, ?_⟩
  · exact ⟨its.length, rfl, Nat.zero_le _, wc, Sc, acc, accV, c, WdLe.refl _, x, n, hDc, ra, Nat.le_refl _, by simpa using e⟩
  · rintro i m Hi ⟨rfl, hi, wi, Si, ai, aV, ci, li, xi, ni, hDi, rai, hai, e⟩
    by_cases hlt : i < its.length
    · refine .inr ?_
      rw [List.drop_eq_getElem_cons hlt] at e
      unfold lcLoop at e
      split at e
      case isFalse => cases e
      rename_i st
      refine ⟨wk.go (le.trans li) ci st i hlt, fun H' => ∃ wi Si ai aV, SimC K wi H' Si ∧ WdLe wc wi ∧ Ext w1 H1 wi H' ∧ Aside wi D ∧ H' D = some (.lst aV) ∧ RpL K wi ai aV ∧ ai.length ≤ acc.length + (i + 1) ∧ lcLoop (lcStep g t elt own E) chk (its.drop (i + 1)) ai Si = some (acc0, S2),
        fun H' h => ⟨its.length - (i + 1), by omega, rfl, hlt, h⟩, fun x H' y => ?_⟩
      obtain ⟨w2, x2, c2, r2⟩ := wk.yld (le.trans li) ci st i x H' hlt y
      have r2 := r2 _ (List.getElem?_eq_getElem hlt)
      obtain ⟨n2, hD2⟩ := ni.ext x2 hDi
      cases hs : lcStep g t elt own E its[i] Si with
      | none => rw [hs] at e; cases e
      | some p =>
        rw [hs] at e
        simp only [Option.bind_some] at e
        unfold lcStep at hs
        cases hg : g its[i] (wipeE E own) Si with
        | none => rw [hg] at hs; cases hs
        | some gp =>
          obtain ⟨E1, S3⟩ := gp
          rw [hg] at hs
          simp only [Option.bind_some] at hs
          refine ⟨w2, wipeE E own, Si, its[i], E1, S3, c2, (se.mono (li.trans x2.le)).wipe own, r2, hg, fun σ3 w3 H3 x3 c3 se3 t3 => ⟨?_, ?_⟩⟩
          · have := t3.wipe (vs := own) hu
            rw [this]
            have z : Touch own σ (L2.wipe σ own) := ⟨wipe_length _ _, fun i hi => wipe_out hi⟩
            exact z.wipe fun _ h => h
          · obtain ⟨n3, hD3⟩ := n2.ext x3 hD2
            cases ht : t E1 S3 with
            | none => rw [ht] at hs; cases hs
            | some tp =>
              obtain ⟨b, S4⟩ := tp
              rw [ht] at hs
              simp only [Option.bind_some] at hs
              refine ⟨w3, E1, S3, c3, se3, b, S4, ht, fun b' w4 H4 x4 c4 r4 => ?_⟩
              subst r4
              obtain ⟨n4, hD4⟩ := n3.ext x4 hD3
              cases b with
              | false =>
                simp only [Bool.false_eq_true, if_false] at hs ⊢
                cases hs
                have xx := x2.trans (x3.trans x4)
                exact ⟨w4, S4, ai, aV, c4, li.trans xx.le, xi.trans xx, n4, hD4, rai.mono xx.le, by omega, e⟩
              | true =>
                simp only [if_true] at hs ⊢
                cases he : elt E1 S4 with
                | none => rw [he] at hs; cases hs
                | some ep =>
                  obtain ⟨y, S5⟩ := ep
                  rw [he] at hs
                  simp only [Option.bind_some] at hs
                  cases hs
                  refine ⟨w4, E1, S4, c4, se3.mono x4.le, y, S5, he, fun v w5 H5 x5 c5 r5 => ?_⟩
                  obtain ⟨n5, hD5⟩ := n4.ext x5 hD4
                  have xx := x2.trans (x3.trans (x4.trans x5))
                  have ra := rai.mono xx.le
                  refine ⟨aV, hD5, by rw [← rai.len]; exact lim_lt (by omega), w5, S5, ai ++ [y], aV ++ [v], aside_write c5 n5, li.trans xx.le, ext_write (xi.trans xx) hD, n5, upd_same, ra.append (.one r5), by simp; omega, e⟩
    · have ei : i = its.length := by omega
      subst ei
      rw [List.drop_length] at e
      unfold lcLoop at e
      split at e
      case isFalse => cases e
      rename_i st
      cases e
      exact .inl ⟨wk.stop (le.trans li) ci st, hq wi Hi aV ci li xi ni hDi rai⟩
/-- the new list, handed on -/
theorem lc_end {K : PySem.W.Frag} {mk : Bool} {w1 w' : Wd} {H1 H' : Hp} {S2 : Sto} {D : Addr} {acc0 : List AW.D} {aV : List V} {Q : VK} (q : AftM K (Rp K) w1 H1 (newL mk acc0 S2) Q) (c : SimC K w' H' S2) (x : Ext w1 H1 w' H') (n : Aside w' D) (hD : H1 D = none) (hD' : H' D = some (.lst aV)) (ra : RpL K w' acc0 aV) : Q (.ref D) H' := by
  cases mk with
  | false =>
    obtain ⟨_, _, e, q⟩ := q
    cases e
    obtain ⟨k1, k2, k3⟩ := aside_frz c n hD' x hD
    refine q _ _ _ k2 k1 ?_
    simp only [Rp]
    exact ⟨D, aV, rfl, upd_same, ra.mono k3⟩
  | true =>
    obtain ⟨_, _, e, q⟩ := q
    cases e
    obtain ⟨k1, k2, k3⟩ := aside_cell c n hD' (co := .lst acc0) ⟨aV, rfl, ra⟩ x hD
    refine q _ _ _ k2 k1 ?_
    simp only [Rp]
    exact ⟨D, by rw [← c.len]; simp, rfl⟩
/-- the reading of a comprehension -/
theorem lc_rd {K : PySem.W.Frag} {mk : Bool} {it : SemI} {g : SemG} {t : SemT} {elt : SemE} {own us : List Nat} (hu : ∀ i ∈ us, i ∈ own) :
    ∀ σ H Q, rdE K (eComp mk it g t elt own) σ H Q → tLc (rdI K it) (rdG K us g) (rdT K t) (rdE K elt) own σ H Q := fun σ H Q ⟨w, E, S, c, se, q⟩ => by
  obtain ⟨⟨its, chk⟩, S1, e1, q⟩ := aft_bind q
  by_cases hlim : its.length ≤ LIM
  case neg => simp only at q; rw [if_neg hlim] at q; exact (aftM_none q).elim
  simp only at q
  rw [if_pos hlim] at q
  refine ⟨w, E, S, c, se, (its, chk), S1, e1, fun J w1 H1 x1 c1 wk => fun D hD => ?_⟩
  have q := q.ext x1
  obtain ⟨acc0, S2, e2, q⟩ := aft_bind q
  have n := Aside.new c1 hD
  exact lc_turns (accV := []) hu wk (WdLe.refl _) hD (aside_write c1 n) (se.mono x1.le) (ext_write (Ext.refl _ _) hD) n upd_same .nil (by simpa using hlim) e2 fun w' H' aV c' _ x' n' hD' ra => lc_end q c' x' n' hD hD' ra
/-- [elt for tg in it if t for tg1 in it1 if t1] -/
def lc2Loop (g : SemG) (t : SemT) (it1 : SemI) (g1 : SemG) (t1 : SemT) (elt : SemE) (own vs1 : List Nat) (E : Env) (chk : Chk) : List D → List D → Sto → M (List D)
  | [], acc, S => if stable chk S then some (acc, S) else none
  | d :: ds, acc, S => if stable chk S then (g d (wipeE E own) S).bind fun p => (t p.1 p.2).bind fun q =>
      if q.1 = true then (it1 p.1 q.2).bind fun r => if acc.length + r.1.1.length ≤ LIM then (lcLoop (lcStep g1 t1 elt vs1 p.1) r.1.2 r.1.1 acc r.2).bind fun s => lc2Loop g t it1 g1 t1 elt own vs1 E chk ds s.1 s.2 else none
      else lc2Loop g t it1 g1 t1 elt own vs1 E chk ds acc q.2
    else none
def eComp2 (mk : Bool) (it : SemI) (g : SemG) (t : SemT) (it1 : SemI) (g1 : SemG) (t1 : SemT) (elt : SemE) (own vs1 : List Nat) : SemE := fun E S =>
  (it E S).bind fun p => (lc2Loop g t it1 g1 t1 elt own vs1 E p.1.2 p.1.1 [] p.2).bind fun q => newL mk q.1 q.2
theorem lc2_rd {K : PySem.W.Frag} {mk : Bool} {it it1 : SemI} {g g1 : SemG} {t t1 : SemT} {elt : SemE} {own us vs1 us1 : List Nat} (hu : ∀ i ∈ us, i ∈ own) (hu1 : ∀ i ∈ us1, i ∈ vs1) :
    ∀ σ H Q, rdE K (eComp2 mk it g t it1 g1 t1 elt own vs1) σ H Q → tLc2 (rdI K it) (rdG K us g) (rdT K t) (rdI K it1) (rdG K us1 g1) (rdT K t1) (rdE K elt) own vs1 σ H Q := fun σ H Q ⟨w, E, S, c, se, q⟩ => by
  obtain ⟨⟨its, chk⟩, S1, e1, q⟩ := aft_bind q
  simp only at q
  refine ⟨w, E, S, c, se, (its, chk), S1, e1, fun J w1 H1 x1 c1 wk => fun D hD => ?_⟩
  have q := q.ext x1
  obtain ⟨acc0, S2, e2, q⟩ := aft_bind q
  have n := Aside.new c1 hD
  refine ⟨fun i m Hi => m = its.length - i ∧ i ≤ its.length ∧ ∃ wi Si ai aV, SimC K wi Hi Si ∧ WdLe w1 wi ∧ Ext w1 H1 wi Hi ∧ Aside wi D ∧ Hi D = some (.lst aV) ∧ RpL K wi ai aV ∧ lc2Loop g t it1 g1 t1 elt own vs1 E chk (its.drop i) ai Si = some (acc0, S2), ?_, ?_⟩
  · exact ⟨its.length, rfl, Nat.zero_le _, w1, S1, [], [], aside_write c1 n, WdLe.refl _, ext_write (Ext.refl _ _) hD, n, upd_same, .nil, by simpa using e2⟩
  · rintro i m Hi ⟨rfl, hi, wi, Si, ai, aV, ci, li, xi, ni, hDi, rai, e⟩
    by_cases hlt : i < its.length
    · refine .inr ?_
      rw [List.drop_eq_getElem_cons hlt] at e
      unfold lc2Loop at e
      split at e
      case isFalse => cases e
      rename_i st
      refine ⟨wk.go li ci st i hlt, fun H' => ∃ wi Si ai aV, SimC K wi H' Si ∧ WdLe w1 wi ∧ Ext w1 H1 wi H' ∧ Aside wi D ∧ H' D = some (.lst aV) ∧ RpL K wi ai aV ∧ lc2Loop g t it1 g1 t1 elt own vs1 E chk (its.drop (i + 1)) ai Si = some (acc0, S2),
        fun H' h => ⟨its.length - (i + 1), by omega, rfl, hlt, h⟩, fun x H' y => ?_⟩
      obtain ⟨w2, x2, c2, r2⟩ := wk.yld li ci st i x H' hlt y
      have r2 := r2 _ (List.getElem?_eq_getElem hlt)
      obtain ⟨n2, hD2⟩ := ni.ext x2 hDi
      cases hg : g its[i] (wipeE E own) Si with
      | none => rw [hg] at e; cases e
      | some gp =>
        obtain ⟨E1, S3⟩ := gp
        rw [hg] at e
        simp only [Option.bind_some] at e
        refine ⟨w2, wipeE E own, Si, its[i], E1, S3, c2, (se.mono (x1.le.trans (li.trans x2.le))).wipe own, r2, hg, fun σ3 w3 H3 x3 c3 se3 t3 => ⟨?_, ?_⟩⟩
        · have := t3.wipe (vs := own) hu
          rw [this]
          have z : Touch own σ (L2.wipe σ own) := ⟨wipe_length _ _, fun i hi => wipe_out hi⟩
          exact z.wipe fun _ h => h
        · obtain ⟨n3, hD3⟩ := n2.ext x3 hD2
          cases ht : t E1 S3 with
          | none => rw [ht] at e; cases e
          | some tp =>
            obtain ⟨b, S4⟩ := tp
            rw [ht] at e
            simp only [Option.bind_some] at e
            refine ⟨w3, E1, S3, c3, se3, b, S4, ht, fun b' w4 H4 x4 c4 r4 => ?_⟩
            subst r4
            obtain ⟨n4, hD4⟩ := n3.ext x4 hD3
            have xx := x2.trans (x3.trans x4)
            cases b with
            | false =>
              simp only [Bool.false_eq_true, if_false] at e ⊢
              exact ⟨w4, S4, ai, aV, c4, li.trans xx.le, xi.trans xx, n4, hD4, rai.mono xx.le, e⟩
            | true =>
              simp only [if_true] at e ⊢
              cases hr : it1 E1 S4 with
              | none => rw [hr] at e; cases e
              | some rp =>
                obtain ⟨⟨its1, chk1⟩, S5⟩ := rp
                rw [hr] at e
                simp only [Option.bind_some] at e
                split at e
                case isFalse => cases e
                rename_i hlim
                cases hin : lcLoop (lcStep g1 t1 elt vs1 E1) chk1 its1 ai S5 with
                | none => rw [hin] at e; cases e
                | some sp =>
                  obtain ⟨acc1, S6⟩ := sp
                  rw [hin] at e
                  simp only [Option.bind_some] at e
                  refine ⟨w4, E1, S4, c4, se3.mono x4.le, (its1, chk1), S5, hr, fun J1 w5 H5 x5 c5 wk1 => ?_⟩
                  obtain ⟨n5, hD5⟩ := n4.ext x5 hD4
                  have xx5 := xx.trans x5
                  exact lc_turns hu1 wk1 (WdLe.refl _) hD c5 (se3.mono (x4.trans x5).le) (xi.trans xx5) n5 hD5 (rai.mono xx5.le) hlim hin fun w' H' aV' c' l' x' n' hD' ra' => ⟨w', S6, acc1, aV', c', li.trans (xx5.le.trans l'), x', n', hD', ra', e⟩
    · have ei : i = its.length := by omega
      subst ei
      rw [List.drop_length] at e
      unfold lc2Loop at e
      split at e
      case isFalse => cases e
      rename_i st
      cases e
      exact .inl ⟨wk.stop li ci st, lc_end q ci xi ni hD hDi rai⟩
end
end AW

namespace AW
open PySem PySem.Spec PyProof.Rows L2

inductive Fl where
  | nx | rt (d : D) | bk | ct
abbrev SemS := Env → Sto → M (Fl × Env)
def FlP (K : PySem.W.Frag) (w : Wd) (D : Ends) (σ : L2.St) (H : Hp) : Fl → Prop
  | .nx => D.nx σ H
  | .bk => D.bk σ H
  | .ct => D.ct σ H
  | .rt d => ∀ v, Rp K w d v → D.rt v H
def AftS (K : PySem.W.Frag) (w : Wd) (H : Hp) (r : M (Fl × Env)) (D : Ends) : Prop :=
  ∃ f E' S', r = some ((f, E'), S') ∧ ∀ σ' w' H', Ext w H w' H' → SimC K w' H' S' → SimE K w' σ' E' → FlP K w' D σ' H' f
def rdS (K : PySem.W.Frag) (m : SemS) : TS := fun D σ H => ∃ w E S, SimC K w H S ∧ SimE K w σ E ∧ AftS K w H (m E S) D
abbrev OkS (X : Cx) (st : Stmt) (m : SemS) : Prop := PS X st (rdS X.K m)
abbrev OkSs (X : Cx) (st : List Stmt) (m : SemS) : Prop := PSs X st (rdS X.K m)
theorem _root_.L2.PS.imp {X : Cx} {st : Stmt} {t t' : TS} (h : PS X st t) (k : ∀ D σ H, t' D σ H → t D σ H) : PS X st t' := ⟨fun pins s σ H D I q => h.run pins s σ H D I (k D σ H q)⟩
theorem _root_.L2.PSs.imp {X : Cx} {st : List Stmt} {t t' : TS} (h : PSs X st t) (k : ∀ D σ H, t' D σ H → t D σ H) : PSs X st t' := ⟨fun pins s σ H D I q => h.run pins s σ H D I (k D σ H q)⟩
section
variable {K : PySem.W.Frag} {w w1 : Wd} {H H1 : Hp} {r : M (Fl × Env)} {D : Ends}
theorem AftS.ext (x : Ext w H w1 H1) (q : AftS K w H r D) : AftS K w1 H1 r D := by
  obtain ⟨f, E', S', e, q⟩ := q
  exact ⟨f, E', S', e, fun σ' w' H' x' c se => q σ' w' H' (x.trans x') c se⟩
theorem aftS_none (q : AftS K w H none D) : False := by obtain ⟨_, _, _, e, _⟩ := q; cases e
theorem aftS_bind {γ : Type} {s : M γ} {k : γ × Sto → M (Fl × Env)} (q : AftS K w H (s.bind k) D) : ∃ a S1, s = some (a, S1) ∧ AftS K w H (k (a, S1)) D := by
  cases s with
  | none => exact (aftS_none q).elim
  | some p => exact ⟨p.1, p.2, rfl, q⟩
end
def sNx : SemS := fun E S => some ((.nx, E), S)
def sBk : SemS := fun E S => some ((.bk, E), S)
def sCt : SemS := fun E S => some ((.ct, E), S)
def sNone : SemS := fun _ _ => none
def sSeq (a b : SemS) : SemS := fun E S => (a E S).bind fun p => match p.1.1 with
  | .nx => b p.1.2 p.2
  | _ => some p
def sExpr (a : SemE) : SemS := fun E S => (a E S).bind fun p => some ((.nx, E), p.2)
def sRet (a : SemE) : SemS := fun E S => (a E S).bind fun p => some ((.rt p.1, E), p.2)
def sRetN : SemS := fun E S => some ((.rt .non, E), S)
def sIf (t : SemT) (a b : SemS) : SemS := fun E S => (t E S).bind fun p => if p.1 = true then a E p.2 else b E p.2
def sAsg (g : SemG) (a : SemE) : SemS := fun E S => (a E S).bind fun p => (g p.1 E p.2).bind fun q => some ((.nx, q.1), q.2)
/-- names = values, side by side -/
def setAll : List Nat → List D → Env → Option Env
  | [], [], E => some E
  | i :: is, d :: ds, E => setAll is ds (E.set i (some d))
  | _, _, _ => none
def sPar (is : List Nat) (a : SemA) : SemS := fun E S => (a E S).bind fun p => match setAll is p.1 E with
  | some E' => some ((.nx, E'), p.2)
  | none => none
def sAug (i : Nat) (f : Op2) (a : SemE) : SemS := fun E S => match E[i]? with
  | some (some d) => (a E S).bind fun p => (f d p.1 p.2).bind fun q => some ((.nx, E.set i (some q.1)), q.2)
  | _ => none
def forLoop (g : SemG) (body : SemS) (chk : Chk) : List D → Env → Sto → M (Fl × Env)
  | [], E, S => if stable chk S then some ((.nx, E), S) else none
  | d :: ds, E, S => if stable chk S then (g d E S).bind fun p => (body p.1 p.2).bind fun q => match q.1.1 with
      | .nx => forLoop g body chk ds q.1.2 q.2
      | .ct => forLoop g body chk ds q.1.2 q.2
      | .bk => some ((.nx, q.1.2), q.2)
      | .rt d => some ((.rt d, q.1.2), q.2)
    else none
def sFor (it : SemI) (g : SemG) (body : SemS) : SemS := fun E S => (it E S).bind fun p => forLoop g body p.1.2 p.1.1 E p.2
def whLoop (t : SemT) (body : SemS) : Nat → Env → Sto → M (Fl × Env)
  | 0, _, _ => none
  | n + 1, E, S => (t E S).bind fun p => if p.1 = true then (body E p.2).bind fun q => match q.1.1 with
      | .nx => whLoop t body n q.1.2 q.2
      | .ct => whLoop t body n q.1.2 q.2
      | .bk => some ((.nx, q.1.2), q.2)
      | .rt d => some ((.rt d, q.1.2), q.2)
    else some ((.nx, E), p.2)
def WHILE : Nat := 100000
def sWhile (t : SemT) (body : SemS) : SemS := fun E S => whLoop t body WHILE E S
section
variable {X : Cx} {st : Stmt} {sts : List Stmt} {a b : Expr} {ma : SemE} {pos : Pos} {m n : SemS}
theorem rd_here {K : PySem.W.Frag} {f : Fl} {D : Ends} {σ : L2.St} {H : Hp} {m : SemS} (h : ∀ E S, m E S = some ((f, E), S)) (q : rdS K m D σ H) : ∃ w, FlP K w D σ H f := by
  obtain ⟨w, E, S, c, se, f', E', S', e, q⟩ := q
  rw [h] at e
  cases e
  exact ⟨w, q σ w H (Ext.refl _ _) c se⟩
theorem okSsNil : OkSs X [] sNx := pss_nil.imp fun D σ H q => (by obtain ⟨_, h⟩ := rd_here (fun _ _ => rfl) q; exact h)
theorem okPass : OkS X (.Pass pos) sNx := ps_pass.imp fun D σ H q => (by obtain ⟨_, h⟩ := rd_here (fun _ _ => rfl) q; exact h)
theorem okBreak : OkS X (.Break pos) sBk := ps_break.imp fun D σ H q => (by obtain ⟨_, h⟩ := rd_here (fun _ _ => rfl) q; exact h)
theorem okContinue : OkS X (.Continue pos) sCt := ps_continue.imp fun D σ H q => (by obtain ⟨_, h⟩ := rd_here (fun _ _ => rfl) q; exact h)
theorem okNever : OkS X st sNone := (ps_never (X := X) (st := st)).imp fun D σ H ⟨w, E, S, c, se, q⟩ => (aftS_none q)
theorem okRetN : OkS X (.Return none pos) sRetN := ps_retN.imp fun D σ H q => by
  obtain ⟨w, E, S, c, se, f', E', S', e, q⟩ := q
  cases e
  exact q σ w H (Ext.refl _ _) c se _ rp_non
theorem okSsCons (h1 : OkS X st m) (h2 : OkSs X sts n) : OkSs X (st :: sts) (sSeq m n) := by
  refine (pss_cons h1 h2).imp fun D σ H ⟨w, E, S, c, se, q⟩ => ?_
  obtain ⟨⟨f, E1⟩, S1, e1, q⟩ := aftS_bind q
  refine ⟨w, E, S, c, se, f, E1, S1, e1, fun σ1 w1 H1 x1 c1 se1 => ?_⟩
  have q := q.ext x1
  cases f with
  | nx => exact ⟨w1, E1, S1, c1, se1, q⟩
  | bk =>
    obtain ⟨_, _, _, e, q⟩ := q
    cases e
    exact q σ1 w1 H1 (Ext.refl _ _) c1 se1
  | ct =>
    obtain ⟨_, _, _, e, q⟩ := q
    cases e
    exact q σ1 w1 H1 (Ext.refl _ _) c1 se1
  | rt d =>
    obtain ⟨_, _, _, e, q⟩ := q
    cases e
    exact q σ1 w1 H1 (Ext.refl _ _) c1 se1
theorem okExpr (ha : OkE X a ma) (hp : plainE a = true) (hl : isLc a = false) : OkS X (.Expr a pos) (sExpr ma) := by
  refine (ps_expr ha (sw_plain hp hl _)).imp fun D σ H ⟨w, E, S, c, se, q⟩ => ?_
  obtain ⟨x, S1, e1, q⟩ := aftS_bind q
  refine ⟨w, E, S, c, se, x, S1, e1, fun v w1 H1 x1 c1 r1 => ?_⟩
  obtain ⟨_, _, _, e, q⟩ := q
  cases e
  exact q σ w1 H1 x1 c1 (se.mono x1.le)
theorem okRet (ha : OkE X a ma) : OkS X (.Return (some a) pos) (sRet ma) := by
  refine (ps_ret ha).imp fun D σ H ⟨w, E, S, c, se, q⟩ => ?_
  obtain ⟨x, S1, e1, q⟩ := aftS_bind q
  refine ⟨w, E, S, c, se, x, S1, e1, fun v w1 H1 x1 c1 r1 => ?_⟩
  obtain ⟨_, _, _, e, q⟩ := q
  cases e
  exact q σ w1 H1 x1 c1 (se.mono x1.le) v r1
theorem okIfS {t : Expr} {mt : SemT} {p q : List Stmt} (ht : OkT X t mt) (ha : OkSs X p m) (hb : OkSs X q n) : OkS X (.If t p q pos) (sIf mt m n) := by
  refine (ps_if ht ha hb).imp fun D σ H ⟨w, E, S, c, se, q⟩ => ?_
  obtain ⟨k, S1, e1, q⟩ := aftS_bind q
  refine ⟨w, E, S, c, se, k, S1, e1, fun k' w1 H1 x1 c1 r1 => ?_⟩
  subst r1
  have q := q.ext x1
  cases k with
  | true => rw [if_pos rfl] at q ⊢; exact ⟨w1, E, S1, c1, se.mono x1.le, q⟩
  | false => rw [if_neg Bool.false_ne_true] at q ⊢; exact ⟨w1, E, S1, c1, se.mono x1.le, q⟩
/-- what an assignment asks -/
theorem asg_rd {K : PySem.W.Frag} {g : SemG} {vs : List Nat} {te : TE} (h : ∀ σ H Q, rdE K ma σ H Q → te σ H Q) : ∀ D σ H, rdS K (sAsg g ma) D σ H → tAsg te (rdG K vs g) D σ H := fun D σ H ⟨w, E, S, c, se, q⟩ => by
  obtain ⟨x, S1, e1, q⟩ := aftS_bind q
  refine h σ H _ ⟨w, E, S, c, se, x, S1, e1, fun v w1 H1 x1 c1 r1 => ?_⟩
  obtain ⟨E2, S2, e2, q⟩ := aftS_bind q
  refine ⟨w1, E, S1, x, E2, S2, c1, se.mono x1.le, r1, e2, fun σ2 w2 H2 x2 c2 se2 _ => ?_⟩
  obtain ⟨_, _, _, e, q⟩ := q
  cases e
  exact q σ2 w2 H2 (x1.trans x2) c2 se2
theorem okAsg {tg : Expr} {g : SemG} {vs : List Nat} (ha : OkE X a ma) (hg : OkG X tg vs g) (hs : swapsWithSole [tg] a pos.line X.env = pure false) (hw : swappedStores [tg] a X.env = pure none)
    (h1 : (assignEach [tg] X.env).map (·.2) = [assign tg X.env]) : OkS X (.Assign [tg] a pos) (sAsg g ma) :=
  (ps_asg ha hg hs hw h1).imp (asg_rd fun _ _ _ q => q)
theorem okPar2 {i j : Nat} {x y : Str} {mA : SemA} {px py pt : Pos} {kt k2 : Nat} {pt2 : Pos} (hc : X.calm = true) (hN : X.N.Nodup) (hi : X.N[i]? = some x) (hj : X.N[j]? = some y) (hij : i ≠ j)
    (hx : X.env.scope.names.lookup x = some .local) (hy : X.env.scope.names.lookup y = some .local) (ha : OkA X [a, b] mA)
    (hw : swappedStores [.Tuple [.Name x px, .Name y py] kt pt] (.Tuple [a, b] k2 pt2) X.env = pure (some [x, y])) :
    OkS X (.Assign [.Tuple [.Name x px, .Name y py] kt pt] (.Tuple [a, b] k2 pt2) pos) (sPar [i, j] mA) := by
  refine PS.mk fun pins s σ H D I q => ?_
  refine (ps_par hc hN hi hj hij hx hy ha hw).run pins s σ H D I ?_
  obtain ⟨w, E, S, c, se, q⟩ := q
  obtain ⟨ds, S1, e1, q⟩ := aftS_bind q
  refine ⟨w, E, S, c, se, ds, S1, e1, fun vs w1 H1 x1 c1 r1 => ?_⟩
  have hl1 : i < σ.length := by rw [I.len]; exact (List.getElem?_eq_some_iff.mp hi).1
  have hl2 : j < σ.length := by rw [I.len]; exact (List.getElem?_eq_some_iff.mp hj).1
  match ds, r1, q with
  | [], _, q => exact (aftS_none q).elim
  | [_], _, q => exact (aftS_none q).elim
  | _ :: _ :: _ :: _, _, q => exact (aftS_none q).elim
  | [d, e], r1, q =>
    obtain ⟨v, u, rfl, r2, r3⟩ := rpl2 r1
    refine ⟨v, u, rfl, ?_⟩
    obtain ⟨_, _, _, e, q⟩ := q
    cases e
    exact q _ w1 H1 x1 c1 (((se.mono x1.le).set hl1 r2).set (by simpa using hl2) r3)
theorem okPar3 {i j l : Nat} {x y z : Str} {c : Expr} {mA : SemA} {px py pz pt : Pos} {kt k2 : Nat} {pt2 : Pos} (hc : X.calm = true) (hN : X.N.Nodup) (hi : X.N[i]? = some x) (hj : X.N[j]? = some y) (hl : X.N[l]? = some z) (hij : i ≠ j) (hil : i ≠ l) (hjl : j ≠ l)
    (hx : X.env.scope.names.lookup x = some .local) (hy : X.env.scope.names.lookup y = some .local) (hz : X.env.scope.names.lookup z = some .local) (ha : OkA X [a, b, c] mA)
    (hw : swappedStores [.Tuple [.Name x px, .Name y py, .Name z pz] kt pt] (.Tuple [a, b, c] k2 pt2) X.env = pure (some [x, y, z])) :
    OkS X (.Assign [.Tuple [.Name x px, .Name y py, .Name z pz] kt pt] (.Tuple [a, b, c] k2 pt2) pos) (sPar [i, j, l] mA) := by
  refine PS.mk fun pins s σ H D I q => ?_
  refine (ps_par3 hc hN hi hj hl hij hil hjl hx hy hz ha hw).run pins s σ H D I ?_
  obtain ⟨w, E, S, c, se, q⟩ := q
  obtain ⟨ds, S1, e1, q⟩ := aftS_bind q
  refine ⟨w, E, S, c, se, ds, S1, e1, fun vs w1 H1 x1 c1 r1 => ?_⟩
  have hl1 : i < σ.length := by rw [I.len]; exact (List.getElem?_eq_some_iff.mp hi).1
  have hl2 : j < σ.length := by rw [I.len]; exact (List.getElem?_eq_some_iff.mp hj).1
  have hl3 : l < σ.length := by rw [I.len]; exact (List.getElem?_eq_some_iff.mp hl).1
  match ds, r1, q with
  | [], _, q => exact (aftS_none q).elim
  | [_], _, q => exact (aftS_none q).elim
  | [_, _], _, q => exact (aftS_none q).elim
  | _ :: _ :: _ :: _ :: _, _, q => exact (aftS_none q).elim
  | [d, e, f], r1, q =>
    obtain ⟨v, r, rfl, r2, r3⟩ := r1.cons_inv
    obtain ⟨u, t, rfl, r3, r4⟩ := rpl2 r3
    refine ⟨v, u, t, rfl, ?_⟩
    obtain ⟨_, _, _, e, q⟩ := q
    cases e
    exact q _ w1 H1 x1 c1 ((((se.mono x1.le).set hl1 r2).set (by simpa using hl2) r3).set (by simpa using hl3) r4)
/-- x op= e -/
theorem okAug {i : Nat} {x : Str} {op : Operator} {f : Op2} {pos' : Pos} (hN : X.N.Nodup) (hi : X.N[i]? = some x) (hx : Loc X.env.scope x) (hf : X.fn x = true ∨ X.env.scope.names.lookup x = some .local) (o : OkOp X (inplaceOp op) f) (ha : OkE X a ma) :
    OkS X (.AugAssign (.Name x pos') op a pos) (sAug i f ma) := by
  obtain ⟨r, o, h⟩ := o
  refine PS.mk fun pins s σ H D I q => ?_
  refine (ps_aug hN hi hx ha (ti := fun x y H Q => r x y H Q) (fun pins s σ H x y v u Q I r1 r2 q => o pins s σ H x y v u Q I r1 r2 q) hf).run pins s σ H D I ?_
  obtain ⟨w, E, S, c, se, q⟩ := q
  unfold sAug at q
  split at q
  · rename_i d hd
    obtain ⟨v, h1, h2⟩ := se i d hd
    refine ⟨v, h1, ?_⟩
    obtain ⟨y, S1, e1, q⟩ := aftS_bind q
    refine ⟨w, E, S, c, se, y, S1, e1, fun u w1 H1 x1 c1 r1 => ?_⟩
    obtain ⟨z, S2, e2, q⟩ := aftS_bind q
    refine h c1 (h2.mono x1.le) r1 ⟨z, S2, e2, fun t w2 H2 x2 c2 r2 => ?_⟩
    obtain ⟨_, _, _, e, q⟩ := q
    cases e
    have hl : i < σ.length := by rw [I.len]; exact (List.getElem?_eq_some_iff.mp hi).1
    exact q _ w2 H2 (x1.trans x2) c2 ((se.mono (x1.trans x2).le).set hl r2)
  · exact (aftS_none q).elim
/-- a for -/
theorem okFor {tg iter : Expr} {body : List Stmt} {it : SemI} {g : SemG} {vs : List Nat} (hp : PassesOwn (model X.prog X.w) X.A X.env X.xe) (hc : X.calm = true) (hi : OkI X tg iter it) (hg : OkG X tg vs g) (hb : OkSs X body m)
    (hs : ∀ x, foldedSetIterable iter X.env x = pure x) : OkS X (.For tg iter body [] pos) (sFor it g m) := by
  refine (ps_for hp hc hi hg hb hs).imp fun D σ H ⟨w, E, S, c, se, q⟩ => ?_
  obtain ⟨⟨its, chk⟩, S1, e1, q⟩ := aftS_bind q
  refine ⟨w, E, S, c, se, (its, chk), S1, e1, fun J w1 H1 x1 c1 wk => ?_⟩
  have q := q.ext x1
  simp only at q
  refine ⟨fun i m' σ' H' => m' = its.length - i ∧ i ≤ its.length ∧ ∃ w' E' S', SimC X.K w' H' S' ∧ SimE X.K w' σ' E' ∧ WdLe w1 w' ∧ AftS X.K w' H' (forLoop g m chk (its.drop i) E' S') D,
    ⟨its.length, rfl, Nat.zero_le _, w1, E, S1, c1, se.mono x1.le, WdLe.refl _, by simpa using q⟩, ?_⟩
  rintro i m' σ' H' ⟨rfl, hi, w', E', S', c', se', le, q⟩
  by_cases hlt : i < its.length
  · refine .inr ?_
    rw [List.drop_eq_getElem_cons hlt] at q
    unfold forLoop at q
    split at q
    case isFalse => exact (aftS_none q).elim
    rename_i st
    refine ⟨wk.go le c' st i hlt, fun σ2 H2 => ∃ w2 E2 S2, SimC X.K w2 H2 S2 ∧ SimE X.K w2 σ2 E2 ∧ WdLe w1 w2 ∧ AftS X.K w2 H2 (forLoop g m chk (its.drop (i + 1)) E2 S2) D,
      fun σ2 H2 h => ⟨its.length - (i + 1), by omega, rfl, hlt, h⟩, fun x H2 y => ?_⟩
    obtain ⟨w2, x2, c2, r2⟩ := wk.yld le c' st i x H2 hlt y
    have r2 := r2 _ (List.getElem?_eq_getElem hlt)
    obtain ⟨E3, S3, e3, q⟩ := aftS_bind q
    refine ⟨w2, E', S', its[i], E3, S3, c2, se'.mono x2.le, r2, e3, fun σ3 w3 H3 x3 c3 se3 _ => ?_⟩
    obtain ⟨⟨f, E4⟩, S4, e4, q⟩ := aftS_bind q
    refine ⟨w3, E3, S3, c3, se3, f, E4, S4, e4, fun σ4 w4 H4 x4 c4 se4 => ?_⟩
    have xx := x2.trans (x3.trans x4)
    have q := q.ext xx
    cases f with
    | nx => exact ⟨w4, E4, S4, c4, se4, le.trans xx.le, q⟩
    | ct => exact ⟨w4, E4, S4, c4, se4, le.trans xx.le, q⟩
    | bk =>
      obtain ⟨_, _, _, e, q⟩ := q
      cases e
      exact q σ4 w4 H4 (Ext.refl _ _) c4 se4
    | rt d =>
      obtain ⟨_, _, _, e, q⟩ := q
      cases e
      exact q σ4 w4 H4 (Ext.refl _ _) c4 se4
  · have ei : i = its.length := by omega
    subst ei
    rw [List.drop_length] at q
    unfold forLoop at q
    split at q
    case isFalse => exact (aftS_none q).elim
    rename_i st
    obtain ⟨_, _, _, e, q⟩ := q
    cases e
    exact .inl ⟨wk.stop le c' st, q σ' w' H' (Ext.refl _ _) c' se'⟩
/-- a while -/
theorem okWhile {t : Expr} {mt : SemT} {body : List Stmt} (hp : PassesOwn (model X.prog X.w) X.A X.env X.xe) (ht : OkT X t mt) (hb : OkSs X body m) : OkS X (.While t body [] pos) (sWhile mt m) := by
  refine (ps_while hp ht hb).imp fun D σ H ⟨w, E, S, c, se, q⟩ => ?_
  refine ⟨fun n σ' H' => ∃ w' E' S', SimC X.K w' H' S' ∧ SimE X.K w' σ' E' ∧ AftS X.K w' H' (whLoop mt m n E' S') D, ⟨WHILE, w, E, S, c, se, q⟩, ?_⟩
  rintro n σ' H' ⟨w', E', S', c', se', q⟩
  cases n with
  | zero => exact (aftS_none q).elim
  | succ n =>
    unfold whLoop at q
    obtain ⟨k, S1, e1, q⟩ := aftS_bind q
    refine ⟨w', E', S', c', se', k, S1, e1, fun k' w1 H1 x1 c1 r1 => ?_⟩
    subst r1
    have q := q.ext x1
    cases k with
    | false =>
      rw [if_neg Bool.false_ne_true] at q ⊢
      obtain ⟨_, _, _, e, q⟩ := q
      cases e
      exact q σ' w1 H1 (Ext.refl _ _) c1 (se'.mono x1.le)
    | true =>
      rw [if_pos rfl] at q ⊢
      refine ⟨fun σ2 H2 => ∃ w2 E2 S2, SimC X.K w2 H2 S2 ∧ SimE X.K w2 σ2 E2 ∧ AftS X.K w2 H2 (whLoop mt m n E2 S2) D, fun σ2 H2 h => ⟨n, Nat.lt_succ_self _, h⟩, ?_⟩
      obtain ⟨⟨f, E4⟩, S4, e4, q⟩ := aftS_bind q
      refine ⟨w1, E', S1, c1, se'.mono x1.le, f, E4, S4, e4, fun σ4 w4 H4 x4 c4 se4 => ?_⟩
      have q := q.ext x4
      cases f with
      | nx => exact ⟨w4, E4, S4, c4, se4, q⟩
      | ct => exact ⟨w4, E4, S4, c4, se4, q⟩
      | bk =>
        obtain ⟨_, _, _, e, q⟩ := q
        cases e
        exact q σ4 w4 H4 (Ext.refl _ _) c4 se4
      | rt d =>
        obtain ⟨_, _, _, e, q⟩ := q
        cases e
        exact q σ4 w4 H4 (Ext.refl _ _) c4 se4
end

/-! ### a def -/
/-- a def's promise: what m tells of its arguments and the store -/
def spF (K : PySem.W.Frag) (np : Nat) (m : OpN) : Sp := fun vs H Q _ => ∃ w ds S, ds.length = np ∧ SimC K w H S ∧ RpL K w ds vs ∧ Aft K w H (m ds S) Q
/-- a def's body on its arguments -/
def body (n : Nat) (m : SemS) : OpN := fun ds S => (m (ds.map some ++ List.replicate (n - ds.length) none) S).bind fun p => match p.1.1 with
  | .rt d => some (d, p.2)
  | .nx => some (.non, p.2)
  | _ => none
theorem simE_start {K : PySem.W.Frag} {w : Wd} {ds : List D} {vs : List V} {N : List Str} (r : RpL K w ds vs) : SimE K w (L2.start N vs) (ds.map some ++ List.replicate (N.length - ds.length) none) := fun i d h => by
  by_cases hi : i < ds.length
  · rw [List.getElem?_append_left (by simpa using hi), List.getElem?_map] at h
    cases q : ds[i]? with
    | none => rw [q] at h; cases h
    | some e =>
      rw [q] at h
      cases h
      obtain ⟨v, hv, rv⟩ := r.get q
      have hi' : i < vs.length := by rw [← r.len]; exact hi
      refine ⟨v, ?_, rv⟩
      unfold L2.start
      rw [List.getElem?_append_left (by simpa using hi'), List.getElem?_map, hv]
      rfl
  · rw [List.getElem?_append_right (by simpa using hi), List.getElem?_replicate] at h
    split at h <;> cases h
theorem okFn {P : Program} {w : World} {K : PySem.W.Frag} {mg : Str → Option Value} {base : Heap} {x qual : Str} {st : Stmt} {f : Addr} {fd : FuncData} {N ps : List Str} {k : Nat} {m : SemS}
    (F : Fun K x qual st f fd) (S : FnScope N ps (defScope st))
    (hb : ∀ (cdv : Value) (A : Around) (outer : List PySem.Env) (s : Shared) (H : Hp) (E : XK), Room k (A.deeper (envOfC qual (defScope st) s.heap.objs.size f cdv)) → OkSs (cxOf CX0 P w K mg base N qual (defScope st) f cdv A outer s H E).nox (defBody st) m) :
    FnOk P w K mg base CX0 (k + 1) f fd ps (spF K ps.length (body N.length m)) := by
  refine F.ok S (fun vs H Q E ⟨w, ds, S, e, c, r, q⟩ => by rw [← r.len]; exact e) fun cdv A outer s H vs Q E hr h => ?_
  obtain ⟨w', ds, S', e, c, r, q⟩ := h
  refine ⟨_, hb cdv A outer s H E hr, w', _, S', c, simE_start r, ?_⟩
  obtain ⟨d, S2, e2, q⟩ := q
  unfold body at e2
  cases hm : m (ds.map some ++ List.replicate (N.length - ds.length) none) S' with
  | none => rw [hm] at e2; cases e2
  | some p =>
    obtain ⟨⟨fl, E2⟩, S3⟩ := p
    rw [hm] at e2
    simp only [Option.bind_some] at e2
    refine ⟨fl, E2, S3, rfl, fun σ' w2 H2 x2 c2 se2 => ?_⟩
    cases fl with
    | rt d' => cases e2; exact fun v rv => q v w2 H2 x2 c2 rv
    | nx => cases e2; exact q _ w2 H2 x2 c2 rp_non
    | bk => cases e2
    | ct => cases e2
end AW

namespace AW
open PySem PySem.Spec PyProof.Rows L2

/-! ### data without cells -/
mutual
/-- cells read by f; ck: the kind of a list that stood in a cell; bok: borrowed lists may stay -/
def rsW (f : Nat → Option D) (bok : Bool) : D → Option D
  | .tup ds => match rssW f bok ds with | some es => some (.tup es) | none => none
  | .lst .bor ds => if bok then match rssW f bok ds with | some es => some (.lst .bor es) | none => none else none
  | .lst .frz ds => match rssW f bok ds with | some es => some (.lst .frz es) | none => none
  | .lst .ext ds => match rssW f bok ds with | some es => some (.lst .ext es) | none => none
  | .ref i => f i
  | .non => some .non
  | .bl b => some (.bl b)
  | .int i => some (.int i)
  | .str x => some (.str x)
def rssW (f : Nat → Option D) (bok : Bool) : List D → Option (List D)
  | [] => some []
  | d :: ds => match rsW f bok d, rssW f bok ds with | some e, some es => some (e :: es) | _, _ => none
end
def cellR (S : Sto) (k : LK) (bok : Bool) : Nat → Nat → Option D
  | 0, _ => none
  | n + 1, i => match S[i]? with
    | some (.lst ds) => match rssW (cellR S k bok n) bok ds with | some es => some (.lst k es) | none => none
    | _ => none
/-- for the time of a call: what stands in cells is lent -/
def lend (S : Sto) (ds : List D) : Option (List D) := rssW (cellR S .bor true 6) true ds
/-- what a call hands back: cells are frozen, nothing lent is in it -/
def frz (S : Sto) (d : D) : Option D := rsW (cellR S .frz false 6) false d
section
variable {K : PySem.W.Frag} {w w' : Wd}
mutual
theorem rsW_ok {f : Nat → Option D} {bok : Bool} (hF : Sub w.F w'.F) (hB : bok = true → Sub w.B w'.B) (hf : ∀ i d a, f i = some d → w.rhw[i]? = some a → Rp K w' d (.ref a)) : ∀ {d e : D} {v : V}, rsW f bok d = some e → Rp K w d v → Rp K w' e v
  | .non, _, _, h, r => by simp only [rsW] at h; cases h; simpa [Rp] using r
  | .bl _, _, _, h, r => by simp only [rsW] at h; cases h; simpa [Rp] using r
  | .int _, _, _, h, r => by simp only [rsW] at h; cases h; simpa [Rp] using r
  | .str _, _, _, h, r => by simp only [rsW] at h; cases h; simpa [Rp] using r
  | .tup ds, _, _, h, r => by
    simp only [rsW] at h
    split at h
    · rename_i es he
      cases h
      obtain ⟨a, xs, rfl, h1, h2⟩ := rp_tup' r
      simp only [Rp]
      exact ⟨a, xs, rfl, hF _ _ h1, rssW_ok hF hB hf he h2⟩
    · cases h
  | .lst k ds, _, _, h, r => by
    simp only [Rp] at r
    obtain ⟨a, xs, rfl, h1, h2⟩ := r
    cases k with
    | frz =>
      simp only [rsW] at h
      split at h
      · rename_i es he
        cases h
        simp only [Rp]
        exact ⟨a, xs, rfl, hF _ _ h1, rssW_ok hF hB hf he h2⟩
      · cases h
    | ext =>
      simp only [rsW] at h
      split at h
      · rename_i es he
        cases h
        simp only [Rp]
        exact ⟨a, xs, rfl, hF.sqL h1, rssW_ok hF hB hf he h2⟩
      · cases h
    | bor =>
      simp only [rsW] at h
      split at h
      · rename_i hb
        split at h
        · rename_i es he
          cases h
          simp only [Rp]
          exact ⟨a, xs, rfl, hB hb _ _ h1, rssW_ok hF hB hf he h2⟩
        · cases h
      · cases h
  | .ref i, _, _, h, r => by
    simp only [rsW] at h
    simp only [Rp] at r
    obtain ⟨a, h1, rfl⟩ := r
    exact hf i _ a h h1
theorem rssW_ok {f : Nat → Option D} {bok : Bool} (hF : Sub w.F w'.F) (hB : bok = true → Sub w.B w'.B) (hf : ∀ i d a, f i = some d → w.rhw[i]? = some a → Rp K w' d (.ref a)) : ∀ {ds es : List D} {xs : List V}, rssW f bok ds = some es → RpL K w ds xs → RpL K w' es xs
  | [], _, _, h, r => by simp only [rssW] at h; cases h; rw [r.nil_inv]; exact .nil
  | d :: ds, _, _, h, r => by
    obtain ⟨x, t, rfl, h1, h2⟩ := r.cons_inv
    simp only [rssW] at h
    split at h
    · rename_i e es h3 h4
      cases h
      exact .cons (rsW_ok hF hB hf h3 h1) (rssW_ok hF hB hf h4 h2)
    · cases h
end
theorem cellR_ok {H : Hp} {S : Sto} {k : LK} {bok : Bool} (c : SimC K w H S) (hF : Sub w.F w'.F) (hB : bok = true → Sub w.B w'.B)
    (hk : ∀ (i : Nat) (a : Addr) (xs : List V), w.rhw[i]? = some a → H a = some (.lst xs) → (∃ ds : List D, S[i]? = some (CO.lst ds)) → RpQ K w' k a xs) : ∀ (n i : Nat) (d : D) (a : Addr), cellR S k bok n i = some d → w.rhw[i]? = some a → Rp K w' d (.ref a)
  | 0, _, _, _, h, _ => by cases h
  | n + 1, i, d, a, h, ha => by
    simp only [cellR] at h
    split at h
    · rename_i ds hd
      split at h
      · rename_i es he
        cases h
        obtain ⟨b, o, g1, g2, xs, rfl, g3⟩ := c.cell i _ hd
        rw [ha] at g1
        cases g1
        simp only [Rp]
        exact ⟨a, xs, rfl, hk i a xs ha g2 ⟨ds, hd⟩, rssW_ok hF hB (cellR_ok c hF hB hk n) he g3⟩
      · cases h
    · cases h
theorem lend_ok {H : Hp} {S : Sto} {ds es : List D} {vs : List V} (c : SimC K w H S) (h : lend S ds = some es) (r : RpL K w ds vs) : RpL K ⟨[], w.F, H⟩ es vs :=
  rssW_ok (w := w) (w' := ⟨[], w.F, H⟩) (Sub.refl w.F) (fun _ => c.bs) (cellR_ok (w := w) (w' := ⟨[], w.F, H⟩) (k := .bor) c (Sub.refl w.F) (fun _ => c.bs) (fun i a xs _ h _ => h) 6) h r
end
/-- a def called with arguments that it may only read: mk: the list handed back becomes a cell -/
def callP (mk : Bool) (m : OpN) : OpN := fun ds S => match lend S ds with
  | none => none
  | some es => match m es [] with
    | none => none
    | some (d, Sc) => match mk, d with
      | true, .ref j => match Sc[j]? with
        | some (.lst fs) => match rssW (cellR (Sc.set j .dead) .frz false 6) false fs with
          | some gs => some (.ref S.length, S ++ [.lst gs])
          | none => none
        | _ => none
      | _, d => match frz Sc d with
        | some d' => some (d', S)
        | none => none
section
variable {K : PySem.W.Frag}
/-- behind such a call: the callee's cells (but one) are frozen -/
def after (w : Wd) (v : Wd) (H : Hp) (ex : Addr → Bool) : Wd := ⟨w.rhw, fun a => if a ∈ v.rhw ∧ ex a = false then H a else v.F a, w.B⟩
theorem after_ok {w v : Wd} {H H' : Hp} {S Sc : Sto} {ex : Addr → Bool} (c : SimC K w H S) (x : Ext ⟨[], w.F, H⟩ H v H') (cv : SimC K v H' Sc) : SimC K (after w v H' ex) H' S ∧ Ext w H (after w v H' ex) H' ∧ Sub v.F (after w v H' ex).F := by
  obtain ⟨m, e, hm⟩ := x.p
  simp only [List.nil_append] at e
  subst e
  have kp : ∀ a o, H a = some o → H' a = some o := fun a o h => x.keep a o h (by simp)
  have fv : Sub v.F (after w v H' ex).F := fun a o h => by
    show (if a ∈ v.rhw ∧ ex a = false then H' a else v.F a) = some o
    rw [if_neg (fun z => by rw [(cv.nf a z.1).1] at h; cases h)]; exact h
  have nm : ∀ a, H a ≠ none → a ∉ v.rhw := fun a h z => h (hm a z)
  have xx : Ext w H (after w v H' ex) H' := by
    refine ⟨⟨[], by simp [after], by simp⟩, fun a o h => fv a o (x.f a o h), rfl, fun a h1 h2 => ?_, fun a o h _ => kp a o h, x.dom⟩
    show (if a ∈ v.rhw ∧ ex a = false then H' a else v.F a) = none
    rw [if_neg (fun z => nm a h1 z.1)]
    exact x.ff a h1 h2
  refine ⟨⟨fun a o h => ?_, fun a o h => kp a o (c.bs a o h), c.len, c.nd, fun a ha => ⟨?_, (c.nf a ha).2⟩, fun i co h => ?_⟩, xx, fv⟩
  · have h : (if a ∈ v.rhw ∧ ex a = false then H' a else v.F a) = some o := h
    split at h
    · exact h
    · exact cv.fs a o h
  · obtain ⟨o, ho⟩ := c.some ha
    show (if a ∈ v.rhw ∧ ex a = false then H' a else v.F a) = none
    rw [if_neg (fun z => nm a (by rw [ho]; simp) z.1)]
    exact x.ff a (by rw [ho]; simp) (c.nf a ha).1
  · obtain ⟨a, o, h1, h2, h3⟩ := c.cell i co h
    exact ⟨a, o, h1, kp a o h2, h3.mono xx.le⟩
theorem callP_ok {mk : Bool} {m : OpN} {np : Nat} {w : Wd} {H : Hp} {S : Sto} {Q : VK} {E : XK} {ds : List D} {vs : List V} (c : SimC K w H S) (r : RpL K w ds vs) (hn : ds.length = np) (q : Aft K w H (callP mk m ds S) Q) : spF K np m vs H Q E := by
  unfold callP at q
  split at q
  · exact (aftM_none q).elim
  rename_i es he
  split at q
  · exact (aftM_none q).elim
  rename_i d Sc hm
  have le := lend_ok c he r
  refine ⟨⟨[], w.F, H⟩, es, [], by rw [le.len, ← r.len]; exact hn, ⟨c.fs, Sub.refl _, rfl, .nil, fun a h => (by cases h), fun i co h => (by simp at h)⟩, le, d, Sc, hm, fun v w' H' x c' rv => ?_⟩
  obtain ⟨mm, em, hmm⟩ := id x.p
  simp only [List.nil_append] at em
  split at q
  · -- a list that becomes a cell
    rename_i j
    split at q
    · rename_i fs hfs
      split at q
      · rename_i gs hgs
        obtain ⟨a, xs, rfl, g1, g2, g3⟩ := cell_ok c' hfs rv
        have am : a ∈ w'.rhw := List.mem_of_getElem? g1
        obtain ⟨k1, k2, k3⟩ := after_ok (ex := fun b => decide (b = a)) c x c'
        have cd : SimC K w' H' (Sc.set j .dead) := by
          refine ⟨c'.fs, c'.bs, by simp [c'.len], c'.nd, c'.nf, fun i co h => ?_⟩
          by_cases e : i = j
          · subst e
            rw [List.getElem?_set_self (by rw [← c'.len]; exact (List.getElem?_eq_some_iff.mp g1).1)] at h
            cases h
            exact ⟨a, _, g1, g2, trivial⟩
          · rw [List.getElem?_set_ne (Ne.symm e)] at h
            exact c'.cell i co h
        have hr : RpL K (after w w' H' fun b => decide (b = a)) gs xs := by
          refine rssW_ok k3 (fun z => by cases z) (cellR_ok cd k3 (fun z => by cases z) (fun i b ys h1 h2 h3 => ?_) 6) hgs g3
          show (if b ∈ w'.rhw ∧ decide (b = a) = false then H' b else w'.F b) = some (.lst ys)
          have hba : decide (b = a) = false := by
            refine decide_eq_false fun e => ?_
            subst e
            have : i = j := by
              obtain ⟨x1, y1⟩ := List.getElem?_eq_some_iff.mp h1
              obtain ⟨x2, y2⟩ := List.getElem?_eq_some_iff.mp g1
              exact (List.getElem_inj c'.nd).mp (y1.trans y2.symm)
            subst this
            obtain ⟨ds, h3⟩ := h3
            rw [List.getElem?_set_self (by rw [← c'.len]; exact (List.getElem?_eq_some_iff.mp g1).1)] at h3
            cases h3
          rw [if_pos ⟨List.mem_of_getElem? h1, hba⟩]
          exact h2
        have na : Aside (after w w' H' fun b => decide (b = a)) a := by
          refine ⟨?_, ?_, fun hmem => ?_⟩
          · show (if a ∈ w'.rhw ∧ decide (a = a) = false then H' a else w'.F a) = none
            rw [if_neg (by simp)]
            exact (c'.nf a am).1
          · show w.B a = none
            cases z : w.B a with
            | none => rfl
            | some o =>
              have h0 := hmm a (by rw [← em]; exact am)
              rw [c.bs a o z] at h0; cases h0
          · have hmem : a ∈ w.rhw := hmem
            obtain ⟨o, ho⟩ := c.some hmem
            rw [hmm a (by rw [← em]; exact am)] at ho; cases ho
        obtain ⟨z1, z2, z3⟩ := aside_cell k1 na g2 (co := .lst gs) ⟨xs, rfl, hr⟩ k2 (hmm a (by rw [← em]; exact am))
        obtain ⟨_, _, e, q⟩ := q
        cases e
        refine q _ _ _ z2 z1 ?_
        simp only [Rp]
        refine ⟨a, ?_, rfl⟩
        show (w.rhw ++ [a])[S.length]? = some a
        rw [← c.len]; simp
      · exact (aftM_none q).elim
    · exact (aftM_none q).elim
  · split at q
    · rename_i d' hd
      obtain ⟨k1, k2, k3⟩ := after_ok (ex := fun _ => false) c x c'
      obtain ⟨_, _, e, q⟩ := q
      cases e
      refine q _ _ _ k2 k1 ?_
      refine rsW_ok k3 (fun z => by cases z) (cellR_ok c' k3 (fun z => by cases z) (fun i b ys h1 h2 h3 => ?_) 6) hd rv
      show (if b ∈ w'.rhw ∧ (fun _ => false) b = false then H' b else w'.F b) = _
      rw [if_pos ⟨List.mem_of_getElem? h1, rfl⟩]
      exact h2
    · exact (aftM_none q).elim
/-- a def called upon the store itself -/
theorem callH_ok {m : OpN} {np : Nat} {w : Wd} {H : Hp} {S : Sto} {Q : VK} {E : XK} {ds : List D} {vs : List V} (c : SimC K w H S) (r : RpL K w ds vs) (hn : ds.length = np) (q : Aft K w H (m ds S) Q) : spF K np m vs H Q E := ⟨w, ds, S, hn, c, r, q⟩
end

/-! ### calls with keywords -/
def pick {α : Type} (perm : List Nat) (l : List α) : List α := perm.filterMap fun i => l[i]?
theorem RpL.pick {K : PySem.W.Frag} {w : Wd} {ds : List D} {vs : List V} (r : RpL K w ds vs) : ∀ perm : List Nat, RpL K w (pick perm ds) (AW.pick perm vs)
  | [] => .nil
  | i :: is => by
    have ih := RpL.pick r is
    unfold AW.pick at ih ⊢
    cases h : ds[i]? with
    | none =>
      have h' : vs[i]? = none := List.getElem?_eq_none (by rw [← r.len]; exact List.getElem?_eq_none_iff.mp h)
      rw [List.filterMap_cons_none h, List.filterMap_cons_none h']
      exact ih
    | some d =>
      obtain ⟨v, hv, rv⟩ := r.get h
      rw [List.filterMap_cons_some h, List.filterMap_cons_some hv]
      exact .cons rv ih
theorem Vals.pick {vs : List V} {us : List Value} (r : Vals vs us) : ∀ perm : List Nat, Vals (AW.pick perm vs) (AW.pick perm us)
  | [] => .nil
  | i :: is => by
    have ih := Vals.pick r is
    unfold AW.pick at ih ⊢
    cases h : vs[i]? with
    | none =>
      have h' : us[i]? = none := L2.Vals.none_of r h
      rw [List.filterMap_cons_none h, List.filterMap_cons_none h']
      exact ih
    | some d =>
      obtain ⟨v, hv, rv⟩ := L2.Vals.get r h
      rw [List.filterMap_cons_some h, List.filterMap_cons_some hv]
      exact .cons rv ih
/-- how a def's parameters are bound: n positional values, keywords ks, defaults dd that lack -/
structure Bnd (K : PySem.W.Frag) (fd : FuncData) (ps : List Str) (n : Nat) (ks : List Str) (dd : List D) (perm : List Nat) : Prop where
  ex : ∃ (dv : List V) (du : List Value), (∀ w, RpL K w dd dv) ∧ Vals dv du ∧ ∀ (s : Shared) (us ws : List Value), K.In s.heap → us.length = n → ws.length = ks.length → BindsTo s fd ⟨us, ks.zip ws⟩ (ps.zip (pick perm (us ++ (ws ++ du))))
def rdK (K : PySem.W.Frag) (m : SemA) : TA := rdM K (RpL K) m
abbrev OkK (X : Cx) (kws : List Keyword) (m : SemA) : Prop := PK X kws (rdA X.K m)
theorem _root_.L2.PK.imp {X : Cx} {e : List Keyword} {t t' : TA} (h : PK X e t) (k : ∀ σ H Q, t' σ H Q → t σ H Q) : PK X e t' := ⟨fun po pins s σ H Q I q => h.run po pins s σ H Q I (k σ H Q q)⟩
section
variable {X : Cx} {a : Expr} {ma : SemE} {mA mK : SemA} {kws : List Keyword} {kpos : Pos} {nm : Option Str}
theorem okKNil : OkK X [] aNil := pk_nil.imp fun σ H Q ⟨w, E, S, c, se, _, _, e, q⟩ => by
  cases e
  exact q [] w H (Ext.refl _ _) c .nil
theorem okKCons (ha : OkE X a ma) (hr : OkK X kws mA) : OkK X (⟨nm, a, kpos⟩ :: kws) (aCons ma mA) := by
  refine (pk_cons ha hr).imp fun σ H Q ⟨w, E, S, c, se, q⟩ => ?_
  obtain ⟨x, S1, e1, q⟩ := aft_bind q
  refine ⟨w, E, S, c, se, x, S1, e1, fun v w1 H1 x1 c1 r1 => ?_⟩
  obtain ⟨y, S2, e2, q⟩ := aft_bind q
  refine ⟨w1, E, S1, c1, se.mono x1.le, y, S2, e2, fun u w2 H2 x2 c2 r2 => ?_⟩
  obtain ⟨_, _, e, q⟩ := q
  cases e
  exact q _ w2 H2 (x1.trans x2) c2 (.cons (r1.mono x2.le) r2)
theorem kw_names {env : PySem.Env} {pos : Pos} : ∀ {kws : List Keyword} {ks : List Str}, kws.map (·.arg) = ks.map some →
    (backToKw pos (keywordEach kws env)).all (·.1.isSome) = true ∧ (backToKw pos (keywordEach kws env)).filterMap (·.1) = ks ∧ (backToKw pos (keywordEach kws env)).any (·.1.isNone) = false
  | [], [], _ => ⟨rfl, rfl, rfl⟩
  | [], _ :: _, h => by simp at h
  | _ :: _, [], h => by simp at h
  | ⟨nm, v, p⟩ :: kws, k :: ks, h => by
    simp only [List.map_cons, List.cons.injEq] at h
    obtain ⟨h1, h2⟩ := h
    obtain ⟨i1, i2, i3⟩ := kw_names (env := env) (pos := pos) (kws := kws) (ks := ks) h2
    subst h1
    have e : backToKw pos (keywordEach (⟨some k, v, p⟩ :: kws) env) = (some k, do let u ← eval v env; standAt pos; pure u) :: backToKw pos (keywordEach kws env) := rfl
    rw [e]
    refine ⟨?_, ?_, ?_⟩
    · rw [List.all_cons, i1]; rfl
    · show k :: (backToKw pos (keywordEach kws env)).filterMap (·.1) = _
      rw [i2]
    · rw [List.any_cons, i3]; rfl
/-- f(e, .., k = v, ..) -/
def eCall (m : OpN) (n nk np : Nat) (dd : List D) (perm : List Nat) (a k : SemA) : SemE := fun E S => (a E S).bind fun p => (k E p.2).bind fun q =>
  if p.1.length = n ∧ q.1.length = nk ∧ (pick perm (p.1 ++ (q.1 ++ dd))).length = np then m (pick perm (p.1 ++ (q.1 ++ dd))) q.2 else none
variable {k n : Nat} {f : Addr} {fd : FuncData} {ps ks : List Str} {x : Str} {p pos : Pos} {es : List Expr} {dd : List D} {perm : List Nat} {m m' : OpN}
theorem call_fin (F : FnOk X.prog X.w X.K X.mg X.base CX0 k f fd ps (spF X.K ps.length m))
    (hm' : ∀ {w : Wd} {H : Hp} {S : Sto} {Q : VK} {E : XK} {ds : List D} {vs : List V}, SimC X.K w H S → RpL X.K w ds vs → ds.length = ps.length → Aft X.K w H (m' ds S) Q → spF X.K ps.length m vs H Q E)
    (hr : Room k X.A) (hb : Bnd X.K fd ps n ks dd perm) {pins : List (Addr × Obj)} {σ : L2.St} {Q : VK} {ds : List D} {s2 : Shared} {us ws : List Value} {vs zs : List V} {H2 : Hp} {w2 : Wd} {S2 : Sto} {fs : List D} (I2 : Inv X pins σ H2 s2) (r1 : Vals vs us) (r2 : Vals zs ws) (c2 : SimC X.K w2 H2 S2) (d1 : RpL X.K w2 ds vs) (d2 : RpL X.K w2 fs zs)
    (q : AftM X.K (Rp X.K) w2 H2 (if ds.length = n ∧ fs.length = ks.length ∧ (pick perm (ds ++ (fs ++ dd))).length = ps.length then m' (pick perm (ds ++ (fs ++ dd))) S2 else none) Q) :
    wpAny (model X.prog X.w) X.A (call (.ref f) ([] ++ us) (ks.zip ws)) (EP X pins σ Q) X.xe s2 := by
  obtain ⟨dv, du, hdd, hdu, hbind⟩ := hb.ex
  by_cases hc : ds.length = n ∧ fs.length = ks.length ∧ (pick perm (ds ++ (fs ++ dd))).length = ps.length
  · rw [if_pos hc] at q
    have ra : RpL X.K w2 (pick perm (ds ++ (fs ++ dd))) (pick perm (vs ++ (zs ++ dv))) := (d1.append (d2.append (hdd w2))).pick perm
    have va : Vals (pick perm (vs ++ (zs ++ dv))) (pick perm (us ++ (ws ++ du))) := Vals.pick (r1.append (r2.append hdu)) perm
    refine wpAny_call (codeAny_mono (F.run X.A X.stack s2 H2 ⟨us, ks.zip ws⟩ _ _ Q E0 hr I2.env0 (hbind s2 us ws I2.kIn (by rw [← r1.length, ← d1.len]; exact hc.1) (by rw [← r2.length, ← d2.len]; exact hc.2.1)) va (hm' c2 ra hc.2.2 (aft_of q))) fun r s' hq => ?_)
    cases r with
    | error e => exact hq.elim
    | ok fl =>
      cases fl with
      | ret u => exact I2.after hq
      | next => exact False.elim hq
      | brk => exact False.elim hq
      | cont => exact False.elim hq
  · rw [if_neg hc] at q
    exact (aftM_none q).elim
theorem okCall (F : FnOk X.prog X.w X.K X.mg X.base CX0 k f fd ps (spF X.K ps.length m))
    (hm' : ∀ {w : Wd} {H : Hp} {S : Sto} {Q : VK} {E : XK} {ds : List D} {vs : List V}, SimC X.K w H S → RpL X.K w ds vs → ds.length = ps.length → Aft X.K w H (m' ds S) Q → spF X.K ps.length m vs H Q E)
    (hr : Room k X.A) (hg : Gl X x) (hm : X.mg x = some (.ref f)) (hk : PySem.W.keepIn X.K (.ref f) = true) (hb : Bnd X.K fd ps n ks dd perm) (ha : OkA X (a :: es) mA) (hp0 : plainE a = true) (hp : es.all plainE = true) (hkw : OkK X kws mK) (hks : kws.map (·.arg) = ks.map some) (hdb : (x == ("__debug__" : Str)) = false) :
    OkE X (.Call (.Name x p) (a :: es) kws pos) (eCall m' n ks.length ps.length dd perm mA mK) := by
  obtain ⟨k1, k2, k3⟩ := kw_names (env := X.env) (pos := pos) hks
  have k4 := any_plain (env := X.env) (pos := pos) (es := a :: es) (by rw [List.all_cons, hp0, hp]; rfl)
  refine ⟨fun pins s σ H Q I h => ?_⟩
  obtain ⟨w, E, S, c, se, q⟩ := h
  refine wpAny_Call_Name_kw (ld_glob I hg hm ?_ hdb)
  obtain ⟨ds, S1, e1, q⟩ := aft_bind q
  refine PySem.W.callWith_KW (h₀ := X.base) I.ok.mod.kin hk k1 (thn (ha.run pos pins s σ H (fun vs H1 => ∃ w1, Ext w H w1 H1 ∧ SimC X.K w1 H1 S1 ∧ RpL X.K w1 ds vs) I ⟨w, E, S, c, se, ds, S1, e1, fun vs w1 H1 x1 c1 r1 => ⟨w1, x1, c1, r1⟩⟩) fun us s1 ⟨vs, H1, I1, r, w1, x1, c1, d1⟩ => ?_) (by rw [k4, k3]; rfl) (star_plain hp0)
  have q := q.ext x1
  obtain ⟨fs, S2, e2, q⟩ := aft_bind q
  refine thn (hkw.run pos pins s1 σ H1 (fun zs H2 => ∃ w2, Ext w1 H1 w2 H2 ∧ SimC X.K w2 H2 S2 ∧ RpL X.K w2 fs zs) I1 ⟨w1, E, S1, c1, se.mono x1.le, fs, S2, e2, fun zs w2 H2 x2 c2 r2 => ⟨w2, x2, c2, r2⟩⟩) fun ws s2 ⟨zs, H2, I2, rz, w2, x2, c2, d2⟩ => ⟨I2.kIn, ?_⟩
  rw [k2]
  exact call_fin F hm' hr hb I2 r rz c2 (d1.mono x2.le) d2 (q.ext x2)
theorem okCall0 (F : FnOk X.prog X.w X.K X.mg X.base CX0 k f fd ps (spF X.K ps.length m))
    (hm' : ∀ {w : Wd} {H : Hp} {S : Sto} {Q : VK} {E : XK} {ds : List D} {vs : List V}, SimC X.K w H S → RpL X.K w ds vs → ds.length = ps.length → Aft X.K w H (m' ds S) Q → spF X.K ps.length m vs H Q E)
    (hr : Room k X.A) (hg : Gl X x) (hm : X.mg x = some (.ref f)) (hk : PySem.W.keepIn X.K (.ref f) = true) (hb : Bnd X.K fd ps n ks dd perm) (hkw : OkK X kws mK) (hks : kws.map (·.arg) = ks.map some) (hdb : (x == ("__debug__" : Str)) = false) :
    OkE X (.Call (.Name x p) [] kws pos) (eCall m' n ks.length ps.length dd perm aNil mK) := by
  obtain ⟨k1, k2, k3⟩ := kw_names (env := X.env) (pos := pos) hks
  refine ⟨fun pins s σ H Q I h => ?_⟩
  obtain ⟨w, E, S, c, se, q⟩ := h
  refine wpAny_Call_Name_kw (ld_glob I hg hm ?_ hdb)
  obtain ⟨ds, S1, e1, q⟩ := aft_bind q
  cases e1
  obtain ⟨fs, S2, e2, q⟩ := aft_bind q
  refine PySem.W.callWith_KW0 (h₀ := X.base) I.ok.mod.kin hk k1 ?_ (by rw [k3]; rfl)
  refine thn (hkw.run pos pins s σ H (fun zs H2 => ∃ w2, Ext w H w2 H2 ∧ SimC X.K w2 H2 S2 ∧ RpL X.K w2 fs zs) I ⟨w, E, S, c, se, fs, S2, e2, fun zs w2 H2 x2 c2 r2 => ⟨w2, x2, c2, r2⟩⟩) fun ws s2 ⟨zs, H2, I2, rz, w2, x2, c2, d2⟩ => ⟨I2.kIn, ?_⟩
  rw [k2]
  exact call_fin (us := []) (vs := []) F hm' hr hb I2 .nil rz c2 .nil d2 (q.ext x2)
end
end AW

namespace AW
open PySem PySem.Spec PyProof.Rows L2

/-! ### isinstance -/
def tyOf (x : Str) : Option Ty := if x = "int" then some .int else if x = "bool" then some .bl else if x = "str" then some .str else if x = "list" then some .lst else if x = "tuple" then some .tup else if x = "dict" then some .dic else none
theorem tyOf_boot {x : Str} {t : Ty} (h : tyOf x = some t) : bootBuiltins x = some (.type t.name) ∧ x ≠ "__name__" ∧ (x == ("__debug__" : Str)) = false := by
  unfold tyOf at h
  split at h
  · rename_i e; subst e; cases h; exact ⟨by decide +kernel, by decide, by decide⟩
  split at h
  · rename_i e; subst e; cases h; exact ⟨by decide +kernel, by decide, by decide⟩
  split at h
  · rename_i e; subst e; cases h; exact ⟨by decide +kernel, by decide, by decide⟩
  split at h
  · rename_i e; subst e; cases h; exact ⟨by decide +kernel, by decide, by decide⟩
  split at h
  · rename_i e; subst e; cases h; exact ⟨by decide +kernel, by decide, by decide⟩
  split at h
  · rename_i e; subst e; cases h; exact ⟨by decide +kernel, by decide, by decide⟩
  · cases h
section
variable {X : Cx} {a : Expr} {ma : SemE} {p pos p2 : Pos}
theorem okIsi1 {x : Str} {t : Ty} (ha : OkE X a ma) (hpa : plainE a = true) (hg : Gl X "isinstance") (hm : X.mg "isinstance" = none) (hgx : Gl X x) (hmx : X.mg x = none) (ht : tyOf x = some t) :
    OkE X (.Call (.Name "isinstance" p) [a, .Name x p2] [] pos) (eUn (opIsi [t]) ma) := by
  obtain ⟨hb, hn, hd⟩ := tyOf_boot ht
  have hA : PA X [a, .Name x p2] (tCons (rdE X.K ma) (tCons (tC (.ty t.name)) tNil)) := pa_cons ha (pa_cons (pe_bltn (v := .ty t.name) hgx hmx hb rfl hn hd) pa_nil rfl) (star_plain hpa)
  refine (pe_callB call_isi hg hm (by decide +kernel) hA (by decide) (by decide) (star_plain hpa) (any_plain rfl)).imp fun σ H Q ⟨w, E, S, c, se, q⟩ => ?_
  obtain ⟨x, S1, e1, q⟩ := aft_bind q
  refine ⟨w, E, S, c, se, x, S1, e1, fun v w1 H1 x1 c1 r1 => ?_⟩
  have q := q.ext x1
  simp only [opIsi] at q
  split at q
  · rename_i t' ht'
    refine ⟨v, .ty t.name, _, _, isTy t' t, rfl, .ty _, tyD_ok c1 ht' r1, kit_is t' t, ?_⟩
    have := aft_bl c1 (aft_of q)
    simpa using this
  · exact (aftM_none q).elim
def tyNames : List Expr → Option (List Ty)
  | [] => some []
  | .Name x _ :: es => match tyOf x, tyNames es with | some t, some ts => some (t :: ts) | _, _ => none
  | _ => none
def exNames : List Expr → List Str
  | [] => []
  | .Name x _ :: es => x :: exNames es
  | _ :: es => exNames es
def tTys : List Ty → TA
  | [] => tNil
  | t :: ts => tCons (tC (.ty t.name)) (tTys ts)
theorem okTys : ∀ {es : List Expr} {ts : List Ty}, tyNames es = some ts → (∀ x ∈ exNames es, Gl X x ∧ X.mg x = none) → PA X es (tTys ts)
  | [], _, h, _ => by cases h; exact pa_nil
  | .Name x p :: es, _, h, hg => by
    simp only [tyNames] at h
    split at h
    · rename_i t ts h1 h2
      cases h
      obtain ⟨hb, hn, hd⟩ := tyOf_boot h1
      obtain ⟨g1, g2⟩ := hg x (by simp [exNames])
      exact pa_cons (pe_bltn (v := .ty t.name) g1 g2 hb rfl hn hd) (okTys h2 fun y hy => hg y (by simp [exNames, hy])) rfl
    · cases h
theorem tTys_run {σ : L2.St} {H : Hp} : ∀ {ts : List Ty} {Q : List V → Hp → Prop}, Q (ts.map fun t => V.ty t.name) H → tTys ts σ H Q
  | [], _, q => q
  | t :: ts, Q, q => by
    show tTys ts σ H fun xs H2 => Q (V.ty t.name :: xs) H2
    exact tTys_run q
theorem clsV_all : ∀ ts : List Ty, Paired ClsV (ts.map fun t => V.ty t.name) (ts.map fun t => Value.type t.name)
  | [] => .nil
  | t :: ts => .cons (.ty _) (clsV_all ts)
theorem okIsiT {es : List Expr} {kk : Nat} {ts : List Ty} (ha : OkE X a ma) (hpa : plainE a = true) (hg : Gl X "isinstance") (hm : X.mg "isinstance" = none) (ht : tyNames es = some ts) (hgx : ∀ x ∈ exNames es, Gl X x ∧ X.mg x = none) (hl : ts.length ≤ LIM) :
    OkE X (.Call (.Name "isinstance" p) [a, .Tuple es kk p2] [] pos) (eUn (opIsi ts) ma) := by
  have hA : PA X [a, .Tuple es kk p2] (tCons (rdE X.K ma) (tCons (tTup (tTys ts)) tNil)) := pa_cons ha (pa_cons (pe_tup (okTys ht hgx)) pa_nil rfl) (star_plain hpa)
  refine (pe_callB call_isiT hg hm (by decide +kernel) hA (by decide) (by decide) (star_plain hpa) (any_plain rfl)).imp fun σ H Q ⟨w, E, S, c, se, q⟩ => ?_
  obtain ⟨x, S1, e1, q⟩ := aft_bind q
  refine ⟨w, E, S, c, se, x, S1, e1, fun v w1 H1 x1 c1 r1 => tTys_run ⟨by simpa using lim_le hl, fun tp hp => ?_⟩⟩
  have q := q.ext x1
  simp only [opIsi] at q
  split at q
  · rename_i t' ht'
    obtain ⟨c2, x2⟩ := alloc_un (o := .tup (ts.map fun t => V.ty t.name)) c1 hp
    exact ⟨v, tp, _, _, _, _, rfl, upd_same, clsV_all ts, tyD_ok c2 ht' (r1.mono x2.le), kit_any t' ts, aft_bl c2 (aft_of (q.ext x2))⟩
  · exact (aftM_none q).elim
end

/-! ### methods of lists -/
def eMethL (f : OpM) (o : SemE) (a : SemA) : SemE := fun E S => (o E S).bind fun p => match readS p.2 p.1 with
  | some _ => (a E p.2).bind fun q => f p.1 q.1 q.2
  | none => none
section
variable {X : Cx} {o a : Expr} {mo : SemE} {mA : SemA} {es : List Expr} {apos cpos : Pos} {name : Str} {id : String} {f : OpM}
theorem okMethL (pa : PlainAttrs "list") (slot : Slot "list" name id) (hty : typeOf (.builtin id) = pure (.type "method_descriptor")) (hm : OkMt X id f) (ho : OkE X o mo) (hb : baseE o = true) (ha : OkA X (a :: es) mA) (hp : plainE a = true) (hps : es.all plainE = true) (hn : (a :: es).length < 30) (hline : (apos.endLine == cpos.line) = true) :
    OkE X (.Call (.Attribute o name apos) (a :: es) [] cpos) (eMethL f mo mA) := by
  obtain ⟨r, hm, h⟩ := hm
  have k := any_plain (env := X.env) (pos := cpos) (es := a :: es) (by rw [List.all_cons, hp, hps]; rfl)
  refine (pe_bm pa slot hty hm ho ha (base_plain hb) ?_ hline (star_plain hp) (any_plain hps)).imp fun σ H Q ⟨w, E, S, c, se, q⟩ => ?_
  · rw [Bool.and_eq_true, Bool.and_eq_true]
    refine ⟨⟨?_, rfl⟩, by simpa using hn⟩
    rw [List.all_eq_true]
    intro x hx
    rw [List.any_eq_false] at k
    simpa using k x hx
  · obtain ⟨x, S1, e1, q⟩ := aft_bind q
    refine ⟨w, E, S, c, se, x, S1, e1, fun v w1 H1 x1 c1 r1 => ?_⟩
    simp only at q
    split at q
    · rename_i ds hd
      obtain ⟨aa, xs, rfl, h1, _⟩ := readS_ok c1 hd r1
      refine ⟨.inl ⟨rfl, xs, h1⟩, ?_⟩
      obtain ⟨y, S2, e2, q⟩ := aft_bind q
      exact ⟨w1, E, S1, c1, se.mono x1.le, y, S2, e2, fun u w2 H2 x2 c2 r2 => h c2 (r1.mono x2.le) r2 (aft_of (q.ext (x1.trans x2)))⟩
    · exact (aftM_none q).elim
theorem okMethL0 (pa : PlainAttrs "list") (slot : Slot "list" name id) (hty : typeOf (.builtin id) = pure (.type "method_descriptor")) (hm : OkMt X id f) (ho : OkE X o mo) (hb : baseE o = true) (hline : (apos.endLine == cpos.line) = true) :
    OkE X (.Call (.Attribute o name apos) [] [] cpos) (eMethL f mo aNil) := by
  obtain ⟨r, hm, h⟩ := hm
  refine (pe_bm0 pa slot hty hm ho (base_plain hb) hline).imp fun σ H Q ⟨w, E, S, c, se, q⟩ => ?_
  obtain ⟨x, S1, e1, q⟩ := aft_bind q
  refine ⟨w, E, S, c, se, x, S1, e1, fun v w1 H1 x1 c1 r1 => ?_⟩
  simp only at q
  split at q
  · rename_i ds hd
    obtain ⟨aa, xs, rfl, h1, _⟩ := readS_ok c1 hd r1
    refine ⟨.inl ⟨rfl, xs, h1⟩, ?_⟩
    obtain ⟨y, S2, e2, q⟩ := aft_bind q
    cases e2
    exact h c1 r1 .nil (aft_of (q.ext x1))
  · exact (aftM_none q).elim
end

/-! ### the tables -/
structure DefI where
  ix : Nat
  ps : List Str
  heap : Bool
  forms : List (Nat × List Str × List D × List Nat)
structure Glob where
  blts : List Str
  consts : List (Str × D)
  defs : List (Str × DefI)
  cells : List (Nat × Nat)
def Glob.isCell (G : Glob) (p : Pos) : Bool := G.cells.any fun q => q.1 == p.line && q.2 == p.col
structure GOk (G : Glob) (call : Nat → OpN) (k : Nat) (prog : Program) (w : World) (K : PySem.W.Frag) (mg : Str → Option Value) (base : Heap) : Prop where
  blt : ∀ x ∈ G.blts, mg x = none
  cst : ∀ x d, G.consts.lookup x = some d → ∃ v u, mg x = some u ∧ RelV v u ∧ ∀ w, Rp K w d v
  dfs : ∀ x i, G.defs.lookup x = some i → ∃ f fd, mg x = some (.ref f) ∧ PySem.W.keepIn K (.ref f) = true ∧ FnOk prog w K mg base CX0 k f fd i.ps (spF K i.ps.length (call i.ix)) ∧ ∀ fo ∈ i.forms, Bnd K fd i.ps fo.1 fo.2.1 fo.2.2.1 fo.2.2.2
structure XOk (G : Glob) (call : Nat → OpN) (k : Nat) (N : List Str) (sc osc : Scope) (X : Cx) : Prop where
  n : X.N = N
  nd : N.Nodup
  scp : X.env.scope = sc
  fk : sc.kind = .function
  calm : X.calm = true
  room : Room k X.A
  xe : X.xe = fun _ _ => False
  sto : ∀ x, (osc.names.lookup x = some .local ∨ osc.names.lookup x = some .cell) → L2.Loc sc x ∧ (X.fn x = true ∨ sc.names.lookup x = some .local)
  g : GOk G call k X.prog X.w X.K X.mg X.base

inductive BK where
  | fn (id : String) | ty (T : String)
def bltTab (mk : Bool) : List (Str × BK × OpN) :=
  [("len", .fn "len", bLen), ("abs", .fn "abs", bAbs), ("max", .fn "max", bMax), ("min", .fn "min", bMin), ("sum", .fn "sum", bSum), ("all", .fn "all", bAll), ("any", .fn "any", bAny), ("sorted", .fn "sorted", bSorted mk),
   ("int", .ty "int", bInt), ("bool", .ty "bool", bBool), ("str", .ty "str", bStr), ("list", .ty "list", bList mk), ("tuple", .ty "tuple", bTuple)]
def BKOk (X : Cx) (x : Str) (b : BK) (f : OpN) : Prop := x ≠ "__name__" ∧ (x == ("__debug__" : Str)) = false ∧ match b with
  | .fn id => bootBuiltins x = some (.builtin id) ∧ OkCall X (.builtin id) f
  | .ty T => bootBuiltins x = some (.type T) ∧ OkCall X (.type T) f
theorem bltTab_ok {X : Cx} (hc : X.calm = true) (mk : Bool) : ∀ e ∈ bltTab mk, BKOk X e.1 e.2.1 e.2.2 := by
  intro e he
  simp only [bltTab, List.mem_cons, List.not_mem_nil, or_false] at he
  rcases he with rfl | rfl | rfl | rfl | rfl | rfl | rfl | rfl | rfl | rfl | rfl | rfl | rfl
  · exact ⟨by decide, by decide, by decide +kernel, okLen⟩
  · exact ⟨by decide, by decide, by decide +kernel, okAbs⟩
  · exact ⟨by decide, by decide, by decide +kernel, okMax hc⟩
  · exact ⟨by decide, by decide, by decide +kernel, okMin hc⟩
  · exact ⟨by decide, by decide, by decide +kernel, okSum hc⟩
  · exact ⟨by decide, by decide, by decide +kernel, okAll hc⟩
  · exact ⟨by decide, by decide, by decide +kernel, okAny hc⟩
  · exact ⟨(by show ("sorted" : Str) ≠ "__name__"; decide), (by show (("sorted" : Str) == "__debug__") = false; decide), (by show bootBuiltins "sorted" = some (.builtin "sorted"); decide +kernel), okSorted⟩
  · exact ⟨by decide, by decide, by decide +kernel, okInt⟩
  · exact ⟨by decide, by decide, by decide +kernel, okBool⟩
  · exact ⟨by decide, by decide, by decide +kernel, okStr⟩
  · exact ⟨(by show ("list" : Str) ≠ "__name__"; decide), (by show (("list" : Str) == "__debug__") = false; decide), (by show bootBuiltins "list" = some (.type "list"); decide +kernel), okList⟩
  · exact ⟨by decide, by decide, by decide +kernel, okTuple⟩
/-- methods of lists: the name, how many arguments -/
def mtTab : List ((Str × Nat) × String × OpM) :=
  [(("append", 1), "list.append", mAppend), (("pop", 0), "list.pop", mPop0), (("pop", 1), "list.pop", mPop1), (("extend", 1), "list.extend", mExtend), (("clear", 0), "list.clear", mClear), (("reverse", 0), "list.reverse", mReverse)]
theorem mtTab_ok {X : Cx} : ∀ e ∈ mtTab, Slot "list" e.1.1 e.2.1 ∧ typeOf (.builtin e.2.1) = pure (.type "method_descriptor") ∧ OkMt X e.2.1 e.2.2 := by
  intro e he
  simp only [mtTab, List.mem_cons, List.not_mem_nil, or_false] at he
  rcases he with rfl | rfl | rfl | rfl | rfl | rfl
  · exact ⟨PySem.F.slot_list_append, PySem.F.type_list_append, okAppend⟩
  · exact ⟨PySem.F.slot_list_pop, PySem.F.type_list_pop, okPop0⟩
  · exact ⟨PySem.F.slot_list_pop, PySem.F.type_list_pop, okPop1⟩
  · exact ⟨PySem.F.slot_list_extend, PySem.F.type_list_extend, okExtend⟩
  · exact ⟨PySem.F.slot_list_clear, PySem.F.type_list_clear, okClear⟩
  · exact ⟨PySem.F.slot_list_reverse, PySem.F.type_list_reverse, okReverse⟩
def binOf (mk : Bool) : Operator → Option Op2
  | .Add => some (opAdd mk)
  | .Sub => some opSub
  | .Mult => some (opMul mk)
  | .FloorDiv => some opFdiv
  | .Mod => some opMod
  | .Pow => some opPow
  | _ => none
theorem binOf_ok {X : Cx} {mk : Bool} {op : Operator} {f : Op2} (h : binOf mk op = some f) : OkOp X (binaryOp op) f := by
  cases op <;> simp only [binOf] at h <;> cases h
  · exact okAdd
  · exact okSub
  · exact okMul
  · exact okMod
  · exact okPow
  · exact okFdiv
def augOf : Operator → Option Op2
  | .Add => some opAddI
  | .Sub => some opSub
  | _ => none
theorem augOf_ok {X : Cx} {op : Operator} {f : Op2} (h : augOf op = some f) : OkOp X (inplaceOp op) f := by
  cases op <;> simp only [augOf] at h <;> cases h
  · exact op2I_ok (rI0_I iop_add) (fun _ _ _ => trivial) fun _ _ _ => rp_int
  · exact op2I_ok (rI0_I iop_sub) (fun _ _ _ => trivial) fun _ _ _ => rp_int
def cmpOf : CmpOp → Option Op2
  | .Eq => some opEq
  | .NotEq => some opNe
  | .Lt => some opLt
  | .LtE => some opLe
  | .Gt => some opGt
  | .GtE => some opGe
  | .Is => some (opIs false)
  | .IsNot => some (opIs true)
  | .In => some (opIn false)
  | .NotIn => some (opIn true)
theorem cmpOf_ok {X : Cx} {k : Nat} (hr : Room k X.A) {op : CmpOp} {f : Op2} (h : cmpOf op = some f) : OkOp X (compareOp op) f := by
  have u1 := hr.units
  have u2 : X.A.units + 65 < cLine := by have := hr.un; omega
  have u3 := hr.units0
  cases op <;> simp only [cmpOf] at h <;> cases h
  · exact okEq u1
  · exact okNe u1
  · exact okLt u3
  · exact okLe
  · exact okGt
  · exact okGe
  · exact okIs
  · exact okIsNot
  · exact okIn u2
  · exact okNotIn u2

/-! ### from the text to its meaning -/
def okName (x : Str) : Bool := !(x == ("__debug__" : Str)) && !(x == ("__classdict__" : Str)) && !(x == ("__name__" : Str))
def ixOf (x : Str) : List Str → Nat → Option Nat
  | [], _ => none
  | y :: ys, i => if x = y then some i else ixOf x ys (i + 1)
theorem ixOf_ok {x : Str} : ∀ {N : List Str} {i j : Nat}, ixOf x N i = some j → i ≤ j ∧ N[j - i]? = some x
  | [], _, _, h => by cases h
  | y :: ys, i, j, h => by
    simp only [ixOf] at h
    split at h
    · rename_i e; subst e; cases h; exact ⟨Nat.le_refl _, by simp⟩
    · obtain ⟨h1, h2⟩ := ixOf_ok h
      refine ⟨by omega, ?_⟩
      rw [show j - i = (j - (i + 1)) + 1 by omega]
      simpa using h2
def compL (f : Expr → Option SemE) : List Expr → Option SemA
  | [] => some aNil
  | e :: es => if plainE e then match f e, compL f es with | some m, some r => some (aCons m r) | _, _ => none else none
def compK (f : Expr → Option SemE) : List Keyword → Option SemA
  | [] => some aNil
  | ⟨_, e, _⟩ :: es => match f e, compK f es with | some m, some r => some (aCons m r) | _, _ => none
def kwNames : List Keyword → Option (List Str)
  | [] => some []
  | ⟨some n, _, _⟩ :: r => match kwNames r with | some ns => some (n :: ns) | none => none
  | _ => none
theorem kwNames_ok : ∀ {kws : List Keyword} {ks : List Str}, kwNames kws = some ks → kws.map (·.arg) = ks.map some
  | [], _, h => by cases h; rfl
  | ⟨some n, _, _⟩ :: r, _, h => by
    simp only [kwNames] at h
    split at h
    · rename_i ns hn
      cases h
      simp [kwNames_ok hn]
    · cases h
  | ⟨none, _, _⟩ :: r, _, h => by cases h
theorem compL_ok {X : Cx} {f : Expr → Option SemE} (hf : ∀ e m, f e = some m → OkE X e m) : ∀ {es : List Expr} {m : SemA}, compL f es = some m → OkA X es m ∧ es.all plainE = true
  | [], _, h => by cases h; exact ⟨okNil, rfl⟩
  | e :: es, _, h => by
    simp only [compL] at h
    split at h
    · rename_i hp
      split at h
      · rename_i m r h1 h2
        cases h
        obtain ⟨k1, k2⟩ := compL_ok hf h2
        exact ⟨okCons (hf _ _ h1) k1 hp, by rw [List.all_cons, hp, k2]; rfl⟩
      · cases h
    · cases h
theorem compK_ok {X : Cx} {f : Expr → Option SemE} (hf : ∀ e m, f e = some m → OkE X e m) : ∀ {es : List Keyword} {m : SemA}, compK f es = some m → OkK X es m
  | [], _, h => by cases h; exact okKNil
  | ⟨_, e, _⟩ :: es, _, h => by
    simp only [compK] at h
    split at h
    · rename_i m r h1 h2
      cases h
      exact okKCons (hf _ _ h1) (compK_ok hf h2)
    · cases h
/-- and, or as values; as tests -/
def compV (op : PySem.BoolOp) (f : Expr → Option SemE) : List Expr → Option SemE
  | [] => none
  | [a] => f a
  | a :: b :: r => match f a, compV op f (b :: r) with
    | some m, some n => some (match op with | .And => eAnd m n | .Or => eOr m n)
    | _, _ => none
def compW (op : PySem.BoolOp) (f : Expr → Option SemT) : List Expr → Option SemT
  | [] => none
  | [a] => f a
  | a :: b :: r => match f a, compW op f (b :: r) with
    | some m, some n => some (match op with | .And => tAnd m n | .Or => tOr m n)
    | _, _ => none
theorem compV_ok {X : Cx} {op : PySem.BoolOp} {pos : Pos} {f : Expr → Option SemE} (hf : ∀ e m, f e = some m → OkE X e m) : ∀ {es : List Expr} {m : SemE}, compV op f es = some m → OkE X (.BoolOp op es pos) m
  | [], _, h => by cases h
  | [a], _, h => okOneV (hf _ _ h)
  | a :: b :: r, _, h => by
    simp only [compV] at h
    split at h
    · rename_i m n h1 h2
      cases h
      have k := compV_ok (pos := pos) hf h2
      cases op with
      | And => exact okAndV (hf _ _ h1) k
      | Or => exact okOrV (hf _ _ h1) k
    · cases h
theorem compW_ok {X : Cx} {op : PySem.BoolOp} {pos : Pos} {f : Expr → Option SemT} (hf : ∀ e m, f e = some m → OkT X e m) : ∀ {es : List Expr} {m : SemT}, compW op f es = some m → OkW X (.BoolOp op es pos) m
  | [], _, h => by cases h
  | [a], _, h => okW1 (hf _ _ h)
  | a :: b :: r, _, h => by
    simp only [compW] at h
    split at h
    · rename_i m n h1 h2
      cases h
      have k := compW_ok (pos := pos) hf h2
      cases op with
      | And => exact okWAnd (hf _ _ h1) k
      | Or => exact okWOr (hf _ _ h1) k
    · cases h
/-- a global name that is a built-in of ours -/
def isBlt (G : Glob) (sc : Scope) (x : Str) : Bool := decide (sc.names.lookup x = some .globalImplicit) && G.blts.any fun y => decide (y = x)
theorem isBlt_ok {G : Glob} {call : Nat → OpN} {k : Nat} {N : List Str} {sc osc : Scope} {X : Cx} (o : XOk G call k N sc osc X) {x : Str} (h : isBlt G sc x = true) : Gl X x ∧ X.mg x = none := by
  unfold isBlt at h
  rw [Bool.and_eq_true, List.any_eq_true] at h
  obtain ⟨h1, y, hy, e⟩ := h
  have e : y = x := of_decide_eq_true e
  subst e
  refine ⟨?_, o.g.blt _ hy⟩
  show X.env.scope.names.lookup y = _
  rw [o.scp]; exact of_decide_eq_true h1
def compName (G : Glob) (N : List Str) (sc : Scope) (x : Str) : Option SemE :=
  if okName x then match sc.names.lookup x with
    | some .globalImplicit => match G.consts.lookup x with | some d => some (eC d) | none => none
    | some .globalExplicit => none
    | some _ => match ixOf x N 0 with | some i => some (eVar i) | none => none
    | none => none
  else none
theorem compName_ok {G : Glob} {call : Nat → OpN} {k : Nat} {N : List Str} {sc osc : Scope} {X : Cx} (o : XOk G call k N sc osc X) {x : Str} {p : Pos} {m : SemE} (h : compName G N sc x = some m) : OkE X (.Name x p) m := by
  unfold compName at h
  split at h
  case isFalse => cases h
  rename_i hn
  unfold okName at hn
  simp only [Bool.and_eq_true, Bool.not_eq_true'] at hn
  have slot : ∀ {kd : NameKind}, sc.names.lookup x = some kd → (kd = .local ∨ kd = .cell ∨ kd = .free) → ∀ {i : Nat}, ixOf x N 0 = some i → OkE X (.Name x p) (eVar i) := fun {kd} h1 h2 {i} h3 => by
    obtain ⟨_, h4⟩ := ixOf_ok h3
    refine okVar (pe_var (by rw [o.n]; simpa using h4) ?_ hn.1.1 hn.1.2)
    show X.env.scope.names.lookup x = _ ∨ X.env.scope.names.lookup x = _ ∨ X.env.scope.names.lookup x = _
    rw [o.scp, h1]
    rcases h2 with rfl | rfl | rfl <;> simp
  cases hk : sc.names.lookup x with
  | none => rw [hk] at h; cases h
  | some kd =>
    rw [hk] at h
    cases kd with
    | globalExplicit => cases h
    | globalImplicit =>
      simp only at h
      split at h
      · rename_i d hd
        cases h
        obtain ⟨v, u, h1, h2, h3⟩ := o.g.cst x d hd
        exact okC (pe_glob (by show X.env.scope.names.lookup x = _; rw [o.scp]; exact hk) h1 h2 hn.1.1) h3
      · cases h
    | «local» =>
      simp only at h
      split at h
      · rename_i i hi; cases h; exact slot hk (.inl rfl) hi
      · cases h
    | cell =>
      simp only at h
      split at h
      · rename_i i hi; cases h; exact slot hk (.inr (.inl rfl)) hi
      · cases h
    | free =>
      simp only at h
      split at h
      · rename_i i hi; cases h; exact slot hk (.inr (.inr rfl)) hi
      · cases h
/-- what is walked -/
def compI (G : Glob) (sc : Scope) (f : Expr → Option SemE) (tg : Expr) : Expr → Option SemI
  | .Call (.Name x p) args [] pos =>
    if x = "range" then if isBlt G sc "range" then match args with
        | [a] => match compL f [a] with | some m => some (iRange1 m) | none => none
        | [a, b] => match compL f [a, b] with | some m => some (iRange2 m) | none => none
        | _ => none
      else none
    else if x = "enumerate" then if isBlt G sc "enumerate" then match args, tg with
        | [a], .Tuple _ _ _ => match compL f [a] with | some m => some (iEnumS m) | none => none
        | _, _ => none
      else none
    else if x = "zip" then if isBlt G sc "zip" then match args, tg with
        | [a, b], .Tuple _ _ _ => match compL f [a, b] with | some m => some (iZipS m) | none => none
        | _, _ => none
      else none
    else match f (.Call (.Name x p) args [] pos) with | some m => some (iSeq m) | none => none
  | e => match f e with | some m => some (iSeq m) | none => none
theorem compI_ok {G : Glob} {call : Nat → OpN} {k : Nat} {N : List Str} {sc osc : Scope} {X : Cx} (o : XOk G call k N sc osc X) {f : Expr → Option SemE} (hf : ∀ e m, f e = some m → OkE X e m) {tg it : Expr} {m : SemI} (h : compI G sc f tg it = some m) : OkI X tg it m := by
  have seq : ∀ {e : Expr} {m : SemI}, (match f e with | some m => some (iSeq m) | none => none) = some m → OkI X tg e m := fun {e m} h => by
    split at h
    · rename_i m' hm; cases h; exact okISeq (hf _ _ hm)
    · cases h
  unfold compI at h
  split at h
  · rename_i x p args pos
    split at h
    · rename_i e; subst e
      split at h
      · rename_i hb
        obtain ⟨g1, g2⟩ := isBlt_ok o hb
        split at h
        · rename_i a
          split at h
          · rename_i mA hA
            cases h
            obtain ⟨k1, k2⟩ := compL_ok hf hA
            exact okIRange1 g1 g2 k1 (by simpa using k2)
          · cases h
        · rename_i a b
          split at h
          · rename_i mA hA
            cases h
            obtain ⟨k1, k2⟩ := compL_ok hf hA
            simp only [List.all_cons, List.all_nil, Bool.and_true, Bool.and_eq_true] at k2
            exact okIRange2 g1 g2 k1 k2.1 k2.2
          · cases h
        · cases h
      · cases h
    · split at h
      · rename_i e; subst e
        split at h
        · rename_i hb
          obtain ⟨g1, g2⟩ := isBlt_ok o hb
          split at h
          · rename_i a _ _ _
            split at h
            · rename_i mA hA
              cases h
              obtain ⟨k1, k2⟩ := compL_ok hf hA
              have k2 : plainE a = true := by simpa using k2
              exact okIEnum g1 g2 k1 k2 fun ha => pi_enumT g1 g2 ha (star_plain k2)
            · cases h
          · cases h
        · cases h
      · split at h
        · rename_i e; subst e
          split at h
          · rename_i hb
            obtain ⟨g1, g2⟩ := isBlt_ok o hb
            split at h
            · rename_i a b _ _ _
              split at h
              · rename_i mA hA
                cases h
                obtain ⟨k1, k2⟩ := compL_ok hf hA
                simp only [List.all_cons, List.all_nil, Bool.and_true, Bool.and_eq_true] at k2
                exact okIZip g1 g2 k1 k2.1 k2.2
              · cases h
            · cases h
          · cases h
        · exact seq h
  · exact seq h
end AW

namespace AW
open PySem PySem.Spec PyProof.Rows L2

/-- the block's own names with their places -/
def ownOf (N : List Str) : List (Str × NameKind) → List (Str × Nat)
  | [] => []
  | (n, kd) :: r => match kd with
    | .local => match ixOf n N 0 with | some i => (n, i) :: ownOf N r | none => ownOf N r
    | .cell => match ixOf n N 0 with | some i => (n, i) :: ownOf N r | none => ownOf N r
    | _ => ownOf N r
def memN (i : Nat) : List Nat → Bool
  | [] => false
  | j :: js => decide (i = j) || memN i js
def subN : List Nat → List Nat → Bool
  | [], _ => true
  | i :: is, js => memN i js && subN is js
theorem memN_ok {i : Nat} : ∀ {js : List Nat}, memN i js = true → i ∈ js
  | [], h => by cases h
  | j :: js, h => by
    simp only [memN, Bool.or_eq_true, decide_eq_true_eq] at h
    rcases h with rfl | h
    · exact List.mem_cons_self
    · exact List.mem_cons_of_mem _ (memN_ok h)
theorem subN_ok : ∀ {is js : List Nat}, subN is js = true → ∀ i ∈ is, i ∈ js
  | [], _, _, _, h => by cases h
  | i :: is, js, h, j, hj => by
    simp only [subN, Bool.and_eq_true] at h
    rcases List.mem_cons.mp hj with rfl | hj
    · exact memN_ok h.1
    · exact subN_ok h.2 j hj
/-- a target: its meaning, its slots -/
def storable (osc : Scope) (x : Str) : Bool := match osc.names.lookup x with
  | some .local => true
  | some .cell => true
  | _ => false
theorem storable_ok {osc : Scope} {x : Str} (h : storable osc x = true) : osc.names.lookup x = some .local ∨ osc.names.lookup x = some .cell := by
  unfold storable at h
  split at h
  · rename_i e; exact .inl e
  · rename_i e; exact .inr e
  · cases h
def compGs (f : Expr → Option (SemG × List Nat)) : List Expr → Option (SemGs × List Nat)
  | [] => some (gsNil, [])
  | e :: es => match e with
    | .Name .. => match f e, compGs f es with | some (g, v), some (gs, u) => some (gsCons g gs, v ++ u) | _, _ => none
    | .Tuple .. => match f e, compGs f es with | some (g, v), some (gs, u) => some (gsCons g gs, v ++ u) | _, _ => none
    | _ => none
/-- names alone, nested -/
def compGN (N : List Str) (osc : Scope) : Nat → Expr → Option (SemG × List Nat)
  | 0, _ => none
  | _ + 1, .Name x _ => if storable osc x then match ixOf x N 0 with | some i => some (fun d E S => some (E.set i (some d), S), [i]) | none => none else none
  | n + 1, .Tuple es _ _ => match compGs (compGN N osc n) es with | some (gs, v) => some (gUnpack es.length gs, v) | none => none
  | _ + 1, _ => none
theorem assignEach_len {env : PySem.Env} : ∀ {es : List Expr} {f : Expr → Option (SemG × List Nat)} {r : SemGs × List Nat}, compGs f es = some r → (assignEach es env).length = es.length ∧ (assignEach es env).findIdx? (·.1) = none
  | [], _, _, _ => ⟨rfl, rfl⟩
  | e :: es, f, r, h => by
    simp only [compGs] at h
    split at h
    · split at h
      · rename_i h2
        obtain ⟨k1, k2⟩ := assignEach_len (env := env) h2
        refine ⟨?_, ?_⟩
        · show _ + 1 = es.length + 1
          rw [k1]
        · show List.findIdx? _ ((false, _) :: assignEach es env) = none
          rw [List.findIdx?_cons, k2]; rfl
      · cases h
    · split at h
      · rename_i h2
        obtain ⟨k1, k2⟩ := assignEach_len (env := env) h2
        refine ⟨?_, ?_⟩
        · show _ + 1 = es.length + 1
          rw [k1]
        · show List.findIdx? _ ((false, _) :: assignEach es env) = none
          rw [List.findIdx?_cons, k2]; rfl
      · cases h
    · cases h
section
variable {G : Glob} {call : Nat → OpN} {k : Nat} {N : List Str} {sc osc : Scope} {X : Cx}
theorem compGs_ok {f : Expr → Option (SemG × List Nat)} (hf : ∀ e g v, f e = some (g, v) → OkG X e v g) : ∀ {es : List Expr} {gs : SemGs} {v : List Nat}, compGs f es = some (gs, v) → OkGs X es v gs
  | [], _, _, h => by cases h; exact okGsNil
  | e :: es, _, _, h => by
    simp only [compGs] at h
    split at h
    · split at h
      · rename_i h1 h2
        cases h
        exact okGsCons (hf _ _ _ h1) (compGs_ok hf h2) rfl
      · cases h
    · split at h
      · rename_i h1 h2
        cases h
        exact okGsCons (hf _ _ _ h1) (compGs_ok hf h2) rfl
      · cases h
    · cases h
theorem okName_slot (o : XOk G call k N sc osc X) {x : Str} {i : Nat} (hs : storable osc x = true) (hi : ixOf x N 0 = some i) : X.N.Nodup ∧ X.N[i]? = some x ∧ L2.Loc X.env.scope x ∧ (X.fn x = true ∨ X.env.scope.names.lookup x = some .local) := by
  obtain ⟨h1, h2⟩ := o.sto x (storable_ok hs)
  obtain ⟨_, h3⟩ := ixOf_ok hi
  rw [o.n, o.scp]
  exact ⟨o.nd, by simpa using h3, h1, h2⟩
theorem compGN_ok (o : XOk G call k N sc osc X) : ∀ {n : Nat} {e : Expr} {g : SemG} {v : List Nat}, compGN N osc n e = some (g, v) → OkG X e v g
  | 0, _, _, _, h => by cases h
  | n + 1, .Name x p, _, _, h => by
    simp only [compGN] at h
    split at h
    · rename_i hs
      split at h
      · rename_i i hi
        cases h
        obtain ⟨a, b, c, d⟩ := okName_slot o hs hi
        exact okGVar a b c d fun _ _ _ _ => trivial
      · cases h
    · cases h
  | n + 1, .Tuple es kk p, _, _, h => by
    simp only [compGN] at h
    split at h
    · rename_i gs v hg
      cases h
      obtain ⟨k1, k2⟩ := assignEach_len (env := X.env) hg
      exact okGUnpack o.calm (compGs_ok (fun e g v h => compGN_ok o h) hg) k1 k2
    · cases h
  | n + 1, .BoolOp .., _, _, h => by cases h
  | n + 1, .NamedExpr .., _, _, h => by cases h
  | n + 1, .BinOp .., _, _, h => by cases h
  | n + 1, .UnaryOp .., _, _, h => by cases h
  | n + 1, .Lambda .., _, _, h => by cases h
  | n + 1, .IfExp .., _, _, h => by cases h
  | n + 1, .Dict .., _, _, h => by cases h
  | n + 1, .Set .., _, _, h => by cases h
  | n + 1, .ListComp .., _, _, h => by cases h
  | n + 1, .SetComp .., _, _, h => by cases h
  | n + 1, .DictComp .., _, _, h => by cases h
  | n + 1, .GeneratorExp .., _, _, h => by cases h
  | n + 1, .Await .., _, _, h => by cases h
  | n + 1, .Yield .., _, _, h => by cases h
  | n + 1, .YieldFrom .., _, _, h => by cases h
  | n + 1, .Compare .., _, _, h => by cases h
  | n + 1, .Call .., _, _, h => by cases h
  | n + 1, .FormattedValue .., _, _, h => by cases h
  | n + 1, .JoinedStr .., _, _, h => by cases h
  | n + 1, .Constant .., _, _, h => by cases h
  | n + 1, .Attribute .., _, _, h => by cases h
  | n + 1, .Subscript .., _, _, h => by cases h
  | n + 1, .Starred .., _, _, h => by cases h
  | n + 1, .List .., _, _, h => by cases h
  | n + 1, .Slice .., _, _, h => by cases h
/-- a block's context -/
theorem XOk.blk (o : XOk G call k N sc osc X) (scope : Scope) (hk : scope.kind = .function) (s : Shared) (H : Hp) (C : Addr) (cl : List (Str × Addr)) (fp : List Addr) : XOk G call k N (relS scope sc) scope (X.blk s H scope (compEnvC scope cl C X.env) fp) where
  n := o.n
  nd := o.nd
  scp := by rw [← o.scp]; rfl
  fk := hk
  calm := o.calm
  room := o.room
  xe := rfl
  sto := fun x h => by
    have keep : ∀ {kd : NameKind}, kd ≠ .free → scope.names.lookup x = some kd → (relS scope sc).names.lookup x = some kd := fun h1 h2 => lookup_relS_keep h1 h2
    rcases h with h | h
    · exact ⟨.inl (keep (by decide) h), .inr (keep (by decide) h)⟩
    · refine ⟨.inr (keep (by decide) h), .inl ?_⟩
      show (scope.names.lookup x == some .cell) = true
      rw [h]; rfl
  g := o.g
end

/-! ### the compiler -/
def compIfs (f : Expr → Option SemT) : List Expr → Option SemT
  | [] => some tTrue
  | [c] => f c
  | _ => none
def findBlt (x : Str) : List (Str × BK × OpN) → Option (BK × OpN)
  | [] => none
  | (y, b, f) :: r => if x = y then some (b, f) else findBlt x r
def findMt (x : Str) (n : Nat) : List ((Str × Nat) × String × OpM) → Option (String × OpM)
  | [] => none
  | ((y, m), id, f) :: r => if x = y ∧ n = m then some (id, f) else findMt x n r
def findForm (n : Nat) (ks : List Str) : List (Nat × List Str × List D × List Nat) → Option (List D × List Nat)
  | [] => none
  | (m, js, dd, perm) :: r => if n = m ∧ ks = js then some (dd, perm) else findForm n ks r
/-- the argument of set(..), where that is all there is -/
def setArg : List Expr → Option Expr
  | [.Call (.Name y _) [a] [] _] => if y = "set" then some a else none
  | _ => none
theorem setArg_ok {args : List Expr} {a : Expr} (h : setArg args = some a) : ∃ p q, args = [.Call (.Name "set" p) [a] [] q] := by
  unfold setArg at h
  split at h
  · split at h
    · rename_i e; cases h; subst e; exact ⟨_, _, rfl⟩
    · cases h
  · cases h
/-- the arguments of range(..), where that is all there is -/
def rgArg : List Expr → Option (Expr × Option Expr)
  | [.Call (.Name y _) [a] [] _] => if y = "range" then some (a, none) else none
  | [.Call (.Name y _) [a, b] [] _] => if y = "range" then some (a, some b) else none
  | _ => none
theorem rgArg_one {args : List Expr} {a : Expr} (h : rgArg args = some (a, none)) : ∃ p q, args = [.Call (.Name "range" p) [a] [] q] := by
  unfold rgArg at h
  split at h
  · split at h
    · rename_i e; cases h; subst e; exact ⟨_, _, rfl⟩
    · cases h
  · split at h
    · cases h
    · cases h
  · cases h
theorem rgArg_two {args : List Expr} {a b : Expr} (h : rgArg args = some (a, some b)) : ∃ p q, args = [.Call (.Name "range" p) [a, b] [] q] := by
  unfold rgArg at h
  split at h
  · split at h
    · cases h
    · cases h
  · split at h
    · rename_i e; cases h; subst e; exact ⟨_, _, rfl⟩
    · cases h
  · cases h
/-- the names of a display's classes are built-ins of ours -/
def allBlt (G : Glob) (sc : Scope) (es : List Expr) : Bool := (exNames es).all (isBlt G sc)
variable (G : Glob) (call : Nat → OpN) (N : List Str)
mutual
def compE : Nat → Scope → Expr → Option SemE
  | 0, _, _ => none
  | n + 1, sc, e => match e with
    | .Constant c _ _ => match c with
      | .int i => some (eC (.int i))
      | .bool b => some (eC (.bl b))
      | .str s => some (eC (.str s))
      | .none => some (eC .non)
      | _ => none
    | .Name x _ => compName G N sc x
    | .BinOp a op b pos => match compE n sc a, compE n sc b, binOf (G.isCell pos) op with
      | some ma, some mb, some f => some (eBin f ma mb)
      | _, _, _ => none
    | .UnaryOp op a _ => match op with
      | .Not => match compE n sc a with | some ma => some (eNot ma) | none => none
      | .USub => match compE n sc a with | some ma => some (eUn opNeg ma) | none => none
      | _ => none
    | .BoolOp op vs _ => compV op (compE n sc) vs
    | .Compare a ops cs _ => match ops, cs with
      | [op], [b] => match compE n sc a, compE n sc b, cmpOf op with
        | some ma, some mb, some f => if behindInMarks op b then none else some (eBin f ma mb)
        | _, _, _ => none
      | [op, op'], [b, c] => match compE n sc a, compE n sc b, compE n sc c, cmpOf op, cmpOf op' with
        | some ma, some mb, some mc, some f, some g => if lastMarks [op, op'] [b, c] then none else some (eChain f g ma mb mc)
        | _, _, _, _, _ => none
      | _, _ => none
    | .IfExp t a b _ => match compT n sc t, compE n sc a, compE n sc b with
      | some mt, some ma, some mb => some (eIf mt ma mb)
      | _, _, _ => none
    | .Tuple es _ _ => match compL (compE n sc) es with | some m => some (eArgs fTup m) | none => none
    | .List es pos => match compL (compE n sc) es with | some m => some (eArgs (fLst (G.isCell pos)) m) | none => none
    | .Subscript a i pos => match i with
      | .Slice lo hi none _ => match compE n sc a, (match lo with | none => some oNone | some l => match compE n sc l with | some m => some (oSome m) | none => none), (match hi with | none => some oNone | some l => match compE n sc l with | some m => some (oSome m) | none => none) with
        | some ma, some ml, some mh => some (eSl (opSl (G.isCell pos)) ma ml mh)
        | _, _, _ => none
      | .Slice none none (some (.UnaryOp .USub (.Constant (.int 1) _ _) _)) _ => match compE n sc a with
        | some ma => some (eRev (G.isCell pos) ma)
        | none => none
      | i => if plainE i then match compE n sc a, compE n sc i with
          | some ma, some mi => some (eBin opIx ma mi)
          | _, _ => none
        else none
    | .Call f args kws pos => match f with
      | .Name x _ => match G.defs.lookup x with
        | some d => if okName x && decide (sc.names.lookup x = some .globalImplicit) then match compL (compE n sc) args, compK (compE n sc) kws, kwNames kws with
            | some mA, some mK, some ks => match findForm args.length ks d.forms with
              | some (dd, perm) => some (eCall (if d.heap then call d.ix else callP (G.isCell pos) (call d.ix)) args.length ks.length d.ps.length dd perm mA mK)
              | none => none
            | _, _, _ => none
          else none
        | none => match kws with
          | [] => if isBlt G sc x then
              if x = "isinstance" then match args with
                | [a, c] => match c with
                  | .Name y _ => match tyOf y, compE n sc a with
                    | some t, some ma => if plainE a && isBlt G sc y then some (eUn (opIsi [t]) ma) else none
                    | _, _ => none
                  | .Tuple es _ _ => match tyNames es, compE n sc a with
                    | some ts, some ma => if plainE a && allBlt G sc es && decide (ts.length ≤ LIM) then some (eUn (opIsi ts) ma) else none
                    | _, _ => none
                  | _ => none
                | _ => none
              else match (if x = "sorted" ∧ isBlt G sc "set" = true then setArg args else none) with
              | some a => match compE n sc a with
                | some ma => if plainE a then some (eUn (opSortSet (G.isCell pos)) ma) else none
                | none => none
              | none => match (if (x = "tuple" ∨ x = "list") ∧ isBlt G sc "range" = true then rgArg args else none) with
              | some (a, none) => match compE n sc a with
                | some ma => if plainE a then some (eUn (opRg1 (decide (x = "tuple")) (G.isCell pos)) ma) else none
                | none => none
              | some (a, some b) => match compE n sc a, compE n sc b with
                | some ma, some mb => if plainE a && plainE b then some (eBin (opRg2 (decide (x = "tuple")) (G.isCell pos)) ma mb) else none
                | _, _ => none
              | none => match args with
                | [] => none
                | a :: as => match findBlt x (bltTab (G.isCell pos)), compL (compE n sc) (a :: as) with
                  | some (_, f), some m => some (eArgs f m)
                  | _, _ => none
            else none
          | _ => none
      | .Attribute o m apos => match kws with
        | [] => if baseE o && (apos.endLine == pos.line) && decide (args.length < 30) then match compE n sc o, compL (compE n sc) args, findMt m args.length mtTab with
            | some mo, some mA, some (_, f) => some (eMethL f mo mA)
            | _, _, _ => none
          else none
        | _ => none
      | _ => none
    | .ListComp elt gens scope pos => match gens with
      | [⟨tg, iter, ifs, 0⟩] =>
        if blkC N sc scope (ownOf N scope.names) && plainE iter then
          match compI G sc (compE n sc) tg iter, compGN N scope 8 tg, compIfs (compT n (relS scope sc)) ifs, compE n (relS scope sc) elt with
          | some mi, some (g, us), some mt, some me => if subN us ((ownOf N scope.names).map (·.2)) then some (eComp (G.isCell pos) mi g mt me ((ownOf N scope.names).map (·.2))) else none
          | _, _, _, _ => none
        else none
      | [⟨tg, iter, ifs, 0⟩, ⟨tg1, iter1, ifs1, 0⟩] =>
        if blkC N sc scope (ownOf N scope.names) && plainE iter && plainE iter1 then
          match compI G sc (compE n sc) tg iter, compGN N scope 8 tg, compIfs (compT n (relS scope sc)) ifs, compE n (relS scope sc) elt, compI G (relS scope sc) (compE n (relS scope sc)) tg1 iter1, compGN N scope 8 tg1, compIfs (compT n (relS scope sc)) ifs1 with
          | some mi, some (g, us), some mt, some me, some mi1, some (g1, us1), some mt1 =>
            if subN us ((ownOf N scope.names).map (·.2)) && subN us1 ((ownOf N scope.names).map (·.2)) then some (eComp2 (G.isCell pos) mi g mt mi1 g1 mt1 me ((ownOf N scope.names).map (·.2)) us1) else none
          | _, _, _, _, _, _, _ => none
        else none
      | _ => none
    | _ => none
def compT : Nat → Scope → Expr → Option SemT
  | 0, _, _ => none
  | n + 1, sc, e => match e with
    | .BoolOp op vs _ => compW op (compT n sc) vs
    | .UnaryOp .Not a _ => match compT n sc a with | some m => some (tNot m) | none => none
    | .Compare a ops cs _ => match ops, cs with
      | [op], [b] => match compE n sc a, compE n sc b, cmpOf op with
        | some ma, some mb, some f => if behindInMarks op b then none else some (tBl (eBin f ma mb))
        | _, _, _ => none
      | [op, op'], [b, c] => match compE n sc a, compE n sc b, compE n sc c, cmpOf op, cmpOf op' with
        | some ma, some mb, some mc, some f, some g => if lastMarks [op, op'] [b, c] then none else some (tBl (eChain f g ma mb mc))
        | _, _, _, _, _ => none
      | _, _ => none
    | e => if tstE e then match compE n sc e with | some m => some (tVal m) | none => none else none
end
end AW

namespace AW
open PySem PySem.Spec PyProof.Rows L2
theorem findBlt_mem {x : Str} {r : BK × OpN} : ∀ {l : List (Str × BK × OpN)}, findBlt x l = some r → (x, r.1, r.2) ∈ l
  | [], h => by cases h
  | (y, b, f) :: t, h => by
    simp only [findBlt] at h
    split at h
    · rename_i e; subst e; cases h; exact List.mem_cons_self
    · exact List.mem_cons_of_mem _ (findBlt_mem h)
theorem findMt_mem {x : Str} {n : Nat} {r : String × OpM} : ∀ {l : List ((Str × Nat) × String × OpM)}, findMt x n l = some r → ((x, n), r.1, r.2) ∈ l
  | [], h => by cases h
  | ((y, m), id, f) :: t, h => by
    simp only [findMt] at h
    split at h
    · rename_i e; obtain ⟨rfl, rfl⟩ := e; cases h; exact List.mem_cons_self
    · exact List.mem_cons_of_mem _ (findMt_mem h)
theorem findForm_mem {n : Nat} {ks : List Str} {r : List D × List Nat} : ∀ {l : List (Nat × List Str × List D × List Nat)}, findForm n ks l = some r → (n, ks, r.1, r.2) ∈ l
  | [], h => by cases h
  | (m, js, dd, perm) :: t, h => by
    simp only [findForm] at h
    split at h
    · rename_i e; obtain ⟨rfl, rfl⟩ := e; cases h; exact List.mem_cons_self
    · exact List.mem_cons_of_mem _ (findForm_mem h)
theorem _root_.L2.PTs.imp {X : Cx} {e : List Expr} {t t' : TT} (h : PTs X e t) (k : ∀ σ H Q, t' σ H Q → t σ H Q) : PTs X e t' := ⟨fun pins s σ H Q I q => h.run pins s σ H Q I (k σ H Q q)⟩
theorem compIfs_ok {X : Cx} {f : Expr → Option SemT} (hf : ∀ e m, f e = some m → OkT X e m) {ifs : List Expr} {m : SemT} (h : compIfs f ifs = some m) : PTs X ifs (rdT X.K m) := by
  match ifs, h with
  | [], h =>
    cases h
    exact pts_nil.imp fun σ H Q ⟨w, E, S, c, se, _, _, e, q⟩ => by cases e; exact q true w H (Ext.refl _ _) c rfl
  | [c], h => exact pts_one (hf _ _ h)
  | _ :: _ :: _, h => cases h
section
variable {G : Glob} {call : Nat → OpN} {k : Nat} {N : List Str} {sc osc : Scope} {X : Cx}
theorem exNames_ok (o : XOk G call k N sc osc X) {es : List Expr} (h : allBlt G sc es = true) : ∀ x ∈ exNames es, Gl X x ∧ X.mg x = none := fun x hx => by
  unfold allBlt at h
  rw [List.all_eq_true] at h
  exact isBlt_ok o (h x hx)
/-- a comprehension, in the place of a value -/
theorem okComp1 (o : XOk G call k N sc osc X) {fE : Scope → Expr → Option SemE} {fT : Scope → Expr → Option SemT}
    (hE : ∀ {sc osc X}, XOk G call k N sc osc X → ∀ e m, fE sc e = some m → OkE X e m) (hT : ∀ {sc osc X}, XOk G call k N sc osc X → ∀ e m, fT sc e = some m → OkT X e m)
    {elt tg iter : Expr} {ifs : List Expr} {scope : Scope} {mi : SemI} {g : SemG} {us : List Nat} {mt : SemT} {me : SemE}
    (hb : blkC N sc scope (ownOf N scope.names) = true) (h1 : compI G sc (fE sc) tg iter = some mi) (h2 : compGN N scope 8 tg = some (g, us)) (h3 : compIfs (fT (relS scope sc)) ifs = some mt) (h4 : fE (relS scope sc) elt = some me) :
    PI X tg iter (rdI X.K mi) ∧ BlkOk X.N X.env.scope scope (ownOf N scope.names) ∧ (∀ (s : Shared) (H : Hp) (C : Addr) (cl : List (Str × Addr)) (fp : List Addr), PG (X.blk s H scope (compEnvC scope cl C X.env) fp) tg (rdG X.K us g)) ∧
      (∀ (s : Shared) (H : Hp) (C : Addr) (cl : List (Str × Addr)) (fp : List Addr), PTs (X.blk s H scope (compEnvC scope cl C X.env) fp) ifs (rdT X.K mt)) ∧ (∀ (s : Shared) (H : Hp) (C : Addr) (cl : List (Str × Addr)) (fp : List Addr), PE (X.blk s H scope (compEnvC scope cl C X.env) fp) elt (rdE X.K me)) := by
  have ok := blkOk_by hb
  refine ⟨compI_ok o (hE o) h1, by rw [o.n, o.scp]; exact ok, fun s H C cl fp => ?_, fun s H C cl fp => ?_, fun s H C cl fp => ?_⟩
  · exact compGN_ok (o.blk scope ok.kind s H C cl fp) h2
  · exact compIfs_ok (hT (o.blk scope ok.kind s H C cl fp)) h3
  · exact hE (o.blk scope ok.kind s H C cl fp) _ _ h4
theorem callMode_ok {K : PySem.W.Frag} {heap mk : Bool} {m : OpN} {np : Nat} {w : Wd} {H : Hp} {S : Sto} {Q : VK} {E : XK} {ds : List D} {vs : List V} (c : SimC K w H S) (r : RpL K w ds vs) (hl : ds.length = np) (q : Aft K w H ((if heap = true then m else callP mk m) ds S) Q) : spF K np m vs H Q E := by
  by_cases hh : heap = true
  · rw [if_pos hh] at q; exact callH_ok c r hl q
  · rw [if_neg hh] at q; exact callP_ok c r hl q
theorem okCallAny {mA mK : SemA} {f : Addr} {fd : FuncData} {ps ks : List Str} {x : Str} {p pos : Pos} {es : List Expr} {kws : List Keyword} {dd : List D} {perm : List Nat} {m m' : OpN} {n : Nat} (F : FnOk X.prog X.w X.K X.mg X.base CX0 k f fd ps (spF X.K ps.length m))
    (hm' : ∀ {w : Wd} {H : Hp} {S : Sto} {Q : VK} {E : XK} {ds : List D} {vs : List V}, SimC X.K w H S → RpL X.K w ds vs → ds.length = ps.length → Aft X.K w H (m' ds S) Q → spF X.K ps.length m vs H Q E)
    (hr : Room k X.A) (hg : Gl X x) (hm : X.mg x = some (.ref f)) (hk : PySem.W.keepIn X.K (.ref f) = true) (hb : Bnd X.K fd ps n ks dd perm) (ha : OkA X es mA) (hp : es.all plainE = true) (h0 : es = [] → mA = aNil) (hkw : OkK X kws mK) (hks : kws.map (·.arg) = ks.map some) (hdb : (x == ("__debug__" : Str)) = false) :
    OkE X (.Call (.Name x p) es kws pos) (eCall m' n ks.length ps.length dd perm mA mK) := by
  cases es with
  | nil => rw [h0 rfl]; exact okCall0 F hm' hr hg hm hk hb hkw hks hdb
  | cons a as =>
    rw [List.all_cons, Bool.and_eq_true] at hp
    exact okCall F hm' hr hg hm hk hb ha hp.1 hp.2 hkw hks hdb
theorem okMethAny {o : Expr} {mo : SemE} {mA : SemA} {es : List Expr} {apos cpos : Pos} {name : Str} {id : String} {f : OpM} (slot : Slot "list" name id) (hty : typeOf (.builtin id) = pure (.type "method_descriptor")) (hm : OkMt X id f) (ho : OkE X o mo) (hb : baseE o = true) (ha : OkA X es mA) (hp : es.all plainE = true) (hn : es.length < 30) (h0 : es = [] → mA = aNil) (hline : (apos.endLine == cpos.line) = true) :
    OkE X (.Call (.Attribute o name apos) es [] cpos) (eMethL f mo mA) := by
  cases es with
  | nil => rw [h0 rfl]; exact okMethL0 PySem.F.plainAttrs_list slot hty hm ho hb hline
  | cons a as =>
    rw [List.all_cons, Bool.and_eq_true] at hp
    exact okMethL PySem.F.plainAttrs_list slot hty hm ho hb ha hp.1 hp.2 hn hline
theorem nodup_N (o : XOk G call k N sc osc X) : X.N.Nodup := by rw [o.n]; exact o.nd
theorem comp_ok : ∀ (n : Nat) {sc osc : Scope} {X : Cx}, XOk G call k N sc osc X → (∀ e m, compE G call N n sc e = some m → OkE X e m) ∧ (∀ e m, compT G call N n sc e = some m → OkT X e m)
  | 0, _, _, _, _ => ⟨fun _ _ h => (by cases h), fun _ _ h => (by cases h)⟩
  | n + 1, sc, osc, X, o => by
    have ih : ∀ {sc osc X}, XOk G call k N sc osc X → _ := fun {sc osc X} => comp_ok n (sc := sc) (osc := osc) (X := X)
    have hE : ∀ {sc osc X}, XOk G call k N sc osc X → ∀ e m, compE G call N n sc e = some m → OkE X e m := fun o => (ih o).1
    have hT : ∀ {sc osc X}, XOk G call k N sc osc X → ∀ e m, compT G call N n sc e = some m → OkT X e m := fun o => (ih o).2
    refine ⟨fun e m h => ?_, fun e m h => ?_⟩
    · unfold compE at h
      split at h
      · -- a constant
        split at h
        · cases h; exact okC pe_int fun _ => rp_int
        · cases h; exact okC pe_bl fun _ => rp_bl
        · cases h; exact okC pe_str fun _ => rp_str
        · cases h; exact okC pe_non fun _ => rp_non
        · cases h
      · exact compName_ok o h
      · split at h
        · rename_i h1 h2 h3
          cases h
          exact okBin (binOf_ok h3) (hE o _ _ h1) (hE o _ _ h2)
        · cases h
      · split at h
        · split at h
          · rename_i h1; cases h; exact okNotV (hE o _ _ h1)
          · cases h
        · split at h
          · rename_i h1; cases h; exact okUn okNeg (hE o _ _ h1)
          · cases h
        · cases h
      · exact compV_ok (hE o) h
      · split at h
        · split at h
          · rename_i h1 h2 h3
            split at h
            · cases h
            · rename_i hm
              cases h
              exact okCmp (cmpOf_ok o.room h3) (hE o _ _ h1) (hE o _ _ h2) (by simpa using hm)
          · cases h
        · split at h
          · rename_i h1 h2 h3 h4 h5
            split at h
            · cases h
            · rename_i hm
              cases h
              exact okChain (cmpOf_ok o.room h4) (cmpOf_ok o.room h5) (hE o _ _ h1) (hE o _ _ h2) (hE o _ _ h3) (by simpa using hm)
          · cases h
        · cases h
      · split at h
        · rename_i h1 h2 h3
          cases h
          exact okIf (hT o _ _ h1) (hE o _ _ h2) (hE o _ _ h3)
        · cases h
      · split at h
        · rename_i h1; cases h; exact okTup (compL_ok (hE o) h1).1
        · cases h
      · split at h
        · rename_i h1; cases h; exact okLst (compL_ok (hE o) h1).1
        · cases h
      · -- a subscript
        split at h
        · rename_i lo hi p
          split at h
          · rename_i h1 h2 h3
            cases h
            have part : ∀ {x : Option Expr} {m : SemO}, (match x with | none => some oNone | some l => match compE G call N n sc l with | some m => some (oSome m) | none => none) = some m → OkO X x m := fun {x m} h => by
              cases x with
              | none => cases h; exact okONone
              | some l =>
                simp only at h
                split at h
                · rename_i h1; cases h; exact okOSome (hE o _ _ h1)
                · cases h
            exact okSlE okSl (hE o _ _ h1) (part h2) (part h3)
          · cases h
        · split at h
          · rename_i h1; cases h; exact okRevE (hE o _ _ h1)
          · cases h
        · split at h
          · rename_i hp
            split at h
            · rename_i h1 h2
              cases h
              exact okIxE okIx (hE o _ _ h1) (hE o _ _ h2) hp
            · cases h
          · cases h
      · -- a call
        split at h
        · rename_i x p
          split at h
          · -- a def of the text
            rename_i d hd
            split at h
            · rename_i hn
              rw [Bool.and_eq_true] at hn
              obtain ⟨hn1, hn2⟩ := hn
              have hg : Gl X x := by
                show X.env.scope.names.lookup x = _
                rw [o.scp]; exact of_decide_eq_true hn2
              unfold okName at hn1
              simp only [Bool.and_eq_true, Bool.not_eq_true'] at hn1
              split at h
              · rename_i mA mK ks h1 h2 h3
                split at h
                · rename_i dd perm h4
                  cases h
                  obtain ⟨f, fd, g1, g2, g3, g4⟩ := o.g.dfs x d hd
                  have hb := g4 _ (findForm_mem h4)
                  obtain ⟨k1, k2⟩ := compL_ok (hE o) h1
                  have k3 := compK_ok (hE o) h2
                  have k4 := kwNames_ok h3
                  exact okCallAny g3 (fun c r hl q => callMode_ok c r hl q) o.room hg g1 g2 hb k1 k2 (fun e => by rw [e] at h1; cases h1; rfl) k3 k4 hn1.1.1
                · cases h
              · cases h
            · cases h
          · split at h
            · split at h
              · rename_i hb
                obtain ⟨b1, b2⟩ := isBlt_ok o hb
                split at h
                · rename_i ex
                  subst ex
                  split at h
                  · rename_i a c
                    split at h
                    · split at h
                      · rename_i h1 h2
                        split at h
                        · rename_i hp
                          rw [Bool.and_eq_true] at hp
                          cases h
                          obtain ⟨c1, c2⟩ := isBlt_ok o hp.2
                          exact okIsi1 (hE o _ _ h2) hp.1 b1 b2 c1 c2 h1
                        · cases h
                      · cases h
                    · split at h
                      · rename_i h1 h2
                        split at h
                        · rename_i hp
                          rw [Bool.and_eq_true, Bool.and_eq_true] at hp
                          cases h
                          exact okIsiT (hE o _ _ h2) hp.1.1 b1 b2 h1 (exNames_ok o hp.1.2) (of_decide_eq_true hp.2)
                        · cases h
                      · cases h
                    · cases h
                  · cases h
                · split at h
                  · rename_i a ha
                    split at ha
                    · rename_i hs
                      obtain ⟨ex, hset⟩ := hs
                      subst ex
                      obtain ⟨s1, s2⟩ := isBlt_ok o hset
                      obtain ⟨p1, q1, rfl⟩ := setArg_ok ha
                      split at h
                      · rename_i h1
                        split at h
                        · rename_i hp
                          cases h
                          exact okSortSet o.calm b1 b2 s1 s2 (hE o _ _ h1) hp
                        · cases h
                      · cases h
                    · cases ha
                  split at h
                  · rename_i a ha
                    split at ha
                    · rename_i hs
                      obtain ⟨ex, hset⟩ := hs
                      obtain ⟨s1, s2⟩ := isBlt_ok o hset
                      obtain ⟨p1, q1, rfl⟩ := rgArg_one ha
                      split at h
                      · rename_i h1
                        split at h
                        · rename_i hp
                          cases h
                          rcases ex with ex | ex
                          · subst ex; exact okTupRg1 o.calm b1 b2 s1 s2 (hE o _ _ h1) hp
                          · subst ex; exact okLstRg1 o.calm b1 b2 s1 s2 (hE o _ _ h1) hp
                        · cases h
                      · cases h
                    · cases ha
                  · rename_i a b ha
                    split at ha
                    · rename_i hs
                      obtain ⟨ex, hset⟩ := hs
                      obtain ⟨s1, s2⟩ := isBlt_ok o hset
                      obtain ⟨p1, q1, rfl⟩ := rgArg_two ha
                      split at h
                      · rename_i h1 h2
                        split at h
                        · rename_i hp
                          rw [Bool.and_eq_true] at hp
                          cases h
                          rcases ex with ex | ex
                          · subst ex; exact okTupRg2 o.calm b1 b2 s1 s2 (hE o _ _ h1) (hE o _ _ h2) hp.1 hp.2
                          · subst ex; exact okLstRg2 o.calm b1 b2 s1 s2 (hE o _ _ h1) (hE o _ _ h2) hp.1 hp.2
                        · cases h
                      · cases h
                    · cases ha
                  split at h
                  · cases h
                  · rename_i a as
                    split at h
                    · rename_i bk f m h1 h2
                      cases h
                      obtain ⟨k1, k2⟩ := compL_ok (hE o) h2
                      rw [List.all_cons, Bool.and_eq_true] at k2
                      obtain ⟨t1, t2, t3⟩ := bltTab_ok o.calm _ _ (findBlt_mem h1)
                      cases bk with
                      | fn id => exact okCallB t3.2 b1 b2 t3.1 k1 k2.1 k2.2 t1 t2
                      | ty T => exact okCallTy t3.2 b1 b2 t3.1 k1 k2.1 k2.2 t1 t2
                    · cases h
              · cases h
            · cases h
        · -- a method
          split at h
          · split at h
            · rename_i hc
              rw [Bool.and_eq_true, Bool.and_eq_true] at hc
              split at h
              · rename_i h1 h2 h3
                cases h
                obtain ⟨k1, k2⟩ := compL_ok (hE o) h2
                obtain ⟨t1, t2, t3⟩ := mtTab_ok (X := X) _ (findMt_mem h3)
                exact okMethAny t1 t2 t3 (hE o _ _ h1) hc.1.1 k1 k2 (of_decide_eq_true hc.2) (fun e => by rw [e] at h2; cases h2; rfl) hc.1.2
              · cases h
            · cases h
          · cases h
        · cases h
      · -- a comprehension
        split at h
        · split at h
          · rename_i hb
            rw [Bool.and_eq_true] at hb
            split at h
            · rename_i h1 h2 h3 h4
              split at h
              · rename_i hu
                cases h
                obtain ⟨k1, k2, k3, k4, k5⟩ := okComp1 o hE hT hb.1 h1 h2 h3 h4
                exact (pe_lc o.calm (nodup_N o) k1 k2 k3 k4 k5 (fsi_plain hb.2)).imp (lc_rd (subN_ok hu))
              · cases h
            · cases h
          · cases h
        · split at h
          · rename_i hb
            rw [Bool.and_eq_true, Bool.and_eq_true] at hb
            split at h
            · rename_i h1 h2 h3 h4 h5 h6 h7
              split at h
              · rename_i hu
                rw [Bool.and_eq_true] at hu
                cases h
                obtain ⟨k1, k2, k3, k4, k5⟩ := okComp1 o hE hT hb.1.1 h1 h2 h3 h4
                have ok := blkOk_by hb.1.1
                refine (pe_lc2 o.calm (nodup_N o) k1 k2 (subN_ok hu.2) k3 k4 (fun s H C cl fp => compI_ok (o.blk _ ok.kind s H C cl fp) (hE (o.blk _ ok.kind s H C cl fp)) h5)
                  (fun s H C cl fp => compGN_ok (o.blk _ ok.kind s H C cl fp) h6) (fun s H C cl fp => compIfs_ok (hT (o.blk _ ok.kind s H C cl fp)) h7) k5 (fsi_plain hb.1.2) (fun _ => fsi_plain hb.2)).imp (lc2_rd (subN_ok hu.1) fun _ h => h)
              · cases h
            · cases h
          · cases h
        · cases h
      · cases h
    · unfold compT at h
      split at h
      · exact (compW_ok (hT o) h).pt
      · split at h
        · rename_i h1; cases h; exact okTNot (hT o _ _ h1)
        · cases h
      · split at h
        · split at h
          · rename_i h1 h2 h3
            split at h
            · cases h
            · rename_i hm
              cases h
              exact okCmpT (cmpOf_ok o.room h3) (hE o _ _ h1) (hE o _ _ h2) (by simpa using hm)
          · cases h
        · split at h
          · rename_i h1 h2 h3 h4 h5
            split at h
            · cases h
            · rename_i hm
              cases h
              exact okChainT (cmpOf_ok o.room h4) (cmpOf_ok o.room h5) (hE o _ _ h1) (hE o _ _ h2) (hE o _ _ h3) (by simpa using hm)
          · cases h
        · cases h
      · split at h
        · rename_i ht
          split at h
          · rename_i h1; cases h; exact okTruth (hE o _ _ h1) ht
          · cases h
        · cases h
end
end AW

namespace AW
open PySem PySem.Spec PyProof.Rows L2

/-- the model's own question whether a pair of stores is swapped -/
def swNames (sc : Scope) (line : Nat) (ts : List Expr) : List Str := ts.filterMap fun
  | .Name id pos => if sc.names.lookup id == some .local && pos.line == line then some id else none
  | _ => none
def isStar : Expr → Bool
  | .Starred .. => true
  | _ => false
def swP (sc : Scope) (ts vs : List Expr) : Option (Option (List Str)) :=
  if (!(ts.length == 2 || ts.length == 3) || vs.length != ts.length) = true then some none
  else if vs.any isStar = true then some none
  else if ((swNames sc ((ts.head?.map (·.pos.line)).getD 0) ts).length != ts.length || (swNames sc ((ts.head?.map (·.pos.line)).getD 0) ts).eraseDups.length != (swNames sc ((ts.head?.map (·.pos.line)).getD 0) ts).length) = true then some none
  else if vs.all (foldedForSure 8) = true then some none
  else if vs.all (constantsAlone 8) = true then none
  else some (some (swNames sc ((ts.head?.map (·.pos.line)).getD 0) ts))
theorem blockKind_fn {env : PySem.Env} (hk : env.scope.kind = .function) : env.blockKind = .function := by
  unfold Env.blockKind; rw [hk]; rfl
theorem swP_ok {sc : Scope} {env : PySem.Env} (h : env.scope = sc) (hk : sc.kind = .function) {ts vs : List Expr} {k k2 : Nat} {p p2 : Pos} {r : Option (List Str)} (e : swP sc ts vs = some r) : swappedStores [.Tuple ts k p] (.Tuple vs k2 p2) env = pure r := by
  have hb : env.blockKind = .function := blockKind_fn (by rw [h]; exact hk)
  subst h
  unfold swP at e
  unfold swappedStores
  simp only [hb, bne_self_eq_false, Bool.or_false]
  change (if (!(ts.length == 2 || ts.length == 3) || vs.length != ts.length) = true then pure none
    else if vs.any isStar = true then pure none
    else if ((swNames env.scope ((ts.head?.map (·.pos.line)).getD 0) ts).length != ts.length || (swNames env.scope ((ts.head?.map (·.pos.line)).getD 0) ts).eraseDups.length != (swNames env.scope ((ts.head?.map (·.pos.line)).getD 0) ts).length) = true then pure none
    else if vs.all (foldedForSure 8) = true then pure none
    else if vs.all (constantsAlone 8) = true then (do unsupported "assign.tuple-of-constant-expressions:order-of-the-stores"; pure (some (swNames env.scope ((ts.head?.map (·.pos.line)).getD 0) ts)))
    else pure (some (swNames env.scope ((ts.head?.map (·.pos.line)).getD 0) ts))) = (pure r : Sem (Option (List Str)))
  split at e
  · rename_i c; rw [if_pos c]; cases e; rfl
  · rename_i c; rw [if_neg c]
    split at e
    · rename_i c; rw [if_pos c]; cases e; rfl
    · rename_i c; rw [if_neg c]
      split at e
      · rename_i c; rw [if_pos c]; cases e; rfl
      · rename_i c; rw [if_neg c]
        split at e
        · rename_i c; rw [if_pos c]; cases e; rfl
        · rename_i c; rw [if_neg c]
          split at e
          · cases e
          · rename_i c; rw [if_neg c]; cases e; rfl
/-- name = a comprehension, stored within it -/
def swN (sc scope : Scope) (x : Str) (l l' : Nat) : Bool := decide (sc.names.lookup x = some .local) && (l == l') && !(scope.names.any fun (n, k) => n == x && (k == .local || k == .cell))
theorem swN_ok {sc : Scope} {env : PySem.Env} (h : env.scope = sc) (hk : sc.kind = .function) {elt : Expr} {gs : List Comprehension} {scope : Scope} {pos py : Pos} {x : Str} {l : Nat} : swapsWith (.ListComp elt gs scope pos) (some (.Name x py)) l env = pure (swN sc scope x py.line pos.line) := by
  have hb : env.blockKind = .function := blockKind_fn (by rw [h]; exact hk)
  subst h
  unfold swapsWith swN
  simp only [hb, Env.kindOf, Expr.pos]
  have e : (env.scope.names.lookup x == some NameKind.local) = decide (env.scope.names.lookup x = some .local) := by
    rw [Bool.beq_eq_decide_eq]
  rw [e]
  simp
section
variable {G : Glob} {call : Nat → OpN} {k : Nat} {N : List Str} {sc osc : Scope} {X : Cx}
theorem setLc_ok (o : XOk G call k N sc osc X) {y : Str} {i : Nat} {py pos spos : Pos} {elt : Expr} {gens : List Comprehension} {scope : Scope} {n : Nat} {m : SemE}
    (hs : storable osc y = true) (hi : ixOf y N 0 = some i) (hsw : swN sc scope y py.line pos.line = true) (h : compE G call N n sc (.ListComp elt gens scope pos) = some m) :
    OkS X (.Assign [.Name y py] (.ListComp elt gens scope pos) spos) (sAsg (fun d E S => some (E.set i (some d), S)) m) := by
  obtain ⟨nd, hN, hloc, hfn⟩ := okName_slot o hs hi
  have hyl : X.env.scope.names.lookup y = some .local := by
    unfold swN at hsw
    rw [Bool.and_eq_true, Bool.and_eq_true] at hsw
    rw [o.scp]; exact of_decide_eq_true hsw.1.1
  have sw : swapsWith (.ListComp elt gens scope pos) (some (.Name y py)) spos.line X.env = pure true := by rw [swN_ok o.scp o.fk, hsw]
  have fin : ∀ {te : TE}, (∀ σ H Q, rdE X.K m σ H Q → te σ H Q) → PS X (.Assign [.Name y py] (.ListComp elt gens scope pos) spos) (tAsg te (gName i)) → OkS X (.Assign [.Name y py] (.ListComp elt gens scope pos) spos) (sAsg (fun d E S => some (E.set i (some d), S)) m) := fun {te} ht hp => by
    refine PS.mk fun pins s σ H D I q => hp.run pins s σ H D I ?_
    have hl : i < σ.length := by rw [I.len]; exact (List.getElem?_eq_some_iff.mp hN).1
    obtain ⟨w, E, S, c, se, q⟩ := q
    obtain ⟨x, S1, e1, q⟩ := aftS_bind q
    refine ht σ H _ ⟨w, E, S, c, se, x, S1, e1, fun v w1 H1 x1 c1 r1 => ?_⟩
    obtain ⟨_, _, _, e, q⟩ := q
    cases e
    exact q _ w1 H1 x1 c1 ((se.mono x1.le).set hl r1)
  cases n with
  | zero => cases h
  | succ n =>
    have hE : ∀ {sc osc X}, XOk G call k N sc osc X → ∀ e m, compE G call N n sc e = some m → OkE X e m := fun o => (comp_ok n o).1
    have hT : ∀ {sc osc X}, XOk G call k N sc osc X → ∀ e m, compT G call N n sc e = some m → OkT X e m := fun o => (comp_ok n o).2
    unfold compE at h
    simp only at h
    split at h
    · split at h
      · rename_i hb
        rw [Bool.and_eq_true] at hb
        split at h
        · rename_i h1 h2 h3 h4
          split at h
          · rename_i hu
            cases h
            obtain ⟨k1, k2, k3, k4, k5⟩ := okComp1 o hE hT hb.1 h1 h2 h3 h4
            exact fin (lc_rd (subN_ok hu)) (ps_setLc o.calm nd hN hyl sw k1 k2 k3 k4 k5 (fsi_plain hb.2))
          · cases h
        · cases h
      · cases h
    · split at h
      · rename_i hb
        rw [Bool.and_eq_true, Bool.and_eq_true] at hb
        split at h
        · rename_i h1 h2 h3 h4 h5 h6 h7
          split at h
          · rename_i hu
            rw [Bool.and_eq_true] at hu
            cases h
            obtain ⟨k1, k2, k3, k4, k5⟩ := okComp1 o hE hT hb.1.1 h1 h2 h3 h4
            have ok := blkOk_by hb.1.1
            exact fin (lc2_rd (subN_ok hu.1) fun _ h => h) (ps_setLc2 o.calm nd hN hyl sw k1 k2 (subN_ok hu.2) k3 k4 (fun s H C cl fp => compI_ok (o.blk _ ok.kind s H C cl fp) (hE (o.blk _ ok.kind s H C cl fp)) h5)
                  (fun s H C cl fp => compGN_ok (o.blk _ ok.kind s H C cl fp) h6) (fun s H C cl fp => compIfs_ok (hT (o.blk _ ok.kind s H C cl fp)) h7) k5 (fsi_plain hb.1.2) (fun _ => fsi_plain hb.2))
          · cases h
        · cases h
      · cases h
    · cases h
end

/-! ### statements -/
def compB (f : Stmt → Option SemS) : List Stmt → Option SemS
  | [] => some sNx
  | [s] => f s
  | s :: r => match f s, compB f r with | some m, some n => some (sSeq m n) | _, _ => none
theorem okSsOne {X : Cx} {s : Stmt} {m : SemS} (h : OkS X s m) : OkSs X [s] m := pss_one h
theorem compB_ok {X : Cx} {f : Stmt → Option SemS} (hf : ∀ e m, f e = some m → OkS X e m) : ∀ {es : List Stmt} {m : SemS}, compB f es = some m → OkSs X es m
  | [], _, h => by cases h; exact okSsNil
  | [s], _, h => okSsOne (hf _ _ h)
  | s :: t :: r, _, h => by
    simp only [compB] at h
    split at h
    · rename_i m n h1 h2
      cases h
      exact okSsCons (hf _ _ h1) (compB_ok hf h2)
    · cases h
variable (G : Glob) (call : Nat → OpN) (N : List Str)
def FUEL : Nat := 40
def ixName (sc : Scope) (x : Str) : Option Nat := if sc.names.lookup x = some .local then ixOf x N 0 else none
def compAsg (sc : Scope) (tg e : Expr) (pos : Pos) : Option SemS :=
  match tg with
  | .Name x _ => if storable sc x && plainE e then match ixOf x N 0, compE G call N FUEL sc e with
      | some i, some m => some (sAsg (fun d E S => some (E.set i (some d), S)) m)
      | _, _ => none
    else none
  | .Subscript a i _ => if plainE i && plainE e then match compE G call N FUEL sc a, compE G call N FUEL sc i, compE G call N FUEL sc e with
      | some ma, some mi, some m => some (sAsg (gSubS ma mi) m)
      | _, _, _ => none
    else none
  | .Tuple ts k p => match e with
    | .Tuple vs k2 p2 => match swP sc ts vs with
      | none => none
      | some none => match compGN N sc 8 (.Tuple ts k p), compE G call N FUEL sc (.Tuple vs k2 p2) with
        | some (g, _), some m => some (sAsg g m)
        | _, _ => none
      | some (some ns) => match ts, vs with
        | [.Name x _, .Name y _], [a, b] => match ixName N sc x, ixName N sc y, compL (compE G call N FUEL sc) [a, b] with
          | some i, some j, some m => if i ≠ j ∧ ns = [x, y] then some (sPar [i, j] m) else none
          | _, _, _ => none
        | [.Name x _, .Name y _, .Name z _], [a, b, c] => match ixName N sc x, ixName N sc y, ixName N sc z, compL (compE G call N FUEL sc) [a, b, c] with
          | some i, some j, some l, some m => if i ≠ j ∧ i ≠ l ∧ j ≠ l ∧ ns = [x, y, z] then some (sPar [i, j, l] m) else none
          | _, _, _, _ => none
        | _, _ => none
    | e => if plainE e then match compGN N sc 8 (.Tuple ts k p), compE G call N FUEL sc e with
        | some (g, _), some m => some (sAsg g m)
        | _, _ => none
      else none
  | _ => none
def compS : Nat → Scope → Stmt → Option SemS
  | 0, _, _ => none
  | n + 1, sc, st => match st with
    | .Return o _ => match o with
      | none => some sRetN
      | some e => match compE G call N FUEL sc e with | some m => some (sRet m) | none => none
    | .Expr e _ => if plainE e && !isLc e then match compE G call N FUEL sc e with | some m => some (sExpr m) | none => none else none
    | .If t a b _ => match compT G call N FUEL sc t, compB (compS n sc) a, compB (compS n sc) b with
      | some mt, some ma, some mb => some (sIf mt ma mb)
      | _, _, _ => none
    | .For tg it body [] _ => if plainE it then match compI G sc (compE G call N FUEL sc) tg it, compGN N sc 8 tg, compB (compS n sc) body with
        | some mi, some (g, _), some mb => some (sFor mi g mb)
        | _, _, _ => none
      else none
    | .While t body [] _ => match compT G call N FUEL sc t, compB (compS n sc) body with
      | some mt, some mb => some (sWhile mt mb)
      | _, _ => none
    | .Pass _ => some sNx
    | .Break _ => some sBk
    | .Continue _ => some sCt
    | .Raise .. => some sNone
    | .AugAssign (.Name x _) op e _ => if storable sc x then match ixOf x N 0, augOf op, compE G call N FUEL sc e with
        | some i, some f, some m => some (sAug i f m)
        | _, _, _ => none
      else none
    | .Assign [tg] e pos => compAsg G call N sc tg e pos
    | _ => none
section
variable {G : Glob} {call : Nat → OpN} {k : Nat} {N : List Str} {sc : Scope} {X : Cx}
theorem ixName_ok (o : XOk G call k N sc sc X) {x : Str} {i : Nat} (h : ixName N sc x = some i) : X.N[i]? = some x ∧ X.env.scope.names.lookup x = some .local := by
  unfold ixName at h
  split at h
  · rename_i hl
    obtain ⟨_, h3⟩ := ixOf_ok h
    rw [o.n, o.scp]
    exact ⟨by simpa using h3, hl⟩
  · cases h
theorem compAsg_ok (o : XOk G call k N sc sc X) {tg e : Expr} {pos : Pos} {m : SemS} (h : compAsg G call N sc tg e pos = some m) : OkS X (.Assign [tg] e pos) m := by
  have hE := (comp_ok (k := k) FUEL o).1
  unfold compAsg at h
  split at h
  · -- a name
    rename_i x px
    split at h
    · rename_i hs
      rw [Bool.and_eq_true] at hs
      split at h
      · rename_i i m' hi hm
        cases h
        obtain ⟨a, b, c, d⟩ := okName_slot o hs.1 hi
        have plain : swapsWith e (some (.Name x px)) pos.line X.env = pure false → OkS X (.Assign [.Name x px] e pos) (sAsg (fun d E S => some (E.set i (some d), S)) m') := fun z =>
          okAsg (hE _ _ hm) (okGVar a b c d fun _ _ _ _ => trivial) z rfl rfl
        by_cases hl : isLc e = true
        · cases e <;> simp only [isLc] at hl <;> try (cases hl; done)
          rename_i elt gens scope p
          cases hsw : swN sc scope x px.line p.line with
          | true => exact setLc_ok o hs.1 hi hsw hm
          | false => exact plain (by rw [swN_ok o.scp o.fk, hsw])
        · exact plain (sw_plain hs.2 (by simpa using hl) _)
      · cases h
    · cases h
  · -- a subscript
    split at h
    · rename_i hp
      rw [Bool.and_eq_true] at hp
      split at h
      · rename_i h1 h2 h3
        cases h
        refine okAsg (hE _ _ h3) (okGSub (hE _ _ h1) (hE _ _ h2) fun v => ?_) ?_ rfl rfl
        · have hpi := hp.1
          rename_i a i p _ _ _ _ _ _
          cases i <;> first | rfl | (simp [plainE] at hpi)
        · have hpe := hp.2
          cases e <;> first | rfl | (simp [plainE] at hpe)
      · cases h
    · cases h
  · -- a tuple
    split at h
    · split at h
      · cases h
      · rename_i hsw
        split at h
        · rename_i h1 h2
          cases h
          exact okAsg (hE _ _ h2) (compGN_ok o h1) rfl (swP_ok o.scp o.fk hsw) rfl
        · cases h
      · rename_i ns hsw
        split at h
        · split at h
          · rename_i h1 h2 h3
            split at h
            · rename_i hc
              cases h
              obtain ⟨a1, a2⟩ := ixName_ok o h1
              obtain ⟨b1, b2⟩ := ixName_ok o h2
              exact okPar2 o.calm (nodup_N o) a1 b1 hc.1 a2 b2 (compL_ok hE h3).1 (by rw [swP_ok o.scp o.fk hsw, hc.2])
            · cases h
          · cases h
        · split at h
          · rename_i h1 h2 h3 h4
            split at h
            · rename_i hc
              cases h
              obtain ⟨a1, a2⟩ := ixName_ok o h1
              obtain ⟨b1, b2⟩ := ixName_ok o h2
              obtain ⟨c1, c2⟩ := ixName_ok o h3
              exact okPar3 o.calm (nodup_N o) a1 b1 c1 hc.1 hc.2.1 hc.2.2.1 a2 b2 c2 (compL_ok hE h4).1 (by rw [swP_ok o.scp o.fk hsw, hc.2.2.2])
            · cases h
          · cases h
        · cases h
    · split at h
      · rename_i hne hp
        split at h
        · rename_i h1 h2
          cases h
          refine okAsg (hE _ _ h2) (compGN_ok o h1) ?_ ?_ rfl
          · cases e <;> first | rfl | (simp [plainE] at hp)
          · cases e <;> first | rfl | (simp [plainE] at hp; done) | exact absurd rfl (hne _ _ _)
        · cases h
      · cases h
  · cases h
theorem compS_ok : ∀ (n : Nat) {X : Cx}, XOk G call k N sc sc X → ∀ st m, compS G call N n sc st = some m → OkS X st m
  | 0, _, _, _, _, h => by cases h
  | n + 1, X, o, st, m, h => by
    have hE := (comp_ok (k := k) FUEL o).1
    have hT := (comp_ok (k := k) FUEL o).2
    have ih := compS_ok n o
    have hp : PassesOwn (model X.prog X.w) X.A X.env X.xe := by rw [o.xe]; exact PassesOwn.never
    unfold compS at h
    split at h
    · split at h
      · cases h; exact okRetN
      · split at h
        · rename_i h1; cases h; exact okRet (hE _ _ h1)
        · cases h
    · split at h
      · rename_i hc
        rw [Bool.and_eq_true] at hc
        split at h
        · rename_i h1; cases h; exact okExpr (hE _ _ h1) hc.1 (by simpa using hc.2)
        · cases h
      · cases h
    · split at h
      · rename_i h1 h2 h3
        cases h
        exact okIfS (hT _ _ h1) (compB_ok ih h2) (compB_ok ih h3)
      · cases h
    · split at h
      · rename_i hc
        split at h
        · rename_i h1 h2 h3
          cases h
          exact okFor hp o.calm (compI_ok o hE h1) (compGN_ok o h2) (compB_ok ih h3) (fsi_plain hc)
        · cases h
      · cases h
    · split at h
      · rename_i h1 h2
        cases h
        exact okWhile hp (hT _ _ h1) (compB_ok ih h2)
      · cases h
    · cases h; exact okPass
    · cases h; exact okBreak
    · cases h; exact okContinue
    · cases h; exact okNever
    · split at h
      · rename_i hs
        split at h
        · rename_i h1 h2 h3
          cases h
          obtain ⟨a, b, c, d⟩ := okName_slot o hs h1
          exact okAug a b c d (augOf_ok h2) (hE _ _ h3)
        · cases h
      · cases h
    · exact compAsg_ok o h
    · cases h
end
end AW

namespace AW
open PySem PySem.Spec PyProof.Rows L2

/-- a def of the text: its statement, its names by slot, its parameters -/
structure DefS where
  st : Stmt
  N : List Str
  ps : List Str
def semOf (G : Glob) (call : Nat → OpN) (d : DefS) : Option SemS := compB (compS G call d.N FUEL (defScope d.st)) (defBody d.st)
/-- the program's meaning, by the depth of calls -/
def den (G : Glob) (T : List DefS) : Nat → Nat → OpN
  | 0, _ => fun _ _ => none
  | k + 1, i => match T[i]? with
    | some d => match semOf G (den G T k) d with
      | some m => body d.N.length m
      | none => fun _ _ => none
    | none => fun _ _ => none
section
variable {P : Program} {w : World} {K : PySem.W.Frag} {mg : Str → Option Value} {base : Heap} {G : Glob} {T : List DefS}
theorem fn_vac {k : Nat} {f : Addr} {fd : FuncData} {ps : List Str} {m : OpN} (h : ∀ ds S, m ds S = none) : FnOk P w K mg base CX0 k f fd ps (spF K ps.length m) := by
  refine ⟨fun vs H Q E ⟨w, ds, S, e, c, r, q⟩ => by rw [← r.len]; exact e, fun A outer s H args us vs Q E hr he hb hv hs => ?_⟩
  obtain ⟨w, ds, S, e, c, r, d, S', e2, _⟩ := hs
  rw [h] at e2; cases e2
/-- where a def stands, how it is called -/
structure Stands (K : PySem.W.Frag) (mg : Str → Option Value) (T : List DefS) (x : Str) (i : DefI) : Prop where
  ex : ∃ d f fd, T[i.ix]? = some d ∧ mg x = some (.ref f) ∧ Fun K x x d.st f fd ∧ i.ps = d.ps ∧ FnScope d.N d.ps (defScope d.st) ∧ ∀ fo ∈ i.forms, Bnd K fd i.ps fo.1 fo.2.1 fo.2.2.1 fo.2.2.2
structure Top (K : PySem.W.Frag) (mg : Str → Option Value) (G : Glob) (T : List DefS) : Prop where
  blt : ∀ x ∈ G.blts, mg x = none
  cst : ∀ p ∈ G.consts, ∃ v u, mg p.1 = some u ∧ RelV v u ∧ ∀ w, Rp K w p.2 v
  dfs : ∀ p ∈ G.defs, Stands K mg T p.1 p.2
theorem mem_look {α : Type} {x : Str} {y : α} : ∀ {l : List (Str × α)}, l.lookup x = some y → (x, y) ∈ l := fun h => PySem.mem_of_lookup h
theorem xok_body {k : Nat} {call : Nat → OpN} (g : GOk G call k P w K mg base) {d : DefS} {x : Str} {f : Addr} (S : FnScope d.N d.ps (defScope d.st)) (cdv : Value) (A : Around) (outer : List PySem.Env) (s : Shared) (H : Hp) (E : XK)
    (hr : Room k (A.deeper (envOfC x (defScope d.st) s.heap.objs.size f cdv))) : XOk G call k d.N (defScope d.st) (defScope d.st) (cxOf CX0 P w K mg base d.N x (defScope d.st) f cdv A outer s H E).nox where
  n := rfl
  nd := S.nd
  scp := rfl
  fk := S.kind
  calm := rfl
  room := hr
  xe := rfl
  sto := fun y h => ⟨h, .inl rfl⟩
  g := g
theorem fn_den {k : Nat} (g : GOk G (den G T k) k P w K mg base) {d : DefS} {x : Str} {i : Nat} {f : Addr} {fd : FuncData} (hd : T[i]? = some d) (F : Fun K x x d.st f fd) (S : FnScope d.N d.ps (defScope d.st)) :
    FnOk P w K mg base CX0 (k + 1) f fd d.ps (spF K d.ps.length (den G T (k + 1) i)) := by
  unfold den
  simp only [hd]
  cases hm : semOf G (den G T k) d with
  | none => exact fn_vac fun _ _ => rfl
  | some m =>
    simp only
    refine okFn F S fun cdv A outer s H E hr => ?_
    exact compB_ok (compS_ok FUEL (xok_body g S cdv A outer s H E hr)) hm
theorem gok (t : Top K mg G T) : ∀ k : Nat, GOk G (den G T k) k P w K mg base
  | 0 => ⟨t.blt, fun x d h => t.cst _ (mem_look h), fun x i h => by
    obtain ⟨d, f, fd, h1, h2, h3, h4, h5, h6⟩ := (t.dfs _ (mem_look h)).ex
    exact ⟨f, fd, h2, h3.kp, fn_vac fun _ _ => rfl, h6⟩⟩
  | k + 1 => ⟨t.blt, fun x d h => t.cst _ (mem_look h), fun x i h => by
    obtain ⟨d, f, fd, h1, h2, h3, h4, h5, h6⟩ := (t.dfs _ (mem_look h)).ex
    refine ⟨f, fd, h2, h3.kp, ?_, h6⟩
    rw [show (i.ps) = d.ps from h4]
    exact fn_den (gok t k) h1 h3 h5⟩
theorem Bnd.mk0 {fd : FuncData} {ps ks : List Str} {n : Nat} {perm : List Nat} (h : ∀ us ws : List Value, us.length = n → ws.length = ks.length → bindArgs fd ⟨us, ks.zip ws⟩ = pure (ps.zip (pick perm (us ++ (ws ++ []))))) : Bnd K fd ps n ks [] perm :=
  ⟨[], [], fun _ => .nil, .nil, fun s us ws _ h1 h2 => .of_eq (h us ws h1 h2)⟩
/-- the script as data -/
def script (ns : List Int) : D := .lst .ext (ns.map D.int)
theorem law_sp {k i n : Nat} (h : ∀ ns : List Int, ns.length ≤ n → ∃ S', den G T k i [script ns] [] = some (.bl true, S')) (H : Hp) (a : Addr) (ns : List Int) (hl : ns.length ≤ n) (hS : SqL K H a (ns.map V.int)) {E : XK} :
    spF K 1 (den G T k i) [.ref a] H (fun v _ => v = .bl true) E := by
  obtain ⟨S', e⟩ := h ns hl
  refine ⟨⟨[], H, fun _ => none⟩, [script ns], [], rfl, ⟨Sub.refl _, fun a o h => (by cases h), rfl, .nil, fun a h => (by cases h), fun i co h => (by simp at h)⟩, .one ?_, _, S', e, fun v w' H' _ _ r => rp_bl' r⟩
  unfold script
  simp only [Rp]
  exact ⟨a, _, rfl, hS, rpl_ints⟩
end
end AW

namespace AW
open PySem PySem.Spec PyProof.Rows L2

/-! ### what a run tells -/
def W {α : Type} (r : M α) (Q : α → Sto → Prop) : Prop := ∃ a S, r = some (a, S) ∧ Q a S
theorem W_some {α : Type} {a : α} {S : Sto} {Q : α → Sto → Prop} : W (some (a, S)) Q = Q a S := propext ⟨fun ⟨_, _, e, q⟩ => by cases e; exact q, fun q => ⟨a, S, rfl, q⟩⟩
theorem W_bind {α β : Type} {r : M α} {k : α × Sto → M β} {Q : β → Sto → Prop} : W (r.bind k) Q = W r fun a S => W (k (a, S)) Q := propext ⟨fun ⟨b, S, e, q⟩ => by
  cases r with
  | none => cases e
  | some p => exact ⟨p.1, p.2, rfl, b, S, e, q⟩, fun ⟨a, S, e, b, S', e', q⟩ => ⟨b, S', by rw [e]; exact e', q⟩⟩
theorem W.mono {α : Type} {r : M α} {Q Q' : α → Sto → Prop} (h : W r Q) (k : ∀ a S, Q a S → Q' a S) : W r Q' := by
  obtain ⟨a, S, e, q⟩ := h
  exact ⟨a, S, e, k a S q⟩
theorem W.of {α : Type} {r : M α} {a : α} {S : Sto} {Q : α → Sto → Prop} (e : r = some (a, S)) (q : Q a S) : W r Q := ⟨a, S, e, q⟩
theorem W.cong {α : Type} {r r' : M α} {Q : α → Sto → Prop} (h : W r' Q) (e : r = r') : W r Q := by rw [e]; exact h
theorem W_none {α : Type} {Q : α → Sto → Prop} : W none Q = False := propext ⟨fun ⟨_, _, e, _⟩ => (by cases e), False.elim⟩
theorem W_if {α : Type} {c : Prop} [Decidable c] {a b : M α} {Q : α → Sto → Prop} : W (if c then a else b) Q = if c then W a Q else W b Q := by
  by_cases hc : c
  · rw [if_pos hc, if_pos hc]
  · rw [if_neg hc, if_neg hc]
theorem W_match {α : Type} {o : Option α} {S : Sto} {Q : α → Sto → Prop} : W (match o with | some x => some (x, S) | none => none) Q = (match o with | some x => Q x S | none => False) := by cases o <;> simp only [W_some, W_none]
def gV (i : Nat) : SemG := fun d E S => some (E.set i (some d), S)

/-! ### what is still to be done -/
abbrev Kn (α : Type) := α → Sto → Prop
section
variable {α : Type} {a b c : SemE} {s t : SemS} {u v : SemT} {E E' : Env} {S : Sto} {Q : Kn (Fl × Env)} {QD : Kn D} {QA : Kn (List D)} {QT : Kn Bool} {QE : Kn Env} {QO : Kn (Option Int)} {QI : Kn (List D × Chk)} {d x y : D} {ds xs : List D} {i : Nat} {g : SemG} {k : Bool} {aA : SemA} {p : Fl × Env}
def kBody (QD : Kn D) : Kn (Fl × Env) := fun p S => match p.1 with | .rt d => QD d S | .nx => QD .non S | _ => False
theorem kBody_rt : kBody QD (.rt d, E) S = QD d S := rfl
theorem kBody_nx : kBody QD (.nx, E) S = QD .non S := rfl
theorem W_body {n : Nat} {m : SemS} : W (body n m ds S) QD = W (m (ds.map some ++ List.replicate (n - ds.length) none) S) (kBody QD) := by
  unfold body
  rw [W_bind]
  congr 1
  funext p S
  obtain ⟨f, E⟩ := p
  cases f <;> simp only [kBody, W_some, W_none]
def kSeq (t : SemS) (Q : Kn (Fl × Env)) : Kn (Fl × Env) := fun p S => match p.1 with | .nx => W (t p.2 S) Q | _ => Q p S
theorem kSeq_nx : kSeq t Q (.nx, E) S = W (t E S) Q := rfl
theorem kSeq_rt : kSeq t Q (.rt d, E) S = Q (.rt d, E) S := rfl
theorem kSeq_bk : kSeq t Q (.bk, E) S = Q (.bk, E) S := rfl
theorem kSeq_ct : kSeq t Q (.ct, E) S = Q (.ct, E) S := rfl
theorem W_sSeq : W (sSeq s t E S) Q = W (s E S) (kSeq t Q) := by
  unfold sSeq
  rw [W_bind]
  congr 1
  funext p S
  obtain ⟨f, E⟩ := p
  cases f <;> simp only [kSeq, W_some]
theorem W_sNx : W (sNx E S) Q = Q (.nx, E) S := W_some
theorem W_sBk : W (sBk E S) Q = Q (.bk, E) S := W_some
theorem W_sCt : W (sCt E S) Q = Q (.ct, E) S := W_some
def kExp (E : Env) (Q : Kn (Fl × Env)) : Kn D := fun _ S => Q (.nx, E) S
theorem kExp_ : kExp E Q d S = Q (.nx, E) S := rfl
theorem W_sExpr : W (sExpr a E S) Q = W (a E S) (kExp E Q) := by unfold sExpr; rw [W_bind]; simp only [W_some]; rfl
def kRet (E : Env) (Q : Kn (Fl × Env)) : Kn D := fun d S => Q (.rt d, E) S
theorem kRet_ : kRet E Q d S = Q (.rt d, E) S := rfl
theorem W_sRet : W (sRet a E S) Q = W (a E S) (kRet E Q) := by unfold sRet; rw [W_bind]; simp only [W_some]; rfl
theorem W_sRetN : W (sRetN E S) Q = Q (.rt .non, E) S := W_some
def kIf (m n : Env → Sto → M α) (E : Env) (Q : Kn α) : Kn Bool := fun k S => if k = true then W (m E S) Q else W (n E S) Q
theorem kIf_t {m n : Env → Sto → M α} {Q : Kn α} : kIf m n E Q true S = W (m E S) Q := if_pos rfl
theorem kIf_f {m n : Env → Sto → M α} {Q : Kn α} : kIf m n E Q false S = W (n E S) Q := if_neg Bool.false_ne_true
theorem kIf_any {m n : Env → Sto → M α} {Q : Kn α} (h : k = true → W (m E S) Q) (h' : k = false → W (n E S) Q) : kIf m n E Q k S := by
  cases k
  · rw [kIf_f]; exact h' rfl
  · rw [kIf_t]; exact h rfl
theorem W_sIf : W (sIf u s t E S) Q = W (u E S) (kIf s t E Q) := by unfold sIf; rw [W_bind]; congr 1; funext k S; exact W_if
theorem W_eIf : W (eIf u a b E S) QD = W (u E S) (kIf a b E QD) := by unfold eIf; rw [W_bind]; congr 1; funext k S; exact W_if
def kAsg (g : SemG) (E : Env) (Q : Kn (Fl × Env)) : Kn D := fun d S => W (g d E S) fun E' S' => Q (.nx, E') S'
theorem kAsg_V : kAsg (gV i) E Q d S = Q (.nx, E.set i (some d)) S := W_some
theorem kAsg_ : kAsg g E Q d S = W (g d E S) fun E' S' => Q (.nx, E') S' := rfl
theorem W_sAsg : W (sAsg g a E S) Q = W (a E S) (kAsg g E Q) := by unfold sAsg; rw [W_bind]; congr 1; funext d S; rw [W_bind]; simp only [W_some]; rfl
def kPar (is : List Nat) (E : Env) (Q : Kn (Fl × Env)) : Kn (List D) := fun ds S => match setAll is ds E with | some E' => Q (.nx, E') S | none => False
theorem kPar_ {is : List Nat} : kPar is E Q ds S = (match setAll is ds E with | some E' => Q (.nx, E') S | none => False) := rfl
theorem W_sPar {is : List Nat} : W (sPar is aA E S) Q = W (aA E S) (kPar is E Q) := by
  unfold sPar; rw [W_bind]; congr 1; funext ds S
  show W (match setAll is ds E with | some E' => _ | none => _) Q = match setAll is ds E with | some E' => _ | none => _
  cases setAll is ds E <;> simp only [W_some, W_none]
def kAug (i : Nat) (f : Op2) (d : D) (E : Env) (Q : Kn (Fl × Env)) : Kn D := fun x S => W (f d x S) fun y S' => Q (.nx, E.set i (some y)) S'
theorem kAug_ {f : Op2} : kAug i f d E Q x S = W (f d x S) fun y S' => Q (.nx, E.set i (some y)) S' := rfl
theorem W_sAug {f : Op2} : W (sAug i f a E S) Q = (match E[i]? with | some (some d) => W (a E S) (kAug i f d E Q) | _ => False) := by
  unfold sAug
  cases h : E[i]? with
  | none => exact W_none
  | some o => cases o with
    | none => exact W_none
    | some d => show W _ _ = W _ _; rw [W_bind]; congr 1; funext d S; rw [W_bind]; simp only [W_some]; rfl
theorem W_eC : W (eC d E S) QD = QD d S := W_some
theorem W_eVar : W (eVar i E S) QD = (match E[i]? with | some (some d) => QD d S | _ => False) := by
  unfold eVar
  cases h : E[i]? with
  | none => exact W_none
  | some o => cases o with
    | none => exact W_none
    | some d => exact W_some
def kB2 (f : Op2) (x : D) (Q : Kn D) : Kn D := fun y S => W (f x y S) Q
theorem kB2_ {f : Op2} : kB2 f x QD y S = W (f x y S) QD := rfl
def kB1 (f : Op2) (b : SemE) (E : Env) (Q : Kn D) : Kn D := fun x S => W (b E S) (kB2 f x Q)
theorem kB1_ {f : Op2} : kB1 f b E QD x S = W (b E S) (kB2 f x QD) := rfl
theorem W_eBin {f : Op2} : W (eBin f a b E S) QD = W (a E S) (kB1 f b E QD) := by unfold eBin; rw [W_bind]; congr 1; funext x S; rw [W_bind]; rfl
def kU (f : Op1) (Q : Kn D) : Kn D := fun x S => W (f x S) Q
theorem kU_ {f : Op1} : kU f QD x S = W (f x S) QD := rfl
theorem W_eUn {f : Op1} : W (eUn f a E S) QD = W (a E S) (kU f QD) := by unfold eUn; rw [W_bind]; rfl
def kN (f : OpN) (Q : Kn D) : Kn (List D) := fun x S => W (f x S) Q
theorem kN_ {f : OpN} : kN f QD ds S = W (f ds S) QD := rfl
theorem W_eArgs {f : OpN} : W (eArgs f aA E S) QD = W (aA E S) (kN f QD) := by unfold eArgs; rw [W_bind]; rfl
theorem W_aNil : W (aNil E S) QA = QA [] S := W_some
def kC2 (x : D) (Q : Kn (List D)) : Kn (List D) := fun xs S => Q (x :: xs) S
theorem kC2_ : kC2 x QA xs S = QA (x :: xs) S := rfl
def kC1 (b : SemA) (E : Env) (Q : Kn (List D)) : Kn D := fun x S => W (b E S) (kC2 x Q)
theorem kC1_ : kC1 aA E QA x S = W (aA E S) (kC2 x QA) := rfl
theorem W_aCons : W (aCons a aA E S) QA = W (a E S) (kC1 aA E QA) := by unfold aCons; rw [W_bind]; congr 1; funext x S; rw [W_bind]; simp only [W_some]; rfl
def kAnd (b : SemE) (E : Env) (Q : Kn D) : Kn D := fun x S => match truD S x with | some true => W (b E S) Q | some false => Q x S | none => False
theorem kAnd_t (h : truD S x = some true) : kAnd b E QD x S = W (b E S) QD := by unfold kAnd; rw [h]
theorem kAnd_f (h : truD S x = some false) : kAnd b E QD x S = QD x S := by unfold kAnd; rw [h]
theorem kAnd_T : kAnd b E QD (.bl true) S = W (b E S) QD := rfl
theorem kAnd_F : kAnd b E QD (.bl false) S = QD (.bl false) S := rfl
theorem W_eAnd : W (eAnd a b E S) QD = W (a E S) (kAnd b E QD) := by
  unfold eAnd; rw [W_bind]; congr 1; funext x S; unfold kAnd
  show W (match truD S x with | some true => _ | some false => _ | none => _) QD = _
  cases truD S x with
  | none => exact W_none
  | some k => cases k <;> simp only [W_some]
def kOr (b : SemE) (E : Env) (Q : Kn D) : Kn D := fun x S => match truD S x with | some false => W (b E S) Q | some true => Q x S | none => False
theorem kOr_t (h : truD S x = some true) : kOr b E QD x S = QD x S := by unfold kOr; rw [h]
theorem kOr_f (h : truD S x = some false) : kOr b E QD x S = W (b E S) QD := by unfold kOr; rw [h]
theorem kOr_T : kOr b E QD (.bl true) S = QD (.bl true) S := rfl
theorem kOr_F : kOr b E QD (.bl false) S = W (b E S) QD := rfl
theorem W_eOr : W (eOr a b E S) QD = W (a E S) (kOr b E QD) := by
  unfold eOr; rw [W_bind]; congr 1; funext x S; unfold kOr
  show W (match truD S x with | some true => _ | some false => _ | none => _) QD = _
  cases truD S x with
  | none => exact W_none
  | some k => cases k <;> simp only [W_some]
def kNot (Q : Kn D) : Kn D := fun x S => match truD S x with | some k => Q (.bl (!k)) S | none => False
theorem kNot_ (h : truD S x = some k) : kNot QD x S = QD (.bl (!k)) S := by unfold kNot; rw [h]
theorem kNot_B : kNot QD (.bl k) S = QD (.bl (!k)) S := rfl
theorem W_eNot : W (eNot a E S) QD = W (a E S) (kNot QD) := by
  unfold eNot; rw [W_bind]; congr 1; funext x S; unfold kNot
  show W (match truD S x with | some k => _ | none => _) QD = _
  cases truD S x <;> simp only [W_some, W_none]
def kCh3 (g : Op2) (y : D) (c : SemE) (E : Env) (Q : Kn D) : Kn D := fun r S => match r with | .bl true => W (c E S) (kB2 g y Q) | .bl false => Q (.bl false) S | _ => False
theorem kCh3_t {f : Op2} : kCh3 f y c E QD (.bl true) S = W (c E S) (kB2 f y QD) := rfl
theorem kCh3_f {f : Op2} : kCh3 f y c E QD (.bl false) S = QD (.bl false) S := rfl
def kCh2 (f g : Op2) (x : D) (c : SemE) (E : Env) (Q : Kn D) : Kn D := fun y S => W (f x y S) (kCh3 g y c E Q)
theorem kCh2_ {f f' : Op2} : kCh2 f f' x c E QD y S = W (f x y S) (kCh3 f' y c E QD) := rfl
def kCh1 (f g : Op2) (b c : SemE) (E : Env) (Q : Kn D) : Kn D := fun x S => W (b E S) (kCh2 f g x c E Q)
theorem kCh1_ {f f' : Op2} : kCh1 f f' b c E QD x S = W (b E S) (kCh2 f f' x c E QD) := rfl
theorem W_eChain {f f' : Op2} : W (eChain f f' a b c E S) QD = W (a E S) (kCh1 f f' b c E QD) := by
  unfold eChain; rw [W_bind]; congr 1; funext x S; rw [W_bind]; show W _ _ = W _ _; congr 1; funext y S; rw [W_bind]; show W _ _ = W _ _; congr 1; funext r S
  show W (match r with | .bl true => _ | .bl false => _ | _ => _) QD = kCh3 f' y c E QD r S
  cases r with
  | bl k => cases k
            · exact W_some
            · show W _ _ = W _ _; rw [W_bind]; rfl
  | _ => exact W_none
def kTV (Q : Kn Bool) : Kn D := fun x S => match truD S x with | some k => Q k S | none => False
theorem kTV_ (h : truD S x = some k) : kTV QT x S = QT k S := by unfold kTV; rw [h]
theorem kTV_B : kTV QT (.bl k) S = QT k S := rfl
theorem W_tVal : W (tVal a E S) QT = W (a E S) (kTV QT) := by
  unfold tVal; rw [W_bind]; congr 1; funext x S; unfold kTV
  show W (match truD S x with | some k => _ | none => _) QT = _
  cases truD S x <;> simp only [W_some, W_none]
def kTB (Q : Kn Bool) : Kn D := fun x S => match x with | .bl k => Q k S | _ => False
theorem kTB_B : kTB QT (.bl k) S = QT k S := rfl
theorem W_tBl : W (tBl a E S) QT = W (a E S) (kTB QT) := by
  unfold tBl; rw [W_bind]; congr 1; funext x S; unfold kTB
  cases x <;> simp only [W_some, W_none]
def kTA (v : SemT) (E : Env) (Q : Kn Bool) : Kn Bool := fun k S => if k = true then W (v E S) Q else Q false S
theorem kTA_t : kTA v E QT true S = W (v E S) QT := if_pos rfl
theorem kTA_f : kTA v E QT false S = QT false S := if_neg Bool.false_ne_true
theorem kTA_any (h : k = true → W (v E S) QT) (h' : k = false → QT false S) : kTA v E QT k S := by
  cases k
  · rw [kTA_f]; exact h' rfl
  · rw [kTA_t]; exact h rfl
theorem W_tAnd : W (tAnd u v E S) QT = W (u E S) (kTA v E QT) := by unfold tAnd; rw [W_bind]; congr 1; funext k S; rw [W_if, W_some]; rfl
def kTO (v : SemT) (E : Env) (Q : Kn Bool) : Kn Bool := fun k S => if k = true then Q true S else W (v E S) Q
theorem kTO_t : kTO v E QT true S = QT true S := if_pos rfl
theorem kTO_f : kTO v E QT false S = W (v E S) QT := if_neg Bool.false_ne_true
theorem kTO_any (h : k = true → QT true S) (h' : k = false → W (v E S) QT) : kTO v E QT k S := by
  cases k
  · rw [kTO_f]; exact h' rfl
  · rw [kTO_t]; exact h rfl
theorem W_tOr : W (tOr u v E S) QT = W (u E S) (kTO v E QT) := by unfold tOr; rw [W_bind]; congr 1; funext k S; rw [W_if, W_some]; rfl
def kTN (Q : Kn Bool) : Kn Bool := fun k S => Q (!k) S
theorem kTN_ : kTN QT k S = QT (!k) S := rfl
theorem W_tNot : W (AW.tNot u E S) QT = W (u E S) (kTN QT) := by unfold AW.tNot; rw [W_bind]; simp only [W_some]; rfl
theorem W_tTrue : W (tTrue E S) QT = QT true S := W_some
theorem W_oNone : W (oNone E S) QO = QO none S := W_some
def kOS (Q : Kn (Option Int)) : Kn D := fun x S => match x with | .int i => Q (some i) S | _ => False
theorem kOS_ {i : Int} : kOS QO (.int i) S = QO (some i) S := rfl
theorem W_oSome : W (oSome a E S) QO = W (a E S) (kOS QO) := by
  unfold oSome; rw [W_bind]; congr 1; funext x S; unfold kOS
  cases x <;> simp only [W_some, W_none]
def kSl3 (f : OpSl) (x : D) (l : Option Int) (Q : Kn D) : Kn (Option Int) := fun r S => W (f x l r S) Q
theorem kSl3_ {f : OpSl} {l r : Option Int} : kSl3 f x l QD r S = W (f x l r S) QD := rfl
def kSl2 (f : OpSl) (x : D) (hi : SemO) (E : Env) (Q : Kn D) : Kn (Option Int) := fun l S => W (hi E S) (kSl3 f x l Q)
theorem kSl2_ {f : OpSl} {l : Option Int} {hi : SemO} : kSl2 f x hi E QD l S = W (hi E S) (kSl3 f x l QD) := rfl
def kSl1 (f : OpSl) (lo hi : SemO) (E : Env) (Q : Kn D) : Kn D := fun x S => W (lo E S) (kSl2 f x hi E Q)
theorem kSl1_ {f : OpSl} {lo hi : SemO} : kSl1 f lo hi E QD x S = W (lo E S) (kSl2 f x hi E QD) := rfl
theorem W_eSl {f : OpSl} {lo hi : SemO} : W (eSl f a lo hi E S) QD = W (a E S) (kSl1 f lo hi E QD) := by
  unfold eSl; rw [W_bind]; congr 1; funext x S; rw [W_bind]; show W _ _ = W _ _; congr 1; funext l S; rw [W_bind]; rfl
def kRv (mk : Bool) (Q : Kn D) : Kn D := fun x S => W (opRev mk x S) Q
theorem kRv_ {mk : Bool} (h : readS S x = some ds) : kRv mk QD x S = W (newL mk ds.reverse S) QD := by
  unfold kRv opRev
  cases x with
  | tup es => cases h
  | _ => simp only [h]
theorem kRv_tup {mk : Bool} : kRv mk QD (.tup ds) S = QD (.tup ds.reverse) S := W_some
theorem W_eRev {mk : Bool} : W (eRev mk a E S) QD = W (a E S) (kRv mk QD) := by unfold eRev; rw [W_bind]; rfl
def kM2 (f : OpM) (x : D) (Q : Kn D) : Kn (List D) := fun ds S => W (f x ds S) Q
theorem kM2_ {f : OpM} : kM2 f x QD ds S = W (f x ds S) QD := rfl
def kM1 (f : OpM) (aA : SemA) (E : Env) (Q : Kn D) : Kn D := fun x S => match readS S x with | some _ => W (aA E S) (kM2 f x Q) | none => False
theorem kM1_ {f : OpM} (h : readS S x = some ds) : kM1 f aA E QD x S = W (aA E S) (kM2 f x QD) := by unfold kM1; rw [h]
theorem W_eMethL {f : OpM} : W (eMethL f a aA E S) QD = W (a E S) (kM1 f aA E QD) := by
  unfold eMethL; rw [W_bind]; congr 1; funext x S; unfold kM1
  show W (match readS S x with | some _ => _ | none => _) QD = _
  cases readS S x with
  | none => exact W_none
  | some ds => show W _ _ = W _ _; rw [W_bind]; rfl
def kK2 (m : OpN) (n nk np : Nat) (dd : List D) (perm : List Nat) (ds : List D) (Q : Kn D) : Kn (List D) := fun fs S => if ds.length = n ∧ fs.length = nk ∧ (pick perm (ds ++ (fs ++ dd))).length = np then W (m (pick perm (ds ++ (fs ++ dd))) S) Q else False
theorem kK2_ {m : OpN} {n nk np : Nat} {dd fs : List D} {perm : List Nat} : kK2 m n nk np dd perm ds QD fs S = if ds.length = n ∧ fs.length = nk ∧ (pick perm (ds ++ (fs ++ dd))).length = np then W (m (pick perm (ds ++ (fs ++ dd))) S) QD else False := rfl
def kK1 (m : OpN) (n nk np : Nat) (dd : List D) (perm : List Nat) (kA : SemA) (E : Env) (Q : Kn D) : Kn (List D) := fun ds S => W (kA E S) (kK2 m n nk np dd perm ds Q)
theorem kK1_ {m : OpN} {n nk np : Nat} {dd : List D} {perm : List Nat} : kK1 m n nk np dd perm aA E QD ds S = W (aA E S) (kK2 m n nk np dd perm ds QD) := rfl
theorem W_eCall {m : OpN} {n nk np : Nat} {dd : List D} {perm : List Nat} {kA : SemA} : W (eCall m n nk np dd perm aA kA E S) QD = W (aA E S) (kK1 m n nk np dd perm kA E QD) := by
  unfold eCall; rw [W_bind]; congr 1; funext x S; rw [W_bind]; show W _ _ = W _ _; congr 1; funext fs S
  show W (if _ then _ else _) QD = if _ then _ else _
  rw [W_if, W_none]
def kSq (Q : Kn (List D × Chk)) : Kn D := fun x S => W (match x with
  | .str z => some ((signsD z, []), S)
  | d => match seqOf S d with
    | some ds => some ((ds, chkOf S d), S)
    | none => none) Q
theorem W_iSeq : W (iSeq a E S) QI = W (a E S) (kSq QI) := by unfold iSeq; rw [W_bind]; rfl
theorem kSq_tup : kSq QI (.tup ds) S = QI (ds, []) S := W_some
theorem kSq_lst {q : LK} : kSq QI (.lst q ds) S = QI (ds, []) S := W_some
theorem kSq_str {z : Str} : kSq QI (.str z) S = QI (signsD z, []) S := W_some
theorem kSq_ref (h : S[i]? = some (.lst ds)) : kSq QI (.ref i) S = QI (ds, [(i, ds)]) S := by simp only [kSq, seqOf, readS, chkOf, h, W_some]
def kR1 (Q : Kn (List D × Chk)) : Kn (List D) := fun ds S => W (match ds with
  | [.int j] => if j ≤ 1000000 ∧ -1000000 ≤ j then some ((rangeD 0 j.toNat, []), S) else none
  | _ => none) Q
theorem kR1_ {j : Int} (h : j ≤ 1000000 ∧ -1000000 ≤ j) : kR1 QI [.int j] S = QI (rangeD 0 j.toNat, []) S := by simp only [kR1, if_pos h, W_some]
theorem W_iRange1 : W (iRange1 aA E S) QI = W (aA E S) (kR1 QI) := by unfold iRange1; rw [W_bind]; rfl
def kR2 (Q : Kn (List D × Chk)) : Kn (List D) := fun ds S => W (match ds with
  | [.int i, .int j] => if j ≤ 1000000 ∧ -1000000 ≤ j ∧ -1000000 ≤ i ∧ i ≤ 1000000 then some ((rangeD i (j - i).toNat, []), S) else none
  | _ => none) Q
theorem kR2_ {i j : Int} (h : j ≤ 1000000 ∧ -1000000 ≤ j ∧ -1000000 ≤ i ∧ i ≤ 1000000) : kR2 QI [.int i, .int j] S = QI (rangeD i (j - i).toNat, []) S := by simp only [kR2, if_pos h, W_some]
theorem W_iRange2 : W (iRange2 aA E S) QI = W (aA E S) (kR2 QI) := by unfold iRange2; rw [W_bind]; rfl
def kEn (Q : Kn (List D × Chk)) : Kn (List D) := fun ds S => W (match ds with
  | [d] => match seqOf S d with
    | some ds => some ((enumD 0 ds, chkOf S d), S)
    | none => none
  | _ => none) Q
theorem kEn_tup : kEn QI [.tup ds] S = QI (enumD 0 ds, []) S := W_some
theorem kEn_lst {q : LK} : kEn QI [.lst q ds] S = QI (enumD 0 ds, []) S := W_some
theorem kEn_ref (h : S[i]? = some (.lst ds)) : kEn QI [.ref i] S = QI (enumD 0 ds, [(i, ds)]) S := by simp only [kEn, seqOf, readS, chkOf, h, W_some]
theorem W_iEnumS : W (iEnumS aA E S) QI = W (aA E S) (kEn QI) := by unfold iEnumS; rw [W_bind]; rfl
def kZp (Q : Kn (List D × Chk)) : Kn (List D) := fun ds S => W (match ds with
  | [.tup ds, .tup es] => some ((zipD ds es, []), S)
  | [d, e] => match readS S d, readS S e with
    | some ds, some es => some ((zipD ds es, chkOf S d ++ chkOf S e), S)
    | _, _ => none
  | _ => none) Q
theorem kZp_tup : kZp QI [.tup ds, .tup xs] S = QI (zipD ds xs, []) S := W_some
theorem kZp_lst {q q' : LK} : kZp QI [.lst q ds, .lst q' xs] S = QI (zipD ds xs, []) S := W_some
theorem W_iZipS : W (iZipS aA E S) QI = W (aA E S) (kZp QI) := by unfold iZipS; rw [W_bind]; rfl
/-! ### targets -/
theorem W_gV : W (gV i d E S) QE = QE (E.set i (some d)) S := W_some
theorem W_gUnpack2 {g g' : SemG} : W (gUnpack 2 (gsCons g (gsCons g' gsNil)) (.tup [x, y]) E S) QE = W (g x E S) fun E' S' => W (g' y E' S') QE := by
  show W ((g x E S).bind _) QE = _
  rw [W_bind]; congr 1; funext E' S'
  show W ((g' y E' S').bind _) QE = _
  rw [W_bind]; congr 1; funext E' S'
  exact W_some
theorem W_gUnpackVV {j : Nat} : W (gUnpack 2 (gsCons (gV i) (gsCons (gV j) gsNil)) (.tup [x, y]) E S) QE = QE ((E.set i (some x)).set j (some y)) S := by rw [W_gUnpack2, W_gV, W_gV]

/-! ### loops -/
def kFor (g : SemG) (s : SemS) (E : Env) (Q : Kn (Fl × Env)) : Kn (List D × Chk) := fun p S => W (forLoop g s p.2 p.1 E S) Q
theorem kFor_ {chk : Chk} : kFor g s E Q (ds, chk) S = W (forLoop g s chk ds E S) Q := rfl
theorem W_sFor {it : SemI} : W (sFor it g s E S) Q = W (it E S) (kFor g s E Q) := by unfold sFor; rw [W_bind]; rfl
/-- what a turn's end leads to -/
def kTurn (R : Env → Sto → Prop) (Q : Kn (Fl × Env)) : Kn (Fl × Env) := fun p S => match p.1 with | .nx => R p.2 S | .ct => R p.2 S | .bk => Q (.nx, p.2) S | .rt d => Q (.rt d, p.2) S
theorem kTurn_nx {R : Env → Sto → Prop} : kTurn R Q (.nx, E) S = R E S := rfl
theorem kTurn_ct {R : Env → Sto → Prop} : kTurn R Q (.ct, E) S = R E S := rfl
theorem kTurn_bk {R : Env → Sto → Prop} : kTurn R Q (.bk, E) S = Q (.nx, E) S := rfl
theorem kTurn_rt {R : Env → Sto → Prop} : kTurn R Q (.rt d, E) S = Q (.rt d, E) S := rfl
/-- a walk with an invariant: I tells of what is still to be walked -/
theorem W_loop {chk : Chk} (I : List D → Env → Sto → Prop) (hs : ∀ {ds E S}, I ds E S → stable chk S = true) (h0 : ∀ E S, I [] E S → Q (.nx, E) S)
    (h1 : ∀ d ds E S, I (d :: ds) E S → W (g d E S) fun E' S' => W (s E' S') (kTurn (I ds) Q)) : ∀ (ds : List D) (E : Env) (S : Sto), I ds E S → W (forLoop g s chk ds E S) Q
  | [], E, S, h => by
    unfold forLoop
    rw [if_pos (hs h), W_some]
    exact h0 E S h
  | d :: ds, E, S, h => by
    unfold forLoop
    rw [if_pos (hs h), W_bind]
    refine (h1 d ds E S h).mono fun E' S' h => ?_
    rw [W_bind]
    refine h.mono fun p S' h => ?_
    obtain ⟨f, E'⟩ := p
    cases f with
    | nx => exact W_loop I hs h0 h1 ds E' S' h
    | ct => exact W_loop I hs h0 h1 ds E' S' h
    | bk => rw [W_some]; exact h
    | rt d => rw [W_some]; exact h
theorem stable_nil : stable [] S = true := rfl
theorem stable_at (h : S[i]? = some (.lst ds)) : stable [(i, ds)] S = true := by simp only [stable, List.all_cons, List.all_nil, Bool.and_true, h]; exact eqDs_refl ds
def kWrap (R : Kn D) (Q : Kn (Option D)) : Kn D := R
def kLcT (elt : SemE) (E : Env) (Q : Kn (Option D)) : Kn Bool := fun k S => if k = true then W (elt E S) (fun d S => Q (some d) S) else Q none S
theorem kLcT_t {elt : SemE} {Q : Kn (Option D)} : kLcT elt E Q true S = W (elt E S) (fun d S => Q (some d) S) := if_pos rfl
theorem kLcT_f {elt : SemE} {Q : Kn (Option D)} : kLcT elt E Q false S = Q none S := if_neg Bool.false_ne_true
theorem kLcT_any {elt : SemE} {Q : Kn (Option D)} (h : k = true → W (elt E S) (fun d S => Q (some d) S)) (h' : k = false → Q none S) : kLcT elt E Q k S := by
  cases k
  · rw [kLcT_f]; exact h' rfl
  · rw [kLcT_t]; exact h rfl
theorem W_lcStep {elt : SemE} {own : List Nat} {Q : Kn (Option D)} : W (lcStep g u elt own E d S) Q = W (g d (wipeE E own) S) fun E' S' => W (u E' S') (kLcT elt E' Q) := by
  unfold lcStep; rw [W_bind]; congr 1; funext E' S'; rw [W_bind]; congr 1; funext k S'
  show W (if k = true then _ else _) Q = if k = true then _ else _
  rw [W_if, W_bind, W_some]
  simp only [W_some]
/-- a comprehension's walk with an invariant -/
theorem W_lc {step : D → Sto → M (Option D)} {chk : Chk} (I : List D → List D → Sto → Prop) (hs : ∀ {ds acc S}, I ds acc S → stable chk S = true) (h0 : ∀ acc S, I [] acc S → QA acc S)
    (h1 : ∀ d ds acc S, I (d :: ds) acc S → W (step d S) fun o S' => I ds (match o with | some y => acc ++ [y] | none => acc) S') : ∀ (ds acc : List D) (S : Sto), I ds acc S → W (lcLoop step chk ds acc S) QA
  | [], acc, S, h => by
    unfold lcLoop
    rw [if_pos (hs h), W_some]
    exact h0 acc S h
  | d :: ds, acc, S, h => by
    unfold lcLoop
    rw [if_pos (hs h), W_bind]
    exact (h1 d ds acc S h).mono fun o S' h => W_lc I hs h0 h1 ds _ S' h
def kComp (mk : Bool) (g : SemG) (u : SemT) (elt : SemE) (own : List Nat) (E : Env) (Q : Kn D) : Kn (List D × Chk) := fun p S =>
  p.1.length ≤ LIM ∧ W (lcLoop (lcStep g u elt own E) p.2 p.1 [] S) fun ds S => W (newL mk ds S) Q
theorem kComp_ {mk : Bool} {elt : SemE} {own : List Nat} {chk : Chk} : kComp mk g u elt own E QD (ds, chk) S = (ds.length ≤ LIM ∧ W (lcLoop (lcStep g u elt own E) chk ds [] S) fun ds S => W (newL mk ds S) QD) := rfl
theorem W_eComp {mk : Bool} {it : SemI} {elt : SemE} {own : List Nat} : W (eComp mk it g u elt own E S) QD = W (it E S) (kComp mk g u elt own E QD) := by
  unfold eComp; rw [W_bind]; congr 1; funext p S
  show W (if _ then _ else _) QD = _
  rw [W_if, W_none, W_bind]
  unfold kComp
  by_cases h : p.1.length ≤ LIM
  · rw [if_pos h]; simp [h]
  · rw [if_neg h]; simp [h]
theorem W_newF : W (newL false ds S) QD = QD (.lst .frz ds) S := W_some
theorem W_newT : W (newL true ds S) QD = QD (.ref S.length) (S ++ [.lst ds]) := W_some
/-- a comprehension that leaves the store as it is -/
theorem lc_pure {step : D → Sto → M (Option D)} {chk : Chk} {f : D → Option D} (hc : stable chk S = true) : ∀ (ds : List D) (acc : List D), (∀ d ∈ ds, step d S = some (f d, S)) → lcLoop step chk ds acc S = some (acc ++ ds.filterMap f, S)
  | [], acc, _ => by simp only [lcLoop, hc, if_true, List.filterMap_nil, List.append_nil]
  | d :: ds, acc, h => by
    simp only [lcLoop, hc, if_true, h d List.mem_cons_self, Option.bind_some]
    rw [lc_pure hc ds _ fun d hd => h d (List.mem_cons_of_mem _ hd)]
    cases hf : f d <;> simp [List.filterMap_cons, hf]
theorem W_get {α : Type} {r : M α} {a : α} (h : W r fun b S' => b = a ∧ S' = S) : r = some (a, S) := by
  obtain ⟨b, S', e, rfl, rfl⟩ := h
  exact e
end

/-! ### operations at ints -/
section
variable {i j : Int} {S : Sto} {mk : Bool}
theorem opMod_run (h : 0 < j) : opMod (.int i) (.int j) S = some (.int (i % j), S) := by simp [opMod, op2I, h]
theorem opFdiv_run (h : 0 < j) (h2 : j < 1073741824) : opFdiv (.int i) (.int j) S = some (.int (i / j), S) := by simp [opFdiv, op2I, h, h2]
theorem opAdd_int : opAdd mk (.int i) (.int j) S = some (.int (i + j), S) := rfl
theorem opSub_int : opSub (.int i) (.int j) S = some (.int (i - j), S) := by simp [opSub, op2I]
theorem opMulI_run (h : W64 i = true ∨ W64 j = true) : opMul mk (.int i) (.int j) S = some (.int (i * j), S) := by
  simp only [opMul, opMulI, op2I]
  rw [if_pos]
  simpa using h
theorem W64_lit (h : -18446744073709551616 < i) (h2 : i < 18446744073709551616) : W64 i = true := by simp [W64, h, h2]
theorem opMul_l (h : -18446744073709551616 < i) (h2 : i < 18446744073709551616) : opMul mk (.int i) (.int j) S = some (.int (i * j), S) := opMulI_run (.inl (W64_lit h h2))
theorem opMul_r (h : -18446744073709551616 < j) (h2 : j < 18446744073709551616) : opMul mk (.int i) (.int j) S = some (.int (i * j), S) := opMulI_run (.inr (W64_lit h h2))
theorem opGt_int : opGt (.int i) (.int j) S = some (.bl (decide (j < i)), S) := by simp [opGt, opGtI, op2I]
theorem opLt_int : opLt (.int i) (.int j) S = some (.bl (decide (i < j)), S) := by simp [opLt, opLtI, op2I]
theorem opGe_int : opGe (.int i) (.int j) S = some (.bl (decide (j ≤ i)), S) := by simp [opGe, opGeI, op2I]
theorem opLe_int : opLe (.int i) (.int j) S = some (.bl (decide (i ≤ j)), S) := by simp [opLe, opLeI, op2I]
theorem opEq_int : opEq (.int i) (.int j) S = some (.bl (decide (i = j)), S) := by simp [opEq, opEqF]
theorem opEq_bl {a b : Bool} : opEq (.bl a) (.bl b) S = some (.bl (decide (a = b)), S) := by simp [opEq, opEqF]
theorem opEq_str {a b : Str} : opEq (.str a) (.str b) S = some (.bl (decide (a = b)), S) := by simp [opEq, opEqF]
theorem opNe_int : opNe (.int i) (.int j) S = some (.bl (!decide (i = j)), S) := by simp [opNe, opEqF]
theorem opNe_bl {a b : Bool} : opNe (.bl a) (.bl b) S = some (.bl (!decide (a = b)), S) := by simp [opNe, opEqF]
theorem opNe_str {a b : Str} : opNe (.str a) (.str b) S = some (.bl (!decide (a = b)), S) := by simp [opNe, opEqF]
theorem bInt_int : bInt [.int i] S = some (.int i, S) := rfl
theorem bInt_bl {b : Bool} : bInt [.bl b] S = some (.int (if b then 1 else 0), S) := rfl
theorem bAbs_int : bAbs [.int i] S = some (.int (if i < 0 then -i else i), S) := rfl
theorem truD_bl {b : Bool} : truD S (.bl b) = some b := rfl
theorem truD_int : truD S (.int i) = some (decide (i ≠ 0)) := rfl
end
theorem at0 {x : D} {xs : List D} : atD (x :: xs) 0 = some x := by
  unfold atD atI ixN
  simp
theorem at1 {x y : D} {xs : List D} : atD (x :: y :: xs) 1 = some y := by
  unfold atD atI ixN
  rw [if_pos (by decide), if_pos (by simp; omega)]
  rfl
theorem at2 {x y z : D} {xs : List D} : atD (x :: y :: z :: xs) 2 = some z := by
  unfold atD atI ixN
  rw [if_pos (by decide), if_pos (by simp; omega)]
  rfl
theorem atD_nat {ds : List D} {n : Nat} {d : D} (h : ds[n]? = some d) : atD ds (n : Int) = some d := by
  have hl : n < ds.length := (List.getElem?_eq_some_iff.mp h).1
  unfold atD atI ixN
  rw [if_pos (by omega), if_pos (by omega)]
  simpa using h
theorem opIx_ref {S : Sto} {i : Nat} {ds : List D} {k : Int} {y : D} (h : S[i]? = some (.lst ds)) (e : atD ds k = some y) : opIx (.ref i) (.int k) S = some (y, S) := by
  simp only [opIx, readS, h, e]
theorem opIx_lst {S : Sto} {q : LK} {ds : List D} {k : Int} {y : D} (e : atD ds k = some y) : opIx (.lst q ds) (.int k) S = some (y, S) := by
  simp only [opIx, readS, e]
theorem opIx_tup {S : Sto} {ds : List D} {k : Int} {y : D} (e : atD ds k = some y) : opIx (.tup ds) (.int k) S = some (y, S) := by
  simp only [opIx, e]
theorem W_fLst {mk : Bool} {ds : List D} {S : Sto} {Q : Kn D} (h : ds.length ≤ 1000000) : W (fLst mk ds S) Q = W (newL mk ds S) Q := by unfold fLst; rw [if_pos (show ds.length ≤ LIM from h)]
theorem W_fTup {ds : List D} {S : Sto} {Q : Kn D} (h : ds.length ≤ 1000000) : W (fTup ds S) Q = Q (.tup ds) S := by unfold fTup; rw [if_pos (show ds.length ≤ LIM from h), W_some]
theorem opPow_run {i j : Int} {S : Sto} (h0 : 0 ≤ j) (h1 : j ≤ 1000) (h2 : i.natAbs < 1000000) : opPow (.int i) (.int j) S = some (.int (i ^ j.toNat), S) := by simp [opPow, op2I, h0, h1, h2]
theorem pow18 {S : Sto} : opPow (.int 10) (.int 18) S = some (.int 1000000000000000000, S) := by rw [opPow_run (by decide) (by decide) (by decide)]; rfl
theorem bLen_tup {ds : List D} {S : Sto} : bLen [.tup ds] S = some (.int ds.length, S) := rfl
theorem bLen_lst {q : LK} {ds : List D} {S : Sto} : bLen [.lst q ds] S = some (.int ds.length, S) := rfl
theorem bLen_ref {i : Nat} {ds : List D} {S : Sto} (h : S[i]? = some (.lst ds)) : bLen [.ref i] S = some (.int ds.length, S) := by simp only [bLen, seqOf, readS, h]
theorem bLen_str {x : Str} {S : Sto} (h : x.length ≤ 1000000) : bLen [.str x] S = some (.int x.length, S) := by unfold bLen; exact if_pos h
theorem bTuple_lst {q : LK} {ds : List D} {S : Sto} : bTuple [.lst q ds] S = some (.tup ds, S) := rfl
theorem bTuple_tup {ds : List D} {S : Sto} : bTuple [.tup ds] S = some (.tup ds, S) := rfl
theorem bTuple_ref {i : Nat} {ds : List D} {S : Sto} (h : S[i]? = some (.lst ds)) : bTuple [.ref i] S = some (.tup ds, S) := by simp only [bTuple, seqOf, readS, h]
theorem bList_lst {mk : Bool} {q : LK} {ds : List D} {S : Sto} : bList mk [.lst q ds] S = newL mk ds S := rfl
theorem bList_tup {mk : Bool} {ds : List D} {S : Sto} : bList mk [.tup ds] S = newL mk ds S := rfl
theorem mAppend_run {i : Nat} {ds : List D} {d : D} {S : Sto} (h : S[i]? = some (.lst ds)) (hl : ds.length < 1000000) : mAppend (.ref i) [d] S = some (.non, S.set i (.lst (ds ++ [d]))) := by
  simp only [mAppend, h]
  exact if_pos hl
theorem kM1_ref {f : OpM} {a : SemA} {E : Env} {S : Sto} {Q : Kn D} {i : Nat} {ds : List D} (h : S[i]? = some (.lst ds)) : kM1 f a E Q (.ref i) S = W (a E S) (kM2 f (.ref i) Q) := kM1_ (ds := ds) (by simp only [readS, h])
end AW

namespace AW
open PySem PySem.Spec PyProof.Rows L2

/-! ### the box of drawn numbers -/
/-- at i stands a box, good for n more draws -/
def Bx (S : Sto) (i n : Nat) : Prop := ∃ a b c : Int, S[i]? = some (.lst [.int a, .int b, .int c]) ∧ 0 ≤ c ∧ c + n ≤ 4611686018427387904
/-- nothing but the cell i is other than before -/
def Fr (i : Nat) (S S' : Sto) : Prop := S.length ≤ S'.length ∧ ∀ j, j < S.length → j ≠ i → S'[j]? = S[j]?
theorem Fr.refl {i : Nat} {S : Sto} : Fr i S S := ⟨Nat.le_refl _, fun _ _ _ => rfl⟩
theorem Fr.trans {i : Nat} {S S' S'' : Sto} (a : Fr i S S') (b : Fr i S' S'') : Fr i S S'' := ⟨Nat.le_trans a.1 b.1, fun j h n => by rw [b.2 j (Nat.lt_of_lt_of_le h a.1) n, a.2 j h n]⟩
theorem Fr.app {i : Nat} {S : Sto} {T : Sto} : Fr i S (S ++ T) := ⟨by simp, fun j h _ => by rw [List.getElem?_append_left h]⟩
theorem Fr.set {i : Nat} {S S' : Sto} {x : CO} (h : Fr i S S') : Fr i S (S'.set i x) := ⟨by simpa using h.1, fun j hj n => by rw [List.getElem?_set_ne (Ne.symm n)]; exact h.2 j hj n⟩
theorem Fr.above {i j : Nat} {S S' : Sto} {x : CO} (h : Fr i S S') (hj : S.length ≤ j) : Fr i S (S'.set j x) := ⟨by simpa using h.1, fun l hl n => by rw [List.getElem?_set_ne (by omega)]; exact h.2 l hl n⟩
theorem Bx.mono {S : Sto} {i n m : Nat} (h : Bx S i n) (l : m ≤ n) : Bx S i m := by
  obtain ⟨a, b, c, h1, h2, h3⟩ := h
  exact ⟨a, b, c, h1, h2, by omega⟩
theorem Bx.lt {S : Sto} {i n : Nat} (h : Bx S i n) : i < S.length := by
  obtain ⟨a, b, c, h1, h2, h3⟩ := h
  exact (List.getElem?_eq_some_iff.mp h1).1
theorem Bx.app {S T : Sto} {i n : Nat} (h : Bx S i n) : Bx (S ++ T) i n := by
  have := h.lt
  obtain ⟨a, b, c, h1, h2, h3⟩ := h
  exact ⟨a, b, c, by rw [List.getElem?_append_left this]; exact h1, h2, h3⟩
theorem Bx.set {S : Sto} {i j n : Nat} {x : CO} (h : Bx S i n) (hj : j ≠ i) : Bx (S.set j x) i n := by
  obtain ⟨a, b, c, h1, h2, h3⟩ := h
  exact ⟨a, b, c, by rw [List.getElem?_set_ne hj]; exact h1, h2, h3⟩
theorem W_gSub {o : SemE} {E : Env} {S : Sto} {r : Nat} {k : Int} {d x y z : D} {QE : Env → Sto → Prop} (ho : o E S = some (.ref r, S)) (h : S[r]? = some (.lst [x, y, z])) (hk : k = 0 ∨ k = 1 ∨ k = 2)
    (q : QE E (S.set r (.lst ([x, y, z].set k.toNat d)))) : W (gSubS o (eC (.int k)) d E S) QE := by
  unfold gSubS
  rw [W_bind, ho, W_some, W_bind, W_eC]
  simp only [h]
  rcases hk with rfl | rfl | rfl <;> exact ⟨_, _, rfl, q⟩
def TakeS (f : OpN) : Prop := ∀ (S : Sto) (i n : Nat) (m : Int), Bx S i (n + 1) → 0 < m → m < 1073741824 →
  W (f [.ref i, .int m] S) fun d S' => ∃ r : Int, d = .int r ∧ 0 ≤ r ∧ r < m ∧ Bx S' i n ∧ S'.length = S.length ∧ Fr i S S'
def takeSem : SemS := (sSeq (sIf (tBl (eBin opGt (eBin opIx (eVar 0) (eC (D.int 0))) (eC (D.int 0)))) (sSeq (sAsg (gV 2) (eBin opMod (eArgs bInt (aCons (eBin opIx (eVar 0) (eC (D.int 0))) aNil)) (eVar 1))) (sSeq (sAsg (gSubS (eVar 0) (eC (D.int 0))) (eBin opFdiv (eBin opIx (eVar 0) (eC (D.int 0))) (eVar 1))) (sRet (eVar 2)))) sNx) (sSeq (sAsg (gSubS (eVar 0) (eC (D.int 2))) (eBin (opAdd false) (eBin opIx (eVar 0) (eC (D.int 2))) (eC (D.int 1)))) (sSeq (sAsg (gV 3) (eBin opMod (eArgs bInt (aCons (eBin (opMul false) (eBin (opAdd false) (eBin opIx (eVar 0) (eC (D.int 1))) (eBin (opMul false) (eC (D.int 48271)) (eBin opIx (eVar 0) (eC (D.int 2))))) (eBin (opAdd false) (eC (D.int 39373)) (eBin opIx (eVar 0) (eC (D.int 2))))) aNil)) (eC (D.int 2147483647)))) (sSeq (sAsg (gV 4) (eBin (opAdd false) (eBin opMod (eArgs bInt (aCons (eVar 3) aNil)) (eC (D.int 40009))) (eC (D.int 7)))) (sSeq (sAsg (gV 5) (eBin opMod (eArgs bInt (aCons (eBin (opMul false) (eBin (opAdd false) (eBin (opAdd false) (eVar 3) (eBin opIx (eVar 0) (eC (D.int 2)))) (eBin opFdiv (eBin opIx (eVar 0) (eC (D.int 1))) (eC (D.int 1000003)))) (eVar 4)) aNil)) (eC (D.int 2147483629)))) (sRet (eBin opMod (eArgs bInt (aCons (eBin opFdiv (eBin opMod (eArgs bInt (aCons (eBin (opAdd false) (eBin (opMul false) (eVar 5) (eC (D.int 48271))) (eVar 3)) aNil)) (eC (D.int 2147483587))) (eC (D.int 64))) aNil)) (eVar 1))))))))
theorem take_ok : TakeS (body 6 takeSem) := by
  intro S i n m hb h0 h1
  obtain ⟨a, b, c, hS, hc, hn⟩ := hb
  have hi : i < S.length := (List.getElem?_eq_some_iff.mp hS).1
  have fin : ∀ a' c' r : Int, 0 ≤ c' → c' + n ≤ 4611686018427387904 → 0 ≤ r → r < m → ∃ r' : Int, D.int r = .int r' ∧ 0 ≤ r' ∧ r' < m ∧ Bx (S.set i (.lst [.int a', .int b, .int c'])) i n ∧ (S.set i (.lst [.int a', .int b, .int c'])).length = S.length ∧ Fr i S (S.set i (.lst [.int a', .int b, .int c'])) :=
    fun a' c' r h1 h2 h3 h4 => ⟨r, rfl, h3, h4, ⟨a', b, c', List.getElem?_set_self hi, h1, h2⟩, by simp, Fr.refl.set⟩
  unfold takeSem
  simp only [W_body, W_sSeq, W_sNx, W_sBk, W_sCt, W_sExpr, W_sRet, W_sRetN, W_sIf, W_sAsg, W_sPar, W_sAug, W_eC, W_eVar, W_eBin, W_eUn, W_eArgs, W_aNil, W_aCons, W_eAnd, W_eOr, W_eNot, W_eIf, W_eChain, W_tVal, W_tBl, W_tAnd, W_tOr, W_tNot, W_tTrue, W_oNone, W_oSome, W_eSl, W_eRev, W_eMethL, W_eCall, W_iSeq, W_iRange1, W_iRange2, W_iEnumS, W_iZipS, W_sFor, W_eComp, W_lcStep, W_gV, W_gUnpackVV, W_newF, W_newT, W_some,
 kBody_rt, kBody_nx, kSeq_nx, kSeq_rt, kSeq_bk, kSeq_ct, kExp_, kRet_, kIf_t, kIf_f, kAsg_V, kPar_, kAug_, kB1_, kB2_, kU_, kN_, kC1_, kC2_, kAnd_T, kAnd_F, kOr_T, kOr_F, kNot_B, kCh1_, kCh2_, kCh3_t, kCh3_f, kTV_B, kTB_B, kTA_t, kTA_f, kTO_t, kTO_f, kTN_, kOS_, kSl1_, kSl2_, kSl3_, kM2_, kK1_, kK2_, kSq_tup, kSq_lst, kSq_str, kEn_tup, kEn_lst, kZp_tup, kZp_lst, kFor_, kTurn_nx, kTurn_ct, kTurn_bk, kTurn_rt, kComp_, kLcT_t, kLcT_f,
 setAll, wipeE, pick, List.getElem?_cons_zero, List.getElem?_cons_succ, List.set_cons_zero, List.set_cons_succ, List.map_cons, List.map_nil, List.replicate_succ, List.replicate_zero, List.cons_append, List.nil_append, List.append_nil, List.length_cons, List.length_nil, List.filterMap_cons, List.filterMap_nil,
 Nat.reduceAdd, Nat.reduceSub, Nat.reduceLeDiff, Nat.reduceEqDiff, and_self, if_true, if_false, opAdd_int, opSub_int, opGt_int, opLt_int, opGe_int, opLe_int, opEq_int, opEq_str, opEq_bl, opNe_int, opNe_bl, opNe_str, bInt_int, bInt_bl, bAbs_int, truD_bl, truD_int, W_fLst, W_fTup, pow18, bLen_tup, bLen_lst, bTuple_lst, bTuple_tup, bList_lst, bList_tup, opIx_ref hS at0, opIx_ref hS at2]
  refine kIf_any (fun h => ?_) (fun h => ?_)
  · simp only [W_body, W_sSeq, W_sNx, W_sBk, W_sCt, W_sExpr, W_sRet, W_sRetN, W_sIf, W_sAsg, W_sPar, W_sAug, W_eC, W_eVar, W_eBin, W_eUn, W_eArgs, W_aNil, W_aCons, W_eAnd, W_eOr, W_eNot, W_eIf, W_eChain, W_tVal, W_tBl, W_tAnd, W_tOr, W_tNot, W_tTrue, W_oNone, W_oSome, W_eSl, W_eRev, W_eMethL, W_eCall, W_iSeq, W_iRange1, W_iRange2, W_iEnumS, W_iZipS, W_sFor, W_eComp, W_lcStep, W_gV, W_gUnpackVV, W_newF, W_newT, W_some,
 kBody_rt, kBody_nx, kSeq_nx, kSeq_rt, kSeq_bk, kSeq_ct, kExp_, kRet_, kIf_t, kIf_f, kAsg_V, kPar_, kAug_, kB1_, kB2_, kU_, kN_, kC1_, kC2_, kAnd_T, kAnd_F, kOr_T, kOr_F, kNot_B, kCh1_, kCh2_, kCh3_t, kCh3_f, kTV_B, kTB_B, kTA_t, kTA_f, kTO_t, kTO_f, kTN_, kOS_, kSl1_, kSl2_, kSl3_, kM2_, kK1_, kK2_, kSq_tup, kSq_lst, kSq_str, kEn_tup, kEn_lst, kZp_tup, kZp_lst, kFor_, kTurn_nx, kTurn_ct, kTurn_bk, kTurn_rt, kComp_, kLcT_t, kLcT_f,
 setAll, wipeE, pick, List.getElem?_cons_zero, List.getElem?_cons_succ, List.set_cons_zero, List.set_cons_succ, List.map_cons, List.map_nil, List.replicate_succ, List.replicate_zero, List.cons_append, List.nil_append, List.append_nil, List.length_cons, List.length_nil, List.filterMap_cons, List.filterMap_nil,
 Nat.reduceAdd, Nat.reduceSub, Nat.reduceLeDiff, Nat.reduceEqDiff, and_self, if_true, if_false, opAdd_int, opSub_int, opGt_int, opLt_int, opGe_int, opLe_int, opEq_int, opEq_str, opEq_bl, opNe_int, opNe_bl, opNe_str, bInt_int, bInt_bl, bAbs_int, truD_bl, truD_int, W_fLst, W_fTup, pow18, bLen_tup, bLen_lst, bTuple_lst, bTuple_tup, bList_lst, bList_tup, opIx_ref hS at0, opIx_ref hS at2, opMod_run h0, opFdiv_run h0 h1, kAsg_]
    refine W_gSub rfl hS (.inl rfl) ?_
    simp only [W_body, W_sSeq, W_sNx, W_sBk, W_sCt, W_sExpr, W_sRet, W_sRetN, W_sIf, W_sAsg, W_sPar, W_sAug, W_eC, W_eVar, W_eBin, W_eUn, W_eArgs, W_aNil, W_aCons, W_eAnd, W_eOr, W_eNot, W_eIf, W_eChain, W_tVal, W_tBl, W_tAnd, W_tOr, W_tNot, W_tTrue, W_oNone, W_oSome, W_eSl, W_eRev, W_eMethL, W_eCall, W_iSeq, W_iRange1, W_iRange2, W_iEnumS, W_iZipS, W_sFor, W_eComp, W_lcStep, W_gV, W_gUnpackVV, W_newF, W_newT, W_some,
 kBody_rt, kBody_nx, kSeq_nx, kSeq_rt, kSeq_bk, kSeq_ct, kExp_, kRet_, kIf_t, kIf_f, kAsg_V, kPar_, kAug_, kB1_, kB2_, kU_, kN_, kC1_, kC2_, kAnd_T, kAnd_F, kOr_T, kOr_F, kNot_B, kCh1_, kCh2_, kCh3_t, kCh3_f, kTV_B, kTB_B, kTA_t, kTA_f, kTO_t, kTO_f, kTN_, kOS_, kSl1_, kSl2_, kSl3_, kM2_, kK1_, kK2_, kSq_tup, kSq_lst, kSq_str, kEn_tup, kEn_lst, kZp_tup, kZp_lst, kFor_, kTurn_nx, kTurn_ct, kTurn_bk, kTurn_rt, kComp_, kLcT_t, kLcT_f,
 setAll, wipeE, pick, List.getElem?_cons_zero, List.getElem?_cons_succ, List.set_cons_zero, List.set_cons_succ, List.map_cons, List.map_nil, List.replicate_succ, List.replicate_zero, List.cons_append, List.nil_append, List.append_nil, List.length_cons, List.length_nil, List.filterMap_cons, List.filterMap_nil,
 Nat.reduceAdd, Nat.reduceSub, Nat.reduceLeDiff, Nat.reduceEqDiff, and_self, if_true, if_false, opAdd_int, opSub_int, opGt_int, opLt_int, opGe_int, opLe_int, opEq_int, opEq_str, opEq_bl, opNe_int, opNe_bl, opNe_str, bInt_int, bInt_bl, bAbs_int, truD_bl, truD_int, W_fLst, W_fTup, pow18, bLen_tup, bLen_lst, bTuple_lst, bTuple_tup, bList_lst, bList_tup]
    exact fin _ _ _ hc (by omega) (Int.emod_nonneg _ (by omega)) (Int.emod_lt_of_pos _ h0)
  · simp only [W_body, W_sSeq, W_sNx, W_sBk, W_sCt, W_sExpr, W_sRet, W_sRetN, W_sIf, W_sAsg, W_sPar, W_sAug, W_eC, W_eVar, W_eBin, W_eUn, W_eArgs, W_aNil, W_aCons, W_eAnd, W_eOr, W_eNot, W_eIf, W_eChain, W_tVal, W_tBl, W_tAnd, W_tOr, W_tNot, W_tTrue, W_oNone, W_oSome, W_eSl, W_eRev, W_eMethL, W_eCall, W_iSeq, W_iRange1, W_iRange2, W_iEnumS, W_iZipS, W_sFor, W_eComp, W_lcStep, W_gV, W_gUnpackVV, W_newF, W_newT, W_some,
 kBody_rt, kBody_nx, kSeq_nx, kSeq_rt, kSeq_bk, kSeq_ct, kExp_, kRet_, kIf_t, kIf_f, kAsg_V, kPar_, kAug_, kB1_, kB2_, kU_, kN_, kC1_, kC2_, kAnd_T, kAnd_F, kOr_T, kOr_F, kNot_B, kCh1_, kCh2_, kCh3_t, kCh3_f, kTV_B, kTB_B, kTA_t, kTA_f, kTO_t, kTO_f, kTN_, kOS_, kSl1_, kSl2_, kSl3_, kM2_, kK1_, kK2_, kSq_tup, kSq_lst, kSq_str, kEn_tup, kEn_lst, kZp_tup, kZp_lst, kFor_, kTurn_nx, kTurn_ct, kTurn_bk, kTurn_rt, kComp_, kLcT_t, kLcT_f,
 setAll, wipeE, pick, List.getElem?_cons_zero, List.getElem?_cons_succ, List.set_cons_zero, List.set_cons_succ, List.map_cons, List.map_nil, List.replicate_succ, List.replicate_zero, List.cons_append, List.nil_append, List.append_nil, List.length_cons, List.length_nil, List.filterMap_cons, List.filterMap_nil,
 Nat.reduceAdd, Nat.reduceSub, Nat.reduceLeDiff, Nat.reduceEqDiff, and_self, if_true, if_false, opAdd_int, opSub_int, opGt_int, opLt_int, opGe_int, opLe_int, opEq_int, opEq_str, opEq_bl, opNe_int, opNe_bl, opNe_str, bInt_int, bInt_bl, bAbs_int, truD_bl, truD_int, W_fLst, W_fTup, pow18, bLen_tup, bLen_lst, bTuple_lst, bTuple_tup, bList_lst, bList_tup, opIx_ref hS at0, opIx_ref hS at2, opMod_run h0, opFdiv_run h0 h1, kAsg_]
    refine W_gSub rfl hS (.inr (.inr rfl)) ?_
    have h2 : (S.set i (.lst [.int a, .int b, .int (c + 1)]))[i]? = some (.lst [.int a, .int b, .int (c + 1)]) := List.getElem?_set_self hi
    have w1 : -18446744073709551616 < (39373 + (c + 1)) := by omega
    have w2 : (39373 + (c + 1)) < 18446744073709551616 := by omega
    have z1 : ∀ x : Int, -18446744073709551616 < x % 40009 + 7 := fun x => by omega
    have z2 : ∀ x : Int, x % 40009 + 7 < 18446744073709551616 := fun x => by omega
    simp only [W_body, W_sSeq, W_sNx, W_sBk, W_sCt, W_sExpr, W_sRet, W_sRetN, W_sIf, W_sAsg, W_sPar, W_sAug, W_eC, W_eVar, W_eBin, W_eUn, W_eArgs, W_aNil, W_aCons, W_eAnd, W_eOr, W_eNot, W_eIf, W_eChain, W_tVal, W_tBl, W_tAnd, W_tOr, W_tNot, W_tTrue, W_oNone, W_oSome, W_eSl, W_eRev, W_eMethL, W_eCall, W_iSeq, W_iRange1, W_iRange2, W_iEnumS, W_iZipS, W_sFor, W_eComp, W_lcStep, W_gV, W_gUnpackVV, W_newF, W_newT, W_some,
 kBody_rt, kBody_nx, kSeq_nx, kSeq_rt, kSeq_bk, kSeq_ct, kExp_, kRet_, kIf_t, kIf_f, kAsg_V, kPar_, kAug_, kB1_, kB2_, kU_, kN_, kC1_, kC2_, kAnd_T, kAnd_F, kOr_T, kOr_F, kNot_B, kCh1_, kCh2_, kCh3_t, kCh3_f, kTV_B, kTB_B, kTA_t, kTA_f, kTO_t, kTO_f, kTN_, kOS_, kSl1_, kSl2_, kSl3_, kM2_, kK1_, kK2_, kSq_tup, kSq_lst, kSq_str, kEn_tup, kEn_lst, kZp_tup, kZp_lst, kFor_, kTurn_nx, kTurn_ct, kTurn_bk, kTurn_rt, kComp_, kLcT_t, kLcT_f,
 setAll, wipeE, pick, List.getElem?_cons_zero, List.getElem?_cons_succ, List.set_cons_zero, List.set_cons_succ, List.map_cons, List.map_nil, List.replicate_succ, List.replicate_zero, List.cons_append, List.nil_append, List.append_nil, List.length_cons, List.length_nil, List.filterMap_cons, List.filterMap_nil,
 Nat.reduceAdd, Nat.reduceSub, Nat.reduceLeDiff, Nat.reduceEqDiff, and_self, if_true, if_false, opAdd_int, opSub_int, opGt_int, opLt_int, opGe_int, opLe_int, opEq_int, opEq_str, opEq_bl, opNe_int, opNe_bl, opNe_str, bInt_int, bInt_bl, bAbs_int, truD_bl, truD_int, W_fLst, W_fTup, pow18, bLen_tup, bLen_lst, bTuple_lst, bTuple_tup, bList_lst, bList_tup, show (Int.toNat 2) = 2 from rfl, opIx_ref h2 at1, opIx_ref h2 at2, opMul_l (show (-18446744073709551616 : Int) < 48271 by decide) (by decide), opMul_r (show (-18446744073709551616 : Int) < 48271 by decide) (by decide), opMul_r w1 w2, opMul_r (z1 _) (z2 _), opMod_run (show (0 : Int) < 2147483647 by decide), opMod_run (show (0 : Int) < 40009 by decide),
      opMod_run (show (0 : Int) < 2147483629 by decide), opMod_run (show (0 : Int) < 2147483587 by decide), opFdiv_run (show (0 : Int) < 1000003 by decide) (by decide), opFdiv_run (show (0 : Int) < 64 by decide) (by decide), opMod_run h0]
    exact fin _ _ _ (by omega) (by omega) (Int.emod_nonneg _ (by omega)) (Int.emod_lt_of_pos _ h0)
end AW

namespace AW
theorem if_neg_f {α : Sort _} {a b : α} : (if false = true then a else b) = b := if_neg Bool.false_ne_true
open PySem PySem.Spec PyProof.Rows L2

/-! ### calls that only read -/
mutual
/-- no cell in it -/
def pl : D → Bool
  | .tup ds => pls ds
  | .lst _ ds => pls ds
  | .ref _ => false
  | _ => true
def pls : List D → Bool
  | [] => true
  | d :: ds => pl d && pls ds
end
mutual
/-- nothing lent in it, either -/
def nb : D → Bool
  | .tup ds => nbs ds
  | .lst .bor _ => false
  | .lst .frz ds => nbs ds
  | .lst .ext ds => nbs ds
  | .ref _ => false
  | _ => true
def nbs : List D → Bool
  | [] => true
  | d :: ds => nb d && nbs ds
end
mutual
theorem rsW_pl {f : Nat → Option D} : ∀ {d : D}, pl d = true → rsW f true d = some d
  | .non, _ => rfl
  | .bl _, _ => rfl
  | .int _, _ => rfl
  | .str _, _ => rfl
  | .ref _, h => by cases h
  | .tup ds, h => by simp only [rsW, rssW_pl (f := f) (show pls ds = true by simpa only [pl] using h)]
  | .lst q ds, h => by
    have e := rssW_pl (f := f) (show pls ds = true by simpa only [pl] using h)
    cases q <;> simp only [rsW, e, if_true]
theorem rssW_pl {f : Nat → Option D} : ∀ {ds : List D}, pls ds = true → rssW f true ds = some ds
  | [], _ => rfl
  | d :: ds, h => by
    simp only [pls, Bool.and_eq_true] at h
    simp only [rssW, rsW_pl h.1, rssW_pl h.2]
end
mutual
theorem rsW_nb {f : Nat → Option D} {bok : Bool} : ∀ {d : D}, nb d = true → rsW f bok d = some d
  | .non, _ => rfl
  | .bl _, _ => rfl
  | .int _, _ => rfl
  | .str _, _ => rfl
  | .ref _, h => by cases h
  | .tup ds, h => by simp only [rsW, rssW_nb (f := f) (bok := bok) (show nbs ds = true by simpa only [nb] using h)]
  | .lst .bor ds, h => by cases h
  | .lst .frz ds, h => by simp only [rsW, rssW_nb (f := f) (bok := bok) (show nbs ds = true by simpa only [nb] using h)]
  | .lst .ext ds, h => by simp only [rsW, rssW_nb (f := f) (bok := bok) (show nbs ds = true by simpa only [nb] using h)]
theorem rssW_nb {f : Nat → Option D} {bok : Bool} : ∀ {ds : List D}, nbs ds = true → rssW f bok ds = some ds
  | [], _ => rfl
  | d :: ds, h => by
    simp only [nbs, Bool.and_eq_true] at h
    simp only [rssW, rsW_nb h.1, rssW_nb h.2]
end
theorem pls_map {α : Type} {f : α → D} (h : ∀ x, pl (f x) = true) : ∀ xs : List α, pls (xs.map f) = true
  | [] => rfl
  | x :: xs => by simp only [List.map_cons, pls, h, pls_map h xs, Bool.and_self]
theorem nbs_map {α : Type} {f : α → D} (h : ∀ x, nb (f x) = true) : ∀ xs : List α, nbs (xs.map f) = true
  | [] => rfl
  | x :: xs => by simp only [List.map_cons, nbs, h, nbs_map h xs, Bool.and_self]
theorem pls_app : ∀ {a b : List D}, pls a = true → pls b = true → pls (a ++ b) = true
  | [], _, _, h => h
  | x :: xs, _, h, h' => by
    simp only [pls, Bool.and_eq_true, List.cons_append] at h ⊢
    exact ⟨h.1, pls_app h.2 h'⟩
/-- a call that reads data and hands back data -/
theorem W_callF {m : OpN} {ds : List D} {S : Sto} {Q : Kn D} (hp : pls ds = true) (h : W (m ds []) fun d Sc => ∃ e, frz Sc d = some e ∧ Q e S) : W (callP false m ds S) Q := by
  obtain ⟨d, Sc, e, e', he, q⟩ := h
  unfold callP lend
  simp only [rssW_pl hp, e]
  refine ⟨e', S, ?_, q⟩
  simp only [he]
theorem W_callE {m : OpN} {ds : List D} {S : Sto} {d e : D} {Sc : Sto} (hp : pls ds = true) (h : m ds [] = some (d, Sc)) (hf : frz Sc d = some e) : callP false m ds S = some (e, S) := by
  unfold callP lend
  simp only [rssW_pl hp, h, hf]
/-- a call that hands a list back, which becomes a cell -/
theorem W_callT {m : OpN} {ds : List D} {S : Sto} {Q : Kn D} (hp : pls ds = true) (h : W (m ds []) fun d Sc => ∃ j fs, d = .ref j ∧ Sc[j]? = some (.lst fs) ∧ nbs fs = true ∧ Q (.ref S.length) (S ++ [.lst fs])) : W (callP true m ds S) Q := by
  obtain ⟨d, Sc, e, j, fs, rfl, hj, hn, q⟩ := h
  unfold callP lend
  simp only [rssW_pl hp, e, hj, rssW_nb hn]
  exact ⟨_, _, rfl, q⟩
theorem frz_nb {S : Sto} {d : D} (h : nb d = true) : frz S d = some d := rsW_nb h
theorem frz_ref {S : Sto} {i : Nat} {ds : List D} (h : S[i]? = some (.lst ds)) (hn : nbs ds = true) : frz S (.ref i) = some (.lst .frz ds) := by
  unfold frz
  simp only [rsW, cellR, h, rssW_nb hn]
theorem setLen {S : Sto} {x : CO} : (S ++ [x])[S.length]? = some x := by simp

/-! ### the boxes, the law's own walk -/
def boxSem : SemS := (sSeq (sAsg (gV 2) (eIf (tBl (eBin opLt (eVar 1) (eArgs bLen (aCons (eVar 0) aNil)))) (eBin opIx (eVar 0) (eVar 1)) (eC (D.int 0)))) (sRet (eArgs (fLst true) (aCons (eBin (opMul false) (eArgs bAbs (aCons (eVar 2) aNil)) (eArgs bInt (aCons (eBin opGe (eArgs bAbs (aCons (eVar 2) aNil)) (eBin opPow (eC (D.int 10)) (eC (D.int 18)))) aNil))) (aCons (eBin (opAdd false) (eBin (opAdd false) (eBin opMod (eArgs bInt (aCons (eVar 2) aNil)) (eC (D.int 2305843009213693951))) (eBin (opMul false) (eC (D.int 39373)) (eVar 1))) (eC (D.int 193))) (aCons (eC (D.int 0)) aNil))))))
theorem box_ok {S : Sto} {cs : List Int} {k n : Nat} (hk : k < cs.length) (hl : k < 1000000) (hL : cs.length ≤ LIM) (hn : n ≤ 4611686018427387904) {Q : Kn D} (q : ∀ a b : Int, Q (.ref S.length) (S ++ [.lst [.int a, .int b, .int 0]])) :
    W (callP true (body 3 boxSem) [.lst .frz (cs.map .int), .int k] S) Q := by
  have e : atD (cs.map D.int) (k : Int) = some (.int (cs[k])) := atD_nat (by simp [hk])
  refine W_callT (by simp only [pls, pl, pls_map (f := D.int) (fun _ => rfl), Bool.and_self]) ?_
  unfold boxSem
  simp only [W_body, W_sSeq, W_sNx, W_sBk, W_sCt, W_sExpr, W_sRet, W_sRetN, W_sIf, W_sAsg, W_sPar, W_sAug, W_eC, W_eVar, W_eBin, W_eUn, W_eArgs, W_aNil, W_aCons, W_eAnd, W_eOr, W_eNot, W_eIf, W_eChain, W_tVal, W_tBl, W_tAnd, W_tOr, W_tNot, W_tTrue, W_oNone, W_oSome, W_eSl, W_eRev, W_eMethL, W_eCall, W_iSeq, W_iRange1, W_iRange2, W_iEnumS, W_iZipS, W_sFor, W_eComp, W_lcStep, W_gV, W_gUnpackVV, W_newF, W_newT, W_some,
 kBody_rt, kBody_nx, kSeq_nx, kSeq_rt, kSeq_bk, kSeq_ct, kExp_, kRet_, kIf_t, kIf_f, kAsg_V, kPar_, kAug_, kB1_, kB2_, kU_, kN_, kC1_, kC2_, kAnd_T, kAnd_F, kOr_T, kOr_F, kNot_B, kCh1_, kCh2_, kCh3_t, kCh3_f, kTV_B, kTB_B, kTA_t, kTA_f, kTO_t, kTO_f, kTN_, kOS_, kSl1_, kSl2_, kSl3_, kM2_, kK1_, kK2_, kSq_tup, kSq_lst, kSq_str, kEn_tup, kEn_lst, kZp_tup, kZp_lst, kFor_, kTurn_nx, kTurn_ct, kTurn_bk, kTurn_rt, kComp_, kLcT_t, kLcT_f,
 setAll, wipeE, pick, List.getElem?_cons_zero, List.getElem?_cons_succ, List.set_cons_zero, List.set_cons_succ, List.map_cons, List.map_nil, List.replicate_succ, List.replicate_zero, List.cons_append, List.nil_append, List.append_nil, List.length_cons, List.length_nil, List.filterMap_cons, List.filterMap_nil,
 Nat.reduceAdd, Nat.reduceSub, Nat.reduceLeDiff, Nat.reduceEqDiff, and_self, if_true, if_false, opAdd_int, opSub_int, opGt_int, opLt_int, opGe_int, opLe_int, opEq_int, opEq_str, opEq_bl, opNe_int, opNe_bl, opNe_str, bInt_int, bInt_bl, bAbs_int, truD_bl, truD_int, W_fLst, W_fTup, pow18, bLen_tup, bLen_lst, bTuple_lst, bTuple_tup, bList_lst, bList_tup, List.length_map, show ((k : Int) < (cs.length : Int)) = True from eq_true (by omega), decide_true, opIx_lst e]
  have w1 : ∀ b : Bool, (-18446744073709551616 : Int) < (if b = true then 1 else 0) := fun b => by cases b <;> decide
  have w2 : ∀ b : Bool, (if b = true then (1 : Int) else 0) < 18446744073709551616 := fun b => by cases b <;> decide
  simp only [W_body, W_sSeq, W_sNx, W_sBk, W_sCt, W_sExpr, W_sRet, W_sRetN, W_sIf, W_sAsg, W_sPar, W_sAug, W_eC, W_eVar, W_eBin, W_eUn, W_eArgs, W_aNil, W_aCons, W_eAnd, W_eOr, W_eNot, W_eIf, W_eChain, W_tVal, W_tBl, W_tAnd, W_tOr, W_tNot, W_tTrue, W_oNone, W_oSome, W_eSl, W_eRev, W_eMethL, W_eCall, W_iSeq, W_iRange1, W_iRange2, W_iEnumS, W_iZipS, W_sFor, W_eComp, W_lcStep, W_gV, W_gUnpackVV, W_newF, W_newT, W_some,
 kBody_rt, kBody_nx, kSeq_nx, kSeq_rt, kSeq_bk, kSeq_ct, kExp_, kRet_, kIf_t, kIf_f, kAsg_V, kPar_, kAug_, kB1_, kB2_, kU_, kN_, kC1_, kC2_, kAnd_T, kAnd_F, kOr_T, kOr_F, kNot_B, kCh1_, kCh2_, kCh3_t, kCh3_f, kTV_B, kTB_B, kTA_t, kTA_f, kTO_t, kTO_f, kTN_, kOS_, kSl1_, kSl2_, kSl3_, kM2_, kK1_, kK2_, kSq_tup, kSq_lst, kSq_str, kEn_tup, kEn_lst, kZp_tup, kZp_lst, kFor_, kTurn_nx, kTurn_ct, kTurn_bk, kTurn_rt, kComp_, kLcT_t, kLcT_f,
 setAll, wipeE, pick, List.getElem?_cons_zero, List.getElem?_cons_succ, List.set_cons_zero, List.set_cons_succ, List.map_cons, List.map_nil, List.replicate_succ, List.replicate_zero, List.cons_append, List.nil_append, List.append_nil, List.length_cons, List.length_nil, List.filterMap_cons, List.filterMap_nil,
 Nat.reduceAdd, Nat.reduceSub, Nat.reduceLeDiff, Nat.reduceEqDiff, and_self, if_true, if_false, opAdd_int, opSub_int, opGt_int, opLt_int, opGe_int, opLe_int, opEq_int, opEq_str, opEq_bl, opNe_int, opNe_bl, opNe_str, bInt_int, bInt_bl, bAbs_int, truD_bl, truD_int, W_fLst, W_fTup, pow18, bLen_tup, bLen_lst, bTuple_lst, bTuple_tup, bList_lst, bList_tup, opMul_r (w1 _) (w2 _), opMul_l (show (-18446744073709551616 : Int) < 39373 by decide) (by decide), opMod_run (show (0 : Int) < 2305843009213693951 by decide)]
  exact ⟨0, _, rfl, rfl, rfl, q _ _⟩
def cellsSem : SemS := (sSeq (sAsg (gV 2) (eOr (eArgs (bList true) (aCons (eSl (opSl false) (eVar 0) oNone (oSome (eVar 1))) aNil)) (eArgs (fLst true) (aCons (eC (D.int 0)) aNil)))) (sSeq (sFor (iEnumS (aCons (eSl (opSl false) (eVar 0) (oSome (eVar 1)) (oSome (eC (D.int 63)))) aNil)) (gUnpack 2 (gsCons (gV 3) (gsCons (gV 4) gsNil))) (sSeq (sAsg (gV 5) (eBin opMod (eArgs bInt (aCons (eVar 3) aNil)) (eVar 1))) (sAsg (gSubS (eVar 2) (eVar 5)) (eBin (opAdd false) (eBin opIx (eVar 2) (eVar 5)) (eBin (opMul false) (eVar 4) (eBin (opAdd false) (eVar 3) (eC (D.int 2)))))))) (sRet (eVar 2))))
theorem enumD_map {α : Type} {f : α → D} : ∀ (xs : List α) (k : Nat), enumD k (xs.map f) = (xs.zipIdx k).map fun p => .tup [.int p.2, f p.1]
  | [], _ => rfl
  | x :: xs, k => by simp only [List.map_cons, enumD, List.zipIdx_cons, enumD_map xs (k + 1)]
theorem W_gSubN {o i : SemE} {E : Env} {S : Sto} {r k : Nat} {d : D} {ds : List D} {QE : Env → Sto → Prop} (ho : o E S = some (.ref r, S)) (hi : i E S = some (.int (k : Nat), S)) (h : S[r]? = some (.lst ds)) (hk : k < ds.length)
    (q : QE E (S.set r (.lst (ds.set k d)))) : W (gSubS o i d E S) QE := by
  unfold gSubS
  rw [W_bind, ho, W_some, W_bind, hi, W_some]
  have e : ixN ds.length (k : Int) = some k := by
    unfold ixN
    rw [if_pos (by omega), if_pos (by omega), Int.toNat_natCast]
  simp only [h, e]
  exact ⟨_, _, rfl, q⟩
theorem cells_loop {most r : Nat} (h0 : 0 < most) {Q : Kn (Fl × Env)} {x0 : Option D} (q : ∀ (cs : List Int) (y z u : Option D) (S : Sto), 0 < cs.length → cs.length ≤ most → S[r]? = some (.lst (cs.map .int)) → Q (.nx, [x0, some (.int most), some (.ref r), y, z, u]) S) (ps : List (Int × Nat)) (cs : List Int) (S : Sto) (y z u : Option D)
    (hc : 0 < cs.length) (hm : cs.length ≤ most) (hp : ps ≠ [] → cs.length = most) (hk : ∀ p ∈ ps, p.2 < 1000) (hS : S[r]? = some (.lst (cs.map .int))) :
    W (forLoop (gUnpack 2 (gsCons (gV 3) (gsCons (gV 4) gsNil))) (sSeq (sAsg (gV 5) (eBin opMod (eArgs bInt (aCons (eVar 3) aNil)) (eVar 1))) (sAsg (gSubS (eVar 2) (eVar 5)) (eBin (opAdd false) (eBin opIx (eVar 2) (eVar 5)) (eBin (opMul false) (eVar 4) (eBin (opAdd false) (eVar 3) (eC (D.int 2)))))))
      [] (ps.map fun p => D.tup [.int p.2, .int p.1]) [x0, some (.int most), some (.ref r), y, z, u] S) Q := by
  refine W_loop (fun ds E S => ∃ (ps : List (Int × Nat)) (cs : List Int) (y z u : Option D), ds = (ps.map fun p => D.tup [.int p.2, .int p.1]) ∧ (∀ p ∈ ps, p.2 < 1000) ∧ E = [x0, some (.int most), some (.ref r), y, z, u] ∧ 0 < cs.length ∧ cs.length ≤ most ∧ (ps ≠ [] → cs.length = most) ∧ S[r]? = some (.lst (cs.map .int))) (fun _ => rfl) ?_ ?_ _ _ _ ⟨ps, cs, y, z, u, rfl, hk, rfl, hc, hm, hp, hS⟩
  · rintro E S ⟨ps, cs, y, z, u, e, h1, rfl, h2, h3, h4, h5⟩
    exact q cs y z u S h2 h3 h5
  · rintro d ds E S ⟨ps, cs, y, z, u, e, h1, rfl, h2, h3, h4, h5⟩
    cases ps with
    | nil => cases e
    | cons p ps =>
      rw [List.map_cons] at e
      injection e with e1 e2
      subst e1 e2
      have hcl := h4 (by simp)
      have hr : p.2 % most < cs.length := by rw [hcl]; exact Nat.mod_lt _ h0
      have hr' : r < S.length := (List.getElem?_eq_some_iff.mp h5).1
      have hk := h1 p List.mem_cons_self
      have hat : atD (cs.map D.int) ((p.2 % most : Nat) : Int) = some (.int (cs[p.2 % most])) := atD_nat (by simp [hr])
      have hmod : opMod (.int (p.2 : Int)) (.int (most : Int)) S = some (.int ((p.2 % most : Nat) : Int), S) := by
        rw [opMod_run (by omega)]; rfl
      simp only [W_body, W_sSeq, W_sNx, W_sBk, W_sCt, W_sExpr, W_sRet, W_sRetN, W_sIf, W_sAsg, W_sPar, W_sAug, W_eC, W_eVar, W_eBin, W_eUn, W_eArgs, W_aNil, W_aCons, W_eAnd, W_eOr, W_eNot, W_eIf, W_eChain, W_tVal, W_tBl, W_tAnd, W_tOr, W_tNot, W_tTrue, W_oNone, W_oSome, W_eSl, W_eRev, W_eMethL, W_eCall, W_iSeq, W_iRange1, W_iRange2, W_iEnumS, W_iZipS, W_sFor, W_eComp, W_lcStep, W_gV, W_gUnpackVV, W_newF, W_newT, W_some,
 kBody_rt, kBody_nx, kSeq_nx, kSeq_rt, kSeq_bk, kSeq_ct, kExp_, kRet_, kIf_t, kIf_f, kAsg_V, kPar_, kAug_, kB1_, kB2_, kU_, kN_, kC1_, kC2_, kAnd_T, kAnd_F, kOr_T, kOr_F, kNot_B, kCh1_, kCh2_, kCh3_t, kCh3_f, kTV_B, kTB_B, kTA_t, kTA_f, kTO_t, kTO_f, kTN_, kOS_, kSl1_, kSl2_, kSl3_, kM2_, kK1_, kK2_, kSq_tup, kSq_lst, kSq_str, kEn_tup, kEn_lst, kZp_tup, kZp_lst, kFor_, kTurn_nx, kTurn_ct, kTurn_bk, kTurn_rt, kComp_, kLcT_t, kLcT_f,
 setAll, wipeE, pick, List.getElem?_cons_zero, List.getElem?_cons_succ, List.set_cons_zero, List.set_cons_succ, List.map_cons, List.map_nil, List.replicate_succ, List.replicate_zero, List.cons_append, List.nil_append, List.append_nil, List.length_cons, List.length_nil, List.filterMap_cons, List.filterMap_nil,
 Nat.reduceAdd, Nat.reduceSub, Nat.reduceLeDiff, Nat.reduceEqDiff, and_self, if_true, if_false, opAdd_int, opSub_int, opGt_int, opLt_int, opGe_int, opLe_int, opEq_int, opEq_str, opEq_bl, opNe_int, opNe_bl, opNe_str, bInt_int, bInt_bl, bAbs_int, truD_bl, truD_int, W_fLst, W_fTup, pow18, bLen_tup, bLen_lst, bTuple_lst, bTuple_tup, bList_lst, bList_tup, hmod, opIx_ref h5 hat, opMul_r (show (-18446744073709551616 : Int) < (p.2 : Int) + 2 by omega) (show (p.2 : Int) + 2 < (18446744073709551616 : Int) by omega), kAsg_]
      refine W_gSubN rfl rfl h5 (by simpa using hr) ?_
      refine ⟨ps, cs.set (p.2 % most) (cs[p.2 % most] + p.1 * (p.2 + 2)), _, _, _, rfl, fun q hq => h1 q (List.mem_cons_of_mem _ hq), rfl, by simpa using h2, by simpa using h3, fun _ => by simpa using hcl, ?_⟩
      rw [List.getElem?_set_self hr']
      rw [List.map_set]
theorem cells_ok {S : Sto} {ns : List Int} {most : Nat} (h0 : 0 < most) (hm : most ≤ 63) (hn : ns.length ≤ 63) {Q : Kn D} (q : ∀ cs : List Int, 0 < cs.length → cs.length ≤ most → Q (.lst .frz (cs.map .int)) S) :
    W (callP false (body 6 cellsSem) [script ns, .int most] S) Q := by
  refine W_callF (by simp only [pls, pl, script, pls_map (f := D.int) (fun _ => rfl), Bool.and_self]) ?_
  unfold cellsSem script
  have hs1 : opSl false (.lst .ext (ns.map D.int)) none (some (most : Int)) [] = some (.lst .frz ((ns.take most).map D.int), []) := by
    simp only [opSl, readS, newL, cutD, HT.sIx_none, HT.sIx_nat]
    simp [List.map_take]
  have hs2 : ∀ S : Sto, opSl false (.lst .ext (ns.map D.int)) (some (most : Int)) (some 63) S = some (.lst .frz ((ns.drop most).map D.int), S) := fun S => by
    simp only [opSl, readS, newL, cutD, HT.sIx_nat]
    rw [show (63 : Int) = ((63 : Nat) : Int) from rfl, HT.sIx_nat]
    have e : min 63 (ns.map D.int).length - min most (ns.map D.int).length = (ns.map D.int).length - min most (ns.map D.int).length := by simp; omega
    rw [e]
    show some (D.lst .frz _, S) = _
    rw [List.length_map, ← List.map_drop, ← List.map_take]
    congr 3
    refine congrArg (List.map D.int) ?_
    by_cases h : most ≤ ns.length
    · rw [Nat.min_eq_left h, List.take_of_length_le (by simp)]
    · rw [Nat.min_eq_right (by omega), List.drop_of_length_le (Nat.le_refl _), List.drop_of_length_le (by omega)]; simp
  have fin : ∀ (r : Nat) (cs : List Int) (S' : Sto), 0 < cs.length → cs.length ≤ most → S'[r]? = some (.lst (cs.map .int)) → ∃ e, frz S' (.ref r) = some e ∧ Q e S := fun r cs S' h1 h2 h3 =>
    ⟨_, frz_ref h3 (nbs_map (f := D.int) (fun _ => rfl) cs), q cs h1 h2⟩
  simp only [W_body, W_sSeq, W_sNx, W_sBk, W_sCt, W_sExpr, W_sRet, W_sRetN, W_sIf, W_sAsg, W_sPar, W_sAug, W_eC, W_eVar, W_eBin, W_eUn, W_eArgs, W_aNil, W_aCons, W_eAnd, W_eOr, W_eNot, W_eIf, W_eChain, W_tVal, W_tBl, W_tAnd, W_tOr, W_tNot, W_tTrue, W_oNone, W_oSome, W_eSl, W_eRev, W_eMethL, W_eCall, W_iSeq, W_iRange1, W_iRange2, W_iEnumS, W_iZipS, W_sFor, W_eComp, W_lcStep, W_gV, W_gUnpackVV, W_newF, W_newT, W_some,
 kBody_rt, kBody_nx, kSeq_nx, kSeq_rt, kSeq_bk, kSeq_ct, kExp_, kRet_, kIf_t, kIf_f, kAsg_V, kPar_, kAug_, kB1_, kB2_, kU_, kN_, kC1_, kC2_, kAnd_T, kAnd_F, kOr_T, kOr_F, kNot_B, kCh1_, kCh2_, kCh3_t, kCh3_f, kTV_B, kTB_B, kTA_t, kTA_f, kTO_t, kTO_f, kTN_, kOS_, kSl1_, kSl2_, kSl3_, kM2_, kK1_, kK2_, kSq_tup, kSq_lst, kSq_str, kEn_tup, kEn_lst, kZp_tup, kZp_lst, kFor_, kTurn_nx, kTurn_ct, kTurn_bk, kTurn_rt, kComp_, kLcT_t, kLcT_f,
 setAll, wipeE, pick, List.getElem?_cons_zero, List.getElem?_cons_succ, List.set_cons_zero, List.set_cons_succ, List.map_cons, List.map_nil, List.replicate_succ, List.replicate_zero, List.cons_append, List.nil_append, List.append_nil, List.length_cons, List.length_nil, List.filterMap_cons, List.filterMap_nil,
 Nat.reduceAdd, Nat.reduceSub, Nat.reduceLeDiff, Nat.reduceEqDiff, and_self, if_true, if_false, opAdd_int, opSub_int, opGt_int, opLt_int, opGe_int, opLe_int, opEq_int, opEq_str, opEq_bl, opNe_int, opNe_bl, opNe_str, bInt_int, bInt_bl, bAbs_int, truD_bl, truD_int, W_fLst, W_fTup, pow18, bLen_tup, bLen_lst, bTuple_lst, bTuple_tup, bList_lst, bList_tup, hs1, hs2, List.length_nil]
  have hz : ∀ p ∈ (ns.drop most).zipIdx 0, p.2 < 1000 := fun p hp => by
    have := List.snd_lt_of_mem_zipIdx hp
    simp at this; omega
  by_cases he : ns.take most = []
  · have hd : ns.drop most = [] := by
      rcases List.take_eq_nil_iff.mp he with h | h
      · omega
      · rw [h]; simp
    rw [he, kOr_f (by rfl)]
    simp only [W_body, W_sSeq, W_sNx, W_sBk, W_sCt, W_sExpr, W_sRet, W_sRetN, W_sIf, W_sAsg, W_sPar, W_sAug, W_eC, W_eVar, W_eBin, W_eUn, W_eArgs, W_aNil, W_aCons, W_eAnd, W_eOr, W_eNot, W_eIf, W_eChain, W_tVal, W_tBl, W_tAnd, W_tOr, W_tNot, W_tTrue, W_oNone, W_oSome, W_eSl, W_eRev, W_eMethL, W_eCall, W_iSeq, W_iRange1, W_iRange2, W_iEnumS, W_iZipS, W_sFor, W_eComp, W_lcStep, W_gV, W_gUnpackVV, W_newF, W_newT, W_some,
 kBody_rt, kBody_nx, kSeq_nx, kSeq_rt, kSeq_bk, kSeq_ct, kExp_, kRet_, kIf_t, kIf_f, kAsg_V, kPar_, kAug_, kB1_, kB2_, kU_, kN_, kC1_, kC2_, kAnd_T, kAnd_F, kOr_T, kOr_F, kNot_B, kCh1_, kCh2_, kCh3_t, kCh3_f, kTV_B, kTB_B, kTA_t, kTA_f, kTO_t, kTO_f, kTN_, kOS_, kSl1_, kSl2_, kSl3_, kM2_, kK1_, kK2_, kSq_tup, kSq_lst, kSq_str, kEn_tup, kEn_lst, kZp_tup, kZp_lst, kFor_, kTurn_nx, kTurn_ct, kTurn_bk, kTurn_rt, kComp_, kLcT_t, kLcT_f,
 setAll, wipeE, pick, List.getElem?_cons_zero, List.getElem?_cons_succ, List.set_cons_zero, List.set_cons_succ, List.map_cons, List.map_nil, List.replicate_succ, List.replicate_zero, List.cons_append, List.nil_append, List.append_nil, List.length_cons, List.length_nil, List.filterMap_cons, List.filterMap_nil,
 Nat.reduceAdd, Nat.reduceSub, Nat.reduceLeDiff, Nat.reduceEqDiff, and_self, if_true, if_false, opAdd_int, opSub_int, opGt_int, opLt_int, opGe_int, opLe_int, opEq_int, opEq_str, opEq_bl, opNe_int, opNe_bl, opNe_str, bInt_int, bInt_bl, bAbs_int, truD_bl, truD_int, W_fLst, W_fTup, pow18, bLen_tup, bLen_lst, bTuple_lst, bTuple_tup, bList_lst, bList_tup, hs2]
    rw [hd]
    simp only [W_body, W_sSeq, W_sNx, W_sBk, W_sCt, W_sExpr, W_sRet, W_sRetN, W_sIf, W_sAsg, W_sPar, W_sAug, W_eC, W_eVar, W_eBin, W_eUn, W_eArgs, W_aNil, W_aCons, W_eAnd, W_eOr, W_eNot, W_eIf, W_eChain, W_tVal, W_tBl, W_tAnd, W_tOr, W_tNot, W_tTrue, W_oNone, W_oSome, W_eSl, W_eRev, W_eMethL, W_eCall, W_iSeq, W_iRange1, W_iRange2, W_iEnumS, W_iZipS, W_sFor, W_eComp, W_lcStep, W_gV, W_gUnpackVV, W_newF, W_newT, W_some,
 kBody_rt, kBody_nx, kSeq_nx, kSeq_rt, kSeq_bk, kSeq_ct, kExp_, kRet_, kIf_t, kIf_f, kAsg_V, kPar_, kAug_, kB1_, kB2_, kU_, kN_, kC1_, kC2_, kAnd_T, kAnd_F, kOr_T, kOr_F, kNot_B, kCh1_, kCh2_, kCh3_t, kCh3_f, kTV_B, kTB_B, kTA_t, kTA_f, kTO_t, kTO_f, kTN_, kOS_, kSl1_, kSl2_, kSl3_, kM2_, kK1_, kK2_, kSq_tup, kSq_lst, kSq_str, kEn_tup, kEn_lst, kZp_tup, kZp_lst, kFor_, kTurn_nx, kTurn_ct, kTurn_bk, kTurn_rt, kComp_, kLcT_t, kLcT_f,
 setAll, wipeE, pick, List.getElem?_cons_zero, List.getElem?_cons_succ, List.set_cons_zero, List.set_cons_succ, List.map_cons, List.map_nil, List.replicate_succ, List.replicate_zero, List.cons_append, List.nil_append, List.append_nil, List.length_cons, List.length_nil, List.filterMap_cons, List.filterMap_nil,
 Nat.reduceAdd, Nat.reduceSub, Nat.reduceLeDiff, Nat.reduceEqDiff, and_self, if_true, if_false, opAdd_int, opSub_int, opGt_int, opLt_int, opGe_int, opLe_int, opEq_int, opEq_str, opEq_bl, opNe_int, opNe_bl, opNe_str, bInt_int, bInt_bl, bAbs_int, truD_bl, truD_int, W_fLst, W_fTup, pow18, bLen_tup, bLen_lst, bTuple_lst, bTuple_tup, bList_lst, bList_tup, enumD, List.map_nil, forLoop, stable, List.all_nil, List.length_cons, List.length_nil]
    exact fin 1 [0] _ (by simp) h0 rfl
  · have hlen : 0 < (ns.take most).length := List.length_pos_iff.mpr he
    rw [kOr_t (by
      show some (!((ns.take most).map D.int).isEmpty) = some true
      cases h : ns.take most with
      | nil => exact (he h).elim
      | cons _ _ => rfl)]
    simp only [W_body, W_sSeq, W_sNx, W_sBk, W_sCt, W_sExpr, W_sRet, W_sRetN, W_sIf, W_sAsg, W_sPar, W_sAug, W_eC, W_eVar, W_eBin, W_eUn, W_eArgs, W_aNil, W_aCons, W_eAnd, W_eOr, W_eNot, W_eIf, W_eChain, W_tVal, W_tBl, W_tAnd, W_tOr, W_tNot, W_tTrue, W_oNone, W_oSome, W_eSl, W_eRev, W_eMethL, W_eCall, W_iSeq, W_iRange1, W_iRange2, W_iEnumS, W_iZipS, W_sFor, W_eComp, W_lcStep, W_gV, W_gUnpackVV, W_newF, W_newT, W_some,
 kBody_rt, kBody_nx, kSeq_nx, kSeq_rt, kSeq_bk, kSeq_ct, kExp_, kRet_, kIf_t, kIf_f, kAsg_V, kPar_, kAug_, kB1_, kB2_, kU_, kN_, kC1_, kC2_, kAnd_T, kAnd_F, kOr_T, kOr_F, kNot_B, kCh1_, kCh2_, kCh3_t, kCh3_f, kTV_B, kTB_B, kTA_t, kTA_f, kTO_t, kTO_f, kTN_, kOS_, kSl1_, kSl2_, kSl3_, kM2_, kK1_, kK2_, kSq_tup, kSq_lst, kSq_str, kEn_tup, kEn_lst, kZp_tup, kZp_lst, kFor_, kTurn_nx, kTurn_ct, kTurn_bk, kTurn_rt, kComp_, kLcT_t, kLcT_f,
 setAll, wipeE, pick, List.getElem?_cons_zero, List.getElem?_cons_succ, List.set_cons_zero, List.set_cons_succ, List.map_cons, List.map_nil, List.replicate_succ, List.replicate_zero, List.cons_append, List.nil_append, List.append_nil, List.length_cons, List.length_nil, List.filterMap_cons, List.filterMap_nil,
 Nat.reduceAdd, Nat.reduceSub, Nat.reduceLeDiff, Nat.reduceEqDiff, and_self, if_true, if_false, opAdd_int, opSub_int, opGt_int, opLt_int, opGe_int, opLe_int, opEq_int, opEq_str, opEq_bl, opNe_int, opNe_bl, opNe_str, bInt_int, bInt_bl, bAbs_int, truD_bl, truD_int, W_fLst, W_fTup, pow18, bLen_tup, bLen_lst, bTuple_lst, bTuple_tup, bList_lst, bList_tup, hs2]
    rw [enumD_map]
    refine cells_loop (r := 0) h0 (fun cs y z u S h1 h2 h3 => ?_) _ (ns.take most) _ _ _ _ hlen (by simp; omega) (fun h => ?_) hz rfl
    · simp only [W_body, W_sSeq, W_sNx, W_sBk, W_sCt, W_sExpr, W_sRet, W_sRetN, W_sIf, W_sAsg, W_sPar, W_sAug, W_eC, W_eVar, W_eBin, W_eUn, W_eArgs, W_aNil, W_aCons, W_eAnd, W_eOr, W_eNot, W_eIf, W_eChain, W_tVal, W_tBl, W_tAnd, W_tOr, W_tNot, W_tTrue, W_oNone, W_oSome, W_eSl, W_eRev, W_eMethL, W_eCall, W_iSeq, W_iRange1, W_iRange2, W_iEnumS, W_iZipS, W_sFor, W_eComp, W_lcStep, W_gV, W_gUnpackVV, W_newF, W_newT, W_some,
 kBody_rt, kBody_nx, kSeq_nx, kSeq_rt, kSeq_bk, kSeq_ct, kExp_, kRet_, kIf_t, kIf_f, kAsg_V, kPar_, kAug_, kB1_, kB2_, kU_, kN_, kC1_, kC2_, kAnd_T, kAnd_F, kOr_T, kOr_F, kNot_B, kCh1_, kCh2_, kCh3_t, kCh3_f, kTV_B, kTB_B, kTA_t, kTA_f, kTO_t, kTO_f, kTN_, kOS_, kSl1_, kSl2_, kSl3_, kM2_, kK1_, kK2_, kSq_tup, kSq_lst, kSq_str, kEn_tup, kEn_lst, kZp_tup, kZp_lst, kFor_, kTurn_nx, kTurn_ct, kTurn_bk, kTurn_rt, kComp_, kLcT_t, kLcT_f,
 setAll, wipeE, pick, List.getElem?_cons_zero, List.getElem?_cons_succ, List.set_cons_zero, List.set_cons_succ, List.map_cons, List.map_nil, List.replicate_succ, List.replicate_zero, List.cons_append, List.nil_append, List.append_nil, List.length_cons, List.length_nil, List.filterMap_cons, List.filterMap_nil,
 Nat.reduceAdd, Nat.reduceSub, Nat.reduceLeDiff, Nat.reduceEqDiff, and_self, if_true, if_false, opAdd_int, opSub_int, opGt_int, opLt_int, opGe_int, opLe_int, opEq_int, opEq_str, opEq_bl, opNe_int, opNe_bl, opNe_str, bInt_int, bInt_bl, bAbs_int, truD_bl, truD_int, W_fLst, W_fTup, pow18, bLen_tup, bLen_lst, bTuple_lst, bTuple_tup, bList_lst, bList_tup]
      exact fin 0 cs S h1 h2 h3
    · have : ns.drop most ≠ [] := fun e => h (by rw [e]; rfl)
      have : ¬ ns.length ≤ most := fun h => this (List.drop_eq_nil_iff.mpr h)
      simp; omega
end AW

namespace AW
open PySem PySem.Spec PyProof.Rows L2

/-! ### loops by number -/
theorem W_forK {g : SemG} {s : SemS} {chk : Chk} {Q : Kn (Fl × Env)} {ds : List D} (I : Nat → Env → Sto → Prop) (hs : ∀ {k E S}, I k E S → stable chk S = true) (h0 : ∀ E S, I ds.length E S → Q (.nx, E) S)
    (h1 : ∀ k (hk : k < ds.length) E S, I k E S → W (g ds[k] E S) fun E' S' => W (s E' S') (kTurn (I (k + 1)) Q)) {E : Env} {S : Sto} (h : I 0 E S) : W (forLoop g s chk ds E S) Q := by
  refine W_loop (fun es E S => ∃ k, es = ds.drop k ∧ k ≤ ds.length ∧ I k E S) (fun ⟨_, _, _, h⟩ => hs h) (fun E S ⟨k, e, l, h⟩ => ?c1) (fun d es E S ⟨k, e, l, h⟩ => ?c2) _ _ _ ⟨0, rfl, Nat.zero_le _, h⟩
  case c1 =>
    have : ds.length ≤ k := List.drop_eq_nil_iff.mp e.symm
    have : k = ds.length := by omega
    subst this
    exact h0 E S h
  case c2 =>
    have hk : k < ds.length := by
      by_cases hk : k < ds.length
      · exact hk
      · rw [List.drop_of_length_le (by omega)] at e; cases e
    rw [List.drop_eq_getElem_cons hk] at e
    injection e with e1 e2
    subst e1 e2
    refine (h1 k hk E S h).mono fun E' S' h => h.mono fun p S' h => ?_
    obtain ⟨f, E'⟩ := p
    cases f with
    | nx => exact ⟨k + 1, rfl, hk, h⟩
    | ct => exact ⟨k + 1, rfl, hk, h⟩
    | bk => exact h
    | rt d => exact h
theorem W_lcK {step : D → Sto → M (Option D)} {chk : Chk} {Q : Kn (List D)} {ds : List D} (I : Nat → List D → Sto → Prop) (hs : ∀ {k acc S}, I k acc S → stable chk S = true) (h0 : ∀ acc S, I ds.length acc S → Q acc S)
    (h1 : ∀ k (hk : k < ds.length) acc S, I k acc S → W (step ds[k] S) fun o S' => I (k + 1) (match o with | some y => acc ++ [y] | none => acc) S') {S : Sto} (h : I 0 [] S) : W (lcLoop step chk ds [] S) Q := by
  refine W_lc (fun es acc S => ∃ k, es = ds.drop k ∧ k ≤ ds.length ∧ I k acc S) (fun ⟨_, _, _, h⟩ => hs h) (fun E S ⟨k, e, l, h⟩ => ?c1) (fun d es E S ⟨k, e, l, h⟩ => ?c2) _ _ _ ⟨0, rfl, Nat.zero_le _, h⟩
  case c1 =>
    have : ds.length ≤ k := List.drop_eq_nil_iff.mp e.symm
    have : k = ds.length := by omega
    subst this
    exact h0 E S h
  case c2 =>
    have hk : k < ds.length := by
      by_cases hk : k < ds.length
      · exact hk
      · rw [List.drop_of_length_le (by omega)] at e; cases e
    rw [List.drop_eq_getElem_cons hk] at e
    injection e with e1 e2
    subst e1 e2
    exact (h1 k hk E S h).mono fun o S' h => ⟨k + 1, rfl, hk, h⟩
theorem rangeD_at {lo : Int} {m k : Nat} (h : k < (rangeD lo m).length) : (rangeD lo m)[k] = .int (lo + (k : Nat)) := by simp [rangeD]
theorem opIx_in {q : LK} {ds : List D} {r : Int} {S : Sto} (h0 : 0 ≤ r) (h1 : r < ds.length) : ∃ d, d ∈ ds ∧ opIx (.lst q ds) (.int r) S = some (d, S) := by
  obtain ⟨m, rfl⟩ := Int.eq_ofNat_of_zero_le h0
  have hm : m < ds.length := by omega
  exact ⟨ds[m], List.getElem_mem _, opIx_lst (atD_nat (by simp [hm]))⟩
theorem bMax_2 {i j : Int} {S : Sto} : bMax [.int i, .int j] S = some (.int (if j > i then j else i), S) := rfl
theorem bw1 (b : Bool) : (-18446744073709551616 : Int) < (if b = true then 1 else 0) := by cases b <;> decide
theorem bw2 (b : Bool) : (if b = true then (1 : Int) else 0) < 18446744073709551616 := by cases b <;> decide
/-- what holds behind a drawing function: the box is good for n more, nothing old is other -/
structure Dr (i n : Nat) (S S' : Sto) : Prop where
  bx : Bx S' i n
  fr : Fr i S S'
theorem Dr.mono {i n m : Nat} {S S' : Sto} (h : Dr i n S S') (l : m ≤ n) : Dr i m S S' := ⟨h.bx.mono l, h.fr⟩
theorem Dr.trans {i n m : Nat} {S S' S'' : Sto} (h : Dr i n S S') (k : Dr i m S' S'') : Dr i m S S'' := ⟨k.bx, h.fr.trans k.fr⟩
theorem Dr.app {i n : Nat} {S S' T : Sto} (h : Dr i n S S') : Dr i n S (S' ++ T) := ⟨h.bx.app, h.fr.trans .app⟩
theorem Dr.refl {i n : Nat} {S : Sto} (h : Bx S i n) : Dr i n S S := ⟨h, .refl⟩
theorem Dr.above {i j n : Nat} {S S' : Sto} {x : CO} (h : Dr i n S S') (hi : i < S.length) (hj : S.length ≤ j) : Dr i n S (S'.set j x) := ⟨h.bx.set (by omega), h.fr.above hj⟩
theorem Dr.keep {i n j : Nat} {S S' : Sto} (h : Dr i n S S') (hj : j ≠ i) {x : CO} (e : S[j]? = some x) : S'[j]? = some x := by
  rw [h.fr.2 j (List.getElem?_eq_some_iff.mp e).1 hj]; exact e
theorem Dr.lt {i n : Nat} {S S' : Sto} (h : Dr i n S S') : S.length ≤ S'.length := h.fr.1
theorem take_run {take : OpN} (t : TakeS take) {S : Sto} {i n : Nat} {m : Int} {Q : Kn D} (hb : Bx S i (n + 1)) (h0 : 0 < m) (h1 : m < 1073741824) (q : ∀ (r : Int) (S' : Sto), 0 ≤ r → r < m → Dr i n S S' → S'.length = S.length → Q (.int r) S') : W (take [.ref i, .int m] S) Q :=
  (t S i n m hb h0 h1).mono fun d S' ⟨r, e, a, b, c, l, f⟩ => by subst e; exact q r S' a b ⟨c, f⟩ l
def ofSem (take : OpN) : SemS := (sRet (eBin opIx (eVar 1) (eCall take 2 0 2 [] [0, 1] (aCons (eVar 0) (aCons (eArgs bLen (aCons (eVar 1) aNil)) aNil)) aNil)))
theorem of_run {take : OpN} (t : TakeS take) {S : Sto} {i n : Nat} {q : LK} {ds : List D} {Q : Kn D} (hb : Bx S i (n + 1)) (h0 : 0 < ds.length) (h1 : ds.length < 1000000) (k : ∀ d S', d ∈ ds → Dr i n S S' → S'.length = S.length → Q d S') : W (body 2 (ofSem take) [.ref i, .lst q ds] S) Q := by
  unfold ofSem
  simp only [W_body, W_sSeq, W_sNx, W_sBk, W_sCt, W_sExpr, W_sRet, W_sRetN, W_sIf, W_sAsg, W_sPar, W_sAug, W_eC, W_eVar, W_eBin, W_eUn, W_eArgs, W_aNil, W_aCons, W_eAnd, W_eOr, W_eNot, W_eIf, W_eChain, W_tVal, W_tBl, W_tAnd, W_tOr, W_tNot, W_tTrue, W_oNone, W_oSome, W_eSl, W_eRev, W_eMethL, W_eCall, W_iSeq, W_iRange1, W_iRange2, W_iEnumS, W_iZipS, W_sFor, W_eComp, W_lcStep, W_gV, W_gUnpackVV, W_newF, W_newT, W_some,
 kBody_rt, kBody_nx, kSeq_nx, kSeq_rt, kSeq_bk, kSeq_ct, kExp_, kRet_, kIf_t, kIf_f, kAsg_V, kPar_, kAug_, kB1_, kB2_, kU_, kN_, kC1_, kC2_, kAnd_T, kAnd_F, kOr_T, kOr_F, kNot_B, kCh1_, kCh2_, kCh3_t, kCh3_f, kTV_B, kTB_B, kTA_t, kTA_f, kTO_t, kTO_f, kTN_, kOS_, kSl1_, kSl2_, kSl3_, kM2_, kK1_, kK2_, kSq_tup, kSq_lst, kSq_str, kEn_tup, kEn_lst, kZp_tup, kZp_lst, kFor_, kTurn_nx, kTurn_ct, kTurn_bk, kTurn_rt, kComp_, kLcT_t, kLcT_f,
 setAll, wipeE, pick, List.getElem?_cons_zero, List.getElem?_cons_succ, List.set_cons_zero, List.set_cons_succ, List.map_cons, List.map_nil, List.replicate_succ, List.replicate_zero, List.cons_append, List.nil_append, List.append_nil, List.length_cons, List.length_nil, List.filterMap_cons, List.filterMap_nil,
 Nat.reduceAdd, Nat.reduceSub, Nat.reduceLeDiff, Nat.reduceEqDiff, and_self, if_true, if_false, opAdd_int, opSub_int, opGt_int, opLt_int, opGe_int, opLe_int, opEq_int, opEq_str, opEq_bl, opNe_int, opNe_bl, opNe_str, bInt_int, bInt_bl, bAbs_int, truD_bl, truD_int, W_fLst, W_fTup, pow18, bLen_tup, bLen_lst, bTuple_lst, bTuple_tup, bList_lst, bList_tup]
  refine take_run t hb (by omega) (by omega) fun r S' h2 h3 h4 h5 => ?_
  obtain ⟨m, rfl⟩ := Int.eq_ofNat_of_zero_le h2
  have hm : m < ds.length := by omega
  have hat : atD ds ((m : Nat) : Int) = some ds[m] := atD_nat (by simp [hm])
  simp only [W_body, W_sSeq, W_sNx, W_sBk, W_sCt, W_sExpr, W_sRet, W_sRetN, W_sIf, W_sAsg, W_sPar, W_sAug, W_eC, W_eVar, W_eBin, W_eUn, W_eArgs, W_aNil, W_aCons, W_eAnd, W_eOr, W_eNot, W_eIf, W_eChain, W_tVal, W_tBl, W_tAnd, W_tOr, W_tNot, W_tTrue, W_oNone, W_oSome, W_eSl, W_eRev, W_eMethL, W_eCall, W_iSeq, W_iRange1, W_iRange2, W_iEnumS, W_iZipS, W_sFor, W_eComp, W_lcStep, W_gV, W_gUnpackVV, W_newF, W_newT, W_some,
 kBody_rt, kBody_nx, kSeq_nx, kSeq_rt, kSeq_bk, kSeq_ct, kExp_, kRet_, kIf_t, kIf_f, kAsg_V, kPar_, kAug_, kB1_, kB2_, kU_, kN_, kC1_, kC2_, kAnd_T, kAnd_F, kOr_T, kOr_F, kNot_B, kCh1_, kCh2_, kCh3_t, kCh3_f, kTV_B, kTB_B, kTA_t, kTA_f, kTO_t, kTO_f, kTN_, kOS_, kSl1_, kSl2_, kSl3_, kM2_, kK1_, kK2_, kSq_tup, kSq_lst, kSq_str, kEn_tup, kEn_lst, kZp_tup, kZp_lst, kFor_, kTurn_nx, kTurn_ct, kTurn_bk, kTurn_rt, kComp_, kLcT_t, kLcT_f,
 setAll, wipeE, pick, List.getElem?_cons_zero, List.getElem?_cons_succ, List.set_cons_zero, List.set_cons_succ, List.map_cons, List.map_nil, List.replicate_succ, List.replicate_zero, List.cons_append, List.nil_append, List.append_nil, List.length_cons, List.length_nil, List.filterMap_cons, List.filterMap_nil,
 Nat.reduceAdd, Nat.reduceSub, Nat.reduceLeDiff, Nat.reduceEqDiff, and_self, if_true, if_false, opAdd_int, opSub_int, opGt_int, opLt_int, opGe_int, opLe_int, opEq_int, opEq_str, opEq_bl, opNe_int, opNe_bl, opNe_str, bInt_int, bInt_bl, bAbs_int, truD_bl, truD_int, W_fLst, W_fTup, pow18, bLen_tup, bLen_lst, bTuple_lst, bTuple_tup, bList_lst, bList_tup, Int.ofNat_eq_natCast, opIx_lst hat]
  exact k _ _ (List.getElem_mem _) h4 h5
def someSem (take : OpN) : SemS := (sRet (eArgs bTuple (aCons (eComp false (iSeq (eVar 1)) (gV 3) (tBl (eBin opEq (eCall take 2 0 2 [] [0, 1] (aCons (eVar 0) (aCons (eVar 2) aNil)) aNil) (eC (D.int 0)))) (eVar 3) [3]) aNil)))
theorem some_run {take : OpN} (t : TakeS take) {S : Sto} {i n : Nat} {m : Int} {q : LK} {ks : List Str} {Q : Kn D} (hb : Bx S i (n + ks.length)) (h0 : 0 < m) (h1 : m < 1073741824) (hl : ks.length ≤ 1000000) (k : ∀ (ys : List Str) S', ys.Sublist ks → Dr i n S S' → S'.length = S.length → Q (.tup (ys.map .str)) S') : W (body 4 (someSem take) [.ref i, .lst q (ks.map .str), .int m] S) Q := by
  unfold someSem
  simp only [W_body, W_sSeq, W_sNx, W_sBk, W_sCt, W_sExpr, W_sRet, W_sRetN, W_sIf, W_sAsg, W_sPar, W_sAug, W_eC, W_eVar, W_eBin, W_eUn, W_eArgs, W_aNil, W_aCons, W_eAnd, W_eOr, W_eNot, W_eIf, W_eChain, W_tVal, W_tBl, W_tAnd, W_tOr, W_tNot, W_tTrue, W_oNone, W_oSome, W_eSl, W_eRev, W_eMethL, W_eCall, W_iSeq, W_iRange1, W_iRange2, W_iEnumS, W_iZipS, W_sFor, W_eComp, W_lcStep, W_gV, W_gUnpackVV, W_newF, W_newT, W_some,
 kBody_rt, kBody_nx, kSeq_nx, kSeq_rt, kSeq_bk, kSeq_ct, kExp_, kRet_, kIf_t, kIf_f, kAsg_V, kPar_, kAug_, kB1_, kB2_, kU_, kN_, kC1_, kC2_, kAnd_T, kAnd_F, kOr_T, kOr_F, kNot_B, kCh1_, kCh2_, kCh3_t, kCh3_f, kTV_B, kTB_B, kTA_t, kTA_f, kTO_t, kTO_f, kTN_, kOS_, kSl1_, kSl2_, kSl3_, kM2_, kK1_, kK2_, kSq_tup, kSq_lst, kSq_str, kEn_tup, kEn_lst, kZp_tup, kZp_lst, kFor_, kTurn_nx, kTurn_ct, kTurn_bk, kTurn_rt, kComp_, kLcT_t, kLcT_f,
 setAll, wipeE, pick, List.getElem?_cons_zero, List.getElem?_cons_succ, List.set_cons_zero, List.set_cons_succ, List.map_cons, List.map_nil, List.replicate_succ, List.replicate_zero, List.cons_append, List.nil_append, List.append_nil, List.length_cons, List.length_nil, List.filterMap_cons, List.filterMap_nil,
 Nat.reduceAdd, Nat.reduceSub, Nat.reduceLeDiff, Nat.reduceEqDiff, and_self, if_true, if_false, opAdd_int, opSub_int, opGt_int, opLt_int, opGe_int, opLe_int, opEq_int, opEq_str, opEq_bl, opNe_int, opNe_bl, opNe_str, bInt_int, bInt_bl, bAbs_int, truD_bl, truD_int, W_fLst, W_fTup, pow18, bLen_tup, bLen_lst, bTuple_lst, bTuple_tup, bList_lst, bList_tup]
  refine ⟨by rw [List.length_map]; exact hl, ?_⟩
  refine W_lc (fun ds acc S' => ∃ zs ys : List Str, ds = zs.map .str ∧ acc = ys.map .str ∧ (ys ++ zs).Sublist ks ∧ Dr i (n + zs.length) S S' ∧ S'.length = S.length) (fun _ => rfl) ?_ ?_ _ _ _ ⟨ks, [], rfl, rfl, by simp, .refl hb, rfl⟩
  · rintro acc S' ⟨zs, ys, e, rfl, h2, h3, h4⟩
    cases zs with
    | cons _ _ => cases e
    | nil =>
      exact k ys S' (by simpa using h2) (by simpa using h3) h4
  · rintro d ds acc S' ⟨zs, ys, e, rfl, h2, h3, h4⟩
    cases zs with
    | nil => cases e
    | cons z zs =>
      rw [List.map_cons] at e
      injection e with e1 e2
      subst e1 e2
      simp only [W_body, W_sSeq, W_sNx, W_sBk, W_sCt, W_sExpr, W_sRet, W_sRetN, W_sIf, W_sAsg, W_sPar, W_sAug, W_eC, W_eVar, W_eBin, W_eUn, W_eArgs, W_aNil, W_aCons, W_eAnd, W_eOr, W_eNot, W_eIf, W_eChain, W_tVal, W_tBl, W_tAnd, W_tOr, W_tNot, W_tTrue, W_oNone, W_oSome, W_eSl, W_eRev, W_eMethL, W_eCall, W_iSeq, W_iRange1, W_iRange2, W_iEnumS, W_iZipS, W_sFor, W_eComp, W_lcStep, W_gV, W_gUnpackVV, W_newF, W_newT, W_some,
 kBody_rt, kBody_nx, kSeq_nx, kSeq_rt, kSeq_bk, kSeq_ct, kExp_, kRet_, kIf_t, kIf_f, kAsg_V, kPar_, kAug_, kB1_, kB2_, kU_, kN_, kC1_, kC2_, kAnd_T, kAnd_F, kOr_T, kOr_F, kNot_B, kCh1_, kCh2_, kCh3_t, kCh3_f, kTV_B, kTB_B, kTA_t, kTA_f, kTO_t, kTO_f, kTN_, kOS_, kSl1_, kSl2_, kSl3_, kM2_, kK1_, kK2_, kSq_tup, kSq_lst, kSq_str, kEn_tup, kEn_lst, kZp_tup, kZp_lst, kFor_, kTurn_nx, kTurn_ct, kTurn_bk, kTurn_rt, kComp_, kLcT_t, kLcT_f,
 setAll, wipeE, pick, List.getElem?_cons_zero, List.getElem?_cons_succ, List.set_cons_zero, List.set_cons_succ, List.map_cons, List.map_nil, List.replicate_succ, List.replicate_zero, List.cons_append, List.nil_append, List.append_nil, List.length_cons, List.length_nil, List.filterMap_cons, List.filterMap_nil,
 Nat.reduceAdd, Nat.reduceSub, Nat.reduceLeDiff, Nat.reduceEqDiff, and_self, if_true, if_false, opAdd_int, opSub_int, opGt_int, opLt_int, opGe_int, opLe_int, opEq_int, opEq_str, opEq_bl, opNe_int, opNe_bl, opNe_str, bInt_int, bInt_bl, bAbs_int, truD_bl, truD_int, W_fLst, W_fTup, pow18, bLen_tup, bLen_lst, bTuple_lst, bTuple_tup, bList_lst, bList_tup]
      have hb' : Bx S' i (n + zs.length + 1) := h3.bx.mono (by simp; omega)
      refine take_run t hb' h0 h1 fun r S2 g1 g2 g3 g4 => ?_
      simp only [W_body, W_sSeq, W_sNx, W_sBk, W_sCt, W_sExpr, W_sRet, W_sRetN, W_sIf, W_sAsg, W_sPar, W_sAug, W_eC, W_eVar, W_eBin, W_eUn, W_eArgs, W_aNil, W_aCons, W_eAnd, W_eOr, W_eNot, W_eIf, W_eChain, W_tVal, W_tBl, W_tAnd, W_tOr, W_tNot, W_tTrue, W_oNone, W_oSome, W_eSl, W_eRev, W_eMethL, W_eCall, W_iSeq, W_iRange1, W_iRange2, W_iEnumS, W_iZipS, W_sFor, W_eComp, W_lcStep, W_gV, W_gUnpackVV, W_newF, W_newT, W_some,
 kBody_rt, kBody_nx, kSeq_nx, kSeq_rt, kSeq_bk, kSeq_ct, kExp_, kRet_, kIf_t, kIf_f, kAsg_V, kPar_, kAug_, kB1_, kB2_, kU_, kN_, kC1_, kC2_, kAnd_T, kAnd_F, kOr_T, kOr_F, kNot_B, kCh1_, kCh2_, kCh3_t, kCh3_f, kTV_B, kTB_B, kTA_t, kTA_f, kTO_t, kTO_f, kTN_, kOS_, kSl1_, kSl2_, kSl3_, kM2_, kK1_, kK2_, kSq_tup, kSq_lst, kSq_str, kEn_tup, kEn_lst, kZp_tup, kZp_lst, kFor_, kTurn_nx, kTurn_ct, kTurn_bk, kTurn_rt, kComp_, kLcT_t, kLcT_f,
 setAll, wipeE, pick, List.getElem?_cons_zero, List.getElem?_cons_succ, List.set_cons_zero, List.set_cons_succ, List.map_cons, List.map_nil, List.replicate_succ, List.replicate_zero, List.cons_append, List.nil_append, List.append_nil, List.length_cons, List.length_nil, List.filterMap_cons, List.filterMap_nil,
 Nat.reduceAdd, Nat.reduceSub, Nat.reduceLeDiff, Nat.reduceEqDiff, and_self, if_true, if_false, opAdd_int, opSub_int, opGt_int, opLt_int, opGe_int, opLe_int, opEq_int, opEq_str, opEq_bl, opNe_int, opNe_bl, opNe_str, bInt_int, bInt_bl, bAbs_int, truD_bl, truD_int, W_fLst, W_fTup, pow18, bLen_tup, bLen_lst, bTuple_lst, bTuple_tup, bList_lst, bList_tup]
      refine kLcT_any (fun _ => ?_) fun _ => ?_
      · simp only [W_body, W_sSeq, W_sNx, W_sBk, W_sCt, W_sExpr, W_sRet, W_sRetN, W_sIf, W_sAsg, W_sPar, W_sAug, W_eC, W_eVar, W_eBin, W_eUn, W_eArgs, W_aNil, W_aCons, W_eAnd, W_eOr, W_eNot, W_eIf, W_eChain, W_tVal, W_tBl, W_tAnd, W_tOr, W_tNot, W_tTrue, W_oNone, W_oSome, W_eSl, W_eRev, W_eMethL, W_eCall, W_iSeq, W_iRange1, W_iRange2, W_iEnumS, W_iZipS, W_sFor, W_eComp, W_lcStep, W_gV, W_gUnpackVV, W_newF, W_newT, W_some,
 kBody_rt, kBody_nx, kSeq_nx, kSeq_rt, kSeq_bk, kSeq_ct, kExp_, kRet_, kIf_t, kIf_f, kAsg_V, kPar_, kAug_, kB1_, kB2_, kU_, kN_, kC1_, kC2_, kAnd_T, kAnd_F, kOr_T, kOr_F, kNot_B, kCh1_, kCh2_, kCh3_t, kCh3_f, kTV_B, kTB_B, kTA_t, kTA_f, kTO_t, kTO_f, kTN_, kOS_, kSl1_, kSl2_, kSl3_, kM2_, kK1_, kK2_, kSq_tup, kSq_lst, kSq_str, kEn_tup, kEn_lst, kZp_tup, kZp_lst, kFor_, kTurn_nx, kTurn_ct, kTurn_bk, kTurn_rt, kComp_, kLcT_t, kLcT_f,
 setAll, wipeE, pick, List.getElem?_cons_zero, List.getElem?_cons_succ, List.set_cons_zero, List.set_cons_succ, List.map_cons, List.map_nil, List.replicate_succ, List.replicate_zero, List.cons_append, List.nil_append, List.append_nil, List.length_cons, List.length_nil, List.filterMap_cons, List.filterMap_nil,
 Nat.reduceAdd, Nat.reduceSub, Nat.reduceLeDiff, Nat.reduceEqDiff, and_self, if_true, if_false, opAdd_int, opSub_int, opGt_int, opLt_int, opGe_int, opLe_int, opEq_int, opEq_str, opEq_bl, opNe_int, opNe_bl, opNe_str, bInt_int, bInt_bl, bAbs_int, truD_bl, truD_int, W_fLst, W_fTup, pow18, bLen_tup, bLen_lst, bTuple_lst, bTuple_tup, bList_lst, bList_tup]
        exact ⟨zs, ys ++ [z], rfl, by simp, by simpa using h2, h3.trans g3, by omega⟩
      · exact ⟨zs, ys, rfl, rfl, List.Sublist.trans (List.Sublist.append_left (List.sublist_cons_self z zs) ys) h2, h3.trans g3, by omega⟩
/-- the names that keys are drawn from -/
def eight : List Str := [Str.ofString "a", Str.ofString "aa", Str.ofString "ab", Str.ofString "b", Str.ofString "key", Str.ofString "put", Str.ofString "x", Str.ofString "zzzzzzzz"]
def poolSem (take : OpN) : SemS := (sSeq (sPar [2, 3] (aCons (eArgs (fLst true) (aCons (eC (D.str (Str.ofString "a"))) (aCons (eC (D.str (Str.ofString "aa"))) (aCons (eC (D.str (Str.ofString "ab"))) (aCons (eC (D.str (Str.ofString "b"))) (aCons (eC (D.str (Str.ofString "key"))) (aCons (eC (D.str (Str.ofString "put"))) (aCons (eC (D.str (Str.ofString "x"))) (aCons (eC (D.str (Str.ofString "zzzzzzzz"))) aNil))))))))) (aCons (eArgs (fLst true) aNil) aNil))) (sSeq (sFor (iRange1 (aCons (eVar 1) aNil)) (gV 4) (sExpr (eMethL mAppend (eVar 3) (aCons (eMethL mPop1 (eVar 2) (aCons (eCall take 2 0 2 [] [0, 1] (aCons (eVar 0) (aCons (eArgs bLen (aCons (eVar 2) aNil)) aNil)) aNil) aNil)) aNil)))) (sRet (eArgs (bSorted false) (aCons (eVar 3) aNil)))))
theorem mPop1_run {i : Nat} {S : Sto} {es : List D} {m : Nat} {y : D} (h : S[i]? = some (.lst es)) (hm : es[m]? = some y) (hl : es.length < 1000000) : mPop1 (.ref i) [.int (m : Int)] S = some (y, S.set i (.lst (es.eraseIdx m))) := by
  have hm' := (List.getElem?_eq_some_iff.mp hm).1
  unfold mPop1
  simp only [h]
  rw [if_pos ⟨by omega, by omega, by omega⟩]
  simp only [Int.toNat_natCast, hm]
theorem intsOf_str : ∀ {ks : List Str}, ks ≠ [] → intsOf (ks.map D.str) = none
  | [], h => (h rfl).elim
  | _ :: _, _ => rfl
theorem strsOf_map : ∀ ks : List Str, strsOf (ks.map D.str) = some ks
  | [] => rfl
  | k :: ks => by simp only [List.map_cons, strsOf, strsOf_map ks]
theorem insS_len {x : Str} : ∀ {l : List Str}, (insS x l).length = l.length + 1
  | [] => rfl
  | y :: l => by
    unfold insS
    split
    · rfl
    · rw [List.length_cons, insS_len, List.length_cons]
theorem sortS_len : ∀ {l : List Str}, (sortS l).length = l.length
  | [] => rfl
  | x :: l => by unfold sortS; rw [insS_len, sortS_len, List.length_cons]
theorem bSorted_strs {mk : Bool} {i : Nat} {S : Sto} {ks : List Str} (h : S[i]? = some (.lst (ks.map .str))) (hl : ks.length < 64) : bSorted mk [.ref i] S = newL mk ((sortS ks).map .str) S := by
  cases ks with
  | nil => simp only [bSorted, bSortedI, listInts, readS, h, Option.bind_some, List.map_nil, intsOf]; cases mk <;> rfl
  | cons k ks =>
    simp only [bSorted, bSortedI, bSortedS, listInts, listStrs, readS, h, Option.bind_some, intsOf_str (ks := k :: ks) (by simp), strsOf_map, if_pos hl]
    cases mk <;> rfl
theorem eraseIdx_map {α β : Type} {f : α → β} : ∀ (l : List α) (i : Nat), (l.map f).eraseIdx i = (l.eraseIdx i).map f
  | [], _ => rfl
  | _ :: _, 0 => rfl
  | x :: l, i + 1 => by simp only [List.map_cons, List.eraseIdx_cons_succ, eraseIdx_map l i]
theorem perm_erase {α : Type} : ∀ {l : List α} {i : Nat} (h : i < l.length), ([l[i]] ++ l.eraseIdx i).Perm l
  | x :: l, 0, _ => .refl _
  | x :: l, i + 1, h => by
    have hl : i < l.length := by simpa using h
    have := perm_erase hl
    simp only [List.getElem_cons_succ, List.eraseIdx_cons_succ, List.cons_append, List.nil_append] at this ⊢
    exact (List.Perm.swap x l[i] (l.eraseIdx i)).trans (.cons x this)
theorem pool_run {take : OpN} (t : TakeS take) {S : Sto} {i n m : Nat} {Q : Kn D} (hb : Bx S i (n + m)) (hm : m ≤ 8) (k : ∀ (ks : List Str) S', (∃ ys zs, ks = sortS ys ∧ (ys ++ zs).Perm eight ∧ ys.length = m) → Dr i n S S' → Q (.lst .frz (ks.map .str)) S') : W (body 5 (poolSem take) [.ref i, .int m] S) Q := by
  unfold poolSem
  simp only [W_body, W_sSeq, W_sNx, W_sBk, W_sCt, W_sExpr, W_sRet, W_sRetN, W_sIf, W_sAsg, W_sPar, W_sAug, W_eC, W_eVar, W_eBin, W_eUn, W_eArgs, W_aNil, W_aCons, W_eAnd, W_eOr, W_eNot, W_eIf, W_eChain, W_tVal, W_tBl, W_tAnd, W_tOr, W_tNot, W_tTrue, W_oNone, W_oSome, W_eSl, W_eRev, W_eMethL, W_eCall, W_iSeq, W_iRange1, W_iRange2, W_iEnumS, W_iZipS, W_sFor, W_eComp, W_lcStep, W_gV, W_gUnpackVV, W_newF, W_newT, W_some,
 kBody_rt, kBody_nx, kSeq_nx, kSeq_rt, kSeq_bk, kSeq_ct, kExp_, kRet_, kIf_t, kIf_f, kAsg_V, kPar_, kAug_, kB1_, kB2_, kU_, kN_, kC1_, kC2_, kAnd_T, kAnd_F, kOr_T, kOr_F, kNot_B, kCh1_, kCh2_, kCh3_t, kCh3_f, kTV_B, kTB_B, kTA_t, kTA_f, kTO_t, kTO_f, kTN_, kOS_, kSl1_, kSl2_, kSl3_, kM2_, kK1_, kK2_, kSq_tup, kSq_lst, kSq_str, kEn_tup, kEn_lst, kZp_tup, kZp_lst, kFor_, kTurn_nx, kTurn_ct, kTurn_bk, kTurn_rt, kComp_, kLcT_t, kLcT_f,
 setAll, wipeE, pick, List.getElem?_cons_zero, List.getElem?_cons_succ, List.set_cons_zero, List.set_cons_succ, List.map_cons, List.map_nil, List.replicate_succ, List.replicate_zero, List.cons_append, List.nil_append, List.append_nil, List.length_cons, List.length_nil, List.filterMap_cons, List.filterMap_nil,
 Nat.reduceAdd, Nat.reduceSub, Nat.reduceLeDiff, Nat.reduceEqDiff, and_self, if_true, if_false, opAdd_int, opSub_int, opGt_int, opLt_int, opGe_int, opLe_int, opEq_int, opEq_str, opEq_bl, opNe_int, opNe_bl, opNe_str, bInt_int, bInt_bl, bAbs_int, truD_bl, truD_int, W_fLst, W_fTup, pow18, bLen_tup, bLen_lst, bTuple_lst, bTuple_tup, bList_lst, bList_tup]
  have hi := hb.lt
  rw [kR1_ (by omega)]
  simp only [W_body, W_sSeq, W_sNx, W_sBk, W_sCt, W_sExpr, W_sRet, W_sRetN, W_sIf, W_sAsg, W_sPar, W_sAug, W_eC, W_eVar, W_eBin, W_eUn, W_eArgs, W_aNil, W_aCons, W_eAnd, W_eOr, W_eNot, W_eIf, W_eChain, W_tVal, W_tBl, W_tAnd, W_tOr, W_tNot, W_tTrue, W_oNone, W_oSome, W_eSl, W_eRev, W_eMethL, W_eCall, W_iSeq, W_iRange1, W_iRange2, W_iEnumS, W_iZipS, W_sFor, W_eComp, W_lcStep, W_gV, W_gUnpackVV, W_newF, W_newT, W_some,
 kBody_rt, kBody_nx, kSeq_nx, kSeq_rt, kSeq_bk, kSeq_ct, kExp_, kRet_, kIf_t, kIf_f, kAsg_V, kPar_, kAug_, kB1_, kB2_, kU_, kN_, kC1_, kC2_, kAnd_T, kAnd_F, kOr_T, kOr_F, kNot_B, kCh1_, kCh2_, kCh3_t, kCh3_f, kTV_B, kTB_B, kTA_t, kTA_f, kTO_t, kTO_f, kTN_, kOS_, kSl1_, kSl2_, kSl3_, kM2_, kK1_, kK2_, kSq_tup, kSq_lst, kSq_str, kEn_tup, kEn_lst, kZp_tup, kZp_lst, kFor_, kTurn_nx, kTurn_ct, kTurn_bk, kTurn_rt, kComp_, kLcT_t, kLcT_f,
 setAll, wipeE, pick, List.getElem?_cons_zero, List.getElem?_cons_succ, List.set_cons_zero, List.set_cons_succ, List.map_cons, List.map_nil, List.replicate_succ, List.replicate_zero, List.cons_append, List.nil_append, List.append_nil, List.length_cons, List.length_nil, List.filterMap_cons, List.filterMap_nil,
 Nat.reduceAdd, Nat.reduceSub, Nat.reduceLeDiff, Nat.reduceEqDiff, and_self, if_true, if_false, opAdd_int, opSub_int, opGt_int, opLt_int, opGe_int, opLe_int, opEq_int, opEq_str, opEq_bl, opNe_int, opNe_bl, opNe_str, bInt_int, bInt_bl, bAbs_int, truD_bl, truD_int, W_fLst, W_fTup, pow18, bLen_tup, bLen_lst, bTuple_lst, bTuple_tup, bList_lst, bList_tup]
  refine W_loop (fun ds E S' => ∃ (j : Nat) (zs ys : List Str) (u : Option D), ds.length = j ∧ (∀ d ∈ ds, ∃ x : Int, d = .int x) ∧ E = [some (.ref i), some (.int m), some (.ref S.length), some (.ref (S.length + 1)), u] ∧ S'[S.length]? = some (.lst (zs.map .str)) ∧ S'[S.length + 1]? = some (.lst (ys.map .str)) ∧ (ys ++ zs).Perm eight ∧ ys.length + j = m ∧ Dr i (n + j) S S') (fun _ => rfl) ?_ ?_ _ _ _ ?_
  · rintro E S' ⟨j, zs, ys, u, h1, _, rfl, h2, h3, h4, h5, h6⟩
    simp only [List.length_nil] at h1
    subst h1
    simp only [W_body, W_sSeq, W_sNx, W_sBk, W_sCt, W_sExpr, W_sRet, W_sRetN, W_sIf, W_sAsg, W_sPar, W_sAug, W_eC, W_eVar, W_eBin, W_eUn, W_eArgs, W_aNil, W_aCons, W_eAnd, W_eOr, W_eNot, W_eIf, W_eChain, W_tVal, W_tBl, W_tAnd, W_tOr, W_tNot, W_tTrue, W_oNone, W_oSome, W_eSl, W_eRev, W_eMethL, W_eCall, W_iSeq, W_iRange1, W_iRange2, W_iEnumS, W_iZipS, W_sFor, W_eComp, W_lcStep, W_gV, W_gUnpackVV, W_newF, W_newT, W_some,
 kBody_rt, kBody_nx, kSeq_nx, kSeq_rt, kSeq_bk, kSeq_ct, kExp_, kRet_, kIf_t, kIf_f, kAsg_V, kPar_, kAug_, kB1_, kB2_, kU_, kN_, kC1_, kC2_, kAnd_T, kAnd_F, kOr_T, kOr_F, kNot_B, kCh1_, kCh2_, kCh3_t, kCh3_f, kTV_B, kTB_B, kTA_t, kTA_f, kTO_t, kTO_f, kTN_, kOS_, kSl1_, kSl2_, kSl3_, kM2_, kK1_, kK2_, kSq_tup, kSq_lst, kSq_str, kEn_tup, kEn_lst, kZp_tup, kZp_lst, kFor_, kTurn_nx, kTurn_ct, kTurn_bk, kTurn_rt, kComp_, kLcT_t, kLcT_f,
 setAll, wipeE, pick, List.getElem?_cons_zero, List.getElem?_cons_succ, List.set_cons_zero, List.set_cons_succ, List.map_cons, List.map_nil, List.replicate_succ, List.replicate_zero, List.cons_append, List.nil_append, List.append_nil, List.length_cons, List.length_nil, List.filterMap_cons, List.filterMap_nil,
 Nat.reduceAdd, Nat.reduceSub, Nat.reduceLeDiff, Nat.reduceEqDiff, and_self, if_true, if_false, opAdd_int, opSub_int, opGt_int, opLt_int, opGe_int, opLe_int, opEq_int, opEq_str, opEq_bl, opNe_int, opNe_bl, opNe_str, bInt_int, bInt_bl, bAbs_int, truD_bl, truD_int, W_fLst, W_fTup, pow18, bLen_tup, bLen_lst, bTuple_lst, bTuple_tup, bList_lst, bList_tup]
    rw [bSorted_strs h3 (by omega)]
    simp only [W_body, W_sSeq, W_sNx, W_sBk, W_sCt, W_sExpr, W_sRet, W_sRetN, W_sIf, W_sAsg, W_sPar, W_sAug, W_eC, W_eVar, W_eBin, W_eUn, W_eArgs, W_aNil, W_aCons, W_eAnd, W_eOr, W_eNot, W_eIf, W_eChain, W_tVal, W_tBl, W_tAnd, W_tOr, W_tNot, W_tTrue, W_oNone, W_oSome, W_eSl, W_eRev, W_eMethL, W_eCall, W_iSeq, W_iRange1, W_iRange2, W_iEnumS, W_iZipS, W_sFor, W_eComp, W_lcStep, W_gV, W_gUnpackVV, W_newF, W_newT, W_some,
 kBody_rt, kBody_nx, kSeq_nx, kSeq_rt, kSeq_bk, kSeq_ct, kExp_, kRet_, kIf_t, kIf_f, kAsg_V, kPar_, kAug_, kB1_, kB2_, kU_, kN_, kC1_, kC2_, kAnd_T, kAnd_F, kOr_T, kOr_F, kNot_B, kCh1_, kCh2_, kCh3_t, kCh3_f, kTV_B, kTB_B, kTA_t, kTA_f, kTO_t, kTO_f, kTN_, kOS_, kSl1_, kSl2_, kSl3_, kM2_, kK1_, kK2_, kSq_tup, kSq_lst, kSq_str, kEn_tup, kEn_lst, kZp_tup, kZp_lst, kFor_, kTurn_nx, kTurn_ct, kTurn_bk, kTurn_rt, kComp_, kLcT_t, kLcT_f,
 setAll, wipeE, pick, List.getElem?_cons_zero, List.getElem?_cons_succ, List.set_cons_zero, List.set_cons_succ, List.map_cons, List.map_nil, List.replicate_succ, List.replicate_zero, List.cons_append, List.nil_append, List.append_nil, List.length_cons, List.length_nil, List.filterMap_cons, List.filterMap_nil,
 Nat.reduceAdd, Nat.reduceSub, Nat.reduceLeDiff, Nat.reduceEqDiff, and_self, if_true, if_false, opAdd_int, opSub_int, opGt_int, opLt_int, opGe_int, opLe_int, opEq_int, opEq_str, opEq_bl, opNe_int, opNe_bl, opNe_str, bInt_int, bInt_bl, bAbs_int, truD_bl, truD_int, W_fLst, W_fTup, pow18, bLen_tup, bLen_lst, bTuple_lst, bTuple_tup, bList_lst, bList_tup]
    exact k _ _ ⟨ys, zs, rfl, h4, by omega⟩ h6
  · rintro d ds E S' ⟨j, zs, ys, u, h1, hd, rfl, h2, h3, h4, h5, h6⟩
    obtain ⟨x, rfl⟩ := hd d List.mem_cons_self
    simp only [List.length_cons] at h1
    subst h1
    have hlen := h4.length_eq
    have e8 : eight.length = 8 := rfl
    rw [List.length_append, e8] at hlen
    have l1 := (List.getElem?_eq_some_iff.mp h2).1
    have l2 := (List.getElem?_eq_some_iff.mp h3).1
    simp only [W_body, W_sSeq, W_sNx, W_sBk, W_sCt, W_sExpr, W_sRet, W_sRetN, W_sIf, W_sAsg, W_sPar, W_sAug, W_eC, W_eVar, W_eBin, W_eUn, W_eArgs, W_aNil, W_aCons, W_eAnd, W_eOr, W_eNot, W_eIf, W_eChain, W_tVal, W_tBl, W_tAnd, W_tOr, W_tNot, W_tTrue, W_oNone, W_oSome, W_eSl, W_eRev, W_eMethL, W_eCall, W_iSeq, W_iRange1, W_iRange2, W_iEnumS, W_iZipS, W_sFor, W_eComp, W_lcStep, W_gV, W_gUnpackVV, W_newF, W_newT, W_some,
 kBody_rt, kBody_nx, kSeq_nx, kSeq_rt, kSeq_bk, kSeq_ct, kExp_, kRet_, kIf_t, kIf_f, kAsg_V, kPar_, kAug_, kB1_, kB2_, kU_, kN_, kC1_, kC2_, kAnd_T, kAnd_F, kOr_T, kOr_F, kNot_B, kCh1_, kCh2_, kCh3_t, kCh3_f, kTV_B, kTB_B, kTA_t, kTA_f, kTO_t, kTO_f, kTN_, kOS_, kSl1_, kSl2_, kSl3_, kM2_, kK1_, kK2_, kSq_tup, kSq_lst, kSq_str, kEn_tup, kEn_lst, kZp_tup, kZp_lst, kFor_, kTurn_nx, kTurn_ct, kTurn_bk, kTurn_rt, kComp_, kLcT_t, kLcT_f,
 setAll, wipeE, pick, List.getElem?_cons_zero, List.getElem?_cons_succ, List.set_cons_zero, List.set_cons_succ, List.map_cons, List.map_nil, List.replicate_succ, List.replicate_zero, List.cons_append, List.nil_append, List.append_nil, List.length_cons, List.length_nil, List.filterMap_cons, List.filterMap_nil,
 Nat.reduceAdd, Nat.reduceSub, Nat.reduceLeDiff, Nat.reduceEqDiff, and_self, if_true, if_false, opAdd_int, opSub_int, opGt_int, opLt_int, opGe_int, opLe_int, opEq_int, opEq_str, opEq_bl, opNe_int, opNe_bl, opNe_str, bInt_int, bInt_bl, bAbs_int, truD_bl, truD_int, W_fLst, W_fTup, pow18, bLen_tup, bLen_lst, bTuple_lst, bTuple_tup, bList_lst, bList_tup, kM1_ref h3, kM1_ref h2, bLen_ref h2, List.length_map]
    refine take_run t (n := n + ds.length) (h6.bx.mono (by omega)) (by omega) (by omega) fun r S2 g1 g2 g3 g4 => ?_
    obtain ⟨a, rfl⟩ := Int.eq_ofNat_of_zero_le g1
    have ha : a < zs.length := by omega
    have h2' := g3.keep (by omega) h2
    have h3' := g3.keep (by omega) h3
    simp only [W_body, W_sSeq, W_sNx, W_sBk, W_sCt, W_sExpr, W_sRet, W_sRetN, W_sIf, W_sAsg, W_sPar, W_sAug, W_eC, W_eVar, W_eBin, W_eUn, W_eArgs, W_aNil, W_aCons, W_eAnd, W_eOr, W_eNot, W_eIf, W_eChain, W_tVal, W_tBl, W_tAnd, W_tOr, W_tNot, W_tTrue, W_oNone, W_oSome, W_eSl, W_eRev, W_eMethL, W_eCall, W_iSeq, W_iRange1, W_iRange2, W_iEnumS, W_iZipS, W_sFor, W_eComp, W_lcStep, W_gV, W_gUnpackVV, W_newF, W_newT, W_some,
 kBody_rt, kBody_nx, kSeq_nx, kSeq_rt, kSeq_bk, kSeq_ct, kExp_, kRet_, kIf_t, kIf_f, kAsg_V, kPar_, kAug_, kB1_, kB2_, kU_, kN_, kC1_, kC2_, kAnd_T, kAnd_F, kOr_T, kOr_F, kNot_B, kCh1_, kCh2_, kCh3_t, kCh3_f, kTV_B, kTB_B, kTA_t, kTA_f, kTO_t, kTO_f, kTN_, kOS_, kSl1_, kSl2_, kSl3_, kM2_, kK1_, kK2_, kSq_tup, kSq_lst, kSq_str, kEn_tup, kEn_lst, kZp_tup, kZp_lst, kFor_, kTurn_nx, kTurn_ct, kTurn_bk, kTurn_rt, kComp_, kLcT_t, kLcT_f,
 setAll, wipeE, pick, List.getElem?_cons_zero, List.getElem?_cons_succ, List.set_cons_zero, List.set_cons_succ, List.map_cons, List.map_nil, List.replicate_succ, List.replicate_zero, List.cons_append, List.nil_append, List.append_nil, List.length_cons, List.length_nil, List.filterMap_cons, List.filterMap_nil,
 Nat.reduceAdd, Nat.reduceSub, Nat.reduceLeDiff, Nat.reduceEqDiff, and_self, if_true, if_false, opAdd_int, opSub_int, opGt_int, opLt_int, opGe_int, opLe_int, opEq_int, opEq_str, opEq_bl, opNe_int, opNe_bl, opNe_str, bInt_int, bInt_bl, bAbs_int, truD_bl, truD_int, W_fLst, W_fTup, pow18, bLen_tup, bLen_lst, bTuple_lst, bTuple_tup, bList_lst, bList_tup]
    rw [mPop1_run h2' (y := .str zs[a]) (by simp [ha]) (by simp; omega)]
    simp only [W_body, W_sSeq, W_sNx, W_sBk, W_sCt, W_sExpr, W_sRet, W_sRetN, W_sIf, W_sAsg, W_sPar, W_sAug, W_eC, W_eVar, W_eBin, W_eUn, W_eArgs, W_aNil, W_aCons, W_eAnd, W_eOr, W_eNot, W_eIf, W_eChain, W_tVal, W_tBl, W_tAnd, W_tOr, W_tNot, W_tTrue, W_oNone, W_oSome, W_eSl, W_eRev, W_eMethL, W_eCall, W_iSeq, W_iRange1, W_iRange2, W_iEnumS, W_iZipS, W_sFor, W_eComp, W_lcStep, W_gV, W_gUnpackVV, W_newF, W_newT, W_some,
 kBody_rt, kBody_nx, kSeq_nx, kSeq_rt, kSeq_bk, kSeq_ct, kExp_, kRet_, kIf_t, kIf_f, kAsg_V, kPar_, kAug_, kB1_, kB2_, kU_, kN_, kC1_, kC2_, kAnd_T, kAnd_F, kOr_T, kOr_F, kNot_B, kCh1_, kCh2_, kCh3_t, kCh3_f, kTV_B, kTB_B, kTA_t, kTA_f, kTO_t, kTO_f, kTN_, kOS_, kSl1_, kSl2_, kSl3_, kM2_, kK1_, kK2_, kSq_tup, kSq_lst, kSq_str, kEn_tup, kEn_lst, kZp_tup, kZp_lst, kFor_, kTurn_nx, kTurn_ct, kTurn_bk, kTurn_rt, kComp_, kLcT_t, kLcT_f,
 setAll, wipeE, pick, List.getElem?_cons_zero, List.getElem?_cons_succ, List.set_cons_zero, List.set_cons_succ, List.map_cons, List.map_nil, List.replicate_succ, List.replicate_zero, List.cons_append, List.nil_append, List.append_nil, List.length_cons, List.length_nil, List.filterMap_cons, List.filterMap_nil,
 Nat.reduceAdd, Nat.reduceSub, Nat.reduceLeDiff, Nat.reduceEqDiff, and_self, if_true, if_false, opAdd_int, opSub_int, opGt_int, opLt_int, opGe_int, opLe_int, opEq_int, opEq_str, opEq_bl, opNe_int, opNe_bl, opNe_str, bInt_int, bInt_bl, bAbs_int, truD_bl, truD_int, W_fLst, W_fTup, pow18, bLen_tup, bLen_lst, bTuple_lst, bTuple_tup, bList_lst, bList_tup]
    have h3'' : (S2.set S.length (.lst ((zs.map D.str).eraseIdx a)))[S.length + 1]? = some (.lst (ys.map .str)) := by rw [List.getElem?_set_ne (by omega)]; exact h3'
    rw [mAppend_run h3'' (by simp; omega)]
    simp only [W_body, W_sSeq, W_sNx, W_sBk, W_sCt, W_sExpr, W_sRet, W_sRetN, W_sIf, W_sAsg, W_sPar, W_sAug, W_eC, W_eVar, W_eBin, W_eUn, W_eArgs, W_aNil, W_aCons, W_eAnd, W_eOr, W_eNot, W_eIf, W_eChain, W_tVal, W_tBl, W_tAnd, W_tOr, W_tNot, W_tTrue, W_oNone, W_oSome, W_eSl, W_eRev, W_eMethL, W_eCall, W_iSeq, W_iRange1, W_iRange2, W_iEnumS, W_iZipS, W_sFor, W_eComp, W_lcStep, W_gV, W_gUnpackVV, W_newF, W_newT, W_some,
 kBody_rt, kBody_nx, kSeq_nx, kSeq_rt, kSeq_bk, kSeq_ct, kExp_, kRet_, kIf_t, kIf_f, kAsg_V, kPar_, kAug_, kB1_, kB2_, kU_, kN_, kC1_, kC2_, kAnd_T, kAnd_F, kOr_T, kOr_F, kNot_B, kCh1_, kCh2_, kCh3_t, kCh3_f, kTV_B, kTB_B, kTA_t, kTA_f, kTO_t, kTO_f, kTN_, kOS_, kSl1_, kSl2_, kSl3_, kM2_, kK1_, kK2_, kSq_tup, kSq_lst, kSq_str, kEn_tup, kEn_lst, kZp_tup, kZp_lst, kFor_, kTurn_nx, kTurn_ct, kTurn_bk, kTurn_rt, kComp_, kLcT_t, kLcT_f,
 setAll, wipeE, pick, List.getElem?_cons_zero, List.getElem?_cons_succ, List.set_cons_zero, List.set_cons_succ, List.map_cons, List.map_nil, List.replicate_succ, List.replicate_zero, List.cons_append, List.nil_append, List.append_nil, List.length_cons, List.length_nil, List.filterMap_cons, List.filterMap_nil,
 Nat.reduceAdd, Nat.reduceSub, Nat.reduceLeDiff, Nat.reduceEqDiff, and_self, if_true, if_false, opAdd_int, opSub_int, opGt_int, opLt_int, opGe_int, opLe_int, opEq_int, opEq_str, opEq_bl, opNe_int, opNe_bl, opNe_str, bInt_int, bInt_bl, bAbs_int, truD_bl, truD_int, W_fLst, W_fTup, pow18, bLen_tup, bLen_lst, bTuple_lst, bTuple_tup, bList_lst, bList_tup]
    refine ⟨ds.length, zs.eraseIdx a, ys ++ [zs[a]], some (.int x), rfl, fun d hd' => hd d (List.mem_cons_of_mem _ hd'), rfl, ?_, ?_, ?_, by simp; omega, ?_⟩
    · rw [List.getElem?_set_ne (by omega), List.getElem?_set_self (by omega)]
      rw [eraseIdx_map]
    · rw [List.getElem?_set_self (by simp; omega), List.map_append]
      rfl
    · refine List.Perm.trans ?_ h4
      rw [List.append_assoc]
      refine List.Perm.append_left ys ?_
      exact perm_erase ha
    · exact ((h6.trans g3).above (by omega) (Nat.le_refl _)).above (by omega) (by omega)
  · refine ⟨m, eight, [], none, by simp [rangeD], fun d hd => ?_, by simp, ?_, ?_, by simp, by simp, ?_⟩
    · obtain ⟨x, _, rfl⟩ := List.mem_map.mp hd
      exact ⟨_, rfl⟩
    · rw [List.getElem?_append_left (by simp), setLen]; rfl
    · have e : S.length + 1 = (S ++ [CO.lst (eight.map .str)]).length := by simp
      rw [e]
      exact setLen
    · exact (Dr.refl hb).app.app
/-! ### tags, logs -/
def tagsSem (take : OpN) : SemS := (sSeq (sPar [2, 3] (aCons (eCall take 2 0 2 [] [0, 1] (aCons (eVar 0) (aCons (eC (D.int 5)) aNil)) aNil) (aCons (eArgs (fLst true) aNil) aNil))) (sSeq (sFor (iRange1 (aCons (eVar 1) aNil)) (gV 4) (sSeq (sPar [5, 6, 7] (aCons (eArgs bMax (aCons (eC (D.int 0)) (aCons (eBin opSub (eVar 4) (eCall take 2 0 2 [] [0, 1] (aCons (eVar 0) (aCons (eC (D.int 4)) aNil)) aNil)) aNil))) (aCons (eCall take 2 0 2 [] [0, 1] (aCons (eVar 0) (aCons (eBin (opAdd false) (eVar 4) (eC (D.int 1))) aNil)) aNil) (aCons (eBin opEq (eCall take 2 0 2 [] [0, 1] (aCons (eVar 0) (aCons (eC (D.int 4)) aNil)) aNil) (eC (D.int 0))) aNil)))) (sExpr (eMethL mAppend (eVar 3) (aCons (eBin opIx (eArgs (fLst false) (aCons (eC (D.int 0)) (aCons (eBin (opMul false) (eVar 5) (eArgs bInt (aCons (eVar 7) aNil))) (aCons (eVar 5) (aCons (eVar 6) (aCons (eBin (opMul false) (eVar 4) (eArgs bInt (aCons (eVar 7) aNil))) aNil)))))) (eVar 2)) aNil))))) (sRet (eVar 3))))
theorem tags_run {take : OpN} (t : TakeS take) {S : Sto} {i n m : Nat} {Q : Kn D} (hb : Bx S i (n + (1 + 3 * m))) (hm : m ≤ 1000) (q : ∀ (hs : List Int) S', hs.length = m → (∀ k (h : k < hs.length), 0 ≤ hs[k] ∧ hs[k] ≤ k) → S'[S.length]? = some (.lst (hs.map .int)) → Dr i n S S' → Q (.ref S.length) S') : W (body 8 (tagsSem take) [.ref i, .int m] S) Q := by
  unfold tagsSem
  have hi := hb.lt
  simp only [W_body, W_sSeq, W_sNx, W_sBk, W_sCt, W_sExpr, W_sRet, W_sRetN, W_sIf, W_sAsg, W_sPar, W_sAug, W_eC, W_eVar, W_eBin, W_eUn, W_eArgs, W_aNil, W_aCons, W_eAnd, W_eOr, W_eNot, W_eIf, W_eChain, W_tVal, W_tBl, W_tAnd, W_tOr, W_tNot, W_tTrue, W_oNone, W_oSome, W_eSl, W_eRev, W_eMethL, W_eCall, W_iSeq, W_iRange1, W_iRange2, W_iEnumS, W_iZipS, W_sFor, W_eComp, W_lcStep, W_gV, W_gUnpackVV, W_newF, W_newT, W_some,
 kBody_rt, kBody_nx, kSeq_nx, kSeq_rt, kSeq_bk, kSeq_ct, kExp_, kRet_, kIf_t, kIf_f, kAsg_V, kPar_, kAug_, kB1_, kB2_, kU_, kN_, kC1_, kC2_, kAnd_T, kAnd_F, kOr_T, kOr_F, kNot_B, kCh1_, kCh2_, kCh3_t, kCh3_f, kTV_B, kTB_B, kTA_t, kTA_f, kTO_t, kTO_f, kTN_, kOS_, kSl1_, kSl2_, kSl3_, kM2_, kK1_, kK2_, kSq_tup, kSq_lst, kSq_str, kEn_tup, kEn_lst, kZp_tup, kZp_lst, kFor_, kTurn_nx, kTurn_ct, kTurn_bk, kTurn_rt, kComp_, kLcT_t, kLcT_f,
 setAll, wipeE, pick, List.getElem?_cons_zero, List.getElem?_cons_succ, List.set_cons_zero, List.set_cons_succ, List.map_cons, List.map_nil, List.replicate_succ, List.replicate_zero, List.cons_append, List.nil_append, List.append_nil, List.length_cons, List.length_nil, List.filterMap_cons, List.filterMap_nil,
 Nat.reduceAdd, Nat.reduceSub, Nat.reduceLeDiff, Nat.reduceEqDiff, and_self, if_true, if_false, opAdd_int, opSub_int, opGt_int, opLt_int, opGe_int, opLe_int, opEq_int, opEq_str, opEq_bl, opNe_int, opNe_bl, opNe_str, bInt_int, bInt_bl, bAbs_int, truD_bl, truD_int, W_fLst, W_fTup, pow18, bLen_tup, bLen_lst, bTuple_lst, bTuple_tup, bList_lst, bList_tup]
  refine take_run t (n := n + 3 * m) (hb.mono (by omega)) (by omega) (by omega) fun r S1 g1 g2 g3 g4 => ?_
  simp only [W_body, W_sSeq, W_sNx, W_sBk, W_sCt, W_sExpr, W_sRet, W_sRetN, W_sIf, W_sAsg, W_sPar, W_sAug, W_eC, W_eVar, W_eBin, W_eUn, W_eArgs, W_aNil, W_aCons, W_eAnd, W_eOr, W_eNot, W_eIf, W_eChain, W_tVal, W_tBl, W_tAnd, W_tOr, W_tNot, W_tTrue, W_oNone, W_oSome, W_eSl, W_eRev, W_eMethL, W_eCall, W_iSeq, W_iRange1, W_iRange2, W_iEnumS, W_iZipS, W_sFor, W_eComp, W_lcStep, W_gV, W_gUnpackVV, W_newF, W_newT, W_some,
 kBody_rt, kBody_nx, kSeq_nx, kSeq_rt, kSeq_bk, kSeq_ct, kExp_, kRet_, kIf_t, kIf_f, kAsg_V, kPar_, kAug_, kB1_, kB2_, kU_, kN_, kC1_, kC2_, kAnd_T, kAnd_F, kOr_T, kOr_F, kNot_B, kCh1_, kCh2_, kCh3_t, kCh3_f, kTV_B, kTB_B, kTA_t, kTA_f, kTO_t, kTO_f, kTN_, kOS_, kSl1_, kSl2_, kSl3_, kM2_, kK1_, kK2_, kSq_tup, kSq_lst, kSq_str, kEn_tup, kEn_lst, kZp_tup, kZp_lst, kFor_, kTurn_nx, kTurn_ct, kTurn_bk, kTurn_rt, kComp_, kLcT_t, kLcT_f,
 setAll, wipeE, pick, List.getElem?_cons_zero, List.getElem?_cons_succ, List.set_cons_zero, List.set_cons_succ, List.map_cons, List.map_nil, List.replicate_succ, List.replicate_zero, List.cons_append, List.nil_append, List.append_nil, List.length_cons, List.length_nil, List.filterMap_cons, List.filterMap_nil,
 Nat.reduceAdd, Nat.reduceSub, Nat.reduceLeDiff, Nat.reduceEqDiff, and_self, if_true, if_false, opAdd_int, opSub_int, opGt_int, opLt_int, opGe_int, opLe_int, opEq_int, opEq_str, opEq_bl, opNe_int, opNe_bl, opNe_str, bInt_int, bInt_bl, bAbs_int, truD_bl, truD_int, W_fLst, W_fTup, pow18, bLen_tup, bLen_lst, bTuple_lst, bTuple_tup, bList_lst, bList_tup]
  rw [kR1_ (by omega)]
  simp only [W_body, W_sSeq, W_sNx, W_sBk, W_sCt, W_sExpr, W_sRet, W_sRetN, W_sIf, W_sAsg, W_sPar, W_sAug, W_eC, W_eVar, W_eBin, W_eUn, W_eArgs, W_aNil, W_aCons, W_eAnd, W_eOr, W_eNot, W_eIf, W_eChain, W_tVal, W_tBl, W_tAnd, W_tOr, W_tNot, W_tTrue, W_oNone, W_oSome, W_eSl, W_eRev, W_eMethL, W_eCall, W_iSeq, W_iRange1, W_iRange2, W_iEnumS, W_iZipS, W_sFor, W_eComp, W_lcStep, W_gV, W_gUnpackVV, W_newF, W_newT, W_some,
 kBody_rt, kBody_nx, kSeq_nx, kSeq_rt, kSeq_bk, kSeq_ct, kExp_, kRet_, kIf_t, kIf_f, kAsg_V, kPar_, kAug_, kB1_, kB2_, kU_, kN_, kC1_, kC2_, kAnd_T, kAnd_F, kOr_T, kOr_F, kNot_B, kCh1_, kCh2_, kCh3_t, kCh3_f, kTV_B, kTB_B, kTA_t, kTA_f, kTO_t, kTO_f, kTN_, kOS_, kSl1_, kSl2_, kSl3_, kM2_, kK1_, kK2_, kSq_tup, kSq_lst, kSq_str, kEn_tup, kEn_lst, kZp_tup, kZp_lst, kFor_, kTurn_nx, kTurn_ct, kTurn_bk, kTurn_rt, kComp_, kLcT_t, kLcT_f,
 setAll, wipeE, pick, List.getElem?_cons_zero, List.getElem?_cons_succ, List.set_cons_zero, List.set_cons_succ, List.map_cons, List.map_nil, List.replicate_succ, List.replicate_zero, List.cons_append, List.nil_append, List.append_nil, List.length_cons, List.length_nil, List.filterMap_cons, List.filterMap_nil,
 Nat.reduceAdd, Nat.reduceSub, Nat.reduceLeDiff, Nat.reduceEqDiff, and_self, if_true, if_false, opAdd_int, opSub_int, opGt_int, opLt_int, opGe_int, opLe_int, opEq_int, opEq_str, opEq_bl, opNe_int, opNe_bl, opNe_str, bInt_int, bInt_bl, bAbs_int, truD_bl, truD_int, W_fLst, W_fTup, pow18, bLen_tup, bLen_lst, bTuple_lst, bTuple_tup, bList_lst, bList_tup]
  refine W_forK (fun k E S' => ∃ (hs : List Int) (x y z u : Option D), E = [some (.ref i), some (.int m), some (.int r), some (.ref S1.length), x, y, z, u] ∧ hs.length = k ∧ (∀ k (h : k < hs.length), 0 ≤ hs[k] ∧ hs[k] ≤ k) ∧ S'[S.length]? = some (.lst (hs.map .int)) ∧ Dr i (n + 3 * (m - k)) S S') (fun _ => rfl) ?_ ?_ ⟨[], none, none, none, none, rfl, rfl, (by intro k h; simp at h), (by rw [← g4]; exact setLen), g3.app⟩
  · rintro E S' ⟨hs, x, y, z, u, rfl, h1, h2, h3, h4⟩
    simp only [W_body, W_sSeq, W_sNx, W_sBk, W_sCt, W_sExpr, W_sRet, W_sRetN, W_sIf, W_sAsg, W_sPar, W_sAug, W_eC, W_eVar, W_eBin, W_eUn, W_eArgs, W_aNil, W_aCons, W_eAnd, W_eOr, W_eNot, W_eIf, W_eChain, W_tVal, W_tBl, W_tAnd, W_tOr, W_tNot, W_tTrue, W_oNone, W_oSome, W_eSl, W_eRev, W_eMethL, W_eCall, W_iSeq, W_iRange1, W_iRange2, W_iEnumS, W_iZipS, W_sFor, W_eComp, W_lcStep, W_gV, W_gUnpackVV, W_newF, W_newT, W_some,
 kBody_rt, kBody_nx, kSeq_nx, kSeq_rt, kSeq_bk, kSeq_ct, kExp_, kRet_, kIf_t, kIf_f, kAsg_V, kPar_, kAug_, kB1_, kB2_, kU_, kN_, kC1_, kC2_, kAnd_T, kAnd_F, kOr_T, kOr_F, kNot_B, kCh1_, kCh2_, kCh3_t, kCh3_f, kTV_B, kTB_B, kTA_t, kTA_f, kTO_t, kTO_f, kTN_, kOS_, kSl1_, kSl2_, kSl3_, kM2_, kK1_, kK2_, kSq_tup, kSq_lst, kSq_str, kEn_tup, kEn_lst, kZp_tup, kZp_lst, kFor_, kTurn_nx, kTurn_ct, kTurn_bk, kTurn_rt, kComp_, kLcT_t, kLcT_f,
 setAll, wipeE, pick, List.getElem?_cons_zero, List.getElem?_cons_succ, List.set_cons_zero, List.set_cons_succ, List.map_cons, List.map_nil, List.replicate_succ, List.replicate_zero, List.cons_append, List.nil_append, List.append_nil, List.length_cons, List.length_nil, List.filterMap_cons, List.filterMap_nil,
 Nat.reduceAdd, Nat.reduceSub, Nat.reduceLeDiff, Nat.reduceEqDiff, and_self, if_true, if_false, opAdd_int, opSub_int, opGt_int, opLt_int, opGe_int, opLe_int, opEq_int, opEq_str, opEq_bl, opNe_int, opNe_bl, opNe_str, bInt_int, bInt_bl, bAbs_int, truD_bl, truD_int, W_fLst, W_fTup, pow18, bLen_tup, bLen_lst, bTuple_lst, bTuple_tup, bList_lst, bList_tup]
    rw [g4]
    exact q hs S' (by simpa [rangeD] using h1) h2 h3 (h4.mono (by omega))
  · rintro k hk E S' ⟨hs, x, y, z, u, rfl, h1, h2, h3, h4⟩
    rw [rangeD_at]
    have hk' : k < m := by simpa [rangeD] using hk
    simp only [W_body, W_sSeq, W_sNx, W_sBk, W_sCt, W_sExpr, W_sRet, W_sRetN, W_sIf, W_sAsg, W_sPar, W_sAug, W_eC, W_eVar, W_eBin, W_eUn, W_eArgs, W_aNil, W_aCons, W_eAnd, W_eOr, W_eNot, W_eIf, W_eChain, W_tVal, W_tBl, W_tAnd, W_tOr, W_tNot, W_tTrue, W_oNone, W_oSome, W_eSl, W_eRev, W_eMethL, W_eCall, W_iSeq, W_iRange1, W_iRange2, W_iEnumS, W_iZipS, W_sFor, W_eComp, W_lcStep, W_gV, W_gUnpackVV, W_newF, W_newT, W_some,
 kBody_rt, kBody_nx, kSeq_nx, kSeq_rt, kSeq_bk, kSeq_ct, kExp_, kRet_, kIf_t, kIf_f, kAsg_V, kPar_, kAug_, kB1_, kB2_, kU_, kN_, kC1_, kC2_, kAnd_T, kAnd_F, kOr_T, kOr_F, kNot_B, kCh1_, kCh2_, kCh3_t, kCh3_f, kTV_B, kTB_B, kTA_t, kTA_f, kTO_t, kTO_f, kTN_, kOS_, kSl1_, kSl2_, kSl3_, kM2_, kK1_, kK2_, kSq_tup, kSq_lst, kSq_str, kEn_tup, kEn_lst, kZp_tup, kZp_lst, kFor_, kTurn_nx, kTurn_ct, kTurn_bk, kTurn_rt, kComp_, kLcT_t, kLcT_f,
 setAll, wipeE, pick, List.getElem?_cons_zero, List.getElem?_cons_succ, List.set_cons_zero, List.set_cons_succ, List.map_cons, List.map_nil, List.replicate_succ, List.replicate_zero, List.cons_append, List.nil_append, List.append_nil, List.length_cons, List.length_nil, List.filterMap_cons, List.filterMap_nil,
 Nat.reduceAdd, Nat.reduceSub, Nat.reduceLeDiff, Nat.reduceEqDiff, and_self, if_true, if_false, opAdd_int, opSub_int, opGt_int, opLt_int, opGe_int, opLe_int, opEq_int, opEq_str, opEq_bl, opNe_int, opNe_bl, opNe_str, bInt_int, bInt_bl, bAbs_int, truD_bl, truD_int, W_fLst, W_fTup, pow18, bLen_tup, bLen_lst, bTuple_lst, bTuple_tup, bList_lst, bList_tup]
    refine take_run t (n := n + 3 * (m - (k + 1)) + 2) (h4.bx.mono (by omega)) (by omega) (by omega) fun r1 S2 a1 a2 a3 a4 => ?_
    simp only [W_body, W_sSeq, W_sNx, W_sBk, W_sCt, W_sExpr, W_sRet, W_sRetN, W_sIf, W_sAsg, W_sPar, W_sAug, W_eC, W_eVar, W_eBin, W_eUn, W_eArgs, W_aNil, W_aCons, W_eAnd, W_eOr, W_eNot, W_eIf, W_eChain, W_tVal, W_tBl, W_tAnd, W_tOr, W_tNot, W_tTrue, W_oNone, W_oSome, W_eSl, W_eRev, W_eMethL, W_eCall, W_iSeq, W_iRange1, W_iRange2, W_iEnumS, W_iZipS, W_sFor, W_eComp, W_lcStep, W_gV, W_gUnpackVV, W_newF, W_newT, W_some,
 kBody_rt, kBody_nx, kSeq_nx, kSeq_rt, kSeq_bk, kSeq_ct, kExp_, kRet_, kIf_t, kIf_f, kAsg_V, kPar_, kAug_, kB1_, kB2_, kU_, kN_, kC1_, kC2_, kAnd_T, kAnd_F, kOr_T, kOr_F, kNot_B, kCh1_, kCh2_, kCh3_t, kCh3_f, kTV_B, kTB_B, kTA_t, kTA_f, kTO_t, kTO_f, kTN_, kOS_, kSl1_, kSl2_, kSl3_, kM2_, kK1_, kK2_, kSq_tup, kSq_lst, kSq_str, kEn_tup, kEn_lst, kZp_tup, kZp_lst, kFor_, kTurn_nx, kTurn_ct, kTurn_bk, kTurn_rt, kComp_, kLcT_t, kLcT_f,
 setAll, wipeE, pick, List.getElem?_cons_zero, List.getElem?_cons_succ, List.set_cons_zero, List.set_cons_succ, List.map_cons, List.map_nil, List.replicate_succ, List.replicate_zero, List.cons_append, List.nil_append, List.append_nil, List.length_cons, List.length_nil, List.filterMap_cons, List.filterMap_nil,
 Nat.reduceAdd, Nat.reduceSub, Nat.reduceLeDiff, Nat.reduceEqDiff, and_self, if_true, if_false, opAdd_int, opSub_int, opGt_int, opLt_int, opGe_int, opLe_int, opEq_int, opEq_str, opEq_bl, opNe_int, opNe_bl, opNe_str, bInt_int, bInt_bl, bAbs_int, truD_bl, truD_int, W_fLst, W_fTup, pow18, bLen_tup, bLen_lst, bTuple_lst, bTuple_tup, bList_lst, bList_tup, bMax_2]
    refine take_run t (n := n + 3 * (m - (k + 1)) + 1) (a3.bx.mono (by omega)) (by omega) (by omega) fun r2 S3 b1 b2 b3 b4 => ?_
    simp only [W_body, W_sSeq, W_sNx, W_sBk, W_sCt, W_sExpr, W_sRet, W_sRetN, W_sIf, W_sAsg, W_sPar, W_sAug, W_eC, W_eVar, W_eBin, W_eUn, W_eArgs, W_aNil, W_aCons, W_eAnd, W_eOr, W_eNot, W_eIf, W_eChain, W_tVal, W_tBl, W_tAnd, W_tOr, W_tNot, W_tTrue, W_oNone, W_oSome, W_eSl, W_eRev, W_eMethL, W_eCall, W_iSeq, W_iRange1, W_iRange2, W_iEnumS, W_iZipS, W_sFor, W_eComp, W_lcStep, W_gV, W_gUnpackVV, W_newF, W_newT, W_some,
 kBody_rt, kBody_nx, kSeq_nx, kSeq_rt, kSeq_bk, kSeq_ct, kExp_, kRet_, kIf_t, kIf_f, kAsg_V, kPar_, kAug_, kB1_, kB2_, kU_, kN_, kC1_, kC2_, kAnd_T, kAnd_F, kOr_T, kOr_F, kNot_B, kCh1_, kCh2_, kCh3_t, kCh3_f, kTV_B, kTB_B, kTA_t, kTA_f, kTO_t, kTO_f, kTN_, kOS_, kSl1_, kSl2_, kSl3_, kM2_, kK1_, kK2_, kSq_tup, kSq_lst, kSq_str, kEn_tup, kEn_lst, kZp_tup, kZp_lst, kFor_, kTurn_nx, kTurn_ct, kTurn_bk, kTurn_rt, kComp_, kLcT_t, kLcT_f,
 setAll, wipeE, pick, List.getElem?_cons_zero, List.getElem?_cons_succ, List.set_cons_zero, List.set_cons_succ, List.map_cons, List.map_nil, List.replicate_succ, List.replicate_zero, List.cons_append, List.nil_append, List.append_nil, List.length_cons, List.length_nil, List.filterMap_cons, List.filterMap_nil,
 Nat.reduceAdd, Nat.reduceSub, Nat.reduceLeDiff, Nat.reduceEqDiff, and_self, if_true, if_false, opAdd_int, opSub_int, opGt_int, opLt_int, opGe_int, opLe_int, opEq_int, opEq_str, opEq_bl, opNe_int, opNe_bl, opNe_str, bInt_int, bInt_bl, bAbs_int, truD_bl, truD_int, W_fLst, W_fTup, pow18, bLen_tup, bLen_lst, bTuple_lst, bTuple_tup, bList_lst, bList_tup]
    refine take_run t (n := n + 3 * (m - (k + 1))) (b3.bx.mono (by omega)) (by omega) (by omega) fun r3 S4 c1 c2 c3 c4 => ?_
    have h4' := h4.trans (a3.trans (b3.trans c3))
    have h3' := (a3.trans (b3.trans c3)).keep (by omega) h3
    rw [← g4] at h3'
    simp only [W_body, W_sSeq, W_sNx, W_sBk, W_sCt, W_sExpr, W_sRet, W_sRetN, W_sIf, W_sAsg, W_sPar, W_sAug, W_eC, W_eVar, W_eBin, W_eUn, W_eArgs, W_aNil, W_aCons, W_eAnd, W_eOr, W_eNot, W_eIf, W_eChain, W_tVal, W_tBl, W_tAnd, W_tOr, W_tNot, W_tTrue, W_oNone, W_oSome, W_eSl, W_eRev, W_eMethL, W_eCall, W_iSeq, W_iRange1, W_iRange2, W_iEnumS, W_iZipS, W_sFor, W_eComp, W_lcStep, W_gV, W_gUnpackVV, W_newF, W_newT, W_some,
 kBody_rt, kBody_nx, kSeq_nx, kSeq_rt, kSeq_bk, kSeq_ct, kExp_, kRet_, kIf_t, kIf_f, kAsg_V, kPar_, kAug_, kB1_, kB2_, kU_, kN_, kC1_, kC2_, kAnd_T, kAnd_F, kOr_T, kOr_F, kNot_B, kCh1_, kCh2_, kCh3_t, kCh3_f, kTV_B, kTB_B, kTA_t, kTA_f, kTO_t, kTO_f, kTN_, kOS_, kSl1_, kSl2_, kSl3_, kM2_, kK1_, kK2_, kSq_tup, kSq_lst, kSq_str, kEn_tup, kEn_lst, kZp_tup, kZp_lst, kFor_, kTurn_nx, kTurn_ct, kTurn_bk, kTurn_rt, kComp_, kLcT_t, kLcT_f,
 setAll, wipeE, pick, List.getElem?_cons_zero, List.getElem?_cons_succ, List.set_cons_zero, List.set_cons_succ, List.map_cons, List.map_nil, List.replicate_succ, List.replicate_zero, List.cons_append, List.nil_append, List.append_nil, List.length_cons, List.length_nil, List.filterMap_cons, List.filterMap_nil,
 Nat.reduceAdd, Nat.reduceSub, Nat.reduceLeDiff, Nat.reduceEqDiff, and_self, if_true, if_false, opAdd_int, opSub_int, opGt_int, opLt_int, opGe_int, opLe_int, opEq_int, opEq_str, opEq_bl, opNe_int, opNe_bl, opNe_str, bInt_int, bInt_bl, bAbs_int, truD_bl, truD_int, W_fLst, W_fTup, pow18, bLen_tup, bLen_lst, bTuple_lst, bTuple_tup, bList_lst, bList_tup, kM1_ref h3', opMul_r (bw1 _) (bw2 _)]
    obtain ⟨d, hd, e⟩ := opIx_in (q := .frz) (S := S4) (ds := [D.int 0, D.int ((if (0 + (k : Int) - r1) > 0 then (0 + (k : Int) - r1) else 0) * if decide (r3 = 0) = true then 1 else 0), D.int (if (0 + (k : Int) - r1) > 0 then (0 + (k : Int) - r1) else 0), D.int r2, D.int ((0 + (k : Int)) * if decide (r3 = 0) = true then 1 else 0)]) g1 (by simpa using g2)
    rw [e]
    simp only [W_body, W_sSeq, W_sNx, W_sBk, W_sCt, W_sExpr, W_sRet, W_sRetN, W_sIf, W_sAsg, W_sPar, W_sAug, W_eC, W_eVar, W_eBin, W_eUn, W_eArgs, W_aNil, W_aCons, W_eAnd, W_eOr, W_eNot, W_eIf, W_eChain, W_tVal, W_tBl, W_tAnd, W_tOr, W_tNot, W_tTrue, W_oNone, W_oSome, W_eSl, W_eRev, W_eMethL, W_eCall, W_iSeq, W_iRange1, W_iRange2, W_iEnumS, W_iZipS, W_sFor, W_eComp, W_lcStep, W_gV, W_gUnpackVV, W_newF, W_newT, W_some,
 kBody_rt, kBody_nx, kSeq_nx, kSeq_rt, kSeq_bk, kSeq_ct, kExp_, kRet_, kIf_t, kIf_f, kAsg_V, kPar_, kAug_, kB1_, kB2_, kU_, kN_, kC1_, kC2_, kAnd_T, kAnd_F, kOr_T, kOr_F, kNot_B, kCh1_, kCh2_, kCh3_t, kCh3_f, kTV_B, kTB_B, kTA_t, kTA_f, kTO_t, kTO_f, kTN_, kOS_, kSl1_, kSl2_, kSl3_, kM2_, kK1_, kK2_, kSq_tup, kSq_lst, kSq_str, kEn_tup, kEn_lst, kZp_tup, kZp_lst, kFor_, kTurn_nx, kTurn_ct, kTurn_bk, kTurn_rt, kComp_, kLcT_t, kLcT_f,
 setAll, wipeE, pick, List.getElem?_cons_zero, List.getElem?_cons_succ, List.set_cons_zero, List.set_cons_succ, List.map_cons, List.map_nil, List.replicate_succ, List.replicate_zero, List.cons_append, List.nil_append, List.append_nil, List.length_cons, List.length_nil, List.filterMap_cons, List.filterMap_nil,
 Nat.reduceAdd, Nat.reduceSub, Nat.reduceLeDiff, Nat.reduceEqDiff, and_self, if_true, if_false, opAdd_int, opSub_int, opGt_int, opLt_int, opGe_int, opLe_int, opEq_int, opEq_str, opEq_bl, opNe_int, opNe_bl, opNe_str, bInt_int, bInt_bl, bAbs_int, truD_bl, truD_int, W_fLst, W_fTup, pow18, bLen_tup, bLen_lst, bTuple_lst, bTuple_tup, bList_lst, bList_tup]
    have hv : ∃ v : Int, d = .int v ∧ 0 ≤ v ∧ v ≤ k := by
      simp only [List.mem_cons, List.not_mem_nil, or_false] at hd
      by_cases hr : r3 = 0
      · simp only [hr, decide_true, if_true, Int.mul_one] at hd
        rcases hd with rfl | rfl | rfl | rfl | rfl
        · exact ⟨_, rfl, by omega, by omega⟩
        · refine ⟨_, rfl, ?_, ?_⟩ <;> split <;> omega
        · refine ⟨_, rfl, ?_, ?_⟩ <;> split <;> omega
        · exact ⟨_, rfl, by omega, by omega⟩
        · exact ⟨_, rfl, by omega, by omega⟩
      · simp only [hr, decide_false, Bool.false_eq_true, if_false, Int.mul_zero] at hd
        rcases hd with rfl | rfl | rfl | rfl | rfl
        · exact ⟨_, rfl, by omega, by omega⟩
        · exact ⟨_, rfl, by omega, by omega⟩
        · refine ⟨_, rfl, ?_, ?_⟩ <;> split <;> omega
        · exact ⟨_, rfl, by omega, by omega⟩
        · exact ⟨_, rfl, by omega, by omega⟩
    obtain ⟨v, rfl, v1, v2⟩ := hv
    rw [mAppend_run h3' (by simp; omega)]
    simp only [W_body, W_sSeq, W_sNx, W_sBk, W_sCt, W_sExpr, W_sRet, W_sRetN, W_sIf, W_sAsg, W_sPar, W_sAug, W_eC, W_eVar, W_eBin, W_eUn, W_eArgs, W_aNil, W_aCons, W_eAnd, W_eOr, W_eNot, W_eIf, W_eChain, W_tVal, W_tBl, W_tAnd, W_tOr, W_tNot, W_tTrue, W_oNone, W_oSome, W_eSl, W_eRev, W_eMethL, W_eCall, W_iSeq, W_iRange1, W_iRange2, W_iEnumS, W_iZipS, W_sFor, W_eComp, W_lcStep, W_gV, W_gUnpackVV, W_newF, W_newT, W_some,
 kBody_rt, kBody_nx, kSeq_nx, kSeq_rt, kSeq_bk, kSeq_ct, kExp_, kRet_, kIf_t, kIf_f, kAsg_V, kPar_, kAug_, kB1_, kB2_, kU_, kN_, kC1_, kC2_, kAnd_T, kAnd_F, kOr_T, kOr_F, kNot_B, kCh1_, kCh2_, kCh3_t, kCh3_f, kTV_B, kTB_B, kTA_t, kTA_f, kTO_t, kTO_f, kTN_, kOS_, kSl1_, kSl2_, kSl3_, kM2_, kK1_, kK2_, kSq_tup, kSq_lst, kSq_str, kEn_tup, kEn_lst, kZp_tup, kZp_lst, kFor_, kTurn_nx, kTurn_ct, kTurn_bk, kTurn_rt, kComp_, kLcT_t, kLcT_f,
 setAll, wipeE, pick, List.getElem?_cons_zero, List.getElem?_cons_succ, List.set_cons_zero, List.set_cons_succ, List.map_cons, List.map_nil, List.replicate_succ, List.replicate_zero, List.cons_append, List.nil_append, List.append_nil, List.length_cons, List.length_nil, List.filterMap_cons, List.filterMap_nil,
 Nat.reduceAdd, Nat.reduceSub, Nat.reduceLeDiff, Nat.reduceEqDiff, and_self, if_true, if_false, opAdd_int, opSub_int, opGt_int, opLt_int, opGe_int, opLe_int, opEq_int, opEq_str, opEq_bl, opNe_int, opNe_bl, opNe_str, bInt_int, bInt_bl, bAbs_int, truD_bl, truD_int, W_fLst, W_fTup, pow18, bLen_tup, bLen_lst, bTuple_lst, bTuple_tup, bList_lst, bList_tup]
    refine ⟨hs ++ [v], _, _, _, _, rfl, by simp [h1], fun j hj => ?_, ?_, h4'.above hi (by omega)⟩
    · by_cases hj' : j < hs.length
      · rw [List.getElem_append_left hj']; exact h2 j hj'
      · have : j = hs.length := by simp at hj; omega
        subst this
        rw [List.getElem_concat_length rfl]
        exact ⟨v1, by omega⟩
    · rw [← g4, List.getElem?_set_self (List.getElem?_eq_some_iff.mp h3').1, List.map_append]
      rfl
end AW

namespace AW
open PySem PySem.Spec PyProof.Rows L2

structure Wr where
  key : Str
  way : Str
  amt : Int
structure Row where
  tag : Int
  dur : Int
  ws : List Wr
def dWr (w : Wr) : D := .tup [.str w.key, .str w.way, .int w.amt]
def dRow (r : Row) : D := .tup [.int r.tag, .int r.dur, .tup (r.ws.map dWr)]
def sPut : Str := Str.ofString "put"
def sAdd : Str := Str.ofString "add"
/-- a write that a log's maker makes, of keys ks -/
structure WrOk (w : Wr) : Prop where
  way : w.way = sPut ∨ w.way = sAdd
  lo : -9 ≤ w.amt
  hi : w.amt ≤ 9
structure RowOk (ks : List Str) (k : Nat) (r : Row) : Prop where
  t0 : 0 ≤ r.tag
  t1 : r.tag ≤ k
  d0 : 0 ≤ r.dur
  d1 : r.dur < 6
  sub : (r.ws.map (·.key)).Sublist ks
  len : r.ws.length ≤ 4
  ws : ∀ w ∈ r.ws, WrOk w
structure LogOk (ks : List Str) (most : Nat) (L : List Row) : Prop where
  len : L.length ≤ most
  row : ∀ k (h : k < L.length), RowOk ks k L[k]
theorem W.congF {f f' : OpN} {ds : List D} {S : Sto} {Q : Kn D} (e : f = f') (h : W (f' ds S) Q) : W (f ds S) Q := by rw [e]; exact h
def logSem (take of some_ tags : OpN) : SemS := (sSeq (sPar [3, 4] (aCons (eCall take 2 0 2 [] [0, 1] (aCons (eVar 0) (aCons (eBin (opAdd false) (eVar 1) (eC (D.int 1))) aNil)) aNil) (aCons (eArgs (fLst true) aNil) aNil))) (sSeq (sAsg (gV 5) (eCall tags 2 0 2 [] [0, 1] (aCons (eVar 0) (aCons (eVar 3) aNil)) aNil)) (sSeq (sAsg (gV 6) (eBin (opAdd false) (eC (D.int 1)) (eCall take 2 0 2 [] [0, 1] (aCons (eVar 0) (aCons (eC (D.int 4)) aNil)) aNil))) (sSeq (sFor (iRange1 (aCons (eVar 3) aNil)) (gV 7) (sSeq (sAsg (gV 8) (eSl (opSl false) (eCall some_ 3 0 3 [] [0, 1, 2] (aCons (eVar 0) (aCons (eVar 2) (aCons (eVar 6) aNil))) aNil) oNone (oSome (eC (D.int 4))))) (sSeq (sAsg (gV 9) (eComp false (iSeq (eVar 8)) (gV 10) tTrue (eArgs fTup (aCons (eVar 10) (aCons (eCall of 2 0 2 [] [0, 1] (aCons (eVar 0) (aCons (eArgs (fLst false) (aCons (eC (D.str (Str.ofString "put"))) (aCons (eC (D.str (Str.ofString "put"))) (aCons (eC (D.str (Str.ofString "add"))) aNil)))) aNil)) aNil) (aCons (eBin opSub (eCall take 2 0 2 [] [0, 1] (aCons (eVar 0) (aCons (eC (D.int 19)) aNil)) aNil) (eC (D.int 9))) aNil)))) [10])) (sExpr (eMethL mAppend (eVar 4) (aCons (eArgs fTup (aCons (eBin opIx (eVar 5) (eVar 7)) (aCons (eCall take 2 0 2 [] [0, 1] (aCons (eVar 0) (aCons (eC (D.int 6)) aNil)) aNil) (aCons (eArgs bTuple (aCons (eVar 9) aNil)) aNil)))) aNil)))))) (sRet (eArgs bTuple (aCons (eVar 4) aNil)))))))
theorem log_run {take of some_ tags : OpN} (t : TakeS take) (ho : of = body 2 (ofSem take)) (hsm : some_ = body 4 (someSem take)) (ht : tags = body 8 (tagsSem take)) {S : Sto} {i n most : Nat} {q : LK} {ks : List Str} {Q : Kn D} (hb : Bx S i (n + (3 + 23 * most))) (hm : most ≤ 1000) (hk : ks.length ≤ 8)
    (fin : ∀ (L : List Row) S', LogOk ks most L → Dr i n S S' → Q (.tup (L.map dRow)) S') : W (body 11 (logSem take of some_ tags) [.ref i, .int most, .lst q (ks.map .str)] S) Q := by
  unfold logSem
  have hi := hb.lt
  simp only [W_body, W_sSeq, W_sNx, W_sBk, W_sCt, W_sExpr, W_sRet, W_sRetN, W_sIf, W_sAsg, W_sPar, W_sAug, W_eC, W_eVar, W_eBin, W_eUn, W_eArgs, W_aNil, W_aCons, W_eAnd, W_eOr, W_eNot, W_eIf, W_eChain, W_tVal, W_tBl, W_tAnd, W_tOr, W_tNot, W_tTrue, W_oNone, W_oSome, W_eSl, W_eRev, W_eMethL, W_eCall, W_iSeq, W_iRange1, W_iRange2, W_iEnumS, W_iZipS, W_sFor, W_eComp, W_lcStep, W_gV, W_gUnpackVV, W_newF, W_newT, W_some,
 kBody_rt, kBody_nx, kSeq_nx, kSeq_rt, kSeq_bk, kSeq_ct, kExp_, kRet_, kIf_t, kIf_f, kAsg_V, kPar_, kAug_, kB1_, kB2_, kU_, kN_, kC1_, kC2_, kAnd_T, kAnd_F, kOr_T, kOr_F, kNot_B, kCh1_, kCh2_, kCh3_t, kCh3_f, kTV_B, kTB_B, kTA_t, kTA_f, kTO_t, kTO_f, kTN_, kOS_, kSl1_, kSl2_, kSl3_, kM2_, kK1_, kK2_, kSq_tup, kSq_lst, kSq_str, kEn_tup, kEn_lst, kZp_tup, kZp_lst, kFor_, kTurn_nx, kTurn_ct, kTurn_bk, kTurn_rt, kComp_, kLcT_t, kLcT_f,
 setAll, wipeE, pick, List.getElem?_cons_zero, List.getElem?_cons_succ, List.set_cons_zero, List.set_cons_succ, List.map_cons, List.map_nil, List.replicate_succ, List.replicate_zero, List.cons_append, List.nil_append, List.append_nil, List.length_cons, List.length_nil, List.filterMap_cons, List.filterMap_nil,
 Nat.reduceAdd, Nat.reduceSub, Nat.reduceLeDiff, Nat.reduceEqDiff, and_self, if_true, if_false, opAdd_int, opSub_int, opGt_int, opLt_int, opGe_int, opLe_int, opEq_int, opEq_str, opEq_bl, opNe_int, opNe_bl, opNe_str, bInt_int, bInt_bl, bAbs_int, truD_bl, truD_int, W_fLst, W_fTup, pow18, bLen_tup, bLen_lst, bTuple_lst, bTuple_tup, bList_lst, bList_tup]
  refine take_run t (n := n + (2 + 23 * most)) (hb.mono (by omega)) (by omega) (by omega) fun r S1 a1 a2 a3 a4 => ?_
  obtain ⟨m, rfl⟩ := Int.eq_ofNat_of_zero_le a1
  have hmm : m ≤ most := by omega
  have e4 : (S1 ++ [CO.lst []])[S.length]? = some (.lst []) := by rw [← a4]; exact setLen
  have d1 : Dr i (n + (2 + 23 * most)) S (S1 ++ [CO.lst []]) := a3.app
  simp only [W_body, W_sSeq, W_sNx, W_sBk, W_sCt, W_sExpr, W_sRet, W_sRetN, W_sIf, W_sAsg, W_sPar, W_sAug, W_eC, W_eVar, W_eBin, W_eUn, W_eArgs, W_aNil, W_aCons, W_eAnd, W_eOr, W_eNot, W_eIf, W_eChain, W_tVal, W_tBl, W_tAnd, W_tOr, W_tNot, W_tTrue, W_oNone, W_oSome, W_eSl, W_eRev, W_eMethL, W_eCall, W_iSeq, W_iRange1, W_iRange2, W_iEnumS, W_iZipS, W_sFor, W_eComp, W_lcStep, W_gV, W_gUnpackVV, W_newF, W_newT, W_some,
 kBody_rt, kBody_nx, kSeq_nx, kSeq_rt, kSeq_bk, kSeq_ct, kExp_, kRet_, kIf_t, kIf_f, kAsg_V, kPar_, kAug_, kB1_, kB2_, kU_, kN_, kC1_, kC2_, kAnd_T, kAnd_F, kOr_T, kOr_F, kNot_B, kCh1_, kCh2_, kCh3_t, kCh3_f, kTV_B, kTB_B, kTA_t, kTA_f, kTO_t, kTO_f, kTN_, kOS_, kSl1_, kSl2_, kSl3_, kM2_, kK1_, kK2_, kSq_tup, kSq_lst, kSq_str, kEn_tup, kEn_lst, kZp_tup, kZp_lst, kFor_, kTurn_nx, kTurn_ct, kTurn_bk, kTurn_rt, kComp_, kLcT_t, kLcT_f,
 setAll, wipeE, pick, List.getElem?_cons_zero, List.getElem?_cons_succ, List.set_cons_zero, List.set_cons_succ, List.map_cons, List.map_nil, List.replicate_succ, List.replicate_zero, List.cons_append, List.nil_append, List.append_nil, List.length_cons, List.length_nil, List.filterMap_cons, List.filterMap_nil,
 Nat.reduceAdd, Nat.reduceSub, Nat.reduceLeDiff, Nat.reduceEqDiff, and_self, if_true, if_false, opAdd_int, opSub_int, opGt_int, opLt_int, opGe_int, opLe_int, opEq_int, opEq_str, opEq_bl, opNe_int, opNe_bl, opNe_str, bInt_int, bInt_bl, bAbs_int, truD_bl, truD_int, W_fLst, W_fTup, pow18, bLen_tup, bLen_lst, bTuple_lst, bTuple_tup, bList_lst, bList_tup, a4]
  generalize S1 ++ [CO.lst []] = S1' at e4 d1
  refine W.congF ht (tags_run t (m := m) (n := n + (1 + 20 * m)) (d1.bx.mono (by omega)) (by omega) fun hs S2 b1 b2 b3 b4 => ?_)
  have hP := (List.getElem?_eq_some_iff.mp e4).1
  have e5 := b4.keep (by omega) e4
  have d2 := d1.trans b4
  simp only [W_body, W_sSeq, W_sNx, W_sBk, W_sCt, W_sExpr, W_sRet, W_sRetN, W_sIf, W_sAsg, W_sPar, W_sAug, W_eC, W_eVar, W_eBin, W_eUn, W_eArgs, W_aNil, W_aCons, W_eAnd, W_eOr, W_eNot, W_eIf, W_eChain, W_tVal, W_tBl, W_tAnd, W_tOr, W_tNot, W_tTrue, W_oNone, W_oSome, W_eSl, W_eRev, W_eMethL, W_eCall, W_iSeq, W_iRange1, W_iRange2, W_iEnumS, W_iZipS, W_sFor, W_eComp, W_lcStep, W_gV, W_gUnpackVV, W_newF, W_newT, W_some,
 kBody_rt, kBody_nx, kSeq_nx, kSeq_rt, kSeq_bk, kSeq_ct, kExp_, kRet_, kIf_t, kIf_f, kAsg_V, kPar_, kAug_, kB1_, kB2_, kU_, kN_, kC1_, kC2_, kAnd_T, kAnd_F, kOr_T, kOr_F, kNot_B, kCh1_, kCh2_, kCh3_t, kCh3_f, kTV_B, kTB_B, kTA_t, kTA_f, kTO_t, kTO_f, kTN_, kOS_, kSl1_, kSl2_, kSl3_, kM2_, kK1_, kK2_, kSq_tup, kSq_lst, kSq_str, kEn_tup, kEn_lst, kZp_tup, kZp_lst, kFor_, kTurn_nx, kTurn_ct, kTurn_bk, kTurn_rt, kComp_, kLcT_t, kLcT_f,
 setAll, wipeE, pick, List.getElem?_cons_zero, List.getElem?_cons_succ, List.set_cons_zero, List.set_cons_succ, List.map_cons, List.map_nil, List.replicate_succ, List.replicate_zero, List.cons_append, List.nil_append, List.append_nil, List.length_cons, List.length_nil, List.filterMap_cons, List.filterMap_nil,
 Nat.reduceAdd, Nat.reduceSub, Nat.reduceLeDiff, Nat.reduceEqDiff, and_self, if_true, if_false, opAdd_int, opSub_int, opGt_int, opLt_int, opGe_int, opLe_int, opEq_int, opEq_str, opEq_bl, opNe_int, opNe_bl, opNe_str, bInt_int, bInt_bl, bAbs_int, truD_bl, truD_int, W_fLst, W_fTup, pow18, bLen_tup, bLen_lst, bTuple_lst, bTuple_tup, bList_lst, bList_tup]
  refine take_run t (n := n + 20 * m) (d2.bx.mono (by omega)) (by omega) (by omega) fun th S3 c1 c2 c3 c4 => ?_
  have e6 := c3.keep (by omega) e5
  have b3' := c3.keep (by omega) b3
  have d3 := d2.trans c3
  simp only [W_body, W_sSeq, W_sNx, W_sBk, W_sCt, W_sExpr, W_sRet, W_sRetN, W_sIf, W_sAsg, W_sPar, W_sAug, W_eC, W_eVar, W_eBin, W_eUn, W_eArgs, W_aNil, W_aCons, W_eAnd, W_eOr, W_eNot, W_eIf, W_eChain, W_tVal, W_tBl, W_tAnd, W_tOr, W_tNot, W_tTrue, W_oNone, W_oSome, W_eSl, W_eRev, W_eMethL, W_eCall, W_iSeq, W_iRange1, W_iRange2, W_iEnumS, W_iZipS, W_sFor, W_eComp, W_lcStep, W_gV, W_gUnpackVV, W_newF, W_newT, W_some,
 kBody_rt, kBody_nx, kSeq_nx, kSeq_rt, kSeq_bk, kSeq_ct, kExp_, kRet_, kIf_t, kIf_f, kAsg_V, kPar_, kAug_, kB1_, kB2_, kU_, kN_, kC1_, kC2_, kAnd_T, kAnd_F, kOr_T, kOr_F, kNot_B, kCh1_, kCh2_, kCh3_t, kCh3_f, kTV_B, kTB_B, kTA_t, kTA_f, kTO_t, kTO_f, kTN_, kOS_, kSl1_, kSl2_, kSl3_, kM2_, kK1_, kK2_, kSq_tup, kSq_lst, kSq_str, kEn_tup, kEn_lst, kZp_tup, kZp_lst, kFor_, kTurn_nx, kTurn_ct, kTurn_bk, kTurn_rt, kComp_, kLcT_t, kLcT_f,
 setAll, wipeE, pick, List.getElem?_cons_zero, List.getElem?_cons_succ, List.set_cons_zero, List.set_cons_succ, List.map_cons, List.map_nil, List.replicate_succ, List.replicate_zero, List.cons_append, List.nil_append, List.append_nil, List.length_cons, List.length_nil, List.filterMap_cons, List.filterMap_nil,
 Nat.reduceAdd, Nat.reduceSub, Nat.reduceLeDiff, Nat.reduceEqDiff, and_self, if_true, if_false, opAdd_int, opSub_int, opGt_int, opLt_int, opGe_int, opLe_int, opEq_int, opEq_str, opEq_bl, opNe_int, opNe_bl, opNe_str, bInt_int, bInt_bl, bAbs_int, truD_bl, truD_int, W_fLst, W_fTup, pow18, bLen_tup, bLen_lst, bTuple_lst, bTuple_tup, bList_lst, bList_tup]
  rw [kR1_ (by omega)]
  simp only [W_body, W_sSeq, W_sNx, W_sBk, W_sCt, W_sExpr, W_sRet, W_sRetN, W_sIf, W_sAsg, W_sPar, W_sAug, W_eC, W_eVar, W_eBin, W_eUn, W_eArgs, W_aNil, W_aCons, W_eAnd, W_eOr, W_eNot, W_eIf, W_eChain, W_tVal, W_tBl, W_tAnd, W_tOr, W_tNot, W_tTrue, W_oNone, W_oSome, W_eSl, W_eRev, W_eMethL, W_eCall, W_iSeq, W_iRange1, W_iRange2, W_iEnumS, W_iZipS, W_sFor, W_eComp, W_lcStep, W_gV, W_gUnpackVV, W_newF, W_newT, W_some,
 kBody_rt, kBody_nx, kSeq_nx, kSeq_rt, kSeq_bk, kSeq_ct, kExp_, kRet_, kIf_t, kIf_f, kAsg_V, kPar_, kAug_, kB1_, kB2_, kU_, kN_, kC1_, kC2_, kAnd_T, kAnd_F, kOr_T, kOr_F, kNot_B, kCh1_, kCh2_, kCh3_t, kCh3_f, kTV_B, kTB_B, kTA_t, kTA_f, kTO_t, kTO_f, kTN_, kOS_, kSl1_, kSl2_, kSl3_, kM2_, kK1_, kK2_, kSq_tup, kSq_lst, kSq_str, kEn_tup, kEn_lst, kZp_tup, kZp_lst, kFor_, kTurn_nx, kTurn_ct, kTurn_bk, kTurn_rt, kComp_, kLcT_t, kLcT_f,
 setAll, wipeE, pick, List.getElem?_cons_zero, List.getElem?_cons_succ, List.set_cons_zero, List.set_cons_succ, List.map_cons, List.map_nil, List.replicate_succ, List.replicate_zero, List.cons_append, List.nil_append, List.append_nil, List.length_cons, List.length_nil, List.filterMap_cons, List.filterMap_nil,
 Nat.reduceAdd, Nat.reduceSub, Nat.reduceLeDiff, Nat.reduceEqDiff, and_self, if_true, if_false, opAdd_int, opSub_int, opGt_int, opLt_int, opGe_int, opLe_int, opEq_int, opEq_str, opEq_bl, opNe_int, opNe_bl, opNe_str, bInt_int, bInt_bl, bAbs_int, truD_bl, truD_int, W_fLst, W_fTup, pow18, bLen_tup, bLen_lst, bTuple_lst, bTuple_tup, bList_lst, bList_tup]
  refine W_forK (fun k E S' => ∃ (L : List Row) (x y z : Option D), E = [some (.ref i), some (.int most), some (.lst q (ks.map .str)), some (.int m), some (.ref S.length), some (.ref S1'.length), some (.int (1 + th)), x, y, z, none] ∧ L.length = k ∧ (∀ k (h : k < L.length), RowOk ks k L[k]) ∧ S'[S.length]? = some (.lst (L.map dRow)) ∧ S'[S1'.length]? = some (.lst (hs.map .int)) ∧ Dr i (n + 20 * (m - k)) S S') (fun _ => rfl) ?_ ?_ ⟨[], none, none, none, rfl, rfl, (by intro k h; simp at h), e6, b3', (by exact d3.mono (by omega))⟩
  · rintro E S' ⟨L, x, y, z, rfl, h1, h2, h3, h3', h4⟩
    simp only [W_body, W_sSeq, W_sNx, W_sBk, W_sCt, W_sExpr, W_sRet, W_sRetN, W_sIf, W_sAsg, W_sPar, W_sAug, W_eC, W_eVar, W_eBin, W_eUn, W_eArgs, W_aNil, W_aCons, W_eAnd, W_eOr, W_eNot, W_eIf, W_eChain, W_tVal, W_tBl, W_tAnd, W_tOr, W_tNot, W_tTrue, W_oNone, W_oSome, W_eSl, W_eRev, W_eMethL, W_eCall, W_iSeq, W_iRange1, W_iRange2, W_iEnumS, W_iZipS, W_sFor, W_eComp, W_lcStep, W_gV, W_gUnpackVV, W_newF, W_newT, W_some,
 kBody_rt, kBody_nx, kSeq_nx, kSeq_rt, kSeq_bk, kSeq_ct, kExp_, kRet_, kIf_t, kIf_f, kAsg_V, kPar_, kAug_, kB1_, kB2_, kU_, kN_, kC1_, kC2_, kAnd_T, kAnd_F, kOr_T, kOr_F, kNot_B, kCh1_, kCh2_, kCh3_t, kCh3_f, kTV_B, kTB_B, kTA_t, kTA_f, kTO_t, kTO_f, kTN_, kOS_, kSl1_, kSl2_, kSl3_, kM2_, kK1_, kK2_, kSq_tup, kSq_lst, kSq_str, kEn_tup, kEn_lst, kZp_tup, kZp_lst, kFor_, kTurn_nx, kTurn_ct, kTurn_bk, kTurn_rt, kComp_, kLcT_t, kLcT_f,
 setAll, wipeE, pick, List.getElem?_cons_zero, List.getElem?_cons_succ, List.set_cons_zero, List.set_cons_succ, List.map_cons, List.map_nil, List.replicate_succ, List.replicate_zero, List.cons_append, List.nil_append, List.append_nil, List.length_cons, List.length_nil, List.filterMap_cons, List.filterMap_nil,
 Nat.reduceAdd, Nat.reduceSub, Nat.reduceLeDiff, Nat.reduceEqDiff, and_self, if_true, if_false, opAdd_int, opSub_int, opGt_int, opLt_int, opGe_int, opLe_int, opEq_int, opEq_str, opEq_bl, opNe_int, opNe_bl, opNe_str, bInt_int, bInt_bl, bAbs_int, truD_bl, truD_int, W_fLst, W_fTup, pow18, bLen_tup, bLen_lst, bTuple_lst, bTuple_tup, bList_lst, bList_tup, bTuple_ref h3]
    have hl : L.length = m := by simpa [rangeD] using h1
    exact fin L S' ⟨by omega, h2⟩ (h4.mono (by omega))
  · rintro k hk' E S' ⟨L, x, y, z, rfl, h1, h2, h3, h3', h4⟩
    rw [rangeD_at]
    have hkm : k < m := by simpa [rangeD] using hk'
    simp only [W_body, W_sSeq, W_sNx, W_sBk, W_sCt, W_sExpr, W_sRet, W_sRetN, W_sIf, W_sAsg, W_sPar, W_sAug, W_eC, W_eVar, W_eBin, W_eUn, W_eArgs, W_aNil, W_aCons, W_eAnd, W_eOr, W_eNot, W_eIf, W_eChain, W_tVal, W_tBl, W_tAnd, W_tOr, W_tNot, W_tTrue, W_oNone, W_oSome, W_eSl, W_eRev, W_eMethL, W_eCall, W_iSeq, W_iRange1, W_iRange2, W_iEnumS, W_iZipS, W_sFor, W_eComp, W_lcStep, W_gV, W_gUnpackVV, W_newF, W_newT, W_some,
 kBody_rt, kBody_nx, kSeq_nx, kSeq_rt, kSeq_bk, kSeq_ct, kExp_, kRet_, kIf_t, kIf_f, kAsg_V, kPar_, kAug_, kB1_, kB2_, kU_, kN_, kC1_, kC2_, kAnd_T, kAnd_F, kOr_T, kOr_F, kNot_B, kCh1_, kCh2_, kCh3_t, kCh3_f, kTV_B, kTB_B, kTA_t, kTA_f, kTO_t, kTO_f, kTN_, kOS_, kSl1_, kSl2_, kSl3_, kM2_, kK1_, kK2_, kSq_tup, kSq_lst, kSq_str, kEn_tup, kEn_lst, kZp_tup, kZp_lst, kFor_, kTurn_nx, kTurn_ct, kTurn_bk, kTurn_rt, kComp_, kLcT_t, kLcT_f,
 setAll, wipeE, pick, List.getElem?_cons_zero, List.getElem?_cons_succ, List.set_cons_zero, List.set_cons_succ, List.map_cons, List.map_nil, List.replicate_succ, List.replicate_zero, List.cons_append, List.nil_append, List.append_nil, List.length_cons, List.length_nil, List.filterMap_cons, List.filterMap_nil,
 Nat.reduceAdd, Nat.reduceSub, Nat.reduceLeDiff, Nat.reduceEqDiff, and_self, if_true, if_false, opAdd_int, opSub_int, opGt_int, opLt_int, opGe_int, opLe_int, opEq_int, opEq_str, opEq_bl, opNe_int, opNe_bl, opNe_str, bInt_int, bInt_bl, bAbs_int, truD_bl, truD_int, W_fLst, W_fTup, pow18, bLen_tup, bLen_lst, bTuple_lst, bTuple_tup, bList_lst, bList_tup]
    refine W.congF hsm (some_run t (n := n + 20 * (m - (k + 1)) + 12) (h4.bx.mono (by omega)) (by omega) (by omega) (by omega) fun ys S4 f1 f2 f3 => ?_)
    have hcut : opSl false (.tup (ys.map D.str)) none (some 4) S4 = some (.tup ((ys.take 4).map D.str), S4) := by
      simp only [opSl, cutD, HT.sIx_none]
      rw [show (4 : Int) = ((4 : Nat) : Int) from rfl, HT.sIx_nat]
      simp only [List.drop_zero, Nat.sub_zero, ← List.map_take]
      rw [List.length_map, ← List.take_eq_take_min]
    simp only [W_body, W_sSeq, W_sNx, W_sBk, W_sCt, W_sExpr, W_sRet, W_sRetN, W_sIf, W_sAsg, W_sPar, W_sAug, W_eC, W_eVar, W_eBin, W_eUn, W_eArgs, W_aNil, W_aCons, W_eAnd, W_eOr, W_eNot, W_eIf, W_eChain, W_tVal, W_tBl, W_tAnd, W_tOr, W_tNot, W_tTrue, W_oNone, W_oSome, W_eSl, W_eRev, W_eMethL, W_eCall, W_iSeq, W_iRange1, W_iRange2, W_iEnumS, W_iZipS, W_sFor, W_eComp, W_lcStep, W_gV, W_gUnpackVV, W_newF, W_newT, W_some,
 kBody_rt, kBody_nx, kSeq_nx, kSeq_rt, kSeq_bk, kSeq_ct, kExp_, kRet_, kIf_t, kIf_f, kAsg_V, kPar_, kAug_, kB1_, kB2_, kU_, kN_, kC1_, kC2_, kAnd_T, kAnd_F, kOr_T, kOr_F, kNot_B, kCh1_, kCh2_, kCh3_t, kCh3_f, kTV_B, kTB_B, kTA_t, kTA_f, kTO_t, kTO_f, kTN_, kOS_, kSl1_, kSl2_, kSl3_, kM2_, kK1_, kK2_, kSq_tup, kSq_lst, kSq_str, kEn_tup, kEn_lst, kZp_tup, kZp_lst, kFor_, kTurn_nx, kTurn_ct, kTurn_bk, kTurn_rt, kComp_, kLcT_t, kLcT_f,
 setAll, wipeE, pick, List.getElem?_cons_zero, List.getElem?_cons_succ, List.set_cons_zero, List.set_cons_succ, List.map_cons, List.map_nil, List.replicate_succ, List.replicate_zero, List.cons_append, List.nil_append, List.append_nil, List.length_cons, List.length_nil, List.filterMap_cons, List.filterMap_nil,
 Nat.reduceAdd, Nat.reduceSub, Nat.reduceLeDiff, Nat.reduceEqDiff, and_self, if_true, if_false, opAdd_int, opSub_int, opGt_int, opLt_int, opGe_int, opLe_int, opEq_int, opEq_str, opEq_bl, opNe_int, opNe_bl, opNe_str, bInt_int, bInt_bl, bAbs_int, truD_bl, truD_int, W_fLst, W_fTup, pow18, bLen_tup, bLen_lst, bTuple_lst, bTuple_tup, bList_lst, bList_tup, hcut]
    have d5 := h4.trans f2
    have hysl := f1.length_le
    have g3 := f2.keep (by omega) h3
    have g3' := f2.keep (by omega) h3'
    have hyl : (ys.take 4).length ≤ 4 := by simp; omega
    refine ⟨by rw [List.length_map]; exact Nat.le_trans hyl (by decide), ?_⟩
    have hya : ∀ {j : Nat} (hj : j < ((ys.take 4).map D.str).length), ((ys.take 4).map D.str)[j] = .str ((ys.take 4)[j]'(by simpa using hj)) := fun hj => by rw [List.getElem_map]
    refine W_lcK (fun j acc S' => ∃ ws : List Wr, acc = ws.map dWr ∧ ws.map (·.key) = (ys.take 4).take j ∧ (∀ w ∈ ws, WrOk w) ∧ Dr i (n + 20 * (m - (k + 1)) + 12 - 2 * j) S S' ∧ S'[S.length]? = some (.lst (L.map dRow)) ∧ S'[S1'.length]? = some (.lst (hs.map .int))) (fun _ => rfl) ?_ ?_ ⟨[], rfl, rfl, (by intro w h; cases h), (by exact d5), g3, g3'⟩
    · rintro acc S5 ⟨ws, rfl, w1, w2, w3, w4, w5⟩
      rw [List.length_map] at w1 w3
      have wl : ws.length ≤ 4 := by
        have := congrArg List.length w1
        rw [List.length_map, List.take_of_length_le (Nat.le_refl _)] at this
        omega
      have hat : atD (hs.map D.int) (0 + (k : Int)) = some (.int (hs[k])) := by rw [Int.zero_add]; exact atD_nat (by simp [b1, hkm])
      simp only [kM1_ref w4, opIx_ref w5 hat, W_body, W_sSeq, W_sNx, W_sBk, W_sCt, W_sExpr, W_sRet, W_sRetN, W_sIf, W_sAsg, W_sPar, W_sAug, W_eC, W_eVar, W_eBin, W_eUn, W_eArgs, W_aNil, W_aCons, W_eAnd, W_eOr, W_eNot, W_eIf, W_eChain, W_tVal, W_tBl, W_tAnd, W_tOr, W_tNot, W_tTrue, W_oNone, W_oSome, W_eSl, W_eRev, W_eMethL, W_eCall, W_iSeq, W_iRange1, W_iRange2, W_iEnumS, W_iZipS, W_sFor, W_eComp, W_lcStep, W_gV, W_gUnpackVV, W_newF, W_newT, W_some,
 kBody_rt, kBody_nx, kSeq_nx, kSeq_rt, kSeq_bk, kSeq_ct, kExp_, kRet_, kIf_t, kIf_f, kAsg_V, kPar_, kAug_, kB1_, kB2_, kU_, kN_, kC1_, kC2_, kAnd_T, kAnd_F, kOr_T, kOr_F, kNot_B, kCh1_, kCh2_, kCh3_t, kCh3_f, kTV_B, kTB_B, kTA_t, kTA_f, kTO_t, kTO_f, kTN_, kOS_, kSl1_, kSl2_, kSl3_, kM2_, kK1_, kK2_, kSq_tup, kSq_lst, kSq_str, kEn_tup, kEn_lst, kZp_tup, kZp_lst, kFor_, kTurn_nx, kTurn_ct, kTurn_bk, kTurn_rt, kComp_, kLcT_t, kLcT_f,
 setAll, wipeE, pick, List.getElem?_cons_zero, List.getElem?_cons_succ, List.set_cons_zero, List.set_cons_succ, List.map_cons, List.map_nil, List.replicate_succ, List.replicate_zero, List.cons_append, List.nil_append, List.append_nil, List.length_cons, List.length_nil, List.filterMap_cons, List.filterMap_nil,
 Nat.reduceAdd, Nat.reduceSub, Nat.reduceLeDiff, Nat.reduceEqDiff, and_self, if_true, if_false, opAdd_int, opSub_int, opGt_int, opLt_int, opGe_int, opLe_int, opEq_int, opEq_str, opEq_bl, opNe_int, opNe_bl, opNe_str, bInt_int, bInt_bl, bAbs_int, truD_bl, truD_int, W_fLst, W_fTup, pow18, bLen_tup, bLen_lst, bTuple_lst, bTuple_tup, bList_lst, bList_tup]
      refine take_run t (n := n + 20 * (m - (k + 1))) (w3.bx.mono (by omega)) (by omega) (by omega) fun du S6 p1 p2 p3 p4 => ?_
      simp only [W_body, W_sSeq, W_sNx, W_sBk, W_sCt, W_sExpr, W_sRet, W_sRetN, W_sIf, W_sAsg, W_sPar, W_sAug, W_eC, W_eVar, W_eBin, W_eUn, W_eArgs, W_aNil, W_aCons, W_eAnd, W_eOr, W_eNot, W_eIf, W_eChain, W_tVal, W_tBl, W_tAnd, W_tOr, W_tNot, W_tTrue, W_oNone, W_oSome, W_eSl, W_eRev, W_eMethL, W_eCall, W_iSeq, W_iRange1, W_iRange2, W_iEnumS, W_iZipS, W_sFor, W_eComp, W_lcStep, W_gV, W_gUnpackVV, W_newF, W_newT, W_some,
 kBody_rt, kBody_nx, kSeq_nx, kSeq_rt, kSeq_bk, kSeq_ct, kExp_, kRet_, kIf_t, kIf_f, kAsg_V, kPar_, kAug_, kB1_, kB2_, kU_, kN_, kC1_, kC2_, kAnd_T, kAnd_F, kOr_T, kOr_F, kNot_B, kCh1_, kCh2_, kCh3_t, kCh3_f, kTV_B, kTB_B, kTA_t, kTA_f, kTO_t, kTO_f, kTN_, kOS_, kSl1_, kSl2_, kSl3_, kM2_, kK1_, kK2_, kSq_tup, kSq_lst, kSq_str, kEn_tup, kEn_lst, kZp_tup, kZp_lst, kFor_, kTurn_nx, kTurn_ct, kTurn_bk, kTurn_rt, kComp_, kLcT_t, kLcT_f,
 setAll, wipeE, pick, List.getElem?_cons_zero, List.getElem?_cons_succ, List.set_cons_zero, List.set_cons_succ, List.map_cons, List.map_nil, List.replicate_succ, List.replicate_zero, List.cons_append, List.nil_append, List.append_nil, List.length_cons, List.length_nil, List.filterMap_cons, List.filterMap_nil,
 Nat.reduceAdd, Nat.reduceSub, Nat.reduceLeDiff, Nat.reduceEqDiff, and_self, if_true, if_false, opAdd_int, opSub_int, opGt_int, opLt_int, opGe_int, opLe_int, opEq_int, opEq_str, opEq_bl, opNe_int, opNe_bl, opNe_str, bInt_int, bInt_bl, bAbs_int, truD_bl, truD_int, W_fLst, W_fTup, pow18, bLen_tup, bLen_lst, bTuple_lst, bTuple_tup, bList_lst, bList_tup]
      have w4' := p3.keep (by omega) w4
      rw [mAppend_run w4' (by simp; omega)]
      simp only [W_body, W_sSeq, W_sNx, W_sBk, W_sCt, W_sExpr, W_sRet, W_sRetN, W_sIf, W_sAsg, W_sPar, W_sAug, W_eC, W_eVar, W_eBin, W_eUn, W_eArgs, W_aNil, W_aCons, W_eAnd, W_eOr, W_eNot, W_eIf, W_eChain, W_tVal, W_tBl, W_tAnd, W_tOr, W_tNot, W_tTrue, W_oNone, W_oSome, W_eSl, W_eRev, W_eMethL, W_eCall, W_iSeq, W_iRange1, W_iRange2, W_iEnumS, W_iZipS, W_sFor, W_eComp, W_lcStep, W_gV, W_gUnpackVV, W_newF, W_newT, W_some,
 kBody_rt, kBody_nx, kSeq_nx, kSeq_rt, kSeq_bk, kSeq_ct, kExp_, kRet_, kIf_t, kIf_f, kAsg_V, kPar_, kAug_, kB1_, kB2_, kU_, kN_, kC1_, kC2_, kAnd_T, kAnd_F, kOr_T, kOr_F, kNot_B, kCh1_, kCh2_, kCh3_t, kCh3_f, kTV_B, kTB_B, kTA_t, kTA_f, kTO_t, kTO_f, kTN_, kOS_, kSl1_, kSl2_, kSl3_, kM2_, kK1_, kK2_, kSq_tup, kSq_lst, kSq_str, kEn_tup, kEn_lst, kZp_tup, kZp_lst, kFor_, kTurn_nx, kTurn_ct, kTurn_bk, kTurn_rt, kComp_, kLcT_t, kLcT_f,
 setAll, wipeE, pick, List.getElem?_cons_zero, List.getElem?_cons_succ, List.set_cons_zero, List.set_cons_succ, List.map_cons, List.map_nil, List.replicate_succ, List.replicate_zero, List.cons_append, List.nil_append, List.append_nil, List.length_cons, List.length_nil, List.filterMap_cons, List.filterMap_nil,
 Nat.reduceAdd, Nat.reduceSub, Nat.reduceLeDiff, Nat.reduceEqDiff, and_self, if_true, if_false, opAdd_int, opSub_int, opGt_int, opLt_int, opGe_int, opLe_int, opEq_int, opEq_str, opEq_bl, opNe_int, opNe_bl, opNe_str, bInt_int, bInt_bl, bAbs_int, truD_bl, truD_int, W_fLst, W_fTup, pow18, bLen_tup, bLen_lst, bTuple_lst, bTuple_tup, bList_lst, bList_tup]
      refine ⟨L ++ [⟨hs[k], du, ws⟩], _, _, _, rfl, by simp [h1], fun j hj => ?_, ?_, ?_, (w3.trans p3).above hi (Nat.le_refl _)⟩
      · by_cases hj' : j < L.length
        · rw [List.getElem_append_left hj']; exact h2 j hj'
        · have : j = L.length := by simp at hj; omega
          subst this
          rw [List.getElem_concat_length rfl]
          have := b2 k (by omega)
          refine ⟨this.1, by simp only; omega, p1, p2, ?_, wl, w2⟩
          rw [w1]
          exact ((List.take_sublist _ _).trans (List.take_sublist _ _)).trans f1
      · rw [List.getElem?_set_self (List.getElem?_eq_some_iff.mp w4').1, List.map_append]
        rfl
      · rw [List.getElem?_set_ne (by omega)]
        exact p3.keep (by omega) w5
    · rintro j hj acc S5 ⟨ws, rfl, w1, w2, w3, w4, w5⟩
      rw [hya hj]
      have hj' : j < (ys.take 4).length := by simpa using hj
      simp only [W_body, W_sSeq, W_sNx, W_sBk, W_sCt, W_sExpr, W_sRet, W_sRetN, W_sIf, W_sAsg, W_sPar, W_sAug, W_eC, W_eVar, W_eBin, W_eUn, W_eArgs, W_aNil, W_aCons, W_eAnd, W_eOr, W_eNot, W_eIf, W_eChain, W_tVal, W_tBl, W_tAnd, W_tOr, W_tNot, W_tTrue, W_oNone, W_oSome, W_eSl, W_eRev, W_eMethL, W_eCall, W_iSeq, W_iRange1, W_iRange2, W_iEnumS, W_iZipS, W_sFor, W_eComp, W_lcStep, W_gV, W_gUnpackVV, W_newF, W_newT, W_some,
 kBody_rt, kBody_nx, kSeq_nx, kSeq_rt, kSeq_bk, kSeq_ct, kExp_, kRet_, kIf_t, kIf_f, kAsg_V, kPar_, kAug_, kB1_, kB2_, kU_, kN_, kC1_, kC2_, kAnd_T, kAnd_F, kOr_T, kOr_F, kNot_B, kCh1_, kCh2_, kCh3_t, kCh3_f, kTV_B, kTB_B, kTA_t, kTA_f, kTO_t, kTO_f, kTN_, kOS_, kSl1_, kSl2_, kSl3_, kM2_, kK1_, kK2_, kSq_tup, kSq_lst, kSq_str, kEn_tup, kEn_lst, kZp_tup, kZp_lst, kFor_, kTurn_nx, kTurn_ct, kTurn_bk, kTurn_rt, kComp_, kLcT_t, kLcT_f,
 setAll, wipeE, pick, List.getElem?_cons_zero, List.getElem?_cons_succ, List.set_cons_zero, List.set_cons_succ, List.map_cons, List.map_nil, List.replicate_succ, List.replicate_zero, List.cons_append, List.nil_append, List.append_nil, List.length_cons, List.length_nil, List.filterMap_cons, List.filterMap_nil,
 Nat.reduceAdd, Nat.reduceSub, Nat.reduceLeDiff, Nat.reduceEqDiff, and_self, if_true, if_false, opAdd_int, opSub_int, opGt_int, opLt_int, opGe_int, opLe_int, opEq_int, opEq_str, opEq_bl, opNe_int, opNe_bl, opNe_str, bInt_int, bInt_bl, bAbs_int, truD_bl, truD_int, W_fLst, W_fTup, pow18, bLen_tup, bLen_lst, bTuple_lst, bTuple_tup, bList_lst, bList_tup]
      refine W.congF ho (of_run t (n := n + 20 * (m - (k + 1)) + 12 - 2 * (j + 1) + 1) (w3.bx.mono (by omega)) (by simp) (by simp) fun d S6 hd p3 p4 => ?_)
      simp only [W_body, W_sSeq, W_sNx, W_sBk, W_sCt, W_sExpr, W_sRet, W_sRetN, W_sIf, W_sAsg, W_sPar, W_sAug, W_eC, W_eVar, W_eBin, W_eUn, W_eArgs, W_aNil, W_aCons, W_eAnd, W_eOr, W_eNot, W_eIf, W_eChain, W_tVal, W_tBl, W_tAnd, W_tOr, W_tNot, W_tTrue, W_oNone, W_oSome, W_eSl, W_eRev, W_eMethL, W_eCall, W_iSeq, W_iRange1, W_iRange2, W_iEnumS, W_iZipS, W_sFor, W_eComp, W_lcStep, W_gV, W_gUnpackVV, W_newF, W_newT, W_some,
 kBody_rt, kBody_nx, kSeq_nx, kSeq_rt, kSeq_bk, kSeq_ct, kExp_, kRet_, kIf_t, kIf_f, kAsg_V, kPar_, kAug_, kB1_, kB2_, kU_, kN_, kC1_, kC2_, kAnd_T, kAnd_F, kOr_T, kOr_F, kNot_B, kCh1_, kCh2_, kCh3_t, kCh3_f, kTV_B, kTB_B, kTA_t, kTA_f, kTO_t, kTO_f, kTN_, kOS_, kSl1_, kSl2_, kSl3_, kM2_, kK1_, kK2_, kSq_tup, kSq_lst, kSq_str, kEn_tup, kEn_lst, kZp_tup, kZp_lst, kFor_, kTurn_nx, kTurn_ct, kTurn_bk, kTurn_rt, kComp_, kLcT_t, kLcT_f,
 setAll, wipeE, pick, List.getElem?_cons_zero, List.getElem?_cons_succ, List.set_cons_zero, List.set_cons_succ, List.map_cons, List.map_nil, List.replicate_succ, List.replicate_zero, List.cons_append, List.nil_append, List.append_nil, List.length_cons, List.length_nil, List.filterMap_cons, List.filterMap_nil,
 Nat.reduceAdd, Nat.reduceSub, Nat.reduceLeDiff, Nat.reduceEqDiff, and_self, if_true, if_false, opAdd_int, opSub_int, opGt_int, opLt_int, opGe_int, opLe_int, opEq_int, opEq_str, opEq_bl, opNe_int, opNe_bl, opNe_str, bInt_int, bInt_bl, bAbs_int, truD_bl, truD_int, W_fLst, W_fTup, pow18, bLen_tup, bLen_lst, bTuple_lst, bTuple_tup, bList_lst, bList_tup]
      refine take_run t (n := n + 20 * (m - (k + 1)) + 12 - 2 * (j + 1)) (p3.bx.mono (by omega)) (by omega) (by omega) fun am S7 p5 p6 p7 p8 => ?_
      have hw : ∃ w : Str, d = .str w ∧ (w = sPut ∨ w = sAdd) := by
        simp only [List.mem_cons, List.not_mem_nil, or_false] at hd
        rcases hd with rfl | rfl | rfl
        · exact ⟨_, rfl, .inl rfl⟩
        · exact ⟨_, rfl, .inl rfl⟩
        · exact ⟨_, rfl, .inr rfl⟩
      obtain ⟨w, rfl, hw⟩ := hw
      simp only [W_body, W_sSeq, W_sNx, W_sBk, W_sCt, W_sExpr, W_sRet, W_sRetN, W_sIf, W_sAsg, W_sPar, W_sAug, W_eC, W_eVar, W_eBin, W_eUn, W_eArgs, W_aNil, W_aCons, W_eAnd, W_eOr, W_eNot, W_eIf, W_eChain, W_tVal, W_tBl, W_tAnd, W_tOr, W_tNot, W_tTrue, W_oNone, W_oSome, W_eSl, W_eRev, W_eMethL, W_eCall, W_iSeq, W_iRange1, W_iRange2, W_iEnumS, W_iZipS, W_sFor, W_eComp, W_lcStep, W_gV, W_gUnpackVV, W_newF, W_newT, W_some,
 kBody_rt, kBody_nx, kSeq_nx, kSeq_rt, kSeq_bk, kSeq_ct, kExp_, kRet_, kIf_t, kIf_f, kAsg_V, kPar_, kAug_, kB1_, kB2_, kU_, kN_, kC1_, kC2_, kAnd_T, kAnd_F, kOr_T, kOr_F, kNot_B, kCh1_, kCh2_, kCh3_t, kCh3_f, kTV_B, kTB_B, kTA_t, kTA_f, kTO_t, kTO_f, kTN_, kOS_, kSl1_, kSl2_, kSl3_, kM2_, kK1_, kK2_, kSq_tup, kSq_lst, kSq_str, kEn_tup, kEn_lst, kZp_tup, kZp_lst, kFor_, kTurn_nx, kTurn_ct, kTurn_bk, kTurn_rt, kComp_, kLcT_t, kLcT_f,
 setAll, wipeE, pick, List.getElem?_cons_zero, List.getElem?_cons_succ, List.set_cons_zero, List.set_cons_succ, List.map_cons, List.map_nil, List.replicate_succ, List.replicate_zero, List.cons_append, List.nil_append, List.append_nil, List.length_cons, List.length_nil, List.filterMap_cons, List.filterMap_nil,
 Nat.reduceAdd, Nat.reduceSub, Nat.reduceLeDiff, Nat.reduceEqDiff, and_self, if_true, if_false, opAdd_int, opSub_int, opGt_int, opLt_int, opGe_int, opLe_int, opEq_int, opEq_str, opEq_bl, opNe_int, opNe_bl, opNe_str, bInt_int, bInt_bl, bAbs_int, truD_bl, truD_int, W_fLst, W_fTup, pow18, bLen_tup, bLen_lst, bTuple_lst, bTuple_tup, bList_lst, bList_tup]
      refine ⟨ws ++ [⟨(ys.take 4)[j], w, am - 9⟩], by rw [List.map_append]; rfl, ?_, ?_, (w3.trans (p3.trans p7)), (p3.trans p7).keep (by omega) w4, (p3.trans p7).keep (by omega) w5⟩
      · rw [List.map_append, w1, List.take_succ_eq_append_getElem hj']
        rfl
      · intro x hx
        rcases List.mem_append.mp hx with hx | hx
        · exact w2 x hx
        · rw [List.mem_singleton] at hx
          subst hx
          exact ⟨hw, by simp only; omega, by simp only; omega⟩
end AW

namespace AW
open PySem PySem.Spec PyProof.Rows L2

mutual
/-- how deep -/
def dep : D → Nat
  | .tup ds => deps ds + 1
  | .lst _ ds => deps ds + 1
  | _ => 0
def deps : List D → Nat
  | [] => 0
  | d :: ds => max (dep d) (deps ds)
end
mutual
/-- no cell, no foreign list, nothing too long -/
def cl : D → Bool
  | .tup ds => decide (ds.length ≤ LIM) && cls ds
  | .lst .ext _ => false
  | .lst .frz ds => decide (ds.length ≤ LIM) && cls ds
  | .lst .bor ds => decide (ds.length ≤ LIM) && cls ds
  | .ref _ => false
  | _ => true
def cls : List D → Bool
  | [] => true
  | d :: ds => cl d && cls ds
end
theorem cl_tup {ds : List D} (h : cl (.tup ds) = true) : ds.length ≤ LIM ∧ cls ds = true := by simpa only [cl, Bool.and_eq_true, decide_eq_true_eq] using h
theorem cl_frz {ds : List D} (h : cl (.lst .frz ds) = true) : ds.length ≤ LIM ∧ cls ds = true := by simpa only [cl, Bool.and_eq_true, decide_eq_true_eq] using h
theorem cl_bor {ds : List D} (h : cl (.lst .bor ds) = true) : ds.length ≤ LIM ∧ cls ds = true := by simpa only [cl, Bool.and_eq_true, decide_eq_true_eq] using h
mutual
/-- tuples made lists -/
def toL : D → D
  | .tup ds => .lst .frz (toLs ds)
  | .lst _ ds => .lst .frz (toLs ds)
  | d => d
def toLs : List D → List D
  | [] => []
  | d :: ds => toL d :: toLs ds
end
mutual
/-- every list of one kind -/
def kd : D → D
  | .tup ds => .tup (kds ds)
  | .lst _ ds => .lst .frz (kds ds)
  | d => d
def kds : List D → List D
  | [] => []
  | d :: ds => kd d :: kds ds
end
theorem kds_map : ∀ ds : List D, kds ds = ds.map kd
  | [] => rfl
  | d :: ds => by simp only [kds, kds_map ds, List.map_cons]
theorem toLs_map : ∀ ds : List D, toLs ds = ds.map toL
  | [] => rfl
  | d :: ds => by simp only [toLs, toLs_map ds, List.map_cons]
theorem cls_in : ∀ {ds : List D} {d : D}, cls ds = true → d ∈ ds → cl d = true
  | x :: xs, d, h, hd => by
    simp only [cls, Bool.and_eq_true] at h
    rcases List.mem_cons.mp hd with rfl | hd
    · exact h.1
    · exact cls_in h.2 hd
theorem deps_in : ∀ {ds : List D} {d : D}, d ∈ ds → dep d ≤ deps ds
  | x :: xs, d, hd => by
    simp only [deps]
    rcases List.mem_cons.mp hd with rfl | hd
    · omega
    · have := deps_in hd; omega
mutual
theorem cl_pl : ∀ {d : D}, cl d = true → pl d = true
  | .non, _ => rfl
  | .bl _, _ => rfl
  | .int _, _ => rfl
  | .str _, _ => rfl
  | .ref _, h => by cases h
  | .tup ds, h => by simp only [pl]; exact cls_pls (cl_tup h).2
  | .lst .ext ds, h => by cases h
  | .lst .frz ds, h => by simp only [pl]; exact cls_pls (cl_frz h).2
  | .lst .bor ds, h => by simp only [pl]; exact cls_pls (cl_bor h).2
theorem cls_pls : ∀ {ds : List D}, cls ds = true → pls ds = true
  | [], _ => rfl
  | d :: ds, h => by
    simp only [cls, Bool.and_eq_true] at h
    simp only [pls, cl_pl h.1, cls_pls h.2, Bool.and_self]
end
mutual
theorem toL_nb : ∀ {d : D}, cl d = true → nb (toL d) = true
  | .non, _ => rfl
  | .bl _, _ => rfl
  | .int _, _ => rfl
  | .str _, _ => rfl
  | .ref _, h => by cases h
  | .tup ds, h => by simp only [toL, nb]; exact toLs_nb (cl_tup h).2
  | .lst .ext ds, h => by cases h
  | .lst .frz ds, h => by simp only [toL, nb]; exact toLs_nb (cl_frz h).2
  | .lst .bor ds, h => by simp only [toL, nb]; exact toLs_nb (cl_bor h).2
theorem toLs_nb : ∀ {ds : List D}, cls ds = true → nbs (toLs ds) = true
  | [], _ => rfl
  | d :: ds, h => by
    simp only [cls, Bool.and_eq_true] at h
    simp only [toLs, nbs, toL_nb h.1, toLs_nb h.2, Bool.and_self]
end
section
variable {S : Sto} {ts : List Ty}
theorem isi_non : opIsi ts .non S = some (.bl (ts.any (isTy .non)), S) := rfl
theorem isi_bl {b : Bool} : opIsi ts (.bl b) S = some (.bl (ts.any (isTy .bl)), S) := rfl
theorem isi_int {b : Int} : opIsi ts (.int b) S = some (.bl (ts.any (isTy .int)), S) := rfl
theorem isi_str {b : Str} : opIsi ts (.str b) S = some (.bl (ts.any (isTy .str)), S) := rfl
theorem isi_tup {ds : List D} : opIsi ts (.tup ds) S = some (.bl (ts.any (isTy .tup)), S) := rfl
theorem isi_frz {ds : List D} : opIsi ts (.lst .frz ds) S = some (.bl (ts.any (isTy .lst)), S) := rfl
theorem isi_bor {ds : List D} : opIsi ts (.lst .bor ds) S = some (.bl (ts.any (isTy .lst)), S) := rfl
end
def listsSem (lists : OpN) : SemS := (sRet (eIf (tVal (eUn (opIsi [Ty.lst, Ty.tup]) (eVar 0))) (eComp false (iSeq (eVar 0)) (gV 1) tTrue (eCall (callP false lists) 1 0 1 [] [0] (aCons (eVar 1) aNil) aNil) [1]) (eVar 0)))
theorem filterMap_some {α β : Type} {f : α → β} (l : List α) : l.filterMap (fun d => some (f d)) = l.map f := by induction l with
  | nil => rfl
  | cons x l ih => simp [ih]
theorem lists_run {f : Nat → OpN} (h : ∀ k, f (k + 1) = body 2 (listsSem (f k))) : ∀ (k : Nat) (d : D) (S : Sto), dep d ≤ k → cl d = true → f (k + 1) [d] S = some (toL d, S) := by
  intro k
  induction k with
  | zero =>
    intro d S hd hc
    refine W_get ?_
    rw [h]
    unfold listsSem
    cases d with
    | tup ds => simp [dep] at hd
    | lst q ds => simp [dep] at hd
    | ref i => cases hc
    | _ =>
      simp only [W_body, W_sSeq, W_sNx, W_sBk, W_sCt, W_sExpr, W_sRet, W_sRetN, W_sIf, W_sAsg, W_sPar, W_sAug, W_eC, W_eVar, W_eBin, W_eUn, W_eArgs, W_aNil, W_aCons, W_eAnd, W_eOr, W_eNot, W_eIf, W_eChain, W_tVal, W_tBl, W_tAnd, W_tOr, W_tNot, W_tTrue, W_oNone, W_oSome, W_eSl, W_eRev, W_eMethL, W_eCall, W_iSeq, W_iRange1, W_iRange2, W_iEnumS, W_iZipS, W_sFor, W_eComp, W_lcStep, W_gV, W_gUnpackVV, W_newF, W_newT, W_some,
 kBody_rt, kBody_nx, kSeq_nx, kSeq_rt, kSeq_bk, kSeq_ct, kExp_, kRet_, kIf_t, kIf_f, kAsg_V, kPar_, kAug_, kB1_, kB2_, kU_, kN_, kC1_, kC2_, kAnd_T, kAnd_F, kOr_T, kOr_F, kNot_B, kCh1_, kCh2_, kCh3_t, kCh3_f, kTV_B, kTB_B, kTA_t, kTA_f, kTO_t, kTO_f, kTN_, kOS_, kSl1_, kSl2_, kSl3_, kM2_, kK1_, kK2_, kSq_tup, kSq_lst, kSq_str, kEn_tup, kEn_lst, kZp_tup, kZp_lst, kFor_, kTurn_nx, kTurn_ct, kTurn_bk, kTurn_rt, kComp_, kLcT_t, kLcT_f,
 setAll, wipeE, pick, List.getElem?_cons_zero, List.getElem?_cons_succ, List.set_cons_zero, List.set_cons_succ, List.map_cons, List.map_nil, List.replicate_succ, List.replicate_zero, List.cons_append, List.nil_append, List.append_nil, List.length_cons, List.length_nil, List.filterMap_cons, List.filterMap_nil,
 Nat.reduceAdd, Nat.reduceSub, Nat.reduceLeDiff, Nat.reduceEqDiff, and_self, if_true, if_false, opAdd_int, opSub_int, opGt_int, opLt_int, opGe_int, opLe_int, opEq_int, opEq_str, opEq_bl, opNe_int, opNe_bl, opNe_str, bInt_int, bInt_bl, bAbs_int, truD_bl, truD_int, W_fLst, W_fTup, pow18, bLen_tup, bLen_lst, bTuple_lst, bTuple_tup, bList_lst, bList_tup, isi_non, isi_bl, isi_int, isi_str]
      simp [isTy, kIf_f, toL, W_body, W_sSeq, W_sNx, W_sBk, W_sCt, W_sExpr, W_sRet, W_sRetN, W_sIf, W_sAsg, W_sPar, W_sAug, W_eC, W_eVar, W_eBin, W_eUn, W_eArgs, W_aNil, W_aCons, W_eAnd, W_eOr, W_eNot, W_eIf, W_eChain, W_tVal, W_tBl, W_tAnd, W_tOr, W_tNot, W_tTrue, W_oNone, W_oSome, W_eSl, W_eRev, W_eMethL, W_eCall, W_iSeq, W_iRange1, W_iRange2, W_iEnumS, W_iZipS, W_sFor, W_eComp, W_lcStep, W_gV, W_gUnpackVV, W_newF, W_newT, W_some,
 kBody_rt, kBody_nx, kSeq_nx, kSeq_rt, kSeq_bk, kSeq_ct, kExp_, kRet_, kIf_t, kIf_f, kAsg_V, kPar_, kAug_, kB1_, kB2_, kU_, kN_, kC1_, kC2_, kAnd_T, kAnd_F, kOr_T, kOr_F, kNot_B, kCh1_, kCh2_, kCh3_t, kCh3_f, kTV_B, kTB_B, kTA_t, kTA_f, kTO_t, kTO_f, kTN_, kOS_, kSl1_, kSl2_, kSl3_, kM2_, kK1_, kK2_, kSq_tup, kSq_lst, kSq_str, kEn_tup, kEn_lst, kZp_tup, kZp_lst, kFor_, kTurn_nx, kTurn_ct, kTurn_bk, kTurn_rt, kComp_, kLcT_t, kLcT_f,
 setAll, wipeE, pick, List.getElem?_cons_zero, List.getElem?_cons_succ, List.set_cons_zero, List.set_cons_succ, List.map_cons, List.map_nil, List.replicate_succ, List.replicate_zero, List.cons_append, List.nil_append, List.append_nil, List.length_cons, List.length_nil, List.filterMap_cons, List.filterMap_nil,
 Nat.reduceAdd, Nat.reduceSub, Nat.reduceLeDiff, Nat.reduceEqDiff, and_self, if_true, if_false, opAdd_int, opSub_int, opGt_int, opLt_int, opGe_int, opLe_int, opEq_int, opEq_str, opEq_bl, opNe_int, opNe_bl, opNe_str, bInt_int, bInt_bl, bAbs_int, truD_bl, truD_int, W_fLst, W_fTup, pow18, bLen_tup, bLen_lst, bTuple_lst, bTuple_tup, bList_lst, bList_tup]
  | succ k ih =>
    intro d S hd hc
    have step : ∀ ds : List D, deps ds ≤ k → cls ds = true → ∀ x : Option D, lcLoop (lcStep (gV 1) tTrue (eCall (callP false (f (k + 1))) 1 0 1 [] [0] (aCons (eVar 1) aNil) aNil) [1] [x, none]) [] ds [] S = some (ds.map toL, S) := fun ds h1 h2 x => by
      rw [lc_pure (f := fun d => some (toL d)) rfl ds [] fun d hd => ?_]
      · rw [filterMap_some, List.nil_append]
      · have hcd := cls_in h2 hd
        have e : callP false (f (k + 1)) [d] S = some (toL d, S) := W_callE (Sc := []) (by simp only [pls, cl_pl hcd, Bool.and_self]) (ih d [] (Nat.le_trans (deps_in hd) h1) hcd) (frz_nb (toL_nb hcd))
        refine W_get ?_
        simp only [W_body, W_sSeq, W_sNx, W_sBk, W_sCt, W_sExpr, W_sRet, W_sRetN, W_sIf, W_sAsg, W_sPar, W_sAug, W_eC, W_eVar, W_eBin, W_eUn, W_eArgs, W_aNil, W_aCons, W_eAnd, W_eOr, W_eNot, W_eIf, W_eChain, W_tVal, W_tBl, W_tAnd, W_tOr, W_tNot, W_tTrue, W_oNone, W_oSome, W_eSl, W_eRev, W_eMethL, W_eCall, W_iSeq, W_iRange1, W_iRange2, W_iEnumS, W_iZipS, W_sFor, W_eComp, W_lcStep, W_gV, W_gUnpackVV, W_newF, W_newT, W_some,
 kBody_rt, kBody_nx, kSeq_nx, kSeq_rt, kSeq_bk, kSeq_ct, kExp_, kRet_, kIf_t, kIf_f, kAsg_V, kPar_, kAug_, kB1_, kB2_, kU_, kN_, kC1_, kC2_, kAnd_T, kAnd_F, kOr_T, kOr_F, kNot_B, kCh1_, kCh2_, kCh3_t, kCh3_f, kTV_B, kTB_B, kTA_t, kTA_f, kTO_t, kTO_f, kTN_, kOS_, kSl1_, kSl2_, kSl3_, kM2_, kK1_, kK2_, kSq_tup, kSq_lst, kSq_str, kEn_tup, kEn_lst, kZp_tup, kZp_lst, kFor_, kTurn_nx, kTurn_ct, kTurn_bk, kTurn_rt, kComp_, kLcT_t, kLcT_f,
 setAll, wipeE, pick, List.getElem?_cons_zero, List.getElem?_cons_succ, List.set_cons_zero, List.set_cons_succ, List.map_cons, List.map_nil, List.replicate_succ, List.replicate_zero, List.cons_append, List.nil_append, List.append_nil, List.length_cons, List.length_nil, List.filterMap_cons, List.filterMap_nil,
 Nat.reduceAdd, Nat.reduceSub, Nat.reduceLeDiff, Nat.reduceEqDiff, and_self, if_true, if_false, opAdd_int, opSub_int, opGt_int, opLt_int, opGe_int, opLe_int, opEq_int, opEq_str, opEq_bl, opNe_int, opNe_bl, opNe_str, bInt_int, bInt_bl, bAbs_int, truD_bl, truD_int, W_fLst, W_fTup, pow18, bLen_tup, bLen_lst, bTuple_lst, bTuple_tup, bList_lst, bList_tup, e]
    refine W_get ?_
    rw [h]
    unfold listsSem
    cases d with
    | tup ds =>
      simp only [dep] at hd
      obtain ⟨hl, hc'⟩ := cl_tup hc
      simp only [W_body, W_sSeq, W_sNx, W_sBk, W_sCt, W_sExpr, W_sRet, W_sRetN, W_sIf, W_sAsg, W_sPar, W_sAug, W_eC, W_eVar, W_eBin, W_eUn, W_eArgs, W_aNil, W_aCons, W_eAnd, W_eOr, W_eNot, W_eIf, W_eChain, W_tVal, W_tBl, W_tAnd, W_tOr, W_tNot, W_tTrue, W_oNone, W_oSome, W_eSl, W_eRev, W_eMethL, W_eCall, W_iSeq, W_iRange1, W_iRange2, W_iEnumS, W_iZipS, W_sFor, W_eComp, W_lcStep, W_gV, W_gUnpackVV, W_newF, W_newT, W_some,
 kBody_rt, kBody_nx, kSeq_nx, kSeq_rt, kSeq_bk, kSeq_ct, kExp_, kRet_, kIf_t, kIf_f, kAsg_V, kPar_, kAug_, kB1_, kB2_, kU_, kN_, kC1_, kC2_, kAnd_T, kAnd_F, kOr_T, kOr_F, kNot_B, kCh1_, kCh2_, kCh3_t, kCh3_f, kTV_B, kTB_B, kTA_t, kTA_f, kTO_t, kTO_f, kTN_, kOS_, kSl1_, kSl2_, kSl3_, kM2_, kK1_, kK2_, kSq_tup, kSq_lst, kSq_str, kEn_tup, kEn_lst, kZp_tup, kZp_lst, kFor_, kTurn_nx, kTurn_ct, kTurn_bk, kTurn_rt, kComp_, kLcT_t, kLcT_f,
 setAll, wipeE, pick, List.getElem?_cons_zero, List.getElem?_cons_succ, List.set_cons_zero, List.set_cons_succ, List.map_cons, List.map_nil, List.replicate_succ, List.replicate_zero, List.cons_append, List.nil_append, List.append_nil, List.length_cons, List.length_nil, List.filterMap_cons, List.filterMap_nil,
 Nat.reduceAdd, Nat.reduceSub, Nat.reduceLeDiff, Nat.reduceEqDiff, and_self, if_true, if_false, opAdd_int, opSub_int, opGt_int, opLt_int, opGe_int, opLe_int, opEq_int, opEq_str, opEq_bl, opNe_int, opNe_bl, opNe_str, bInt_int, bInt_bl, bAbs_int, truD_bl, truD_int, W_fLst, W_fTup, pow18, bLen_tup, bLen_lst, bTuple_lst, bTuple_tup, bList_lst, bList_tup, isi_tup]
      rw [show ([Ty.lst, Ty.tup].any (isTy .tup)) = true from rfl, kIf_t]
      simp only [W_body, W_sSeq, W_sNx, W_sBk, W_sCt, W_sExpr, W_sRet, W_sRetN, W_sIf, W_sAsg, W_sPar, W_sAug, W_eC, W_eVar, W_eBin, W_eUn, W_eArgs, W_aNil, W_aCons, W_eAnd, W_eOr, W_eNot, W_eIf, W_eChain, W_tVal, W_tBl, W_tAnd, W_tOr, W_tNot, W_tTrue, W_oNone, W_oSome, W_eSl, W_eRev, W_eMethL, W_eCall, W_iSeq, W_iRange1, W_iRange2, W_iEnumS, W_iZipS, W_sFor, W_eComp, W_lcStep, W_gV, W_gUnpackVV, W_newF, W_newT, W_some,
 kBody_rt, kBody_nx, kSeq_nx, kSeq_rt, kSeq_bk, kSeq_ct, kExp_, kRet_, kIf_t, kIf_f, kAsg_V, kPar_, kAug_, kB1_, kB2_, kU_, kN_, kC1_, kC2_, kAnd_T, kAnd_F, kOr_T, kOr_F, kNot_B, kCh1_, kCh2_, kCh3_t, kCh3_f, kTV_B, kTB_B, kTA_t, kTA_f, kTO_t, kTO_f, kTN_, kOS_, kSl1_, kSl2_, kSl3_, kM2_, kK1_, kK2_, kSq_tup, kSq_lst, kSq_str, kEn_tup, kEn_lst, kZp_tup, kZp_lst, kFor_, kTurn_nx, kTurn_ct, kTurn_bk, kTurn_rt, kComp_, kLcT_t, kLcT_f,
 setAll, wipeE, pick, List.getElem?_cons_zero, List.getElem?_cons_succ, List.set_cons_zero, List.set_cons_succ, List.map_cons, List.map_nil, List.replicate_succ, List.replicate_zero, List.cons_append, List.nil_append, List.append_nil, List.length_cons, List.length_nil, List.filterMap_cons, List.filterMap_nil,
 Nat.reduceAdd, Nat.reduceSub, Nat.reduceLeDiff, Nat.reduceEqDiff, and_self, if_true, if_false, opAdd_int, opSub_int, opGt_int, opLt_int, opGe_int, opLe_int, opEq_int, opEq_str, opEq_bl, opNe_int, opNe_bl, opNe_str, bInt_int, bInt_bl, bAbs_int, truD_bl, truD_int, W_fLst, W_fTup, pow18, bLen_tup, bLen_lst, bTuple_lst, bTuple_tup, bList_lst, bList_tup, step ds (by omega) hc', toL, toLs_map]
      exact ⟨hl, trivial⟩
    | lst q ds =>
      simp only [dep] at hd
      cases q with
      | ext => cases hc
      | frz =>
        obtain ⟨hl, hc'⟩ := cl_frz hc
        simp only [W_body, W_sSeq, W_sNx, W_sBk, W_sCt, W_sExpr, W_sRet, W_sRetN, W_sIf, W_sAsg, W_sPar, W_sAug, W_eC, W_eVar, W_eBin, W_eUn, W_eArgs, W_aNil, W_aCons, W_eAnd, W_eOr, W_eNot, W_eIf, W_eChain, W_tVal, W_tBl, W_tAnd, W_tOr, W_tNot, W_tTrue, W_oNone, W_oSome, W_eSl, W_eRev, W_eMethL, W_eCall, W_iSeq, W_iRange1, W_iRange2, W_iEnumS, W_iZipS, W_sFor, W_eComp, W_lcStep, W_gV, W_gUnpackVV, W_newF, W_newT, W_some,
 kBody_rt, kBody_nx, kSeq_nx, kSeq_rt, kSeq_bk, kSeq_ct, kExp_, kRet_, kIf_t, kIf_f, kAsg_V, kPar_, kAug_, kB1_, kB2_, kU_, kN_, kC1_, kC2_, kAnd_T, kAnd_F, kOr_T, kOr_F, kNot_B, kCh1_, kCh2_, kCh3_t, kCh3_f, kTV_B, kTB_B, kTA_t, kTA_f, kTO_t, kTO_f, kTN_, kOS_, kSl1_, kSl2_, kSl3_, kM2_, kK1_, kK2_, kSq_tup, kSq_lst, kSq_str, kEn_tup, kEn_lst, kZp_tup, kZp_lst, kFor_, kTurn_nx, kTurn_ct, kTurn_bk, kTurn_rt, kComp_, kLcT_t, kLcT_f,
 setAll, wipeE, pick, List.getElem?_cons_zero, List.getElem?_cons_succ, List.set_cons_zero, List.set_cons_succ, List.map_cons, List.map_nil, List.replicate_succ, List.replicate_zero, List.cons_append, List.nil_append, List.append_nil, List.length_cons, List.length_nil, List.filterMap_cons, List.filterMap_nil,
 Nat.reduceAdd, Nat.reduceSub, Nat.reduceLeDiff, Nat.reduceEqDiff, and_self, if_true, if_false, opAdd_int, opSub_int, opGt_int, opLt_int, opGe_int, opLe_int, opEq_int, opEq_str, opEq_bl, opNe_int, opNe_bl, opNe_str, bInt_int, bInt_bl, bAbs_int, truD_bl, truD_int, W_fLst, W_fTup, pow18, bLen_tup, bLen_lst, bTuple_lst, bTuple_tup, bList_lst, bList_tup, isi_frz]
        rw [show ([Ty.lst, Ty.tup].any (isTy .lst)) = true from rfl, kIf_t]
        simp only [W_body, W_sSeq, W_sNx, W_sBk, W_sCt, W_sExpr, W_sRet, W_sRetN, W_sIf, W_sAsg, W_sPar, W_sAug, W_eC, W_eVar, W_eBin, W_eUn, W_eArgs, W_aNil, W_aCons, W_eAnd, W_eOr, W_eNot, W_eIf, W_eChain, W_tVal, W_tBl, W_tAnd, W_tOr, W_tNot, W_tTrue, W_oNone, W_oSome, W_eSl, W_eRev, W_eMethL, W_eCall, W_iSeq, W_iRange1, W_iRange2, W_iEnumS, W_iZipS, W_sFor, W_eComp, W_lcStep, W_gV, W_gUnpackVV, W_newF, W_newT, W_some,
 kBody_rt, kBody_nx, kSeq_nx, kSeq_rt, kSeq_bk, kSeq_ct, kExp_, kRet_, kIf_t, kIf_f, kAsg_V, kPar_, kAug_, kB1_, kB2_, kU_, kN_, kC1_, kC2_, kAnd_T, kAnd_F, kOr_T, kOr_F, kNot_B, kCh1_, kCh2_, kCh3_t, kCh3_f, kTV_B, kTB_B, kTA_t, kTA_f, kTO_t, kTO_f, kTN_, kOS_, kSl1_, kSl2_, kSl3_, kM2_, kK1_, kK2_, kSq_tup, kSq_lst, kSq_str, kEn_tup, kEn_lst, kZp_tup, kZp_lst, kFor_, kTurn_nx, kTurn_ct, kTurn_bk, kTurn_rt, kComp_, kLcT_t, kLcT_f,
 setAll, wipeE, pick, List.getElem?_cons_zero, List.getElem?_cons_succ, List.set_cons_zero, List.set_cons_succ, List.map_cons, List.map_nil, List.replicate_succ, List.replicate_zero, List.cons_append, List.nil_append, List.append_nil, List.length_cons, List.length_nil, List.filterMap_cons, List.filterMap_nil,
 Nat.reduceAdd, Nat.reduceSub, Nat.reduceLeDiff, Nat.reduceEqDiff, and_self, if_true, if_false, opAdd_int, opSub_int, opGt_int, opLt_int, opGe_int, opLe_int, opEq_int, opEq_str, opEq_bl, opNe_int, opNe_bl, opNe_str, bInt_int, bInt_bl, bAbs_int, truD_bl, truD_int, W_fLst, W_fTup, pow18, bLen_tup, bLen_lst, bTuple_lst, bTuple_tup, bList_lst, bList_tup, step ds (by omega) hc', toL, toLs_map]
        exact ⟨hl, trivial⟩
      | bor =>
        obtain ⟨hl, hc'⟩ := cl_bor hc
        simp only [W_body, W_sSeq, W_sNx, W_sBk, W_sCt, W_sExpr, W_sRet, W_sRetN, W_sIf, W_sAsg, W_sPar, W_sAug, W_eC, W_eVar, W_eBin, W_eUn, W_eArgs, W_aNil, W_aCons, W_eAnd, W_eOr, W_eNot, W_eIf, W_eChain, W_tVal, W_tBl, W_tAnd, W_tOr, W_tNot, W_tTrue, W_oNone, W_oSome, W_eSl, W_eRev, W_eMethL, W_eCall, W_iSeq, W_iRange1, W_iRange2, W_iEnumS, W_iZipS, W_sFor, W_eComp, W_lcStep, W_gV, W_gUnpackVV, W_newF, W_newT, W_some,
 kBody_rt, kBody_nx, kSeq_nx, kSeq_rt, kSeq_bk, kSeq_ct, kExp_, kRet_, kIf_t, kIf_f, kAsg_V, kPar_, kAug_, kB1_, kB2_, kU_, kN_, kC1_, kC2_, kAnd_T, kAnd_F, kOr_T, kOr_F, kNot_B, kCh1_, kCh2_, kCh3_t, kCh3_f, kTV_B, kTB_B, kTA_t, kTA_f, kTO_t, kTO_f, kTN_, kOS_, kSl1_, kSl2_, kSl3_, kM2_, kK1_, kK2_, kSq_tup, kSq_lst, kSq_str, kEn_tup, kEn_lst, kZp_tup, kZp_lst, kFor_, kTurn_nx, kTurn_ct, kTurn_bk, kTurn_rt, kComp_, kLcT_t, kLcT_f,
 setAll, wipeE, pick, List.getElem?_cons_zero, List.getElem?_cons_succ, List.set_cons_zero, List.set_cons_succ, List.map_cons, List.map_nil, List.replicate_succ, List.replicate_zero, List.cons_append, List.nil_append, List.append_nil, List.length_cons, List.length_nil, List.filterMap_cons, List.filterMap_nil,
 Nat.reduceAdd, Nat.reduceSub, Nat.reduceLeDiff, Nat.reduceEqDiff, and_self, if_true, if_false, opAdd_int, opSub_int, opGt_int, opLt_int, opGe_int, opLe_int, opEq_int, opEq_str, opEq_bl, opNe_int, opNe_bl, opNe_str, bInt_int, bInt_bl, bAbs_int, truD_bl, truD_int, W_fLst, W_fTup, pow18, bLen_tup, bLen_lst, bTuple_lst, bTuple_tup, bList_lst, bList_tup, isi_bor]
        rw [show ([Ty.lst, Ty.tup].any (isTy .lst)) = true from rfl, kIf_t]
        simp only [W_body, W_sSeq, W_sNx, W_sBk, W_sCt, W_sExpr, W_sRet, W_sRetN, W_sIf, W_sAsg, W_sPar, W_sAug, W_eC, W_eVar, W_eBin, W_eUn, W_eArgs, W_aNil, W_aCons, W_eAnd, W_eOr, W_eNot, W_eIf, W_eChain, W_tVal, W_tBl, W_tAnd, W_tOr, W_tNot, W_tTrue, W_oNone, W_oSome, W_eSl, W_eRev, W_eMethL, W_eCall, W_iSeq, W_iRange1, W_iRange2, W_iEnumS, W_iZipS, W_sFor, W_eComp, W_lcStep, W_gV, W_gUnpackVV, W_newF, W_newT, W_some,
 kBody_rt, kBody_nx, kSeq_nx, kSeq_rt, kSeq_bk, kSeq_ct, kExp_, kRet_, kIf_t, kIf_f, kAsg_V, kPar_, kAug_, kB1_, kB2_, kU_, kN_, kC1_, kC2_, kAnd_T, kAnd_F, kOr_T, kOr_F, kNot_B, kCh1_, kCh2_, kCh3_t, kCh3_f, kTV_B, kTB_B, kTA_t, kTA_f, kTO_t, kTO_f, kTN_, kOS_, kSl1_, kSl2_, kSl3_, kM2_, kK1_, kK2_, kSq_tup, kSq_lst, kSq_str, kEn_tup, kEn_lst, kZp_tup, kZp_lst, kFor_, kTurn_nx, kTurn_ct, kTurn_bk, kTurn_rt, kComp_, kLcT_t, kLcT_f,
 setAll, wipeE, pick, List.getElem?_cons_zero, List.getElem?_cons_succ, List.set_cons_zero, List.set_cons_succ, List.map_cons, List.map_nil, List.replicate_succ, List.replicate_zero, List.cons_append, List.nil_append, List.append_nil, List.length_cons, List.length_nil, List.filterMap_cons, List.filterMap_nil,
 Nat.reduceAdd, Nat.reduceSub, Nat.reduceLeDiff, Nat.reduceEqDiff, and_self, if_true, if_false, opAdd_int, opSub_int, opGt_int, opLt_int, opGe_int, opLe_int, opEq_int, opEq_str, opEq_bl, opNe_int, opNe_bl, opNe_str, bInt_int, bInt_bl, bAbs_int, truD_bl, truD_int, W_fLst, W_fTup, pow18, bLen_tup, bLen_lst, bTuple_lst, bTuple_tup, bList_lst, bList_tup, step ds (by omega) hc', toL, toLs_map]
        exact ⟨hl, trivial⟩
    | ref i => cases hc
    | _ =>
      simp only [W_body, W_sSeq, W_sNx, W_sBk, W_sCt, W_sExpr, W_sRet, W_sRetN, W_sIf, W_sAsg, W_sPar, W_sAug, W_eC, W_eVar, W_eBin, W_eUn, W_eArgs, W_aNil, W_aCons, W_eAnd, W_eOr, W_eNot, W_eIf, W_eChain, W_tVal, W_tBl, W_tAnd, W_tOr, W_tNot, W_tTrue, W_oNone, W_oSome, W_eSl, W_eRev, W_eMethL, W_eCall, W_iSeq, W_iRange1, W_iRange2, W_iEnumS, W_iZipS, W_sFor, W_eComp, W_lcStep, W_gV, W_gUnpackVV, W_newF, W_newT, W_some,
 kBody_rt, kBody_nx, kSeq_nx, kSeq_rt, kSeq_bk, kSeq_ct, kExp_, kRet_, kIf_t, kIf_f, kAsg_V, kPar_, kAug_, kB1_, kB2_, kU_, kN_, kC1_, kC2_, kAnd_T, kAnd_F, kOr_T, kOr_F, kNot_B, kCh1_, kCh2_, kCh3_t, kCh3_f, kTV_B, kTB_B, kTA_t, kTA_f, kTO_t, kTO_f, kTN_, kOS_, kSl1_, kSl2_, kSl3_, kM2_, kK1_, kK2_, kSq_tup, kSq_lst, kSq_str, kEn_tup, kEn_lst, kZp_tup, kZp_lst, kFor_, kTurn_nx, kTurn_ct, kTurn_bk, kTurn_rt, kComp_, kLcT_t, kLcT_f,
 setAll, wipeE, pick, List.getElem?_cons_zero, List.getElem?_cons_succ, List.set_cons_zero, List.set_cons_succ, List.map_cons, List.map_nil, List.replicate_succ, List.replicate_zero, List.cons_append, List.nil_append, List.append_nil, List.length_cons, List.length_nil, List.filterMap_cons, List.filterMap_nil,
 Nat.reduceAdd, Nat.reduceSub, Nat.reduceLeDiff, Nat.reduceEqDiff, and_self, if_true, if_false, opAdd_int, opSub_int, opGt_int, opLt_int, opGe_int, opLe_int, opEq_int, opEq_str, opEq_bl, opNe_int, opNe_bl, opNe_str, bInt_int, bInt_bl, bAbs_int, truD_bl, truD_int, W_fLst, W_fTup, pow18, bLen_tup, bLen_lst, bTuple_lst, bTuple_tup, bList_lst, bList_tup, isi_non, isi_bl, isi_int, isi_str]
      simp [isTy, kIf_f, toL, W_body, W_sSeq, W_sNx, W_sBk, W_sCt, W_sExpr, W_sRet, W_sRetN, W_sIf, W_sAsg, W_sPar, W_sAug, W_eC, W_eVar, W_eBin, W_eUn, W_eArgs, W_aNil, W_aCons, W_eAnd, W_eOr, W_eNot, W_eIf, W_eChain, W_tVal, W_tBl, W_tAnd, W_tOr, W_tNot, W_tTrue, W_oNone, W_oSome, W_eSl, W_eRev, W_eMethL, W_eCall, W_iSeq, W_iRange1, W_iRange2, W_iEnumS, W_iZipS, W_sFor, W_eComp, W_lcStep, W_gV, W_gUnpackVV, W_newF, W_newT, W_some,
 kBody_rt, kBody_nx, kSeq_nx, kSeq_rt, kSeq_bk, kSeq_ct, kExp_, kRet_, kIf_t, kIf_f, kAsg_V, kPar_, kAug_, kB1_, kB2_, kU_, kN_, kC1_, kC2_, kAnd_T, kAnd_F, kOr_T, kOr_F, kNot_B, kCh1_, kCh2_, kCh3_t, kCh3_f, kTV_B, kTB_B, kTA_t, kTA_f, kTO_t, kTO_f, kTN_, kOS_, kSl1_, kSl2_, kSl3_, kM2_, kK1_, kK2_, kSq_tup, kSq_lst, kSq_str, kEn_tup, kEn_lst, kZp_tup, kZp_lst, kFor_, kTurn_nx, kTurn_ct, kTurn_bk, kTurn_rt, kComp_, kLcT_t, kLcT_f,
 setAll, wipeE, pick, List.getElem?_cons_zero, List.getElem?_cons_succ, List.set_cons_zero, List.set_cons_succ, List.map_cons, List.map_nil, List.replicate_succ, List.replicate_zero, List.cons_append, List.nil_append, List.append_nil, List.length_cons, List.length_nil, List.filterMap_cons, List.filterMap_nil,
 Nat.reduceAdd, Nat.reduceSub, Nat.reduceLeDiff, Nat.reduceEqDiff, and_self, if_true, if_false, opAdd_int, opSub_int, opGt_int, opLt_int, opGe_int, opLe_int, opEq_int, opEq_str, opEq_bl, opNe_int, opNe_bl, opNe_str, bInt_int, bInt_bl, bAbs_int, truD_bl, truD_int, W_fLst, W_fTup, pow18, bLen_tup, bLen_lst, bTuple_lst, bTuple_tup, bList_lst, bList_tup]
/-! ### the law's own comparison -/
def sameSem (same : OpN) : SemS := (sSeq (sIf (tVal (eUn (opIsi [Ty.lst, Ty.tup]) (eVar 1))) (sSeq (sIf (AW.tOr (tBl (eBin opNe (eUn (opIsi [Ty.lst]) (eVar 0)) (eUn (opIsi [Ty.lst]) (eVar 1)))) (tBl (eBin opNe (eUn (opIsi [Ty.tup]) (eVar 0)) (eUn (opIsi [Ty.tup]) (eVar 1))))) (sRet (eC (D.bl false))) sNx) (sRet (eAnd (eBin opEq (eArgs bLen (aCons (eVar 0) aNil)) (eArgs bLen (aCons (eVar 1) aNil))) (eArgs bAll (aCons (eComp false (iZipS (aCons (eVar 0) (aCons (eVar 1) aNil))) (gUnpack 2 (gsCons (gV 2) (gsCons (gV 3) gsNil))) tTrue (eCall (callP false same) 2 0 2 [] [0, 1] (aCons (eVar 2) (aCons (eVar 3) aNil)) aNil) [2, 3]) aNil))))) sNx) (sSeq (sIf (tVal (eUn (opIsi [Ty.dic]) (eVar 1))) (sSeq (sIf (AW.tOr (AW.tNot (tVal (eUn (opIsi [Ty.dic]) (eVar 0)))) (tBl (eBin opNe (eArgs (bSorted false) (aCons (eVar 0) aNil)) (eArgs (bSorted false) (aCons (eVar 1) aNil))))) (sRet (eC (D.bl false))) sNx) (sRet (eArgs bAll (aCons (eComp false (iSeq (eVar 1)) (gV 4) tTrue (eCall (callP false same) 2 0 2 [] [0, 1] (aCons (eBin opIx (eVar 0) (eVar 4)) (aCons (eBin opIx (eVar 1) (eVar 4)) aNil)) aNil) [4]) aNil)))) sNx) (sSeq (sIf (AW.tOr (tBl (eBin (opIs false) (eVar 1) (eC D.non))) (tVal (eUn (opIsi [Ty.bl, Ty.str]) (eVar 1)))) (sRet (eAnd (eBin opEq (eVar 0) (eVar 1)) (eAnd (eBin opEq (eUn (opIsi [Ty.bl]) (eVar 0)) (eUn (opIsi [Ty.bl]) (eVar 1))) (eBin opEq (eBin (opIs false) (eVar 0) (eC D.non)) (eBin (opIs false) (eVar 1) (eC D.non)))))) sNx) (sRet (eAnd (eUn (opIsi [Ty.int]) (eVar 0)) (eAnd (eNot (eUn (opIsi [Ty.bl]) (eVar 0))) (eBin opEq (eVar 0) (eVar 1))))))))
theorem blsOf_rep : ∀ n : Nat, blsOf (List.replicate n (D.bl true)) = some (List.replicate n true)
  | 0 => rfl
  | n + 1 => by simp only [List.replicate_succ, blsOf, blsOf_rep n]
theorem bAll_rep {n : Nat} {S : Sto} : bAll [.lst .frz (List.replicate n (D.bl true))] S = some (.bl true, S) := by
  simp only [bAll, listBls, readS, Option.bind_some, blsOf_rep]
  simp
theorem zipD_in {x : D} : ∀ {ds es : List D}, x ∈ zipD ds es → ∃ a b, x = .tup [a, b] ∧ (a, b) ∈ ds.zip es
  | [], _, h => by cases h
  | _ :: _, [], h => by cases h
  | d :: ds, e :: es, h => by
    rcases List.mem_cons.mp h with rfl | h
    · exact ⟨d, e, rfl, List.mem_cons_self⟩
    · obtain ⟨a, b, h1, h2⟩ := zipD_in h
      exact ⟨a, b, h1, List.mem_cons_of_mem _ h2⟩
theorem kds_zip {a b : D} : ∀ {ds es : List D}, kds ds = kds es → (a, b) ∈ ds.zip es → kd a = kd b
  | [], _, _, h => by cases h
  | _ :: _, [], _, h => by cases h
  | d :: ds, e :: es, h, hz => by
    simp only [kds] at h
    injection h with h1 h2
    rcases List.mem_cons.mp hz with hz | hz
    · injection hz with e1 e2; rw [e1, e2]; exact h1
    · exact kds_zip h2 hz
theorem opEq_non {S : Sto} : opEq .non .non S = some (.bl true, S) := rfl
theorem opIs_non {S : Sto} {neg : Bool} {d : D} : opIs neg d .non S = some (.bl (neg ^^ isNon d), S) := rfl
theorem same_leaf {g : OpN} {d e : D} {S : Sto} (hd : dep e ≤ 0) (hk : kd d = kd e) (hc1 : cl d = true) (hc2 : cl e = true) : W (body 5 (sameSem g) [d, e] S) fun b S' => b = .bl true ∧ S' = S := by
  unfold sameSem
  cases e with
  | tup es => simp [dep] at hd
  | lst q es => simp [dep] at hd
  | ref b => cases hc2
  | non =>
    cases d with
    | non => simp only [isi_non, isi_bl, isi_int, isi_str, isi_tup, isi_frz, isi_bor, List.any_cons, List.any_nil, isTy, reduceCtorEq, decide_true, decide_false, Bool.or_false, Bool.or_true, Bool.true_or, Bool.false_or, Bool.not_true, Bool.not_false, W_body, W_sSeq, W_sNx, W_sBk, W_sCt, W_sExpr, W_sRet, W_sRetN, W_sIf, W_sAsg, W_sPar, W_sAug, W_eC, W_eVar, W_eBin, W_eUn, W_eArgs, W_aNil, W_aCons, W_eAnd, W_eOr, W_eNot, W_eIf, W_eChain, W_tVal, W_tBl, W_tAnd, W_tOr, W_tNot, W_tTrue, W_oNone, W_oSome, W_eSl, W_eRev, W_eMethL, W_eCall, W_iSeq, W_iRange1, W_iRange2, W_iEnumS, W_iZipS, W_sFor, W_eComp, W_lcStep, W_gV, W_gUnpackVV, W_newF, W_newT, W_some,
 kBody_rt, kBody_nx, kSeq_nx, kSeq_rt, kSeq_bk, kSeq_ct, kExp_, kRet_, kIf_t, kIf_f, kAsg_V, kPar_, kAug_, kB1_, kB2_, kU_, kN_, kC1_, kC2_, kAnd_T, kAnd_F, kOr_T, kOr_F, kNot_B, kCh1_, kCh2_, kCh3_t, kCh3_f, kTV_B, kTB_B, kTA_t, kTA_f, kTO_t, kTO_f, kTN_, kOS_, kSl1_, kSl2_, kSl3_, kM2_, kK1_, kK2_, kSq_tup, kSq_lst, kSq_str, kEn_tup, kEn_lst, kZp_tup, kZp_lst, kFor_, kTurn_nx, kTurn_ct, kTurn_bk, kTurn_rt, kComp_, kLcT_t, kLcT_f,
 setAll, wipeE, pick, List.getElem?_cons_zero, List.getElem?_cons_succ, List.set_cons_zero, List.set_cons_succ, List.map_cons, List.map_nil, List.replicate_succ, List.replicate_zero, List.cons_append, List.nil_append, List.append_nil, List.length_cons, List.length_nil, List.filterMap_cons, List.filterMap_nil,
 Nat.reduceAdd, Nat.reduceSub, Nat.reduceLeDiff, Nat.reduceEqDiff, and_self, if_true, if_false, opAdd_int, opSub_int, opGt_int, opLt_int, opGe_int, opLe_int, opEq_int, opEq_str, opEq_bl, opNe_int, opNe_bl, opNe_str, bInt_int, bInt_bl, bAbs_int, truD_bl, truD_int, W_fLst, W_fTup, pow18, bLen_tup, bLen_lst, bTuple_lst, bTuple_tup, bList_lst, bList_tup, opIs_non, isNon, opEq_non, Bool.xor_true, Bool.xor_false, Bool.false_xor]
    | _ => simp [kd] at hk
  | bl b =>
    cases d with
    | bl b' =>
      simp only [kd] at hk
      injection hk with hk
      subst hk
      simp only [isi_non, isi_bl, isi_int, isi_str, isi_tup, isi_frz, isi_bor, List.any_cons, List.any_nil, isTy, reduceCtorEq, decide_true, decide_false, Bool.or_false, Bool.or_true, Bool.true_or, Bool.false_or, Bool.not_true, Bool.not_false, W_body, W_sSeq, W_sNx, W_sBk, W_sCt, W_sExpr, W_sRet, W_sRetN, W_sIf, W_sAsg, W_sPar, W_sAug, W_eC, W_eVar, W_eBin, W_eUn, W_eArgs, W_aNil, W_aCons, W_eAnd, W_eOr, W_eNot, W_eIf, W_eChain, W_tVal, W_tBl, W_tAnd, W_tOr, W_tNot, W_tTrue, W_oNone, W_oSome, W_eSl, W_eRev, W_eMethL, W_eCall, W_iSeq, W_iRange1, W_iRange2, W_iEnumS, W_iZipS, W_sFor, W_eComp, W_lcStep, W_gV, W_gUnpackVV, W_newF, W_newT, W_some,
 kBody_rt, kBody_nx, kSeq_nx, kSeq_rt, kSeq_bk, kSeq_ct, kExp_, kRet_, kIf_t, kIf_f, kAsg_V, kPar_, kAug_, kB1_, kB2_, kU_, kN_, kC1_, kC2_, kAnd_T, kAnd_F, kOr_T, kOr_F, kNot_B, kCh1_, kCh2_, kCh3_t, kCh3_f, kTV_B, kTB_B, kTA_t, kTA_f, kTO_t, kTO_f, kTN_, kOS_, kSl1_, kSl2_, kSl3_, kM2_, kK1_, kK2_, kSq_tup, kSq_lst, kSq_str, kEn_tup, kEn_lst, kZp_tup, kZp_lst, kFor_, kTurn_nx, kTurn_ct, kTurn_bk, kTurn_rt, kComp_, kLcT_t, kLcT_f,
 setAll, wipeE, pick, List.getElem?_cons_zero, List.getElem?_cons_succ, List.set_cons_zero, List.set_cons_succ, List.map_cons, List.map_nil, List.replicate_succ, List.replicate_zero, List.cons_append, List.nil_append, List.append_nil, List.length_cons, List.length_nil, List.filterMap_cons, List.filterMap_nil,
 Nat.reduceAdd, Nat.reduceSub, Nat.reduceLeDiff, Nat.reduceEqDiff, and_self, if_true, if_false, opAdd_int, opSub_int, opGt_int, opLt_int, opGe_int, opLe_int, opEq_int, opEq_str, opEq_bl, opNe_int, opNe_bl, opNe_str, bInt_int, bInt_bl, bAbs_int, truD_bl, truD_int, W_fLst, W_fTup, pow18, bLen_tup, bLen_lst, bTuple_lst, bTuple_tup, bList_lst, bList_tup, opIs_non, isNon, Bool.xor_true, Bool.xor_false, Bool.false_xor]
    | _ => simp [kd] at hk
  | str b =>
    cases d with
    | str b' =>
      simp only [kd] at hk
      injection hk with hk
      subst hk
      simp only [isi_non, isi_bl, isi_int, isi_str, isi_tup, isi_frz, isi_bor, List.any_cons, List.any_nil, isTy, reduceCtorEq, decide_true, decide_false, Bool.or_false, Bool.or_true, Bool.true_or, Bool.false_or, Bool.not_true, Bool.not_false, W_body, W_sSeq, W_sNx, W_sBk, W_sCt, W_sExpr, W_sRet, W_sRetN, W_sIf, W_sAsg, W_sPar, W_sAug, W_eC, W_eVar, W_eBin, W_eUn, W_eArgs, W_aNil, W_aCons, W_eAnd, W_eOr, W_eNot, W_eIf, W_eChain, W_tVal, W_tBl, W_tAnd, W_tOr, W_tNot, W_tTrue, W_oNone, W_oSome, W_eSl, W_eRev, W_eMethL, W_eCall, W_iSeq, W_iRange1, W_iRange2, W_iEnumS, W_iZipS, W_sFor, W_eComp, W_lcStep, W_gV, W_gUnpackVV, W_newF, W_newT, W_some,
 kBody_rt, kBody_nx, kSeq_nx, kSeq_rt, kSeq_bk, kSeq_ct, kExp_, kRet_, kIf_t, kIf_f, kAsg_V, kPar_, kAug_, kB1_, kB2_, kU_, kN_, kC1_, kC2_, kAnd_T, kAnd_F, kOr_T, kOr_F, kNot_B, kCh1_, kCh2_, kCh3_t, kCh3_f, kTV_B, kTB_B, kTA_t, kTA_f, kTO_t, kTO_f, kTN_, kOS_, kSl1_, kSl2_, kSl3_, kM2_, kK1_, kK2_, kSq_tup, kSq_lst, kSq_str, kEn_tup, kEn_lst, kZp_tup, kZp_lst, kFor_, kTurn_nx, kTurn_ct, kTurn_bk, kTurn_rt, kComp_, kLcT_t, kLcT_f,
 setAll, wipeE, pick, List.getElem?_cons_zero, List.getElem?_cons_succ, List.set_cons_zero, List.set_cons_succ, List.map_cons, List.map_nil, List.replicate_succ, List.replicate_zero, List.cons_append, List.nil_append, List.append_nil, List.length_cons, List.length_nil, List.filterMap_cons, List.filterMap_nil,
 Nat.reduceAdd, Nat.reduceSub, Nat.reduceLeDiff, Nat.reduceEqDiff, and_self, if_true, if_false, opAdd_int, opSub_int, opGt_int, opLt_int, opGe_int, opLe_int, opEq_int, opEq_str, opEq_bl, opNe_int, opNe_bl, opNe_str, bInt_int, bInt_bl, bAbs_int, truD_bl, truD_int, W_fLst, W_fTup, pow18, bLen_tup, bLen_lst, bTuple_lst, bTuple_tup, bList_lst, bList_tup, opIs_non, isNon, Bool.xor_true, Bool.xor_false, Bool.false_xor]
    | _ => simp [kd] at hk
  | int b =>
    cases d with
    | int b' =>
      simp only [kd] at hk
      injection hk with hk
      subst hk
      simp only [isi_non, isi_bl, isi_int, isi_str, isi_tup, isi_frz, isi_bor, List.any_cons, List.any_nil, isTy, reduceCtorEq, decide_true, decide_false, Bool.or_false, Bool.or_true, Bool.true_or, Bool.false_or, Bool.not_true, Bool.not_false, W_body, W_sSeq, W_sNx, W_sBk, W_sCt, W_sExpr, W_sRet, W_sRetN, W_sIf, W_sAsg, W_sPar, W_sAug, W_eC, W_eVar, W_eBin, W_eUn, W_eArgs, W_aNil, W_aCons, W_eAnd, W_eOr, W_eNot, W_eIf, W_eChain, W_tVal, W_tBl, W_tAnd, W_tOr, W_tNot, W_tTrue, W_oNone, W_oSome, W_eSl, W_eRev, W_eMethL, W_eCall, W_iSeq, W_iRange1, W_iRange2, W_iEnumS, W_iZipS, W_sFor, W_eComp, W_lcStep, W_gV, W_gUnpackVV, W_newF, W_newT, W_some,
 kBody_rt, kBody_nx, kSeq_nx, kSeq_rt, kSeq_bk, kSeq_ct, kExp_, kRet_, kIf_t, kIf_f, kAsg_V, kPar_, kAug_, kB1_, kB2_, kU_, kN_, kC1_, kC2_, kAnd_T, kAnd_F, kOr_T, kOr_F, kNot_B, kCh1_, kCh2_, kCh3_t, kCh3_f, kTV_B, kTB_B, kTA_t, kTA_f, kTO_t, kTO_f, kTN_, kOS_, kSl1_, kSl2_, kSl3_, kM2_, kK1_, kK2_, kSq_tup, kSq_lst, kSq_str, kEn_tup, kEn_lst, kZp_tup, kZp_lst, kFor_, kTurn_nx, kTurn_ct, kTurn_bk, kTurn_rt, kComp_, kLcT_t, kLcT_f,
 setAll, wipeE, pick, List.getElem?_cons_zero, List.getElem?_cons_succ, List.set_cons_zero, List.set_cons_succ, List.map_cons, List.map_nil, List.replicate_succ, List.replicate_zero, List.cons_append, List.nil_append, List.append_nil, List.length_cons, List.length_nil, List.filterMap_cons, List.filterMap_nil,
 Nat.reduceAdd, Nat.reduceSub, Nat.reduceLeDiff, Nat.reduceEqDiff, and_self, if_true, if_false, opAdd_int, opSub_int, opGt_int, opLt_int, opGe_int, opLe_int, opEq_int, opEq_str, opEq_bl, opNe_int, opNe_bl, opNe_str, bInt_int, bInt_bl, bAbs_int, truD_bl, truD_int, W_fLst, W_fTup, pow18, bLen_tup, bLen_lst, bTuple_lst, bTuple_tup, bList_lst, bList_tup, opIs_non, isNon, Bool.xor_true, Bool.xor_false, Bool.false_xor]
    | _ => simp [kd] at hk
theorem same_run {f : Nat → OpN} (h : ∀ k, f (k + 1) = body 5 (sameSem (f k))) : ∀ (k : Nat) (d e : D) (S : Sto), dep e ≤ k → kd d = kd e → cl d = true → cl e = true → f (k + 1) [d, e] S = some (.bl true, S) := by
  intro k
  induction k with
  | zero =>
    intro d e S hd hk hc1 hc2
    refine W_get ?_
    rw [h]
    unfold sameSem
    exact same_leaf hd hk hc1 hc2
  | succ k ih =>
    intro d e S hd hk hc1 hc2
    have step : ∀ ds es : List D, deps es ≤ k → cls ds = true → cls es = true → kds ds = kds es → ∀ x y : Option D, lcLoop (lcStep (gUnpack 2 (gsCons (gV 2) (gsCons (gV 3) gsNil))) tTrue (eCall (callP false (f (k + 1))) 2 0 2 [] [0, 1] (aCons (eVar 2) (aCons (eVar 3) aNil)) aNil) [2, 3] [x, y, none, none, none]) [] (zipD ds es) [] S = some (List.replicate (zipD ds es).length (.bl true), S) := fun ds es h1 h2 h2' h3 x y => by
      rw [lc_pure (f := fun d => some (.bl true)) rfl _ [] fun d hd => ?_]
      · rw [filterMap_some, List.nil_append, List.map_const']
      · obtain ⟨a, b, rfl, hz⟩ := zipD_in hd
        have ha := cls_in h2 (List.of_mem_zip hz).1
        have hb := cls_in h2' (List.of_mem_zip hz).2
        have e : callP false (f (k + 1)) [a, b] S = some (.bl true, S) := W_callE (Sc := []) (by simp only [pls, cl_pl ha, cl_pl hb, Bool.and_self]) (ih a b [] (Nat.le_trans (deps_in (List.of_mem_zip hz).2) h1) (kds_zip h3 hz) ha hb) rfl
        refine W_get ?_
        simp only [W_body, W_sSeq, W_sNx, W_sBk, W_sCt, W_sExpr, W_sRet, W_sRetN, W_sIf, W_sAsg, W_sPar, W_sAug, W_eC, W_eVar, W_eBin, W_eUn, W_eArgs, W_aNil, W_aCons, W_eAnd, W_eOr, W_eNot, W_eIf, W_eChain, W_tVal, W_tBl, W_tAnd, W_tOr, W_tNot, W_tTrue, W_oNone, W_oSome, W_eSl, W_eRev, W_eMethL, W_eCall, W_iSeq, W_iRange1, W_iRange2, W_iEnumS, W_iZipS, W_sFor, W_eComp, W_lcStep, W_gV, W_gUnpackVV, W_newF, W_newT, W_some,
 kBody_rt, kBody_nx, kSeq_nx, kSeq_rt, kSeq_bk, kSeq_ct, kExp_, kRet_, kIf_t, kIf_f, kAsg_V, kPar_, kAug_, kB1_, kB2_, kU_, kN_, kC1_, kC2_, kAnd_T, kAnd_F, kOr_T, kOr_F, kNot_B, kCh1_, kCh2_, kCh3_t, kCh3_f, kTV_B, kTB_B, kTA_t, kTA_f, kTO_t, kTO_f, kTN_, kOS_, kSl1_, kSl2_, kSl3_, kM2_, kK1_, kK2_, kSq_tup, kSq_lst, kSq_str, kEn_tup, kEn_lst, kZp_tup, kZp_lst, kFor_, kTurn_nx, kTurn_ct, kTurn_bk, kTurn_rt, kComp_, kLcT_t, kLcT_f,
 setAll, wipeE, pick, List.getElem?_cons_zero, List.getElem?_cons_succ, List.set_cons_zero, List.set_cons_succ, List.map_cons, List.map_nil, List.replicate_succ, List.replicate_zero, List.cons_append, List.nil_append, List.append_nil, List.length_cons, List.length_nil, List.filterMap_cons, List.filterMap_nil,
 Nat.reduceAdd, Nat.reduceSub, Nat.reduceLeDiff, Nat.reduceEqDiff, and_self, if_true, if_false, opAdd_int, opSub_int, opGt_int, opLt_int, opGe_int, opLe_int, opEq_int, opEq_str, opEq_bl, opNe_int, opNe_bl, opNe_str, bInt_int, bInt_bl, bAbs_int, truD_bl, truD_int, W_fLst, W_fTup, pow18, bLen_tup, bLen_lst, bTuple_lst, bTuple_tup, bList_lst, bList_tup, e]
    refine W_get ?_
    rw [h]
    unfold sameSem
    have zl : ∀ ds es : List D, es.length ≤ LIM → (zipD ds es).length ≤ LIM := fun ds es h => by rw [zipD_len]; omega
    cases e with
    | tup es =>
      simp only [dep] at hd
      obtain ⟨hl, hc'⟩ := cl_tup hc2
      cases d with
      | tup ds =>
        obtain ⟨hl1, hc1'⟩ := cl_tup hc1
        simp only [kd] at hk
        injection hk with hk
        have hlen : ds.length = es.length := by rw [kds_map, kds_map] at hk; simpa using congrArg List.length hk
        simp only [isi_non, isi_bl, isi_int, isi_str, isi_tup, isi_frz, isi_bor, List.any_cons, List.any_nil, isTy, reduceCtorEq, decide_true, decide_false, Bool.or_false, Bool.or_true, Bool.true_or, Bool.false_or, Bool.not_true, Bool.not_false, hlen, W_body, W_sSeq, W_sNx, W_sBk, W_sCt, W_sExpr, W_sRet, W_sRetN, W_sIf, W_sAsg, W_sPar, W_sAug, W_eC, W_eVar, W_eBin, W_eUn, W_eArgs, W_aNil, W_aCons, W_eAnd, W_eOr, W_eNot, W_eIf, W_eChain, W_tVal, W_tBl, W_tAnd, W_tOr, W_tNot, W_tTrue, W_oNone, W_oSome, W_eSl, W_eRev, W_eMethL, W_eCall, W_iSeq, W_iRange1, W_iRange2, W_iEnumS, W_iZipS, W_sFor, W_eComp, W_lcStep, W_gV, W_gUnpackVV, W_newF, W_newT, W_some,
 kBody_rt, kBody_nx, kSeq_nx, kSeq_rt, kSeq_bk, kSeq_ct, kExp_, kRet_, kIf_t, kIf_f, kAsg_V, kPar_, kAug_, kB1_, kB2_, kU_, kN_, kC1_, kC2_, kAnd_T, kAnd_F, kOr_T, kOr_F, kNot_B, kCh1_, kCh2_, kCh3_t, kCh3_f, kTV_B, kTB_B, kTA_t, kTA_f, kTO_t, kTO_f, kTN_, kOS_, kSl1_, kSl2_, kSl3_, kM2_, kK1_, kK2_, kSq_tup, kSq_lst, kSq_str, kEn_tup, kEn_lst, kZp_tup, kZp_lst, kFor_, kTurn_nx, kTurn_ct, kTurn_bk, kTurn_rt, kComp_, kLcT_t, kLcT_f,
 setAll, wipeE, pick, List.getElem?_cons_zero, List.getElem?_cons_succ, List.set_cons_zero, List.set_cons_succ, List.map_cons, List.map_nil, List.replicate_succ, List.replicate_zero, List.cons_append, List.nil_append, List.append_nil, List.length_cons, List.length_nil, List.filterMap_cons, List.filterMap_nil,
 Nat.reduceAdd, Nat.reduceSub, Nat.reduceLeDiff, Nat.reduceEqDiff, and_self, if_true, if_false, opAdd_int, opSub_int, opGt_int, opLt_int, opGe_int, opLe_int, opEq_int, opEq_str, opEq_bl, opNe_int, opNe_bl, opNe_str, bInt_int, bInt_bl, bAbs_int, truD_bl, truD_int, W_fLst, W_fTup, pow18, bLen_tup, bLen_lst, bTuple_lst, bTuple_tup, bList_lst, bList_tup, step ds es (by omega) hc1' hc' hk, bAll_rep]
        exact ⟨zl _ _ hl, trivial⟩
      | lst q ds => simp [kd] at hk
      | _ => simp [kd] at hk
    | lst q es =>
      simp only [dep] at hd
      cases d with
      | lst q' ds =>
        simp only [kd] at hk
        injection hk with _ hk
        have hlen : ds.length = es.length := by rw [kds_map, kds_map] at hk; simpa using congrArg List.length hk
        cases q with
        | ext => cases hc2
        | frz =>
          obtain ⟨hl, hc'⟩ := cl_frz hc2
          cases q' with
          | ext => cases hc1
          | frz =>
            obtain ⟨hl1, hc1'⟩ := cl_frz hc1
            simp only [isi_non, isi_bl, isi_int, isi_str, isi_tup, isi_frz, isi_bor, List.any_cons, List.any_nil, isTy, reduceCtorEq, decide_true, decide_false, Bool.or_false, Bool.or_true, Bool.true_or, Bool.false_or, Bool.not_true, Bool.not_false, hlen, W_body, W_sSeq, W_sNx, W_sBk, W_sCt, W_sExpr, W_sRet, W_sRetN, W_sIf, W_sAsg, W_sPar, W_sAug, W_eC, W_eVar, W_eBin, W_eUn, W_eArgs, W_aNil, W_aCons, W_eAnd, W_eOr, W_eNot, W_eIf, W_eChain, W_tVal, W_tBl, W_tAnd, W_tOr, W_tNot, W_tTrue, W_oNone, W_oSome, W_eSl, W_eRev, W_eMethL, W_eCall, W_iSeq, W_iRange1, W_iRange2, W_iEnumS, W_iZipS, W_sFor, W_eComp, W_lcStep, W_gV, W_gUnpackVV, W_newF, W_newT, W_some,
 kBody_rt, kBody_nx, kSeq_nx, kSeq_rt, kSeq_bk, kSeq_ct, kExp_, kRet_, kIf_t, kIf_f, kAsg_V, kPar_, kAug_, kB1_, kB2_, kU_, kN_, kC1_, kC2_, kAnd_T, kAnd_F, kOr_T, kOr_F, kNot_B, kCh1_, kCh2_, kCh3_t, kCh3_f, kTV_B, kTB_B, kTA_t, kTA_f, kTO_t, kTO_f, kTN_, kOS_, kSl1_, kSl2_, kSl3_, kM2_, kK1_, kK2_, kSq_tup, kSq_lst, kSq_str, kEn_tup, kEn_lst, kZp_tup, kZp_lst, kFor_, kTurn_nx, kTurn_ct, kTurn_bk, kTurn_rt, kComp_, kLcT_t, kLcT_f,
 setAll, wipeE, pick, List.getElem?_cons_zero, List.getElem?_cons_succ, List.set_cons_zero, List.set_cons_succ, List.map_cons, List.map_nil, List.replicate_succ, List.replicate_zero, List.cons_append, List.nil_append, List.append_nil, List.length_cons, List.length_nil, List.filterMap_cons, List.filterMap_nil,
 Nat.reduceAdd, Nat.reduceSub, Nat.reduceLeDiff, Nat.reduceEqDiff, and_self, if_true, if_false, opAdd_int, opSub_int, opGt_int, opLt_int, opGe_int, opLe_int, opEq_int, opEq_str, opEq_bl, opNe_int, opNe_bl, opNe_str, bInt_int, bInt_bl, bAbs_int, truD_bl, truD_int, W_fLst, W_fTup, pow18, bLen_tup, bLen_lst, bTuple_lst, bTuple_tup, bList_lst, bList_tup, step ds es (by omega) hc1' hc' hk, bAll_rep]
            exact ⟨zl _ _ hl, trivial⟩
          | bor =>
            obtain ⟨hl1, hc1'⟩ := cl_bor hc1
            simp only [isi_non, isi_bl, isi_int, isi_str, isi_tup, isi_frz, isi_bor, List.any_cons, List.any_nil, isTy, reduceCtorEq, decide_true, decide_false, Bool.or_false, Bool.or_true, Bool.true_or, Bool.false_or, Bool.not_true, Bool.not_false, hlen, W_body, W_sSeq, W_sNx, W_sBk, W_sCt, W_sExpr, W_sRet, W_sRetN, W_sIf, W_sAsg, W_sPar, W_sAug, W_eC, W_eVar, W_eBin, W_eUn, W_eArgs, W_aNil, W_aCons, W_eAnd, W_eOr, W_eNot, W_eIf, W_eChain, W_tVal, W_tBl, W_tAnd, W_tOr, W_tNot, W_tTrue, W_oNone, W_oSome, W_eSl, W_eRev, W_eMethL, W_eCall, W_iSeq, W_iRange1, W_iRange2, W_iEnumS, W_iZipS, W_sFor, W_eComp, W_lcStep, W_gV, W_gUnpackVV, W_newF, W_newT, W_some,
 kBody_rt, kBody_nx, kSeq_nx, kSeq_rt, kSeq_bk, kSeq_ct, kExp_, kRet_, kIf_t, kIf_f, kAsg_V, kPar_, kAug_, kB1_, kB2_, kU_, kN_, kC1_, kC2_, kAnd_T, kAnd_F, kOr_T, kOr_F, kNot_B, kCh1_, kCh2_, kCh3_t, kCh3_f, kTV_B, kTB_B, kTA_t, kTA_f, kTO_t, kTO_f, kTN_, kOS_, kSl1_, kSl2_, kSl3_, kM2_, kK1_, kK2_, kSq_tup, kSq_lst, kSq_str, kEn_tup, kEn_lst, kZp_tup, kZp_lst, kFor_, kTurn_nx, kTurn_ct, kTurn_bk, kTurn_rt, kComp_, kLcT_t, kLcT_f,
 setAll, wipeE, pick, List.getElem?_cons_zero, List.getElem?_cons_succ, List.set_cons_zero, List.set_cons_succ, List.map_cons, List.map_nil, List.replicate_succ, List.replicate_zero, List.cons_append, List.nil_append, List.append_nil, List.length_cons, List.length_nil, List.filterMap_cons, List.filterMap_nil,
 Nat.reduceAdd, Nat.reduceSub, Nat.reduceLeDiff, Nat.reduceEqDiff, and_self, if_true, if_false, opAdd_int, opSub_int, opGt_int, opLt_int, opGe_int, opLe_int, opEq_int, opEq_str, opEq_bl, opNe_int, opNe_bl, opNe_str, bInt_int, bInt_bl, bAbs_int, truD_bl, truD_int, W_fLst, W_fTup, pow18, bLen_tup, bLen_lst, bTuple_lst, bTuple_tup, bList_lst, bList_tup, step ds es (by omega) hc1' hc' hk, bAll_rep]
            exact ⟨zl _ _ hl, trivial⟩
        | bor =>
          obtain ⟨hl, hc'⟩ := cl_bor hc2
          cases q' with
          | ext => cases hc1
          | frz =>
            obtain ⟨hl1, hc1'⟩ := cl_frz hc1
            simp only [isi_non, isi_bl, isi_int, isi_str, isi_tup, isi_frz, isi_bor, List.any_cons, List.any_nil, isTy, reduceCtorEq, decide_true, decide_false, Bool.or_false, Bool.or_true, Bool.true_or, Bool.false_or, Bool.not_true, Bool.not_false, hlen, W_body, W_sSeq, W_sNx, W_sBk, W_sCt, W_sExpr, W_sRet, W_sRetN, W_sIf, W_sAsg, W_sPar, W_sAug, W_eC, W_eVar, W_eBin, W_eUn, W_eArgs, W_aNil, W_aCons, W_eAnd, W_eOr, W_eNot, W_eIf, W_eChain, W_tVal, W_tBl, W_tAnd, W_tOr, W_tNot, W_tTrue, W_oNone, W_oSome, W_eSl, W_eRev, W_eMethL, W_eCall, W_iSeq, W_iRange1, W_iRange2, W_iEnumS, W_iZipS, W_sFor, W_eComp, W_lcStep, W_gV, W_gUnpackVV, W_newF, W_newT, W_some,
 kBody_rt, kBody_nx, kSeq_nx, kSeq_rt, kSeq_bk, kSeq_ct, kExp_, kRet_, kIf_t, kIf_f, kAsg_V, kPar_, kAug_, kB1_, kB2_, kU_, kN_, kC1_, kC2_, kAnd_T, kAnd_F, kOr_T, kOr_F, kNot_B, kCh1_, kCh2_, kCh3_t, kCh3_f, kTV_B, kTB_B, kTA_t, kTA_f, kTO_t, kTO_f, kTN_, kOS_, kSl1_, kSl2_, kSl3_, kM2_, kK1_, kK2_, kSq_tup, kSq_lst, kSq_str, kEn_tup, kEn_lst, kZp_tup, kZp_lst, kFor_, kTurn_nx, kTurn_ct, kTurn_bk, kTurn_rt, kComp_, kLcT_t, kLcT_f,
 setAll, wipeE, pick, List.getElem?_cons_zero, List.getElem?_cons_succ, List.set_cons_zero, List.set_cons_succ, List.map_cons, List.map_nil, List.replicate_succ, List.replicate_zero, List.cons_append, List.nil_append, List.append_nil, List.length_cons, List.length_nil, List.filterMap_cons, List.filterMap_nil,
 Nat.reduceAdd, Nat.reduceSub, Nat.reduceLeDiff, Nat.reduceEqDiff, and_self, if_true, if_false, opAdd_int, opSub_int, opGt_int, opLt_int, opGe_int, opLe_int, opEq_int, opEq_str, opEq_bl, opNe_int, opNe_bl, opNe_str, bInt_int, bInt_bl, bAbs_int, truD_bl, truD_int, W_fLst, W_fTup, pow18, bLen_tup, bLen_lst, bTuple_lst, bTuple_tup, bList_lst, bList_tup, step ds es (by omega) hc1' hc' hk, bAll_rep]
            exact ⟨zl _ _ hl, trivial⟩
          | bor =>
            obtain ⟨hl1, hc1'⟩ := cl_bor hc1
            simp only [isi_non, isi_bl, isi_int, isi_str, isi_tup, isi_frz, isi_bor, List.any_cons, List.any_nil, isTy, reduceCtorEq, decide_true, decide_false, Bool.or_false, Bool.or_true, Bool.true_or, Bool.false_or, Bool.not_true, Bool.not_false, hlen, W_body, W_sSeq, W_sNx, W_sBk, W_sCt, W_sExpr, W_sRet, W_sRetN, W_sIf, W_sAsg, W_sPar, W_sAug, W_eC, W_eVar, W_eBin, W_eUn, W_eArgs, W_aNil, W_aCons, W_eAnd, W_eOr, W_eNot, W_eIf, W_eChain, W_tVal, W_tBl, W_tAnd, W_tOr, W_tNot, W_tTrue, W_oNone, W_oSome, W_eSl, W_eRev, W_eMethL, W_eCall, W_iSeq, W_iRange1, W_iRange2, W_iEnumS, W_iZipS, W_sFor, W_eComp, W_lcStep, W_gV, W_gUnpackVV, W_newF, W_newT, W_some,
 kBody_rt, kBody_nx, kSeq_nx, kSeq_rt, kSeq_bk, kSeq_ct, kExp_, kRet_, kIf_t, kIf_f, kAsg_V, kPar_, kAug_, kB1_, kB2_, kU_, kN_, kC1_, kC2_, kAnd_T, kAnd_F, kOr_T, kOr_F, kNot_B, kCh1_, kCh2_, kCh3_t, kCh3_f, kTV_B, kTB_B, kTA_t, kTA_f, kTO_t, kTO_f, kTN_, kOS_, kSl1_, kSl2_, kSl3_, kM2_, kK1_, kK2_, kSq_tup, kSq_lst, kSq_str, kEn_tup, kEn_lst, kZp_tup, kZp_lst, kFor_, kTurn_nx, kTurn_ct, kTurn_bk, kTurn_rt, kComp_, kLcT_t, kLcT_f,
 setAll, wipeE, pick, List.getElem?_cons_zero, List.getElem?_cons_succ, List.set_cons_zero, List.set_cons_succ, List.map_cons, List.map_nil, List.replicate_succ, List.replicate_zero, List.cons_append, List.nil_append, List.append_nil, List.length_cons, List.length_nil, List.filterMap_cons, List.filterMap_nil,
 Nat.reduceAdd, Nat.reduceSub, Nat.reduceLeDiff, Nat.reduceEqDiff, and_self, if_true, if_false, opAdd_int, opSub_int, opGt_int, opLt_int, opGe_int, opLe_int, opEq_int, opEq_str, opEq_bl, opNe_int, opNe_bl, opNe_str, bInt_int, bInt_bl, bAbs_int, truD_bl, truD_int, W_fLst, W_fTup, pow18, bLen_tup, bLen_lst, bTuple_lst, bTuple_tup, bList_lst, bList_tup, step ds es (by omega) hc1' hc' hk, bAll_rep]
            exact ⟨zl _ _ hl, trivial⟩
      | tup ds => simp [kd] at hk
      | _ => simp [kd] at hk
    | non => exact same_leaf (Nat.le_refl _) hk hc1 hc2
    | bl b => exact same_leaf (Nat.le_refl _) hk hc1 hc2
    | int b => exact same_leaf (Nat.le_refl _) hk hc1 hc2
    | str b => exact same_leaf (Nat.le_refl _) hk hc1 hc2
    | ref b => cases hc2
end AW

namespace AW
open PySem PySem.Spec PyProof.Rows L2

/-- a tuple or a list -/
def sq (b : Bool) (ds : List D) : D := if b = true then .tup ds else .lst .frz ds
def wrE (b : Bool) (w : Wr) : D := sq b [.str w.key, .str w.way, .int w.amt]
def rowE (b : Bool) (r : Row) : D := sq b [.int r.tag, .int r.dur, sq b (r.ws.map (wrE b))]
def logE (b : Bool) (L : List Row) : D := sq b (L.map (rowE b))
def strE (b : Bool) (ks : List Str) : D := sq b (ks.map .str)
theorem logE_t {L : List Row} : logE true L = .tup (L.map dRow) := rfl
section
variable {b : Bool} {ds : List D} {S : Sto} {k : Int} {y : D} {QI : Kn (List D × Chk)}
theorem opIx_sq (e : atD ds k = some y) : opIx (sq b ds) (.int k) S = some (y, S) := (match b with | false => (opIx_lst e) | true => (opIx_tup e))
theorem kSq_sq : kSq QI (sq b ds) S = QI (ds, []) S := (match b with | false => (kSq_lst) | true => kSq_tup)
theorem kEn_sq : kEn QI [sq b ds] S = QI (enumD 0 ds, []) S := (match b with | false => (kEn_lst) | true => kEn_tup)
theorem bLen_sq : bLen [sq b ds] S = some (.int ds.length, S) := by cases b <;> rfl
theorem pl_sq : pl (sq b ds) = pls ds := by cases b <;> simp [sq, pl]
theorem nb_sq : nb (sq b ds) = nbs ds := by cases b <;> simp [sq, nb]
end
theorem pl_wr {b : Bool} (w : Wr) : pl (wrE b w) = true := by rw [wrE, pl_sq]; rfl
theorem pl_row {b : Bool} (r : Row) : pl (rowE b r) = true := by rw [rowE, pl_sq]; simp only [pls, pl, pl_sq, pls_map pl_wr, Bool.and_self]
theorem pl_log {b : Bool} (L : List Row) : pl (logE b L) = true := by rw [logE, pl_sq]; exact pls_map pl_row L
theorem pl_strE {b : Bool} (L : List Str) : pl (strE b L) = true := by rw [strE, pl_sq]; exact pls_map (fun _ => rfl) L
theorem row_tag {b : Bool} {r : Row} {S : Sto} : opIx (rowE b r) (.int 0) S = some (.int r.tag, S) := opIx_sq at0
theorem row_dur {b : Bool} {r : Row} {S : Sto} : opIx (rowE b r) (.int 1) S = some (.int r.dur, S) := opIx_sq at1
theorem row_ws {b : Bool} {r : Row} {S : Sto} : opIx (rowE b r) (.int 2) S = some (sq b (r.ws.map (wrE b)), S) := opIx_sq at2
theorem wr_key {b : Bool} {w : Wr} {S : Sto} : opIx (wrE b w) (.int 0) S = some (.str w.key, S) := opIx_sq at0
theorem log_at {b : Bool} {L : List Row} {S : Sto} {k : Nat} (h : k < L.length) : opIx (logE b L) (.int (k : Nat)) S = some (rowE b L[k], S) := opIx_sq (atD_nat (by simp [h]))
/-! ### the keys of a transaction -/
def keysSem : SemS := (sRet (eComp false (iSeq (eBin opIx (eVar 0) (eC (D.int 2)))) (gV 1) tTrue (eBin opIx (eVar 1) (eC (D.int 0))) [1]))
def keysOf (r : Row) : List Str := r.ws.map (·.key)
theorem keys_run {b : Bool} {r : Row} {S : Sto} (hl : r.ws.length ≤ LIM) : callP false (body 2 keysSem) [rowE b r] S = some (.lst .frz ((keysOf r).map .str), S) := by
  refine W_callE (Sc := []) (by simp only [pls, pl_row, Bool.and_self]) (W_get ?_) (frz_nb (by simp only [nb]; exact nbs_map (fun _ => rfl) _))
  unfold keysSem
  simp only [W_body, W_sSeq, W_sNx, W_sBk, W_sCt, W_sExpr, W_sRet, W_sRetN, W_sIf, W_sAsg, W_sPar, W_sAug, W_eC, W_eVar, W_eBin, W_eUn, W_eArgs, W_aNil, W_aCons, W_eAnd, W_eOr, W_eNot, W_eIf, W_eChain, W_tVal, W_tBl, W_tAnd, W_tOr, W_tNot, W_tTrue, W_oNone, W_oSome, W_eSl, W_eRev, W_eMethL, W_eCall, W_iSeq, W_iRange1, W_iRange2, W_iEnumS, W_iZipS, W_sFor, W_eComp, W_lcStep, W_gV, W_gUnpackVV, W_newF, W_newT, W_some,
 kBody_rt, kBody_nx, kSeq_nx, kSeq_rt, kSeq_bk, kSeq_ct, kExp_, kRet_, kIf_t, kIf_f, kAsg_V, kPar_, kAug_, kB1_, kB2_, kU_, kN_, kC1_, kC2_, kAnd_T, kAnd_F, kOr_T, kOr_F, kNot_B, kCh1_, kCh2_, kCh3_t, kCh3_f, kTV_B, kTB_B, kTA_t, kTA_f, kTO_t, kTO_f, kTN_, kOS_, kSl1_, kSl2_, kSl3_, kM2_, kK1_, kK2_, kSq_tup, kSq_lst, kSq_str, kEn_tup, kEn_lst, kZp_tup, kZp_lst, kFor_, kTurn_nx, kTurn_ct, kTurn_bk, kTurn_rt, kComp_, kLcT_t, kLcT_f,
 setAll, wipeE, pick, List.getElem?_cons_zero, List.getElem?_cons_succ, List.set_cons_zero, List.set_cons_succ, List.map_cons, List.map_nil, List.replicate_succ, List.replicate_zero, List.cons_append, List.nil_append, List.append_nil, List.length_cons, List.length_nil, List.filterMap_cons, List.filterMap_nil,
 Nat.reduceAdd, Nat.reduceSub, Nat.reduceLeDiff, Nat.reduceEqDiff, and_self, if_true, if_false, opAdd_int, opSub_int, opGt_int, opLt_int, opGe_int, opLe_int, opEq_int, opEq_str, opEq_bl, opNe_int, opNe_bl, opNe_str, bInt_int, bInt_bl, bAbs_int, truD_bl, truD_int, W_fLst, W_fTup, pow18, bLen_tup, bLen_lst, bTuple_lst, bTuple_tup, bList_lst, bList_tup, row_ws, kSq_sq]
  rw [lc_pure (f := fun d => match d with | .tup (.str k :: _) => some (.str k) | .lst _ (.str k :: _) => some (.str k) | _ => none) rfl _ _ fun d hd => ?_]
  · rw [W_some]
    refine ⟨by rw [List.length_map]; exact hl, ?_, rfl⟩
    rw [List.nil_append, List.filterMap_map, keysOf, List.map_map]
    congr 1
    rw [← filterMap_some]
    congr 1
    funext w
    cases b <;> rfl
  · obtain ⟨w, _, rfl⟩ := List.mem_map.mp hd
    refine W_get ?_
    simp only [W_body, W_sSeq, W_sNx, W_sBk, W_sCt, W_sExpr, W_sRet, W_sRetN, W_sIf, W_sAsg, W_sPar, W_sAug, W_eC, W_eVar, W_eBin, W_eUn, W_eArgs, W_aNil, W_aCons, W_eAnd, W_eOr, W_eNot, W_eIf, W_eChain, W_tVal, W_tBl, W_tAnd, W_tOr, W_tNot, W_tTrue, W_oNone, W_oSome, W_eSl, W_eRev, W_eMethL, W_eCall, W_iSeq, W_iRange1, W_iRange2, W_iEnumS, W_iZipS, W_sFor, W_eComp, W_lcStep, W_gV, W_gUnpackVV, W_newF, W_newT, W_some,
 kBody_rt, kBody_nx, kSeq_nx, kSeq_rt, kSeq_bk, kSeq_ct, kExp_, kRet_, kIf_t, kIf_f, kAsg_V, kPar_, kAug_, kB1_, kB2_, kU_, kN_, kC1_, kC2_, kAnd_T, kAnd_F, kOr_T, kOr_F, kNot_B, kCh1_, kCh2_, kCh3_t, kCh3_f, kTV_B, kTB_B, kTA_t, kTA_f, kTO_t, kTO_f, kTN_, kOS_, kSl1_, kSl2_, kSl3_, kM2_, kK1_, kK2_, kSq_tup, kSq_lst, kSq_str, kEn_tup, kEn_lst, kZp_tup, kZp_lst, kFor_, kTurn_nx, kTurn_ct, kTurn_bk, kTurn_rt, kComp_, kLcT_t, kLcT_f,
 setAll, wipeE, pick, List.getElem?_cons_zero, List.getElem?_cons_succ, List.set_cons_zero, List.set_cons_succ, List.map_cons, List.map_nil, List.replicate_succ, List.replicate_zero, List.cons_append, List.nil_append, List.append_nil, List.length_cons, List.length_nil, List.filterMap_cons, List.filterMap_nil,
 Nat.reduceAdd, Nat.reduceSub, Nat.reduceLeDiff, Nat.reduceEqDiff, and_self, if_true, if_false, opAdd_int, opSub_int, opGt_int, opLt_int, opGe_int, opLe_int, opEq_int, opEq_str, opEq_bl, opNe_int, opNe_bl, opNe_str, bInt_int, bInt_bl, bAbs_int, truD_bl, truD_int, W_fLst, W_fTup, pow18, bLen_tup, bLen_lst, bTuple_lst, bTuple_tup, bList_lst, bList_tup, wr_key]
    cases b <;> simp [wrE, sq]
/-! ### the stair -/
def stairSem : SemS := (sSeq (sPar [1, 2] (aCons (eArgs (fLst true) aNil) (aCons (eC (D.int 0)) aNil))) (sSeq (sFor (iSeq (eVar 0)) (gV 3) (sSeq (sAsg (gV 2) (eArgs bMax (aCons (eVar 2) (aCons (eBin opIx (eVar 3) (eC (D.int 0))) aNil)))) (sExpr (eMethL mAppend (eVar 1) (aCons (eVar 2) aNil))))) (sRet (eVar 1))))
/-- the highest tag so far, at each place -/
def stairF (h : Int) : List Row → List Int
  | [] => []
  | r :: L => (if r.tag > h then r.tag else h) :: stairF (if r.tag > h then r.tag else h) L
theorem stairF_len {h : Int} : ∀ {L : List Row}, (stairF h L).length = L.length
  | [] => rfl
  | r :: L => by simp only [stairF, List.length_cons, stairF_len]
theorem stair_run {b : Bool} {L : List Row} {Q : Kn D} (hl : L.length ≤ 1000) (q : Q (.ref 0) [.lst ((stairF 0 L).map .int)]) : W (body 4 stairSem [logE b L] []) Q := by
  unfold stairSem
  simp only [W_body, W_sSeq, W_sNx, W_sBk, W_sCt, W_sExpr, W_sRet, W_sRetN, W_sIf, W_sAsg, W_sPar, W_sAug, W_eC, W_eVar, W_eBin, W_eUn, W_eArgs, W_aNil, W_aCons, W_eAnd, W_eOr, W_eNot, W_eIf, W_eChain, W_tVal, W_tBl, W_tAnd, W_tOr, W_tNot, W_tTrue, W_oNone, W_oSome, W_eSl, W_eRev, W_eMethL, W_eCall, W_iSeq, W_iRange1, W_iRange2, W_iEnumS, W_iZipS, W_sFor, W_eComp, W_lcStep, W_gV, W_gUnpackVV, W_newF, W_newT, W_some,
 kBody_rt, kBody_nx, kSeq_nx, kSeq_rt, kSeq_bk, kSeq_ct, kExp_, kRet_, kIf_t, kIf_f, kAsg_V, kPar_, kAug_, kB1_, kB2_, kU_, kN_, kC1_, kC2_, kAnd_T, kAnd_F, kOr_T, kOr_F, kNot_B, kCh1_, kCh2_, kCh3_t, kCh3_f, kTV_B, kTB_B, kTA_t, kTA_f, kTO_t, kTO_f, kTN_, kOS_, kSl1_, kSl2_, kSl3_, kM2_, kK1_, kK2_, kSq_tup, kSq_lst, kSq_str, kEn_tup, kEn_lst, kZp_tup, kZp_lst, kFor_, kTurn_nx, kTurn_ct, kTurn_bk, kTurn_rt, kComp_, kLcT_t, kLcT_f,
 setAll, wipeE, pick, List.getElem?_cons_zero, List.getElem?_cons_succ, List.set_cons_zero, List.set_cons_succ, List.map_cons, List.map_nil, List.replicate_succ, List.replicate_zero, List.cons_append, List.nil_append, List.append_nil, List.length_cons, List.length_nil, List.filterMap_cons, List.filterMap_nil,
 Nat.reduceAdd, Nat.reduceSub, Nat.reduceLeDiff, Nat.reduceEqDiff, and_self, if_true, if_false, opAdd_int, opSub_int, opGt_int, opLt_int, opGe_int, opLe_int, opEq_int, opEq_str, opEq_bl, opNe_int, opNe_bl, opNe_str, bInt_int, bInt_bl, bAbs_int, truD_bl, truD_int, W_fLst, W_fTup, pow18, bLen_tup, bLen_lst, bTuple_lst, bTuple_tup, bList_lst, bList_tup, logE, kSq_sq]
  refine W_loop (fun ds E S => ∃ (L1 : List Row) (done : List Int) (h : Int) (x : Option D), ds = L1.map (rowE b) ∧ E = [some (logE b L), some (.ref 0), some (.int h), x] ∧ S = [.lst (done.map .int)] ∧ done ++ stairF h L1 = stairF 0 L) (fun _ => rfl) ?_ ?_ _ _ _ ⟨L, [], 0, none, rfl, rfl, rfl, rfl⟩
  · rintro E S ⟨L1, done, h, x, e, rfl, rfl, h2⟩
    cases L1 with
    | cons _ _ => cases e
    | nil =>
      simp only [W_body, W_sSeq, W_sNx, W_sBk, W_sCt, W_sExpr, W_sRet, W_sRetN, W_sIf, W_sAsg, W_sPar, W_sAug, W_eC, W_eVar, W_eBin, W_eUn, W_eArgs, W_aNil, W_aCons, W_eAnd, W_eOr, W_eNot, W_eIf, W_eChain, W_tVal, W_tBl, W_tAnd, W_tOr, W_tNot, W_tTrue, W_oNone, W_oSome, W_eSl, W_eRev, W_eMethL, W_eCall, W_iSeq, W_iRange1, W_iRange2, W_iEnumS, W_iZipS, W_sFor, W_eComp, W_lcStep, W_gV, W_gUnpackVV, W_newF, W_newT, W_some,
 kBody_rt, kBody_nx, kSeq_nx, kSeq_rt, kSeq_bk, kSeq_ct, kExp_, kRet_, kIf_t, kIf_f, kAsg_V, kPar_, kAug_, kB1_, kB2_, kU_, kN_, kC1_, kC2_, kAnd_T, kAnd_F, kOr_T, kOr_F, kNot_B, kCh1_, kCh2_, kCh3_t, kCh3_f, kTV_B, kTB_B, kTA_t, kTA_f, kTO_t, kTO_f, kTN_, kOS_, kSl1_, kSl2_, kSl3_, kM2_, kK1_, kK2_, kSq_tup, kSq_lst, kSq_str, kEn_tup, kEn_lst, kZp_tup, kZp_lst, kFor_, kTurn_nx, kTurn_ct, kTurn_bk, kTurn_rt, kComp_, kLcT_t, kLcT_f,
 setAll, wipeE, pick, List.getElem?_cons_zero, List.getElem?_cons_succ, List.set_cons_zero, List.set_cons_succ, List.map_cons, List.map_nil, List.replicate_succ, List.replicate_zero, List.cons_append, List.nil_append, List.append_nil, List.length_cons, List.length_nil, List.filterMap_cons, List.filterMap_nil,
 Nat.reduceAdd, Nat.reduceSub, Nat.reduceLeDiff, Nat.reduceEqDiff, and_self, if_true, if_false, opAdd_int, opSub_int, opGt_int, opLt_int, opGe_int, opLe_int, opEq_int, opEq_str, opEq_bl, opNe_int, opNe_bl, opNe_str, bInt_int, bInt_bl, bAbs_int, truD_bl, truD_int, W_fLst, W_fTup, pow18, bLen_tup, bLen_lst, bTuple_lst, bTuple_tup, bList_lst, bList_tup]
      rw [stairF, List.append_nil] at h2
      rw [h2]
      exact q
  · rintro d ds E S ⟨L1, done, h, x, e, rfl, rfl, h2⟩
    cases L1 with
    | nil => cases e
    | cons r L1 =>
      rw [List.map_cons] at e
      injection e with e1 e2
      subst e1 e2
      have hdl : done.length < 1000000 := by
        have := congrArg List.length h2
        rw [List.length_append, stairF_len, stairF_len] at this
        omega
      simp only [W_body, W_sSeq, W_sNx, W_sBk, W_sCt, W_sExpr, W_sRet, W_sRetN, W_sIf, W_sAsg, W_sPar, W_sAug, W_eC, W_eVar, W_eBin, W_eUn, W_eArgs, W_aNil, W_aCons, W_eAnd, W_eOr, W_eNot, W_eIf, W_eChain, W_tVal, W_tBl, W_tAnd, W_tOr, W_tNot, W_tTrue, W_oNone, W_oSome, W_eSl, W_eRev, W_eMethL, W_eCall, W_iSeq, W_iRange1, W_iRange2, W_iEnumS, W_iZipS, W_sFor, W_eComp, W_lcStep, W_gV, W_gUnpackVV, W_newF, W_newT, W_some,
 kBody_rt, kBody_nx, kSeq_nx, kSeq_rt, kSeq_bk, kSeq_ct, kExp_, kRet_, kIf_t, kIf_f, kAsg_V, kPar_, kAug_, kB1_, kB2_, kU_, kN_, kC1_, kC2_, kAnd_T, kAnd_F, kOr_T, kOr_F, kNot_B, kCh1_, kCh2_, kCh3_t, kCh3_f, kTV_B, kTB_B, kTA_t, kTA_f, kTO_t, kTO_f, kTN_, kOS_, kSl1_, kSl2_, kSl3_, kM2_, kK1_, kK2_, kSq_tup, kSq_lst, kSq_str, kEn_tup, kEn_lst, kZp_tup, kZp_lst, kFor_, kTurn_nx, kTurn_ct, kTurn_bk, kTurn_rt, kComp_, kLcT_t, kLcT_f,
 setAll, wipeE, pick, List.getElem?_cons_zero, List.getElem?_cons_succ, List.set_cons_zero, List.set_cons_succ, List.map_cons, List.map_nil, List.replicate_succ, List.replicate_zero, List.cons_append, List.nil_append, List.append_nil, List.length_cons, List.length_nil, List.filterMap_cons, List.filterMap_nil,
 Nat.reduceAdd, Nat.reduceSub, Nat.reduceLeDiff, Nat.reduceEqDiff, and_self, if_true, if_false, opAdd_int, opSub_int, opGt_int, opLt_int, opGe_int, opLe_int, opEq_int, opEq_str, opEq_bl, opNe_int, opNe_bl, opNe_str, bInt_int, bInt_bl, bAbs_int, truD_bl, truD_int, W_fLst, W_fTup, pow18, bLen_tup, bLen_lst, bTuple_lst, bTuple_tup, bList_lst, bList_tup, row_tag, bMax_2]
      rw [kM1_ref (ds := done.map .int) rfl]
      simp only [W_body, W_sSeq, W_sNx, W_sBk, W_sCt, W_sExpr, W_sRet, W_sRetN, W_sIf, W_sAsg, W_sPar, W_sAug, W_eC, W_eVar, W_eBin, W_eUn, W_eArgs, W_aNil, W_aCons, W_eAnd, W_eOr, W_eNot, W_eIf, W_eChain, W_tVal, W_tBl, W_tAnd, W_tOr, W_tNot, W_tTrue, W_oNone, W_oSome, W_eSl, W_eRev, W_eMethL, W_eCall, W_iSeq, W_iRange1, W_iRange2, W_iEnumS, W_iZipS, W_sFor, W_eComp, W_lcStep, W_gV, W_gUnpackVV, W_newF, W_newT, W_some,
 kBody_rt, kBody_nx, kSeq_nx, kSeq_rt, kSeq_bk, kSeq_ct, kExp_, kRet_, kIf_t, kIf_f, kAsg_V, kPar_, kAug_, kB1_, kB2_, kU_, kN_, kC1_, kC2_, kAnd_T, kAnd_F, kOr_T, kOr_F, kNot_B, kCh1_, kCh2_, kCh3_t, kCh3_f, kTV_B, kTB_B, kTA_t, kTA_f, kTO_t, kTO_f, kTN_, kOS_, kSl1_, kSl2_, kSl3_, kM2_, kK1_, kK2_, kSq_tup, kSq_lst, kSq_str, kEn_tup, kEn_lst, kZp_tup, kZp_lst, kFor_, kTurn_nx, kTurn_ct, kTurn_bk, kTurn_rt, kComp_, kLcT_t, kLcT_f,
 setAll, wipeE, pick, List.getElem?_cons_zero, List.getElem?_cons_succ, List.set_cons_zero, List.set_cons_succ, List.map_cons, List.map_nil, List.replicate_succ, List.replicate_zero, List.cons_append, List.nil_append, List.append_nil, List.length_cons, List.length_nil, List.filterMap_cons, List.filterMap_nil,
 Nat.reduceAdd, Nat.reduceSub, Nat.reduceLeDiff, Nat.reduceEqDiff, and_self, if_true, if_false, opAdd_int, opSub_int, opGt_int, opLt_int, opGe_int, opLe_int, opEq_int, opEq_str, opEq_bl, opNe_int, opNe_bl, opNe_str, bInt_int, bInt_bl, bAbs_int, truD_bl, truD_int, W_fLst, W_fTup, pow18, bLen_tup, bLen_lst, bTuple_lst, bTuple_tup, bList_lst, bList_tup]
      rw [mAppend_run (ds := done.map .int) rfl (by simpa using hdl)]
      simp only [W_body, W_sSeq, W_sNx, W_sBk, W_sCt, W_sExpr, W_sRet, W_sRetN, W_sIf, W_sAsg, W_sPar, W_sAug, W_eC, W_eVar, W_eBin, W_eUn, W_eArgs, W_aNil, W_aCons, W_eAnd, W_eOr, W_eNot, W_eIf, W_eChain, W_tVal, W_tBl, W_tAnd, W_tOr, W_tNot, W_tTrue, W_oNone, W_oSome, W_eSl, W_eRev, W_eMethL, W_eCall, W_iSeq, W_iRange1, W_iRange2, W_iEnumS, W_iZipS, W_sFor, W_eComp, W_lcStep, W_gV, W_gUnpackVV, W_newF, W_newT, W_some,
 kBody_rt, kBody_nx, kSeq_nx, kSeq_rt, kSeq_bk, kSeq_ct, kExp_, kRet_, kIf_t, kIf_f, kAsg_V, kPar_, kAug_, kB1_, kB2_, kU_, kN_, kC1_, kC2_, kAnd_T, kAnd_F, kOr_T, kOr_F, kNot_B, kCh1_, kCh2_, kCh3_t, kCh3_f, kTV_B, kTB_B, kTA_t, kTA_f, kTO_t, kTO_f, kTN_, kOS_, kSl1_, kSl2_, kSl3_, kM2_, kK1_, kK2_, kSq_tup, kSq_lst, kSq_str, kEn_tup, kEn_lst, kZp_tup, kZp_lst, kFor_, kTurn_nx, kTurn_ct, kTurn_bk, kTurn_rt, kComp_, kLcT_t, kLcT_f,
 setAll, wipeE, pick, List.getElem?_cons_zero, List.getElem?_cons_succ, List.set_cons_zero, List.set_cons_succ, List.map_cons, List.map_nil, List.replicate_succ, List.replicate_zero, List.cons_append, List.nil_append, List.append_nil, List.length_cons, List.length_nil, List.filterMap_cons, List.filterMap_nil,
 Nat.reduceAdd, Nat.reduceSub, Nat.reduceLeDiff, Nat.reduceEqDiff, and_self, if_true, if_false, opAdd_int, opSub_int, opGt_int, opLt_int, opGe_int, opLe_int, opEq_int, opEq_str, opEq_bl, opNe_int, opNe_bl, opNe_str, bInt_int, bInt_bl, bAbs_int, truD_bl, truD_int, W_fLst, W_fTup, pow18, bLen_tup, bLen_lst, bTuple_lst, bTuple_tup, bList_lst, bList_tup]
      exact ⟨L1, done ++ [if r.tag > h then r.tag else h], _, _, rfl, rfl, by rw [List.map_append]; rfl, by rw [← h2, stairF, List.append_assoc]; rfl⟩

theorem lc_map {α : Type} {enc : α → D} {f : α → Option D} {step : D → Sto → M (Option D)} {chk : Chk} {S : Sto} (hc : stable chk S = true) : ∀ (xs : List α) (acc : List D), (∀ x ∈ xs, step (enc x) S = some (f x, S)) → lcLoop step chk (xs.map enc) acc S = some (acc ++ xs.filterMap f, S)
  | [], acc, _ => by simp only [List.map_nil, lcLoop, hc, if_true, List.filterMap_nil, List.append_nil]
  | x :: xs, acc, h => by
    simp only [List.map_cons, lcLoop, hc, if_true, h x List.mem_cons_self, Option.bind_some]
    rw [lc_map hc xs _ fun d hd => h d (List.mem_cons_of_mem _ hd)]
    cases hf : f x <;> simp [List.filterMap_cons, hf]
theorem flatsOf_str : ∀ ks : List Str, flatsOf (ks.map D.str) = some (ks.map V.str)
  | [] => rfl
  | k :: ks => by simp only [List.map_cons, flatsOf, flatOf, flatsOf_str ks]
theorem inV_str {x : Str} : ∀ ks : List Str, inV (.str x) (ks.map V.str) = decide (x ∈ ks)
  | [] => rfl
  | k :: ks => by
    have := inV_str (x := x) ks
    unfold inV at this ⊢
    rw [List.map_cons, List.any_cons, this, Bool.eq_iff_iff]
    simp only [eqV, Bool.or_eq_true, decide_eq_true_eq, beq_iff_eq, List.mem_cons]
    exact ⟨fun h => h.imp Eq.symm id, fun h => h.imp Eq.symm id⟩
theorem opIn_strs {x : Str} {ds : List D} {d : D} {ks : List Str} {S : Sto} (hd : seqOf S d = some (ks.map .str)) : opIn false (.str x) d S = some (.bl (decide (x ∈ ks)), S) := by
  simp only [opIn, opInF, flatOf, hd, Option.bind_some, flatsOf_str, inV_str]
  rfl
theorem opIn_sq {x : Str} {b : Bool} {ks : List Str} {S : Sto} : opIn false (.str x) (strE b ks) S = some (.bl (decide (x ∈ ks)), S) := opIn_strs (ds := []) (by cases b <;> rfl)
theorem opIn_frz {x : Str} {ks : List Str} {S : Sto} : opIn false (.str x) (.lst .frz (ks.map .str)) S = some (.bl (decide (x ∈ ks)), S) := opIn_strs (ds := []) rfl
theorem blsOf_map : ∀ bs : List Bool, blsOf (bs.map D.bl) = some bs
  | [] => rfl
  | b :: bs => by simp only [List.map_cons, blsOf, blsOf_map bs]
theorem bAny_frz {bs : List Bool} {S : Sto} : bAny [.lst .frz (bs.map .bl)] S = some (.bl (bs.any id), S) := by simp only [bAny, listBls, readS, Option.bind_some, blsOf_map]
theorem bAll_frz {bs : List Bool} {S : Sto} : bAll [.lst .frz (bs.map .bl)] S = some (.bl (bs.all id), S) := by simp only [bAll, listBls, readS, Option.bind_some, blsOf_map]
theorem intsOf_map : ∀ ks : List Int, intsOf (ks.map D.int) = some ks
  | [] => rfl
  | k :: ks => by simp only [List.map_cons, intsOf, intsOf_map ks]
/-! ### who writes what -/
def hit (r : Row) (ks : List Str) : Bool := r.ws.any fun w => decide (w.key ∈ ks)
def writersF (L : List Row) (ks : List Str) : List Int := (L.zipIdx 0).filterMap fun p => if hit p.1 ks = true then some (p.2 : Int) else none
def writersSem (mk : Bool) (keys : OpN) : SemS := (sRet (eComp mk (iEnumS (aCons (eVar 0) aNil)) (gUnpack 2 (gsCons (gV 2) (gsCons (gV 3) gsNil))) (tVal (eArgs bAny (aCons (eComp false (iSeq (eCall (callP false keys) 1 0 1 [] [0] (aCons (eVar 3) aNil) aNil)) (gV 4) tTrue (eBin (opIn false) (eVar 4) (eVar 1)) [4]) aNil))) (eVar 2) [2, 3]))
theorem map_bl {α : Type} {g : α → Bool} (l : List α) : l.map (fun k => D.bl (g k)) = (l.map g).map D.bl := by rw [List.map_map]; rfl
theorem hit_any {r : Row} {ks : List Str} : (((keysOf r).map fun k => decide (k ∈ ks)).any id) = hit r ks := by
  rw [keysOf, hit, List.map_map, List.any_map]
  rfl
theorem writers_run {mk b c : Bool} {keys : OpN} (hk : keys = body 2 keysSem) {L : List Row} {ks : List Str} {S : Sto} {Q : Kn D} (hl : L.length ≤ LIM) (hw : ∀ r ∈ L, r.ws.length ≤ LIM) (q : W (newL mk ((writersF L ks).map .int) S) Q) : W (body 5 (writersSem mk keys) [logE b L, strE c ks] S) Q := by
  unfold writersSem
  simp only [W_body, W_sSeq, W_sNx, W_sBk, W_sCt, W_sExpr, W_sRet, W_sRetN, W_sIf, W_sAsg, W_sPar, W_sAug, W_eC, W_eVar, W_eBin, W_eUn, W_eArgs, W_aNil, W_aCons, W_eAnd, W_eOr, W_eNot, W_eIf, W_eChain, W_tVal, W_tBl, W_tAnd, W_tOr, W_tNot, W_tTrue, W_oNone, W_oSome, W_eSl, W_eRev, W_eMethL, W_eCall, W_iSeq, W_iRange1, W_iRange2, W_iEnumS, W_iZipS, W_sFor, W_eComp, W_lcStep, W_gV, W_gUnpackVV, W_newF, W_newT, W_some,
 kBody_rt, kBody_nx, kSeq_nx, kSeq_rt, kSeq_bk, kSeq_ct, kExp_, kRet_, kIf_t, kIf_f, kAsg_V, kPar_, kAug_, kB1_, kB2_, kU_, kN_, kC1_, kC2_, kAnd_T, kAnd_F, kOr_T, kOr_F, kNot_B, kCh1_, kCh2_, kCh3_t, kCh3_f, kTV_B, kTB_B, kTA_t, kTA_f, kTO_t, kTO_f, kTN_, kOS_, kSl1_, kSl2_, kSl3_, kM2_, kK1_, kK2_, kSq_tup, kSq_lst, kSq_str, kEn_tup, kEn_lst, kZp_tup, kZp_lst, kFor_, kTurn_nx, kTurn_ct, kTurn_bk, kTurn_rt, kComp_, kLcT_t, kLcT_f,
 setAll, wipeE, pick, List.getElem?_cons_zero, List.getElem?_cons_succ, List.set_cons_zero, List.set_cons_succ, List.map_cons, List.map_nil, List.replicate_succ, List.replicate_zero, List.cons_append, List.nil_append, List.append_nil, List.length_cons, List.length_nil, List.filterMap_cons, List.filterMap_nil,
 Nat.reduceAdd, Nat.reduceSub, Nat.reduceLeDiff, Nat.reduceEqDiff, and_self, if_true, if_false, opAdd_int, opSub_int, opGt_int, opLt_int, opGe_int, opLe_int, opEq_int, opEq_str, opEq_bl, opNe_int, opNe_bl, opNe_str, bInt_int, bInt_bl, bAbs_int, truD_bl, truD_int, W_fLst, W_fTup, pow18, bLen_tup, bLen_lst, bTuple_lst, bTuple_tup, bList_lst, bList_tup, logE, kEn_sq, enumD_map]
  rw [lc_map (f := fun p => if hit p.1 ks = true then some (.int (p.2 : Int)) else none) rfl _ _ fun p hp => ?_]
  · rw [W_some]
    refine ⟨by simp; exact hl, ?_⟩
    simp only [W_body, W_sSeq, W_sNx, W_sBk, W_sCt, W_sExpr, W_sRet, W_sRetN, W_sIf, W_sAsg, W_sPar, W_sAug, W_eC, W_eVar, W_eBin, W_eUn, W_eArgs, W_aNil, W_aCons, W_eAnd, W_eOr, W_eNot, W_eIf, W_eChain, W_tVal, W_tBl, W_tAnd, W_tOr, W_tNot, W_tTrue, W_oNone, W_oSome, W_eSl, W_eRev, W_eMethL, W_eCall, W_iSeq, W_iRange1, W_iRange2, W_iEnumS, W_iZipS, W_sFor, W_eComp, W_lcStep, W_gV, W_gUnpackVV, W_newF, W_newT, W_some,
 kBody_rt, kBody_nx, kSeq_nx, kSeq_rt, kSeq_bk, kSeq_ct, kExp_, kRet_, kIf_t, kIf_f, kAsg_V, kPar_, kAug_, kB1_, kB2_, kU_, kN_, kC1_, kC2_, kAnd_T, kAnd_F, kOr_T, kOr_F, kNot_B, kCh1_, kCh2_, kCh3_t, kCh3_f, kTV_B, kTB_B, kTA_t, kTA_f, kTO_t, kTO_f, kTN_, kOS_, kSl1_, kSl2_, kSl3_, kM2_, kK1_, kK2_, kSq_tup, kSq_lst, kSq_str, kEn_tup, kEn_lst, kZp_tup, kZp_lst, kFor_, kTurn_nx, kTurn_ct, kTurn_bk, kTurn_rt, kComp_, kLcT_t, kLcT_f,
 setAll, wipeE, pick, List.getElem?_cons_zero, List.getElem?_cons_succ, List.set_cons_zero, List.set_cons_succ, List.map_cons, List.map_nil, List.replicate_succ, List.replicate_zero, List.cons_append, List.nil_append, List.append_nil, List.length_cons, List.length_nil, List.filterMap_cons, List.filterMap_nil,
 Nat.reduceAdd, Nat.reduceSub, Nat.reduceLeDiff, Nat.reduceEqDiff, and_self, if_true, if_false, opAdd_int, opSub_int, opGt_int, opLt_int, opGe_int, opLe_int, opEq_int, opEq_str, opEq_bl, opNe_int, opNe_bl, opNe_str, bInt_int, bInt_bl, bAbs_int, truD_bl, truD_int, W_fLst, W_fTup, pow18, bLen_tup, bLen_lst, bTuple_lst, bTuple_tup, bList_lst, bList_tup]
    have e : ((L.zipIdx 0).filterMap fun p => if hit p.1 ks = true then some (D.int (p.2 : Int)) else none) = (writersF L ks).map .int := by
      rw [writersF, List.map_filterMap]
      congr 1
      funext p
      split <;> rfl
    rw [e]
    exact W.mono q fun a S h => h
  · have hr : p.1 ∈ L := by
      have := List.mem_zipIdx hp
      simp at this
      rw [this.2]; exact List.getElem_mem _
    refine W_get ?_
    have hkr := keys_run (b := b) (r := p.1) (S := S) (hw _ hr)
    rw [← hk] at hkr
    simp only [W_body, W_sSeq, W_sNx, W_sBk, W_sCt, W_sExpr, W_sRet, W_sRetN, W_sIf, W_sAsg, W_sPar, W_sAug, W_eC, W_eVar, W_eBin, W_eUn, W_eArgs, W_aNil, W_aCons, W_eAnd, W_eOr, W_eNot, W_eIf, W_eChain, W_tVal, W_tBl, W_tAnd, W_tOr, W_tNot, W_tTrue, W_oNone, W_oSome, W_eSl, W_eRev, W_eMethL, W_eCall, W_iSeq, W_iRange1, W_iRange2, W_iEnumS, W_iZipS, W_sFor, W_eComp, W_lcStep, W_gV, W_gUnpackVV, W_newF, W_newT, W_some,
 kBody_rt, kBody_nx, kSeq_nx, kSeq_rt, kSeq_bk, kSeq_ct, kExp_, kRet_, kIf_t, kIf_f, kAsg_V, kPar_, kAug_, kB1_, kB2_, kU_, kN_, kC1_, kC2_, kAnd_T, kAnd_F, kOr_T, kOr_F, kNot_B, kCh1_, kCh2_, kCh3_t, kCh3_f, kTV_B, kTB_B, kTA_t, kTA_f, kTO_t, kTO_f, kTN_, kOS_, kSl1_, kSl2_, kSl3_, kM2_, kK1_, kK2_, kSq_tup, kSq_lst, kSq_str, kEn_tup, kEn_lst, kZp_tup, kZp_lst, kFor_, kTurn_nx, kTurn_ct, kTurn_bk, kTurn_rt, kComp_, kLcT_t, kLcT_f,
 setAll, wipeE, pick, List.getElem?_cons_zero, List.getElem?_cons_succ, List.set_cons_zero, List.set_cons_succ, List.map_cons, List.map_nil, List.replicate_succ, List.replicate_zero, List.cons_append, List.nil_append, List.append_nil, List.length_cons, List.length_nil, List.filterMap_cons, List.filterMap_nil,
 Nat.reduceAdd, Nat.reduceSub, Nat.reduceLeDiff, Nat.reduceEqDiff, and_self, if_true, if_false, opAdd_int, opSub_int, opGt_int, opLt_int, opGe_int, opLe_int, opEq_int, opEq_str, opEq_bl, opNe_int, opNe_bl, opNe_str, bInt_int, bInt_bl, bAbs_int, truD_bl, truD_int, W_fLst, W_fTup, pow18, bLen_tup, bLen_lst, bTuple_lst, bTuple_tup, bList_lst, bList_tup, hkr]
    rw [lc_map (f := fun k => some (.bl (decide (k ∈ ks)))) rfl _ _ fun k _ => ?_]
    · rw [W_some]
      refine ⟨by simp [keysOf]; exact hw _ hr, ?_⟩
      rw [List.nil_append, filterMap_some, map_bl, bAny_frz, hit_any]
      simp only [W_body, W_sSeq, W_sNx, W_sBk, W_sCt, W_sExpr, W_sRet, W_sRetN, W_sIf, W_sAsg, W_sPar, W_sAug, W_eC, W_eVar, W_eBin, W_eUn, W_eArgs, W_aNil, W_aCons, W_eAnd, W_eOr, W_eNot, W_eIf, W_eChain, W_tVal, W_tBl, W_tAnd, W_tOr, W_tNot, W_tTrue, W_oNone, W_oSome, W_eSl, W_eRev, W_eMethL, W_eCall, W_iSeq, W_iRange1, W_iRange2, W_iEnumS, W_iZipS, W_sFor, W_eComp, W_lcStep, W_gV, W_gUnpackVV, W_newF, W_newT, W_some,
 kBody_rt, kBody_nx, kSeq_nx, kSeq_rt, kSeq_bk, kSeq_ct, kExp_, kRet_, kIf_t, kIf_f, kAsg_V, kPar_, kAug_, kB1_, kB2_, kU_, kN_, kC1_, kC2_, kAnd_T, kAnd_F, kOr_T, kOr_F, kNot_B, kCh1_, kCh2_, kCh3_t, kCh3_f, kTV_B, kTB_B, kTA_t, kTA_f, kTO_t, kTO_f, kTN_, kOS_, kSl1_, kSl2_, kSl3_, kM2_, kK1_, kK2_, kSq_tup, kSq_lst, kSq_str, kEn_tup, kEn_lst, kZp_tup, kZp_lst, kFor_, kTurn_nx, kTurn_ct, kTurn_bk, kTurn_rt, kComp_, kLcT_t, kLcT_f,
 setAll, wipeE, pick, List.getElem?_cons_zero, List.getElem?_cons_succ, List.set_cons_zero, List.set_cons_succ, List.map_cons, List.map_nil, List.replicate_succ, List.replicate_zero, List.cons_append, List.nil_append, List.append_nil, List.length_cons, List.length_nil, List.filterMap_cons, List.filterMap_nil,
 Nat.reduceAdd, Nat.reduceSub, Nat.reduceLeDiff, Nat.reduceEqDiff, and_self, if_true, if_false, opAdd_int, opSub_int, opGt_int, opLt_int, opGe_int, opLe_int, opEq_int, opEq_str, opEq_bl, opNe_int, opNe_bl, opNe_str, bInt_int, bInt_bl, bAbs_int, truD_bl, truD_int, W_fLst, W_fTup, pow18, bLen_tup, bLen_lst, bTuple_lst, bTuple_tup, bList_lst, bList_tup]
      refine kLcT_any (fun h => ?_) fun h => ?_
      · simp only [W_body, W_sSeq, W_sNx, W_sBk, W_sCt, W_sExpr, W_sRet, W_sRetN, W_sIf, W_sAsg, W_sPar, W_sAug, W_eC, W_eVar, W_eBin, W_eUn, W_eArgs, W_aNil, W_aCons, W_eAnd, W_eOr, W_eNot, W_eIf, W_eChain, W_tVal, W_tBl, W_tAnd, W_tOr, W_tNot, W_tTrue, W_oNone, W_oSome, W_eSl, W_eRev, W_eMethL, W_eCall, W_iSeq, W_iRange1, W_iRange2, W_iEnumS, W_iZipS, W_sFor, W_eComp, W_lcStep, W_gV, W_gUnpackVV, W_newF, W_newT, W_some,
 kBody_rt, kBody_nx, kSeq_nx, kSeq_rt, kSeq_bk, kSeq_ct, kExp_, kRet_, kIf_t, kIf_f, kAsg_V, kPar_, kAug_, kB1_, kB2_, kU_, kN_, kC1_, kC2_, kAnd_T, kAnd_F, kOr_T, kOr_F, kNot_B, kCh1_, kCh2_, kCh3_t, kCh3_f, kTV_B, kTB_B, kTA_t, kTA_f, kTO_t, kTO_f, kTN_, kOS_, kSl1_, kSl2_, kSl3_, kM2_, kK1_, kK2_, kSq_tup, kSq_lst, kSq_str, kEn_tup, kEn_lst, kZp_tup, kZp_lst, kFor_, kTurn_nx, kTurn_ct, kTurn_bk, kTurn_rt, kComp_, kLcT_t, kLcT_f,
 setAll, wipeE, pick, List.getElem?_cons_zero, List.getElem?_cons_succ, List.set_cons_zero, List.set_cons_succ, List.map_cons, List.map_nil, List.replicate_succ, List.replicate_zero, List.cons_append, List.nil_append, List.append_nil, List.length_cons, List.length_nil, List.filterMap_cons, List.filterMap_nil,
 Nat.reduceAdd, Nat.reduceSub, Nat.reduceLeDiff, Nat.reduceEqDiff, and_self, if_true, if_false, opAdd_int, opSub_int, opGt_int, opLt_int, opGe_int, opLe_int, opEq_int, opEq_str, opEq_bl, opNe_int, opNe_bl, opNe_str, bInt_int, bInt_bl, bAbs_int, truD_bl, truD_int, W_fLst, W_fTup, pow18, bLen_tup, bLen_lst, bTuple_lst, bTuple_tup, bList_lst, bList_tup, h]
      · simp only [h, Bool.false_eq_true, if_false, and_self]
    · refine W_get ?_
      simp only [W_body, W_sSeq, W_sNx, W_sBk, W_sCt, W_sExpr, W_sRet, W_sRetN, W_sIf, W_sAsg, W_sPar, W_sAug, W_eC, W_eVar, W_eBin, W_eUn, W_eArgs, W_aNil, W_aCons, W_eAnd, W_eOr, W_eNot, W_eIf, W_eChain, W_tVal, W_tBl, W_tAnd, W_tOr, W_tNot, W_tTrue, W_oNone, W_oSome, W_eSl, W_eRev, W_eMethL, W_eCall, W_iSeq, W_iRange1, W_iRange2, W_iEnumS, W_iZipS, W_sFor, W_eComp, W_lcStep, W_gV, W_gUnpackVV, W_newF, W_newT, W_some,
 kBody_rt, kBody_nx, kSeq_nx, kSeq_rt, kSeq_bk, kSeq_ct, kExp_, kRet_, kIf_t, kIf_f, kAsg_V, kPar_, kAug_, kB1_, kB2_, kU_, kN_, kC1_, kC2_, kAnd_T, kAnd_F, kOr_T, kOr_F, kNot_B, kCh1_, kCh2_, kCh3_t, kCh3_f, kTV_B, kTB_B, kTA_t, kTA_f, kTO_t, kTO_f, kTN_, kOS_, kSl1_, kSl2_, kSl3_, kM2_, kK1_, kK2_, kSq_tup, kSq_lst, kSq_str, kEn_tup, kEn_lst, kZp_tup, kZp_lst, kFor_, kTurn_nx, kTurn_ct, kTurn_bk, kTurn_rt, kComp_, kLcT_t, kLcT_f,
 setAll, wipeE, pick, List.getElem?_cons_zero, List.getElem?_cons_succ, List.set_cons_zero, List.set_cons_succ, List.map_cons, List.map_nil, List.replicate_succ, List.replicate_zero, List.cons_append, List.nil_append, List.append_nil, List.length_cons, List.length_nil, List.filterMap_cons, List.filterMap_nil,
 Nat.reduceAdd, Nat.reduceSub, Nat.reduceLeDiff, Nat.reduceEqDiff, and_self, if_true, if_false, opAdd_int, opSub_int, opGt_int, opLt_int, opGe_int, opLe_int, opEq_int, opEq_str, opEq_bl, opNe_int, opNe_bl, opNe_str, bInt_int, bInt_bl, bAbs_int, truD_bl, truD_int, W_fLst, W_fTup, pow18, bLen_tup, bLen_lst, bTuple_lst, bTuple_tup, bList_lst, bList_tup, opIn_sq]
end AW

namespace AW
open PySem PySem.Spec PyProof.Rows L2

def nilRow : Row := ⟨0, 0, []⟩
def rowAt (L : List Row) (k : Nat) : Row := L.getD k nilRow
theorem rowAt_eq {L : List Row} {k : Nat} (h : k < L.length) : rowAt L k = L[k] := by simp [rowAt, h]
def hAt (L : List Row) (k : Nat) : Int := (stairF 0 L).getD k 0
theorem hAt_eq {L : List Row} {k : Nat} (h : k < (stairF 0 L).length) : hAt L k = (stairF 0 L)[k] := by simp [hAt, h]
theorem stairF_ge {h : Int} : ∀ {L : List Row} {x : Int}, x ∈ stairF h L → h ≤ x
  | r :: L, x, hx => by
    simp only [stairF] at hx
    rcases List.mem_cons.mp hx with rfl | hx
    · split <;> omega
    · have := stairF_ge hx
      split at this <;> omega
theorem hAt_nn {L : List Row} {k : Nat} : 0 ≤ hAt L k := by
  by_cases h : k < (stairF 0 L).length
  · rw [hAt_eq h]; exact stairF_ge (List.getElem_mem _)
  · simp [hAt, Nat.not_lt.mp h]
def share (L : List Row) (e l : Nat) : Bool := hit (rowAt L e) (keysOf (rowAt L l))
/-- the pairs at the later place l -/
def clashAt (L : List Row) (l : Nat) : List (Int × Int) := (List.range (l - (hAt L l).toNat)).filterMap fun j => if share L ((hAt L l).toNat + j) l = true then some ((((hAt L l).toNat + j : Nat) : Int), (l : Int)) else none
def clashF (L : List Row) : List (Int × Int) := (List.range L.length).flatMap (clashAt L)
theorem range_flat {α : Type} {f : Nat → List α} {k : Nat} : (List.range (k + 1)).flatMap f = (List.range k).flatMap f ++ f k := by rw [List.range_succ, List.flatMap_append]; simp
theorem range_fm {α : Type} {f : Nat → Option α} {k : Nat} : (List.range (k + 1)).filterMap f = (List.range k).filterMap f ++ (match f k with | some x => [x] | none => []) := by
  rw [List.range_succ, List.filterMap_append]
  cases h : f k <;> simp [h]
theorem dP_fTup {e l : Int} {S : Sto} {Q : Kn D} : W (fTup [.int e, .int l] S) Q = Q (dP (e, l)) S := W_fTup (by simp)
theorem pairsOf_map : ∀ ps : List (Int × Int), pairsOf (ps.map dP) = some ps
  | [] => rfl
  | p :: ps => by simp only [List.map_cons, dP, pairsOf, pairsOf_map ps]
theorem bSorted_pairs {mk : Bool} {i : Nat} {S : Sto} {ps : List (Int × Int)} (h : S[i]? = some (.lst (ps.map dP))) : bSorted mk [.ref i] S = newL mk ((sortP ps).map dP) S := by
  cases ps with
  | nil => simp only [bSorted, bSortedI, listInts, readS, h, Option.bind_some, List.map_nil, intsOf]; cases mk <;> rfl
  | cons p ps =>
    have e1 : intsOf ((p :: ps).map dP) = none := rfl
    have e2 : strsOf ((p :: ps).map dP) = none := rfl
    simp only [bSorted, bSortedI, bSortedS, bSortedP, listInts, listStrs, listPairs, readS, h, Option.bind_some, e1, e2, pairsOf_map]
def clashesSem (mk : Bool) (keys stair : OpN) : SemS := (sSeq (sPar [1, 2] (aCons (eCall (callP false stair) 1 0 1 [] [0] (aCons (eVar 0) aNil) aNil) (aCons (eArgs (fLst true) aNil) aNil))) (sSeq (sFor (iEnumS (aCons (eVar 0) aNil)) (gUnpack 2 (gsCons (gV 3) (gsCons (gV 4) gsNil))) (sFor (iRange2 (aCons (eBin opIx (eVar 1) (eVar 3)) (aCons (eVar 3) aNil))) (gV 5) (sIf (tVal (eArgs bAny (aCons (eComp false (iSeq (eCall (callP false keys) 1 0 1 [] [0] (aCons (eBin opIx (eVar 0) (eVar 5)) aNil) aNil)) (gV 6) tTrue (eBin (opIn false) (eVar 6) (eCall (callP false keys) 1 0 1 [] [0] (aCons (eVar 4) aNil) aNil)) [6]) aNil))) (sExpr (eMethL mAppend (eVar 2) (aCons (eArgs fTup (aCons (eVar 5) (aCons (eVar 3) aNil))) aNil))) sNx))) (sRet (eArgs (bSorted mk) (aCons (eVar 2) aNil)))))
theorem toNat_len (L : List D) : ((L.length : Nat) : Int).toNat = L.length := Int.toNat_natCast _
theorem clashes_run {mk b : Bool} {keys stair : OpN} (hk : keys = body 2 keysSem) (hst : stair = body 4 stairSem) {L : List Row} {Q : Kn D} (hl : L.length ≤ 100) (hw : ∀ r ∈ L, r.ws.length ≤ LIM) (hh : ∀ k, k < L.length → hAt L k ≤ 1000000)
    (q : ∀ S, W (newL mk ((sortP (clashF L)).map dP) S) Q) : W (body 7 (clashesSem mk keys stair) [logE b L] []) Q := by
  have hwa : ∀ k, (rowAt L k).ws.length ≤ LIM := fun k => by
    by_cases h : k < L.length
    · rw [rowAt_eq h]; exact hw _ (List.getElem_mem _)
    · simp [rowAt, Nat.not_lt.mp h, nilRow]
  have hs : ∀ S : Sto, callP false stair [logE b L] S = some (.lst .frz ((stairF 0 L).map .int), S) := fun S => by
    obtain ⟨d, Sc, e, h1, h2⟩ := stair_run (b := b) (L := L) (Q := fun d S => d = .ref 0 ∧ S = [.lst ((stairF 0 L).map .int)]) (by omega) ⟨rfl, rfl⟩
    subst h1 h2
    rw [← hst] at e
    exact W_callE (by simp only [pls, pl_log, Bool.and_self]) e (frz_ref rfl (nbs_map (fun _ => rfl) _))
  have hkr : ∀ (k : Nat) (S : Sto), callP false keys [rowE b (rowAt L k)] S = some (.lst .frz ((keysOf (rowAt L k)).map .str), S) := fun k S => by rw [hk]; exact keys_run (hwa k)
  unfold clashesSem
  simp only [W_body, W_sSeq, W_sNx, W_sBk, W_sCt, W_sExpr, W_sRet, W_sRetN, W_sIf, W_sAsg, W_sPar, W_sAug, W_eC, W_eVar, W_eBin, W_eUn, W_eArgs, W_aNil, W_aCons, W_eAnd, W_eOr, W_eNot, W_eIf, W_eChain, W_tVal, W_tBl, W_tAnd, W_tOr, W_tNot, W_tTrue, W_oNone, W_oSome, W_eSl, W_eRev, W_eMethL, W_eCall, W_iSeq, W_iRange1, W_iRange2, W_iEnumS, W_iZipS, W_sFor, W_eComp, W_lcStep, W_gV, W_gUnpackVV, W_newF, W_newT, W_some,
 kBody_rt, kBody_nx, kSeq_nx, kSeq_rt, kSeq_bk, kSeq_ct, kExp_, kRet_, kIf_t, kIf_f, kAsg_V, kPar_, kAug_, kB1_, kB2_, kU_, kN_, kC1_, kC2_, kAnd_T, kAnd_F, kOr_T, kOr_F, kNot_B, kCh1_, kCh2_, kCh3_t, kCh3_f, kTV_B, kTB_B, kTA_t, kTA_f, kTO_t, kTO_f, kTN_, kOS_, kSl1_, kSl2_, kSl3_, kM2_, kK1_, kK2_, kSq_tup, kSq_lst, kSq_str, kEn_tup, kEn_lst, kZp_tup, kZp_lst, kFor_, kTurn_nx, kTurn_ct, kTurn_bk, kTurn_rt, kComp_, kLcT_t, kLcT_f,
 setAll, wipeE, pick, List.getElem?_cons_zero, List.getElem?_cons_succ, List.set_cons_zero, List.set_cons_succ, List.map_cons, List.map_nil, List.replicate_succ, List.replicate_zero, List.cons_append, List.nil_append, List.append_nil, List.length_cons, List.length_nil, List.filterMap_cons, List.filterMap_nil,
 Nat.reduceAdd, Nat.reduceSub, Nat.reduceLeDiff, Nat.reduceEqDiff, and_self, if_true, if_false, opAdd_int, opSub_int, opGt_int, opLt_int, opGe_int, opLe_int, opEq_int, opEq_str, opEq_bl, opNe_int, opNe_bl, opNe_str, bInt_int, bInt_bl, bAbs_int, truD_bl, truD_int, W_fLst, W_fTup, pow18, bLen_tup, bLen_lst, bTuple_lst, bTuple_tup, bList_lst, bList_tup, hs]
  rw [show logE b L = sq b (L.map (rowE b)) from rfl]
  simp only [W_body, W_sSeq, W_sNx, W_sBk, W_sCt, W_sExpr, W_sRet, W_sRetN, W_sIf, W_sAsg, W_sPar, W_sAug, W_eC, W_eVar, W_eBin, W_eUn, W_eArgs, W_aNil, W_aCons, W_eAnd, W_eOr, W_eNot, W_eIf, W_eChain, W_tVal, W_tBl, W_tAnd, W_tOr, W_tNot, W_tTrue, W_oNone, W_oSome, W_eSl, W_eRev, W_eMethL, W_eCall, W_iSeq, W_iRange1, W_iRange2, W_iEnumS, W_iZipS, W_sFor, W_eComp, W_lcStep, W_gV, W_gUnpackVV, W_newF, W_newT, W_some,
 kBody_rt, kBody_nx, kSeq_nx, kSeq_rt, kSeq_bk, kSeq_ct, kExp_, kRet_, kIf_t, kIf_f, kAsg_V, kPar_, kAug_, kB1_, kB2_, kU_, kN_, kC1_, kC2_, kAnd_T, kAnd_F, kOr_T, kOr_F, kNot_B, kCh1_, kCh2_, kCh3_t, kCh3_f, kTV_B, kTB_B, kTA_t, kTA_f, kTO_t, kTO_f, kTN_, kOS_, kSl1_, kSl2_, kSl3_, kM2_, kK1_, kK2_, kSq_tup, kSq_lst, kSq_str, kEn_tup, kEn_lst, kZp_tup, kZp_lst, kFor_, kTurn_nx, kTurn_ct, kTurn_bk, kTurn_rt, kComp_, kLcT_t, kLcT_f,
 setAll, wipeE, pick, List.getElem?_cons_zero, List.getElem?_cons_succ, List.set_cons_zero, List.set_cons_succ, List.map_cons, List.map_nil, List.replicate_succ, List.replicate_zero, List.cons_append, List.nil_append, List.append_nil, List.length_cons, List.length_nil, List.filterMap_cons, List.filterMap_nil,
 Nat.reduceAdd, Nat.reduceSub, Nat.reduceLeDiff, Nat.reduceEqDiff, and_self, if_true, if_false, opAdd_int, opSub_int, opGt_int, opLt_int, opGe_int, opLe_int, opEq_int, opEq_str, opEq_bl, opNe_int, opNe_bl, opNe_str, bInt_int, bInt_bl, bAbs_int, truD_bl, truD_int, W_fLst, W_fTup, pow18, bLen_tup, bLen_lst, bTuple_lst, bTuple_tup, bList_lst, bList_tup, kEn_sq]
  refine W_forK (fun k E S => ∃ (x y z u : Option D) (ps : List (Int × Int)), E = [some (logE b L), some (.lst .frz ((stairF 0 L).map .int)), some (.ref 0), x, y, z, u] ∧ ps = (List.range k).flatMap (clashAt L) ∧ ps.length ≤ 100 * k ∧ S = [.lst (ps.map dP)]) (fun _ => rfl) ?_ ?_ ⟨none, none, none, none, [], rfl, rfl, by simp, rfl⟩
  · rintro E S ⟨x, y, z, u, ps, rfl, h1, h2, rfl⟩
    simp only [W_body, W_sSeq, W_sNx, W_sBk, W_sCt, W_sExpr, W_sRet, W_sRetN, W_sIf, W_sAsg, W_sPar, W_sAug, W_eC, W_eVar, W_eBin, W_eUn, W_eArgs, W_aNil, W_aCons, W_eAnd, W_eOr, W_eNot, W_eIf, W_eChain, W_tVal, W_tBl, W_tAnd, W_tOr, W_tNot, W_tTrue, W_oNone, W_oSome, W_eSl, W_eRev, W_eMethL, W_eCall, W_iSeq, W_iRange1, W_iRange2, W_iEnumS, W_iZipS, W_sFor, W_eComp, W_lcStep, W_gV, W_gUnpackVV, W_newF, W_newT, W_some,
 kBody_rt, kBody_nx, kSeq_nx, kSeq_rt, kSeq_bk, kSeq_ct, kExp_, kRet_, kIf_t, kIf_f, kAsg_V, kPar_, kAug_, kB1_, kB2_, kU_, kN_, kC1_, kC2_, kAnd_T, kAnd_F, kOr_T, kOr_F, kNot_B, kCh1_, kCh2_, kCh3_t, kCh3_f, kTV_B, kTB_B, kTA_t, kTA_f, kTO_t, kTO_f, kTN_, kOS_, kSl1_, kSl2_, kSl3_, kM2_, kK1_, kK2_, kSq_tup, kSq_lst, kSq_str, kEn_tup, kEn_lst, kZp_tup, kZp_lst, kFor_, kTurn_nx, kTurn_ct, kTurn_bk, kTurn_rt, kComp_, kLcT_t, kLcT_f,
 setAll, wipeE, pick, List.getElem?_cons_zero, List.getElem?_cons_succ, List.set_cons_zero, List.set_cons_succ, List.map_cons, List.map_nil, List.replicate_succ, List.replicate_zero, List.cons_append, List.nil_append, List.append_nil, List.length_cons, List.length_nil, List.filterMap_cons, List.filterMap_nil,
 Nat.reduceAdd, Nat.reduceSub, Nat.reduceLeDiff, Nat.reduceEqDiff, and_self, if_true, if_false, opAdd_int, opSub_int, opGt_int, opLt_int, opGe_int, opLe_int, opEq_int, opEq_str, opEq_bl, opNe_int, opNe_bl, opNe_str, bInt_int, bInt_bl, bAbs_int, truD_bl, truD_int, W_fLst, W_fTup, pow18, bLen_tup, bLen_lst, bTuple_lst, bTuple_tup, bList_lst, bList_tup]
    rw [bSorted_pairs (ps := ps) rfl]
    have e : ps = clashF L := by rw [h1, enumD_len, List.length_map]; rfl
    rw [e]
    exact W.mono (q _) fun a S h => h
  · rintro k hk' E S ⟨x, y, z, u, ps, rfl, h1, h2, rfl⟩
    have hkl : k < L.length := by simpa [enumD_len] using hk'
    have e1 : (enumD 0 (L.map (rowE b)))[k] = .tup [.int (k : Nat), rowE b (rowAt L k)] := by
      have : (enumD 0 (L.map (rowE b)))[k]? = some (.tup [.int (k : Nat), rowE b (rowAt L k)]) := by
        rw [enumD_map, List.getElem?_map, List.getElem?_zipIdx]
        simp [hkl, rowAt_eq hkl]
      exact (List.getElem?_eq_some_iff.mp this).2
    rw [e1]
    have hks : k < (stairF 0 L).length := by rw [stairF_len]; exact hkl
    have e2 : atD ((stairF 0 L).map D.int) (k : Int) = some (.int (hAt L k)) := atD_nat (by simp [hks, hAt_eq hks])
    have e3 := hh k hkl
    have e4 : 0 ≤ hAt L k := hAt_nn
    simp only [W_body, W_sSeq, W_sNx, W_sBk, W_sCt, W_sExpr, W_sRet, W_sRetN, W_sIf, W_sAsg, W_sPar, W_sAug, W_eC, W_eVar, W_eBin, W_eUn, W_eArgs, W_aNil, W_aCons, W_eAnd, W_eOr, W_eNot, W_eIf, W_eChain, W_tVal, W_tBl, W_tAnd, W_tOr, W_tNot, W_tTrue, W_oNone, W_oSome, W_eSl, W_eRev, W_eMethL, W_eCall, W_iSeq, W_iRange1, W_iRange2, W_iEnumS, W_iZipS, W_sFor, W_eComp, W_lcStep, W_gV, W_gUnpackVV, W_newF, W_newT, W_some,
 kBody_rt, kBody_nx, kSeq_nx, kSeq_rt, kSeq_bk, kSeq_ct, kExp_, kRet_, kIf_t, kIf_f, kAsg_V, kPar_, kAug_, kB1_, kB2_, kU_, kN_, kC1_, kC2_, kAnd_T, kAnd_F, kOr_T, kOr_F, kNot_B, kCh1_, kCh2_, kCh3_t, kCh3_f, kTV_B, kTB_B, kTA_t, kTA_f, kTO_t, kTO_f, kTN_, kOS_, kSl1_, kSl2_, kSl3_, kM2_, kK1_, kK2_, kSq_tup, kSq_lst, kSq_str, kEn_tup, kEn_lst, kZp_tup, kZp_lst, kFor_, kTurn_nx, kTurn_ct, kTurn_bk, kTurn_rt, kComp_, kLcT_t, kLcT_f,
 setAll, wipeE, pick, List.getElem?_cons_zero, List.getElem?_cons_succ, List.set_cons_zero, List.set_cons_succ, List.map_cons, List.map_nil, List.replicate_succ, List.replicate_zero, List.cons_append, List.nil_append, List.append_nil, List.length_cons, List.length_nil, List.filterMap_cons, List.filterMap_nil,
 Nat.reduceAdd, Nat.reduceSub, Nat.reduceLeDiff, Nat.reduceEqDiff, and_self, if_true, if_false, opAdd_int, opSub_int, opGt_int, opLt_int, opGe_int, opLe_int, opEq_int, opEq_str, opEq_bl, opNe_int, opNe_bl, opNe_str, bInt_int, bInt_bl, bAbs_int, truD_bl, truD_int, W_fLst, W_fTup, pow18, bLen_tup, bLen_lst, bTuple_lst, bTuple_tup, bList_lst, bList_tup, opIx_lst e2]
    rw [kR2_ (by omega)]
    simp only [W_body, W_sSeq, W_sNx, W_sBk, W_sCt, W_sExpr, W_sRet, W_sRetN, W_sIf, W_sAsg, W_sPar, W_sAug, W_eC, W_eVar, W_eBin, W_eUn, W_eArgs, W_aNil, W_aCons, W_eAnd, W_eOr, W_eNot, W_eIf, W_eChain, W_tVal, W_tBl, W_tAnd, W_tOr, W_tNot, W_tTrue, W_oNone, W_oSome, W_eSl, W_eRev, W_eMethL, W_eCall, W_iSeq, W_iRange1, W_iRange2, W_iEnumS, W_iZipS, W_sFor, W_eComp, W_lcStep, W_gV, W_gUnpackVV, W_newF, W_newT, W_some,
 kBody_rt, kBody_nx, kSeq_nx, kSeq_rt, kSeq_bk, kSeq_ct, kExp_, kRet_, kIf_t, kIf_f, kAsg_V, kPar_, kAug_, kB1_, kB2_, kU_, kN_, kC1_, kC2_, kAnd_T, kAnd_F, kOr_T, kOr_F, kNot_B, kCh1_, kCh2_, kCh3_t, kCh3_f, kTV_B, kTB_B, kTA_t, kTA_f, kTO_t, kTO_f, kTN_, kOS_, kSl1_, kSl2_, kSl3_, kM2_, kK1_, kK2_, kSq_tup, kSq_lst, kSq_str, kEn_tup, kEn_lst, kZp_tup, kZp_lst, kFor_, kTurn_nx, kTurn_ct, kTurn_bk, kTurn_rt, kComp_, kLcT_t, kLcT_f,
 setAll, wipeE, pick, List.getElem?_cons_zero, List.getElem?_cons_succ, List.set_cons_zero, List.set_cons_succ, List.map_cons, List.map_nil, List.replicate_succ, List.replicate_zero, List.cons_append, List.nil_append, List.append_nil, List.length_cons, List.length_nil, List.filterMap_cons, List.filterMap_nil,
 Nat.reduceAdd, Nat.reduceSub, Nat.reduceLeDiff, Nat.reduceEqDiff, and_self, if_true, if_false, opAdd_int, opSub_int, opGt_int, opLt_int, opGe_int, opLe_int, opEq_int, opEq_str, opEq_bl, opNe_int, opNe_bl, opNe_str, bInt_int, bInt_bl, bAbs_int, truD_bl, truD_int, W_fLst, W_fTup, pow18, bLen_tup, bLen_lst, bTuple_lst, bTuple_tup, bList_lst, bList_tup]
    obtain ⟨hn, hhn⟩ := Int.eq_ofNat_of_zero_le e4
    refine W_forK (fun j E S => ∃ (z u : Option D) (ps' : List (Int × Int)), E = [some (logE b L), some (.lst .frz ((stairF 0 L).map .int)), some (.ref 0), some (.int k), some (rowE b (rowAt L k)), z, u] ∧ ps' = ps ++ (List.range j).filterMap (fun j => if share L ((hAt L k).toNat + j) k = true then some ((((hAt L k).toNat + j : Nat) : Int), (k : Int)) else none) ∧ ps'.length ≤ 100 * k + j ∧ S = [.lst (ps'.map dP)]) (fun _ => rfl) ?_ ?_ ⟨z, u, ps, rfl, by simp, h2, rfl⟩
    · rintro E S ⟨z, u, ps', rfl, h3, h4, rfl⟩
      simp only [W_body, W_sSeq, W_sNx, W_sBk, W_sCt, W_sExpr, W_sRet, W_sRetN, W_sIf, W_sAsg, W_sPar, W_sAug, W_eC, W_eVar, W_eBin, W_eUn, W_eArgs, W_aNil, W_aCons, W_eAnd, W_eOr, W_eNot, W_eIf, W_eChain, W_tVal, W_tBl, W_tAnd, W_tOr, W_tNot, W_tTrue, W_oNone, W_oSome, W_eSl, W_eRev, W_eMethL, W_eCall, W_iSeq, W_iRange1, W_iRange2, W_iEnumS, W_iZipS, W_sFor, W_eComp, W_lcStep, W_gV, W_gUnpackVV, W_newF, W_newT, W_some,
 kBody_rt, kBody_nx, kSeq_nx, kSeq_rt, kSeq_bk, kSeq_ct, kExp_, kRet_, kIf_t, kIf_f, kAsg_V, kPar_, kAug_, kB1_, kB2_, kU_, kN_, kC1_, kC2_, kAnd_T, kAnd_F, kOr_T, kOr_F, kNot_B, kCh1_, kCh2_, kCh3_t, kCh3_f, kTV_B, kTB_B, kTA_t, kTA_f, kTO_t, kTO_f, kTN_, kOS_, kSl1_, kSl2_, kSl3_, kM2_, kK1_, kK2_, kSq_tup, kSq_lst, kSq_str, kEn_tup, kEn_lst, kZp_tup, kZp_lst, kFor_, kTurn_nx, kTurn_ct, kTurn_bk, kTurn_rt, kComp_, kLcT_t, kLcT_f,
 setAll, wipeE, pick, List.getElem?_cons_zero, List.getElem?_cons_succ, List.set_cons_zero, List.set_cons_succ, List.map_cons, List.map_nil, List.replicate_succ, List.replicate_zero, List.cons_append, List.nil_append, List.append_nil, List.length_cons, List.length_nil, List.filterMap_cons, List.filterMap_nil,
 Nat.reduceAdd, Nat.reduceSub, Nat.reduceLeDiff, Nat.reduceEqDiff, and_self, if_true, if_false, opAdd_int, opSub_int, opGt_int, opLt_int, opGe_int, opLe_int, opEq_int, opEq_str, opEq_bl, opNe_int, opNe_bl, opNe_str, bInt_int, bInt_bl, bAbs_int, truD_bl, truD_int, W_fLst, W_fTup, pow18, bLen_tup, bLen_lst, bTuple_lst, bTuple_tup, bList_lst, bList_tup]
      rw [rangeD_len] at h3 h4
      refine ⟨_, _, _, _, ps', rfl, ?_, by omega, rfl⟩
      rw [range_flat, ← h1, h3]
      congr 1
      rw [clashAt, hhn]
      simp
    · rintro j hj E S ⟨z, u, ps', rfl, h3, h4, rfl⟩
      rw [rangeD_len, hhn] at hj
      have hj' : hn + j < L.length := by omega
      have e5 : (rangeD (hAt L k) ((k : Int) - hAt L k).toNat)[j]'(by rw [rangeD_len, hhn]; exact hj) = .int ((hn + j : Nat) : Int) := by rw [rangeD_at, hhn]; rfl
      rw [e5]
      have hla : ∀ S : Sto, opIx (logE b L) (.int ((hn + j : Nat) : Int)) S = some (rowE b (rowAt L (hn + j)), S) := fun S => by rw [log_at hj', rowAt_eq hj']
      simp only [W_body, W_sSeq, W_sNx, W_sBk, W_sCt, W_sExpr, W_sRet, W_sRetN, W_sIf, W_sAsg, W_sPar, W_sAug, W_eC, W_eVar, W_eBin, W_eUn, W_eArgs, W_aNil, W_aCons, W_eAnd, W_eOr, W_eNot, W_eIf, W_eChain, W_tVal, W_tBl, W_tAnd, W_tOr, W_tNot, W_tTrue, W_oNone, W_oSome, W_eSl, W_eRev, W_eMethL, W_eCall, W_iSeq, W_iRange1, W_iRange2, W_iEnumS, W_iZipS, W_sFor, W_eComp, W_lcStep, W_gV, W_gUnpackVV, W_newF, W_newT, W_some,
 kBody_rt, kBody_nx, kSeq_nx, kSeq_rt, kSeq_bk, kSeq_ct, kExp_, kRet_, kIf_t, kIf_f, kAsg_V, kPar_, kAug_, kB1_, kB2_, kU_, kN_, kC1_, kC2_, kAnd_T, kAnd_F, kOr_T, kOr_F, kNot_B, kCh1_, kCh2_, kCh3_t, kCh3_f, kTV_B, kTB_B, kTA_t, kTA_f, kTO_t, kTO_f, kTN_, kOS_, kSl1_, kSl2_, kSl3_, kM2_, kK1_, kK2_, kSq_tup, kSq_lst, kSq_str, kEn_tup, kEn_lst, kZp_tup, kZp_lst, kFor_, kTurn_nx, kTurn_ct, kTurn_bk, kTurn_rt, kComp_, kLcT_t, kLcT_f,
 setAll, wipeE, pick, List.getElem?_cons_zero, List.getElem?_cons_succ, List.set_cons_zero, List.set_cons_succ, List.map_cons, List.map_nil, List.replicate_succ, List.replicate_zero, List.cons_append, List.nil_append, List.append_nil, List.length_cons, List.length_nil, List.filterMap_cons, List.filterMap_nil,
 Nat.reduceAdd, Nat.reduceSub, Nat.reduceLeDiff, Nat.reduceEqDiff, and_self, if_true, if_false, opAdd_int, opSub_int, opGt_int, opLt_int, opGe_int, opLe_int, opEq_int, opEq_str, opEq_bl, opNe_int, opNe_bl, opNe_str, bInt_int, bInt_bl, bAbs_int, truD_bl, truD_int, W_fLst, W_fTup, pow18, bLen_tup, bLen_lst, bTuple_lst, bTuple_tup, bList_lst, bList_tup, hla, hkr]
      refine ⟨by simp [keysOf]; exact hwa _, ?_⟩
      rw [lc_map (f := fun x => some (.bl (decide (x ∈ keysOf (rowAt L k))))) rfl _ _ fun x _ => ?_]
      · rw [List.nil_append, filterMap_some, map_bl, W_some, bAny_frz, hit_any]
        simp only [W_body, W_sSeq, W_sNx, W_sBk, W_sCt, W_sExpr, W_sRet, W_sRetN, W_sIf, W_sAsg, W_sPar, W_sAug, W_eC, W_eVar, W_eBin, W_eUn, W_eArgs, W_aNil, W_aCons, W_eAnd, W_eOr, W_eNot, W_eIf, W_eChain, W_tVal, W_tBl, W_tAnd, W_tOr, W_tNot, W_tTrue, W_oNone, W_oSome, W_eSl, W_eRev, W_eMethL, W_eCall, W_iSeq, W_iRange1, W_iRange2, W_iEnumS, W_iZipS, W_sFor, W_eComp, W_lcStep, W_gV, W_gUnpackVV, W_newF, W_newT, W_some,
 kBody_rt, kBody_nx, kSeq_nx, kSeq_rt, kSeq_bk, kSeq_ct, kExp_, kRet_, kIf_t, kIf_f, kAsg_V, kPar_, kAug_, kB1_, kB2_, kU_, kN_, kC1_, kC2_, kAnd_T, kAnd_F, kOr_T, kOr_F, kNot_B, kCh1_, kCh2_, kCh3_t, kCh3_f, kTV_B, kTB_B, kTA_t, kTA_f, kTO_t, kTO_f, kTN_, kOS_, kSl1_, kSl2_, kSl3_, kM2_, kK1_, kK2_, kSq_tup, kSq_lst, kSq_str, kEn_tup, kEn_lst, kZp_tup, kZp_lst, kFor_, kTurn_nx, kTurn_ct, kTurn_bk, kTurn_rt, kComp_, kLcT_t, kLcT_f,
 setAll, wipeE, pick, List.getElem?_cons_zero, List.getElem?_cons_succ, List.set_cons_zero, List.set_cons_succ, List.map_cons, List.map_nil, List.replicate_succ, List.replicate_zero, List.cons_append, List.nil_append, List.append_nil, List.length_cons, List.length_nil, List.filterMap_cons, List.filterMap_nil,
 Nat.reduceAdd, Nat.reduceSub, Nat.reduceLeDiff, Nat.reduceEqDiff, and_self, if_true, if_false, opAdd_int, opSub_int, opGt_int, opLt_int, opGe_int, opLe_int, opEq_int, opEq_str, opEq_bl, opNe_int, opNe_bl, opNe_str, bInt_int, bInt_bl, bAbs_int, truD_bl, truD_int, W_fLst, W_fTup, pow18, bLen_tup, bLen_lst, bTuple_lst, bTuple_tup, bList_lst, bList_tup]
        have e6 : hit (rowAt L (hn + j)) (keysOf (rowAt L k)) = share L (hn + j) k := rfl
        rw [e6]
        have e7 : (hAt L k).toNat = hn := by rw [hhn]; rfl
        refine kIf_any (fun h => ?_) fun h => ?_
        · simp only [W_body, W_sSeq, W_sNx, W_sBk, W_sCt, W_sExpr, W_sRet, W_sRetN, W_sIf, W_sAsg, W_sPar, W_sAug, W_eC, W_eVar, W_eBin, W_eUn, W_eArgs, W_aNil, W_aCons, W_eAnd, W_eOr, W_eNot, W_eIf, W_eChain, W_tVal, W_tBl, W_tAnd, W_tOr, W_tNot, W_tTrue, W_oNone, W_oSome, W_eSl, W_eRev, W_eMethL, W_eCall, W_iSeq, W_iRange1, W_iRange2, W_iEnumS, W_iZipS, W_sFor, W_eComp, W_lcStep, W_gV, W_gUnpackVV, W_newF, W_newT, W_some,
 kBody_rt, kBody_nx, kSeq_nx, kSeq_rt, kSeq_bk, kSeq_ct, kExp_, kRet_, kIf_t, kIf_f, kAsg_V, kPar_, kAug_, kB1_, kB2_, kU_, kN_, kC1_, kC2_, kAnd_T, kAnd_F, kOr_T, kOr_F, kNot_B, kCh1_, kCh2_, kCh3_t, kCh3_f, kTV_B, kTB_B, kTA_t, kTA_f, kTO_t, kTO_f, kTN_, kOS_, kSl1_, kSl2_, kSl3_, kM2_, kK1_, kK2_, kSq_tup, kSq_lst, kSq_str, kEn_tup, kEn_lst, kZp_tup, kZp_lst, kFor_, kTurn_nx, kTurn_ct, kTurn_bk, kTurn_rt, kComp_, kLcT_t, kLcT_f,
 setAll, wipeE, pick, List.getElem?_cons_zero, List.getElem?_cons_succ, List.set_cons_zero, List.set_cons_succ, List.map_cons, List.map_nil, List.replicate_succ, List.replicate_zero, List.cons_append, List.nil_append, List.append_nil, List.length_cons, List.length_nil, List.filterMap_cons, List.filterMap_nil,
 Nat.reduceAdd, Nat.reduceSub, Nat.reduceLeDiff, Nat.reduceEqDiff, and_self, if_true, if_false, opAdd_int, opSub_int, opGt_int, opLt_int, opGe_int, opLe_int, opEq_int, opEq_str, opEq_bl, opNe_int, opNe_bl, opNe_str, bInt_int, bInt_bl, bAbs_int, truD_bl, truD_int, W_fLst, W_fTup, pow18, bLen_tup, bLen_lst, bTuple_lst, bTuple_tup, bList_lst, bList_tup]
          rw [kM1_ref (ds := ps'.map dP) rfl]
          simp only [W_body, W_sSeq, W_sNx, W_sBk, W_sCt, W_sExpr, W_sRet, W_sRetN, W_sIf, W_sAsg, W_sPar, W_sAug, W_eC, W_eVar, W_eBin, W_eUn, W_eArgs, W_aNil, W_aCons, W_eAnd, W_eOr, W_eNot, W_eIf, W_eChain, W_tVal, W_tBl, W_tAnd, W_tOr, W_tNot, W_tTrue, W_oNone, W_oSome, W_eSl, W_eRev, W_eMethL, W_eCall, W_iSeq, W_iRange1, W_iRange2, W_iEnumS, W_iZipS, W_sFor, W_eComp, W_lcStep, W_gV, W_gUnpackVV, W_newF, W_newT, W_some,
 kBody_rt, kBody_nx, kSeq_nx, kSeq_rt, kSeq_bk, kSeq_ct, kExp_, kRet_, kIf_t, kIf_f, kAsg_V, kPar_, kAug_, kB1_, kB2_, kU_, kN_, kC1_, kC2_, kAnd_T, kAnd_F, kOr_T, kOr_F, kNot_B, kCh1_, kCh2_, kCh3_t, kCh3_f, kTV_B, kTB_B, kTA_t, kTA_f, kTO_t, kTO_f, kTN_, kOS_, kSl1_, kSl2_, kSl3_, kM2_, kK1_, kK2_, kSq_tup, kSq_lst, kSq_str, kEn_tup, kEn_lst, kZp_tup, kZp_lst, kFor_, kTurn_nx, kTurn_ct, kTurn_bk, kTurn_rt, kComp_, kLcT_t, kLcT_f,
 setAll, wipeE, pick, List.getElem?_cons_zero, List.getElem?_cons_succ, List.set_cons_zero, List.set_cons_succ, List.map_cons, List.map_nil, List.replicate_succ, List.replicate_zero, List.cons_append, List.nil_append, List.append_nil, List.length_cons, List.length_nil, List.filterMap_cons, List.filterMap_nil,
 Nat.reduceAdd, Nat.reduceSub, Nat.reduceLeDiff, Nat.reduceEqDiff, and_self, if_true, if_false, opAdd_int, opSub_int, opGt_int, opLt_int, opGe_int, opLe_int, opEq_int, opEq_str, opEq_bl, opNe_int, opNe_bl, opNe_str, bInt_int, bInt_bl, bAbs_int, truD_bl, truD_int, W_fLst, W_fTup, pow18, bLen_tup, bLen_lst, bTuple_lst, bTuple_tup, bList_lst, bList_tup]
          rw [mAppend_run (ds := ps'.map dP) rfl (by rw [List.length_map]; omega)]
          simp only [W_body, W_sSeq, W_sNx, W_sBk, W_sCt, W_sExpr, W_sRet, W_sRetN, W_sIf, W_sAsg, W_sPar, W_sAug, W_eC, W_eVar, W_eBin, W_eUn, W_eArgs, W_aNil, W_aCons, W_eAnd, W_eOr, W_eNot, W_eIf, W_eChain, W_tVal, W_tBl, W_tAnd, W_tOr, W_tNot, W_tTrue, W_oNone, W_oSome, W_eSl, W_eRev, W_eMethL, W_eCall, W_iSeq, W_iRange1, W_iRange2, W_iEnumS, W_iZipS, W_sFor, W_eComp, W_lcStep, W_gV, W_gUnpackVV, W_newF, W_newT, W_some,
 kBody_rt, kBody_nx, kSeq_nx, kSeq_rt, kSeq_bk, kSeq_ct, kExp_, kRet_, kIf_t, kIf_f, kAsg_V, kPar_, kAug_, kB1_, kB2_, kU_, kN_, kC1_, kC2_, kAnd_T, kAnd_F, kOr_T, kOr_F, kNot_B, kCh1_, kCh2_, kCh3_t, kCh3_f, kTV_B, kTB_B, kTA_t, kTA_f, kTO_t, kTO_f, kTN_, kOS_, kSl1_, kSl2_, kSl3_, kM2_, kK1_, kK2_, kSq_tup, kSq_lst, kSq_str, kEn_tup, kEn_lst, kZp_tup, kZp_lst, kFor_, kTurn_nx, kTurn_ct, kTurn_bk, kTurn_rt, kComp_, kLcT_t, kLcT_f,
 setAll, wipeE, pick, List.getElem?_cons_zero, List.getElem?_cons_succ, List.set_cons_zero, List.set_cons_succ, List.map_cons, List.map_nil, List.replicate_succ, List.replicate_zero, List.cons_append, List.nil_append, List.append_nil, List.length_cons, List.length_nil, List.filterMap_cons, List.filterMap_nil,
 Nat.reduceAdd, Nat.reduceSub, Nat.reduceLeDiff, Nat.reduceEqDiff, and_self, if_true, if_false, opAdd_int, opSub_int, opGt_int, opLt_int, opGe_int, opLe_int, opEq_int, opEq_str, opEq_bl, opNe_int, opNe_bl, opNe_str, bInt_int, bInt_bl, bAbs_int, truD_bl, truD_int, W_fLst, W_fTup, pow18, bLen_tup, bLen_lst, bTuple_lst, bTuple_tup, bList_lst, bList_tup]
          refine ⟨_, _, ps' ++ [(((hn + j : Nat) : Int), (k : Int))], rfl, ?_, by simp; omega, by rw [List.map_append]; rfl⟩
          rw [range_fm, h3, e7, if_pos h, List.append_assoc]
        · simp only [W_body, W_sSeq, W_sNx, W_sBk, W_sCt, W_sExpr, W_sRet, W_sRetN, W_sIf, W_sAsg, W_sPar, W_sAug, W_eC, W_eVar, W_eBin, W_eUn, W_eArgs, W_aNil, W_aCons, W_eAnd, W_eOr, W_eNot, W_eIf, W_eChain, W_tVal, W_tBl, W_tAnd, W_tOr, W_tNot, W_tTrue, W_oNone, W_oSome, W_eSl, W_eRev, W_eMethL, W_eCall, W_iSeq, W_iRange1, W_iRange2, W_iEnumS, W_iZipS, W_sFor, W_eComp, W_lcStep, W_gV, W_gUnpackVV, W_newF, W_newT, W_some,
 kBody_rt, kBody_nx, kSeq_nx, kSeq_rt, kSeq_bk, kSeq_ct, kExp_, kRet_, kIf_t, kIf_f, kAsg_V, kPar_, kAug_, kB1_, kB2_, kU_, kN_, kC1_, kC2_, kAnd_T, kAnd_F, kOr_T, kOr_F, kNot_B, kCh1_, kCh2_, kCh3_t, kCh3_f, kTV_B, kTB_B, kTA_t, kTA_f, kTO_t, kTO_f, kTN_, kOS_, kSl1_, kSl2_, kSl3_, kM2_, kK1_, kK2_, kSq_tup, kSq_lst, kSq_str, kEn_tup, kEn_lst, kZp_tup, kZp_lst, kFor_, kTurn_nx, kTurn_ct, kTurn_bk, kTurn_rt, kComp_, kLcT_t, kLcT_f,
 setAll, wipeE, pick, List.getElem?_cons_zero, List.getElem?_cons_succ, List.set_cons_zero, List.set_cons_succ, List.map_cons, List.map_nil, List.replicate_succ, List.replicate_zero, List.cons_append, List.nil_append, List.append_nil, List.length_cons, List.length_nil, List.filterMap_cons, List.filterMap_nil,
 Nat.reduceAdd, Nat.reduceSub, Nat.reduceLeDiff, Nat.reduceEqDiff, and_self, if_true, if_false, opAdd_int, opSub_int, opGt_int, opLt_int, opGe_int, opLe_int, opEq_int, opEq_str, opEq_bl, opNe_int, opNe_bl, opNe_str, bInt_int, bInt_bl, bAbs_int, truD_bl, truD_int, W_fLst, W_fTup, pow18, bLen_tup, bLen_lst, bTuple_lst, bTuple_tup, bList_lst, bList_tup]
          refine ⟨_, _, ps', rfl, ?_, by omega, rfl⟩
          rw [range_fm, h3, e7, h]
          simp
      · refine W_get ?_
        simp only [W_body, W_sSeq, W_sNx, W_sBk, W_sCt, W_sExpr, W_sRet, W_sRetN, W_sIf, W_sAsg, W_sPar, W_sAug, W_eC, W_eVar, W_eBin, W_eUn, W_eArgs, W_aNil, W_aCons, W_eAnd, W_eOr, W_eNot, W_eIf, W_eChain, W_tVal, W_tBl, W_tAnd, W_tOr, W_tNot, W_tTrue, W_oNone, W_oSome, W_eSl, W_eRev, W_eMethL, W_eCall, W_iSeq, W_iRange1, W_iRange2, W_iEnumS, W_iZipS, W_sFor, W_eComp, W_lcStep, W_gV, W_gUnpackVV, W_newF, W_newT, W_some,
 kBody_rt, kBody_nx, kSeq_nx, kSeq_rt, kSeq_bk, kSeq_ct, kExp_, kRet_, kIf_t, kIf_f, kAsg_V, kPar_, kAug_, kB1_, kB2_, kU_, kN_, kC1_, kC2_, kAnd_T, kAnd_F, kOr_T, kOr_F, kNot_B, kCh1_, kCh2_, kCh3_t, kCh3_f, kTV_B, kTB_B, kTA_t, kTA_f, kTO_t, kTO_f, kTN_, kOS_, kSl1_, kSl2_, kSl3_, kM2_, kK1_, kK2_, kSq_tup, kSq_lst, kSq_str, kEn_tup, kEn_lst, kZp_tup, kZp_lst, kFor_, kTurn_nx, kTurn_ct, kTurn_bk, kTurn_rt, kComp_, kLcT_t, kLcT_f,
 setAll, wipeE, pick, List.getElem?_cons_zero, List.getElem?_cons_succ, List.set_cons_zero, List.set_cons_succ, List.map_cons, List.map_nil, List.replicate_succ, List.replicate_zero, List.cons_append, List.nil_append, List.append_nil, List.length_cons, List.length_nil, List.filterMap_cons, List.filterMap_nil,
 Nat.reduceAdd, Nat.reduceSub, Nat.reduceLeDiff, Nat.reduceEqDiff, and_self, if_true, if_false, opAdd_int, opSub_int, opGt_int, opLt_int, opGe_int, opLe_int, opEq_int, opEq_str, opEq_bl, opNe_int, opNe_bl, opNe_str, bInt_int, bInt_bl, bAbs_int, truD_bl, truD_int, W_fLst, W_fTup, pow18, bLen_tup, bLen_lst, bTuple_lst, bTuple_tup, bList_lst, bList_tup, hkr, opIn_frz]
end AW

namespace AW
open PySem PySem.Spec PyProof.Rows L2

/-! ### data that == may read -/
mutual
def pd : D → PyData
  | .non => .none
  | .bl b => .bool b
  | .int i => .int i
  | .str x => .str x
  | .tup ds => .tuple (pds ds)
  | .lst _ ds => .list (pds ds)
  | .ref _ => .none
def pds : List D → List PyData
  | [] => []
  | d :: ds => pd d :: pds ds
end
mutual
/-- no cell in it, every text fine -/
def so : D → Bool
  | .str x => PyData.strOk x
  | .tup ds => sos ds
  | .lst _ ds => sos ds
  | .ref _ => false
  | _ => true
def sos : List D → Bool
  | [] => true
  | d :: ds => so d && sos ds
end
mutual
theorem toP_pd {f : Nat → Option PyData} : ∀ {d : D}, so d = true → toPW f d = some (pd d)
  | .non, _ => rfl
  | .bl _, _ => rfl
  | .int _, _ => rfl
  | .str _, _ => rfl
  | .ref _, h => by cases h
  | .tup ds, h => by simp only [toPW, toPs_pd (f := f) (show sos ds = true by simpa only [so] using h), pd]
  | .lst _ ds, h => by simp only [toPW, toPs_pd (f := f) (show sos ds = true by simpa only [so] using h), pd]
theorem toPs_pd {f : Nat → Option PyData} : ∀ {ds : List D}, sos ds = true → toPsW f ds = some (pds ds)
  | [], _ => rfl
  | d :: ds, h => by
    simp only [sos, Bool.and_eq_true] at h
    simp only [toPsW, toP_pd h.1, toPs_pd h.2, pds]
end
mutual
theorem lay_pd : ∀ {d : D}, so d = true → (pd d).canLay0 = true
  | .non, _ => by simp only [pd, PyData.canLay0]
  | .bl _, _ => by simp only [pd, PyData.canLay0]
  | .int _, _ => by simp only [pd, PyData.canLay0]
  | .str _, h => by simp only [pd, PyData.canLay0]; simpa only [so] using h
  | .ref _, h => by cases h
  | .tup ds, h => by simp only [pd, PyData.canLay0]; exact lays_pd (by simpa only [so] using h)
  | .lst _ ds, h => by simp only [pd, PyData.canLay0]; exact lays_pd (by simpa only [so] using h)
theorem lays_pd : ∀ {ds : List D}, sos ds = true → PyData.canLayAll0 (pds ds) = true
  | [], _ => by simp only [pds, PyData.canLayAll0]
  | d :: ds, h => by
    simp only [sos, Bool.and_eq_true] at h
    simp only [pds, PyData.canLayAll0, lay_pd h.1, lays_pd h.2, Bool.and_self]
end
mutual
theorem dep_pd : ∀ d : D, (pd d).depth = dep d
  | .non => by simp only [pd, PyData.depth, dep]
  | .bl _ => by simp only [pd, PyData.depth, dep]
  | .int _ => by simp only [pd, PyData.depth, dep]
  | .str _ => by simp only [pd, PyData.depth, dep]
  | .ref _ => by simp only [pd, PyData.depth, dep]
  | .tup ds => by simp only [pd, PyData.depth, dep, deps_pd ds]
  | .lst _ ds => by simp only [pd, PyData.depth, dep, deps_pd ds]
theorem deps_pd : ∀ ds : List D, PyData.depthAll (pds ds) = deps ds
  | [] => by simp only [pds, PyData.depthAll, deps]
  | d :: ds => by simp only [pds, PyData.depthAll, deps, dep_pd d, deps_pd ds]
end
theorem shaped_pd {d : D} (h : so d = true) (hd : dep d ≤ 64) : SeqAt.shaped (pd d) = true := by
  unfold SeqAt.shaped
  rw [lay_pd h, dep_pd, Bool.true_and, decide_eq_true_eq]
  exact hd
theorem opNe_lst {q q' : LK} {ds es : List D} {S : Sto} (h : sos ds = true) (h' : sos es = true) (hd : deps ds ≤ 63) (hd' : deps es ≤ 63) : opNe (.lst q ds) (.lst q' es) S = some (.bl (!(pd (.lst q ds)).eqv (pd (.lst q' es))), S) := by
  have e : toP S (.lst q ds) = some (pd (.lst q ds)) := toP_pd (by simpa only [so] using h)
  have e' : toP S (.lst q' es) = some (pd (.lst q' es)) := toP_pd (by simpa only [so] using h')
  simp only [opNe, opEqF, opNeP, e, e']
  rw [shaped_pd (by simpa only [so] using h) (by simp only [dep]; omega), shaped_pd (by simpa only [so] using h') (by simp only [dep]; omega)]
  rfl
theorem opNe_nil {q q' : LK} {ds : List D} {S : Sto} (h : sos ds = true) (hd : deps ds ≤ 63) : opNe (.lst q ds) (.lst q' []) S = some (.bl (!ds.isEmpty), S) := by
  rw [opNe_lst h rfl hd (by simp [deps])]
  cases ds <;> simp [pd, pds, PyData.eqv, PyData.eqvAll]
theorem opNe_self {q : LK} {ds : List D} {S : Sto} (h : sos ds = true) (hd : deps ds ≤ 63) : opNe (.lst q ds) (.lst q ds) S = some (.bl false, S) := by
  rw [opNe_lst h h hd hd, SeqAt.eqv_refl _ (lay_pd (by simpa only [so] using h))]
  rfl
theorem sos_map {α : Type} {f : α → D} : ∀ {xs : List α}, (∀ x ∈ xs, so (f x) = true) → sos (xs.map f) = true
  | [], _ => rfl
  | x :: xs, h => by simp only [List.map_cons, sos, h x List.mem_cons_self, sos_map fun y hy => h y (List.mem_cons_of_mem _ hy), Bool.and_self]
theorem deps_map {α : Type} {f : α → D} {n : Nat} : ∀ {xs : List α}, (∀ x ∈ xs, dep (f x) ≤ n) → deps (xs.map f) ≤ n
  | [], _ => by simp [deps]
  | x :: xs, h => by
    have h1 := h x List.mem_cons_self
    have h2 := deps_map (f := f) (n := n) (xs := xs) fun y hy => h y (List.mem_cons_of_mem _ hy)
    simp only [List.map_cons, deps]; omega
/-! ### the law's own stair -/
theorem intsF {S : Sto} {n : Int} {ns : List Int} : bMax [.lst .frz ((n :: ns).map .int)] S = some (.int (maxI n ns), S) := by
  simp only [bMax, bMax2, bMax1, listInts, readS, Option.bind_some, intsOf_map]
theorem stairF_at : ∀ (L : List Row) (h : Int) (k : Nat), k < L.length → (stairF h L)[k]? = some (maxI h ((L.take (k + 1)).map (·.tag)))
  | r :: L, h, 0, _ => by simp [stairF, maxI]
  | r :: L, h, k + 1, hk => by
    simp only [stairF, List.getElem?_cons_succ, List.take_succ_cons, List.map_cons, maxI]
    exact stairF_at L _ k (by simpa using hk)
theorem hAt_max {L : List Row} {k : Nat} (hk : k < L.length) (h0 : ∀ r ∈ L, 0 ≤ r.tag) : ∃ n ns, (L.take (k + 1)).map (·.tag) = n :: ns ∧ hAt L k = maxI n ns := by
  cases L with
  | nil => cases hk
  | cons r L =>
    refine ⟨r.tag, (L.take k).map (·.tag), rfl, ?_⟩
    have e := stairF_at (r :: L) 0 k hk
    have e2 : hAt (r :: L) k = maxI 0 (((r :: L).take (k + 1)).map (·.tag)) := by unfold hAt; rw [List.getD_eq_getElem?_getD, e]; rfl
    rw [e2, List.take_succ_cons, List.map_cons, maxI]
    have := h0 r List.mem_cons_self
    congr 1
    split <;> omega
theorem range_hAt {L : List Row} : (List.range L.length).map (fun k => D.int (hAt L k)) = (stairF 0 L).map .int := by
  refine List.ext_getElem (by simp [stairF_len]) fun k h1 h2 => ?_
  rw [List.getElem_map, List.getElem_map, List.getElem_range, hAt_eq]
def lstairSem : SemS := (sRet (eComp false (iRange1 (aCons (eArgs bLen (aCons (eVar 0) aNil)) aNil)) (gV 1) tTrue (eArgs bMax (aCons (eComp false (iSeq (eSl (opSl false) (eVar 0) oNone (oSome (eBin (opAdd false) (eVar 1) (eC (D.int 1)))))) (gV 2) tTrue (eBin opIx (eVar 2) (eC (D.int 0))) [2]) aNil)) [1]))
theorem opSl_take {b : Bool} {ds : List D} {k : Nat} {S : Sto} : opSl false (sq b ds) none (some ((k : Nat) : Int)) S = some (sq b (ds.take k), S) := by
  have e : cutD ds none (some ((k : Nat) : Int)) = ds.take k := by
    unfold cutD
    rw [HT.sIx_none, HT.sIx_nat, List.drop_zero, Nat.sub_zero, ← List.take_eq_take_min]
  cases b with
  | true => show some (D.tup (cutD ds none _), S) = _; rw [e]; rfl
  | false => show newL false (cutD ds none _) S = _; rw [e]; rfl
theorem map_int {α : Type} {g : α → Int} (l : List α) : l.map (fun k => D.int (g k)) = (l.map g).map D.int := by rw [List.map_map]; rfl
theorem lstair_run {b : Bool} {L : List Row} {S : Sto} (hl : L.length ≤ 1000) (h0 : ∀ r ∈ L, 0 ≤ r.tag) : callP false (body 3 lstairSem) [logE b L] S = some (.lst .frz ((stairF 0 L).map .int), S) := by
  refine W_callE (Sc := []) (by simp only [pls, pl_log, Bool.and_self]) (W_get ?_) (frz_nb (by simp only [nb]; exact nbs_map (fun _ => rfl) _))
  unfold lstairSem
  rw [show logE b L = sq b (L.map (rowE b)) from rfl]
  simp only [W_body, W_sSeq, W_sNx, W_sBk, W_sCt, W_sExpr, W_sRet, W_sRetN, W_sIf, W_sAsg, W_sPar, W_sAug, W_eC, W_eVar, W_eBin, W_eUn, W_eArgs, W_aNil, W_aCons, W_eAnd, W_eOr, W_eNot, W_eIf, W_eChain, W_tVal, W_tBl, W_tAnd, W_tOr, W_tNot, W_tTrue, W_oNone, W_oSome, W_eSl, W_eRev, W_eMethL, W_eCall, W_iSeq, W_iRange1, W_iRange2, W_iEnumS, W_iZipS, W_sFor, W_eComp, W_lcStep, W_gV, W_gUnpackVV, W_newF, W_newT, W_some,
 kBody_rt, kBody_nx, kSeq_nx, kSeq_rt, kSeq_bk, kSeq_ct, kExp_, kRet_, kIf_t, kIf_f, kAsg_V, kPar_, kAug_, kB1_, kB2_, kU_, kN_, kC1_, kC2_, kAnd_T, kAnd_F, kOr_T, kOr_F, kNot_B, kCh1_, kCh2_, kCh3_t, kCh3_f, kTV_B, kTB_B, kTA_t, kTA_f, kTO_t, kTO_f, kTN_, kOS_, kSl1_, kSl2_, kSl3_, kM2_, kK1_, kK2_, kSq_tup, kSq_lst, kSq_str, kEn_tup, kEn_lst, kZp_tup, kZp_lst, kFor_, kTurn_nx, kTurn_ct, kTurn_bk, kTurn_rt, kComp_, kLcT_t, kLcT_f,
 setAll, wipeE, pick, List.getElem?_cons_zero, List.getElem?_cons_succ, List.set_cons_zero, List.set_cons_succ, List.map_cons, List.map_nil, List.replicate_succ, List.replicate_zero, List.cons_append, List.nil_append, List.append_nil, List.length_cons, List.length_nil, List.filterMap_cons, List.filterMap_nil,
 Nat.reduceAdd, Nat.reduceSub, Nat.reduceLeDiff, Nat.reduceEqDiff, and_self, if_true, if_false, opAdd_int, opSub_int, opGt_int, opLt_int, opGe_int, opLe_int, opEq_int, opEq_str, opEq_bl, opNe_int, opNe_bl, opNe_str, bInt_int, bInt_bl, bAbs_int, truD_bl, truD_int, W_fLst, W_fTup, pow18, bLen_tup, bLen_lst, bTuple_lst, bTuple_tup, bList_lst, bList_tup, bLen_sq, List.length_map]
  rw [kR1_ (by omega)]
  simp only [W_body, W_sSeq, W_sNx, W_sBk, W_sCt, W_sExpr, W_sRet, W_sRetN, W_sIf, W_sAsg, W_sPar, W_sAug, W_eC, W_eVar, W_eBin, W_eUn, W_eArgs, W_aNil, W_aCons, W_eAnd, W_eOr, W_eNot, W_eIf, W_eChain, W_tVal, W_tBl, W_tAnd, W_tOr, W_tNot, W_tTrue, W_oNone, W_oSome, W_eSl, W_eRev, W_eMethL, W_eCall, W_iSeq, W_iRange1, W_iRange2, W_iEnumS, W_iZipS, W_sFor, W_eComp, W_lcStep, W_gV, W_gUnpackVV, W_newF, W_newT, W_some,
 kBody_rt, kBody_nx, kSeq_nx, kSeq_rt, kSeq_bk, kSeq_ct, kExp_, kRet_, kIf_t, kIf_f, kAsg_V, kPar_, kAug_, kB1_, kB2_, kU_, kN_, kC1_, kC2_, kAnd_T, kAnd_F, kOr_T, kOr_F, kNot_B, kCh1_, kCh2_, kCh3_t, kCh3_f, kTV_B, kTB_B, kTA_t, kTA_f, kTO_t, kTO_f, kTN_, kOS_, kSl1_, kSl2_, kSl3_, kM2_, kK1_, kK2_, kSq_tup, kSq_lst, kSq_str, kEn_tup, kEn_lst, kZp_tup, kZp_lst, kFor_, kTurn_nx, kTurn_ct, kTurn_bk, kTurn_rt, kComp_, kLcT_t, kLcT_f,
 setAll, wipeE, pick, List.getElem?_cons_zero, List.getElem?_cons_succ, List.set_cons_zero, List.set_cons_succ, List.map_cons, List.map_nil, List.replicate_succ, List.replicate_zero, List.cons_append, List.nil_append, List.append_nil, List.length_cons, List.length_nil, List.filterMap_cons, List.filterMap_nil,
 Nat.reduceAdd, Nat.reduceSub, Nat.reduceLeDiff, Nat.reduceEqDiff, and_self, if_true, if_false, opAdd_int, opSub_int, opGt_int, opLt_int, opGe_int, opLe_int, opEq_int, opEq_str, opEq_bl, opNe_int, opNe_bl, opNe_str, bInt_int, bInt_bl, bAbs_int, truD_bl, truD_int, W_fLst, W_fTup, pow18, bLen_tup, bLen_lst, bTuple_lst, bTuple_tup, bList_lst, bList_tup, rangeD_len, Int.toNat_natCast]
  refine ⟨Nat.le_trans hl (by decide), ?_⟩
  rw [rangeD, lc_map (f := fun k => some (.int (hAt L k))) rfl _ _ fun k hk => ?_]
  · rw [W_some, List.nil_append, filterMap_some, range_hAt]
    exact ⟨rfl, rfl⟩
  · have hk' := List.mem_range.mp hk
    refine W_get ?_
    simp only [W_body, W_sSeq, W_sNx, W_sBk, W_sCt, W_sExpr, W_sRet, W_sRetN, W_sIf, W_sAsg, W_sPar, W_sAug, W_eC, W_eVar, W_eBin, W_eUn, W_eArgs, W_aNil, W_aCons, W_eAnd, W_eOr, W_eNot, W_eIf, W_eChain, W_tVal, W_tBl, W_tAnd, W_tOr, W_tNot, W_tTrue, W_oNone, W_oSome, W_eSl, W_eRev, W_eMethL, W_eCall, W_iSeq, W_iRange1, W_iRange2, W_iEnumS, W_iZipS, W_sFor, W_eComp, W_lcStep, W_gV, W_gUnpackVV, W_newF, W_newT, W_some,
 kBody_rt, kBody_nx, kSeq_nx, kSeq_rt, kSeq_bk, kSeq_ct, kExp_, kRet_, kIf_t, kIf_f, kAsg_V, kPar_, kAug_, kB1_, kB2_, kU_, kN_, kC1_, kC2_, kAnd_T, kAnd_F, kOr_T, kOr_F, kNot_B, kCh1_, kCh2_, kCh3_t, kCh3_f, kTV_B, kTB_B, kTA_t, kTA_f, kTO_t, kTO_f, kTN_, kOS_, kSl1_, kSl2_, kSl3_, kM2_, kK1_, kK2_, kSq_tup, kSq_lst, kSq_str, kEn_tup, kEn_lst, kZp_tup, kZp_lst, kFor_, kTurn_nx, kTurn_ct, kTurn_bk, kTurn_rt, kComp_, kLcT_t, kLcT_f,
 setAll, wipeE, pick, List.getElem?_cons_zero, List.getElem?_cons_succ, List.set_cons_zero, List.set_cons_succ, List.map_cons, List.map_nil, List.replicate_succ, List.replicate_zero, List.cons_append, List.nil_append, List.append_nil, List.length_cons, List.length_nil, List.filterMap_cons, List.filterMap_nil,
 Nat.reduceAdd, Nat.reduceSub, Nat.reduceLeDiff, Nat.reduceEqDiff, and_self, if_true, if_false, opAdd_int, opSub_int, opGt_int, opLt_int, opGe_int, opLe_int, opEq_int, opEq_str, opEq_bl, opNe_int, opNe_bl, opNe_str, bInt_int, bInt_bl, bAbs_int, truD_bl, truD_int, W_fLst, W_fTup, pow18, bLen_tup, bLen_lst, bTuple_lst, bTuple_tup, bList_lst, bList_tup]
    rw [show (0 + (k : Int) + 1) = ((k + 1 : Nat) : Int) by omega]
    simp only [W_body, W_sSeq, W_sNx, W_sBk, W_sCt, W_sExpr, W_sRet, W_sRetN, W_sIf, W_sAsg, W_sPar, W_sAug, W_eC, W_eVar, W_eBin, W_eUn, W_eArgs, W_aNil, W_aCons, W_eAnd, W_eOr, W_eNot, W_eIf, W_eChain, W_tVal, W_tBl, W_tAnd, W_tOr, W_tNot, W_tTrue, W_oNone, W_oSome, W_eSl, W_eRev, W_eMethL, W_eCall, W_iSeq, W_iRange1, W_iRange2, W_iEnumS, W_iZipS, W_sFor, W_eComp, W_lcStep, W_gV, W_gUnpackVV, W_newF, W_newT, W_some,
 kBody_rt, kBody_nx, kSeq_nx, kSeq_rt, kSeq_bk, kSeq_ct, kExp_, kRet_, kIf_t, kIf_f, kAsg_V, kPar_, kAug_, kB1_, kB2_, kU_, kN_, kC1_, kC2_, kAnd_T, kAnd_F, kOr_T, kOr_F, kNot_B, kCh1_, kCh2_, kCh3_t, kCh3_f, kTV_B, kTB_B, kTA_t, kTA_f, kTO_t, kTO_f, kTN_, kOS_, kSl1_, kSl2_, kSl3_, kM2_, kK1_, kK2_, kSq_tup, kSq_lst, kSq_str, kEn_tup, kEn_lst, kZp_tup, kZp_lst, kFor_, kTurn_nx, kTurn_ct, kTurn_bk, kTurn_rt, kComp_, kLcT_t, kLcT_f,
 setAll, wipeE, pick, List.getElem?_cons_zero, List.getElem?_cons_succ, List.set_cons_zero, List.set_cons_succ, List.map_cons, List.map_nil, List.replicate_succ, List.replicate_zero, List.cons_append, List.nil_append, List.append_nil, List.length_cons, List.length_nil, List.filterMap_cons, List.filterMap_nil,
 Nat.reduceAdd, Nat.reduceSub, Nat.reduceLeDiff, Nat.reduceEqDiff, and_self, if_true, if_false, opAdd_int, opSub_int, opGt_int, opLt_int, opGe_int, opLe_int, opEq_int, opEq_str, opEq_bl, opNe_int, opNe_bl, opNe_str, bInt_int, bInt_bl, bAbs_int, truD_bl, truD_int, W_fLst, W_fTup, pow18, bLen_tup, bLen_lst, bTuple_lst, bTuple_tup, bList_lst, bList_tup, opSl_take, kSq_sq]
    refine ⟨by rw [List.length_take, List.length_map]; exact Nat.le_trans (Nat.min_le_right _ _) (Nat.le_trans hl (by decide)), ?_⟩
    rw [← List.map_take, lc_map (f := fun r => some (.int r.tag)) rfl _ _ fun r _ => ?_]
    · obtain ⟨n, ns, e1, e2⟩ := hAt_max hk' h0
      rw [W_some, List.nil_append, filterMap_some, map_int, e1]
      rw [intsF, W_some, e2]
      exact ⟨rfl, rfl⟩
    · refine W_get ?_
      simp only [W_body, W_sSeq, W_sNx, W_sBk, W_sCt, W_sExpr, W_sRet, W_sRetN, W_sIf, W_sAsg, W_sPar, W_sAug, W_eC, W_eVar, W_eBin, W_eUn, W_eArgs, W_aNil, W_aCons, W_eAnd, W_eOr, W_eNot, W_eIf, W_eChain, W_tVal, W_tBl, W_tAnd, W_tOr, W_tNot, W_tTrue, W_oNone, W_oSome, W_eSl, W_eRev, W_eMethL, W_eCall, W_iSeq, W_iRange1, W_iRange2, W_iEnumS, W_iZipS, W_sFor, W_eComp, W_lcStep, W_gV, W_gUnpackVV, W_newF, W_newT, W_some,
 kBody_rt, kBody_nx, kSeq_nx, kSeq_rt, kSeq_bk, kSeq_ct, kExp_, kRet_, kIf_t, kIf_f, kAsg_V, kPar_, kAug_, kB1_, kB2_, kU_, kN_, kC1_, kC2_, kAnd_T, kAnd_F, kOr_T, kOr_F, kNot_B, kCh1_, kCh2_, kCh3_t, kCh3_f, kTV_B, kTB_B, kTA_t, kTA_f, kTO_t, kTO_f, kTN_, kOS_, kSl1_, kSl2_, kSl3_, kM2_, kK1_, kK2_, kSq_tup, kSq_lst, kSq_str, kEn_tup, kEn_lst, kZp_tup, kZp_lst, kFor_, kTurn_nx, kTurn_ct, kTurn_bk, kTurn_rt, kComp_, kLcT_t, kLcT_f,
 setAll, wipeE, pick, List.getElem?_cons_zero, List.getElem?_cons_succ, List.set_cons_zero, List.set_cons_succ, List.map_cons, List.map_nil, List.replicate_succ, List.replicate_zero, List.cons_append, List.nil_append, List.append_nil, List.length_cons, List.length_nil, List.filterMap_cons, List.filterMap_nil,
 Nat.reduceAdd, Nat.reduceSub, Nat.reduceLeDiff, Nat.reduceEqDiff, and_self, if_true, if_false, opAdd_int, opSub_int, opGt_int, opLt_int, opGe_int, opLe_int, opEq_int, opEq_str, opEq_bl, opNe_int, opNe_bl, opNe_str, bInt_int, bInt_bl, bAbs_int, truD_bl, truD_int, W_fLst, W_fTup, pow18, bLen_tup, bLen_lst, bTuple_lst, bTuple_tup, bList_lst, bList_tup, row_tag]
/-! ### the law's own writes -/
def wsOk (r : Row) : Prop := r.ws.length ≤ 1000 ∧ ∀ w ∈ r.ws, PyData.strOk w.key = true ∧ PyData.strOk w.way = true
theorem so_sq {b : Bool} {ds : List D} : so (sq b ds) = sos ds := by cases b <;> simp [sq, so]
theorem dep_sq {b : Bool} {ds : List D} : dep (sq b ds) = deps ds + 1 := by cases b <;> simp [sq, dep]
theorem so_wr {b : Bool} {w : Wr} (h : PyData.strOk w.key = true ∧ PyData.strOk w.way = true) : so (wrE b w) = true := by rw [wrE, so_sq]; simp only [sos, so, h, Bool.and_self]
theorem dep_wr {b : Bool} {w : Wr} : dep (wrE b w) ≤ 1 := by rw [wrE, dep_sq]; simp [deps, dep]
def lwritesSem : SemS := (sSeq (sAsg (gV 2) (eArgs (fLst true) aNil)) (sSeq (sFor (iEnumS (aCons (eVar 0) aNil)) (gUnpack 2 (gsCons (gV 3) (gsCons (gV 4) gsNil))) (sIf (tBl (eBin opNe (eComp false (iSeq (eBin opIx (eVar 4) (eC (D.int 2)))) (gV 5) (tBl (eBin (opIn false) (eBin opIx (eVar 5) (eC (D.int 0))) (eVar 1))) (eVar 5) [5]) (eArgs (fLst false) aNil))) (sExpr (eMethL mAppend (eVar 2) (aCons (eVar 3) aNil))) sNx)) (sRet (eVar 2))))
/-- [own for own in row[2] if own[0] in ks] -/
def hits (r : Row) (ks : List Str) : List Wr := r.ws.filter fun w => decide (w.key ∈ ks)
theorem hits_hit {r : Row} {ks : List Str} : (!(hits r ks).isEmpty) = hit r ks := by
  unfold hits hit
  induction r.ws with
  | nil => rfl
  | cons w ws ih =>
    rw [List.filter_cons, List.any_cons]
    cases h : decide (w.key ∈ ks)
    · simpa using ih
    · simp
theorem fm_filter {α : Type} {p : α → Bool} {g : α → D} (l : List α) : l.filterMap (fun x => if p x = true then some (g x) else none) = (l.filter p).map g := by
  induction l with
  | nil => rfl
  | cons x l ih =>
    rw [List.filterMap_cons, List.filter_cons]
    cases h : p x
    · simpa [h] using ih
    · simpa [h] using ih
theorem ne_hits {b : Bool} {r : Row} {ks : List Str} {S : Sto} (hr : wsOk r) : opNe (.lst .frz ((hits r ks).map (wrE b))) (.lst .frz []) S = some (.bl (hit r ks), S) := by
  have h1 : sos ((hits r ks).map (wrE b)) = true := sos_map fun w hw => so_wr (hr.2 w (List.mem_filter.mp hw).1)
  have h2 : deps ((hits r ks).map (wrE b)) ≤ 63 := Nat.le_trans (deps_map (n := 1) fun w _ => dep_wr) (by decide)
  rw [opNe_nil h1 h2, List.isEmpty_map, hits_hit]
theorem lwrites_run {b c : Bool} {L : List Row} {ks : List Str} {S : Sto} (hl : L.length ≤ 1000) (hw : ∀ r ∈ L, wsOk r) : callP false (body 6 lwritesSem) [logE b L, strE c ks] S = some (.lst .frz ((writersF L ks).map .int), S) := by
  refine W_callE (Sc := [.lst ((writersF L ks).map .int)]) (d := .ref 0) (by simp only [pls, pl_log, pl_strE, Bool.and_self]) (W_get ?_) (frz_ref rfl (nbs_map (fun _ => rfl) _))
  unfold lwritesSem
  rw [show logE b L = sq b (L.map (rowE b)) from rfl]
  simp only [W_body, W_sSeq, W_sNx, W_sBk, W_sCt, W_sExpr, W_sRet, W_sRetN, W_sIf, W_sAsg, W_sPar, W_sAug, W_eC, W_eVar, W_eBin, W_eUn, W_eArgs, W_aNil, W_aCons, W_eAnd, W_eOr, W_eNot, W_eIf, W_eChain, W_tVal, W_tBl, W_tAnd, W_tOr, W_tNot, W_tTrue, W_oNone, W_oSome, W_eSl, W_eRev, W_eMethL, W_eCall, W_iSeq, W_iRange1, W_iRange2, W_iEnumS, W_iZipS, W_sFor, W_eComp, W_lcStep, W_gV, W_gUnpackVV, W_newF, W_newT, W_some,
 kBody_rt, kBody_nx, kSeq_nx, kSeq_rt, kSeq_bk, kSeq_ct, kExp_, kRet_, kIf_t, kIf_f, kAsg_V, kPar_, kAug_, kB1_, kB2_, kU_, kN_, kC1_, kC2_, kAnd_T, kAnd_F, kOr_T, kOr_F, kNot_B, kCh1_, kCh2_, kCh3_t, kCh3_f, kTV_B, kTB_B, kTA_t, kTA_f, kTO_t, kTO_f, kTN_, kOS_, kSl1_, kSl2_, kSl3_, kM2_, kK1_, kK2_, kSq_tup, kSq_lst, kSq_str, kEn_tup, kEn_lst, kZp_tup, kZp_lst, kFor_, kTurn_nx, kTurn_ct, kTurn_bk, kTurn_rt, kComp_, kLcT_t, kLcT_f,
 setAll, wipeE, pick, List.getElem?_cons_zero, List.getElem?_cons_succ, List.set_cons_zero, List.set_cons_succ, List.map_cons, List.map_nil, List.replicate_succ, List.replicate_zero, List.cons_append, List.nil_append, List.append_nil, List.length_cons, List.length_nil, List.filterMap_cons, List.filterMap_nil,
 Nat.reduceAdd, Nat.reduceSub, Nat.reduceLeDiff, Nat.reduceEqDiff, and_self, if_true, if_false, opAdd_int, opSub_int, opGt_int, opLt_int, opGe_int, opLe_int, opEq_int, opEq_str, opEq_bl, opNe_int, opNe_bl, opNe_str, bInt_int, bInt_bl, bAbs_int, truD_bl, truD_int, W_fLst, W_fTup, pow18, bLen_tup, bLen_lst, bTuple_lst, bTuple_tup, bList_lst, bList_tup, kEn_sq, enumD_map]
  refine W_loop (fun ds E S => ∃ (ps : List (Row × Nat)) (done : List Int) (x y : Option D), ds = (ps.map fun p => D.tup [.int p.2, rowE b p.1]) ∧ (∀ p ∈ ps, p.1 ∈ L) ∧ E = [some (logE b L), some (strE c ks), some (.ref 0), x, y, none] ∧ S = [.lst (done.map .int)] ∧ done.length + ps.length ≤ 1000 ∧ done ++ ps.filterMap (fun p => if hit p.1 ks = true then some (p.2 : Int) else none) = writersF L ks) (fun _ => rfl) ?_ ?_ _ _ _ ⟨L.zipIdx 0, [], none, none, rfl, fun p hp => ?_, rfl, rfl, by simpa using hl, rfl⟩
  · rintro E S ⟨ps, done, x, y, e, h1, rfl, rfl, h2, h3⟩
    cases ps with
    | cons _ _ => cases e
    | nil =>
      simp only [W_body, W_sSeq, W_sNx, W_sBk, W_sCt, W_sExpr, W_sRet, W_sRetN, W_sIf, W_sAsg, W_sPar, W_sAug, W_eC, W_eVar, W_eBin, W_eUn, W_eArgs, W_aNil, W_aCons, W_eAnd, W_eOr, W_eNot, W_eIf, W_eChain, W_tVal, W_tBl, W_tAnd, W_tOr, W_tNot, W_tTrue, W_oNone, W_oSome, W_eSl, W_eRev, W_eMethL, W_eCall, W_iSeq, W_iRange1, W_iRange2, W_iEnumS, W_iZipS, W_sFor, W_eComp, W_lcStep, W_gV, W_gUnpackVV, W_newF, W_newT, W_some,
 kBody_rt, kBody_nx, kSeq_nx, kSeq_rt, kSeq_bk, kSeq_ct, kExp_, kRet_, kIf_t, kIf_f, kAsg_V, kPar_, kAug_, kB1_, kB2_, kU_, kN_, kC1_, kC2_, kAnd_T, kAnd_F, kOr_T, kOr_F, kNot_B, kCh1_, kCh2_, kCh3_t, kCh3_f, kTV_B, kTB_B, kTA_t, kTA_f, kTO_t, kTO_f, kTN_, kOS_, kSl1_, kSl2_, kSl3_, kM2_, kK1_, kK2_, kSq_tup, kSq_lst, kSq_str, kEn_tup, kEn_lst, kZp_tup, kZp_lst, kFor_, kTurn_nx, kTurn_ct, kTurn_bk, kTurn_rt, kComp_, kLcT_t, kLcT_f,
 setAll, wipeE, pick, List.getElem?_cons_zero, List.getElem?_cons_succ, List.set_cons_zero, List.set_cons_succ, List.map_cons, List.map_nil, List.replicate_succ, List.replicate_zero, List.cons_append, List.nil_append, List.append_nil, List.length_cons, List.length_nil, List.filterMap_cons, List.filterMap_nil,
 Nat.reduceAdd, Nat.reduceSub, Nat.reduceLeDiff, Nat.reduceEqDiff, and_self, if_true, if_false, opAdd_int, opSub_int, opGt_int, opLt_int, opGe_int, opLe_int, opEq_int, opEq_str, opEq_bl, opNe_int, opNe_bl, opNe_str, bInt_int, bInt_bl, bAbs_int, truD_bl, truD_int, W_fLst, W_fTup, pow18, bLen_tup, bLen_lst, bTuple_lst, bTuple_tup, bList_lst, bList_tup]
      rw [List.filterMap_nil, List.append_nil] at h3
      exact ⟨trivial, by rw [h3]⟩
  · rintro d ds E S ⟨ps, done, x, y, e, h1, rfl, rfl, h2, h3⟩
    cases ps with
    | nil => cases e
    | cons p ps =>
      rw [List.map_cons] at e
      injection e with e1 e2
      subst e1 e2
      have hp := h1 p List.mem_cons_self
      simp only [W_body, W_sSeq, W_sNx, W_sBk, W_sCt, W_sExpr, W_sRet, W_sRetN, W_sIf, W_sAsg, W_sPar, W_sAug, W_eC, W_eVar, W_eBin, W_eUn, W_eArgs, W_aNil, W_aCons, W_eAnd, W_eOr, W_eNot, W_eIf, W_eChain, W_tVal, W_tBl, W_tAnd, W_tOr, W_tNot, W_tTrue, W_oNone, W_oSome, W_eSl, W_eRev, W_eMethL, W_eCall, W_iSeq, W_iRange1, W_iRange2, W_iEnumS, W_iZipS, W_sFor, W_eComp, W_lcStep, W_gV, W_gUnpackVV, W_newF, W_newT, W_some,
 kBody_rt, kBody_nx, kSeq_nx, kSeq_rt, kSeq_bk, kSeq_ct, kExp_, kRet_, kIf_t, kIf_f, kAsg_V, kPar_, kAug_, kB1_, kB2_, kU_, kN_, kC1_, kC2_, kAnd_T, kAnd_F, kOr_T, kOr_F, kNot_B, kCh1_, kCh2_, kCh3_t, kCh3_f, kTV_B, kTB_B, kTA_t, kTA_f, kTO_t, kTO_f, kTN_, kOS_, kSl1_, kSl2_, kSl3_, kM2_, kK1_, kK2_, kSq_tup, kSq_lst, kSq_str, kEn_tup, kEn_lst, kZp_tup, kZp_lst, kFor_, kTurn_nx, kTurn_ct, kTurn_bk, kTurn_rt, kComp_, kLcT_t, kLcT_f,
 setAll, wipeE, pick, List.getElem?_cons_zero, List.getElem?_cons_succ, List.set_cons_zero, List.set_cons_succ, List.map_cons, List.map_nil, List.replicate_succ, List.replicate_zero, List.cons_append, List.nil_append, List.append_nil, List.length_cons, List.length_nil, List.filterMap_cons, List.filterMap_nil,
 Nat.reduceAdd, Nat.reduceSub, Nat.reduceLeDiff, Nat.reduceEqDiff, and_self, if_true, if_false, opAdd_int, opSub_int, opGt_int, opLt_int, opGe_int, opLe_int, opEq_int, opEq_str, opEq_bl, opNe_int, opNe_bl, opNe_str, bInt_int, bInt_bl, bAbs_int, truD_bl, truD_int, W_fLst, W_fTup, pow18, bLen_tup, bLen_lst, bTuple_lst, bTuple_tup, bList_lst, bList_tup, row_ws, kSq_sq]
      refine ⟨by rw [List.length_map]; exact Nat.le_trans (hw _ hp).1 (by decide), ?_⟩
      rw [lc_map (f := fun w => if decide (w.key ∈ ks) = true then some (wrE b w) else none) rfl _ _ fun w _ => ?_]
      · rw [W_some, List.nil_append, fm_filter]
        rw [show (p.1.ws.filter fun w => decide (w.key ∈ ks)) = hits p.1 ks from rfl]
        simp only [W_body, W_sSeq, W_sNx, W_sBk, W_sCt, W_sExpr, W_sRet, W_sRetN, W_sIf, W_sAsg, W_sPar, W_sAug, W_eC, W_eVar, W_eBin, W_eUn, W_eArgs, W_aNil, W_aCons, W_eAnd, W_eOr, W_eNot, W_eIf, W_eChain, W_tVal, W_tBl, W_tAnd, W_tOr, W_tNot, W_tTrue, W_oNone, W_oSome, W_eSl, W_eRev, W_eMethL, W_eCall, W_iSeq, W_iRange1, W_iRange2, W_iEnumS, W_iZipS, W_sFor, W_eComp, W_lcStep, W_gV, W_gUnpackVV, W_newF, W_newT, W_some,
 kBody_rt, kBody_nx, kSeq_nx, kSeq_rt, kSeq_bk, kSeq_ct, kExp_, kRet_, kIf_t, kIf_f, kAsg_V, kPar_, kAug_, kB1_, kB2_, kU_, kN_, kC1_, kC2_, kAnd_T, kAnd_F, kOr_T, kOr_F, kNot_B, kCh1_, kCh2_, kCh3_t, kCh3_f, kTV_B, kTB_B, kTA_t, kTA_f, kTO_t, kTO_f, kTN_, kOS_, kSl1_, kSl2_, kSl3_, kM2_, kK1_, kK2_, kSq_tup, kSq_lst, kSq_str, kEn_tup, kEn_lst, kZp_tup, kZp_lst, kFor_, kTurn_nx, kTurn_ct, kTurn_bk, kTurn_rt, kComp_, kLcT_t, kLcT_f,
 setAll, wipeE, pick, List.getElem?_cons_zero, List.getElem?_cons_succ, List.set_cons_zero, List.set_cons_succ, List.map_cons, List.map_nil, List.replicate_succ, List.replicate_zero, List.cons_append, List.nil_append, List.append_nil, List.length_cons, List.length_nil, List.filterMap_cons, List.filterMap_nil,
 Nat.reduceAdd, Nat.reduceSub, Nat.reduceLeDiff, Nat.reduceEqDiff, and_self, if_true, if_false, opAdd_int, opSub_int, opGt_int, opLt_int, opGe_int, opLe_int, opEq_int, opEq_str, opEq_bl, opNe_int, opNe_bl, opNe_str, bInt_int, bInt_bl, bAbs_int, truD_bl, truD_int, W_fLst, W_fTup, pow18, bLen_tup, bLen_lst, bTuple_lst, bTuple_tup, bList_lst, bList_tup, ne_hits (hw _ hp)]
        refine kIf_any (fun h => ?_) fun h => ?_
        · simp only [W_body, W_sSeq, W_sNx, W_sBk, W_sCt, W_sExpr, W_sRet, W_sRetN, W_sIf, W_sAsg, W_sPar, W_sAug, W_eC, W_eVar, W_eBin, W_eUn, W_eArgs, W_aNil, W_aCons, W_eAnd, W_eOr, W_eNot, W_eIf, W_eChain, W_tVal, W_tBl, W_tAnd, W_tOr, W_tNot, W_tTrue, W_oNone, W_oSome, W_eSl, W_eRev, W_eMethL, W_eCall, W_iSeq, W_iRange1, W_iRange2, W_iEnumS, W_iZipS, W_sFor, W_eComp, W_lcStep, W_gV, W_gUnpackVV, W_newF, W_newT, W_some,
 kBody_rt, kBody_nx, kSeq_nx, kSeq_rt, kSeq_bk, kSeq_ct, kExp_, kRet_, kIf_t, kIf_f, kAsg_V, kPar_, kAug_, kB1_, kB2_, kU_, kN_, kC1_, kC2_, kAnd_T, kAnd_F, kOr_T, kOr_F, kNot_B, kCh1_, kCh2_, kCh3_t, kCh3_f, kTV_B, kTB_B, kTA_t, kTA_f, kTO_t, kTO_f, kTN_, kOS_, kSl1_, kSl2_, kSl3_, kM2_, kK1_, kK2_, kSq_tup, kSq_lst, kSq_str, kEn_tup, kEn_lst, kZp_tup, kZp_lst, kFor_, kTurn_nx, kTurn_ct, kTurn_bk, kTurn_rt, kComp_, kLcT_t, kLcT_f,
 setAll, wipeE, pick, List.getElem?_cons_zero, List.getElem?_cons_succ, List.set_cons_zero, List.set_cons_succ, List.map_cons, List.map_nil, List.replicate_succ, List.replicate_zero, List.cons_append, List.nil_append, List.append_nil, List.length_cons, List.length_nil, List.filterMap_cons, List.filterMap_nil,
 Nat.reduceAdd, Nat.reduceSub, Nat.reduceLeDiff, Nat.reduceEqDiff, and_self, if_true, if_false, opAdd_int, opSub_int, opGt_int, opLt_int, opGe_int, opLe_int, opEq_int, opEq_str, opEq_bl, opNe_int, opNe_bl, opNe_str, bInt_int, bInt_bl, bAbs_int, truD_bl, truD_int, W_fLst, W_fTup, pow18, bLen_tup, bLen_lst, bTuple_lst, bTuple_tup, bList_lst, bList_tup]
          rw [kM1_ref (ds := done.map .int) rfl]
          simp only [W_body, W_sSeq, W_sNx, W_sBk, W_sCt, W_sExpr, W_sRet, W_sRetN, W_sIf, W_sAsg, W_sPar, W_sAug, W_eC, W_eVar, W_eBin, W_eUn, W_eArgs, W_aNil, W_aCons, W_eAnd, W_eOr, W_eNot, W_eIf, W_eChain, W_tVal, W_tBl, W_tAnd, W_tOr, W_tNot, W_tTrue, W_oNone, W_oSome, W_eSl, W_eRev, W_eMethL, W_eCall, W_iSeq, W_iRange1, W_iRange2, W_iEnumS, W_iZipS, W_sFor, W_eComp, W_lcStep, W_gV, W_gUnpackVV, W_newF, W_newT, W_some,
 kBody_rt, kBody_nx, kSeq_nx, kSeq_rt, kSeq_bk, kSeq_ct, kExp_, kRet_, kIf_t, kIf_f, kAsg_V, kPar_, kAug_, kB1_, kB2_, kU_, kN_, kC1_, kC2_, kAnd_T, kAnd_F, kOr_T, kOr_F, kNot_B, kCh1_, kCh2_, kCh3_t, kCh3_f, kTV_B, kTB_B, kTA_t, kTA_f, kTO_t, kTO_f, kTN_, kOS_, kSl1_, kSl2_, kSl3_, kM2_, kK1_, kK2_, kSq_tup, kSq_lst, kSq_str, kEn_tup, kEn_lst, kZp_tup, kZp_lst, kFor_, kTurn_nx, kTurn_ct, kTurn_bk, kTurn_rt, kComp_, kLcT_t, kLcT_f,
 setAll, wipeE, pick, List.getElem?_cons_zero, List.getElem?_cons_succ, List.set_cons_zero, List.set_cons_succ, List.map_cons, List.map_nil, List.replicate_succ, List.replicate_zero, List.cons_append, List.nil_append, List.append_nil, List.length_cons, List.length_nil, List.filterMap_cons, List.filterMap_nil,
 Nat.reduceAdd, Nat.reduceSub, Nat.reduceLeDiff, Nat.reduceEqDiff, and_self, if_true, if_false, opAdd_int, opSub_int, opGt_int, opLt_int, opGe_int, opLe_int, opEq_int, opEq_str, opEq_bl, opNe_int, opNe_bl, opNe_str, bInt_int, bInt_bl, bAbs_int, truD_bl, truD_int, W_fLst, W_fTup, pow18, bLen_tup, bLen_lst, bTuple_lst, bTuple_tup, bList_lst, bList_tup]
          rw [mAppend_run (ds := done.map .int) rfl (by rw [List.length_map]; simp at h2; omega)]
          simp only [W_body, W_sSeq, W_sNx, W_sBk, W_sCt, W_sExpr, W_sRet, W_sRetN, W_sIf, W_sAsg, W_sPar, W_sAug, W_eC, W_eVar, W_eBin, W_eUn, W_eArgs, W_aNil, W_aCons, W_eAnd, W_eOr, W_eNot, W_eIf, W_eChain, W_tVal, W_tBl, W_tAnd, W_tOr, W_tNot, W_tTrue, W_oNone, W_oSome, W_eSl, W_eRev, W_eMethL, W_eCall, W_iSeq, W_iRange1, W_iRange2, W_iEnumS, W_iZipS, W_sFor, W_eComp, W_lcStep, W_gV, W_gUnpackVV, W_newF, W_newT, W_some,
 kBody_rt, kBody_nx, kSeq_nx, kSeq_rt, kSeq_bk, kSeq_ct, kExp_, kRet_, kIf_t, kIf_f, kAsg_V, kPar_, kAug_, kB1_, kB2_, kU_, kN_, kC1_, kC2_, kAnd_T, kAnd_F, kOr_T, kOr_F, kNot_B, kCh1_, kCh2_, kCh3_t, kCh3_f, kTV_B, kTB_B, kTA_t, kTA_f, kTO_t, kTO_f, kTN_, kOS_, kSl1_, kSl2_, kSl3_, kM2_, kK1_, kK2_, kSq_tup, kSq_lst, kSq_str, kEn_tup, kEn_lst, kZp_tup, kZp_lst, kFor_, kTurn_nx, kTurn_ct, kTurn_bk, kTurn_rt, kComp_, kLcT_t, kLcT_f,
 setAll, wipeE, pick, List.getElem?_cons_zero, List.getElem?_cons_succ, List.set_cons_zero, List.set_cons_succ, List.map_cons, List.map_nil, List.replicate_succ, List.replicate_zero, List.cons_append, List.nil_append, List.append_nil, List.length_cons, List.length_nil, List.filterMap_cons, List.filterMap_nil,
 Nat.reduceAdd, Nat.reduceSub, Nat.reduceLeDiff, Nat.reduceEqDiff, and_self, if_true, if_false, opAdd_int, opSub_int, opGt_int, opLt_int, opGe_int, opLe_int, opEq_int, opEq_str, opEq_bl, opNe_int, opNe_bl, opNe_str, bInt_int, bInt_bl, bAbs_int, truD_bl, truD_int, W_fLst, W_fTup, pow18, bLen_tup, bLen_lst, bTuple_lst, bTuple_tup, bList_lst, bList_tup]
          refine ⟨ps, done ++ [(p.2 : Int)], _, _, rfl, fun q hq => h1 q (List.mem_cons_of_mem _ hq), rfl, by rw [List.map_append]; rfl, by simp at h2 ⊢; omega, ?_⟩
          rw [← h3, List.filterMap_cons, h]
          simp
        · simp only [W_body, W_sSeq, W_sNx, W_sBk, W_sCt, W_sExpr, W_sRet, W_sRetN, W_sIf, W_sAsg, W_sPar, W_sAug, W_eC, W_eVar, W_eBin, W_eUn, W_eArgs, W_aNil, W_aCons, W_eAnd, W_eOr, W_eNot, W_eIf, W_eChain, W_tVal, W_tBl, W_tAnd, W_tOr, W_tNot, W_tTrue, W_oNone, W_oSome, W_eSl, W_eRev, W_eMethL, W_eCall, W_iSeq, W_iRange1, W_iRange2, W_iEnumS, W_iZipS, W_sFor, W_eComp, W_lcStep, W_gV, W_gUnpackVV, W_newF, W_newT, W_some,
 kBody_rt, kBody_nx, kSeq_nx, kSeq_rt, kSeq_bk, kSeq_ct, kExp_, kRet_, kIf_t, kIf_f, kAsg_V, kPar_, kAug_, kB1_, kB2_, kU_, kN_, kC1_, kC2_, kAnd_T, kAnd_F, kOr_T, kOr_F, kNot_B, kCh1_, kCh2_, kCh3_t, kCh3_f, kTV_B, kTB_B, kTA_t, kTA_f, kTO_t, kTO_f, kTN_, kOS_, kSl1_, kSl2_, kSl3_, kM2_, kK1_, kK2_, kSq_tup, kSq_lst, kSq_str, kEn_tup, kEn_lst, kZp_tup, kZp_lst, kFor_, kTurn_nx, kTurn_ct, kTurn_bk, kTurn_rt, kComp_, kLcT_t, kLcT_f,
 setAll, wipeE, pick, List.getElem?_cons_zero, List.getElem?_cons_succ, List.set_cons_zero, List.set_cons_succ, List.map_cons, List.map_nil, List.replicate_succ, List.replicate_zero, List.cons_append, List.nil_append, List.append_nil, List.length_cons, List.length_nil, List.filterMap_cons, List.filterMap_nil,
 Nat.reduceAdd, Nat.reduceSub, Nat.reduceLeDiff, Nat.reduceEqDiff, and_self, if_true, if_false, opAdd_int, opSub_int, opGt_int, opLt_int, opGe_int, opLe_int, opEq_int, opEq_str, opEq_bl, opNe_int, opNe_bl, opNe_str, bInt_int, bInt_bl, bAbs_int, truD_bl, truD_int, W_fLst, W_fTup, pow18, bLen_tup, bLen_lst, bTuple_lst, bTuple_tup, bList_lst, bList_tup]
          refine ⟨ps, done, _, _, rfl, fun q hq => h1 q (List.mem_cons_of_mem _ hq), rfl, rfl, by simp at h2; omega, ?_⟩
          rw [← h3, List.filterMap_cons, h]
          simp
      · refine W_get ?_
        simp only [W_body, W_sSeq, W_sNx, W_sBk, W_sCt, W_sExpr, W_sRet, W_sRetN, W_sIf, W_sAsg, W_sPar, W_sAug, W_eC, W_eVar, W_eBin, W_eUn, W_eArgs, W_aNil, W_aCons, W_eAnd, W_eOr, W_eNot, W_eIf, W_eChain, W_tVal, W_tBl, W_tAnd, W_tOr, W_tNot, W_tTrue, W_oNone, W_oSome, W_eSl, W_eRev, W_eMethL, W_eCall, W_iSeq, W_iRange1, W_iRange2, W_iEnumS, W_iZipS, W_sFor, W_eComp, W_lcStep, W_gV, W_gUnpackVV, W_newF, W_newT, W_some,
 kBody_rt, kBody_nx, kSeq_nx, kSeq_rt, kSeq_bk, kSeq_ct, kExp_, kRet_, kIf_t, kIf_f, kAsg_V, kPar_, kAug_, kB1_, kB2_, kU_, kN_, kC1_, kC2_, kAnd_T, kAnd_F, kOr_T, kOr_F, kNot_B, kCh1_, kCh2_, kCh3_t, kCh3_f, kTV_B, kTB_B, kTA_t, kTA_f, kTO_t, kTO_f, kTN_, kOS_, kSl1_, kSl2_, kSl3_, kM2_, kK1_, kK2_, kSq_tup, kSq_lst, kSq_str, kEn_tup, kEn_lst, kZp_tup, kZp_lst, kFor_, kTurn_nx, kTurn_ct, kTurn_bk, kTurn_rt, kComp_, kLcT_t, kLcT_f,
 setAll, wipeE, pick, List.getElem?_cons_zero, List.getElem?_cons_succ, List.set_cons_zero, List.set_cons_succ, List.map_cons, List.map_nil, List.replicate_succ, List.replicate_zero, List.cons_append, List.nil_append, List.append_nil, List.length_cons, List.length_nil, List.filterMap_cons, List.filterMap_nil,
 Nat.reduceAdd, Nat.reduceSub, Nat.reduceLeDiff, Nat.reduceEqDiff, and_self, if_true, if_false, opAdd_int, opSub_int, opGt_int, opLt_int, opGe_int, opLe_int, opEq_int, opEq_str, opEq_bl, opNe_int, opNe_bl, opNe_str, bInt_int, bInt_bl, bAbs_int, truD_bl, truD_int, W_fLst, W_fTup, pow18, bLen_tup, bLen_lst, bTuple_lst, bTuple_tup, bList_lst, bList_tup, wr_key, opIn_sq]
        refine kLcT_any (fun h => ?_) fun h => ?_
        · simp only [W_body, W_sSeq, W_sNx, W_sBk, W_sCt, W_sExpr, W_sRet, W_sRetN, W_sIf, W_sAsg, W_sPar, W_sAug, W_eC, W_eVar, W_eBin, W_eUn, W_eArgs, W_aNil, W_aCons, W_eAnd, W_eOr, W_eNot, W_eIf, W_eChain, W_tVal, W_tBl, W_tAnd, W_tOr, W_tNot, W_tTrue, W_oNone, W_oSome, W_eSl, W_eRev, W_eMethL, W_eCall, W_iSeq, W_iRange1, W_iRange2, W_iEnumS, W_iZipS, W_sFor, W_eComp, W_lcStep, W_gV, W_gUnpackVV, W_newF, W_newT, W_some,
 kBody_rt, kBody_nx, kSeq_nx, kSeq_rt, kSeq_bk, kSeq_ct, kExp_, kRet_, kIf_t, kIf_f, kAsg_V, kPar_, kAug_, kB1_, kB2_, kU_, kN_, kC1_, kC2_, kAnd_T, kAnd_F, kOr_T, kOr_F, kNot_B, kCh1_, kCh2_, kCh3_t, kCh3_f, kTV_B, kTB_B, kTA_t, kTA_f, kTO_t, kTO_f, kTN_, kOS_, kSl1_, kSl2_, kSl3_, kM2_, kK1_, kK2_, kSq_tup, kSq_lst, kSq_str, kEn_tup, kEn_lst, kZp_tup, kZp_lst, kFor_, kTurn_nx, kTurn_ct, kTurn_bk, kTurn_rt, kComp_, kLcT_t, kLcT_f,
 setAll, wipeE, pick, List.getElem?_cons_zero, List.getElem?_cons_succ, List.set_cons_zero, List.set_cons_succ, List.map_cons, List.map_nil, List.replicate_succ, List.replicate_zero, List.cons_append, List.nil_append, List.append_nil, List.length_cons, List.length_nil, List.filterMap_cons, List.filterMap_nil,
 Nat.reduceAdd, Nat.reduceSub, Nat.reduceLeDiff, Nat.reduceEqDiff, and_self, if_true, if_false, opAdd_int, opSub_int, opGt_int, opLt_int, opGe_int, opLe_int, opEq_int, opEq_str, opEq_bl, opNe_int, opNe_bl, opNe_str, bInt_int, bInt_bl, bAbs_int, truD_bl, truD_int, W_fLst, W_fTup, pow18, bLen_tup, bLen_lst, bTuple_lst, bTuple_tup, bList_lst, bList_tup, h]
        · rw [h]; exact ⟨rfl, rfl⟩
  · have := List.mem_zipIdx hp
    simp at this
    rw [this.2]; exact List.getElem_mem _
end AW

namespace AW
open PySem PySem.Spec PyProof.Rows L2

theorem share_symm {L : List Row} {e l : Nat} : hit (rowAt L l) (keysOf (rowAt L e)) = share L e l := by
  unfold share hit keysOf
  rw [Bool.eq_iff_iff, List.any_eq_true, List.any_eq_true]
  constructor
  · rintro ⟨w, hw, h⟩
    obtain ⟨v, hv, e⟩ := List.mem_map.mp (of_decide_eq_true h)
    exact ⟨v, hv, decide_eq_true (List.mem_map.mpr ⟨w, hw, e.symm⟩)⟩
  · rintro ⟨w, hw, h⟩
    obtain ⟨v, hv, e⟩ := List.mem_map.mp (of_decide_eq_true h)
    exact ⟨v, hv, decide_eq_true (List.mem_map.mpr ⟨w, hw, e.symm⟩)⟩
/-- the pairs at the earlier place e -/
def crossAt (L : List Row) (e : Nat) : List (Int × Int) := (List.range (L.length - (e + 1))).filterMap fun j => if (decide (hAt L (e + 1 + j) ≤ e) && share L e (e + 1 + j)) = true then some ((e : Int), ((e + 1 + j : Nat) : Int)) else none
def crossF (L : List Row) : List (Int × Int) := (List.range L.length).flatMap (crossAt L)
theorem mem_cross {L : List Row} {p : Int × Int} : p ∈ crossF L ↔ ∃ e l : Nat, p = ((e : Int), (l : Int)) ∧ e < l ∧ l < L.length ∧ hAt L l ≤ e ∧ share L e l = true := by
  unfold crossF crossAt
  simp only [List.mem_flatMap, List.mem_range, List.mem_filterMap]
  constructor
  · rintro ⟨e, he, j, hj, h⟩
    split at h
    · rename_i hc
      rw [Bool.and_eq_true, decide_eq_true_eq] at hc
      cases h
      exact ⟨e, e + 1 + j, rfl, by omega, by omega, hc.1, hc.2⟩
    · cases h
  · rintro ⟨e, l, rfl, h1, h2, h3, h4⟩
    refine ⟨e, by omega, l - (e + 1), by omega, ?_⟩
    have : e + 1 + (l - (e + 1)) = l := by omega
    rw [this, if_pos (by rw [h4, decide_eq_true h3]; rfl)]
theorem mem_clash {L : List Row} {p : Int × Int} : p ∈ clashF L ↔ ∃ e l : Nat, p = ((e : Int), (l : Int)) ∧ e < l ∧ l < L.length ∧ hAt L l ≤ e ∧ share L e l = true := by
  unfold clashF clashAt
  simp only [List.mem_flatMap, List.mem_range, List.mem_filterMap]
  constructor
  · rintro ⟨l, hl, j, hj, h⟩
    have h0 : 0 ≤ hAt L l := hAt_nn
    split at h
    · rename_i hc
      cases h
      exact ⟨(hAt L l).toNat + j, l, rfl, by omega, hl, by omega, hc⟩
    · cases h
  · rintro ⟨e, l, rfl, h1, h2, h3, h4⟩
    have h0 : 0 ≤ hAt L l := hAt_nn
    refine ⟨l, h2, e - (hAt L l).toNat, by omega, ?_⟩
    have : (hAt L l).toNat + (e - (hAt L l).toNat) = e := by omega
    rw [this, if_pos h4]
theorem pw_fm {α : Type} {R : α → α → Prop} {f : Nat → Option α} {n : Nat} (h : ∀ i j a b, i < j → f i = some a → f j = some b → R a b) : ((List.range n).filterMap f).Pairwise R := by
  rw [List.pairwise_filterMap]
  exact (List.pairwise_lt_range (n := n)).imp fun {i j} hij a ha b hb => h i j a b hij ha hb
theorem pw_flat {α : Type} {R : α → α → Prop} {f : Nat → List α} {n : Nat} (h1 : ∀ i, (f i).Pairwise R) (h2 : ∀ i j, i < j → ∀ x ∈ f i, ∀ y ∈ f j, R x y) : ((List.range n).flatMap f).Pairwise R := by
  rw [List.pairwise_flatMap]
  exact ⟨fun a _ => h1 a, (List.pairwise_lt_range (n := n)).imp fun {i j} hij => h2 i j hij⟩
theorem cross_at {L : List Row} {e : Nat} {p : Int × Int} (h : p ∈ crossAt L e) : p.1 = e := by
  unfold crossAt at h
  simp only [List.mem_filterMap] at h
  obtain ⟨j, _, h⟩ := h
  split at h
  · cases h; rfl
  · cases h
theorem clash_at {L : List Row} {l : Nat} {p : Int × Int} (h : p ∈ clashAt L l) : p.2 = l := by
  unfold clashAt at h
  simp only [List.mem_filterMap] at h
  obtain ⟨j, _, h⟩ := h
  split at h
  · cases h; rfl
  · cases h
theorem cross_sorted {L : List Row} : (crossF L).Pairwise (leP · ·) := by
  unfold crossF
  refine pw_flat (fun e => ?_) fun e e' he x hx y hy => ?_
  · unfold crossAt
    refine pw_fm fun i j a b hij ha hb => ?_
    split at ha
    · split at hb
      · cases ha; cases hb
        rw [leP_iff]
        exact .inr ⟨rfl, by show ((e + 1 + i : Nat) : Int) ≤ ((e + 1 + j : Nat) : Int); omega⟩
      · cases hb
    · cases ha
  · rw [leP_iff, cross_at hx, cross_at hy]
    exact .inl (by omega)
theorem cross_nodup {L : List Row} : (crossF L).Nodup := by
  unfold crossF
  refine pw_flat (fun e => ?_) fun e e' he x hx y hy hxy => ?_
  · unfold crossAt
    refine pw_fm fun i j a b hij ha hb => ?_
    split at ha
    · split at hb
      · cases ha; cases hb
        intro h
        have := congrArg Prod.snd h
        simp only at this
        omega
      · cases hb
    · cases ha
  · have := cross_at hx
    rw [hxy, cross_at hy] at this
    omega
theorem clash_nodup {L : List Row} : (clashF L).Nodup := by
  unfold clashF
  refine pw_flat (fun e => ?_) fun e e' he x hx y hy hxy => ?_
  · unfold clashAt
    refine pw_fm fun i j a b hij ha hb => ?_
    split at ha
    · split at hb
      · cases ha; cases hb
        intro h
        have := congrArg Prod.fst h
        simp only at this
        omega
      · cases hb
    · cases ha
  · have := clash_at hx
    rw [hxy, clash_at hy] at this
    omega
theorem cross_clash {L : List Row} : crossF L = sortP (clashF L) :=
  sortP_uniq ((List.perm_ext_iff_of_nodup cross_nodup clash_nodup).mpr fun p => mem_cross.trans mem_clash.symm) cross_sorted
def lcrossedSem (lstair : OpN) : SemS := (sSeq (sPar [1, 2] (aCons (eCall (callP false lstair) 1 0 1 [] [0] (aCons (eVar 0) aNil) aNil) (aCons (eArgs (fLst true) aNil) aNil))) (sSeq (sFor (iRange1 (aCons (eArgs bLen (aCons (eVar 0) aNil)) aNil)) (gV 3) (sSeq (sAsg (gV 4) (eComp false (iSeq (eBin opIx (eBin opIx (eVar 0) (eVar 3)) (eC (D.int 2)))) (gV 6) tTrue (eBin opIx (eVar 6) (eC (D.int 0))) [6])) (sFor (iRange2 (aCons (eBin (opAdd false) (eVar 3) (eC (D.int 1))) (aCons (eArgs bLen (aCons (eVar 0) aNil)) aNil))) (gV 5) (sIf (AW.tAnd (tBl (eBin opGe (eVar 3) (eBin opIx (eVar 1) (eVar 5)))) (tBl (eBin opNe (eComp false (iSeq (eBin opIx (eBin opIx (eVar 0) (eVar 5)) (eC (D.int 2)))) (gV 6) (tBl (eBin (opIn false) (eBin opIx (eVar 6) (eC (D.int 0))) (eVar 4))) (eVar 6) [6]) (eArgs (fLst false) aNil)))) (sExpr (eMethL mAppend (eVar 2) (aCons (eArgs fTup (aCons (eVar 3) (aCons (eVar 5) aNil))) aNil))) sNx)))) (sRet (eVar 2))))
theorem lcrossed_run {b : Bool} {lstair : OpN} (hst : lstair = body 3 lstairSem) {L : List Row} {S : Sto} (hl : L.length ≤ 100) (hw : ∀ r ∈ L, wsOk r) (h0 : ∀ r ∈ L, 0 ≤ r.tag) : callP false (body 7 (lcrossedSem lstair)) [logE b L] S = some (.lst .frz ((crossF L).map dP), S) := by
  have hs : ∀ S : Sto, callP false lstair [logE b L] S = some (.lst .frz ((stairF 0 L).map .int), S) := fun S => by rw [hst]; exact lstair_run (by omega) h0
  have hwa : ∀ k, wsOk (rowAt L k) := fun k => by
    by_cases h : k < L.length
    · rw [rowAt_eq h]; exact hw _ (List.getElem_mem _)
    · simp [rowAt, Nat.not_lt.mp h, nilRow, wsOk]
  refine W_callE (Sc := [.lst ((crossF L).map dP)]) (d := .ref 0) (by simp only [pls, pl_log, Bool.and_self]) (W_get ?_) (frz_ref rfl (nbs_map (fun _ => rfl) _))
  unfold lcrossedSem
  have hlen : ∀ S : Sto, bLen [logE b L] S = some (.int L.length, S) := fun S => by rw [logE, bLen_sq, List.length_map]
  simp only [W_body, W_sSeq, W_sNx, W_sBk, W_sCt, W_sExpr, W_sRet, W_sRetN, W_sIf, W_sAsg, W_sPar, W_sAug, W_eC, W_eVar, W_eBin, W_eUn, W_eArgs, W_aNil, W_aCons, W_eAnd, W_eOr, W_eNot, W_eIf, W_eChain, W_tVal, W_tBl, W_tAnd, W_tOr, W_tNot, W_tTrue, W_oNone, W_oSome, W_eSl, W_eRev, W_eMethL, W_eCall, W_iSeq, W_iRange1, W_iRange2, W_iEnumS, W_iZipS, W_sFor, W_eComp, W_lcStep, W_gV, W_gUnpackVV, W_newF, W_newT, W_some,
 kBody_rt, kBody_nx, kSeq_nx, kSeq_rt, kSeq_bk, kSeq_ct, kExp_, kRet_, kIf_t, kIf_f, kAsg_V, kPar_, kAug_, kB1_, kB2_, kU_, kN_, kC1_, kC2_, kAnd_T, kAnd_F, kOr_T, kOr_F, kNot_B, kCh1_, kCh2_, kCh3_t, kCh3_f, kTV_B, kTB_B, kTA_t, kTA_f, kTO_t, kTO_f, kTN_, kOS_, kSl1_, kSl2_, kSl3_, kM2_, kK1_, kK2_, kSq_tup, kSq_lst, kSq_str, kEn_tup, kEn_lst, kZp_tup, kZp_lst, kFor_, kTurn_nx, kTurn_ct, kTurn_bk, kTurn_rt, kComp_, kLcT_t, kLcT_f,
 setAll, wipeE, pick, List.getElem?_cons_zero, List.getElem?_cons_succ, List.set_cons_zero, List.set_cons_succ, List.map_cons, List.map_nil, List.replicate_succ, List.replicate_zero, List.cons_append, List.nil_append, List.append_nil, List.length_cons, List.length_nil, List.filterMap_cons, List.filterMap_nil,
 Nat.reduceAdd, Nat.reduceSub, Nat.reduceLeDiff, Nat.reduceEqDiff, and_self, if_true, if_false, opAdd_int, opSub_int, opGt_int, opLt_int, opGe_int, opLe_int, opEq_int, opEq_str, opEq_bl, opNe_int, opNe_bl, opNe_str, bInt_int, bInt_bl, bAbs_int, truD_bl, truD_int, W_fLst, W_fTup, pow18, bLen_tup, bLen_lst, bTuple_lst, bTuple_tup, bList_lst, bList_tup, hs, hlen]
  rw [kR1_ (by omega)]
  simp only [W_body, W_sSeq, W_sNx, W_sBk, W_sCt, W_sExpr, W_sRet, W_sRetN, W_sIf, W_sAsg, W_sPar, W_sAug, W_eC, W_eVar, W_eBin, W_eUn, W_eArgs, W_aNil, W_aCons, W_eAnd, W_eOr, W_eNot, W_eIf, W_eChain, W_tVal, W_tBl, W_tAnd, W_tOr, W_tNot, W_tTrue, W_oNone, W_oSome, W_eSl, W_eRev, W_eMethL, W_eCall, W_iSeq, W_iRange1, W_iRange2, W_iEnumS, W_iZipS, W_sFor, W_eComp, W_lcStep, W_gV, W_gUnpackVV, W_newF, W_newT, W_some,
 kBody_rt, kBody_nx, kSeq_nx, kSeq_rt, kSeq_bk, kSeq_ct, kExp_, kRet_, kIf_t, kIf_f, kAsg_V, kPar_, kAug_, kB1_, kB2_, kU_, kN_, kC1_, kC2_, kAnd_T, kAnd_F, kOr_T, kOr_F, kNot_B, kCh1_, kCh2_, kCh3_t, kCh3_f, kTV_B, kTB_B, kTA_t, kTA_f, kTO_t, kTO_f, kTN_, kOS_, kSl1_, kSl2_, kSl3_, kM2_, kK1_, kK2_, kSq_tup, kSq_lst, kSq_str, kEn_tup, kEn_lst, kZp_tup, kZp_lst, kFor_, kTurn_nx, kTurn_ct, kTurn_bk, kTurn_rt, kComp_, kLcT_t, kLcT_f,
 setAll, wipeE, pick, List.getElem?_cons_zero, List.getElem?_cons_succ, List.set_cons_zero, List.set_cons_succ, List.map_cons, List.map_nil, List.replicate_succ, List.replicate_zero, List.cons_append, List.nil_append, List.append_nil, List.length_cons, List.length_nil, List.filterMap_cons, List.filterMap_nil,
 Nat.reduceAdd, Nat.reduceSub, Nat.reduceLeDiff, Nat.reduceEqDiff, and_self, if_true, if_false, opAdd_int, opSub_int, opGt_int, opLt_int, opGe_int, opLe_int, opEq_int, opEq_str, opEq_bl, opNe_int, opNe_bl, opNe_str, bInt_int, bInt_bl, bAbs_int, truD_bl, truD_int, W_fLst, W_fTup, pow18, bLen_tup, bLen_lst, bTuple_lst, bTuple_tup, bList_lst, bList_tup]
  refine W_forK (fun k E S => ∃ (x y z u : Option D) (ps : List (Int × Int)), E = [some (logE b L), some (.lst .frz ((stairF 0 L).map .int)), some (.ref 0), x, y, z, u] ∧ ps = (List.range k).flatMap (crossAt L) ∧ ps.length ≤ 100 * k ∧ S = [.lst (ps.map dP)]) (fun _ => rfl) ?_ ?_ ⟨none, none, none, none, [], rfl, rfl, by simp, rfl⟩
  · rintro E S ⟨x, y, z, u, ps, rfl, h1, h2, rfl⟩
    simp only [W_body, W_sSeq, W_sNx, W_sBk, W_sCt, W_sExpr, W_sRet, W_sRetN, W_sIf, W_sAsg, W_sPar, W_sAug, W_eC, W_eVar, W_eBin, W_eUn, W_eArgs, W_aNil, W_aCons, W_eAnd, W_eOr, W_eNot, W_eIf, W_eChain, W_tVal, W_tBl, W_tAnd, W_tOr, W_tNot, W_tTrue, W_oNone, W_oSome, W_eSl, W_eRev, W_eMethL, W_eCall, W_iSeq, W_iRange1, W_iRange2, W_iEnumS, W_iZipS, W_sFor, W_eComp, W_lcStep, W_gV, W_gUnpackVV, W_newF, W_newT, W_some,
 kBody_rt, kBody_nx, kSeq_nx, kSeq_rt, kSeq_bk, kSeq_ct, kExp_, kRet_, kIf_t, kIf_f, kAsg_V, kPar_, kAug_, kB1_, kB2_, kU_, kN_, kC1_, kC2_, kAnd_T, kAnd_F, kOr_T, kOr_F, kNot_B, kCh1_, kCh2_, kCh3_t, kCh3_f, kTV_B, kTB_B, kTA_t, kTA_f, kTO_t, kTO_f, kTN_, kOS_, kSl1_, kSl2_, kSl3_, kM2_, kK1_, kK2_, kSq_tup, kSq_lst, kSq_str, kEn_tup, kEn_lst, kZp_tup, kZp_lst, kFor_, kTurn_nx, kTurn_ct, kTurn_bk, kTurn_rt, kComp_, kLcT_t, kLcT_f,
 setAll, wipeE, pick, List.getElem?_cons_zero, List.getElem?_cons_succ, List.set_cons_zero, List.set_cons_succ, List.map_cons, List.map_nil, List.replicate_succ, List.replicate_zero, List.cons_append, List.nil_append, List.append_nil, List.length_cons, List.length_nil, List.filterMap_cons, List.filterMap_nil,
 Nat.reduceAdd, Nat.reduceSub, Nat.reduceLeDiff, Nat.reduceEqDiff, and_self, if_true, if_false, opAdd_int, opSub_int, opGt_int, opLt_int, opGe_int, opLe_int, opEq_int, opEq_str, opEq_bl, opNe_int, opNe_bl, opNe_str, bInt_int, bInt_bl, bAbs_int, truD_bl, truD_int, W_fLst, W_fTup, pow18, bLen_tup, bLen_lst, bTuple_lst, bTuple_tup, bList_lst, bList_tup]
    refine ⟨trivial, ?_⟩
    rw [h1, rangeD_len, Int.toNat_natCast]
    rfl
  · rintro k hk' E S ⟨x, y, z, u, ps, rfl, h1, h2, rfl⟩
    rw [rangeD_len, Int.toNat_natCast] at hk'
    rw [rangeD_at, Int.zero_add]
    have hla : ∀ {j : Nat} (S : Sto), j < L.length → opIx (logE b L) (.int ((j : Nat) : Int)) S = some (rowE b (rowAt L j), S) := fun S h => by rw [log_at h, rowAt_eq h]
    simp only [W_body, W_sSeq, W_sNx, W_sBk, W_sCt, W_sExpr, W_sRet, W_sRetN, W_sIf, W_sAsg, W_sPar, W_sAug, W_eC, W_eVar, W_eBin, W_eUn, W_eArgs, W_aNil, W_aCons, W_eAnd, W_eOr, W_eNot, W_eIf, W_eChain, W_tVal, W_tBl, W_tAnd, W_tOr, W_tNot, W_tTrue, W_oNone, W_oSome, W_eSl, W_eRev, W_eMethL, W_eCall, W_iSeq, W_iRange1, W_iRange2, W_iEnumS, W_iZipS, W_sFor, W_eComp, W_lcStep, W_gV, W_gUnpackVV, W_newF, W_newT, W_some,
 kBody_rt, kBody_nx, kSeq_nx, kSeq_rt, kSeq_bk, kSeq_ct, kExp_, kRet_, kIf_t, kIf_f, kAsg_V, kPar_, kAug_, kB1_, kB2_, kU_, kN_, kC1_, kC2_, kAnd_T, kAnd_F, kOr_T, kOr_F, kNot_B, kCh1_, kCh2_, kCh3_t, kCh3_f, kTV_B, kTB_B, kTA_t, kTA_f, kTO_t, kTO_f, kTN_, kOS_, kSl1_, kSl2_, kSl3_, kM2_, kK1_, kK2_, kSq_tup, kSq_lst, kSq_str, kEn_tup, kEn_lst, kZp_tup, kZp_lst, kFor_, kTurn_nx, kTurn_ct, kTurn_bk, kTurn_rt, kComp_, kLcT_t, kLcT_f,
 setAll, wipeE, pick, List.getElem?_cons_zero, List.getElem?_cons_succ, List.set_cons_zero, List.set_cons_succ, List.map_cons, List.map_nil, List.replicate_succ, List.replicate_zero, List.cons_append, List.nil_append, List.append_nil, List.length_cons, List.length_nil, List.filterMap_cons, List.filterMap_nil,
 Nat.reduceAdd, Nat.reduceSub, Nat.reduceLeDiff, Nat.reduceEqDiff, and_self, if_true, if_false, opAdd_int, opSub_int, opGt_int, opLt_int, opGe_int, opLe_int, opEq_int, opEq_str, opEq_bl, opNe_int, opNe_bl, opNe_str, bInt_int, bInt_bl, bAbs_int, truD_bl, truD_int, W_fLst, W_fTup, pow18, bLen_tup, bLen_lst, bTuple_lst, bTuple_tup, bList_lst, bList_tup, hla _ hk', row_ws, kSq_sq]
    refine ⟨by rw [List.length_map]; exact Nat.le_trans (hwa _).1 (by decide), ?_⟩
    rw [lc_map (f := fun w => some (.str w.key)) rfl _ _ fun w _ => ?_]
    · rw [W_some, List.nil_append, filterMap_some, show ((rowAt L k).ws.map fun w => D.str w.key) = (keysOf (rowAt L k)).map D.str by rw [keysOf, List.map_map]; rfl]
      simp only [W_body, W_sSeq, W_sNx, W_sBk, W_sCt, W_sExpr, W_sRet, W_sRetN, W_sIf, W_sAsg, W_sPar, W_sAug, W_eC, W_eVar, W_eBin, W_eUn, W_eArgs, W_aNil, W_aCons, W_eAnd, W_eOr, W_eNot, W_eIf, W_eChain, W_tVal, W_tBl, W_tAnd, W_tOr, W_tNot, W_tTrue, W_oNone, W_oSome, W_eSl, W_eRev, W_eMethL, W_eCall, W_iSeq, W_iRange1, W_iRange2, W_iEnumS, W_iZipS, W_sFor, W_eComp, W_lcStep, W_gV, W_gUnpackVV, W_newF, W_newT, W_some,
 kBody_rt, kBody_nx, kSeq_nx, kSeq_rt, kSeq_bk, kSeq_ct, kExp_, kRet_, kIf_t, kIf_f, kAsg_V, kPar_, kAug_, kB1_, kB2_, kU_, kN_, kC1_, kC2_, kAnd_T, kAnd_F, kOr_T, kOr_F, kNot_B, kCh1_, kCh2_, kCh3_t, kCh3_f, kTV_B, kTB_B, kTA_t, kTA_f, kTO_t, kTO_f, kTN_, kOS_, kSl1_, kSl2_, kSl3_, kM2_, kK1_, kK2_, kSq_tup, kSq_lst, kSq_str, kEn_tup, kEn_lst, kZp_tup, kZp_lst, kFor_, kTurn_nx, kTurn_ct, kTurn_bk, kTurn_rt, kComp_, kLcT_t, kLcT_f,
 setAll, wipeE, pick, List.getElem?_cons_zero, List.getElem?_cons_succ, List.set_cons_zero, List.set_cons_succ, List.map_cons, List.map_nil, List.replicate_succ, List.replicate_zero, List.cons_append, List.nil_append, List.append_nil, List.length_cons, List.length_nil, List.filterMap_cons, List.filterMap_nil,
 Nat.reduceAdd, Nat.reduceSub, Nat.reduceLeDiff, Nat.reduceEqDiff, and_self, if_true, if_false, opAdd_int, opSub_int, opGt_int, opLt_int, opGe_int, opLe_int, opEq_int, opEq_str, opEq_bl, opNe_int, opNe_bl, opNe_str, bInt_int, bInt_bl, bAbs_int, truD_bl, truD_int, W_fLst, W_fTup, pow18, bLen_tup, bLen_lst, bTuple_lst, bTuple_tup, bList_lst, bList_tup, hlen]
      rw [kR2_ (by omega)]
      simp only [W_body, W_sSeq, W_sNx, W_sBk, W_sCt, W_sExpr, W_sRet, W_sRetN, W_sIf, W_sAsg, W_sPar, W_sAug, W_eC, W_eVar, W_eBin, W_eUn, W_eArgs, W_aNil, W_aCons, W_eAnd, W_eOr, W_eNot, W_eIf, W_eChain, W_tVal, W_tBl, W_tAnd, W_tOr, W_tNot, W_tTrue, W_oNone, W_oSome, W_eSl, W_eRev, W_eMethL, W_eCall, W_iSeq, W_iRange1, W_iRange2, W_iEnumS, W_iZipS, W_sFor, W_eComp, W_lcStep, W_gV, W_gUnpackVV, W_newF, W_newT, W_some,
 kBody_rt, kBody_nx, kSeq_nx, kSeq_rt, kSeq_bk, kSeq_ct, kExp_, kRet_, kIf_t, kIf_f, kAsg_V, kPar_, kAug_, kB1_, kB2_, kU_, kN_, kC1_, kC2_, kAnd_T, kAnd_F, kOr_T, kOr_F, kNot_B, kCh1_, kCh2_, kCh3_t, kCh3_f, kTV_B, kTB_B, kTA_t, kTA_f, kTO_t, kTO_f, kTN_, kOS_, kSl1_, kSl2_, kSl3_, kM2_, kK1_, kK2_, kSq_tup, kSq_lst, kSq_str, kEn_tup, kEn_lst, kZp_tup, kZp_lst, kFor_, kTurn_nx, kTurn_ct, kTurn_bk, kTurn_rt, kComp_, kLcT_t, kLcT_f,
 setAll, wipeE, pick, List.getElem?_cons_zero, List.getElem?_cons_succ, List.set_cons_zero, List.set_cons_succ, List.map_cons, List.map_nil, List.replicate_succ, List.replicate_zero, List.cons_append, List.nil_append, List.append_nil, List.length_cons, List.length_nil, List.filterMap_cons, List.filterMap_nil,
 Nat.reduceAdd, Nat.reduceSub, Nat.reduceLeDiff, Nat.reduceEqDiff, and_self, if_true, if_false, opAdd_int, opSub_int, opGt_int, opLt_int, opGe_int, opLe_int, opEq_int, opEq_str, opEq_bl, opNe_int, opNe_bl, opNe_str, bInt_int, bInt_bl, bAbs_int, truD_bl, truD_int, W_fLst, W_fTup, pow18, bLen_tup, bLen_lst, bTuple_lst, bTuple_tup, bList_lst, bList_tup]
      refine W_forK (fun j E S => ∃ (z u : Option D) (ps' : List (Int × Int)), E = [some (logE b L), some (.lst .frz ((stairF 0 L).map .int)), some (.ref 0), some (.int k), some (.lst .frz ((keysOf (rowAt L k)).map .str)), z, u] ∧ ps' = ps ++ (List.range j).filterMap (fun j => if (decide (hAt L (k + 1 + j) ≤ k) && share L k (k + 1 + j)) = true then some ((k : Int), ((k + 1 + j : Nat) : Int)) else none) ∧ ps'.length ≤ 100 * k + j ∧ S = [.lst (ps'.map dP)]) (fun _ => rfl) ?_ ?_ ⟨_, _, ps, rfl, by simp, h2, rfl⟩
      · rintro E S ⟨z, u, ps', rfl, h3, h4, rfl⟩
        simp only [W_body, W_sSeq, W_sNx, W_sBk, W_sCt, W_sExpr, W_sRet, W_sRetN, W_sIf, W_sAsg, W_sPar, W_sAug, W_eC, W_eVar, W_eBin, W_eUn, W_eArgs, W_aNil, W_aCons, W_eAnd, W_eOr, W_eNot, W_eIf, W_eChain, W_tVal, W_tBl, W_tAnd, W_tOr, W_tNot, W_tTrue, W_oNone, W_oSome, W_eSl, W_eRev, W_eMethL, W_eCall, W_iSeq, W_iRange1, W_iRange2, W_iEnumS, W_iZipS, W_sFor, W_eComp, W_lcStep, W_gV, W_gUnpackVV, W_newF, W_newT, W_some,
 kBody_rt, kBody_nx, kSeq_nx, kSeq_rt, kSeq_bk, kSeq_ct, kExp_, kRet_, kIf_t, kIf_f, kAsg_V, kPar_, kAug_, kB1_, kB2_, kU_, kN_, kC1_, kC2_, kAnd_T, kAnd_F, kOr_T, kOr_F, kNot_B, kCh1_, kCh2_, kCh3_t, kCh3_f, kTV_B, kTB_B, kTA_t, kTA_f, kTO_t, kTO_f, kTN_, kOS_, kSl1_, kSl2_, kSl3_, kM2_, kK1_, kK2_, kSq_tup, kSq_lst, kSq_str, kEn_tup, kEn_lst, kZp_tup, kZp_lst, kFor_, kTurn_nx, kTurn_ct, kTurn_bk, kTurn_rt, kComp_, kLcT_t, kLcT_f,
 setAll, wipeE, pick, List.getElem?_cons_zero, List.getElem?_cons_succ, List.set_cons_zero, List.set_cons_succ, List.map_cons, List.map_nil, List.replicate_succ, List.replicate_zero, List.cons_append, List.nil_append, List.append_nil, List.length_cons, List.length_nil, List.filterMap_cons, List.filterMap_nil,
 Nat.reduceAdd, Nat.reduceSub, Nat.reduceLeDiff, Nat.reduceEqDiff, and_self, if_true, if_false, opAdd_int, opSub_int, opGt_int, opLt_int, opGe_int, opLe_int, opEq_int, opEq_str, opEq_bl, opNe_int, opNe_bl, opNe_str, bInt_int, bInt_bl, bAbs_int, truD_bl, truD_int, W_fLst, W_fTup, pow18, bLen_tup, bLen_lst, bTuple_lst, bTuple_tup, bList_lst, bList_tup]
        rw [rangeD_len] at h3 h4
        refine ⟨_, _, _, _, ps', rfl, ?_, by omega, rfl⟩
        rw [range_flat, ← h1, h3, crossAt]
        congr 3
        omega
      · rintro j hj E S ⟨z, u, ps', rfl, h3, h4, rfl⟩
        rw [rangeD_len] at hj
        have hj' : k + 1 + j < L.length := by omega
        rw [rangeD_at, show ((k : Int) + 1 + (j : Int)) = ((k + 1 + j : Nat) : Int) by omega]
        have hks : k + 1 + j < (stairF 0 L).length := by rw [stairF_len]; exact hj'
        have e2 : atD ((stairF 0 L).map D.int) ((k + 1 + j : Nat) : Int) = some (.int (hAt L (k + 1 + j))) := atD_nat (by simp [hks, hAt_eq hks])
        simp only [W_body, W_sSeq, W_sNx, W_sBk, W_sCt, W_sExpr, W_sRet, W_sRetN, W_sIf, W_sAsg, W_sPar, W_sAug, W_eC, W_eVar, W_eBin, W_eUn, W_eArgs, W_aNil, W_aCons, W_eAnd, W_eOr, W_eNot, W_eIf, W_eChain, W_tVal, W_tBl, W_tAnd, W_tOr, W_tNot, W_tTrue, W_oNone, W_oSome, W_eSl, W_eRev, W_eMethL, W_eCall, W_iSeq, W_iRange1, W_iRange2, W_iEnumS, W_iZipS, W_sFor, W_eComp, W_lcStep, W_gV, W_gUnpackVV, W_newF, W_newT, W_some,
 kBody_rt, kBody_nx, kSeq_nx, kSeq_rt, kSeq_bk, kSeq_ct, kExp_, kRet_, kIf_t, kIf_f, kAsg_V, kPar_, kAug_, kB1_, kB2_, kU_, kN_, kC1_, kC2_, kAnd_T, kAnd_F, kOr_T, kOr_F, kNot_B, kCh1_, kCh2_, kCh3_t, kCh3_f, kTV_B, kTB_B, kTA_t, kTA_f, kTO_t, kTO_f, kTN_, kOS_, kSl1_, kSl2_, kSl3_, kM2_, kK1_, kK2_, kSq_tup, kSq_lst, kSq_str, kEn_tup, kEn_lst, kZp_tup, kZp_lst, kFor_, kTurn_nx, kTurn_ct, kTurn_bk, kTurn_rt, kComp_, kLcT_t, kLcT_f,
 setAll, wipeE, pick, List.getElem?_cons_zero, List.getElem?_cons_succ, List.set_cons_zero, List.set_cons_succ, List.map_cons, List.map_nil, List.replicate_succ, List.replicate_zero, List.cons_append, List.nil_append, List.append_nil, List.length_cons, List.length_nil, List.filterMap_cons, List.filterMap_nil,
 Nat.reduceAdd, Nat.reduceSub, Nat.reduceLeDiff, Nat.reduceEqDiff, and_self, if_true, if_false, opAdd_int, opSub_int, opGt_int, opLt_int, opGe_int, opLe_int, opEq_int, opEq_str, opEq_bl, opNe_int, opNe_bl, opNe_str, bInt_int, bInt_bl, bAbs_int, truD_bl, truD_int, W_fLst, W_fTup, pow18, bLen_tup, bLen_lst, bTuple_lst, bTuple_tup, bList_lst, bList_tup, opIx_lst e2]
        have app : (decide (hAt L (k + 1 + j) ≤ k) && share L k (k + 1 + j)) = true → ∀ E', W (mAppend (.ref 0) [dP ((k : Int), ((k + 1 + j : Nat) : Int))] [.lst (ps'.map dP)]) E' = E' .non [.lst ((ps' ++ [((k : Int), ((k + 1 + j : Nat) : Int))]).map dP)] := fun _ E' => by
          rw [mAppend_run (ds := ps'.map dP) rfl (by rw [List.length_map]; omega), W_some, List.map_append]
          rfl
        refine kTA_any (fun h => ?_) fun h => ?_
        · simp only [W_body, W_sSeq, W_sNx, W_sBk, W_sCt, W_sExpr, W_sRet, W_sRetN, W_sIf, W_sAsg, W_sPar, W_sAug, W_eC, W_eVar, W_eBin, W_eUn, W_eArgs, W_aNil, W_aCons, W_eAnd, W_eOr, W_eNot, W_eIf, W_eChain, W_tVal, W_tBl, W_tAnd, W_tOr, W_tNot, W_tTrue, W_oNone, W_oSome, W_eSl, W_eRev, W_eMethL, W_eCall, W_iSeq, W_iRange1, W_iRange2, W_iEnumS, W_iZipS, W_sFor, W_eComp, W_lcStep, W_gV, W_gUnpackVV, W_newF, W_newT, W_some,
 kBody_rt, kBody_nx, kSeq_nx, kSeq_rt, kSeq_bk, kSeq_ct, kExp_, kRet_, kIf_t, kIf_f, kAsg_V, kPar_, kAug_, kB1_, kB2_, kU_, kN_, kC1_, kC2_, kAnd_T, kAnd_F, kOr_T, kOr_F, kNot_B, kCh1_, kCh2_, kCh3_t, kCh3_f, kTV_B, kTB_B, kTA_t, kTA_f, kTO_t, kTO_f, kTN_, kOS_, kSl1_, kSl2_, kSl3_, kM2_, kK1_, kK2_, kSq_tup, kSq_lst, kSq_str, kEn_tup, kEn_lst, kZp_tup, kZp_lst, kFor_, kTurn_nx, kTurn_ct, kTurn_bk, kTurn_rt, kComp_, kLcT_t, kLcT_f,
 setAll, wipeE, pick, List.getElem?_cons_zero, List.getElem?_cons_succ, List.set_cons_zero, List.set_cons_succ, List.map_cons, List.map_nil, List.replicate_succ, List.replicate_zero, List.cons_append, List.nil_append, List.append_nil, List.length_cons, List.length_nil, List.filterMap_cons, List.filterMap_nil,
 Nat.reduceAdd, Nat.reduceSub, Nat.reduceLeDiff, Nat.reduceEqDiff, and_self, if_true, if_false, opAdd_int, opSub_int, opGt_int, opLt_int, opGe_int, opLe_int, opEq_int, opEq_str, opEq_bl, opNe_int, opNe_bl, opNe_str, bInt_int, bInt_bl, bAbs_int, truD_bl, truD_int, W_fLst, W_fTup, pow18, bLen_tup, bLen_lst, bTuple_lst, bTuple_tup, bList_lst, bList_tup, hla _ hj', row_ws, kSq_sq]
          refine ⟨by rw [List.length_map]; exact Nat.le_trans (hwa _).1 (by decide), ?_⟩
          rw [lc_map (f := fun w => if decide (w.key ∈ keysOf (rowAt L k)) = true then some (wrE b w) else none) rfl _ _ fun w _ => ?_]
          · rw [W_some, List.nil_append, fm_filter]
            rw [show ((rowAt L (k + 1 + j)).ws.filter fun w => decide (w.key ∈ keysOf (rowAt L k))) = hits (rowAt L (k + 1 + j)) (keysOf (rowAt L k)) from rfl]
            simp only [W_body, W_sSeq, W_sNx, W_sBk, W_sCt, W_sExpr, W_sRet, W_sRetN, W_sIf, W_sAsg, W_sPar, W_sAug, W_eC, W_eVar, W_eBin, W_eUn, W_eArgs, W_aNil, W_aCons, W_eAnd, W_eOr, W_eNot, W_eIf, W_eChain, W_tVal, W_tBl, W_tAnd, W_tOr, W_tNot, W_tTrue, W_oNone, W_oSome, W_eSl, W_eRev, W_eMethL, W_eCall, W_iSeq, W_iRange1, W_iRange2, W_iEnumS, W_iZipS, W_sFor, W_eComp, W_lcStep, W_gV, W_gUnpackVV, W_newF, W_newT, W_some,
 kBody_rt, kBody_nx, kSeq_nx, kSeq_rt, kSeq_bk, kSeq_ct, kExp_, kRet_, kIf_t, kIf_f, kAsg_V, kPar_, kAug_, kB1_, kB2_, kU_, kN_, kC1_, kC2_, kAnd_T, kAnd_F, kOr_T, kOr_F, kNot_B, kCh1_, kCh2_, kCh3_t, kCh3_f, kTV_B, kTB_B, kTA_t, kTA_f, kTO_t, kTO_f, kTN_, kOS_, kSl1_, kSl2_, kSl3_, kM2_, kK1_, kK2_, kSq_tup, kSq_lst, kSq_str, kEn_tup, kEn_lst, kZp_tup, kZp_lst, kFor_, kTurn_nx, kTurn_ct, kTurn_bk, kTurn_rt, kComp_, kLcT_t, kLcT_f,
 setAll, wipeE, pick, List.getElem?_cons_zero, List.getElem?_cons_succ, List.set_cons_zero, List.set_cons_succ, List.map_cons, List.map_nil, List.replicate_succ, List.replicate_zero, List.cons_append, List.nil_append, List.append_nil, List.length_cons, List.length_nil, List.filterMap_cons, List.filterMap_nil,
 Nat.reduceAdd, Nat.reduceSub, Nat.reduceLeDiff, Nat.reduceEqDiff, and_self, if_true, if_false, opAdd_int, opSub_int, opGt_int, opLt_int, opGe_int, opLe_int, opEq_int, opEq_str, opEq_bl, opNe_int, opNe_bl, opNe_str, bInt_int, bInt_bl, bAbs_int, truD_bl, truD_int, W_fLst, W_fTup, pow18, bLen_tup, bLen_lst, bTuple_lst, bTuple_tup, bList_lst, bList_tup, ne_hits (hwa _)]
            rw [share_symm]
            refine kIf_any (fun h' => ?_) fun h' => ?_
            · simp only [W_body, W_sSeq, W_sNx, W_sBk, W_sCt, W_sExpr, W_sRet, W_sRetN, W_sIf, W_sAsg, W_sPar, W_sAug, W_eC, W_eVar, W_eBin, W_eUn, W_eArgs, W_aNil, W_aCons, W_eAnd, W_eOr, W_eNot, W_eIf, W_eChain, W_tVal, W_tBl, W_tAnd, W_tOr, W_tNot, W_tTrue, W_oNone, W_oSome, W_eSl, W_eRev, W_eMethL, W_eCall, W_iSeq, W_iRange1, W_iRange2, W_iEnumS, W_iZipS, W_sFor, W_eComp, W_lcStep, W_gV, W_gUnpackVV, W_newF, W_newT, W_some,
 kBody_rt, kBody_nx, kSeq_nx, kSeq_rt, kSeq_bk, kSeq_ct, kExp_, kRet_, kIf_t, kIf_f, kAsg_V, kPar_, kAug_, kB1_, kB2_, kU_, kN_, kC1_, kC2_, kAnd_T, kAnd_F, kOr_T, kOr_F, kNot_B, kCh1_, kCh2_, kCh3_t, kCh3_f, kTV_B, kTB_B, kTA_t, kTA_f, kTO_t, kTO_f, kTN_, kOS_, kSl1_, kSl2_, kSl3_, kM2_, kK1_, kK2_, kSq_tup, kSq_lst, kSq_str, kEn_tup, kEn_lst, kZp_tup, kZp_lst, kFor_, kTurn_nx, kTurn_ct, kTurn_bk, kTurn_rt, kComp_, kLcT_t, kLcT_f,
 setAll, wipeE, pick, List.getElem?_cons_zero, List.getElem?_cons_succ, List.set_cons_zero, List.set_cons_succ, List.map_cons, List.map_nil, List.replicate_succ, List.replicate_zero, List.cons_append, List.nil_append, List.append_nil, List.length_cons, List.length_nil, List.filterMap_cons, List.filterMap_nil,
 Nat.reduceAdd, Nat.reduceSub, Nat.reduceLeDiff, Nat.reduceEqDiff, and_self, if_true, if_false, opAdd_int, opSub_int, opGt_int, opLt_int, opGe_int, opLe_int, opEq_int, opEq_str, opEq_bl, opNe_int, opNe_bl, opNe_str, bInt_int, bInt_bl, bAbs_int, truD_bl, truD_int, W_fLst, W_fTup, pow18, bLen_tup, bLen_lst, bTuple_lst, bTuple_tup, bList_lst, bList_tup]
              rw [kM1_ref (ds := ps'.map dP) rfl]
              simp only [W_body, W_sSeq, W_sNx, W_sBk, W_sCt, W_sExpr, W_sRet, W_sRetN, W_sIf, W_sAsg, W_sPar, W_sAug, W_eC, W_eVar, W_eBin, W_eUn, W_eArgs, W_aNil, W_aCons, W_eAnd, W_eOr, W_eNot, W_eIf, W_eChain, W_tVal, W_tBl, W_tAnd, W_tOr, W_tNot, W_tTrue, W_oNone, W_oSome, W_eSl, W_eRev, W_eMethL, W_eCall, W_iSeq, W_iRange1, W_iRange2, W_iEnumS, W_iZipS, W_sFor, W_eComp, W_lcStep, W_gV, W_gUnpackVV, W_newF, W_newT, W_some,
 kBody_rt, kBody_nx, kSeq_nx, kSeq_rt, kSeq_bk, kSeq_ct, kExp_, kRet_, kIf_t, kIf_f, kAsg_V, kPar_, kAug_, kB1_, kB2_, kU_, kN_, kC1_, kC2_, kAnd_T, kAnd_F, kOr_T, kOr_F, kNot_B, kCh1_, kCh2_, kCh3_t, kCh3_f, kTV_B, kTB_B, kTA_t, kTA_f, kTO_t, kTO_f, kTN_, kOS_, kSl1_, kSl2_, kSl3_, kM2_, kK1_, kK2_, kSq_tup, kSq_lst, kSq_str, kEn_tup, kEn_lst, kZp_tup, kZp_lst, kFor_, kTurn_nx, kTurn_ct, kTurn_bk, kTurn_rt, kComp_, kLcT_t, kLcT_f,
 setAll, wipeE, pick, List.getElem?_cons_zero, List.getElem?_cons_succ, List.set_cons_zero, List.set_cons_succ, List.map_cons, List.map_nil, List.replicate_succ, List.replicate_zero, List.cons_append, List.nil_append, List.append_nil, List.length_cons, List.length_nil, List.filterMap_cons, List.filterMap_nil,
 Nat.reduceAdd, Nat.reduceSub, Nat.reduceLeDiff, Nat.reduceEqDiff, and_self, if_true, if_false, opAdd_int, opSub_int, opGt_int, opLt_int, opGe_int, opLe_int, opEq_int, opEq_str, opEq_bl, opNe_int, opNe_bl, opNe_str, bInt_int, bInt_bl, bAbs_int, truD_bl, truD_int, W_fLst, W_fTup, pow18, bLen_tup, bLen_lst, bTuple_lst, bTuple_tup, bList_lst, bList_tup]
              rw [show (D.tup [.int (k : Int), .int ((k + 1 + j : Nat) : Int)]) = dP ((k : Int), ((k + 1 + j : Nat) : Int)) from rfl, app (by rw [h, h']; rfl)]
              simp only [W_body, W_sSeq, W_sNx, W_sBk, W_sCt, W_sExpr, W_sRet, W_sRetN, W_sIf, W_sAsg, W_sPar, W_sAug, W_eC, W_eVar, W_eBin, W_eUn, W_eArgs, W_aNil, W_aCons, W_eAnd, W_eOr, W_eNot, W_eIf, W_eChain, W_tVal, W_tBl, W_tAnd, W_tOr, W_tNot, W_tTrue, W_oNone, W_oSome, W_eSl, W_eRev, W_eMethL, W_eCall, W_iSeq, W_iRange1, W_iRange2, W_iEnumS, W_iZipS, W_sFor, W_eComp, W_lcStep, W_gV, W_gUnpackVV, W_newF, W_newT, W_some,
 kBody_rt, kBody_nx, kSeq_nx, kSeq_rt, kSeq_bk, kSeq_ct, kExp_, kRet_, kIf_t, kIf_f, kAsg_V, kPar_, kAug_, kB1_, kB2_, kU_, kN_, kC1_, kC2_, kAnd_T, kAnd_F, kOr_T, kOr_F, kNot_B, kCh1_, kCh2_, kCh3_t, kCh3_f, kTV_B, kTB_B, kTA_t, kTA_f, kTO_t, kTO_f, kTN_, kOS_, kSl1_, kSl2_, kSl3_, kM2_, kK1_, kK2_, kSq_tup, kSq_lst, kSq_str, kEn_tup, kEn_lst, kZp_tup, kZp_lst, kFor_, kTurn_nx, kTurn_ct, kTurn_bk, kTurn_rt, kComp_, kLcT_t, kLcT_f,
 setAll, wipeE, pick, List.getElem?_cons_zero, List.getElem?_cons_succ, List.set_cons_zero, List.set_cons_succ, List.map_cons, List.map_nil, List.replicate_succ, List.replicate_zero, List.cons_append, List.nil_append, List.append_nil, List.length_cons, List.length_nil, List.filterMap_cons, List.filterMap_nil,
 Nat.reduceAdd, Nat.reduceSub, Nat.reduceLeDiff, Nat.reduceEqDiff, and_self, if_true, if_false, opAdd_int, opSub_int, opGt_int, opLt_int, opGe_int, opLe_int, opEq_int, opEq_str, opEq_bl, opNe_int, opNe_bl, opNe_str, bInt_int, bInt_bl, bAbs_int, truD_bl, truD_int, W_fLst, W_fTup, pow18, bLen_tup, bLen_lst, bTuple_lst, bTuple_tup, bList_lst, bList_tup]
              refine ⟨_, _, _, rfl, ?_, by simp; omega, rfl⟩
              rw [range_fm, h3, if_pos (by rw [h, h']; rfl), List.append_assoc]
            · simp only [W_body, W_sSeq, W_sNx, W_sBk, W_sCt, W_sExpr, W_sRet, W_sRetN, W_sIf, W_sAsg, W_sPar, W_sAug, W_eC, W_eVar, W_eBin, W_eUn, W_eArgs, W_aNil, W_aCons, W_eAnd, W_eOr, W_eNot, W_eIf, W_eChain, W_tVal, W_tBl, W_tAnd, W_tOr, W_tNot, W_tTrue, W_oNone, W_oSome, W_eSl, W_eRev, W_eMethL, W_eCall, W_iSeq, W_iRange1, W_iRange2, W_iEnumS, W_iZipS, W_sFor, W_eComp, W_lcStep, W_gV, W_gUnpackVV, W_newF, W_newT, W_some,
 kBody_rt, kBody_nx, kSeq_nx, kSeq_rt, kSeq_bk, kSeq_ct, kExp_, kRet_, kIf_t, kIf_f, kAsg_V, kPar_, kAug_, kB1_, kB2_, kU_, kN_, kC1_, kC2_, kAnd_T, kAnd_F, kOr_T, kOr_F, kNot_B, kCh1_, kCh2_, kCh3_t, kCh3_f, kTV_B, kTB_B, kTA_t, kTA_f, kTO_t, kTO_f, kTN_, kOS_, kSl1_, kSl2_, kSl3_, kM2_, kK1_, kK2_, kSq_tup, kSq_lst, kSq_str, kEn_tup, kEn_lst, kZp_tup, kZp_lst, kFor_, kTurn_nx, kTurn_ct, kTurn_bk, kTurn_rt, kComp_, kLcT_t, kLcT_f,
 setAll, wipeE, pick, List.getElem?_cons_zero, List.getElem?_cons_succ, List.set_cons_zero, List.set_cons_succ, List.map_cons, List.map_nil, List.replicate_succ, List.replicate_zero, List.cons_append, List.nil_append, List.append_nil, List.length_cons, List.length_nil, List.filterMap_cons, List.filterMap_nil,
 Nat.reduceAdd, Nat.reduceSub, Nat.reduceLeDiff, Nat.reduceEqDiff, and_self, if_true, if_false, opAdd_int, opSub_int, opGt_int, opLt_int, opGe_int, opLe_int, opEq_int, opEq_str, opEq_bl, opNe_int, opNe_bl, opNe_str, bInt_int, bInt_bl, bAbs_int, truD_bl, truD_int, W_fLst, W_fTup, pow18, bLen_tup, bLen_lst, bTuple_lst, bTuple_tup, bList_lst, bList_tup]
              refine ⟨_, _, ps', rfl, ?_, by omega, rfl⟩
              rw [range_fm, h3, h', Bool.and_false]
              simp
          · refine W_get ?_
            simp only [W_body, W_sSeq, W_sNx, W_sBk, W_sCt, W_sExpr, W_sRet, W_sRetN, W_sIf, W_sAsg, W_sPar, W_sAug, W_eC, W_eVar, W_eBin, W_eUn, W_eArgs, W_aNil, W_aCons, W_eAnd, W_eOr, W_eNot, W_eIf, W_eChain, W_tVal, W_tBl, W_tAnd, W_tOr, W_tNot, W_tTrue, W_oNone, W_oSome, W_eSl, W_eRev, W_eMethL, W_eCall, W_iSeq, W_iRange1, W_iRange2, W_iEnumS, W_iZipS, W_sFor, W_eComp, W_lcStep, W_gV, W_gUnpackVV, W_newF, W_newT, W_some,
 kBody_rt, kBody_nx, kSeq_nx, kSeq_rt, kSeq_bk, kSeq_ct, kExp_, kRet_, kIf_t, kIf_f, kAsg_V, kPar_, kAug_, kB1_, kB2_, kU_, kN_, kC1_, kC2_, kAnd_T, kAnd_F, kOr_T, kOr_F, kNot_B, kCh1_, kCh2_, kCh3_t, kCh3_f, kTV_B, kTB_B, kTA_t, kTA_f, kTO_t, kTO_f, kTN_, kOS_, kSl1_, kSl2_, kSl3_, kM2_, kK1_, kK2_, kSq_tup, kSq_lst, kSq_str, kEn_tup, kEn_lst, kZp_tup, kZp_lst, kFor_, kTurn_nx, kTurn_ct, kTurn_bk, kTurn_rt, kComp_, kLcT_t, kLcT_f,
 setAll, wipeE, pick, List.getElem?_cons_zero, List.getElem?_cons_succ, List.set_cons_zero, List.set_cons_succ, List.map_cons, List.map_nil, List.replicate_succ, List.replicate_zero, List.cons_append, List.nil_append, List.append_nil, List.length_cons, List.length_nil, List.filterMap_cons, List.filterMap_nil,
 Nat.reduceAdd, Nat.reduceSub, Nat.reduceLeDiff, Nat.reduceEqDiff, and_self, if_true, if_false, opAdd_int, opSub_int, opGt_int, opLt_int, opGe_int, opLe_int, opEq_int, opEq_str, opEq_bl, opNe_int, opNe_bl, opNe_str, bInt_int, bInt_bl, bAbs_int, truD_bl, truD_int, W_fLst, W_fTup, pow18, bLen_tup, bLen_lst, bTuple_lst, bTuple_tup, bList_lst, bList_tup, wr_key, opIn_frz]
            refine kLcT_any (fun h => ?_) fun h => ?_
            · simp only [W_body, W_sSeq, W_sNx, W_sBk, W_sCt, W_sExpr, W_sRet, W_sRetN, W_sIf, W_sAsg, W_sPar, W_sAug, W_eC, W_eVar, W_eBin, W_eUn, W_eArgs, W_aNil, W_aCons, W_eAnd, W_eOr, W_eNot, W_eIf, W_eChain, W_tVal, W_tBl, W_tAnd, W_tOr, W_tNot, W_tTrue, W_oNone, W_oSome, W_eSl, W_eRev, W_eMethL, W_eCall, W_iSeq, W_iRange1, W_iRange2, W_iEnumS, W_iZipS, W_sFor, W_eComp, W_lcStep, W_gV, W_gUnpackVV, W_newF, W_newT, W_some,
 kBody_rt, kBody_nx, kSeq_nx, kSeq_rt, kSeq_bk, kSeq_ct, kExp_, kRet_, kIf_t, kIf_f, kAsg_V, kPar_, kAug_, kB1_, kB2_, kU_, kN_, kC1_, kC2_, kAnd_T, kAnd_F, kOr_T, kOr_F, kNot_B, kCh1_, kCh2_, kCh3_t, kCh3_f, kTV_B, kTB_B, kTA_t, kTA_f, kTO_t, kTO_f, kTN_, kOS_, kSl1_, kSl2_, kSl3_, kM2_, kK1_, kK2_, kSq_tup, kSq_lst, kSq_str, kEn_tup, kEn_lst, kZp_tup, kZp_lst, kFor_, kTurn_nx, kTurn_ct, kTurn_bk, kTurn_rt, kComp_, kLcT_t, kLcT_f,
 setAll, wipeE, pick, List.getElem?_cons_zero, List.getElem?_cons_succ, List.set_cons_zero, List.set_cons_succ, List.map_cons, List.map_nil, List.replicate_succ, List.replicate_zero, List.cons_append, List.nil_append, List.append_nil, List.length_cons, List.length_nil, List.filterMap_cons, List.filterMap_nil,
 Nat.reduceAdd, Nat.reduceSub, Nat.reduceLeDiff, Nat.reduceEqDiff, and_self, if_true, if_false, opAdd_int, opSub_int, opGt_int, opLt_int, opGe_int, opLe_int, opEq_int, opEq_str, opEq_bl, opNe_int, opNe_bl, opNe_str, bInt_int, bInt_bl, bAbs_int, truD_bl, truD_int, W_fLst, W_fTup, pow18, bLen_tup, bLen_lst, bTuple_lst, bTuple_tup, bList_lst, bList_tup, h]
            · rw [h]; exact ⟨rfl, rfl⟩
        · simp only [W_body, W_sSeq, W_sNx, W_sBk, W_sCt, W_sExpr, W_sRet, W_sRetN, W_sIf, W_sAsg, W_sPar, W_sAug, W_eC, W_eVar, W_eBin, W_eUn, W_eArgs, W_aNil, W_aCons, W_eAnd, W_eOr, W_eNot, W_eIf, W_eChain, W_tVal, W_tBl, W_tAnd, W_tOr, W_tNot, W_tTrue, W_oNone, W_oSome, W_eSl, W_eRev, W_eMethL, W_eCall, W_iSeq, W_iRange1, W_iRange2, W_iEnumS, W_iZipS, W_sFor, W_eComp, W_lcStep, W_gV, W_gUnpackVV, W_newF, W_newT, W_some,
 kBody_rt, kBody_nx, kSeq_nx, kSeq_rt, kSeq_bk, kSeq_ct, kExp_, kRet_, kIf_t, kIf_f, kAsg_V, kPar_, kAug_, kB1_, kB2_, kU_, kN_, kC1_, kC2_, kAnd_T, kAnd_F, kOr_T, kOr_F, kNot_B, kCh1_, kCh2_, kCh3_t, kCh3_f, kTV_B, kTB_B, kTA_t, kTA_f, kTO_t, kTO_f, kTN_, kOS_, kSl1_, kSl2_, kSl3_, kM2_, kK1_, kK2_, kSq_tup, kSq_lst, kSq_str, kEn_tup, kEn_lst, kZp_tup, kZp_lst, kFor_, kTurn_nx, kTurn_ct, kTurn_bk, kTurn_rt, kComp_, kLcT_t, kLcT_f,
 setAll, wipeE, pick, List.getElem?_cons_zero, List.getElem?_cons_succ, List.set_cons_zero, List.set_cons_succ, List.map_cons, List.map_nil, List.replicate_succ, List.replicate_zero, List.cons_append, List.nil_append, List.append_nil, List.length_cons, List.length_nil, List.filterMap_cons, List.filterMap_nil,
 Nat.reduceAdd, Nat.reduceSub, Nat.reduceLeDiff, Nat.reduceEqDiff, and_self, if_true, if_false, opAdd_int, opSub_int, opGt_int, opLt_int, opGe_int, opLe_int, opEq_int, opEq_str, opEq_bl, opNe_int, opNe_bl, opNe_str, bInt_int, bInt_bl, bAbs_int, truD_bl, truD_int, W_fLst, W_fTup, pow18, bLen_tup, bLen_lst, bTuple_lst, bTuple_tup, bList_lst, bList_tup]
          refine ⟨_, _, ps', rfl, ?_, by omega, rfl⟩
          rw [range_fm, h3, h, Bool.false_and]
          simp
    · refine W_get ?_
      simp only [W_body, W_sSeq, W_sNx, W_sBk, W_sCt, W_sExpr, W_sRet, W_sRetN, W_sIf, W_sAsg, W_sPar, W_sAug, W_eC, W_eVar, W_eBin, W_eUn, W_eArgs, W_aNil, W_aCons, W_eAnd, W_eOr, W_eNot, W_eIf, W_eChain, W_tVal, W_tBl, W_tAnd, W_tOr, W_tNot, W_tTrue, W_oNone, W_oSome, W_eSl, W_eRev, W_eMethL, W_eCall, W_iSeq, W_iRange1, W_iRange2, W_iEnumS, W_iZipS, W_sFor, W_eComp, W_lcStep, W_gV, W_gUnpackVV, W_newF, W_newT, W_some,
 kBody_rt, kBody_nx, kSeq_nx, kSeq_rt, kSeq_bk, kSeq_ct, kExp_, kRet_, kIf_t, kIf_f, kAsg_V, kPar_, kAug_, kB1_, kB2_, kU_, kN_, kC1_, kC2_, kAnd_T, kAnd_F, kOr_T, kOr_F, kNot_B, kCh1_, kCh2_, kCh3_t, kCh3_f, kTV_B, kTB_B, kTA_t, kTA_f, kTO_t, kTO_f, kTN_, kOS_, kSl1_, kSl2_, kSl3_, kM2_, kK1_, kK2_, kSq_tup, kSq_lst, kSq_str, kEn_tup, kEn_lst, kZp_tup, kZp_lst, kFor_, kTurn_nx, kTurn_ct, kTurn_bk, kTurn_rt, kComp_, kLcT_t, kLcT_f,
 setAll, wipeE, pick, List.getElem?_cons_zero, List.getElem?_cons_succ, List.set_cons_zero, List.set_cons_succ, List.map_cons, List.map_nil, List.replicate_succ, List.replicate_zero, List.cons_append, List.nil_append, List.append_nil, List.length_cons, List.length_nil, List.filterMap_cons, List.filterMap_nil,
 Nat.reduceAdd, Nat.reduceSub, Nat.reduceLeDiff, Nat.reduceEqDiff, and_self, if_true, if_false, opAdd_int, opSub_int, opGt_int, opLt_int, opGe_int, opLe_int, opEq_int, opEq_str, opEq_bl, opNe_int, opNe_bl, opNe_str, bInt_int, bInt_bl, bAbs_int, truD_bl, truD_int, W_fLst, W_fTup, pow18, bLen_tup, bLen_lst, bTuple_lst, bTuple_tup, bList_lst, bList_tup, wr_key]
end AW

namespace AW
open PySem PySem.Spec PyProof.Rows L2

theorem sort_in {x : Str} {ys : List Str} (h : x ∈ sortS ys) : x ∈ ys := (sortS_perm ys).mem_iff.mp h
theorem eight_ok : ∀ x ∈ eight, PyData.strOk x = true := by decide +kernel
structure PoolOk (ks : List Str) (m : Nat) : Prop where
  ex : ∃ ys zs, ks = sortS ys ∧ (ys ++ zs).Perm eight ∧ ys.length = m
theorem PoolOk.len {ks : List Str} {m : Nat} (h : PoolOk ks m) : ks.length = m := by
  obtain ⟨ys, zs, rfl, _, h⟩ := h.ex
  rw [sortS_len, h]
theorem PoolOk.in8 {ks : List Str} {m : Nat} (h : PoolOk ks m) : ∀ x ∈ ks, x ∈ eight := fun x hx => by
  obtain ⟨ys, zs, rfl, p, _⟩ := h.ex
  exact p.mem_iff.mp (List.mem_append_left _ (sort_in hx))
theorem LogOk.wsOk {ks : List Str} {m most : Nat} {L : List Row} (h : LogOk ks most L) (hp : PoolOk ks m) : ∀ r ∈ L, wsOk r := fun r hr => by
  obtain ⟨k, hk, rfl⟩ := List.getElem_of_mem hr
  have := h.row k hk
  refine ⟨Nat.le_trans this.len (by decide), fun w hw => ⟨eight_ok _ (hp.in8 _ (this.sub.subset (List.mem_map.mpr ⟨w, hw, rfl⟩))), ?_⟩⟩
  rcases (this.ws w hw).way with e | e
  · rw [e]; decide +kernel
  · rw [e]; decide +kernel
theorem LogOk.tag0 {ks : List Str} {most : Nat} {L : List Row} (h : LogOk ks most L) : ∀ r ∈ L, 0 ≤ r.tag := fun r hr => by
  obtain ⟨k, hk, rfl⟩ := List.getElem_of_mem hr
  exact (h.row k hk).t0
theorem stairF_le {B : Int} : ∀ {L : List Row} {h : Int}, (∀ r ∈ L, r.tag ≤ B) → h ≤ B → ∀ x ∈ stairF h L, x ≤ B
  | [], _, _, _, x, hx => by cases hx
  | r :: L, h, h1, h2, x, hx => by
    have hr := h1 r List.mem_cons_self
    simp only [stairF] at hx
    rcases List.mem_cons.mp hx with rfl | hx
    · split <;> omega
    · exact stairF_le (fun q hq => h1 q (List.mem_cons_of_mem _ hq)) (by split <;> omega) x hx
theorem LogOk.hAt_le {ks : List Str} {most : Nat} {L : List Row} (h : LogOk ks most L) (k : Nat) : hAt L k ≤ most := by
  by_cases hk : k < (stairF 0 L).length
  · rw [hAt_eq hk]
    refine stairF_le (fun r hr => ?_) (by omega) _ (List.getElem_mem _)
    obtain ⟨j, hj, rfl⟩ := List.getElem_of_mem hr
    have := (h.row j hj).t1
    have := h.len
    omega
  · simp [hAt, Nat.not_lt.mp hk]
theorem cl_sq {b : Bool} {ds : List D} (h1 : ds.length ≤ LIM) (h2 : cls ds = true) : cl (sq b ds) = true := by cases b <;> simp [sq, cl, h1, h2]
theorem cls_map {α : Type} {f : α → D} : ∀ {xs : List α}, (∀ x ∈ xs, cl (f x) = true) → cls (xs.map f) = true
  | [], _ => rfl
  | x :: xs, h => by simp only [List.map_cons, cls, h x List.mem_cons_self, cls_map fun y hy => h y (List.mem_cons_of_mem _ hy), Bool.and_self]
theorem cl_wr {b : Bool} (w : Wr) : cl (wrE b w) = true := cl_sq (by simp [LIM]) rfl
theorem cl_row {b : Bool} {r : Row} (h : r.ws.length ≤ LIM) : cl (rowE b r) = true := cl_sq (by simp [LIM]) (by simp only [cls, cl, Bool.true_and, Bool.and_true]; exact cl_sq (by simpa using h) (cls_map fun w _ => cl_wr w))
theorem cl_log {b : Bool} {L : List Row} (h : L.length ≤ LIM) (hw : ∀ r ∈ L, wsOk r) : cl (logE b L) = true := cl_sq (by simpa using h) (cls_map fun r hr => cl_row (Nat.le_trans (hw r hr).1 (by decide)))
theorem dep_row {b : Bool} {r : Row} : dep (rowE b r) ≤ 3 := by
  rw [rowE, dep_sq]
  simp only [deps, dep]
  rw [dep_sq]
  have := deps_map (f := wrE b) (n := 1) (xs := r.ws) fun w _ => dep_wr
  omega
theorem dep_log {b : Bool} {L : List Row} : dep (logE b L) ≤ 4 := by
  rw [logE, dep_sq]
  have := deps_map (f := rowE b) (n := 3) (xs := L) fun w _ => dep_row
  omega
theorem so_row {b : Bool} {r : Row} (h : wsOk r) : so (rowE b r) = true := by
  rw [rowE, so_sq]
  simp only [sos, so, so_sq, Bool.true_and, Bool.and_true]
  exact sos_map fun w hw => so_wr (h.2 w hw)
theorem toL_sq {b : Bool} {ds : List D} : toL (sq b ds) = sq false (ds.map toL) := by cases b <;> simp [sq, toL, toLs_map]
theorem toL_log {b : Bool} {L : List Row} : toL (logE b L) = logE false L := by
  have hw : ∀ w : Wr, toL (wrE b w) = wrE false w := fun w => by rw [wrE, toL_sq]; rfl
  have hr : ∀ r : Row, toL (rowE b r) = rowE false r := fun r => by
    rw [rowE, toL_sq, List.map_cons, List.map_cons, List.map_cons, List.map_nil, toL_sq, List.map_map, show (toL ∘ wrE b) = wrE false from funext hw]
    rfl
  rw [logE, toL_sq, List.map_map, show (toL ∘ rowE b) = rowE false from funext hr]
  rfl
theorem ne_soft {L : List Row} {S : Sto} (hw : ∀ r ∈ L, wsOk r) : opNe (logE false L) (logE false L) S = some (.bl false, S) := by
  have h1 : sos (L.map (rowE false)) = true := sos_map fun r hr => so_row (hw r hr)
  have h2 : deps (L.map (rowE false)) ≤ 63 := Nat.le_trans (deps_map (n := 3) fun r _ => dep_row) (by decide)
  exact opNe_self h1 h2
/-! ### lists of ours -/
theorem cl_ints {xs : List Int} {q : LK} (h : q ≠ .ext) (hl : xs.length ≤ LIM) : cl (.lst q (xs.map .int)) = true := by
  have := cls_map (f := D.int) (xs := xs) fun _ _ => rfl
  cases q <;> simp [cl, this, hl] at h ⊢
theorem cl_pairs {xs : List (Int × Int)} {q : LK} (h : q ≠ .ext) (hl : xs.length ≤ LIM) : cl (.lst q (xs.map dP)) = true := by
  have := cls_map (f := dP) (xs := xs) fun p _ => (by simp [dP, cl, cls, LIM])
  cases q <;> simp [cl, this, hl] at h ⊢
theorem deps_ints {xs : List Int} : deps (xs.map .int) = 0 := Nat.le_zero.mp (deps_map fun _ _ => Nat.le_refl _)
theorem deps_pairs {xs : List (Int × Int)} : deps (xs.map dP) ≤ 1 := deps_map fun _ _ => (by simp [dP, dep, deps])
theorem rsW_ref {S : Sto} {i n : Nat} {ds : List D} (h : S[i]? = some (.lst ds)) (hp : pls ds = true) : cellR S .bor true (n + 1) i = some (.lst .bor ds) := by
  simp only [cellR, h, rssW_pl hp]
/-- a call on data with cells in it -/
theorem W_callL {m : OpN} {ds es : List D} {S : Sto} {d e : D} {Sc : Sto} (hp : lend S ds = some es) (h : m es [] = some (d, Sc)) (hf : frz Sc d = some e) : callP false m ds S = some (e, S) := by
  unfold callP
  simp only [hp, h, hf]
theorem clashF_len {L : List Row} (hl : L.length ≤ 100) : (clashF L).length ≤ 10000 := by
  have h1 : ∀ l, l < L.length → (clashAt L l).length ≤ 100 := fun l h => by
    unfold clashAt
    refine Nat.le_trans (List.length_filterMap_le _ _) ?_
    rw [List.length_range]; omega
  have h2 : ∀ n, n ≤ L.length → ((List.range n).flatMap (clashAt L)).length ≤ 100 * n := fun n => by
    induction n with
    | zero => intro _; simp
    | succ n ih =>
      intro h
      rw [range_flat, List.length_append]
      have := ih (by omega)
      have := h1 n h
      omega
  have := h2 L.length (Nat.le_refl _)
  unfold clashF
  omega
theorem crossF_len {L : List Row} (hl : L.length ≤ 100) : (crossF L).length ≤ 10000 := by
  rw [cross_clash, (sortP_perm _).length_eq]; exact clashF_len hl
theorem writersF_len {L : List Row} {ks : List Str} : (writersF L ks).length ≤ L.length := by
  unfold writersF
  refine Nat.le_trans (List.length_filterMap_le _ _) (by simp)
/-! ### a law's own walk -/
def RightS (right : OpN) (cost : Nat) : Prop := ∀ (S : Sto) (i n : Nat), Bx S i (n + cost) → W (right [.ref i] S) fun d S' => d = .bl true ∧ Bx S' i n
def lawSem (most turns : Int) (cells box right : OpN) : SemS := (sSeq (sAsg (gV 1) (eCall (callP false cells) 2 0 2 [] [0, 1] (aCons (eVar 0) (aCons (eC (D.int most)) aNil)) aNil)) (sSeq (sFor (iRange1 (aCons (eArgs bLen (aCons (eVar 1) aNil)) aNil)) (gV 2) (sSeq (sAsg (gV 3) (eCall (callP true box) 2 0 2 [] [0, 1] (aCons (eVar 1) (aCons (eVar 2) aNil)) aNil)) (sIf (AW.tNot (tVal (eArgs bAll (aCons (eComp false (iRange1 (aCons (eC (D.int turns)) aNil)) (gV 4) tTrue (eCall right 1 0 1 [] [0] (aCons (eVar 3) aNil) aNil) [4]) aNil)))) (sRet (eC (D.bl false))) sNx))) (sRet (eC (D.bl true)))))
theorem law_run {most turns cost : Nat} {cells box right : OpN} (hc : cells = body 6 cellsSem) (hb : box = body 3 boxSem) (hr : RightS right cost) (h0 : 0 < most) (hm : most ≤ 63) (ht : turns ≤ 1000) (hcost : cost * turns ≤ 4611686018427387904) {ns : List Int} (hn : ns.length ≤ 63) :
    ∃ S', body 5 (lawSem most turns cells box right) [script ns] [] = some (.bl true, S') := by
  have key : W (body 5 (lawSem most turns cells box right) [script ns] []) fun d S => d = .bl true := by
    unfold lawSem
    simp only [W_body, W_sSeq, W_sNx, W_sBk, W_sCt, W_sExpr, W_sRet, W_sRetN, W_sIf, W_sAsg, W_sPar, W_sAug, W_eC, W_eVar, W_eBin, W_eUn, W_eArgs, W_aNil, W_aCons, W_eAnd, W_eOr, W_eNot, W_eIf, W_eChain, W_tVal, W_tBl, W_tAnd, W_tOr, W_tNot, W_tTrue, W_oNone, W_oSome, W_eSl, W_eRev, W_eMethL, W_eCall, W_iSeq, W_iRange1, W_iRange2, W_iEnumS, W_iZipS, W_sFor, W_eComp, W_lcStep, W_gV, W_gUnpackVV, W_newF, W_newT, W_some,
 kBody_rt, kBody_nx, kSeq_nx, kSeq_rt, kSeq_bk, kSeq_ct, kExp_, kRet_, kIf_t, kIf_f, kAsg_V, kPar_, kAug_, kB1_, kB2_, kU_, kN_, kC1_, kC2_, kAnd_T, kAnd_F, kOr_T, kOr_F, kNot_B, kCh1_, kCh2_, kCh3_t, kCh3_f, kTV_B, kTB_B, kTA_t, kTA_f, kTO_t, kTO_f, kTN_, kOS_, kSl1_, kSl2_, kSl3_, kM2_, kK1_, kK2_, kSq_tup, kSq_lst, kSq_str, kEn_tup, kEn_lst, kZp_tup, kZp_lst, kFor_, kTurn_nx, kTurn_ct, kTurn_bk, kTurn_rt, kComp_, kLcT_t, kLcT_f,
 setAll, wipeE, pick, List.getElem?_cons_zero, List.getElem?_cons_succ, List.set_cons_zero, List.set_cons_succ, List.map_cons, List.map_nil, List.replicate_succ, List.replicate_zero, List.cons_append, List.nil_append, List.append_nil, List.length_cons, List.length_nil, List.filterMap_cons, List.filterMap_nil,
 Nat.reduceAdd, Nat.reduceSub, Nat.reduceLeDiff, Nat.reduceEqDiff, and_self, if_true, if_false, opAdd_int, opSub_int, opGt_int, opLt_int, opGe_int, opLe_int, opEq_int, opEq_str, opEq_bl, opNe_int, opNe_bl, opNe_str, bInt_int, bInt_bl, bAbs_int, truD_bl, truD_int, W_fLst, W_fTup, pow18, bLen_tup, bLen_lst, bTuple_lst, bTuple_tup, bList_lst, bList_tup]
    rw [hc]
    refine cells_ok h0 hm hn fun cs c0 c1 => ?_
    simp only [W_body, W_sSeq, W_sNx, W_sBk, W_sCt, W_sExpr, W_sRet, W_sRetN, W_sIf, W_sAsg, W_sPar, W_sAug, W_eC, W_eVar, W_eBin, W_eUn, W_eArgs, W_aNil, W_aCons, W_eAnd, W_eOr, W_eNot, W_eIf, W_eChain, W_tVal, W_tBl, W_tAnd, W_tOr, W_tNot, W_tTrue, W_oNone, W_oSome, W_eSl, W_eRev, W_eMethL, W_eCall, W_iSeq, W_iRange1, W_iRange2, W_iEnumS, W_iZipS, W_sFor, W_eComp, W_lcStep, W_gV, W_gUnpackVV, W_newF, W_newT, W_some,
 kBody_rt, kBody_nx, kSeq_nx, kSeq_rt, kSeq_bk, kSeq_ct, kExp_, kRet_, kIf_t, kIf_f, kAsg_V, kPar_, kAug_, kB1_, kB2_, kU_, kN_, kC1_, kC2_, kAnd_T, kAnd_F, kOr_T, kOr_F, kNot_B, kCh1_, kCh2_, kCh3_t, kCh3_f, kTV_B, kTB_B, kTA_t, kTA_f, kTO_t, kTO_f, kTN_, kOS_, kSl1_, kSl2_, kSl3_, kM2_, kK1_, kK2_, kSq_tup, kSq_lst, kSq_str, kEn_tup, kEn_lst, kZp_tup, kZp_lst, kFor_, kTurn_nx, kTurn_ct, kTurn_bk, kTurn_rt, kComp_, kLcT_t, kLcT_f,
 setAll, wipeE, pick, List.getElem?_cons_zero, List.getElem?_cons_succ, List.set_cons_zero, List.set_cons_succ, List.map_cons, List.map_nil, List.replicate_succ, List.replicate_zero, List.cons_append, List.nil_append, List.append_nil, List.length_cons, List.length_nil, List.filterMap_cons, List.filterMap_nil,
 Nat.reduceAdd, Nat.reduceSub, Nat.reduceLeDiff, Nat.reduceEqDiff, and_self, if_true, if_false, opAdd_int, opSub_int, opGt_int, opLt_int, opGe_int, opLe_int, opEq_int, opEq_str, opEq_bl, opNe_int, opNe_bl, opNe_str, bInt_int, bInt_bl, bAbs_int, truD_bl, truD_int, W_fLst, W_fTup, pow18, bLen_tup, bLen_lst, bTuple_lst, bTuple_tup, bList_lst, bList_tup, List.length_map]
    rw [kR1_ (by omega)]
    simp only [W_body, W_sSeq, W_sNx, W_sBk, W_sCt, W_sExpr, W_sRet, W_sRetN, W_sIf, W_sAsg, W_sPar, W_sAug, W_eC, W_eVar, W_eBin, W_eUn, W_eArgs, W_aNil, W_aCons, W_eAnd, W_eOr, W_eNot, W_eIf, W_eChain, W_tVal, W_tBl, W_tAnd, W_tOr, W_tNot, W_tTrue, W_oNone, W_oSome, W_eSl, W_eRev, W_eMethL, W_eCall, W_iSeq, W_iRange1, W_iRange2, W_iEnumS, W_iZipS, W_sFor, W_eComp, W_lcStep, W_gV, W_gUnpackVV, W_newF, W_newT, W_some,
 kBody_rt, kBody_nx, kSeq_nx, kSeq_rt, kSeq_bk, kSeq_ct, kExp_, kRet_, kIf_t, kIf_f, kAsg_V, kPar_, kAug_, kB1_, kB2_, kU_, kN_, kC1_, kC2_, kAnd_T, kAnd_F, kOr_T, kOr_F, kNot_B, kCh1_, kCh2_, kCh3_t, kCh3_f, kTV_B, kTB_B, kTA_t, kTA_f, kTO_t, kTO_f, kTN_, kOS_, kSl1_, kSl2_, kSl3_, kM2_, kK1_, kK2_, kSq_tup, kSq_lst, kSq_str, kEn_tup, kEn_lst, kZp_tup, kZp_lst, kFor_, kTurn_nx, kTurn_ct, kTurn_bk, kTurn_rt, kComp_, kLcT_t, kLcT_f,
 setAll, wipeE, pick, List.getElem?_cons_zero, List.getElem?_cons_succ, List.set_cons_zero, List.set_cons_succ, List.map_cons, List.map_nil, List.replicate_succ, List.replicate_zero, List.cons_append, List.nil_append, List.append_nil, List.length_cons, List.length_nil, List.filterMap_cons, List.filterMap_nil,
 Nat.reduceAdd, Nat.reduceSub, Nat.reduceLeDiff, Nat.reduceEqDiff, and_self, if_true, if_false, opAdd_int, opSub_int, opGt_int, opLt_int, opGe_int, opLe_int, opEq_int, opEq_str, opEq_bl, opNe_int, opNe_bl, opNe_str, bInt_int, bInt_bl, bAbs_int, truD_bl, truD_int, W_fLst, W_fTup, pow18, bLen_tup, bLen_lst, bTuple_lst, bTuple_tup, bList_lst, bList_tup]
    refine W_forK (fun k E S => ∃ x y : Option D, E = [some (script ns), some (.lst .frz (cs.map .int)), x, y, none]) (fun _ => rfl) ?_ ?_ ⟨none, none, rfl⟩
    · rintro E S ⟨x, y, rfl⟩
      simp only [W_body, W_sSeq, W_sNx, W_sBk, W_sCt, W_sExpr, W_sRet, W_sRetN, W_sIf, W_sAsg, W_sPar, W_sAug, W_eC, W_eVar, W_eBin, W_eUn, W_eArgs, W_aNil, W_aCons, W_eAnd, W_eOr, W_eNot, W_eIf, W_eChain, W_tVal, W_tBl, W_tAnd, W_tOr, W_tNot, W_tTrue, W_oNone, W_oSome, W_eSl, W_eRev, W_eMethL, W_eCall, W_iSeq, W_iRange1, W_iRange2, W_iEnumS, W_iZipS, W_sFor, W_eComp, W_lcStep, W_gV, W_gUnpackVV, W_newF, W_newT, W_some,
 kBody_rt, kBody_nx, kSeq_nx, kSeq_rt, kSeq_bk, kSeq_ct, kExp_, kRet_, kIf_t, kIf_f, kAsg_V, kPar_, kAug_, kB1_, kB2_, kU_, kN_, kC1_, kC2_, kAnd_T, kAnd_F, kOr_T, kOr_F, kNot_B, kCh1_, kCh2_, kCh3_t, kCh3_f, kTV_B, kTB_B, kTA_t, kTA_f, kTO_t, kTO_f, kTN_, kOS_, kSl1_, kSl2_, kSl3_, kM2_, kK1_, kK2_, kSq_tup, kSq_lst, kSq_str, kEn_tup, kEn_lst, kZp_tup, kZp_lst, kFor_, kTurn_nx, kTurn_ct, kTurn_bk, kTurn_rt, kComp_, kLcT_t, kLcT_f,
 setAll, wipeE, pick, List.getElem?_cons_zero, List.getElem?_cons_succ, List.set_cons_zero, List.set_cons_succ, List.map_cons, List.map_nil, List.replicate_succ, List.replicate_zero, List.cons_append, List.nil_append, List.append_nil, List.length_cons, List.length_nil, List.filterMap_cons, List.filterMap_nil,
 Nat.reduceAdd, Nat.reduceSub, Nat.reduceLeDiff, Nat.reduceEqDiff, and_self, if_true, if_false, opAdd_int, opSub_int, opGt_int, opLt_int, opGe_int, opLe_int, opEq_int, opEq_str, opEq_bl, opNe_int, opNe_bl, opNe_str, bInt_int, bInt_bl, bAbs_int, truD_bl, truD_int, W_fLst, W_fTup, pow18, bLen_tup, bLen_lst, bTuple_lst, bTuple_tup, bList_lst, bList_tup]
    · rintro k hk E S ⟨x, y, rfl⟩
      rw [rangeD_len, Int.toNat_natCast] at hk
      rw [rangeD_at, Int.zero_add]
      simp only [W_body, W_sSeq, W_sNx, W_sBk, W_sCt, W_sExpr, W_sRet, W_sRetN, W_sIf, W_sAsg, W_sPar, W_sAug, W_eC, W_eVar, W_eBin, W_eUn, W_eArgs, W_aNil, W_aCons, W_eAnd, W_eOr, W_eNot, W_eIf, W_eChain, W_tVal, W_tBl, W_tAnd, W_tOr, W_tNot, W_tTrue, W_oNone, W_oSome, W_eSl, W_eRev, W_eMethL, W_eCall, W_iSeq, W_iRange1, W_iRange2, W_iEnumS, W_iZipS, W_sFor, W_eComp, W_lcStep, W_gV, W_gUnpackVV, W_newF, W_newT, W_some,
 kBody_rt, kBody_nx, kSeq_nx, kSeq_rt, kSeq_bk, kSeq_ct, kExp_, kRet_, kIf_t, kIf_f, kAsg_V, kPar_, kAug_, kB1_, kB2_, kU_, kN_, kC1_, kC2_, kAnd_T, kAnd_F, kOr_T, kOr_F, kNot_B, kCh1_, kCh2_, kCh3_t, kCh3_f, kTV_B, kTB_B, kTA_t, kTA_f, kTO_t, kTO_f, kTN_, kOS_, kSl1_, kSl2_, kSl3_, kM2_, kK1_, kK2_, kSq_tup, kSq_lst, kSq_str, kEn_tup, kEn_lst, kZp_tup, kZp_lst, kFor_, kTurn_nx, kTurn_ct, kTurn_bk, kTurn_rt, kComp_, kLcT_t, kLcT_f,
 setAll, wipeE, pick, List.getElem?_cons_zero, List.getElem?_cons_succ, List.set_cons_zero, List.set_cons_succ, List.map_cons, List.map_nil, List.replicate_succ, List.replicate_zero, List.cons_append, List.nil_append, List.append_nil, List.length_cons, List.length_nil, List.filterMap_cons, List.filterMap_nil,
 Nat.reduceAdd, Nat.reduceSub, Nat.reduceLeDiff, Nat.reduceEqDiff, and_self, if_true, if_false, opAdd_int, opSub_int, opGt_int, opLt_int, opGe_int, opLe_int, opEq_int, opEq_str, opEq_bl, opNe_int, opNe_bl, opNe_str, bInt_int, bInt_bl, bAbs_int, truD_bl, truD_int, W_fLst, W_fTup, pow18, bLen_tup, bLen_lst, bTuple_lst, bTuple_tup, bList_lst, bList_tup]
      rw [hb]
      refine box_ok (n := cost * turns) hk (by omega) (Nat.le_trans c1 (Nat.le_trans hm (by decide))) hcost fun a b => ?_
      simp only [W_body, W_sSeq, W_sNx, W_sBk, W_sCt, W_sExpr, W_sRet, W_sRetN, W_sIf, W_sAsg, W_sPar, W_sAug, W_eC, W_eVar, W_eBin, W_eUn, W_eArgs, W_aNil, W_aCons, W_eAnd, W_eOr, W_eNot, W_eIf, W_eChain, W_tVal, W_tBl, W_tAnd, W_tOr, W_tNot, W_tTrue, W_oNone, W_oSome, W_eSl, W_eRev, W_eMethL, W_eCall, W_iSeq, W_iRange1, W_iRange2, W_iEnumS, W_iZipS, W_sFor, W_eComp, W_lcStep, W_gV, W_gUnpackVV, W_newF, W_newT, W_some,
 kBody_rt, kBody_nx, kSeq_nx, kSeq_rt, kSeq_bk, kSeq_ct, kExp_, kRet_, kIf_t, kIf_f, kAsg_V, kPar_, kAug_, kB1_, kB2_, kU_, kN_, kC1_, kC2_, kAnd_T, kAnd_F, kOr_T, kOr_F, kNot_B, kCh1_, kCh2_, kCh3_t, kCh3_f, kTV_B, kTB_B, kTA_t, kTA_f, kTO_t, kTO_f, kTN_, kOS_, kSl1_, kSl2_, kSl3_, kM2_, kK1_, kK2_, kSq_tup, kSq_lst, kSq_str, kEn_tup, kEn_lst, kZp_tup, kZp_lst, kFor_, kTurn_nx, kTurn_ct, kTurn_bk, kTurn_rt, kComp_, kLcT_t, kLcT_f,
 setAll, wipeE, pick, List.getElem?_cons_zero, List.getElem?_cons_succ, List.set_cons_zero, List.set_cons_succ, List.map_cons, List.map_nil, List.replicate_succ, List.replicate_zero, List.cons_append, List.nil_append, List.append_nil, List.length_cons, List.length_nil, List.filterMap_cons, List.filterMap_nil,
 Nat.reduceAdd, Nat.reduceSub, Nat.reduceLeDiff, Nat.reduceEqDiff, and_self, if_true, if_false, opAdd_int, opSub_int, opGt_int, opLt_int, opGe_int, opLe_int, opEq_int, opEq_str, opEq_bl, opNe_int, opNe_bl, opNe_str, bInt_int, bInt_bl, bAbs_int, truD_bl, truD_int, W_fLst, W_fTup, pow18, bLen_tup, bLen_lst, bTuple_lst, bTuple_tup, bList_lst, bList_tup]
      rw [kR1_ (by omega)]
      simp only [W_body, W_sSeq, W_sNx, W_sBk, W_sCt, W_sExpr, W_sRet, W_sRetN, W_sIf, W_sAsg, W_sPar, W_sAug, W_eC, W_eVar, W_eBin, W_eUn, W_eArgs, W_aNil, W_aCons, W_eAnd, W_eOr, W_eNot, W_eIf, W_eChain, W_tVal, W_tBl, W_tAnd, W_tOr, W_tNot, W_tTrue, W_oNone, W_oSome, W_eSl, W_eRev, W_eMethL, W_eCall, W_iSeq, W_iRange1, W_iRange2, W_iEnumS, W_iZipS, W_sFor, W_eComp, W_lcStep, W_gV, W_gUnpackVV, W_newF, W_newT, W_some,
 kBody_rt, kBody_nx, kSeq_nx, kSeq_rt, kSeq_bk, kSeq_ct, kExp_, kRet_, kIf_t, kIf_f, kAsg_V, kPar_, kAug_, kB1_, kB2_, kU_, kN_, kC1_, kC2_, kAnd_T, kAnd_F, kOr_T, kOr_F, kNot_B, kCh1_, kCh2_, kCh3_t, kCh3_f, kTV_B, kTB_B, kTA_t, kTA_f, kTO_t, kTO_f, kTN_, kOS_, kSl1_, kSl2_, kSl3_, kM2_, kK1_, kK2_, kSq_tup, kSq_lst, kSq_str, kEn_tup, kEn_lst, kZp_tup, kZp_lst, kFor_, kTurn_nx, kTurn_ct, kTurn_bk, kTurn_rt, kComp_, kLcT_t, kLcT_f,
 setAll, wipeE, pick, List.getElem?_cons_zero, List.getElem?_cons_succ, List.set_cons_zero, List.set_cons_succ, List.map_cons, List.map_nil, List.replicate_succ, List.replicate_zero, List.cons_append, List.nil_append, List.append_nil, List.length_cons, List.length_nil, List.filterMap_cons, List.filterMap_nil,
 Nat.reduceAdd, Nat.reduceSub, Nat.reduceLeDiff, Nat.reduceEqDiff, and_self, if_true, if_false, opAdd_int, opSub_int, opGt_int, opLt_int, opGe_int, opLe_int, opEq_int, opEq_str, opEq_bl, opNe_int, opNe_bl, opNe_str, bInt_int, bInt_bl, bAbs_int, truD_bl, truD_int, W_fLst, W_fTup, pow18, bLen_tup, bLen_lst, bTuple_lst, bTuple_tup, bList_lst, bList_tup, rangeD_len, Int.toNat_natCast]
      refine ⟨Nat.le_trans ht (by decide), ?_⟩
      refine W_lcK (fun j acc S' => acc = List.replicate j (D.bl true) ∧ Bx S' S.length (cost * (turns - j))) (fun _ => rfl) ?_ ?_ ⟨rfl, a, b, 0, setLen, by omega, by rw [Nat.sub_zero, Int.zero_add]; exact Int.ofNat_le.mpr hcost⟩
      · rintro acc S' ⟨rfl, _⟩
        rw [bAll_rep]
        simp only [W_body, W_sSeq, W_sNx, W_sBk, W_sCt, W_sExpr, W_sRet, W_sRetN, W_sIf, W_sAsg, W_sPar, W_sAug, W_eC, W_eVar, W_eBin, W_eUn, W_eArgs, W_aNil, W_aCons, W_eAnd, W_eOr, W_eNot, W_eIf, W_eChain, W_tVal, W_tBl, W_tAnd, W_tOr, W_tNot, W_tTrue, W_oNone, W_oSome, W_eSl, W_eRev, W_eMethL, W_eCall, W_iSeq, W_iRange1, W_iRange2, W_iEnumS, W_iZipS, W_sFor, W_eComp, W_lcStep, W_gV, W_gUnpackVV, W_newF, W_newT, W_some,
 kBody_rt, kBody_nx, kSeq_nx, kSeq_rt, kSeq_bk, kSeq_ct, kExp_, kRet_, kIf_t, kIf_f, kAsg_V, kPar_, kAug_, kB1_, kB2_, kU_, kN_, kC1_, kC2_, kAnd_T, kAnd_F, kOr_T, kOr_F, kNot_B, kCh1_, kCh2_, kCh3_t, kCh3_f, kTV_B, kTB_B, kTA_t, kTA_f, kTO_t, kTO_f, kTN_, kOS_, kSl1_, kSl2_, kSl3_, kM2_, kK1_, kK2_, kSq_tup, kSq_lst, kSq_str, kEn_tup, kEn_lst, kZp_tup, kZp_lst, kFor_, kTurn_nx, kTurn_ct, kTurn_bk, kTurn_rt, kComp_, kLcT_t, kLcT_f,
 setAll, wipeE, pick, List.getElem?_cons_zero, List.getElem?_cons_succ, List.set_cons_zero, List.set_cons_succ, List.map_cons, List.map_nil, List.replicate_succ, List.replicate_zero, List.cons_append, List.nil_append, List.append_nil, List.length_cons, List.length_nil, List.filterMap_cons, List.filterMap_nil,
 Nat.reduceAdd, Nat.reduceSub, Nat.reduceLeDiff, Nat.reduceEqDiff, and_self, if_true, if_false, opAdd_int, opSub_int, opGt_int, opLt_int, opGe_int, opLe_int, opEq_int, opEq_str, opEq_bl, opNe_int, opNe_bl, opNe_str, bInt_int, bInt_bl, bAbs_int, truD_bl, truD_int, W_fLst, W_fTup, pow18, bLen_tup, bLen_lst, bTuple_lst, bTuple_tup, bList_lst, bList_tup, Bool.not_true]
        exact ⟨_, _, rfl⟩
      · rintro j hj acc S' ⟨rfl, hB⟩
        rw [rangeD_len] at hj
        simp only [W_body, W_sSeq, W_sNx, W_sBk, W_sCt, W_sExpr, W_sRet, W_sRetN, W_sIf, W_sAsg, W_sPar, W_sAug, W_eC, W_eVar, W_eBin, W_eUn, W_eArgs, W_aNil, W_aCons, W_eAnd, W_eOr, W_eNot, W_eIf, W_eChain, W_tVal, W_tBl, W_tAnd, W_tOr, W_tNot, W_tTrue, W_oNone, W_oSome, W_eSl, W_eRev, W_eMethL, W_eCall, W_iSeq, W_iRange1, W_iRange2, W_iEnumS, W_iZipS, W_sFor, W_eComp, W_lcStep, W_gV, W_gUnpackVV, W_newF, W_newT, W_some,
 kBody_rt, kBody_nx, kSeq_nx, kSeq_rt, kSeq_bk, kSeq_ct, kExp_, kRet_, kIf_t, kIf_f, kAsg_V, kPar_, kAug_, kB1_, kB2_, kU_, kN_, kC1_, kC2_, kAnd_T, kAnd_F, kOr_T, kOr_F, kNot_B, kCh1_, kCh2_, kCh3_t, kCh3_f, kTV_B, kTB_B, kTA_t, kTA_f, kTO_t, kTO_f, kTN_, kOS_, kSl1_, kSl2_, kSl3_, kM2_, kK1_, kK2_, kSq_tup, kSq_lst, kSq_str, kEn_tup, kEn_lst, kZp_tup, kZp_lst, kFor_, kTurn_nx, kTurn_ct, kTurn_bk, kTurn_rt, kComp_, kLcT_t, kLcT_f,
 setAll, wipeE, pick, List.getElem?_cons_zero, List.getElem?_cons_succ, List.set_cons_zero, List.set_cons_succ, List.map_cons, List.map_nil, List.replicate_succ, List.replicate_zero, List.cons_append, List.nil_append, List.append_nil, List.length_cons, List.length_nil, List.filterMap_cons, List.filterMap_nil,
 Nat.reduceAdd, Nat.reduceSub, Nat.reduceLeDiff, Nat.reduceEqDiff, and_self, if_true, if_false, opAdd_int, opSub_int, opGt_int, opLt_int, opGe_int, opLe_int, opEq_int, opEq_str, opEq_bl, opNe_int, opNe_bl, opNe_str, bInt_int, bInt_bl, bAbs_int, truD_bl, truD_int, W_fLst, W_fTup, pow18, bLen_tup, bLen_lst, bTuple_lst, bTuple_tup, bList_lst, bList_tup]
        have e : cost * (turns - j) = cost * (turns - (j + 1)) + cost := by rw [show turns - j = turns - (j + 1) + 1 by omega, Nat.mul_succ]
        rw [e] at hB
        refine (hr _ _ _ hB).mono fun d S2 ⟨h1, h2⟩ => ?_
        subst h1
        exact ⟨by rw [← List.replicate_succ, List.replicate_succ'], h2⟩
  obtain ⟨d, S, e, rfl⟩ := key
  exact ⟨S, e⟩
end AW

namespace AW
open PySem PySem.Spec PyProof.Rows L2

/-! ### numbers, rows, records -/
def isNum : D → Bool
  | .int _ => true
  | _ => false
def isnumSem : SemS := (sRet (eAnd (eUn (opIsi [Ty.int]) (eVar 0)) (eNot (eUn (opIsi [Ty.bl]) (eVar 0)))))
theorem isnum_run {isnum : OpN} (h : isnum = body 1 isnumSem) {d : D} {S : Sto} (hc : cl d = true) : callP false isnum [d] S = some (.bl (isNum d), S) := by
  rw [h]
  refine W_callE (d := .bl (isNum d)) (Sc := []) (by simp only [pls, cl_pl hc, Bool.and_self]) (W_get ?_) rfl
  unfold isnumSem
  cases d with
  | ref i => cases hc
  | lst q ds =>
    cases q with
    | ext => cases hc
    | frz => simp only [isi_non, isi_bl, isi_int, isi_str, isi_tup, isi_frz, isi_bor, List.any_cons, List.any_nil, isTy, reduceCtorEq, decide_true, decide_false, Bool.or_false, Bool.or_true, Bool.true_or, Bool.false_or, Bool.not_true, Bool.not_false, W_body, W_sSeq, W_sNx, W_sBk, W_sCt, W_sExpr, W_sRet, W_sRetN, W_sIf, W_sAsg, W_sPar, W_sAug, W_eC, W_eVar, W_eBin, W_eUn, W_eArgs, W_aNil, W_aCons, W_eAnd, W_eOr, W_eNot, W_eIf, W_eChain, W_tVal, W_tBl, W_tAnd, W_tOr, W_tNot, W_tTrue, W_oNone, W_oSome, W_eSl, W_eRev, W_eMethL, W_eCall, W_iSeq, W_iRange1, W_iRange2, W_iEnumS, W_iZipS, W_sFor, W_eComp, W_lcStep, W_gV, W_gUnpackVV, W_newF, W_newT, W_some,
 kBody_rt, kBody_nx, kSeq_nx, kSeq_rt, kSeq_bk, kSeq_ct, kExp_, kRet_, kIf_t, kIf_f, kAsg_V, kPar_, kAug_, kB1_, kB2_, kU_, kN_, kC1_, kC2_, kAnd_T, kAnd_F, kOr_T, kOr_F, kNot_B, kCh1_, kCh2_, kCh3_t, kCh3_f, kTV_B, kTB_B, kTA_t, kTA_f, kTO_t, kTO_f, kTN_, kOS_, kSl1_, kSl2_, kSl3_, kM2_, kK1_, kK2_, kSq_tup, kSq_lst, kSq_str, kEn_tup, kEn_lst, kZp_tup, kZp_lst, kFor_, kTurn_nx, kTurn_ct, kTurn_bk, kTurn_rt, kComp_, kLcT_t, kLcT_f,
 setAll, wipeE, pick, List.getElem?_cons_zero, List.getElem?_cons_succ, List.set_cons_zero, List.set_cons_succ, List.map_cons, List.map_nil, List.replicate_succ, List.replicate_zero, List.cons_append, List.nil_append, List.append_nil, List.length_cons, List.length_nil, List.filterMap_cons, List.filterMap_nil,
 Nat.reduceAdd, Nat.reduceSub, Nat.reduceLeDiff, Nat.reduceEqDiff, and_self, if_true, if_false, opAdd_int, opSub_int, opGt_int, opLt_int, opGe_int, opLe_int, opEq_int, opEq_str, opEq_bl, opNe_int, opNe_bl, opNe_str, bInt_int, bInt_bl, bAbs_int, truD_bl, truD_int, W_fLst, W_fTup, pow18, bLen_tup, bLen_lst, bTuple_lst, bTuple_tup, bList_lst, bList_tup, isNum]
    | bor => simp only [isi_non, isi_bl, isi_int, isi_str, isi_tup, isi_frz, isi_bor, List.any_cons, List.any_nil, isTy, reduceCtorEq, decide_true, decide_false, Bool.or_false, Bool.or_true, Bool.true_or, Bool.false_or, Bool.not_true, Bool.not_false, W_body, W_sSeq, W_sNx, W_sBk, W_sCt, W_sExpr, W_sRet, W_sRetN, W_sIf, W_sAsg, W_sPar, W_sAug, W_eC, W_eVar, W_eBin, W_eUn, W_eArgs, W_aNil, W_aCons, W_eAnd, W_eOr, W_eNot, W_eIf, W_eChain, W_tVal, W_tBl, W_tAnd, W_tOr, W_tNot, W_tTrue, W_oNone, W_oSome, W_eSl, W_eRev, W_eMethL, W_eCall, W_iSeq, W_iRange1, W_iRange2, W_iEnumS, W_iZipS, W_sFor, W_eComp, W_lcStep, W_gV, W_gUnpackVV, W_newF, W_newT, W_some,
 kBody_rt, kBody_nx, kSeq_nx, kSeq_rt, kSeq_bk, kSeq_ct, kExp_, kRet_, kIf_t, kIf_f, kAsg_V, kPar_, kAug_, kB1_, kB2_, kU_, kN_, kC1_, kC2_, kAnd_T, kAnd_F, kOr_T, kOr_F, kNot_B, kCh1_, kCh2_, kCh3_t, kCh3_f, kTV_B, kTB_B, kTA_t, kTA_f, kTO_t, kTO_f, kTN_, kOS_, kSl1_, kSl2_, kSl3_, kM2_, kK1_, kK2_, kSq_tup, kSq_lst, kSq_str, kEn_tup, kEn_lst, kZp_tup, kZp_lst, kFor_, kTurn_nx, kTurn_ct, kTurn_bk, kTurn_rt, kComp_, kLcT_t, kLcT_f,
 setAll, wipeE, pick, List.getElem?_cons_zero, List.getElem?_cons_succ, List.set_cons_zero, List.set_cons_succ, List.map_cons, List.map_nil, List.replicate_succ, List.replicate_zero, List.cons_append, List.nil_append, List.append_nil, List.length_cons, List.length_nil, List.filterMap_cons, List.filterMap_nil,
 Nat.reduceAdd, Nat.reduceSub, Nat.reduceLeDiff, Nat.reduceEqDiff, and_self, if_true, if_false, opAdd_int, opSub_int, opGt_int, opLt_int, opGe_int, opLe_int, opEq_int, opEq_str, opEq_bl, opNe_int, opNe_bl, opNe_str, bInt_int, bInt_bl, bAbs_int, truD_bl, truD_int, W_fLst, W_fTup, pow18, bLen_tup, bLen_lst, bTuple_lst, bTuple_tup, bList_lst, bList_tup, isNum]
  | _ => simp only [isi_non, isi_bl, isi_int, isi_str, isi_tup, isi_frz, isi_bor, List.any_cons, List.any_nil, isTy, reduceCtorEq, decide_true, decide_false, Bool.or_false, Bool.or_true, Bool.true_or, Bool.false_or, Bool.not_true, Bool.not_false, W_body, W_sSeq, W_sNx, W_sBk, W_sCt, W_sExpr, W_sRet, W_sRetN, W_sIf, W_sAsg, W_sPar, W_sAug, W_eC, W_eVar, W_eBin, W_eUn, W_eArgs, W_aNil, W_aCons, W_eAnd, W_eOr, W_eNot, W_eIf, W_eChain, W_tVal, W_tBl, W_tAnd, W_tOr, W_tNot, W_tTrue, W_oNone, W_oSome, W_eSl, W_eRev, W_eMethL, W_eCall, W_iSeq, W_iRange1, W_iRange2, W_iEnumS, W_iZipS, W_sFor, W_eComp, W_lcStep, W_gV, W_gUnpackVV, W_newF, W_newT, W_some,
 kBody_rt, kBody_nx, kSeq_nx, kSeq_rt, kSeq_bk, kSeq_ct, kExp_, kRet_, kIf_t, kIf_f, kAsg_V, kPar_, kAug_, kB1_, kB2_, kU_, kN_, kC1_, kC2_, kAnd_T, kAnd_F, kOr_T, kOr_F, kNot_B, kCh1_, kCh2_, kCh3_t, kCh3_f, kTV_B, kTB_B, kTA_t, kTA_f, kTO_t, kTO_f, kTN_, kOS_, kSl1_, kSl2_, kSl3_, kM2_, kK1_, kK2_, kSq_tup, kSq_lst, kSq_str, kEn_tup, kEn_lst, kZp_tup, kZp_lst, kFor_, kTurn_nx, kTurn_ct, kTurn_bk, kTurn_rt, kComp_, kLcT_t, kLcT_f,
 setAll, wipeE, pick, List.getElem?_cons_zero, List.getElem?_cons_succ, List.set_cons_zero, List.set_cons_succ, List.map_cons, List.map_nil, List.replicate_succ, List.replicate_zero, List.cons_append, List.nil_append, List.append_nil, List.length_cons, List.length_nil, List.filterMap_cons, List.filterMap_nil,
 Nat.reduceAdd, Nat.reduceSub, Nat.reduceLeDiff, Nat.reduceEqDiff, and_self, if_true, if_false, opAdd_int, opSub_int, opGt_int, opLt_int, opGe_int, opLe_int, opEq_int, opEq_str, opEq_bl, opNe_int, opNe_bl, opNe_str, bInt_int, bInt_bl, bAbs_int, truD_bl, truD_int, W_fLst, W_fTup, pow18, bLen_tup, bLen_lst, bTuple_lst, bTuple_tup, bList_lst, bList_tup, isNum]
def cntD : D → Bool
  | .int i => decide (0 ≤ i)
  | _ => false
def iscountSem (isnum : OpN) : SemS := (sRet (eAnd (eCall (callP false isnum) 1 0 1 [] [0] (aCons (eVar 0) aNil) aNil) (eBin opGe (eVar 0) (eC (D.int 0)))))
theorem iscount_run {iscount isnum : OpN} (h : iscount = body 1 (iscountSem isnum)) (h0 : isnum = body 1 isnumSem) {d : D} {S : Sto} (hc : cl d = true) : callP false iscount [d] S = some (.bl (cntD d), S) := by
  have e := fun S => isnum_run h0 (d := d) (S := S) hc
  rw [h]
  refine W_callE (d := .bl (cntD d)) (Sc := []) (by simp only [pls, cl_pl hc, Bool.and_self]) (W_get ?_) rfl
  unfold iscountSem
  simp only [W_body, W_sSeq, W_sNx, W_sBk, W_sCt, W_sExpr, W_sRet, W_sRetN, W_sIf, W_sAsg, W_sPar, W_sAug, W_eC, W_eVar, W_eBin, W_eUn, W_eArgs, W_aNil, W_aCons, W_eAnd, W_eOr, W_eNot, W_eIf, W_eChain, W_tVal, W_tBl, W_tAnd, W_tOr, W_tNot, W_tTrue, W_oNone, W_oSome, W_eSl, W_eRev, W_eMethL, W_eCall, W_iSeq, W_iRange1, W_iRange2, W_iEnumS, W_iZipS, W_sFor, W_eComp, W_lcStep, W_gV, W_gUnpackVV, W_newF, W_newT, W_some,
 kBody_rt, kBody_nx, kSeq_nx, kSeq_rt, kSeq_bk, kSeq_ct, kExp_, kRet_, kIf_t, kIf_f, kAsg_V, kPar_, kAug_, kB1_, kB2_, kU_, kN_, kC1_, kC2_, kAnd_T, kAnd_F, kOr_T, kOr_F, kNot_B, kCh1_, kCh2_, kCh3_t, kCh3_f, kTV_B, kTB_B, kTA_t, kTA_f, kTO_t, kTO_f, kTN_, kOS_, kSl1_, kSl2_, kSl3_, kM2_, kK1_, kK2_, kSq_tup, kSq_lst, kSq_str, kEn_tup, kEn_lst, kZp_tup, kZp_lst, kFor_, kTurn_nx, kTurn_ct, kTurn_bk, kTurn_rt, kComp_, kLcT_t, kLcT_f,
 setAll, wipeE, pick, List.getElem?_cons_zero, List.getElem?_cons_succ, List.set_cons_zero, List.set_cons_succ, List.map_cons, List.map_nil, List.replicate_succ, List.replicate_zero, List.cons_append, List.nil_append, List.append_nil, List.length_cons, List.length_nil, List.filterMap_cons, List.filterMap_nil,
 Nat.reduceAdd, Nat.reduceSub, Nat.reduceLeDiff, Nat.reduceEqDiff, and_self, if_true, if_false, opAdd_int, opSub_int, opGt_int, opLt_int, opGe_int, opLe_int, opEq_int, opEq_str, opEq_bl, opNe_int, opNe_bl, opNe_str, bInt_int, bInt_bl, bAbs_int, truD_bl, truD_int, W_fLst, W_fTup, pow18, bLen_tup, bLen_lst, bTuple_lst, bTuple_tup, bList_lst, bList_tup, e]
  cases d <;> simp only [isNum, cntD, W_body, W_sSeq, W_sNx, W_sBk, W_sCt, W_sExpr, W_sRet, W_sRetN, W_sIf, W_sAsg, W_sPar, W_sAug, W_eC, W_eVar, W_eBin, W_eUn, W_eArgs, W_aNil, W_aCons, W_eAnd, W_eOr, W_eNot, W_eIf, W_eChain, W_tVal, W_tBl, W_tAnd, W_tOr, W_tNot, W_tTrue, W_oNone, W_oSome, W_eSl, W_eRev, W_eMethL, W_eCall, W_iSeq, W_iRange1, W_iRange2, W_iEnumS, W_iZipS, W_sFor, W_eComp, W_lcStep, W_gV, W_gUnpackVV, W_newF, W_newT, W_some,
 kBody_rt, kBody_nx, kSeq_nx, kSeq_rt, kSeq_bk, kSeq_ct, kExp_, kRet_, kIf_t, kIf_f, kAsg_V, kPar_, kAug_, kB1_, kB2_, kU_, kN_, kC1_, kC2_, kAnd_T, kAnd_F, kOr_T, kOr_F, kNot_B, kCh1_, kCh2_, kCh3_t, kCh3_f, kTV_B, kTB_B, kTA_t, kTA_f, kTO_t, kTO_f, kTN_, kOS_, kSl1_, kSl2_, kSl3_, kM2_, kK1_, kK2_, kSq_tup, kSq_lst, kSq_str, kEn_tup, kEn_lst, kZp_tup, kZp_lst, kFor_, kTurn_nx, kTurn_ct, kTurn_bk, kTurn_rt, kComp_, kLcT_t, kLcT_f,
 setAll, wipeE, pick, List.getElem?_cons_zero, List.getElem?_cons_succ, List.set_cons_zero, List.set_cons_succ, List.map_cons, List.map_nil, List.replicate_succ, List.replicate_zero, List.cons_append, List.nil_append, List.append_nil, List.length_cons, List.length_nil, List.filterMap_cons, List.filterMap_nil,
 Nat.reduceAdd, Nat.reduceSub, Nat.reduceLeDiff, Nat.reduceEqDiff, and_self, if_true, if_false, opAdd_int, opSub_int, opGt_int, opLt_int, opGe_int, opLe_int, opEq_int, opEq_str, opEq_bl, opNe_int, opNe_bl, opNe_str, bInt_int, bInt_bl, bAbs_int, truD_bl, truD_int, W_fLst, W_fTup, pow18, bLen_tup, bLen_lst, bTuple_lst, bTuple_tup, bList_lst, bList_tup]
/-- strictly rising -/
def inc : List Int → Bool
  | a :: b :: r => decide (a < b) && inc (b :: r)
  | _ => true
def rowI (n : Int) (ns : List Int) : Bool := (ns.all fun i => decide (0 ≤ i) && decide (i < n)) && inc ns
def rowD (n : Int) : D → Bool
  | .tup es => match intsOf es with | some ns => rowI n ns | none => false
  | _ => false
def cntLt (n : Int) : D → Bool
  | .int i => decide (0 ≤ i) && decide (i < n)
  | _ => false
theorem intsOf_eq : ∀ {es : List D} {ns : List Int}, intsOf es = some ns → es = ns.map .int
  | [], ns, h => by cases h; rfl
  | .int i :: es, ns, h => by
    simp only [intsOf] at h
    split at h
    · rename_i is e; cases h; rw [intsOf_eq e]; rfl
    · cases h
  | .non :: _, _, h => by cases h
  | .bl _ :: _, _, h => by cases h
  | .str _ :: _, _, h => by cases h
  | .tup _ :: _, _, h => by cases h
  | .lst _ _ :: _, _, h => by cases h
  | .ref _ :: _, _, h => by cases h
theorem cntLt_ints {n : Int} : ∀ {es : List D}, es.all (cntLt n) = true → ∃ ns, intsOf es = some ns
  | [], _ => ⟨[], rfl⟩
  | d :: es, h => by
    rw [List.all_cons, Bool.and_eq_true] at h
    obtain ⟨ns, e⟩ := cntLt_ints h.2
    cases d with
    | int i => exact ⟨i :: ns, by simp only [intsOf, e]⟩
    | _ => simp [cntLt] at h
theorem all_cntLt {n : Int} {ns : List Int} : (ns.map D.int).all (cntLt n) = ns.all fun i => decide (0 ≤ i) && decide (i < n) := by
  rw [List.all_map]; rfl
theorem row_all {n : Int} {es : List D} (h : es.all (cntLt n) = false) : rowD n (.tup es) = false := by
  simp only [rowD]
  split
  · rename_i ns e
    rw [intsOf_eq e, all_cntLt] at h
    rw [rowI, h]; rfl
  · rfl
theorem zipD_ints : ∀ (xs ys : List Int), zipD (xs.map .int) (ys.map .int) = (xs.zip ys).map fun p => D.tup [.int p.1, .int p.2]
  | [], _ => by simp [zipD]
  | _ :: _, [] => by simp [zipD]
  | x :: xs, y :: ys => by simp only [List.map_cons, zipD, zipD_ints xs ys, List.zip_cons_cons]
theorem inc_zip : ∀ ns : List Int, ((ns.zip (ns.drop 1)).map fun p => decide (p.1 < p.2)).all id = inc ns
  | [] => rfl
  | [_] => rfl
  | a :: b :: r => by
    have ih := inc_zip (b :: r)
    simp only [List.drop_succ_cons, List.drop_zero, List.zip_cons_cons, List.map_cons, List.all_cons, id, inc] at ih ⊢
    rw [ih]
def arenumsSem (iscount : OpN) : SemS := (sSeq (sIf (AW.tOr (AW.tNot (tVal (eUn (opIsi [Ty.tup]) (eVar 0)))) (AW.tNot (tVal (eArgs bAll (aCons (eComp false (iSeq (eVar 0)) (gV 2) tTrue (eAnd (eCall (callP false iscount) 1 0 1 [] [0] (aCons (eVar 2) aNil) aNil) (eBin opLt (eVar 2) (eVar 1))) [2]) aNil))))) (sRet (eC (D.bl false))) sNx) (sRet (eArgs bAll (aCons (eComp false (iZipS (aCons (eVar 0) (aCons (eSl (opSl false) (eVar 0) (oSome (eC (D.int 1))) oNone) aNil))) (gUnpack 2 (gsCons (gV 3) (gsCons (gV 4) gsNil))) tTrue (eBin opLt (eVar 3) (eVar 4)) [3, 4]) aNil))))
theorem opSl_drop1 {ds : List D} {S : Sto} : opSl false (.tup ds) (some 1) none S = some (.tup (ds.drop 1), S) := by
  simp only [opSl, cutD, HT.sIx_none]
  rw [show (1 : Int) = ((1 : Nat) : Int) from rfl, HT.sIx_nat]
  congr 3
  rw [List.take_of_length_le (by simp)]
  cases ds with
  | nil => rfl
  | cons d ds => rw [Nat.min_eq_left (by simp)]
theorem arenums_run {arenums iscount isnum : OpN} (h : arenums = body 5 (arenumsSem iscount)) (h1 : iscount = body 1 (iscountSem isnum)) (h0 : isnum = body 1 isnumSem) {d : D} {n : Int} {S : Sto} (hc : cl d = true) : callP false arenums [d, .int n] S = some (.bl (rowD n d), S) := by
  rw [h]
  refine W_callE (d := .bl (rowD n d)) (Sc := []) (by simp only [pls, pl, cl_pl hc, Bool.and_self]) (W_get ?_) rfl
  unfold arenumsSem
  cases d with
  | ref i => cases hc
  | lst q ds =>
    cases q with
    | ext => cases hc
    | frz => simp only [isi_non, isi_bl, isi_int, isi_str, isi_tup, isi_frz, isi_bor, List.any_cons, List.any_nil, isTy, reduceCtorEq, decide_true, decide_false, Bool.or_false, Bool.or_true, Bool.true_or, Bool.false_or, Bool.not_true, Bool.not_false, W_body, W_sSeq, W_sNx, W_sBk, W_sCt, W_sExpr, W_sRet, W_sRetN, W_sIf, W_sAsg, W_sPar, W_sAug, W_eC, W_eVar, W_eBin, W_eUn, W_eArgs, W_aNil, W_aCons, W_eAnd, W_eOr, W_eNot, W_eIf, W_eChain, W_tVal, W_tBl, W_tAnd, W_tOr, W_tNot, W_tTrue, W_oNone, W_oSome, W_eSl, W_eRev, W_eMethL, W_eCall, W_iSeq, W_iRange1, W_iRange2, W_iEnumS, W_iZipS, W_sFor, W_eComp, W_lcStep, W_gV, W_gUnpackVV, W_newF, W_newT, W_some,
 kBody_rt, kBody_nx, kSeq_nx, kSeq_rt, kSeq_bk, kSeq_ct, kExp_, kRet_, kIf_t, kIf_f, kAsg_V, kPar_, kAug_, kB1_, kB2_, kU_, kN_, kC1_, kC2_, kAnd_T, kAnd_F, kOr_T, kOr_F, kNot_B, kCh1_, kCh2_, kCh3_t, kCh3_f, kTV_B, kTB_B, kTA_t, kTA_f, kTO_t, kTO_f, kTN_, kOS_, kSl1_, kSl2_, kSl3_, kM2_, kK1_, kK2_, kSq_tup, kSq_lst, kSq_str, kEn_tup, kEn_lst, kZp_tup, kZp_lst, kFor_, kTurn_nx, kTurn_ct, kTurn_bk, kTurn_rt, kComp_, kLcT_t, kLcT_f,
 setAll, wipeE, pick, List.getElem?_cons_zero, List.getElem?_cons_succ, List.set_cons_zero, List.set_cons_succ, List.map_cons, List.map_nil, List.replicate_succ, List.replicate_zero, List.cons_append, List.nil_append, List.append_nil, List.length_cons, List.length_nil, List.filterMap_cons, List.filterMap_nil,
 Nat.reduceAdd, Nat.reduceSub, Nat.reduceLeDiff, Nat.reduceEqDiff, and_self, if_true, if_false, opAdd_int, opSub_int, opGt_int, opLt_int, opGe_int, opLe_int, opEq_int, opEq_str, opEq_bl, opNe_int, opNe_bl, opNe_str, bInt_int, bInt_bl, bAbs_int, truD_bl, truD_int, W_fLst, W_fTup, pow18, bLen_tup, bLen_lst, bTuple_lst, bTuple_tup, bList_lst, bList_tup, rowD]
    | bor => simp only [isi_non, isi_bl, isi_int, isi_str, isi_tup, isi_frz, isi_bor, List.any_cons, List.any_nil, isTy, reduceCtorEq, decide_true, decide_false, Bool.or_false, Bool.or_true, Bool.true_or, Bool.false_or, Bool.not_true, Bool.not_false, W_body, W_sSeq, W_sNx, W_sBk, W_sCt, W_sExpr, W_sRet, W_sRetN, W_sIf, W_sAsg, W_sPar, W_sAug, W_eC, W_eVar, W_eBin, W_eUn, W_eArgs, W_aNil, W_aCons, W_eAnd, W_eOr, W_eNot, W_eIf, W_eChain, W_tVal, W_tBl, W_tAnd, W_tOr, W_tNot, W_tTrue, W_oNone, W_oSome, W_eSl, W_eRev, W_eMethL, W_eCall, W_iSeq, W_iRange1, W_iRange2, W_iEnumS, W_iZipS, W_sFor, W_eComp, W_lcStep, W_gV, W_gUnpackVV, W_newF, W_newT, W_some,
 kBody_rt, kBody_nx, kSeq_nx, kSeq_rt, kSeq_bk, kSeq_ct, kExp_, kRet_, kIf_t, kIf_f, kAsg_V, kPar_, kAug_, kB1_, kB2_, kU_, kN_, kC1_, kC2_, kAnd_T, kAnd_F, kOr_T, kOr_F, kNot_B, kCh1_, kCh2_, kCh3_t, kCh3_f, kTV_B, kTB_B, kTA_t, kTA_f, kTO_t, kTO_f, kTN_, kOS_, kSl1_, kSl2_, kSl3_, kM2_, kK1_, kK2_, kSq_tup, kSq_lst, kSq_str, kEn_tup, kEn_lst, kZp_tup, kZp_lst, kFor_, kTurn_nx, kTurn_ct, kTurn_bk, kTurn_rt, kComp_, kLcT_t, kLcT_f,
 setAll, wipeE, pick, List.getElem?_cons_zero, List.getElem?_cons_succ, List.set_cons_zero, List.set_cons_succ, List.map_cons, List.map_nil, List.replicate_succ, List.replicate_zero, List.cons_append, List.nil_append, List.append_nil, List.length_cons, List.length_nil, List.filterMap_cons, List.filterMap_nil,
 Nat.reduceAdd, Nat.reduceSub, Nat.reduceLeDiff, Nat.reduceEqDiff, and_self, if_true, if_false, opAdd_int, opSub_int, opGt_int, opLt_int, opGe_int, opLe_int, opEq_int, opEq_str, opEq_bl, opNe_int, opNe_bl, opNe_str, bInt_int, bInt_bl, bAbs_int, truD_bl, truD_int, W_fLst, W_fTup, pow18, bLen_tup, bLen_lst, bTuple_lst, bTuple_tup, bList_lst, bList_tup, rowD]
  | tup es =>
    obtain ⟨hl, hcs⟩ := cl_tup hc
    simp only [isi_non, isi_bl, isi_int, isi_str, isi_tup, isi_frz, isi_bor, List.any_cons, List.any_nil, isTy, reduceCtorEq, decide_true, decide_false, Bool.or_false, Bool.or_true, Bool.true_or, Bool.false_or, Bool.not_true, Bool.not_false, W_body, W_sSeq, W_sNx, W_sBk, W_sCt, W_sExpr, W_sRet, W_sRetN, W_sIf, W_sAsg, W_sPar, W_sAug, W_eC, W_eVar, W_eBin, W_eUn, W_eArgs, W_aNil, W_aCons, W_eAnd, W_eOr, W_eNot, W_eIf, W_eChain, W_tVal, W_tBl, W_tAnd, W_tOr, W_tNot, W_tTrue, W_oNone, W_oSome, W_eSl, W_eRev, W_eMethL, W_eCall, W_iSeq, W_iRange1, W_iRange2, W_iEnumS, W_iZipS, W_sFor, W_eComp, W_lcStep, W_gV, W_gUnpackVV, W_newF, W_newT, W_some,
 kBody_rt, kBody_nx, kSeq_nx, kSeq_rt, kSeq_bk, kSeq_ct, kExp_, kRet_, kIf_t, kIf_f, kAsg_V, kPar_, kAug_, kB1_, kB2_, kU_, kN_, kC1_, kC2_, kAnd_T, kAnd_F, kOr_T, kOr_F, kNot_B, kCh1_, kCh2_, kCh3_t, kCh3_f, kTV_B, kTB_B, kTA_t, kTA_f, kTO_t, kTO_f, kTN_, kOS_, kSl1_, kSl2_, kSl3_, kM2_, kK1_, kK2_, kSq_tup, kSq_lst, kSq_str, kEn_tup, kEn_lst, kZp_tup, kZp_lst, kFor_, kTurn_nx, kTurn_ct, kTurn_bk, kTurn_rt, kComp_, kLcT_t, kLcT_f,
 setAll, wipeE, pick, List.getElem?_cons_zero, List.getElem?_cons_succ, List.set_cons_zero, List.set_cons_succ, List.map_cons, List.map_nil, List.replicate_succ, List.replicate_zero, List.cons_append, List.nil_append, List.append_nil, List.length_cons, List.length_nil, List.filterMap_cons, List.filterMap_nil,
 Nat.reduceAdd, Nat.reduceSub, Nat.reduceLeDiff, Nat.reduceEqDiff, and_self, if_true, if_false, opAdd_int, opSub_int, opGt_int, opLt_int, opGe_int, opLe_int, opEq_int, opEq_str, opEq_bl, opNe_int, opNe_bl, opNe_str, bInt_int, bInt_bl, bAbs_int, truD_bl, truD_int, W_fLst, W_fTup, pow18, bLen_tup, bLen_lst, bTuple_lst, bTuple_tup, bList_lst, bList_tup]
    refine ⟨hl, ?_⟩
    rw [lc_pure (f := fun d => some (.bl (cntLt n d))) rfl _ _ fun d hd => ?_]
    · rw [List.nil_append, filterMap_some, map_bl, W_some, bAll_frz]
      have ee : (es.map (cntLt n)).all id = es.all (cntLt n) := by rw [List.all_map]; rfl
      rw [ee]
      cases ha : es.all (cntLt n) with
      | false =>
        simp only [isi_non, isi_bl, isi_int, isi_str, isi_tup, isi_frz, isi_bor, List.any_cons, List.any_nil, isTy, reduceCtorEq, decide_true, decide_false, Bool.or_false, Bool.or_true, Bool.true_or, Bool.false_or, Bool.not_true, Bool.not_false, W_body, W_sSeq, W_sNx, W_sBk, W_sCt, W_sExpr, W_sRet, W_sRetN, W_sIf, W_sAsg, W_sPar, W_sAug, W_eC, W_eVar, W_eBin, W_eUn, W_eArgs, W_aNil, W_aCons, W_eAnd, W_eOr, W_eNot, W_eIf, W_eChain, W_tVal, W_tBl, W_tAnd, W_tOr, W_tNot, W_tTrue, W_oNone, W_oSome, W_eSl, W_eRev, W_eMethL, W_eCall, W_iSeq, W_iRange1, W_iRange2, W_iEnumS, W_iZipS, W_sFor, W_eComp, W_lcStep, W_gV, W_gUnpackVV, W_newF, W_newT, W_some,
 kBody_rt, kBody_nx, kSeq_nx, kSeq_rt, kSeq_bk, kSeq_ct, kExp_, kRet_, kIf_t, kIf_f, kAsg_V, kPar_, kAug_, kB1_, kB2_, kU_, kN_, kC1_, kC2_, kAnd_T, kAnd_F, kOr_T, kOr_F, kNot_B, kCh1_, kCh2_, kCh3_t, kCh3_f, kTV_B, kTB_B, kTA_t, kTA_f, kTO_t, kTO_f, kTN_, kOS_, kSl1_, kSl2_, kSl3_, kM2_, kK1_, kK2_, kSq_tup, kSq_lst, kSq_str, kEn_tup, kEn_lst, kZp_tup, kZp_lst, kFor_, kTurn_nx, kTurn_ct, kTurn_bk, kTurn_rt, kComp_, kLcT_t, kLcT_f,
 setAll, wipeE, pick, List.getElem?_cons_zero, List.getElem?_cons_succ, List.set_cons_zero, List.set_cons_succ, List.map_cons, List.map_nil, List.replicate_succ, List.replicate_zero, List.cons_append, List.nil_append, List.append_nil, List.length_cons, List.length_nil, List.filterMap_cons, List.filterMap_nil,
 Nat.reduceAdd, Nat.reduceSub, Nat.reduceLeDiff, Nat.reduceEqDiff, and_self, if_true, if_false, opAdd_int, opSub_int, opGt_int, opLt_int, opGe_int, opLe_int, opEq_int, opEq_str, opEq_bl, opNe_int, opNe_bl, opNe_str, bInt_int, bInt_bl, bAbs_int, truD_bl, truD_int, W_fLst, W_fTup, pow18, bLen_tup, bLen_lst, bTuple_lst, bTuple_tup, bList_lst, bList_tup, row_all ha]
      | true =>
        obtain ⟨ns, en⟩ := cntLt_ints ha
        have es' := intsOf_eq en
        subst es'
        simp only [isi_non, isi_bl, isi_int, isi_str, isi_tup, isi_frz, isi_bor, List.any_cons, List.any_nil, isTy, reduceCtorEq, decide_true, decide_false, Bool.or_false, Bool.or_true, Bool.true_or, Bool.false_or, Bool.not_true, Bool.not_false, W_body, W_sSeq, W_sNx, W_sBk, W_sCt, W_sExpr, W_sRet, W_sRetN, W_sIf, W_sAsg, W_sPar, W_sAug, W_eC, W_eVar, W_eBin, W_eUn, W_eArgs, W_aNil, W_aCons, W_eAnd, W_eOr, W_eNot, W_eIf, W_eChain, W_tVal, W_tBl, W_tAnd, W_tOr, W_tNot, W_tTrue, W_oNone, W_oSome, W_eSl, W_eRev, W_eMethL, W_eCall, W_iSeq, W_iRange1, W_iRange2, W_iEnumS, W_iZipS, W_sFor, W_eComp, W_lcStep, W_gV, W_gUnpackVV, W_newF, W_newT, W_some,
 kBody_rt, kBody_nx, kSeq_nx, kSeq_rt, kSeq_bk, kSeq_ct, kExp_, kRet_, kIf_t, kIf_f, kAsg_V, kPar_, kAug_, kB1_, kB2_, kU_, kN_, kC1_, kC2_, kAnd_T, kAnd_F, kOr_T, kOr_F, kNot_B, kCh1_, kCh2_, kCh3_t, kCh3_f, kTV_B, kTB_B, kTA_t, kTA_f, kTO_t, kTO_f, kTN_, kOS_, kSl1_, kSl2_, kSl3_, kM2_, kK1_, kK2_, kSq_tup, kSq_lst, kSq_str, kEn_tup, kEn_lst, kZp_tup, kZp_lst, kFor_, kTurn_nx, kTurn_ct, kTurn_bk, kTurn_rt, kComp_, kLcT_t, kLcT_f,
 setAll, wipeE, pick, List.getElem?_cons_zero, List.getElem?_cons_succ, List.set_cons_zero, List.set_cons_succ, List.map_cons, List.map_nil, List.replicate_succ, List.replicate_zero, List.cons_append, List.nil_append, List.append_nil, List.length_cons, List.length_nil, List.filterMap_cons, List.filterMap_nil,
 Nat.reduceAdd, Nat.reduceSub, Nat.reduceLeDiff, Nat.reduceEqDiff, and_self, if_true, if_false, opAdd_int, opSub_int, opGt_int, opLt_int, opGe_int, opLe_int, opEq_int, opEq_str, opEq_bl, opNe_int, opNe_bl, opNe_str, bInt_int, bInt_bl, bAbs_int, truD_bl, truD_int, W_fLst, W_fTup, pow18, bLen_tup, bLen_lst, bTuple_lst, bTuple_tup, bList_lst, bList_tup, opSl_drop1]
        rw [← List.map_drop, zipD_ints]
        refine ⟨by rw [List.length_map, List.length_zip]; exact Nat.le_trans (Nat.min_le_left _ _) (by simpa using hl), ?_⟩
        rw [lc_map (f := fun p => some (.bl (decide (p.1 < p.2)))) rfl _ _ fun p _ => ?_]
        · rw [List.nil_append, filterMap_some, map_bl, W_some, bAll_frz, inc_zip]
          simp only [W_body, W_sSeq, W_sNx, W_sBk, W_sCt, W_sExpr, W_sRet, W_sRetN, W_sIf, W_sAsg, W_sPar, W_sAug, W_eC, W_eVar, W_eBin, W_eUn, W_eArgs, W_aNil, W_aCons, W_eAnd, W_eOr, W_eNot, W_eIf, W_eChain, W_tVal, W_tBl, W_tAnd, W_tOr, W_tNot, W_tTrue, W_oNone, W_oSome, W_eSl, W_eRev, W_eMethL, W_eCall, W_iSeq, W_iRange1, W_iRange2, W_iEnumS, W_iZipS, W_sFor, W_eComp, W_lcStep, W_gV, W_gUnpackVV, W_newF, W_newT, W_some,
 kBody_rt, kBody_nx, kSeq_nx, kSeq_rt, kSeq_bk, kSeq_ct, kExp_, kRet_, kIf_t, kIf_f, kAsg_V, kPar_, kAug_, kB1_, kB2_, kU_, kN_, kC1_, kC2_, kAnd_T, kAnd_F, kOr_T, kOr_F, kNot_B, kCh1_, kCh2_, kCh3_t, kCh3_f, kTV_B, kTB_B, kTA_t, kTA_f, kTO_t, kTO_f, kTN_, kOS_, kSl1_, kSl2_, kSl3_, kM2_, kK1_, kK2_, kSq_tup, kSq_lst, kSq_str, kEn_tup, kEn_lst, kZp_tup, kZp_lst, kFor_, kTurn_nx, kTurn_ct, kTurn_bk, kTurn_rt, kComp_, kLcT_t, kLcT_f,
 setAll, wipeE, pick, List.getElem?_cons_zero, List.getElem?_cons_succ, List.set_cons_zero, List.set_cons_succ, List.map_cons, List.map_nil, List.replicate_succ, List.replicate_zero, List.cons_append, List.nil_append, List.append_nil, List.length_cons, List.length_nil, List.filterMap_cons, List.filterMap_nil,
 Nat.reduceAdd, Nat.reduceSub, Nat.reduceLeDiff, Nat.reduceEqDiff, and_self, if_true, if_false, opAdd_int, opSub_int, opGt_int, opLt_int, opGe_int, opLe_int, opEq_int, opEq_str, opEq_bl, opNe_int, opNe_bl, opNe_str, bInt_int, bInt_bl, bAbs_int, truD_bl, truD_int, W_fLst, W_fTup, pow18, bLen_tup, bLen_lst, bTuple_lst, bTuple_tup, bList_lst, bList_tup, rowD, en, rowI]
          rw [all_cntLt] at ha
          rw [ha]
          simp
        · refine W_get ?_
          simp only [W_body, W_sSeq, W_sNx, W_sBk, W_sCt, W_sExpr, W_sRet, W_sRetN, W_sIf, W_sAsg, W_sPar, W_sAug, W_eC, W_eVar, W_eBin, W_eUn, W_eArgs, W_aNil, W_aCons, W_eAnd, W_eOr, W_eNot, W_eIf, W_eChain, W_tVal, W_tBl, W_tAnd, W_tOr, W_tNot, W_tTrue, W_oNone, W_oSome, W_eSl, W_eRev, W_eMethL, W_eCall, W_iSeq, W_iRange1, W_iRange2, W_iEnumS, W_iZipS, W_sFor, W_eComp, W_lcStep, W_gV, W_gUnpackVV, W_newF, W_newT, W_some,
 kBody_rt, kBody_nx, kSeq_nx, kSeq_rt, kSeq_bk, kSeq_ct, kExp_, kRet_, kIf_t, kIf_f, kAsg_V, kPar_, kAug_, kB1_, kB2_, kU_, kN_, kC1_, kC2_, kAnd_T, kAnd_F, kOr_T, kOr_F, kNot_B, kCh1_, kCh2_, kCh3_t, kCh3_f, kTV_B, kTB_B, kTA_t, kTA_f, kTO_t, kTO_f, kTN_, kOS_, kSl1_, kSl2_, kSl3_, kM2_, kK1_, kK2_, kSq_tup, kSq_lst, kSq_str, kEn_tup, kEn_lst, kZp_tup, kZp_lst, kFor_, kTurn_nx, kTurn_ct, kTurn_bk, kTurn_rt, kComp_, kLcT_t, kLcT_f,
 setAll, wipeE, pick, List.getElem?_cons_zero, List.getElem?_cons_succ, List.set_cons_zero, List.set_cons_succ, List.map_cons, List.map_nil, List.replicate_succ, List.replicate_zero, List.cons_append, List.nil_append, List.append_nil, List.length_cons, List.length_nil, List.filterMap_cons, List.filterMap_nil,
 Nat.reduceAdd, Nat.reduceSub, Nat.reduceLeDiff, Nat.reduceEqDiff, and_self, if_true, if_false, opAdd_int, opSub_int, opGt_int, opLt_int, opGe_int, opLe_int, opEq_int, opEq_str, opEq_bl, opNe_int, opNe_bl, opNe_str, bInt_int, bInt_bl, bAbs_int, truD_bl, truD_int, W_fLst, W_fTup, pow18, bLen_tup, bLen_lst, bTuple_lst, bTuple_tup, bList_lst, bList_tup]
    · refine W_get ?_
      simp only [W_body, W_sSeq, W_sNx, W_sBk, W_sCt, W_sExpr, W_sRet, W_sRetN, W_sIf, W_sAsg, W_sPar, W_sAug, W_eC, W_eVar, W_eBin, W_eUn, W_eArgs, W_aNil, W_aCons, W_eAnd, W_eOr, W_eNot, W_eIf, W_eChain, W_tVal, W_tBl, W_tAnd, W_tOr, W_tNot, W_tTrue, W_oNone, W_oSome, W_eSl, W_eRev, W_eMethL, W_eCall, W_iSeq, W_iRange1, W_iRange2, W_iEnumS, W_iZipS, W_sFor, W_eComp, W_lcStep, W_gV, W_gUnpackVV, W_newF, W_newT, W_some,
 kBody_rt, kBody_nx, kSeq_nx, kSeq_rt, kSeq_bk, kSeq_ct, kExp_, kRet_, kIf_t, kIf_f, kAsg_V, kPar_, kAug_, kB1_, kB2_, kU_, kN_, kC1_, kC2_, kAnd_T, kAnd_F, kOr_T, kOr_F, kNot_B, kCh1_, kCh2_, kCh3_t, kCh3_f, kTV_B, kTB_B, kTA_t, kTA_f, kTO_t, kTO_f, kTN_, kOS_, kSl1_, kSl2_, kSl3_, kM2_, kK1_, kK2_, kSq_tup, kSq_lst, kSq_str, kEn_tup, kEn_lst, kZp_tup, kZp_lst, kFor_, kTurn_nx, kTurn_ct, kTurn_bk, kTurn_rt, kComp_, kLcT_t, kLcT_f,
 setAll, wipeE, pick, List.getElem?_cons_zero, List.getElem?_cons_succ, List.set_cons_zero, List.set_cons_succ, List.map_cons, List.map_nil, List.replicate_succ, List.replicate_zero, List.cons_append, List.nil_append, List.append_nil, List.length_cons, List.length_nil, List.filterMap_cons, List.filterMap_nil,
 Nat.reduceAdd, Nat.reduceSub, Nat.reduceLeDiff, Nat.reduceEqDiff, and_self, if_true, if_false, opAdd_int, opSub_int, opGt_int, opLt_int, opGe_int, opLe_int, opEq_int, opEq_str, opEq_bl, opNe_int, opNe_bl, opNe_str, bInt_int, bInt_bl, bAbs_int, truD_bl, truD_int, W_fLst, W_fTup, pow18, bLen_tup, bLen_lst, bTuple_lst, bTuple_tup, bList_lst, bList_tup, iscount_run h1 h0 (cls_in hcs hd)]
      cases d <;> simp only [cntD, cntLt, W_body, W_sSeq, W_sNx, W_sBk, W_sCt, W_sExpr, W_sRet, W_sRetN, W_sIf, W_sAsg, W_sPar, W_sAug, W_eC, W_eVar, W_eBin, W_eUn, W_eArgs, W_aNil, W_aCons, W_eAnd, W_eOr, W_eNot, W_eIf, W_eChain, W_tVal, W_tBl, W_tAnd, W_tOr, W_tNot, W_tTrue, W_oNone, W_oSome, W_eSl, W_eRev, W_eMethL, W_eCall, W_iSeq, W_iRange1, W_iRange2, W_iEnumS, W_iZipS, W_sFor, W_eComp, W_lcStep, W_gV, W_gUnpackVV, W_newF, W_newT, W_some,
 kBody_rt, kBody_nx, kSeq_nx, kSeq_rt, kSeq_bk, kSeq_ct, kExp_, kRet_, kIf_t, kIf_f, kAsg_V, kPar_, kAug_, kB1_, kB2_, kU_, kN_, kC1_, kC2_, kAnd_T, kAnd_F, kOr_T, kOr_F, kNot_B, kCh1_, kCh2_, kCh3_t, kCh3_f, kTV_B, kTB_B, kTA_t, kTA_f, kTO_t, kTO_f, kTN_, kOS_, kSl1_, kSl2_, kSl3_, kM2_, kK1_, kK2_, kSq_tup, kSq_lst, kSq_str, kEn_tup, kEn_lst, kZp_tup, kZp_lst, kFor_, kTurn_nx, kTurn_ct, kTurn_bk, kTurn_rt, kComp_, kLcT_t, kLcT_f,
 setAll, wipeE, pick, List.getElem?_cons_zero, List.getElem?_cons_succ, List.set_cons_zero, List.set_cons_succ, List.map_cons, List.map_nil, List.replicate_succ, List.replicate_zero, List.cons_append, List.nil_append, List.append_nil, List.length_cons, List.length_nil, List.filterMap_cons, List.filterMap_nil,
 Nat.reduceAdd, Nat.reduceSub, Nat.reduceLeDiff, Nat.reduceEqDiff, and_self, if_true, if_false, opAdd_int, opSub_int, opGt_int, opLt_int, opGe_int, opLe_int, opEq_int, opEq_str, opEq_bl, opNe_int, opNe_bl, opNe_str, bInt_int, bInt_bl, bAbs_int, truD_bl, truD_int, W_fLst, W_fTup, pow18, bLen_tup, bLen_lst, bTuple_lst, bTuple_tup, bList_lst, bList_tup, Bool.false_and]
      rename_i i
      cases hi : decide (0 ≤ i) <;> simp only [W_body, W_sSeq, W_sNx, W_sBk, W_sCt, W_sExpr, W_sRet, W_sRetN, W_sIf, W_sAsg, W_sPar, W_sAug, W_eC, W_eVar, W_eBin, W_eUn, W_eArgs, W_aNil, W_aCons, W_eAnd, W_eOr, W_eNot, W_eIf, W_eChain, W_tVal, W_tBl, W_tAnd, W_tOr, W_tNot, W_tTrue, W_oNone, W_oSome, W_eSl, W_eRev, W_eMethL, W_eCall, W_iSeq, W_iRange1, W_iRange2, W_iEnumS, W_iZipS, W_sFor, W_eComp, W_lcStep, W_gV, W_gUnpackVV, W_newF, W_newT, W_some,
 kBody_rt, kBody_nx, kSeq_nx, kSeq_rt, kSeq_bk, kSeq_ct, kExp_, kRet_, kIf_t, kIf_f, kAsg_V, kPar_, kAug_, kB1_, kB2_, kU_, kN_, kC1_, kC2_, kAnd_T, kAnd_F, kOr_T, kOr_F, kNot_B, kCh1_, kCh2_, kCh3_t, kCh3_f, kTV_B, kTB_B, kTA_t, kTA_f, kTO_t, kTO_f, kTN_, kOS_, kSl1_, kSl2_, kSl3_, kM2_, kK1_, kK2_, kSq_tup, kSq_lst, kSq_str, kEn_tup, kEn_lst, kZp_tup, kZp_lst, kFor_, kTurn_nx, kTurn_ct, kTurn_bk, kTurn_rt, kComp_, kLcT_t, kLcT_f,
 setAll, wipeE, pick, List.getElem?_cons_zero, List.getElem?_cons_succ, List.set_cons_zero, List.set_cons_succ, List.map_cons, List.map_nil, List.replicate_succ, List.replicate_zero, List.cons_append, List.nil_append, List.append_nil, List.length_cons, List.length_nil, List.filterMap_cons, List.filterMap_nil,
 Nat.reduceAdd, Nat.reduceSub, Nat.reduceLeDiff, Nat.reduceEqDiff, and_self, if_true, if_false, opAdd_int, opSub_int, opGt_int, opLt_int, opGe_int, opLe_int, opEq_int, opEq_str, opEq_bl, opNe_int, opNe_bl, opNe_str, bInt_int, bInt_bl, bAbs_int, truD_bl, truD_int, W_fLst, W_fTup, pow18, bLen_tup, bLen_lst, bTuple_lst, bTuple_tup, bList_lst, bList_tup, Bool.false_and, Bool.true_and]
  | _ => simp only [isi_non, isi_bl, isi_int, isi_str, isi_tup, isi_frz, isi_bor, List.any_cons, List.any_nil, isTy, reduceCtorEq, decide_true, decide_false, Bool.or_false, Bool.or_true, Bool.true_or, Bool.false_or, Bool.not_true, Bool.not_false, W_body, W_sSeq, W_sNx, W_sBk, W_sCt, W_sExpr, W_sRet, W_sRetN, W_sIf, W_sAsg, W_sPar, W_sAug, W_eC, W_eVar, W_eBin, W_eUn, W_eArgs, W_aNil, W_aCons, W_eAnd, W_eOr, W_eNot, W_eIf, W_eChain, W_tVal, W_tBl, W_tAnd, W_tOr, W_tNot, W_tTrue, W_oNone, W_oSome, W_eSl, W_eRev, W_eMethL, W_eCall, W_iSeq, W_iRange1, W_iRange2, W_iEnumS, W_iZipS, W_sFor, W_eComp, W_lcStep, W_gV, W_gUnpackVV, W_newF, W_newT, W_some,
 kBody_rt, kBody_nx, kSeq_nx, kSeq_rt, kSeq_bk, kSeq_ct, kExp_, kRet_, kIf_t, kIf_f, kAsg_V, kPar_, kAug_, kB1_, kB2_, kU_, kN_, kC1_, kC2_, kAnd_T, kAnd_F, kOr_T, kOr_F, kNot_B, kCh1_, kCh2_, kCh3_t, kCh3_f, kTV_B, kTB_B, kTA_t, kTA_f, kTO_t, kTO_f, kTN_, kOS_, kSl1_, kSl2_, kSl3_, kM2_, kK1_, kK2_, kSq_tup, kSq_lst, kSq_str, kEn_tup, kEn_lst, kZp_tup, kZp_lst, kFor_, kTurn_nx, kTurn_ct, kTurn_bk, kTurn_rt, kComp_, kLcT_t, kLcT_f,
 setAll, wipeE, pick, List.getElem?_cons_zero, List.getElem?_cons_succ, List.set_cons_zero, List.set_cons_succ, List.map_cons, List.map_nil, List.replicate_succ, List.replicate_zero, List.cons_append, List.nil_append, List.append_nil, List.length_cons, List.length_nil, List.filterMap_cons, List.filterMap_nil,
 Nat.reduceAdd, Nat.reduceSub, Nat.reduceLeDiff, Nat.reduceEqDiff, and_self, if_true, if_false, opAdd_int, opSub_int, opGt_int, opLt_int, opGe_int, opLe_int, opEq_int, opEq_str, opEq_bl, opNe_int, opNe_bl, opNe_str, bInt_int, bInt_bl, bAbs_int, truD_bl, truD_int, W_fLst, W_fTup, pow18, bLen_tup, bLen_lst, bTuple_lst, bTuple_tup, bList_lst, bList_tup, rowD]
def duoD : D → Bool
  | .tup ds => decide (ds.length = 2)
  | _ => false
def rowsD (n : Int) : D → Bool
  | .tup ds => ds.all (rowD n)
  | _ => false
/-- a record -/
def recD (n : Int) : D → Bool
  | .tup es => es.all fun d => duoD d && rowsD n d
  | _ => false
def isrecSem (arenums : OpN) : SemS := (sSeq (sIf (AW.tOr (AW.tNot (tVal (eUn (opIsi [Ty.tup]) (eVar 0)))) (AW.tNot (tVal (eArgs bAll (aCons (eComp false (iSeq (eVar 0)) (gV 2) tTrue (eAnd (eUn (opIsi [Ty.tup]) (eVar 2)) (eBin opEq (eArgs bLen (aCons (eVar 2) aNil)) (eC (D.int 2)))) [2]) aNil))))) (sRet (eC (D.bl false))) sNx) (sRet (eArgs bAll (aCons (eComp2 false (iSeq (eVar 0)) (gV 3) tTrue (iSeq (eVar 3)) (gV 2) tTrue (eCall (callP false arenums) 2 0 2 [] [0, 1] (aCons (eVar 2) (aCons (eVar 1) aNil)) aNil) [3, 2] [2]) aNil))))
def innerOf : D → List D
  | .tup ds => ds
  | _ => []
theorem all_and {α : Type} {p q : α → Bool} (l : List α) (h : l.all p = true) : (l.all fun x => p x && q x) = l.all q := by
  induction l with
  | nil => rfl
  | cons x l ih =>
    rw [List.all_cons, Bool.and_eq_true] at h
    rw [List.all_cons, List.all_cons, ih h.2, h.1, Bool.true_and]
theorem all_and_f {α : Type} {p q : α → Bool} (l : List α) (h : l.all p = false) : (l.all fun x => p x && q x) = false := by
  induction l with
  | nil => cases h
  | cons x l ih =>
    rw [List.all_cons] at h ⊢
    cases hp : p x
    · rfl
    · rw [hp, Bool.true_and] at h
      rw [ih h, Bool.and_false]
/-- a walk inside a walk, that leaves the store as it is -/
theorem lc2_pure {g : SemG} {t : SemT} {it1 : SemI} {g1 : SemG} {t1 : SemT} {elt : SemE} {own vs1 : List Nat} {E : Env} {S : Sto} {chk : Chk} {inner : D → List D} {f : D → D} {M : Nat} (hc : stable chk S = true) :
    ∀ (ds : List D) (acc : List D), acc.length + ds.length * M ≤ LIM → (∀ d ∈ ds, (inner d).length ≤ M) →
      (∀ d ∈ ds, ∃ E1, g d (wipeE E own) S = some (E1, S) ∧ t E1 S = some (true, S) ∧ it1 E1 S = some ((inner d, []), S) ∧ ∀ acc', lcLoop (lcStep g1 t1 elt vs1 E1) [] (inner d) acc' S = some (acc' ++ (inner d).map f, S)) →
      lc2Loop g t it1 g1 t1 elt own vs1 E chk ds acc S = some (acc ++ ds.flatMap fun d => (inner d).map f, S)
  | [], acc, _, _, _ => by simp only [lc2Loop, hc, if_true, List.flatMap_nil, List.append_nil]
  | d :: ds, acc, hl, hm, h => by
    obtain ⟨E1, h1, h2, h3, h4⟩ := h d List.mem_cons_self
    have hd := hm d List.mem_cons_self
    have hlen : acc.length + (inner d).length ≤ LIM := by
      rw [List.length_cons, Nat.succ_mul] at hl
      omega
    simp only [lc2Loop, hc, if_true, h1, Option.bind_some, h2, h3, hlen, h4]
    rw [lc2_pure hc ds _ ?_ (fun d' hd' => hm d' (List.mem_cons_of_mem _ hd')) fun d' hd' => h d' (List.mem_cons_of_mem _ hd')]
    · rw [List.flatMap_cons, List.append_assoc]
    · rw [List.length_append, List.length_map]
      rw [List.length_cons, Nat.succ_mul] at hl
      omega
theorem eComp2_at {mk : Bool} {it it1 : SemI} {g g1 : SemG} {t t1 : SemT} {elt : SemE} {own vs1 : List Nat} {E : Env} {S : Sto} {ds : List D} {chk : Chk} {out : List D} (h : it E S = some ((ds, chk), S)) (h2 : lc2Loop g t it1 g1 t1 elt own vs1 E chk ds [] S = some (out, S)) : eComp2 mk it g t it1 g1 t1 elt own vs1 E S = newL mk out S := by
  unfold eComp2
  rw [h, Option.bind_some, h2, Option.bind_some]
theorem isrec_run {isrec arenums iscount isnum : OpN} (h : isrec = body 4 (isrecSem arenums)) (h2 : arenums = body 5 (arenumsSem iscount)) (h1 : iscount = body 1 (iscountSem isnum)) (h0 : isnum = body 1 isnumSem) {d : D} {n : Int} {S : Sto} (hc : cl d = true) (hsm : ∀ es, d = .tup es → es.length ≤ 1000) :
    callP false isrec [d, .int n] S = some (.bl (recD n d), S) := by
  rw [h]
  refine W_callE (d := .bl (recD n d)) (Sc := []) (by simp only [pls, pl, cl_pl hc, Bool.and_self]) (W_get ?_) rfl
  unfold isrecSem
  cases d with
  | ref i => cases hc
  | lst q ds =>
    cases q with
    | ext => cases hc
    | frz => simp only [isi_non, isi_bl, isi_int, isi_str, isi_tup, isi_frz, isi_bor, List.any_cons, List.any_nil, isTy, reduceCtorEq, decide_true, decide_false, Bool.or_false, Bool.or_true, Bool.true_or, Bool.false_or, Bool.not_true, Bool.not_false, W_body, W_sSeq, W_sNx, W_sBk, W_sCt, W_sExpr, W_sRet, W_sRetN, W_sIf, W_sAsg, W_sPar, W_sAug, W_eC, W_eVar, W_eBin, W_eUn, W_eArgs, W_aNil, W_aCons, W_eAnd, W_eOr, W_eNot, W_eIf, W_eChain, W_tVal, W_tBl, W_tAnd, W_tOr, W_tNot, W_tTrue, W_oNone, W_oSome, W_eSl, W_eRev, W_eMethL, W_eCall, W_iSeq, W_iRange1, W_iRange2, W_iEnumS, W_iZipS, W_sFor, W_eComp, W_lcStep, W_gV, W_gUnpackVV, W_newF, W_newT, W_some,
 kBody_rt, kBody_nx, kSeq_nx, kSeq_rt, kSeq_bk, kSeq_ct, kExp_, kRet_, kIf_t, kIf_f, kAsg_V, kPar_, kAug_, kB1_, kB2_, kU_, kN_, kC1_, kC2_, kAnd_T, kAnd_F, kOr_T, kOr_F, kNot_B, kCh1_, kCh2_, kCh3_t, kCh3_f, kTV_B, kTB_B, kTA_t, kTA_f, kTO_t, kTO_f, kTN_, kOS_, kSl1_, kSl2_, kSl3_, kM2_, kK1_, kK2_, kSq_tup, kSq_lst, kSq_str, kEn_tup, kEn_lst, kZp_tup, kZp_lst, kFor_, kTurn_nx, kTurn_ct, kTurn_bk, kTurn_rt, kComp_, kLcT_t, kLcT_f,
 setAll, wipeE, pick, List.getElem?_cons_zero, List.getElem?_cons_succ, List.set_cons_zero, List.set_cons_succ, List.map_cons, List.map_nil, List.replicate_succ, List.replicate_zero, List.cons_append, List.nil_append, List.append_nil, List.length_cons, List.length_nil, List.filterMap_cons, List.filterMap_nil,
 Nat.reduceAdd, Nat.reduceSub, Nat.reduceLeDiff, Nat.reduceEqDiff, and_self, if_true, if_false, opAdd_int, opSub_int, opGt_int, opLt_int, opGe_int, opLe_int, opEq_int, opEq_str, opEq_bl, opNe_int, opNe_bl, opNe_str, bInt_int, bInt_bl, bAbs_int, truD_bl, truD_int, W_fLst, W_fTup, pow18, bLen_tup, bLen_lst, bTuple_lst, bTuple_tup, bList_lst, bList_tup, recD]
    | bor => simp only [isi_non, isi_bl, isi_int, isi_str, isi_tup, isi_frz, isi_bor, List.any_cons, List.any_nil, isTy, reduceCtorEq, decide_true, decide_false, Bool.or_false, Bool.or_true, Bool.true_or, Bool.false_or, Bool.not_true, Bool.not_false, W_body, W_sSeq, W_sNx, W_sBk, W_sCt, W_sExpr, W_sRet, W_sRetN, W_sIf, W_sAsg, W_sPar, W_sAug, W_eC, W_eVar, W_eBin, W_eUn, W_eArgs, W_aNil, W_aCons, W_eAnd, W_eOr, W_eNot, W_eIf, W_eChain, W_tVal, W_tBl, W_tAnd, W_tOr, W_tNot, W_tTrue, W_oNone, W_oSome, W_eSl, W_eRev, W_eMethL, W_eCall, W_iSeq, W_iRange1, W_iRange2, W_iEnumS, W_iZipS, W_sFor, W_eComp, W_lcStep, W_gV, W_gUnpackVV, W_newF, W_newT, W_some,
 kBody_rt, kBody_nx, kSeq_nx, kSeq_rt, kSeq_bk, kSeq_ct, kExp_, kRet_, kIf_t, kIf_f, kAsg_V, kPar_, kAug_, kB1_, kB2_, kU_, kN_, kC1_, kC2_, kAnd_T, kAnd_F, kOr_T, kOr_F, kNot_B, kCh1_, kCh2_, kCh3_t, kCh3_f, kTV_B, kTB_B, kTA_t, kTA_f, kTO_t, kTO_f, kTN_, kOS_, kSl1_, kSl2_, kSl3_, kM2_, kK1_, kK2_, kSq_tup, kSq_lst, kSq_str, kEn_tup, kEn_lst, kZp_tup, kZp_lst, kFor_, kTurn_nx, kTurn_ct, kTurn_bk, kTurn_rt, kComp_, kLcT_t, kLcT_f,
 setAll, wipeE, pick, List.getElem?_cons_zero, List.getElem?_cons_succ, List.set_cons_zero, List.set_cons_succ, List.map_cons, List.map_nil, List.replicate_succ, List.replicate_zero, List.cons_append, List.nil_append, List.append_nil, List.length_cons, List.length_nil, List.filterMap_cons, List.filterMap_nil,
 Nat.reduceAdd, Nat.reduceSub, Nat.reduceLeDiff, Nat.reduceEqDiff, and_self, if_true, if_false, opAdd_int, opSub_int, opGt_int, opLt_int, opGe_int, opLe_int, opEq_int, opEq_str, opEq_bl, opNe_int, opNe_bl, opNe_str, bInt_int, bInt_bl, bAbs_int, truD_bl, truD_int, W_fLst, W_fTup, pow18, bLen_tup, bLen_lst, bTuple_lst, bTuple_tup, bList_lst, bList_tup, recD]
  | tup es =>
    obtain ⟨hl, hcs⟩ := cl_tup hc
    have hes := hsm es rfl
    simp only [isi_non, isi_bl, isi_int, isi_str, isi_tup, isi_frz, isi_bor, List.any_cons, List.any_nil, isTy, reduceCtorEq, decide_true, decide_false, Bool.or_false, Bool.or_true, Bool.true_or, Bool.false_or, Bool.not_true, Bool.not_false, W_body, W_sSeq, W_sNx, W_sBk, W_sCt, W_sExpr, W_sRet, W_sRetN, W_sIf, W_sAsg, W_sPar, W_sAug, W_eC, W_eVar, W_eBin, W_eUn, W_eArgs, W_aNil, W_aCons, W_eAnd, W_eOr, W_eNot, W_eIf, W_eChain, W_tVal, W_tBl, W_tAnd, W_tOr, W_tNot, W_tTrue, W_oNone, W_oSome, W_eSl, W_eRev, W_eMethL, W_eCall, W_iSeq, W_iRange1, W_iRange2, W_iEnumS, W_iZipS, W_sFor, W_eComp, W_lcStep, W_gV, W_gUnpackVV, W_newF, W_newT, W_some,
 kBody_rt, kBody_nx, kSeq_nx, kSeq_rt, kSeq_bk, kSeq_ct, kExp_, kRet_, kIf_t, kIf_f, kAsg_V, kPar_, kAug_, kB1_, kB2_, kU_, kN_, kC1_, kC2_, kAnd_T, kAnd_F, kOr_T, kOr_F, kNot_B, kCh1_, kCh2_, kCh3_t, kCh3_f, kTV_B, kTB_B, kTA_t, kTA_f, kTO_t, kTO_f, kTN_, kOS_, kSl1_, kSl2_, kSl3_, kM2_, kK1_, kK2_, kSq_tup, kSq_lst, kSq_str, kEn_tup, kEn_lst, kZp_tup, kZp_lst, kFor_, kTurn_nx, kTurn_ct, kTurn_bk, kTurn_rt, kComp_, kLcT_t, kLcT_f,
 setAll, wipeE, pick, List.getElem?_cons_zero, List.getElem?_cons_succ, List.set_cons_zero, List.set_cons_succ, List.map_cons, List.map_nil, List.replicate_succ, List.replicate_zero, List.cons_append, List.nil_append, List.append_nil, List.length_cons, List.length_nil, List.filterMap_cons, List.filterMap_nil,
 Nat.reduceAdd, Nat.reduceSub, Nat.reduceLeDiff, Nat.reduceEqDiff, and_self, if_true, if_false, opAdd_int, opSub_int, opGt_int, opLt_int, opGe_int, opLe_int, opEq_int, opEq_str, opEq_bl, opNe_int, opNe_bl, opNe_str, bInt_int, bInt_bl, bAbs_int, truD_bl, truD_int, W_fLst, W_fTup, pow18, bLen_tup, bLen_lst, bTuple_lst, bTuple_tup, bList_lst, bList_tup]
    refine ⟨hl, ?_⟩
    rw [lc_pure (f := fun d => some (.bl (duoD d))) rfl _ _ fun d hd => ?_]
    · rw [List.nil_append, filterMap_some, map_bl, W_some, bAll_frz]
      have ee : (es.map duoD).all id = es.all duoD := by rw [List.all_map]; rfl
      rw [ee]
      cases ha : es.all duoD with
      | false => simp only [isi_non, isi_bl, isi_int, isi_str, isi_tup, isi_frz, isi_bor, List.any_cons, List.any_nil, isTy, reduceCtorEq, decide_true, decide_false, Bool.or_false, Bool.or_true, Bool.true_or, Bool.false_or, Bool.not_true, Bool.not_false, W_body, W_sSeq, W_sNx, W_sBk, W_sCt, W_sExpr, W_sRet, W_sRetN, W_sIf, W_sAsg, W_sPar, W_sAug, W_eC, W_eVar, W_eBin, W_eUn, W_eArgs, W_aNil, W_aCons, W_eAnd, W_eOr, W_eNot, W_eIf, W_eChain, W_tVal, W_tBl, W_tAnd, W_tOr, W_tNot, W_tTrue, W_oNone, W_oSome, W_eSl, W_eRev, W_eMethL, W_eCall, W_iSeq, W_iRange1, W_iRange2, W_iEnumS, W_iZipS, W_sFor, W_eComp, W_lcStep, W_gV, W_gUnpackVV, W_newF, W_newT, W_some,
 kBody_rt, kBody_nx, kSeq_nx, kSeq_rt, kSeq_bk, kSeq_ct, kExp_, kRet_, kIf_t, kIf_f, kAsg_V, kPar_, kAug_, kB1_, kB2_, kU_, kN_, kC1_, kC2_, kAnd_T, kAnd_F, kOr_T, kOr_F, kNot_B, kCh1_, kCh2_, kCh3_t, kCh3_f, kTV_B, kTB_B, kTA_t, kTA_f, kTO_t, kTO_f, kTN_, kOS_, kSl1_, kSl2_, kSl3_, kM2_, kK1_, kK2_, kSq_tup, kSq_lst, kSq_str, kEn_tup, kEn_lst, kZp_tup, kZp_lst, kFor_, kTurn_nx, kTurn_ct, kTurn_bk, kTurn_rt, kComp_, kLcT_t, kLcT_f,
 setAll, wipeE, pick, List.getElem?_cons_zero, List.getElem?_cons_succ, List.set_cons_zero, List.set_cons_succ, List.map_cons, List.map_nil, List.replicate_succ, List.replicate_zero, List.cons_append, List.nil_append, List.append_nil, List.length_cons, List.length_nil, List.filterMap_cons, List.filterMap_nil,
 Nat.reduceAdd, Nat.reduceSub, Nat.reduceLeDiff, Nat.reduceEqDiff, and_self, if_true, if_false, opAdd_int, opSub_int, opGt_int, opLt_int, opGe_int, opLe_int, opEq_int, opEq_str, opEq_bl, opNe_int, opNe_bl, opNe_str, bInt_int, bInt_bl, bAbs_int, truD_bl, truD_int, W_fLst, W_fTup, pow18, bLen_tup, bLen_lst, bTuple_lst, bTuple_tup, bList_lst, bList_tup, recD, all_and_f es ha]
      | true =>
        simp only [isi_non, isi_bl, isi_int, isi_str, isi_tup, isi_frz, isi_bor, List.any_cons, List.any_nil, isTy, reduceCtorEq, decide_true, decide_false, Bool.or_false, Bool.or_true, Bool.true_or, Bool.false_or, Bool.not_true, Bool.not_false, W_body, W_sSeq, W_sNx, W_sBk, W_sCt, W_sExpr, W_sRet, W_sRetN, W_sIf, W_sAsg, W_sPar, W_sAug, W_eC, W_eVar, W_eBin, W_eUn, W_eArgs, W_aNil, W_aCons, W_eAnd, W_eOr, W_eNot, W_eIf, W_eChain, W_tVal, W_tBl, W_tAnd, W_tOr, W_tNot, W_tTrue, W_oNone, W_oSome, W_eSl, W_eRev, W_eMethL, W_eCall, W_iSeq, W_iRange1, W_iRange2, W_iEnumS, W_iZipS, W_sFor, W_eComp, W_lcStep, W_gV, W_gUnpackVV, W_newF, W_newT, W_some,
 kBody_rt, kBody_nx, kSeq_nx, kSeq_rt, kSeq_bk, kSeq_ct, kExp_, kRet_, kIf_t, kIf_f, kAsg_V, kPar_, kAug_, kB1_, kB2_, kU_, kN_, kC1_, kC2_, kAnd_T, kAnd_F, kOr_T, kOr_F, kNot_B, kCh1_, kCh2_, kCh3_t, kCh3_f, kTV_B, kTB_B, kTA_t, kTA_f, kTO_t, kTO_f, kTN_, kOS_, kSl1_, kSl2_, kSl3_, kM2_, kK1_, kK2_, kSq_tup, kSq_lst, kSq_str, kEn_tup, kEn_lst, kZp_tup, kZp_lst, kFor_, kTurn_nx, kTurn_ct, kTurn_bk, kTurn_rt, kComp_, kLcT_t, kLcT_f,
 setAll, wipeE, pick, List.getElem?_cons_zero, List.getElem?_cons_succ, List.set_cons_zero, List.set_cons_succ, List.map_cons, List.map_nil, List.replicate_succ, List.replicate_zero, List.cons_append, List.nil_append, List.append_nil, List.length_cons, List.length_nil, List.filterMap_cons, List.filterMap_nil,
 Nat.reduceAdd, Nat.reduceSub, Nat.reduceLeDiff, Nat.reduceEqDiff, and_self, if_true, if_false, opAdd_int, opSub_int, opGt_int, opLt_int, opGe_int, opLe_int, opEq_int, opEq_str, opEq_bl, opNe_int, opNe_bl, opNe_str, bInt_int, bInt_bl, bAbs_int, truD_bl, truD_int, W_fLst, W_fTup, pow18, bLen_tup, bLen_lst, bTuple_lst, bTuple_tup, bList_lst, bList_tup]
        have two : ∀ d ∈ es, ∃ a b, d = .tup [a, b] := fun d hd => by
          have := List.all_eq_true.mp ha d hd
          cases d with
          | tup xs =>
            have hx : xs.length = 2 := of_decide_eq_true this
            match xs, hx with
            | [a, b], _ => exact ⟨a, b, rfl⟩
          | _ => cases this
        refine W.cong ?_ (eComp2_at (ds := es) (chk := []) (out := es.flatMap fun d => (innerOf d).map fun x => .bl (rowD n x)) rfl (lc2_pure (M := 2) rfl es [] ?_ ?_ ?_))
        · have fe : (es.flatMap fun d => (innerOf d).map fun x => D.bl (rowD n x)) = ((es.flatMap innerOf).map (rowD n)).map D.bl := by
            rw [List.map_map, List.map_flatMap]; rfl
          rw [fe, W_newF]
          simp only [W_body, W_sSeq, W_sNx, W_sBk, W_sCt, W_sExpr, W_sRet, W_sRetN, W_sIf, W_sAsg, W_sPar, W_sAug, W_eC, W_eVar, W_eBin, W_eUn, W_eArgs, W_aNil, W_aCons, W_eAnd, W_eOr, W_eNot, W_eIf, W_eChain, W_tVal, W_tBl, W_tAnd, W_tOr, W_tNot, W_tTrue, W_oNone, W_oSome, W_eSl, W_eRev, W_eMethL, W_eCall, W_iSeq, W_iRange1, W_iRange2, W_iEnumS, W_iZipS, W_sFor, W_eComp, W_lcStep, W_gV, W_gUnpackVV, W_newF, W_newT, W_some,
 kBody_rt, kBody_nx, kSeq_nx, kSeq_rt, kSeq_bk, kSeq_ct, kExp_, kRet_, kIf_t, kIf_f, kAsg_V, kPar_, kAug_, kB1_, kB2_, kU_, kN_, kC1_, kC2_, kAnd_T, kAnd_F, kOr_T, kOr_F, kNot_B, kCh1_, kCh2_, kCh3_t, kCh3_f, kTV_B, kTB_B, kTA_t, kTA_f, kTO_t, kTO_f, kTN_, kOS_, kSl1_, kSl2_, kSl3_, kM2_, kK1_, kK2_, kSq_tup, kSq_lst, kSq_str, kEn_tup, kEn_lst, kZp_tup, kZp_lst, kFor_, kTurn_nx, kTurn_ct, kTurn_bk, kTurn_rt, kComp_, kLcT_t, kLcT_f,
 setAll, wipeE, pick, List.getElem?_cons_zero, List.getElem?_cons_succ, List.set_cons_zero, List.set_cons_succ, List.map_cons, List.map_nil, List.replicate_succ, List.replicate_zero, List.cons_append, List.nil_append, List.append_nil, List.length_cons, List.length_nil, List.filterMap_cons, List.filterMap_nil,
 Nat.reduceAdd, Nat.reduceSub, Nat.reduceLeDiff, Nat.reduceEqDiff, and_self, if_true, if_false, opAdd_int, opSub_int, opGt_int, opLt_int, opGe_int, opLe_int, opEq_int, opEq_str, opEq_bl, opNe_int, opNe_bl, opNe_str, bInt_int, bInt_bl, bAbs_int, truD_bl, truD_int, W_fLst, W_fTup, pow18, bLen_tup, bLen_lst, bTuple_lst, bTuple_tup, bList_lst, bList_tup]
          rw [bAll_frz]
          simp only [W_body, W_sSeq, W_sNx, W_sBk, W_sCt, W_sExpr, W_sRet, W_sRetN, W_sIf, W_sAsg, W_sPar, W_sAug, W_eC, W_eVar, W_eBin, W_eUn, W_eArgs, W_aNil, W_aCons, W_eAnd, W_eOr, W_eNot, W_eIf, W_eChain, W_tVal, W_tBl, W_tAnd, W_tOr, W_tNot, W_tTrue, W_oNone, W_oSome, W_eSl, W_eRev, W_eMethL, W_eCall, W_iSeq, W_iRange1, W_iRange2, W_iEnumS, W_iZipS, W_sFor, W_eComp, W_lcStep, W_gV, W_gUnpackVV, W_newF, W_newT, W_some,
 kBody_rt, kBody_nx, kSeq_nx, kSeq_rt, kSeq_bk, kSeq_ct, kExp_, kRet_, kIf_t, kIf_f, kAsg_V, kPar_, kAug_, kB1_, kB2_, kU_, kN_, kC1_, kC2_, kAnd_T, kAnd_F, kOr_T, kOr_F, kNot_B, kCh1_, kCh2_, kCh3_t, kCh3_f, kTV_B, kTB_B, kTA_t, kTA_f, kTO_t, kTO_f, kTN_, kOS_, kSl1_, kSl2_, kSl3_, kM2_, kK1_, kK2_, kSq_tup, kSq_lst, kSq_str, kEn_tup, kEn_lst, kZp_tup, kZp_lst, kFor_, kTurn_nx, kTurn_ct, kTurn_bk, kTurn_rt, kComp_, kLcT_t, kLcT_f,
 setAll, wipeE, pick, List.getElem?_cons_zero, List.getElem?_cons_succ, List.set_cons_zero, List.set_cons_succ, List.map_cons, List.map_nil, List.replicate_succ, List.replicate_zero, List.cons_append, List.nil_append, List.append_nil, List.length_cons, List.length_nil, List.filterMap_cons, List.filterMap_nil,
 Nat.reduceAdd, Nat.reduceSub, Nat.reduceLeDiff, Nat.reduceEqDiff, and_self, if_true, if_false, opAdd_int, opSub_int, opGt_int, opLt_int, opGe_int, opLe_int, opEq_int, opEq_str, opEq_bl, opNe_int, opNe_bl, opNe_str, bInt_int, bInt_bl, bAbs_int, truD_bl, truD_int, W_fLst, W_fTup, pow18, bLen_tup, bLen_lst, bTuple_lst, bTuple_tup, bList_lst, bList_tup, recD]
          rw [all_and es ha]
          have ff : (((es.flatMap innerOf).map (rowD n)).all id) = es.all (rowsD n) := by
            rw [List.all_map, List.all_flatMap, Bool.eq_iff_iff, List.all_eq_true, List.all_eq_true]
            constructor
            · intro h d hd
              have := h d hd
              obtain ⟨a, b, rfl⟩ := two d hd
              exact this
            · intro h d hd
              have := h d hd
              obtain ⟨a, b, rfl⟩ := two d hd
              exact this
          rw [ff]
          exact ⟨rfl, trivial⟩
        · rw [List.length_nil, Nat.zero_add]; exact Nat.le_trans (Nat.mul_le_mul_right 2 hes) (by decide)
        · intro d hd
          obtain ⟨a, b, rfl⟩ := two d hd
          exact Nat.le_refl _
        · intro d hd
          obtain ⟨a, b, rfl⟩ := two d hd
          refine ⟨_, rfl, rfl, rfl, fun acc' => ?_⟩
          have hab := (cl_tup (cls_in hcs hd)).2
          rw [show innerOf (.tup [a, b]) = [a, b] from rfl, lc_pure (f := fun x => some (.bl (rowD n x))) rfl _ _ fun x hx => ?_]
          · rw [filterMap_some]
          · refine W_get ?_
            simp only [W_body, W_sSeq, W_sNx, W_sBk, W_sCt, W_sExpr, W_sRet, W_sRetN, W_sIf, W_sAsg, W_sPar, W_sAug, W_eC, W_eVar, W_eBin, W_eUn, W_eArgs, W_aNil, W_aCons, W_eAnd, W_eOr, W_eNot, W_eIf, W_eChain, W_tVal, W_tBl, W_tAnd, W_tOr, W_tNot, W_tTrue, W_oNone, W_oSome, W_eSl, W_eRev, W_eMethL, W_eCall, W_iSeq, W_iRange1, W_iRange2, W_iEnumS, W_iZipS, W_sFor, W_eComp, W_lcStep, W_gV, W_gUnpackVV, W_newF, W_newT, W_some,
 kBody_rt, kBody_nx, kSeq_nx, kSeq_rt, kSeq_bk, kSeq_ct, kExp_, kRet_, kIf_t, kIf_f, kAsg_V, kPar_, kAug_, kB1_, kB2_, kU_, kN_, kC1_, kC2_, kAnd_T, kAnd_F, kOr_T, kOr_F, kNot_B, kCh1_, kCh2_, kCh3_t, kCh3_f, kTV_B, kTB_B, kTA_t, kTA_f, kTO_t, kTO_f, kTN_, kOS_, kSl1_, kSl2_, kSl3_, kM2_, kK1_, kK2_, kSq_tup, kSq_lst, kSq_str, kEn_tup, kEn_lst, kZp_tup, kZp_lst, kFor_, kTurn_nx, kTurn_ct, kTurn_bk, kTurn_rt, kComp_, kLcT_t, kLcT_f,
 setAll, wipeE, pick, List.getElem?_cons_zero, List.getElem?_cons_succ, List.set_cons_zero, List.set_cons_succ, List.map_cons, List.map_nil, List.replicate_succ, List.replicate_zero, List.cons_append, List.nil_append, List.append_nil, List.length_cons, List.length_nil, List.filterMap_cons, List.filterMap_nil,
 Nat.reduceAdd, Nat.reduceSub, Nat.reduceLeDiff, Nat.reduceEqDiff, and_self, if_true, if_false, opAdd_int, opSub_int, opGt_int, opLt_int, opGe_int, opLe_int, opEq_int, opEq_str, opEq_bl, opNe_int, opNe_bl, opNe_str, bInt_int, bInt_bl, bAbs_int, truD_bl, truD_int, W_fLst, W_fTup, pow18, bLen_tup, bLen_lst, bTuple_lst, bTuple_tup, bList_lst, bList_tup, arenums_run h2 h1 h0 (cls_in hab hx)]
    · refine W_get ?_
      cases d with
      | ref i => have := cls_in hcs hd; cases this
      | lst q ds =>
        have := cls_in hcs hd
        cases q with
        | ext => cases this
        | frz => simp only [isi_non, isi_bl, isi_int, isi_str, isi_tup, isi_frz, isi_bor, List.any_cons, List.any_nil, isTy, reduceCtorEq, decide_true, decide_false, Bool.or_false, Bool.or_true, Bool.true_or, Bool.false_or, Bool.not_true, Bool.not_false, W_body, W_sSeq, W_sNx, W_sBk, W_sCt, W_sExpr, W_sRet, W_sRetN, W_sIf, W_sAsg, W_sPar, W_sAug, W_eC, W_eVar, W_eBin, W_eUn, W_eArgs, W_aNil, W_aCons, W_eAnd, W_eOr, W_eNot, W_eIf, W_eChain, W_tVal, W_tBl, W_tAnd, W_tOr, W_tNot, W_tTrue, W_oNone, W_oSome, W_eSl, W_eRev, W_eMethL, W_eCall, W_iSeq, W_iRange1, W_iRange2, W_iEnumS, W_iZipS, W_sFor, W_eComp, W_lcStep, W_gV, W_gUnpackVV, W_newF, W_newT, W_some,
 kBody_rt, kBody_nx, kSeq_nx, kSeq_rt, kSeq_bk, kSeq_ct, kExp_, kRet_, kIf_t, kIf_f, kAsg_V, kPar_, kAug_, kB1_, kB2_, kU_, kN_, kC1_, kC2_, kAnd_T, kAnd_F, kOr_T, kOr_F, kNot_B, kCh1_, kCh2_, kCh3_t, kCh3_f, kTV_B, kTB_B, kTA_t, kTA_f, kTO_t, kTO_f, kTN_, kOS_, kSl1_, kSl2_, kSl3_, kM2_, kK1_, kK2_, kSq_tup, kSq_lst, kSq_str, kEn_tup, kEn_lst, kZp_tup, kZp_lst, kFor_, kTurn_nx, kTurn_ct, kTurn_bk, kTurn_rt, kComp_, kLcT_t, kLcT_f,
 setAll, wipeE, pick, List.getElem?_cons_zero, List.getElem?_cons_succ, List.set_cons_zero, List.set_cons_succ, List.map_cons, List.map_nil, List.replicate_succ, List.replicate_zero, List.cons_append, List.nil_append, List.append_nil, List.length_cons, List.length_nil, List.filterMap_cons, List.filterMap_nil,
 Nat.reduceAdd, Nat.reduceSub, Nat.reduceLeDiff, Nat.reduceEqDiff, and_self, if_true, if_false, opAdd_int, opSub_int, opGt_int, opLt_int, opGe_int, opLe_int, opEq_int, opEq_str, opEq_bl, opNe_int, opNe_bl, opNe_str, bInt_int, bInt_bl, bAbs_int, truD_bl, truD_int, W_fLst, W_fTup, pow18, bLen_tup, bLen_lst, bTuple_lst, bTuple_tup, bList_lst, bList_tup, duoD]
        | bor => simp only [isi_non, isi_bl, isi_int, isi_str, isi_tup, isi_frz, isi_bor, List.any_cons, List.any_nil, isTy, reduceCtorEq, decide_true, decide_false, Bool.or_false, Bool.or_true, Bool.true_or, Bool.false_or, Bool.not_true, Bool.not_false, W_body, W_sSeq, W_sNx, W_sBk, W_sCt, W_sExpr, W_sRet, W_sRetN, W_sIf, W_sAsg, W_sPar, W_sAug, W_eC, W_eVar, W_eBin, W_eUn, W_eArgs, W_aNil, W_aCons, W_eAnd, W_eOr, W_eNot, W_eIf, W_eChain, W_tVal, W_tBl, W_tAnd, W_tOr, W_tNot, W_tTrue, W_oNone, W_oSome, W_eSl, W_eRev, W_eMethL, W_eCall, W_iSeq, W_iRange1, W_iRange2, W_iEnumS, W_iZipS, W_sFor, W_eComp, W_lcStep, W_gV, W_gUnpackVV, W_newF, W_newT, W_some,
 kBody_rt, kBody_nx, kSeq_nx, kSeq_rt, kSeq_bk, kSeq_ct, kExp_, kRet_, kIf_t, kIf_f, kAsg_V, kPar_, kAug_, kB1_, kB2_, kU_, kN_, kC1_, kC2_, kAnd_T, kAnd_F, kOr_T, kOr_F, kNot_B, kCh1_, kCh2_, kCh3_t, kCh3_f, kTV_B, kTB_B, kTA_t, kTA_f, kTO_t, kTO_f, kTN_, kOS_, kSl1_, kSl2_, kSl3_, kM2_, kK1_, kK2_, kSq_tup, kSq_lst, kSq_str, kEn_tup, kEn_lst, kZp_tup, kZp_lst, kFor_, kTurn_nx, kTurn_ct, kTurn_bk, kTurn_rt, kComp_, kLcT_t, kLcT_f,
 setAll, wipeE, pick, List.getElem?_cons_zero, List.getElem?_cons_succ, List.set_cons_zero, List.set_cons_succ, List.map_cons, List.map_nil, List.replicate_succ, List.replicate_zero, List.cons_append, List.nil_append, List.append_nil, List.length_cons, List.length_nil, List.filterMap_cons, List.filterMap_nil,
 Nat.reduceAdd, Nat.reduceSub, Nat.reduceLeDiff, Nat.reduceEqDiff, and_self, if_true, if_false, opAdd_int, opSub_int, opGt_int, opLt_int, opGe_int, opLe_int, opEq_int, opEq_str, opEq_bl, opNe_int, opNe_bl, opNe_str, bInt_int, bInt_bl, bAbs_int, truD_bl, truD_int, W_fLst, W_fTup, pow18, bLen_tup, bLen_lst, bTuple_lst, bTuple_tup, bList_lst, bList_tup, duoD]
      | tup xs =>
        simp only [isi_non, isi_bl, isi_int, isi_str, isi_tup, isi_frz, isi_bor, List.any_cons, List.any_nil, isTy, reduceCtorEq, decide_true, decide_false, Bool.or_false, Bool.or_true, Bool.true_or, Bool.false_or, Bool.not_true, Bool.not_false, W_body, W_sSeq, W_sNx, W_sBk, W_sCt, W_sExpr, W_sRet, W_sRetN, W_sIf, W_sAsg, W_sPar, W_sAug, W_eC, W_eVar, W_eBin, W_eUn, W_eArgs, W_aNil, W_aCons, W_eAnd, W_eOr, W_eNot, W_eIf, W_eChain, W_tVal, W_tBl, W_tAnd, W_tOr, W_tNot, W_tTrue, W_oNone, W_oSome, W_eSl, W_eRev, W_eMethL, W_eCall, W_iSeq, W_iRange1, W_iRange2, W_iEnumS, W_iZipS, W_sFor, W_eComp, W_lcStep, W_gV, W_gUnpackVV, W_newF, W_newT, W_some,
 kBody_rt, kBody_nx, kSeq_nx, kSeq_rt, kSeq_bk, kSeq_ct, kExp_, kRet_, kIf_t, kIf_f, kAsg_V, kPar_, kAug_, kB1_, kB2_, kU_, kN_, kC1_, kC2_, kAnd_T, kAnd_F, kOr_T, kOr_F, kNot_B, kCh1_, kCh2_, kCh3_t, kCh3_f, kTV_B, kTB_B, kTA_t, kTA_f, kTO_t, kTO_f, kTN_, kOS_, kSl1_, kSl2_, kSl3_, kM2_, kK1_, kK2_, kSq_tup, kSq_lst, kSq_str, kEn_tup, kEn_lst, kZp_tup, kZp_lst, kFor_, kTurn_nx, kTurn_ct, kTurn_bk, kTurn_rt, kComp_, kLcT_t, kLcT_f,
 setAll, wipeE, pick, List.getElem?_cons_zero, List.getElem?_cons_succ, List.set_cons_zero, List.set_cons_succ, List.map_cons, List.map_nil, List.replicate_succ, List.replicate_zero, List.cons_append, List.nil_append, List.append_nil, List.length_cons, List.length_nil, List.filterMap_cons, List.filterMap_nil,
 Nat.reduceAdd, Nat.reduceSub, Nat.reduceLeDiff, Nat.reduceEqDiff, and_self, if_true, if_false, opAdd_int, opSub_int, opGt_int, opLt_int, opGe_int, opLe_int, opEq_int, opEq_str, opEq_bl, opNe_int, opNe_bl, opNe_str, bInt_int, bInt_bl, bAbs_int, truD_bl, truD_int, W_fLst, W_fTup, pow18, bLen_tup, bLen_lst, bTuple_lst, bTuple_tup, bList_lst, bList_tup, duoD]
        simp only [show ((xs.length : Int) = 2) = (xs.length = 2) from propext ⟨fun h => by omega, fun h => by omega⟩]
        exact ⟨trivial, trivial⟩
      | _ => simp only [isi_non, isi_bl, isi_int, isi_str, isi_tup, isi_frz, isi_bor, List.any_cons, List.any_nil, isTy, reduceCtorEq, decide_true, decide_false, Bool.or_false, Bool.or_true, Bool.true_or, Bool.false_or, Bool.not_true, Bool.not_false, W_body, W_sSeq, W_sNx, W_sBk, W_sCt, W_sExpr, W_sRet, W_sRetN, W_sIf, W_sAsg, W_sPar, W_sAug, W_eC, W_eVar, W_eBin, W_eUn, W_eArgs, W_aNil, W_aCons, W_eAnd, W_eOr, W_eNot, W_eIf, W_eChain, W_tVal, W_tBl, W_tAnd, W_tOr, W_tNot, W_tTrue, W_oNone, W_oSome, W_eSl, W_eRev, W_eMethL, W_eCall, W_iSeq, W_iRange1, W_iRange2, W_iEnumS, W_iZipS, W_sFor, W_eComp, W_lcStep, W_gV, W_gUnpackVV, W_newF, W_newT, W_some,
 kBody_rt, kBody_nx, kSeq_nx, kSeq_rt, kSeq_bk, kSeq_ct, kExp_, kRet_, kIf_t, kIf_f, kAsg_V, kPar_, kAug_, kB1_, kB2_, kU_, kN_, kC1_, kC2_, kAnd_T, kAnd_F, kOr_T, kOr_F, kNot_B, kCh1_, kCh2_, kCh3_t, kCh3_f, kTV_B, kTB_B, kTA_t, kTA_f, kTO_t, kTO_f, kTN_, kOS_, kSl1_, kSl2_, kSl3_, kM2_, kK1_, kK2_, kSq_tup, kSq_lst, kSq_str, kEn_tup, kEn_lst, kZp_tup, kZp_lst, kFor_, kTurn_nx, kTurn_ct, kTurn_bk, kTurn_rt, kComp_, kLcT_t, kLcT_f,
 setAll, wipeE, pick, List.getElem?_cons_zero, List.getElem?_cons_succ, List.set_cons_zero, List.set_cons_succ, List.map_cons, List.map_nil, List.replicate_succ, List.replicate_zero, List.cons_append, List.nil_append, List.append_nil, List.length_cons, List.length_nil, List.filterMap_cons, List.filterMap_nil,
 Nat.reduceAdd, Nat.reduceSub, Nat.reduceLeDiff, Nat.reduceEqDiff, and_self, if_true, if_false, opAdd_int, opSub_int, opGt_int, opLt_int, opGe_int, opLe_int, opEq_int, opEq_str, opEq_bl, opNe_int, opNe_bl, opNe_str, bInt_int, bInt_bl, bAbs_int, truD_bl, truD_int, W_fLst, W_fTup, pow18, bLen_tup, bLen_lst, bTuple_lst, bTuple_tup, bList_lst, bList_tup, duoD]
  | _ => simp only [isi_non, isi_bl, isi_int, isi_str, isi_tup, isi_frz, isi_bor, List.any_cons, List.any_nil, isTy, reduceCtorEq, decide_true, decide_false, Bool.or_false, Bool.or_true, Bool.true_or, Bool.false_or, Bool.not_true, Bool.not_false, W_body, W_sSeq, W_sNx, W_sBk, W_sCt, W_sExpr, W_sRet, W_sRetN, W_sIf, W_sAsg, W_sPar, W_sAug, W_eC, W_eVar, W_eBin, W_eUn, W_eArgs, W_aNil, W_aCons, W_eAnd, W_eOr, W_eNot, W_eIf, W_eChain, W_tVal, W_tBl, W_tAnd, W_tOr, W_tNot, W_tTrue, W_oNone, W_oSome, W_eSl, W_eRev, W_eMethL, W_eCall, W_iSeq, W_iRange1, W_iRange2, W_iEnumS, W_iZipS, W_sFor, W_eComp, W_lcStep, W_gV, W_gUnpackVV, W_newF, W_newT, W_some,
 kBody_rt, kBody_nx, kSeq_nx, kSeq_rt, kSeq_bk, kSeq_ct, kExp_, kRet_, kIf_t, kIf_f, kAsg_V, kPar_, kAug_, kB1_, kB2_, kU_, kN_, kC1_, kC2_, kAnd_T, kAnd_F, kOr_T, kOr_F, kNot_B, kCh1_, kCh2_, kCh3_t, kCh3_f, kTV_B, kTB_B, kTA_t, kTA_f, kTO_t, kTO_f, kTN_, kOS_, kSl1_, kSl2_, kSl3_, kM2_, kK1_, kK2_, kSq_tup, kSq_lst, kSq_str, kEn_tup, kEn_lst, kZp_tup, kZp_lst, kFor_, kTurn_nx, kTurn_ct, kTurn_bk, kTurn_rt, kComp_, kLcT_t, kLcT_f,
 setAll, wipeE, pick, List.getElem?_cons_zero, List.getElem?_cons_succ, List.set_cons_zero, List.set_cons_succ, List.map_cons, List.map_nil, List.replicate_succ, List.replicate_zero, List.cons_append, List.nil_append, List.append_nil, List.length_cons, List.length_nil, List.filterMap_cons, List.filterMap_nil,
 Nat.reduceAdd, Nat.reduceSub, Nat.reduceLeDiff, Nat.reduceEqDiff, and_self, if_true, if_false, opAdd_int, opSub_int, opGt_int, opLt_int, opGe_int, opLe_int, opEq_int, opEq_str, opEq_bl, opNe_int, opNe_bl, opNe_str, bInt_int, bInt_bl, bAbs_int, truD_bl, truD_int, W_fLst, W_fTup, pow18, bLen_tup, bLen_lst, bTuple_lst, bTuple_tup, bList_lst, bList_tup, recD]
/-! ### the law's own rows, films -/
theorem inc_iff : ∀ {ns : List Int}, inc ns = true ↔ ns.Pairwise (· < ·)
  | [] => by simp [inc]
  | [a] => by simp [inc]
  | a :: b :: r => by
    have ih := inc_iff (ns := b :: r)
    simp only [inc, Bool.and_eq_true, decide_eq_true_eq]
    rw [ih]
    constructor
    · rintro ⟨h1, h2⟩
      refine List.pairwise_cons.mpr ⟨fun x hx => ?_, h2⟩
      rcases List.mem_cons.mp hx with rfl | hx
      · exact h1
      · exact Int.lt_trans h1 ((List.pairwise_cons.mp h2).1 x hx)
    · intro h
      exact ⟨(List.pairwise_cons.mp h).1 b List.mem_cons_self, (List.pairwise_cons.mp h).2⟩
theorem once_id : ∀ {ns : List Int}, ns.Nodup → once ns = ns
  | [], _ => rfl
  | x :: xs, h => by
    have h' := List.nodup_cons.mp h
    rw [once, once_id h'.2, if_neg h'.1]
theorem inc_sort {ns : List Int} : decide (ns = sortI (once ns)) = inc ns := by
  rw [Bool.eq_iff_iff, decide_eq_true_eq, inc_iff]
  constructor
  · intro h
    have s := sortI_sorted (once ns)
    have d : (sortI (once ns)).Nodup := (sortI_perm _).nodup_iff.mpr (once_nodup ns)
    rw [← h] at s d
    exact lt_of_le_nodup ns s d
  · intro h
    have d : ns.Nodup := h.imp fun h => by omega
    rw [once_id d]
    exact sortI_uniq (.refl _) (h.imp fun h => by omega)
def badD : D → Bool
  | .int _ => false
  | _ => true
theorem bad_ints : ∀ {es : List D}, (es.filter badD).isEmpty = (intsOf es).isSome
  | [] => rfl
  | .int i :: es => by
    have := bad_ints (es := es)
    rw [List.filter_cons_of_neg (by simp [badD]), this]
    simp only [intsOf]
    cases intsOf es <;> rfl
  | .non :: es => rfl
  | .bl _ :: es => rfl
  | .str _ :: es => rfl
  | .tup _ :: es => rfl
  | .lst _ _ :: es => rfl
  | .ref _ :: es => rfl
theorem sos_filter {p : D → Bool} : ∀ {es : List D}, sos es = true → sos (es.filter p) = true
  | [], _ => rfl
  | d :: es, h => by
    simp only [sos, Bool.and_eq_true] at h
    rw [List.filter_cons]
    split
    · simp only [sos, h.1, sos_filter h.2, Bool.and_self]
    · exact sos_filter h.2
theorem deps_filter {p : D → Bool} : ∀ {es : List D}, deps (es.filter p) ≤ deps es
  | [] => Nat.le_refl _
  | d :: es => by
    have := deps_filter (p := p) (es := es)
    rw [List.filter_cons]
    split
    · simp only [deps]; omega
    · simp only [deps]; omega
theorem opEq_ints {xs ys : List Int} {q q' : LK} {S : Sto} : opEq (.lst q (xs.map .int)) (.lst q' (ys.map .int)) S = some (.bl (decide (xs = ys)), S) := by
  have hs : ∀ (q : LK) (zs : List Int), so (.lst q (zs.map .int)) = true := fun q zs => by simp only [so]; exact sos_map fun _ _ => rfl
  have hd : ∀ (q : LK) (zs : List Int), dep (.lst q (zs.map .int)) ≤ 64 := fun q zs => by simp only [dep, deps_ints]; omega
  have e : ∀ (q : LK) (zs : List Int), toP S (.lst q (zs.map .int)) = some (pd (.lst q (zs.map .int))) := fun q zs => toP_pd (hs q zs)
  simp only [opEq, opEqF, opEqP, e]
  rw [shaped_pd (hs q xs) (hd q xs), shaped_pd (hs q' ys) (hd q' ys)]
  have key : ∀ xs ys : List Int, PyData.eqvAll (pds (xs.map .int)) (pds (ys.map .int)) = decide (xs = ys) := by
    intro xs
    induction xs with
    | nil => intro ys; cases ys <;> simp [pds, PyData.eqvAll]
    | cons x xs ih =>
      intro ys
      cases ys with
      | nil => simp [pds, PyData.eqvAll]
      | cons y ys =>
        simp only [List.map_cons, pds, PyData.eqvAll, pd, PyData.eqv, ih ys]
        rw [Bool.eq_iff_iff]
        simp
  simp only [Bool.and_self, if_true, pd, PyData.eqv, key]
def isrowSem : SemS := (sSeq (sIf (AW.tNot (tVal (eUn (opIsi [Ty.tup]) (eVar 0)))) (sRet (eC (D.bl false))) sNx) (sSeq (sIf (tBl (eBin opNe (eComp false (iSeq (eVar 0)) (gV 2) (AW.tOr (AW.tNot (tVal (eUn (opIsi [Ty.int]) (eVar 2)))) (tVal (eUn (opIsi [Ty.bl]) (eVar 2)))) (eVar 2) [2]) (eArgs (fLst false) aNil))) (sRet (eC (D.bl false))) sNx) (sRet (eAnd (eBin opEq (eArgs (bList false) (aCons (eVar 0) aNil)) (eUn (opSortSet false) (eVar 0))) (eBin opEq (eComp false (iSeq (eVar 0)) (gV 2) (AW.tOr (tBl (eBin opLt (eVar 2) (eC (D.int 0)))) (tBl (eBin opGe (eVar 2) (eVar 1)))) (eVar 2) [2]) (eArgs (fLst false) aNil))))))
theorem out_all {n : Int} {ns : List Int} : ((ns.filter fun i => decide (i < 0) || decide (n ≤ i)) = []) ↔ (ns.all fun i => decide (0 ≤ i) && decide (i < n)) = true := by
  rw [List.filter_eq_nil_iff, List.all_eq_true]
  constructor
  · intro h i hi
    have := h i hi
    simp only [Bool.or_eq_true, decide_eq_true_eq, not_or] at this
    simp only [Bool.and_eq_true, decide_eq_true_eq]
    omega
  · intro h i hi
    have := h i hi
    simp only [Bool.and_eq_true, decide_eq_true_eq] at this
    simp only [Bool.or_eq_true, decide_eq_true_eq, not_or]
    omega
theorem fm_map_filter {p : Int → Bool} (l : List Int) : l.filterMap (fun x => if p x = true then some (D.int x) else none) = (l.filter p).map .int := fm_filter l
theorem isrow_run {isrow : OpN} (h : isrow = body 3 isrowSem) {d : D} {n : Int} {S : Sto} (hc : cl d = true) (hs : so d = true) (hd : dep d ≤ 60) (hsm : ∀ es, d = .tup es → es.length ≤ 1000) : callP false isrow [d, .int n] S = some (.bl (rowD n d), S) := by
  rw [h]
  refine W_callE (d := .bl (rowD n d)) (Sc := []) (by simp only [pls, pl, cl_pl hc, Bool.and_self]) (W_get ?_) rfl
  unfold isrowSem
  cases d with
  | ref i => cases hc
  | lst q ds =>
    cases q with
    | ext => cases hc
    | frz => simp only [isi_non, isi_bl, isi_int, isi_str, isi_tup, isi_frz, isi_bor, List.any_cons, List.any_nil, isTy, reduceCtorEq, decide_true, decide_false, Bool.or_false, Bool.or_true, Bool.true_or, Bool.false_or, Bool.not_true, Bool.not_false, W_body, W_sSeq, W_sNx, W_sBk, W_sCt, W_sExpr, W_sRet, W_sRetN, W_sIf, W_sAsg, W_sPar, W_sAug, W_eC, W_eVar, W_eBin, W_eUn, W_eArgs, W_aNil, W_aCons, W_eAnd, W_eOr, W_eNot, W_eIf, W_eChain, W_tVal, W_tBl, W_tAnd, W_tOr, W_tNot, W_tTrue, W_oNone, W_oSome, W_eSl, W_eRev, W_eMethL, W_eCall, W_iSeq, W_iRange1, W_iRange2, W_iEnumS, W_iZipS, W_sFor, W_eComp, W_lcStep, W_gV, W_gUnpackVV, W_newF, W_newT, W_some,
 kBody_rt, kBody_nx, kSeq_nx, kSeq_rt, kSeq_bk, kSeq_ct, kExp_, kRet_, kIf_t, kIf_f, kAsg_V, kPar_, kAug_, kB1_, kB2_, kU_, kN_, kC1_, kC2_, kAnd_T, kAnd_F, kOr_T, kOr_F, kNot_B, kCh1_, kCh2_, kCh3_t, kCh3_f, kTV_B, kTB_B, kTA_t, kTA_f, kTO_t, kTO_f, kTN_, kOS_, kSl1_, kSl2_, kSl3_, kM2_, kK1_, kK2_, kSq_tup, kSq_lst, kSq_str, kEn_tup, kEn_lst, kZp_tup, kZp_lst, kFor_, kTurn_nx, kTurn_ct, kTurn_bk, kTurn_rt, kComp_, kLcT_t, kLcT_f,
 setAll, wipeE, pick, List.getElem?_cons_zero, List.getElem?_cons_succ, List.set_cons_zero, List.set_cons_succ, List.map_cons, List.map_nil, List.replicate_succ, List.replicate_zero, List.cons_append, List.nil_append, List.append_nil, List.length_cons, List.length_nil, List.filterMap_cons, List.filterMap_nil,
 Nat.reduceAdd, Nat.reduceSub, Nat.reduceLeDiff, Nat.reduceEqDiff, and_self, if_true, if_false, opAdd_int, opSub_int, opGt_int, opLt_int, opGe_int, opLe_int, opEq_int, opEq_str, opEq_bl, opNe_int, opNe_bl, opNe_str, bInt_int, bInt_bl, bAbs_int, truD_bl, truD_int, W_fLst, W_fTup, pow18, bLen_tup, bLen_lst, bTuple_lst, bTuple_tup, bList_lst, bList_tup, rowD]
    | bor => simp only [isi_non, isi_bl, isi_int, isi_str, isi_tup, isi_frz, isi_bor, List.any_cons, List.any_nil, isTy, reduceCtorEq, decide_true, decide_false, Bool.or_false, Bool.or_true, Bool.true_or, Bool.false_or, Bool.not_true, Bool.not_false, W_body, W_sSeq, W_sNx, W_sBk, W_sCt, W_sExpr, W_sRet, W_sRetN, W_sIf, W_sAsg, W_sPar, W_sAug, W_eC, W_eVar, W_eBin, W_eUn, W_eArgs, W_aNil, W_aCons, W_eAnd, W_eOr, W_eNot, W_eIf, W_eChain, W_tVal, W_tBl, W_tAnd, W_tOr, W_tNot, W_tTrue, W_oNone, W_oSome, W_eSl, W_eRev, W_eMethL, W_eCall, W_iSeq, W_iRange1, W_iRange2, W_iEnumS, W_iZipS, W_sFor, W_eComp, W_lcStep, W_gV, W_gUnpackVV, W_newF, W_newT, W_some,
 kBody_rt, kBody_nx, kSeq_nx, kSeq_rt, kSeq_bk, kSeq_ct, kExp_, kRet_, kIf_t, kIf_f, kAsg_V, kPar_, kAug_, kB1_, kB2_, kU_, kN_, kC1_, kC2_, kAnd_T, kAnd_F, kOr_T, kOr_F, kNot_B, kCh1_, kCh2_, kCh3_t, kCh3_f, kTV_B, kTB_B, kTA_t, kTA_f, kTO_t, kTO_f, kTN_, kOS_, kSl1_, kSl2_, kSl3_, kM2_, kK1_, kK2_, kSq_tup, kSq_lst, kSq_str, kEn_tup, kEn_lst, kZp_tup, kZp_lst, kFor_, kTurn_nx, kTurn_ct, kTurn_bk, kTurn_rt, kComp_, kLcT_t, kLcT_f,
 setAll, wipeE, pick, List.getElem?_cons_zero, List.getElem?_cons_succ, List.set_cons_zero, List.set_cons_succ, List.map_cons, List.map_nil, List.replicate_succ, List.replicate_zero, List.cons_append, List.nil_append, List.append_nil, List.length_cons, List.length_nil, List.filterMap_cons, List.filterMap_nil,
 Nat.reduceAdd, Nat.reduceSub, Nat.reduceLeDiff, Nat.reduceEqDiff, and_self, if_true, if_false, opAdd_int, opSub_int, opGt_int, opLt_int, opGe_int, opLe_int, opEq_int, opEq_str, opEq_bl, opNe_int, opNe_bl, opNe_str, bInt_int, bInt_bl, bAbs_int, truD_bl, truD_int, W_fLst, W_fTup, pow18, bLen_tup, bLen_lst, bTuple_lst, bTuple_tup, bList_lst, bList_tup, rowD]
  | tup es =>
    obtain ⟨hl, hcs⟩ := cl_tup hc
    have hes := hsm es rfl
    have hss : sos es = true := by simpa only [so] using hs
    simp only [dep] at hd
    simp only [isi_non, isi_bl, isi_int, isi_str, isi_tup, isi_frz, isi_bor, List.any_cons, List.any_nil, isTy, reduceCtorEq, decide_true, decide_false, Bool.or_false, Bool.or_true, Bool.true_or, Bool.false_or, Bool.not_true, Bool.not_false, W_body, W_sSeq, W_sNx, W_sBk, W_sCt, W_sExpr, W_sRet, W_sRetN, W_sIf, W_sAsg, W_sPar, W_sAug, W_eC, W_eVar, W_eBin, W_eUn, W_eArgs, W_aNil, W_aCons, W_eAnd, W_eOr, W_eNot, W_eIf, W_eChain, W_tVal, W_tBl, W_tAnd, W_tOr, W_tNot, W_tTrue, W_oNone, W_oSome, W_eSl, W_eRev, W_eMethL, W_eCall, W_iSeq, W_iRange1, W_iRange2, W_iEnumS, W_iZipS, W_sFor, W_eComp, W_lcStep, W_gV, W_gUnpackVV, W_newF, W_newT, W_some,
 kBody_rt, kBody_nx, kSeq_nx, kSeq_rt, kSeq_bk, kSeq_ct, kExp_, kRet_, kIf_t, kIf_f, kAsg_V, kPar_, kAug_, kB1_, kB2_, kU_, kN_, kC1_, kC2_, kAnd_T, kAnd_F, kOr_T, kOr_F, kNot_B, kCh1_, kCh2_, kCh3_t, kCh3_f, kTV_B, kTB_B, kTA_t, kTA_f, kTO_t, kTO_f, kTN_, kOS_, kSl1_, kSl2_, kSl3_, kM2_, kK1_, kK2_, kSq_tup, kSq_lst, kSq_str, kEn_tup, kEn_lst, kZp_tup, kZp_lst, kFor_, kTurn_nx, kTurn_ct, kTurn_bk, kTurn_rt, kComp_, kLcT_t, kLcT_f,
 setAll, wipeE, pick, List.getElem?_cons_zero, List.getElem?_cons_succ, List.set_cons_zero, List.set_cons_succ, List.map_cons, List.map_nil, List.replicate_succ, List.replicate_zero, List.cons_append, List.nil_append, List.append_nil, List.length_cons, List.length_nil, List.filterMap_cons, List.filterMap_nil,
 Nat.reduceAdd, Nat.reduceSub, Nat.reduceLeDiff, Nat.reduceEqDiff, and_self, if_true, if_false, opAdd_int, opSub_int, opGt_int, opLt_int, opGe_int, opLe_int, opEq_int, opEq_str, opEq_bl, opNe_int, opNe_bl, opNe_str, bInt_int, bInt_bl, bAbs_int, truD_bl, truD_int, W_fLst, W_fTup, pow18, bLen_tup, bLen_lst, bTuple_lst, bTuple_tup, bList_lst, bList_tup]
    refine ⟨hl, ?_⟩
    rw [lc_pure (f := fun d => if badD d = true then some d else none) rfl _ _ fun d hd => ?_]
    · have fe : es.filterMap (fun d => if badD d = true then some d else none) = es.filter badD := by
        rw [fm_filter (g := fun d => d), List.map_id']
      rw [List.nil_append, fe, W_some, opNe_nil (sos_filter hss) (Nat.le_trans deps_filter (by omega)), bad_ints]
      cases hi : intsOf es with
      | none => simp only [isi_non, isi_bl, isi_int, isi_str, isi_tup, isi_frz, isi_bor, List.any_cons, List.any_nil, isTy, reduceCtorEq, decide_true, decide_false, Bool.or_false, Bool.or_true, Bool.true_or, Bool.false_or, Bool.not_true, Bool.not_false, W_body, W_sSeq, W_sNx, W_sBk, W_sCt, W_sExpr, W_sRet, W_sRetN, W_sIf, W_sAsg, W_sPar, W_sAug, W_eC, W_eVar, W_eBin, W_eUn, W_eArgs, W_aNil, W_aCons, W_eAnd, W_eOr, W_eNot, W_eIf, W_eChain, W_tVal, W_tBl, W_tAnd, W_tOr, W_tNot, W_tTrue, W_oNone, W_oSome, W_eSl, W_eRev, W_eMethL, W_eCall, W_iSeq, W_iRange1, W_iRange2, W_iEnumS, W_iZipS, W_sFor, W_eComp, W_lcStep, W_gV, W_gUnpackVV, W_newF, W_newT, W_some,
 kBody_rt, kBody_nx, kSeq_nx, kSeq_rt, kSeq_bk, kSeq_ct, kExp_, kRet_, kIf_t, kIf_f, kAsg_V, kPar_, kAug_, kB1_, kB2_, kU_, kN_, kC1_, kC2_, kAnd_T, kAnd_F, kOr_T, kOr_F, kNot_B, kCh1_, kCh2_, kCh3_t, kCh3_f, kTV_B, kTB_B, kTA_t, kTA_f, kTO_t, kTO_f, kTN_, kOS_, kSl1_, kSl2_, kSl3_, kM2_, kK1_, kK2_, kSq_tup, kSq_lst, kSq_str, kEn_tup, kEn_lst, kZp_tup, kZp_lst, kFor_, kTurn_nx, kTurn_ct, kTurn_bk, kTurn_rt, kComp_, kLcT_t, kLcT_f,
 setAll, wipeE, pick, List.getElem?_cons_zero, List.getElem?_cons_succ, List.set_cons_zero, List.set_cons_succ, List.map_cons, List.map_nil, List.replicate_succ, List.replicate_zero, List.cons_append, List.nil_append, List.append_nil, List.length_cons, List.length_nil, List.filterMap_cons, List.filterMap_nil,
 Nat.reduceAdd, Nat.reduceSub, Nat.reduceLeDiff, Nat.reduceEqDiff, and_self, if_true, if_false, opAdd_int, opSub_int, opGt_int, opLt_int, opGe_int, opLe_int, opEq_int, opEq_str, opEq_bl, opNe_int, opNe_bl, opNe_str, bInt_int, bInt_bl, bAbs_int, truD_bl, truD_int, W_fLst, W_fTup, pow18, bLen_tup, bLen_lst, bTuple_lst, bTuple_tup, bList_lst, bList_tup, Option.isSome_none, rowD, hi]
      | some ns =>
        have es' := intsOf_eq hi
        subst es'
        have hns : ns.length ≤ 1000 := by simpa using hes
        have e1 : ∀ S : Sto, opSortSet false (.tup (ns.map D.int)) S = some (.lst .frz ((sortI (once ns)).map .int), S) := fun S => by
          unfold opSortSet
          simp only [seqOf]
          rw [if_pos (by rw [List.length_map]; exact hns)]
          cases ns with
          | nil => rfl
          | cons m ns =>
            rw [show strsOf ((m :: ns).map D.int) = none from rfl, hi]
            rfl
        simp only [isi_non, isi_bl, isi_int, isi_str, isi_tup, isi_frz, isi_bor, List.any_cons, List.any_nil, isTy, reduceCtorEq, decide_true, decide_false, Bool.or_false, Bool.or_true, Bool.true_or, Bool.false_or, Bool.not_true, Bool.not_false, W_body, W_sSeq, W_sNx, W_sBk, W_sCt, W_sExpr, W_sRet, W_sRetN, W_sIf, W_sAsg, W_sPar, W_sAug, W_eC, W_eVar, W_eBin, W_eUn, W_eArgs, W_aNil, W_aCons, W_eAnd, W_eOr, W_eNot, W_eIf, W_eChain, W_tVal, W_tBl, W_tAnd, W_tOr, W_tNot, W_tTrue, W_oNone, W_oSome, W_eSl, W_eRev, W_eMethL, W_eCall, W_iSeq, W_iRange1, W_iRange2, W_iEnumS, W_iZipS, W_sFor, W_eComp, W_lcStep, W_gV, W_gUnpackVV, W_newF, W_newT, W_some,
 kBody_rt, kBody_nx, kSeq_nx, kSeq_rt, kSeq_bk, kSeq_ct, kExp_, kRet_, kIf_t, kIf_f, kAsg_V, kPar_, kAug_, kB1_, kB2_, kU_, kN_, kC1_, kC2_, kAnd_T, kAnd_F, kOr_T, kOr_F, kNot_B, kCh1_, kCh2_, kCh3_t, kCh3_f, kTV_B, kTB_B, kTA_t, kTA_f, kTO_t, kTO_f, kTN_, kOS_, kSl1_, kSl2_, kSl3_, kM2_, kK1_, kK2_, kSq_tup, kSq_lst, kSq_str, kEn_tup, kEn_lst, kZp_tup, kZp_lst, kFor_, kTurn_nx, kTurn_ct, kTurn_bk, kTurn_rt, kComp_, kLcT_t, kLcT_f,
 setAll, wipeE, pick, List.getElem?_cons_zero, List.getElem?_cons_succ, List.set_cons_zero, List.set_cons_succ, List.map_cons, List.map_nil, List.replicate_succ, List.replicate_zero, List.cons_append, List.nil_append, List.append_nil, List.length_cons, List.length_nil, List.filterMap_cons, List.filterMap_nil,
 Nat.reduceAdd, Nat.reduceSub, Nat.reduceLeDiff, Nat.reduceEqDiff, and_self, if_true, if_false, opAdd_int, opSub_int, opGt_int, opLt_int, opGe_int, opLe_int, opEq_int, opEq_str, opEq_bl, opNe_int, opNe_bl, opNe_str, bInt_int, bInt_bl, bAbs_int, truD_bl, truD_int, W_fLst, W_fTup, pow18, bLen_tup, bLen_lst, bTuple_lst, bTuple_tup, bList_lst, bList_tup, Option.isSome_some]
        rw [e1, W_some]
        simp only [W_body, W_sSeq, W_sNx, W_sBk, W_sCt, W_sExpr, W_sRet, W_sRetN, W_sIf, W_sAsg, W_sPar, W_sAug, W_eC, W_eVar, W_eBin, W_eUn, W_eArgs, W_aNil, W_aCons, W_eAnd, W_eOr, W_eNot, W_eIf, W_eChain, W_tVal, W_tBl, W_tAnd, W_tOr, W_tNot, W_tTrue, W_oNone, W_oSome, W_eSl, W_eRev, W_eMethL, W_eCall, W_iSeq, W_iRange1, W_iRange2, W_iEnumS, W_iZipS, W_sFor, W_eComp, W_lcStep, W_gV, W_gUnpackVV, W_newF, W_newT, W_some,
 kBody_rt, kBody_nx, kSeq_nx, kSeq_rt, kSeq_bk, kSeq_ct, kExp_, kRet_, kIf_t, kIf_f, kAsg_V, kPar_, kAug_, kB1_, kB2_, kU_, kN_, kC1_, kC2_, kAnd_T, kAnd_F, kOr_T, kOr_F, kNot_B, kCh1_, kCh2_, kCh3_t, kCh3_f, kTV_B, kTB_B, kTA_t, kTA_f, kTO_t, kTO_f, kTN_, kOS_, kSl1_, kSl2_, kSl3_, kM2_, kK1_, kK2_, kSq_tup, kSq_lst, kSq_str, kEn_tup, kEn_lst, kZp_tup, kZp_lst, kFor_, kTurn_nx, kTurn_ct, kTurn_bk, kTurn_rt, kComp_, kLcT_t, kLcT_f,
 setAll, wipeE, pick, List.getElem?_cons_zero, List.getElem?_cons_succ, List.set_cons_zero, List.set_cons_succ, List.map_cons, List.map_nil, List.replicate_succ, List.replicate_zero, List.cons_append, List.nil_append, List.append_nil, List.length_cons, List.length_nil, List.filterMap_cons, List.filterMap_nil,
 Nat.reduceAdd, Nat.reduceSub, Nat.reduceLeDiff, Nat.reduceEqDiff, and_self, if_true, if_false, opAdd_int, opSub_int, opGt_int, opLt_int, opGe_int, opLe_int, opEq_int, opEq_str, opEq_bl, opNe_int, opNe_bl, opNe_str, bInt_int, bInt_bl, bAbs_int, truD_bl, truD_int, W_fLst, W_fTup, pow18, bLen_tup, bLen_lst, bTuple_lst, bTuple_tup, bList_lst, bList_tup]
        rw [opEq_ints, W_some, inc_sort]
        cases hi2 : inc ns with
        | false =>
          simp only [W_body, W_sSeq, W_sNx, W_sBk, W_sCt, W_sExpr, W_sRet, W_sRetN, W_sIf, W_sAsg, W_sPar, W_sAug, W_eC, W_eVar, W_eBin, W_eUn, W_eArgs, W_aNil, W_aCons, W_eAnd, W_eOr, W_eNot, W_eIf, W_eChain, W_tVal, W_tBl, W_tAnd, W_tOr, W_tNot, W_tTrue, W_oNone, W_oSome, W_eSl, W_eRev, W_eMethL, W_eCall, W_iSeq, W_iRange1, W_iRange2, W_iEnumS, W_iZipS, W_sFor, W_eComp, W_lcStep, W_gV, W_gUnpackVV, W_newF, W_newT, W_some,
 kBody_rt, kBody_nx, kSeq_nx, kSeq_rt, kSeq_bk, kSeq_ct, kExp_, kRet_, kIf_t, kIf_f, kAsg_V, kPar_, kAug_, kB1_, kB2_, kU_, kN_, kC1_, kC2_, kAnd_T, kAnd_F, kOr_T, kOr_F, kNot_B, kCh1_, kCh2_, kCh3_t, kCh3_f, kTV_B, kTB_B, kTA_t, kTA_f, kTO_t, kTO_f, kTN_, kOS_, kSl1_, kSl2_, kSl3_, kM2_, kK1_, kK2_, kSq_tup, kSq_lst, kSq_str, kEn_tup, kEn_lst, kZp_tup, kZp_lst, kFor_, kTurn_nx, kTurn_ct, kTurn_bk, kTurn_rt, kComp_, kLcT_t, kLcT_f,
 setAll, wipeE, pick, List.getElem?_cons_zero, List.getElem?_cons_succ, List.set_cons_zero, List.set_cons_succ, List.map_cons, List.map_nil, List.replicate_succ, List.replicate_zero, List.cons_append, List.nil_append, List.append_nil, List.length_cons, List.length_nil, List.filterMap_cons, List.filterMap_nil,
 Nat.reduceAdd, Nat.reduceSub, Nat.reduceLeDiff, Nat.reduceEqDiff, and_self, if_true, if_false, opAdd_int, opSub_int, opGt_int, opLt_int, opGe_int, opLe_int, opEq_int, opEq_str, opEq_bl, opNe_int, opNe_bl, opNe_str, bInt_int, bInt_bl, bAbs_int, truD_bl, truD_int, W_fLst, W_fTup, pow18, bLen_tup, bLen_lst, bTuple_lst, bTuple_tup, bList_lst, bList_tup, rowD, hi, rowI, hi2, Bool.and_false]
        | true =>
          simp only [W_body, W_sSeq, W_sNx, W_sBk, W_sCt, W_sExpr, W_sRet, W_sRetN, W_sIf, W_sAsg, W_sPar, W_sAug, W_eC, W_eVar, W_eBin, W_eUn, W_eArgs, W_aNil, W_aCons, W_eAnd, W_eOr, W_eNot, W_eIf, W_eChain, W_tVal, W_tBl, W_tAnd, W_tOr, W_tNot, W_tTrue, W_oNone, W_oSome, W_eSl, W_eRev, W_eMethL, W_eCall, W_iSeq, W_iRange1, W_iRange2, W_iEnumS, W_iZipS, W_sFor, W_eComp, W_lcStep, W_gV, W_gUnpackVV, W_newF, W_newT, W_some,
 kBody_rt, kBody_nx, kSeq_nx, kSeq_rt, kSeq_bk, kSeq_ct, kExp_, kRet_, kIf_t, kIf_f, kAsg_V, kPar_, kAug_, kB1_, kB2_, kU_, kN_, kC1_, kC2_, kAnd_T, kAnd_F, kOr_T, kOr_F, kNot_B, kCh1_, kCh2_, kCh3_t, kCh3_f, kTV_B, kTB_B, kTA_t, kTA_f, kTO_t, kTO_f, kTN_, kOS_, kSl1_, kSl2_, kSl3_, kM2_, kK1_, kK2_, kSq_tup, kSq_lst, kSq_str, kEn_tup, kEn_lst, kZp_tup, kZp_lst, kFor_, kTurn_nx, kTurn_ct, kTurn_bk, kTurn_rt, kComp_, kLcT_t, kLcT_f,
 setAll, wipeE, pick, List.getElem?_cons_zero, List.getElem?_cons_succ, List.set_cons_zero, List.set_cons_succ, List.map_cons, List.map_nil, List.replicate_succ, List.replicate_zero, List.cons_append, List.nil_append, List.append_nil, List.length_cons, List.length_nil, List.filterMap_cons, List.filterMap_nil,
 Nat.reduceAdd, Nat.reduceSub, Nat.reduceLeDiff, Nat.reduceEqDiff, and_self, if_true, if_false, opAdd_int, opSub_int, opGt_int, opLt_int, opGe_int, opLe_int, opEq_int, opEq_str, opEq_bl, opNe_int, opNe_bl, opNe_str, bInt_int, bInt_bl, bAbs_int, truD_bl, truD_int, W_fLst, W_fTup, pow18, bLen_tup, bLen_lst, bTuple_lst, bTuple_tup, bList_lst, bList_tup]
          refine ⟨by rw [List.length_map]; exact Nat.le_trans hns (by decide), ?_⟩
          rw [lc_map (f := fun i => if (decide (i < 0) || decide (n ≤ i)) = true then some (.int i) else none) rfl _ _ fun i _ => ?_]
          · rw [List.nil_append, fm_map_filter, W_some, show ([] : List D) = ([] : List Int).map .int from rfl, opEq_ints]
            simp only [W_body, W_sSeq, W_sNx, W_sBk, W_sCt, W_sExpr, W_sRet, W_sRetN, W_sIf, W_sAsg, W_sPar, W_sAug, W_eC, W_eVar, W_eBin, W_eUn, W_eArgs, W_aNil, W_aCons, W_eAnd, W_eOr, W_eNot, W_eIf, W_eChain, W_tVal, W_tBl, W_tAnd, W_tOr, W_tNot, W_tTrue, W_oNone, W_oSome, W_eSl, W_eRev, W_eMethL, W_eCall, W_iSeq, W_iRange1, W_iRange2, W_iEnumS, W_iZipS, W_sFor, W_eComp, W_lcStep, W_gV, W_gUnpackVV, W_newF, W_newT, W_some,
 kBody_rt, kBody_nx, kSeq_nx, kSeq_rt, kSeq_bk, kSeq_ct, kExp_, kRet_, kIf_t, kIf_f, kAsg_V, kPar_, kAug_, kB1_, kB2_, kU_, kN_, kC1_, kC2_, kAnd_T, kAnd_F, kOr_T, kOr_F, kNot_B, kCh1_, kCh2_, kCh3_t, kCh3_f, kTV_B, kTB_B, kTA_t, kTA_f, kTO_t, kTO_f, kTN_, kOS_, kSl1_, kSl2_, kSl3_, kM2_, kK1_, kK2_, kSq_tup, kSq_lst, kSq_str, kEn_tup, kEn_lst, kZp_tup, kZp_lst, kFor_, kTurn_nx, kTurn_ct, kTurn_bk, kTurn_rt, kComp_, kLcT_t, kLcT_f,
 setAll, wipeE, pick, List.getElem?_cons_zero, List.getElem?_cons_succ, List.set_cons_zero, List.set_cons_succ, List.map_cons, List.map_nil, List.replicate_succ, List.replicate_zero, List.cons_append, List.nil_append, List.append_nil, List.length_cons, List.length_nil, List.filterMap_cons, List.filterMap_nil,
 Nat.reduceAdd, Nat.reduceSub, Nat.reduceLeDiff, Nat.reduceEqDiff, and_self, if_true, if_false, opAdd_int, opSub_int, opGt_int, opLt_int, opGe_int, opLe_int, opEq_int, opEq_str, opEq_bl, opNe_int, opNe_bl, opNe_str, bInt_int, bInt_bl, bAbs_int, truD_bl, truD_int, W_fLst, W_fTup, pow18, bLen_tup, bLen_lst, bTuple_lst, bTuple_tup, bList_lst, bList_tup, rowD, hi, rowI, hi2, Bool.and_true]
            refine ⟨?_, trivial⟩
            rw [D.bl.injEq, Bool.eq_iff_iff, decide_eq_true_eq]
            exact out_all
          · refine W_get ?_
            simp only [W_body, W_sSeq, W_sNx, W_sBk, W_sCt, W_sExpr, W_sRet, W_sRetN, W_sIf, W_sAsg, W_sPar, W_sAug, W_eC, W_eVar, W_eBin, W_eUn, W_eArgs, W_aNil, W_aCons, W_eAnd, W_eOr, W_eNot, W_eIf, W_eChain, W_tVal, W_tBl, W_tAnd, W_tOr, W_tNot, W_tTrue, W_oNone, W_oSome, W_eSl, W_eRev, W_eMethL, W_eCall, W_iSeq, W_iRange1, W_iRange2, W_iEnumS, W_iZipS, W_sFor, W_eComp, W_lcStep, W_gV, W_gUnpackVV, W_newF, W_newT, W_some,
 kBody_rt, kBody_nx, kSeq_nx, kSeq_rt, kSeq_bk, kSeq_ct, kExp_, kRet_, kIf_t, kIf_f, kAsg_V, kPar_, kAug_, kB1_, kB2_, kU_, kN_, kC1_, kC2_, kAnd_T, kAnd_F, kOr_T, kOr_F, kNot_B, kCh1_, kCh2_, kCh3_t, kCh3_f, kTV_B, kTB_B, kTA_t, kTA_f, kTO_t, kTO_f, kTN_, kOS_, kSl1_, kSl2_, kSl3_, kM2_, kK1_, kK2_, kSq_tup, kSq_lst, kSq_str, kEn_tup, kEn_lst, kZp_tup, kZp_lst, kFor_, kTurn_nx, kTurn_ct, kTurn_bk, kTurn_rt, kComp_, kLcT_t, kLcT_f,
 setAll, wipeE, pick, List.getElem?_cons_zero, List.getElem?_cons_succ, List.set_cons_zero, List.set_cons_succ, List.map_cons, List.map_nil, List.replicate_succ, List.replicate_zero, List.cons_append, List.nil_append, List.append_nil, List.length_cons, List.length_nil, List.filterMap_cons, List.filterMap_nil,
 Nat.reduceAdd, Nat.reduceSub, Nat.reduceLeDiff, Nat.reduceEqDiff, and_self, if_true, if_false, opAdd_int, opSub_int, opGt_int, opLt_int, opGe_int, opLe_int, opEq_int, opEq_str, opEq_bl, opNe_int, opNe_bl, opNe_str, bInt_int, bInt_bl, bAbs_int, truD_bl, truD_int, W_fLst, W_fTup, pow18, bLen_tup, bLen_lst, bTuple_lst, bTuple_tup, bList_lst, bList_tup]
            refine kTO_any (fun h => ?_) fun h => ?_
            · simp only [W_body, W_sSeq, W_sNx, W_sBk, W_sCt, W_sExpr, W_sRet, W_sRetN, W_sIf, W_sAsg, W_sPar, W_sAug, W_eC, W_eVar, W_eBin, W_eUn, W_eArgs, W_aNil, W_aCons, W_eAnd, W_eOr, W_eNot, W_eIf, W_eChain, W_tVal, W_tBl, W_tAnd, W_tOr, W_tNot, W_tTrue, W_oNone, W_oSome, W_eSl, W_eRev, W_eMethL, W_eCall, W_iSeq, W_iRange1, W_iRange2, W_iEnumS, W_iZipS, W_sFor, W_eComp, W_lcStep, W_gV, W_gUnpackVV, W_newF, W_newT, W_some,
 kBody_rt, kBody_nx, kSeq_nx, kSeq_rt, kSeq_bk, kSeq_ct, kExp_, kRet_, kIf_t, kIf_f, kAsg_V, kPar_, kAug_, kB1_, kB2_, kU_, kN_, kC1_, kC2_, kAnd_T, kAnd_F, kOr_T, kOr_F, kNot_B, kCh1_, kCh2_, kCh3_t, kCh3_f, kTV_B, kTB_B, kTA_t, kTA_f, kTO_t, kTO_f, kTN_, kOS_, kSl1_, kSl2_, kSl3_, kM2_, kK1_, kK2_, kSq_tup, kSq_lst, kSq_str, kEn_tup, kEn_lst, kZp_tup, kZp_lst, kFor_, kTurn_nx, kTurn_ct, kTurn_bk, kTurn_rt, kComp_, kLcT_t, kLcT_f,
 setAll, wipeE, pick, List.getElem?_cons_zero, List.getElem?_cons_succ, List.set_cons_zero, List.set_cons_succ, List.map_cons, List.map_nil, List.replicate_succ, List.replicate_zero, List.cons_append, List.nil_append, List.append_nil, List.length_cons, List.length_nil, List.filterMap_cons, List.filterMap_nil,
 Nat.reduceAdd, Nat.reduceSub, Nat.reduceLeDiff, Nat.reduceEqDiff, and_self, if_true, if_false, opAdd_int, opSub_int, opGt_int, opLt_int, opGe_int, opLe_int, opEq_int, opEq_str, opEq_bl, opNe_int, opNe_bl, opNe_str, bInt_int, bInt_bl, bAbs_int, truD_bl, truD_int, W_fLst, W_fTup, pow18, bLen_tup, bLen_lst, bTuple_lst, bTuple_tup, bList_lst, bList_tup, h, Bool.true_or]
            · simp only [W_body, W_sSeq, W_sNx, W_sBk, W_sCt, W_sExpr, W_sRet, W_sRetN, W_sIf, W_sAsg, W_sPar, W_sAug, W_eC, W_eVar, W_eBin, W_eUn, W_eArgs, W_aNil, W_aCons, W_eAnd, W_eOr, W_eNot, W_eIf, W_eChain, W_tVal, W_tBl, W_tAnd, W_tOr, W_tNot, W_tTrue, W_oNone, W_oSome, W_eSl, W_eRev, W_eMethL, W_eCall, W_iSeq, W_iRange1, W_iRange2, W_iEnumS, W_iZipS, W_sFor, W_eComp, W_lcStep, W_gV, W_gUnpackVV, W_newF, W_newT, W_some,
 kBody_rt, kBody_nx, kSeq_nx, kSeq_rt, kSeq_bk, kSeq_ct, kExp_, kRet_, kIf_t, kIf_f, kAsg_V, kPar_, kAug_, kB1_, kB2_, kU_, kN_, kC1_, kC2_, kAnd_T, kAnd_F, kOr_T, kOr_F, kNot_B, kCh1_, kCh2_, kCh3_t, kCh3_f, kTV_B, kTB_B, kTA_t, kTA_f, kTO_t, kTO_f, kTN_, kOS_, kSl1_, kSl2_, kSl3_, kM2_, kK1_, kK2_, kSq_tup, kSq_lst, kSq_str, kEn_tup, kEn_lst, kZp_tup, kZp_lst, kFor_, kTurn_nx, kTurn_ct, kTurn_bk, kTurn_rt, kComp_, kLcT_t, kLcT_f,
 setAll, wipeE, pick, List.getElem?_cons_zero, List.getElem?_cons_succ, List.set_cons_zero, List.set_cons_succ, List.map_cons, List.map_nil, List.replicate_succ, List.replicate_zero, List.cons_append, List.nil_append, List.append_nil, List.length_cons, List.length_nil, List.filterMap_cons, List.filterMap_nil,
 Nat.reduceAdd, Nat.reduceSub, Nat.reduceLeDiff, Nat.reduceEqDiff, and_self, if_true, if_false, opAdd_int, opSub_int, opGt_int, opLt_int, opGe_int, opLe_int, opEq_int, opEq_str, opEq_bl, opNe_int, opNe_bl, opNe_str, bInt_int, bInt_bl, bAbs_int, truD_bl, truD_int, W_fLst, W_fTup, pow18, bLen_tup, bLen_lst, bTuple_lst, bTuple_tup, bList_lst, bList_tup, h, Bool.false_or]
              refine kLcT_any (fun h => ?_) fun h => ?_
              · simp only [W_body, W_sSeq, W_sNx, W_sBk, W_sCt, W_sExpr, W_sRet, W_sRetN, W_sIf, W_sAsg, W_sPar, W_sAug, W_eC, W_eVar, W_eBin, W_eUn, W_eArgs, W_aNil, W_aCons, W_eAnd, W_eOr, W_eNot, W_eIf, W_eChain, W_tVal, W_tBl, W_tAnd, W_tOr, W_tNot, W_tTrue, W_oNone, W_oSome, W_eSl, W_eRev, W_eMethL, W_eCall, W_iSeq, W_iRange1, W_iRange2, W_iEnumS, W_iZipS, W_sFor, W_eComp, W_lcStep, W_gV, W_gUnpackVV, W_newF, W_newT, W_some,
 kBody_rt, kBody_nx, kSeq_nx, kSeq_rt, kSeq_bk, kSeq_ct, kExp_, kRet_, kIf_t, kIf_f, kAsg_V, kPar_, kAug_, kB1_, kB2_, kU_, kN_, kC1_, kC2_, kAnd_T, kAnd_F, kOr_T, kOr_F, kNot_B, kCh1_, kCh2_, kCh3_t, kCh3_f, kTV_B, kTB_B, kTA_t, kTA_f, kTO_t, kTO_f, kTN_, kOS_, kSl1_, kSl2_, kSl3_, kM2_, kK1_, kK2_, kSq_tup, kSq_lst, kSq_str, kEn_tup, kEn_lst, kZp_tup, kZp_lst, kFor_, kTurn_nx, kTurn_ct, kTurn_bk, kTurn_rt, kComp_, kLcT_t, kLcT_f,
 setAll, wipeE, pick, List.getElem?_cons_zero, List.getElem?_cons_succ, List.set_cons_zero, List.set_cons_succ, List.map_cons, List.map_nil, List.replicate_succ, List.replicate_zero, List.cons_append, List.nil_append, List.append_nil, List.length_cons, List.length_nil, List.filterMap_cons, List.filterMap_nil,
 Nat.reduceAdd, Nat.reduceSub, Nat.reduceLeDiff, Nat.reduceEqDiff, and_self, if_true, if_false, opAdd_int, opSub_int, opGt_int, opLt_int, opGe_int, opLe_int, opEq_int, opEq_str, opEq_bl, opNe_int, opNe_bl, opNe_str, bInt_int, bInt_bl, bAbs_int, truD_bl, truD_int, W_fLst, W_fTup, pow18, bLen_tup, bLen_lst, bTuple_lst, bTuple_tup, bList_lst, bList_tup, h]
              · rw [h]; exact ⟨rfl, rfl⟩
    · have hcd := cls_in hcs hd
      refine W_get ?_
      cases d with
      | ref i => cases hcd
      | lst q ds =>
        cases q with
        | ext => cases hcd
        | frz => simp only [isi_non, isi_bl, isi_int, isi_str, isi_tup, isi_frz, isi_bor, List.any_cons, List.any_nil, isTy, reduceCtorEq, decide_true, decide_false, Bool.or_false, Bool.or_true, Bool.true_or, Bool.false_or, Bool.not_true, Bool.not_false, W_body, W_sSeq, W_sNx, W_sBk, W_sCt, W_sExpr, W_sRet, W_sRetN, W_sIf, W_sAsg, W_sPar, W_sAug, W_eC, W_eVar, W_eBin, W_eUn, W_eArgs, W_aNil, W_aCons, W_eAnd, W_eOr, W_eNot, W_eIf, W_eChain, W_tVal, W_tBl, W_tAnd, W_tOr, W_tNot, W_tTrue, W_oNone, W_oSome, W_eSl, W_eRev, W_eMethL, W_eCall, W_iSeq, W_iRange1, W_iRange2, W_iEnumS, W_iZipS, W_sFor, W_eComp, W_lcStep, W_gV, W_gUnpackVV, W_newF, W_newT, W_some,
 kBody_rt, kBody_nx, kSeq_nx, kSeq_rt, kSeq_bk, kSeq_ct, kExp_, kRet_, kIf_t, kIf_f, kAsg_V, kPar_, kAug_, kB1_, kB2_, kU_, kN_, kC1_, kC2_, kAnd_T, kAnd_F, kOr_T, kOr_F, kNot_B, kCh1_, kCh2_, kCh3_t, kCh3_f, kTV_B, kTB_B, kTA_t, kTA_f, kTO_t, kTO_f, kTN_, kOS_, kSl1_, kSl2_, kSl3_, kM2_, kK1_, kK2_, kSq_tup, kSq_lst, kSq_str, kEn_tup, kEn_lst, kZp_tup, kZp_lst, kFor_, kTurn_nx, kTurn_ct, kTurn_bk, kTurn_rt, kComp_, kLcT_t, kLcT_f,
 setAll, wipeE, pick, List.getElem?_cons_zero, List.getElem?_cons_succ, List.set_cons_zero, List.set_cons_succ, List.map_cons, List.map_nil, List.replicate_succ, List.replicate_zero, List.cons_append, List.nil_append, List.append_nil, List.length_cons, List.length_nil, List.filterMap_cons, List.filterMap_nil,
 Nat.reduceAdd, Nat.reduceSub, Nat.reduceLeDiff, Nat.reduceEqDiff, and_self, if_true, if_false, opAdd_int, opSub_int, opGt_int, opLt_int, opGe_int, opLe_int, opEq_int, opEq_str, opEq_bl, opNe_int, opNe_bl, opNe_str, bInt_int, bInt_bl, bAbs_int, truD_bl, truD_int, W_fLst, W_fTup, pow18, bLen_tup, bLen_lst, bTuple_lst, bTuple_tup, bList_lst, bList_tup, badD]
        | bor => simp only [isi_non, isi_bl, isi_int, isi_str, isi_tup, isi_frz, isi_bor, List.any_cons, List.any_nil, isTy, reduceCtorEq, decide_true, decide_false, Bool.or_false, Bool.or_true, Bool.true_or, Bool.false_or, Bool.not_true, Bool.not_false, W_body, W_sSeq, W_sNx, W_sBk, W_sCt, W_sExpr, W_sRet, W_sRetN, W_sIf, W_sAsg, W_sPar, W_sAug, W_eC, W_eVar, W_eBin, W_eUn, W_eArgs, W_aNil, W_aCons, W_eAnd, W_eOr, W_eNot, W_eIf, W_eChain, W_tVal, W_tBl, W_tAnd, W_tOr, W_tNot, W_tTrue, W_oNone, W_oSome, W_eSl, W_eRev, W_eMethL, W_eCall, W_iSeq, W_iRange1, W_iRange2, W_iEnumS, W_iZipS, W_sFor, W_eComp, W_lcStep, W_gV, W_gUnpackVV, W_newF, W_newT, W_some,
 kBody_rt, kBody_nx, kSeq_nx, kSeq_rt, kSeq_bk, kSeq_ct, kExp_, kRet_, kIf_t, kIf_f, kAsg_V, kPar_, kAug_, kB1_, kB2_, kU_, kN_, kC1_, kC2_, kAnd_T, kAnd_F, kOr_T, kOr_F, kNot_B, kCh1_, kCh2_, kCh3_t, kCh3_f, kTV_B, kTB_B, kTA_t, kTA_f, kTO_t, kTO_f, kTN_, kOS_, kSl1_, kSl2_, kSl3_, kM2_, kK1_, kK2_, kSq_tup, kSq_lst, kSq_str, kEn_tup, kEn_lst, kZp_tup, kZp_lst, kFor_, kTurn_nx, kTurn_ct, kTurn_bk, kTurn_rt, kComp_, kLcT_t, kLcT_f,
 setAll, wipeE, pick, List.getElem?_cons_zero, List.getElem?_cons_succ, List.set_cons_zero, List.set_cons_succ, List.map_cons, List.map_nil, List.replicate_succ, List.replicate_zero, List.cons_append, List.nil_append, List.append_nil, List.length_cons, List.length_nil, List.filterMap_cons, List.filterMap_nil,
 Nat.reduceAdd, Nat.reduceSub, Nat.reduceLeDiff, Nat.reduceEqDiff, and_self, if_true, if_false, opAdd_int, opSub_int, opGt_int, opLt_int, opGe_int, opLe_int, opEq_int, opEq_str, opEq_bl, opNe_int, opNe_bl, opNe_str, bInt_int, bInt_bl, bAbs_int, truD_bl, truD_int, W_fLst, W_fTup, pow18, bLen_tup, bLen_lst, bTuple_lst, bTuple_tup, bList_lst, bList_tup, badD]
      | _ => simp only [isi_non, isi_bl, isi_int, isi_str, isi_tup, isi_frz, isi_bor, List.any_cons, List.any_nil, isTy, reduceCtorEq, decide_true, decide_false, Bool.or_false, Bool.or_true, Bool.true_or, Bool.false_or, Bool.not_true, Bool.not_false, W_body, W_sSeq, W_sNx, W_sBk, W_sCt, W_sExpr, W_sRet, W_sRetN, W_sIf, W_sAsg, W_sPar, W_sAug, W_eC, W_eVar, W_eBin, W_eUn, W_eArgs, W_aNil, W_aCons, W_eAnd, W_eOr, W_eNot, W_eIf, W_eChain, W_tVal, W_tBl, W_tAnd, W_tOr, W_tNot, W_tTrue, W_oNone, W_oSome, W_eSl, W_eRev, W_eMethL, W_eCall, W_iSeq, W_iRange1, W_iRange2, W_iEnumS, W_iZipS, W_sFor, W_eComp, W_lcStep, W_gV, W_gUnpackVV, W_newF, W_newT, W_some,
 kBody_rt, kBody_nx, kSeq_nx, kSeq_rt, kSeq_bk, kSeq_ct, kExp_, kRet_, kIf_t, kIf_f, kAsg_V, kPar_, kAug_, kB1_, kB2_, kU_, kN_, kC1_, kC2_, kAnd_T, kAnd_F, kOr_T, kOr_F, kNot_B, kCh1_, kCh2_, kCh3_t, kCh3_f, kTV_B, kTB_B, kTA_t, kTA_f, kTO_t, kTO_f, kTN_, kOS_, kSl1_, kSl2_, kSl3_, kM2_, kK1_, kK2_, kSq_tup, kSq_lst, kSq_str, kEn_tup, kEn_lst, kZp_tup, kZp_lst, kFor_, kTurn_nx, kTurn_ct, kTurn_bk, kTurn_rt, kComp_, kLcT_t, kLcT_f,
 setAll, wipeE, pick, List.getElem?_cons_zero, List.getElem?_cons_succ, List.set_cons_zero, List.set_cons_succ, List.map_cons, List.map_nil, List.replicate_succ, List.replicate_zero, List.cons_append, List.nil_append, List.append_nil, List.length_cons, List.length_nil, List.filterMap_cons, List.filterMap_nil,
 Nat.reduceAdd, Nat.reduceSub, Nat.reduceLeDiff, Nat.reduceEqDiff, and_self, if_true, if_false, opAdd_int, opSub_int, opGt_int, opLt_int, opGe_int, opLe_int, opEq_int, opEq_str, opEq_bl, opNe_int, opNe_bl, opNe_str, bInt_int, bInt_bl, bAbs_int, truD_bl, truD_int, W_fLst, W_fTup, pow18, bLen_tup, bLen_lst, bTuple_lst, bTuple_tup, bList_lst, bList_tup, badD, Bool.false_eq_true]
  | _ => simp only [isi_non, isi_bl, isi_int, isi_str, isi_tup, isi_frz, isi_bor, List.any_cons, List.any_nil, isTy, reduceCtorEq, decide_true, decide_false, Bool.or_false, Bool.or_true, Bool.true_or, Bool.false_or, Bool.not_true, Bool.not_false, W_body, W_sSeq, W_sNx, W_sBk, W_sCt, W_sExpr, W_sRet, W_sRetN, W_sIf, W_sAsg, W_sPar, W_sAug, W_eC, W_eVar, W_eBin, W_eUn, W_eArgs, W_aNil, W_aCons, W_eAnd, W_eOr, W_eNot, W_eIf, W_eChain, W_tVal, W_tBl, W_tAnd, W_tOr, W_tNot, W_tTrue, W_oNone, W_oSome, W_eSl, W_eRev, W_eMethL, W_eCall, W_iSeq, W_iRange1, W_iRange2, W_iEnumS, W_iZipS, W_sFor, W_eComp, W_lcStep, W_gV, W_gUnpackVV, W_newF, W_newT, W_some,
 kBody_rt, kBody_nx, kSeq_nx, kSeq_rt, kSeq_bk, kSeq_ct, kExp_, kRet_, kIf_t, kIf_f, kAsg_V, kPar_, kAug_, kB1_, kB2_, kU_, kN_, kC1_, kC2_, kAnd_T, kAnd_F, kOr_T, kOr_F, kNot_B, kCh1_, kCh2_, kCh3_t, kCh3_f, kTV_B, kTB_B, kTA_t, kTA_f, kTO_t, kTO_f, kTN_, kOS_, kSl1_, kSl2_, kSl3_, kM2_, kK1_, kK2_, kSq_tup, kSq_lst, kSq_str, kEn_tup, kEn_lst, kZp_tup, kZp_lst, kFor_, kTurn_nx, kTurn_ct, kTurn_bk, kTurn_rt, kComp_, kLcT_t, kLcT_f,
 setAll, wipeE, pick, List.getElem?_cons_zero, List.getElem?_cons_succ, List.set_cons_zero, List.set_cons_succ, List.map_cons, List.map_nil, List.replicate_succ, List.replicate_zero, List.cons_append, List.nil_append, List.append_nil, List.length_cons, List.length_nil, List.filterMap_cons, List.filterMap_nil,
 Nat.reduceAdd, Nat.reduceSub, Nat.reduceLeDiff, Nat.reduceEqDiff, and_self, if_true, if_false, opAdd_int, opSub_int, opGt_int, opLt_int, opGe_int, opLe_int, opEq_int, opEq_str, opEq_bl, opNe_int, opNe_bl, opNe_str, bInt_int, bInt_bl, bAbs_int, truD_bl, truD_int, W_fLst, W_fTup, pow18, bLen_tup, bLen_lst, bTuple_lst, bTuple_tup, bList_lst, bList_tup, rowD]
end AW

namespace AW
open PySem PySem.Spec PyProof.Rows L2

mutual
/-- the greatest length in it -/
def mx : D → Nat
  | .tup ds => max ds.length (mxs ds)
  | .lst _ ds => max ds.length (mxs ds)
  | _ => 0
def mxs : List D → Nat
  | [] => 0
  | d :: ds => max (mx d) (mxs ds)
end
theorem mxs_in : ∀ {ds : List D} {d : D}, d ∈ ds → mx d ≤ mxs ds
  | x :: xs, d, hd => by
    simp only [mxs]
    rcases List.mem_cons.mp hd with rfl | hd
    · omega
    · have := mxs_in hd; omega
/-- data that the law may look at: no cells, texts fine, not too deep, nothing too long -/
structure Gd (k m : Nat) (d : D) : Prop where
  c : cl d = true
  s : so d = true
  p : dep d ≤ k
  l : mx d ≤ m
theorem sos_in : ∀ {ds : List D} {d : D}, sos ds = true → d ∈ ds → so d = true
  | x :: xs, d, h, hd => by
    simp only [sos, Bool.and_eq_true] at h
    rcases List.mem_cons.mp hd with rfl | hd
    · exact h.1
    · exact sos_in h.2 hd
def isfilmSem (isrow : OpN) : SemS := (sSeq (sIf (AW.tNot (tVal (eUn (opIsi [Ty.tup]) (eVar 0)))) (sRet (eC (D.bl false))) sNx) (sSeq (sFor (iSeq (eVar 0)) (gV 2) (sIf (AW.tOr (AW.tNot (tVal (eUn (opIsi [Ty.tup]) (eVar 2)))) (AW.tOr (tBl (eBin opNe (eArgs bLen (aCons (eVar 2) aNil)) (eC (D.int 2)))) (AW.tNot (tVal (eArgs bAll (aCons (eComp false (iSeq (eVar 2)) (gV 3) tTrue (eCall (callP false isrow) 2 0 2 [] [0, 1] (aCons (eVar 3) (aCons (eVar 1) aNil)) aNil) [3]) aNil)))))) (sRet (eC (D.bl false))) sNx)) (sRet (eC (D.bl true)))))
theorem isfilm_run {isfilm isrow : OpN} (h : isfilm = body 4 (isfilmSem isrow)) (hr : isrow = body 3 isrowSem) {d : D} {n : Int} {S : Sto} (g : Gd 50 1000 d) : callP false isfilm [d, .int n] S = some (.bl (recD n d), S) := by
  obtain ⟨hc, hs, hd, hm⟩ := g
  rw [h]
  refine W_callE (d := .bl (recD n d)) (Sc := []) (by simp only [pls, pl, cl_pl hc, Bool.and_self]) (W_get ?_) rfl
  unfold isfilmSem
  cases d with
  | ref i => cases hc
  | lst q ds =>
    cases q with
    | ext => cases hc
    | frz => simp only [isi_non, isi_bl, isi_int, isi_str, isi_tup, isi_frz, isi_bor, List.any_cons, List.any_nil, isTy, reduceCtorEq, decide_true, decide_false, Bool.or_false, Bool.or_true, Bool.true_or, Bool.false_or, Bool.not_true, Bool.not_false, W_body, W_sSeq, W_sNx, W_sBk, W_sCt, W_sExpr, W_sRet, W_sRetN, W_sIf, W_sAsg, W_sPar, W_sAug, W_eC, W_eVar, W_eBin, W_eUn, W_eArgs, W_aNil, W_aCons, W_eAnd, W_eOr, W_eNot, W_eIf, W_eChain, W_tVal, W_tBl, W_tAnd, W_tOr, W_tNot, W_tTrue, W_oNone, W_oSome, W_eSl, W_eRev, W_eMethL, W_eCall, W_iSeq, W_iRange1, W_iRange2, W_iEnumS, W_iZipS, W_sFor, W_eComp, W_lcStep, W_gV, W_gUnpackVV, W_newF, W_newT, W_some,
 kBody_rt, kBody_nx, kSeq_nx, kSeq_rt, kSeq_bk, kSeq_ct, kExp_, kRet_, kIf_t, kIf_f, kAsg_V, kPar_, kAug_, kB1_, kB2_, kU_, kN_, kC1_, kC2_, kAnd_T, kAnd_F, kOr_T, kOr_F, kNot_B, kCh1_, kCh2_, kCh3_t, kCh3_f, kTV_B, kTB_B, kTA_t, kTA_f, kTO_t, kTO_f, kTN_, kOS_, kSl1_, kSl2_, kSl3_, kM2_, kK1_, kK2_, kSq_tup, kSq_lst, kSq_str, kEn_tup, kEn_lst, kZp_tup, kZp_lst, kFor_, kTurn_nx, kTurn_ct, kTurn_bk, kTurn_rt, kComp_, kLcT_t, kLcT_f,
 setAll, wipeE, pick, List.getElem?_cons_zero, List.getElem?_cons_succ, List.set_cons_zero, List.set_cons_succ, List.map_cons, List.map_nil, List.replicate_succ, List.replicate_zero, List.cons_append, List.nil_append, List.append_nil, List.length_cons, List.length_nil, List.filterMap_cons, List.filterMap_nil,
 Nat.reduceAdd, Nat.reduceSub, Nat.reduceLeDiff, Nat.reduceEqDiff, and_self, if_true, if_false, opAdd_int, opSub_int, opGt_int, opLt_int, opGe_int, opLe_int, opEq_int, opEq_str, opEq_bl, opNe_int, opNe_bl, opNe_str, bInt_int, bInt_bl, bAbs_int, truD_bl, truD_int, W_fLst, W_fTup, pow18, bLen_tup, bLen_lst, bTuple_lst, bTuple_tup, bList_lst, bList_tup, recD]
    | bor => simp only [isi_non, isi_bl, isi_int, isi_str, isi_tup, isi_frz, isi_bor, List.any_cons, List.any_nil, isTy, reduceCtorEq, decide_true, decide_false, Bool.or_false, Bool.or_true, Bool.true_or, Bool.false_or, Bool.not_true, Bool.not_false, W_body, W_sSeq, W_sNx, W_sBk, W_sCt, W_sExpr, W_sRet, W_sRetN, W_sIf, W_sAsg, W_sPar, W_sAug, W_eC, W_eVar, W_eBin, W_eUn, W_eArgs, W_aNil, W_aCons, W_eAnd, W_eOr, W_eNot, W_eIf, W_eChain, W_tVal, W_tBl, W_tAnd, W_tOr, W_tNot, W_tTrue, W_oNone, W_oSome, W_eSl, W_eRev, W_eMethL, W_eCall, W_iSeq, W_iRange1, W_iRange2, W_iEnumS, W_iZipS, W_sFor, W_eComp, W_lcStep, W_gV, W_gUnpackVV, W_newF, W_newT, W_some,
 kBody_rt, kBody_nx, kSeq_nx, kSeq_rt, kSeq_bk, kSeq_ct, kExp_, kRet_, kIf_t, kIf_f, kAsg_V, kPar_, kAug_, kB1_, kB2_, kU_, kN_, kC1_, kC2_, kAnd_T, kAnd_F, kOr_T, kOr_F, kNot_B, kCh1_, kCh2_, kCh3_t, kCh3_f, kTV_B, kTB_B, kTA_t, kTA_f, kTO_t, kTO_f, kTN_, kOS_, kSl1_, kSl2_, kSl3_, kM2_, kK1_, kK2_, kSq_tup, kSq_lst, kSq_str, kEn_tup, kEn_lst, kZp_tup, kZp_lst, kFor_, kTurn_nx, kTurn_ct, kTurn_bk, kTurn_rt, kComp_, kLcT_t, kLcT_f,
 setAll, wipeE, pick, List.getElem?_cons_zero, List.getElem?_cons_succ, List.set_cons_zero, List.set_cons_succ, List.map_cons, List.map_nil, List.replicate_succ, List.replicate_zero, List.cons_append, List.nil_append, List.append_nil, List.length_cons, List.length_nil, List.filterMap_cons, List.filterMap_nil,
 Nat.reduceAdd, Nat.reduceSub, Nat.reduceLeDiff, Nat.reduceEqDiff, and_self, if_true, if_false, opAdd_int, opSub_int, opGt_int, opLt_int, opGe_int, opLe_int, opEq_int, opEq_str, opEq_bl, opNe_int, opNe_bl, opNe_str, bInt_int, bInt_bl, bAbs_int, truD_bl, truD_int, W_fLst, W_fTup, pow18, bLen_tup, bLen_lst, bTuple_lst, bTuple_tup, bList_lst, bList_tup, recD]
  | tup es =>
    obtain ⟨hl, hcs⟩ := cl_tup hc
    have hss : sos es = true := by simpa only [so] using hs
    simp only [dep] at hd
    simp only [mx] at hm
    simp only [isi_non, isi_bl, isi_int, isi_str, isi_tup, isi_frz, isi_bor, List.any_cons, List.any_nil, isTy, reduceCtorEq, decide_true, decide_false, Bool.or_false, Bool.or_true, Bool.true_or, Bool.false_or, Bool.not_true, Bool.not_false, W_body, W_sSeq, W_sNx, W_sBk, W_sCt, W_sExpr, W_sRet, W_sRetN, W_sIf, W_sAsg, W_sPar, W_sAug, W_eC, W_eVar, W_eBin, W_eUn, W_eArgs, W_aNil, W_aCons, W_eAnd, W_eOr, W_eNot, W_eIf, W_eChain, W_tVal, W_tBl, W_tAnd, W_tOr, W_tNot, W_tTrue, W_oNone, W_oSome, W_eSl, W_eRev, W_eMethL, W_eCall, W_iSeq, W_iRange1, W_iRange2, W_iEnumS, W_iZipS, W_sFor, W_eComp, W_lcStep, W_gV, W_gUnpackVV, W_newF, W_newT, W_some,
 kBody_rt, kBody_nx, kSeq_nx, kSeq_rt, kSeq_bk, kSeq_ct, kExp_, kRet_, kIf_t, kIf_f, kAsg_V, kPar_, kAug_, kB1_, kB2_, kU_, kN_, kC1_, kC2_, kAnd_T, kAnd_F, kOr_T, kOr_F, kNot_B, kCh1_, kCh2_, kCh3_t, kCh3_f, kTV_B, kTB_B, kTA_t, kTA_f, kTO_t, kTO_f, kTN_, kOS_, kSl1_, kSl2_, kSl3_, kM2_, kK1_, kK2_, kSq_tup, kSq_lst, kSq_str, kEn_tup, kEn_lst, kZp_tup, kZp_lst, kFor_, kTurn_nx, kTurn_ct, kTurn_bk, kTurn_rt, kComp_, kLcT_t, kLcT_f,
 setAll, wipeE, pick, List.getElem?_cons_zero, List.getElem?_cons_succ, List.set_cons_zero, List.set_cons_succ, List.map_cons, List.map_nil, List.replicate_succ, List.replicate_zero, List.cons_append, List.nil_append, List.append_nil, List.length_cons, List.length_nil, List.filterMap_cons, List.filterMap_nil,
 Nat.reduceAdd, Nat.reduceSub, Nat.reduceLeDiff, Nat.reduceEqDiff, and_self, if_true, if_false, opAdd_int, opSub_int, opGt_int, opLt_int, opGe_int, opLe_int, opEq_int, opEq_str, opEq_bl, opNe_int, opNe_bl, opNe_str, bInt_int, bInt_bl, bAbs_int, truD_bl, truD_int, W_fLst, W_fTup, pow18, bLen_tup, bLen_lst, bTuple_lst, bTuple_tup, bList_lst, bList_tup]
    refine W_loop (fun ds E S => ∃ x : Option D, E = [some (.tup es), some (.int n), x, none] ∧ S = [] ∧ (∀ d ∈ ds, d ∈ es) ∧ recD n (.tup es) = ds.all fun d => duoD d && rowsD n d) (fun _ => rfl) ?_ ?_ _ _ _ ⟨none, rfl, rfl, fun d h => h, rfl⟩
    · rintro E S ⟨x, rfl, rfl, _, e⟩
      trace_state
      simp only [W_body, W_sSeq, W_sNx, W_sBk, W_sCt, W_sExpr, W_sRet, W_sRetN, W_sIf, W_sAsg, W_sPar, W_sAug, W_eC, W_eVar, W_eBin, W_eUn, W_eArgs, W_aNil, W_aCons, W_eAnd, W_eOr, W_eNot, W_eIf, W_eChain, W_tVal, W_tBl, W_tAnd, W_tOr, W_tNot, W_tTrue, W_oNone, W_oSome, W_eSl, W_eRev, W_eMethL, W_eCall, W_iSeq, W_iRange1, W_iRange2, W_iEnumS, W_iZipS, W_sFor, W_eComp, W_lcStep, W_gV, W_gUnpackVV, W_newF, W_newT, W_some,
 kBody_rt, kBody_nx, kSeq_nx, kSeq_rt, kSeq_bk, kSeq_ct, kExp_, kRet_, kIf_t, kIf_f, kAsg_V, kPar_, kAug_, kB1_, kB2_, kU_, kN_, kC1_, kC2_, kAnd_T, kAnd_F, kOr_T, kOr_F, kNot_B, kCh1_, kCh2_, kCh3_t, kCh3_f, kTV_B, kTB_B, kTA_t, kTA_f, kTO_t, kTO_f, kTN_, kOS_, kSl1_, kSl2_, kSl3_, kM2_, kK1_, kK2_, kSq_tup, kSq_lst, kSq_str, kEn_tup, kEn_lst, kZp_tup, kZp_lst, kFor_, kTurn_nx, kTurn_ct, kTurn_bk, kTurn_rt, kComp_, kLcT_t, kLcT_f,
 setAll, wipeE, pick, List.getElem?_cons_zero, List.getElem?_cons_succ, List.set_cons_zero, List.set_cons_succ, List.map_cons, List.map_nil, List.replicate_succ, List.replicate_zero, List.cons_append, List.nil_append, List.append_nil, List.length_cons, List.length_nil, List.filterMap_cons, List.filterMap_nil,
 Nat.reduceAdd, Nat.reduceSub, Nat.reduceLeDiff, Nat.reduceEqDiff, and_self, if_true, if_false, opAdd_int, opSub_int, opGt_int, opLt_int, opGe_int, opLe_int, opEq_int, opEq_str, opEq_bl, opNe_int, opNe_bl, opNe_str, bInt_int, bInt_bl, bAbs_int, truD_bl, truD_int, W_fLst, W_fTup, pow18, bLen_tup, bLen_lst, bTuple_lst, bTuple_tup, bList_lst, bList_tup, e, List.all_nil]
    · rintro d ds E S ⟨x, rfl, rfl, hin, e⟩
      have hd0 := hin d List.mem_cons_self
      have hcd := cls_in hcs hd0
      have hsd := sos_in hss hd0
      have hdd := deps_in hd0
      have hmd := mxs_in hd0
      rw [List.all_cons] at e
      cases d with
      | ref i => cases hcd
      | lst q xs =>
        replace e : recD n (.tup es) = false := e
        cases q with
        | ext => cases hcd
        | frz => simp only [isi_non, isi_bl, isi_int, isi_str, isi_tup, isi_frz, isi_bor, List.any_cons, List.any_nil, isTy, reduceCtorEq, decide_true, decide_false, Bool.or_false, Bool.or_true, Bool.true_or, Bool.false_or, Bool.not_true, Bool.not_false, W_body, W_sSeq, W_sNx, W_sBk, W_sCt, W_sExpr, W_sRet, W_sRetN, W_sIf, W_sAsg, W_sPar, W_sAug, W_eC, W_eVar, W_eBin, W_eUn, W_eArgs, W_aNil, W_aCons, W_eAnd, W_eOr, W_eNot, W_eIf, W_eChain, W_tVal, W_tBl, W_tAnd, W_tOr, W_tNot, W_tTrue, W_oNone, W_oSome, W_eSl, W_eRev, W_eMethL, W_eCall, W_iSeq, W_iRange1, W_iRange2, W_iEnumS, W_iZipS, W_sFor, W_eComp, W_lcStep, W_gV, W_gUnpackVV, W_newF, W_newT, W_some,
 kBody_rt, kBody_nx, kSeq_nx, kSeq_rt, kSeq_bk, kSeq_ct, kExp_, kRet_, kIf_t, kIf_f, kAsg_V, kPar_, kAug_, kB1_, kB2_, kU_, kN_, kC1_, kC2_, kAnd_T, kAnd_F, kOr_T, kOr_F, kNot_B, kCh1_, kCh2_, kCh3_t, kCh3_f, kTV_B, kTB_B, kTA_t, kTA_f, kTO_t, kTO_f, kTN_, kOS_, kSl1_, kSl2_, kSl3_, kM2_, kK1_, kK2_, kSq_tup, kSq_lst, kSq_str, kEn_tup, kEn_lst, kZp_tup, kZp_lst, kFor_, kTurn_nx, kTurn_ct, kTurn_bk, kTurn_rt, kComp_, kLcT_t, kLcT_f,
 setAll, wipeE, pick, List.getElem?_cons_zero, List.getElem?_cons_succ, List.set_cons_zero, List.set_cons_succ, List.map_cons, List.map_nil, List.replicate_succ, List.replicate_zero, List.cons_append, List.nil_append, List.append_nil, List.length_cons, List.length_nil, List.filterMap_cons, List.filterMap_nil,
 Nat.reduceAdd, Nat.reduceSub, Nat.reduceLeDiff, Nat.reduceEqDiff, and_self, if_true, if_false, opAdd_int, opSub_int, opGt_int, opLt_int, opGe_int, opLe_int, opEq_int, opEq_str, opEq_bl, opNe_int, opNe_bl, opNe_str, bInt_int, bInt_bl, bAbs_int, truD_bl, truD_int, W_fLst, W_fTup, pow18, bLen_tup, bLen_lst, bTuple_lst, bTuple_tup, bList_lst, bList_tup, e]
        | bor => simp only [isi_non, isi_bl, isi_int, isi_str, isi_tup, isi_frz, isi_bor, List.any_cons, List.any_nil, isTy, reduceCtorEq, decide_true, decide_false, Bool.or_false, Bool.or_true, Bool.true_or, Bool.false_or, Bool.not_true, Bool.not_false, W_body, W_sSeq, W_sNx, W_sBk, W_sCt, W_sExpr, W_sRet, W_sRetN, W_sIf, W_sAsg, W_sPar, W_sAug, W_eC, W_eVar, W_eBin, W_eUn, W_eArgs, W_aNil, W_aCons, W_eAnd, W_eOr, W_eNot, W_eIf, W_eChain, W_tVal, W_tBl, W_tAnd, W_tOr, W_tNot, W_tTrue, W_oNone, W_oSome, W_eSl, W_eRev, W_eMethL, W_eCall, W_iSeq, W_iRange1, W_iRange2, W_iEnumS, W_iZipS, W_sFor, W_eComp, W_lcStep, W_gV, W_gUnpackVV, W_newF, W_newT, W_some,
 kBody_rt, kBody_nx, kSeq_nx, kSeq_rt, kSeq_bk, kSeq_ct, kExp_, kRet_, kIf_t, kIf_f, kAsg_V, kPar_, kAug_, kB1_, kB2_, kU_, kN_, kC1_, kC2_, kAnd_T, kAnd_F, kOr_T, kOr_F, kNot_B, kCh1_, kCh2_, kCh3_t, kCh3_f, kTV_B, kTB_B, kTA_t, kTA_f, kTO_t, kTO_f, kTN_, kOS_, kSl1_, kSl2_, kSl3_, kM2_, kK1_, kK2_, kSq_tup, kSq_lst, kSq_str, kEn_tup, kEn_lst, kZp_tup, kZp_lst, kFor_, kTurn_nx, kTurn_ct, kTurn_bk, kTurn_rt, kComp_, kLcT_t, kLcT_f,
 setAll, wipeE, pick, List.getElem?_cons_zero, List.getElem?_cons_succ, List.set_cons_zero, List.set_cons_succ, List.map_cons, List.map_nil, List.replicate_succ, List.replicate_zero, List.cons_append, List.nil_append, List.append_nil, List.length_cons, List.length_nil, List.filterMap_cons, List.filterMap_nil,
 Nat.reduceAdd, Nat.reduceSub, Nat.reduceLeDiff, Nat.reduceEqDiff, and_self, if_true, if_false, opAdd_int, opSub_int, opGt_int, opLt_int, opGe_int, opLe_int, opEq_int, opEq_str, opEq_bl, opNe_int, opNe_bl, opNe_str, bInt_int, bInt_bl, bAbs_int, truD_bl, truD_int, W_fLst, W_fTup, pow18, bLen_tup, bLen_lst, bTuple_lst, bTuple_tup, bList_lst, bList_tup, e]
      | tup xs =>
        obtain ⟨hlx, hcx⟩ := cl_tup hcd
        simp only [isi_non, isi_bl, isi_int, isi_str, isi_tup, isi_frz, isi_bor, List.any_cons, List.any_nil, isTy, reduceCtorEq, decide_true, decide_false, Bool.or_false, Bool.or_true, Bool.true_or, Bool.false_or, Bool.not_true, Bool.not_false, W_body, W_sSeq, W_sNx, W_sBk, W_sCt, W_sExpr, W_sRet, W_sRetN, W_sIf, W_sAsg, W_sPar, W_sAug, W_eC, W_eVar, W_eBin, W_eUn, W_eArgs, W_aNil, W_aCons, W_eAnd, W_eOr, W_eNot, W_eIf, W_eChain, W_tVal, W_tBl, W_tAnd, W_tOr, W_tNot, W_tTrue, W_oNone, W_oSome, W_eSl, W_eRev, W_eMethL, W_eCall, W_iSeq, W_iRange1, W_iRange2, W_iEnumS, W_iZipS, W_sFor, W_eComp, W_lcStep, W_gV, W_gUnpackVV, W_newF, W_newT, W_some,
 kBody_rt, kBody_nx, kSeq_nx, kSeq_rt, kSeq_bk, kSeq_ct, kExp_, kRet_, kIf_t, kIf_f, kAsg_V, kPar_, kAug_, kB1_, kB2_, kU_, kN_, kC1_, kC2_, kAnd_T, kAnd_F, kOr_T, kOr_F, kNot_B, kCh1_, kCh2_, kCh3_t, kCh3_f, kTV_B, kTB_B, kTA_t, kTA_f, kTO_t, kTO_f, kTN_, kOS_, kSl1_, kSl2_, kSl3_, kM2_, kK1_, kK2_, kSq_tup, kSq_lst, kSq_str, kEn_tup, kEn_lst, kZp_tup, kZp_lst, kFor_, kTurn_nx, kTurn_ct, kTurn_bk, kTurn_rt, kComp_, kLcT_t, kLcT_f,
 setAll, wipeE, pick, List.getElem?_cons_zero, List.getElem?_cons_succ, List.set_cons_zero, List.set_cons_succ, List.map_cons, List.map_nil, List.replicate_succ, List.replicate_zero, List.cons_append, List.nil_append, List.append_nil, List.length_cons, List.length_nil, List.filterMap_cons, List.filterMap_nil,
 Nat.reduceAdd, Nat.reduceSub, Nat.reduceLeDiff, Nat.reduceEqDiff, and_self, if_true, if_false, opAdd_int, opSub_int, opGt_int, opLt_int, opGe_int, opLe_int, opEq_int, opEq_str, opEq_bl, opNe_int, opNe_bl, opNe_str, bInt_int, bInt_bl, bAbs_int, truD_bl, truD_int, W_fLst, W_fTup, pow18, bLen_tup, bLen_lst, bTuple_lst, bTuple_tup, bList_lst, bList_tup]
        have e2 : ((xs.length : Int) = 2) = (xs.length = 2) := propext ⟨fun h => by omega, fun h => by omega⟩
        simp only [e2]
        by_cases h2 : xs.length = 2
        · simp only [h2, decide_true, isi_non, isi_bl, isi_int, isi_str, isi_tup, isi_frz, isi_bor, List.any_cons, List.any_nil, isTy, reduceCtorEq, decide_true, decide_false, Bool.or_false, Bool.or_true, Bool.true_or, Bool.false_or, Bool.not_true, Bool.not_false, W_body, W_sSeq, W_sNx, W_sBk, W_sCt, W_sExpr, W_sRet, W_sRetN, W_sIf, W_sAsg, W_sPar, W_sAug, W_eC, W_eVar, W_eBin, W_eUn, W_eArgs, W_aNil, W_aCons, W_eAnd, W_eOr, W_eNot, W_eIf, W_eChain, W_tVal, W_tBl, W_tAnd, W_tOr, W_tNot, W_tTrue, W_oNone, W_oSome, W_eSl, W_eRev, W_eMethL, W_eCall, W_iSeq, W_iRange1, W_iRange2, W_iEnumS, W_iZipS, W_sFor, W_eComp, W_lcStep, W_gV, W_gUnpackVV, W_newF, W_newT, W_some,
 kBody_rt, kBody_nx, kSeq_nx, kSeq_rt, kSeq_bk, kSeq_ct, kExp_, kRet_, kIf_t, kIf_f, kAsg_V, kPar_, kAug_, kB1_, kB2_, kU_, kN_, kC1_, kC2_, kAnd_T, kAnd_F, kOr_T, kOr_F, kNot_B, kCh1_, kCh2_, kCh3_t, kCh3_f, kTV_B, kTB_B, kTA_t, kTA_f, kTO_t, kTO_f, kTN_, kOS_, kSl1_, kSl2_, kSl3_, kM2_, kK1_, kK2_, kSq_tup, kSq_lst, kSq_str, kEn_tup, kEn_lst, kZp_tup, kZp_lst, kFor_, kTurn_nx, kTurn_ct, kTurn_bk, kTurn_rt, kComp_, kLcT_t, kLcT_f,
 setAll, wipeE, pick, List.getElem?_cons_zero, List.getElem?_cons_succ, List.set_cons_zero, List.set_cons_succ, List.map_cons, List.map_nil, List.replicate_succ, List.replicate_zero, List.cons_append, List.nil_append, List.append_nil, List.length_cons, List.length_nil, List.filterMap_cons, List.filterMap_nil,
 Nat.reduceAdd, Nat.reduceSub, Nat.reduceLeDiff, Nat.reduceEqDiff, and_self, if_true, if_false, opAdd_int, opSub_int, opGt_int, opLt_int, opGe_int, opLe_int, opEq_int, opEq_str, opEq_bl, opNe_int, opNe_bl, opNe_str, bInt_int, bInt_bl, bAbs_int, truD_bl, truD_int, W_fLst, W_fTup, pow18, bLen_tup, bLen_lst, bTuple_lst, bTuple_tup, bList_lst, bList_tup]
          refine ⟨by decide, ?_⟩
          rw [lc_pure (f := fun x => some (.bl (rowD n x))) rfl _ _ fun x hx => ?_]
          · rw [List.nil_append, filterMap_some, map_bl, W_some, bAll_frz]
            have ff : (xs.map (rowD n)).all id = rowsD n (.tup xs) := by rw [List.all_map]; rfl
            rw [ff]
            simp only [W_body, W_sSeq, W_sNx, W_sBk, W_sCt, W_sExpr, W_sRet, W_sRetN, W_sIf, W_sAsg, W_sPar, W_sAug, W_eC, W_eVar, W_eBin, W_eUn, W_eArgs, W_aNil, W_aCons, W_eAnd, W_eOr, W_eNot, W_eIf, W_eChain, W_tVal, W_tBl, W_tAnd, W_tOr, W_tNot, W_tTrue, W_oNone, W_oSome, W_eSl, W_eRev, W_eMethL, W_eCall, W_iSeq, W_iRange1, W_iRange2, W_iEnumS, W_iZipS, W_sFor, W_eComp, W_lcStep, W_gV, W_gUnpackVV, W_newF, W_newT, W_some,
 kBody_rt, kBody_nx, kSeq_nx, kSeq_rt, kSeq_bk, kSeq_ct, kExp_, kRet_, kIf_t, kIf_f, kAsg_V, kPar_, kAug_, kB1_, kB2_, kU_, kN_, kC1_, kC2_, kAnd_T, kAnd_F, kOr_T, kOr_F, kNot_B, kCh1_, kCh2_, kCh3_t, kCh3_f, kTV_B, kTB_B, kTA_t, kTA_f, kTO_t, kTO_f, kTN_, kOS_, kSl1_, kSl2_, kSl3_, kM2_, kK1_, kK2_, kSq_tup, kSq_lst, kSq_str, kEn_tup, kEn_lst, kZp_tup, kZp_lst, kFor_, kTurn_nx, kTurn_ct, kTurn_bk, kTurn_rt, kComp_, kLcT_t, kLcT_f,
 setAll, wipeE, pick, List.getElem?_cons_zero, List.getElem?_cons_succ, List.set_cons_zero, List.set_cons_succ, List.map_cons, List.map_nil, List.replicate_succ, List.replicate_zero, List.cons_append, List.nil_append, List.append_nil, List.length_cons, List.length_nil, List.filterMap_cons, List.filterMap_nil,
 Nat.reduceAdd, Nat.reduceSub, Nat.reduceLeDiff, Nat.reduceEqDiff, and_self, if_true, if_false, opAdd_int, opSub_int, opGt_int, opLt_int, opGe_int, opLe_int, opEq_int, opEq_str, opEq_bl, opNe_int, opNe_bl, opNe_str, bInt_int, bInt_bl, bAbs_int, truD_bl, truD_int, W_fLst, W_fTup, pow18, bLen_tup, bLen_lst, bTuple_lst, bTuple_tup, bList_lst, bList_tup]
            have e3 : duoD (.tup xs) = true := decide_eq_true h2
            rw [e3, Bool.true_and] at e
            cases hr2 : rowsD n (.tup xs) with
            | false =>
              rw [hr2, Bool.false_and] at e
              simp only [isi_non, isi_bl, isi_int, isi_str, isi_tup, isi_frz, isi_bor, List.any_cons, List.any_nil, isTy, reduceCtorEq, decide_true, decide_false, Bool.or_false, Bool.or_true, Bool.true_or, Bool.false_or, Bool.not_true, Bool.not_false, W_body, W_sSeq, W_sNx, W_sBk, W_sCt, W_sExpr, W_sRet, W_sRetN, W_sIf, W_sAsg, W_sPar, W_sAug, W_eC, W_eVar, W_eBin, W_eUn, W_eArgs, W_aNil, W_aCons, W_eAnd, W_eOr, W_eNot, W_eIf, W_eChain, W_tVal, W_tBl, W_tAnd, W_tOr, W_tNot, W_tTrue, W_oNone, W_oSome, W_eSl, W_eRev, W_eMethL, W_eCall, W_iSeq, W_iRange1, W_iRange2, W_iEnumS, W_iZipS, W_sFor, W_eComp, W_lcStep, W_gV, W_gUnpackVV, W_newF, W_newT, W_some,
 kBody_rt, kBody_nx, kSeq_nx, kSeq_rt, kSeq_bk, kSeq_ct, kExp_, kRet_, kIf_t, kIf_f, kAsg_V, kPar_, kAug_, kB1_, kB2_, kU_, kN_, kC1_, kC2_, kAnd_T, kAnd_F, kOr_T, kOr_F, kNot_B, kCh1_, kCh2_, kCh3_t, kCh3_f, kTV_B, kTB_B, kTA_t, kTA_f, kTO_t, kTO_f, kTN_, kOS_, kSl1_, kSl2_, kSl3_, kM2_, kK1_, kK2_, kSq_tup, kSq_lst, kSq_str, kEn_tup, kEn_lst, kZp_tup, kZp_lst, kFor_, kTurn_nx, kTurn_ct, kTurn_bk, kTurn_rt, kComp_, kLcT_t, kLcT_f,
 setAll, wipeE, pick, List.getElem?_cons_zero, List.getElem?_cons_succ, List.set_cons_zero, List.set_cons_succ, List.map_cons, List.map_nil, List.replicate_succ, List.replicate_zero, List.cons_append, List.nil_append, List.append_nil, List.length_cons, List.length_nil, List.filterMap_cons, List.filterMap_nil,
 Nat.reduceAdd, Nat.reduceSub, Nat.reduceLeDiff, Nat.reduceEqDiff, and_self, if_true, if_false, opAdd_int, opSub_int, opGt_int, opLt_int, opGe_int, opLe_int, opEq_int, opEq_str, opEq_bl, opNe_int, opNe_bl, opNe_str, bInt_int, bInt_bl, bAbs_int, truD_bl, truD_int, W_fLst, W_fTup, pow18, bLen_tup, bLen_lst, bTuple_lst, bTuple_tup, bList_lst, bList_tup, e]
            | true =>
              rw [hr2, Bool.true_and] at e
              simp only [isi_non, isi_bl, isi_int, isi_str, isi_tup, isi_frz, isi_bor, List.any_cons, List.any_nil, isTy, reduceCtorEq, decide_true, decide_false, Bool.or_false, Bool.or_true, Bool.true_or, Bool.false_or, Bool.not_true, Bool.not_false, W_body, W_sSeq, W_sNx, W_sBk, W_sCt, W_sExpr, W_sRet, W_sRetN, W_sIf, W_sAsg, W_sPar, W_sAug, W_eC, W_eVar, W_eBin, W_eUn, W_eArgs, W_aNil, W_aCons, W_eAnd, W_eOr, W_eNot, W_eIf, W_eChain, W_tVal, W_tBl, W_tAnd, W_tOr, W_tNot, W_tTrue, W_oNone, W_oSome, W_eSl, W_eRev, W_eMethL, W_eCall, W_iSeq, W_iRange1, W_iRange2, W_iEnumS, W_iZipS, W_sFor, W_eComp, W_lcStep, W_gV, W_gUnpackVV, W_newF, W_newT, W_some,
 kBody_rt, kBody_nx, kSeq_nx, kSeq_rt, kSeq_bk, kSeq_ct, kExp_, kRet_, kIf_t, kIf_f, kAsg_V, kPar_, kAug_, kB1_, kB2_, kU_, kN_, kC1_, kC2_, kAnd_T, kAnd_F, kOr_T, kOr_F, kNot_B, kCh1_, kCh2_, kCh3_t, kCh3_f, kTV_B, kTB_B, kTA_t, kTA_f, kTO_t, kTO_f, kTN_, kOS_, kSl1_, kSl2_, kSl3_, kM2_, kK1_, kK2_, kSq_tup, kSq_lst, kSq_str, kEn_tup, kEn_lst, kZp_tup, kZp_lst, kFor_, kTurn_nx, kTurn_ct, kTurn_bk, kTurn_rt, kComp_, kLcT_t, kLcT_f,
 setAll, wipeE, pick, List.getElem?_cons_zero, List.getElem?_cons_succ, List.set_cons_zero, List.set_cons_succ, List.map_cons, List.map_nil, List.replicate_succ, List.replicate_zero, List.cons_append, List.nil_append, List.append_nil, List.length_cons, List.length_nil, List.filterMap_cons, List.filterMap_nil,
 Nat.reduceAdd, Nat.reduceSub, Nat.reduceLeDiff, Nat.reduceEqDiff, and_self, if_true, if_false, opAdd_int, opSub_int, opGt_int, opLt_int, opGe_int, opLe_int, opEq_int, opEq_str, opEq_bl, opNe_int, opNe_bl, opNe_str, bInt_int, bInt_bl, bAbs_int, truD_bl, truD_int, W_fLst, W_fTup, pow18, bLen_tup, bLen_lst, bTuple_lst, bTuple_tup, bList_lst, bList_tup]
              exact ⟨_, rfl, trivial, fun d h => hin d (List.mem_cons_of_mem _ h), e⟩
          · have hsx : sos xs = true := by simpa only [so] using hsd
            have hdx := deps_in hx
            simp only [dep] at hdd
            have hmx := mxs_in hx
            simp only [mx] at hmd
            refine W_get ?_
            simp only [W_body, W_sSeq, W_sNx, W_sBk, W_sCt, W_sExpr, W_sRet, W_sRetN, W_sIf, W_sAsg, W_sPar, W_sAug, W_eC, W_eVar, W_eBin, W_eUn, W_eArgs, W_aNil, W_aCons, W_eAnd, W_eOr, W_eNot, W_eIf, W_eChain, W_tVal, W_tBl, W_tAnd, W_tOr, W_tNot, W_tTrue, W_oNone, W_oSome, W_eSl, W_eRev, W_eMethL, W_eCall, W_iSeq, W_iRange1, W_iRange2, W_iEnumS, W_iZipS, W_sFor, W_eComp, W_lcStep, W_gV, W_gUnpackVV, W_newF, W_newT, W_some,
 kBody_rt, kBody_nx, kSeq_nx, kSeq_rt, kSeq_bk, kSeq_ct, kExp_, kRet_, kIf_t, kIf_f, kAsg_V, kPar_, kAug_, kB1_, kB2_, kU_, kN_, kC1_, kC2_, kAnd_T, kAnd_F, kOr_T, kOr_F, kNot_B, kCh1_, kCh2_, kCh3_t, kCh3_f, kTV_B, kTB_B, kTA_t, kTA_f, kTO_t, kTO_f, kTN_, kOS_, kSl1_, kSl2_, kSl3_, kM2_, kK1_, kK2_, kSq_tup, kSq_lst, kSq_str, kEn_tup, kEn_lst, kZp_tup, kZp_lst, kFor_, kTurn_nx, kTurn_ct, kTurn_bk, kTurn_rt, kComp_, kLcT_t, kLcT_f,
 setAll, wipeE, pick, List.getElem?_cons_zero, List.getElem?_cons_succ, List.set_cons_zero, List.set_cons_succ, List.map_cons, List.map_nil, List.replicate_succ, List.replicate_zero, List.cons_append, List.nil_append, List.append_nil, List.length_cons, List.length_nil, List.filterMap_cons, List.filterMap_nil,
 Nat.reduceAdd, Nat.reduceSub, Nat.reduceLeDiff, Nat.reduceEqDiff, and_self, if_true, if_false, opAdd_int, opSub_int, opGt_int, opLt_int, opGe_int, opLe_int, opEq_int, opEq_str, opEq_bl, opNe_int, opNe_bl, opNe_str, bInt_int, bInt_bl, bAbs_int, truD_bl, truD_int, W_fLst, W_fTup, pow18, bLen_tup, bLen_lst, bTuple_lst, bTuple_tup, bList_lst, bList_tup, isrow_run hr (n := n) (S := []) (cls_in hcx hx) (sos_in hsx hx) (by omega) (fun es he => by subst he; simp only [mx] at hmx; omega)]
        · have e3 : duoD (.tup xs) = false := decide_eq_false h2
          rw [e3, Bool.false_and, Bool.false_and] at e
          simp only [h2, decide_false, isi_non, isi_bl, isi_int, isi_str, isi_tup, isi_frz, isi_bor, List.any_cons, List.any_nil, isTy, reduceCtorEq, decide_true, decide_false, Bool.or_false, Bool.or_true, Bool.true_or, Bool.false_or, Bool.not_true, Bool.not_false, W_body, W_sSeq, W_sNx, W_sBk, W_sCt, W_sExpr, W_sRet, W_sRetN, W_sIf, W_sAsg, W_sPar, W_sAug, W_eC, W_eVar, W_eBin, W_eUn, W_eArgs, W_aNil, W_aCons, W_eAnd, W_eOr, W_eNot, W_eIf, W_eChain, W_tVal, W_tBl, W_tAnd, W_tOr, W_tNot, W_tTrue, W_oNone, W_oSome, W_eSl, W_eRev, W_eMethL, W_eCall, W_iSeq, W_iRange1, W_iRange2, W_iEnumS, W_iZipS, W_sFor, W_eComp, W_lcStep, W_gV, W_gUnpackVV, W_newF, W_newT, W_some,
 kBody_rt, kBody_nx, kSeq_nx, kSeq_rt, kSeq_bk, kSeq_ct, kExp_, kRet_, kIf_t, kIf_f, kAsg_V, kPar_, kAug_, kB1_, kB2_, kU_, kN_, kC1_, kC2_, kAnd_T, kAnd_F, kOr_T, kOr_F, kNot_B, kCh1_, kCh2_, kCh3_t, kCh3_f, kTV_B, kTB_B, kTA_t, kTA_f, kTO_t, kTO_f, kTN_, kOS_, kSl1_, kSl2_, kSl3_, kM2_, kK1_, kK2_, kSq_tup, kSq_lst, kSq_str, kEn_tup, kEn_lst, kZp_tup, kZp_lst, kFor_, kTurn_nx, kTurn_ct, kTurn_bk, kTurn_rt, kComp_, kLcT_t, kLcT_f,
 setAll, wipeE, pick, List.getElem?_cons_zero, List.getElem?_cons_succ, List.set_cons_zero, List.set_cons_succ, List.map_cons, List.map_nil, List.replicate_succ, List.replicate_zero, List.cons_append, List.nil_append, List.append_nil, List.length_cons, List.length_nil, List.filterMap_cons, List.filterMap_nil,
 Nat.reduceAdd, Nat.reduceSub, Nat.reduceLeDiff, Nat.reduceEqDiff, and_self, if_true, if_false, opAdd_int, opSub_int, opGt_int, opLt_int, opGe_int, opLe_int, opEq_int, opEq_str, opEq_bl, opNe_int, opNe_bl, opNe_str, bInt_int, bInt_bl, bAbs_int, truD_bl, truD_int, W_fLst, W_fTup, pow18, bLen_tup, bLen_lst, bTuple_lst, bTuple_tup, bList_lst, bList_tup, e]
      | _ =>
        replace e : recD n (.tup es) = false := e
        simp only [isi_non, isi_bl, isi_int, isi_str, isi_tup, isi_frz, isi_bor, List.any_cons, List.any_nil, isTy, reduceCtorEq, decide_true, decide_false, Bool.or_false, Bool.or_true, Bool.true_or, Bool.false_or, Bool.not_true, Bool.not_false, W_body, W_sSeq, W_sNx, W_sBk, W_sCt, W_sExpr, W_sRet, W_sRetN, W_sIf, W_sAsg, W_sPar, W_sAug, W_eC, W_eVar, W_eBin, W_eUn, W_eArgs, W_aNil, W_aCons, W_eAnd, W_eOr, W_eNot, W_eIf, W_eChain, W_tVal, W_tBl, W_tAnd, W_tOr, W_tNot, W_tTrue, W_oNone, W_oSome, W_eSl, W_eRev, W_eMethL, W_eCall, W_iSeq, W_iRange1, W_iRange2, W_iEnumS, W_iZipS, W_sFor, W_eComp, W_lcStep, W_gV, W_gUnpackVV, W_newF, W_newT, W_some,
 kBody_rt, kBody_nx, kSeq_nx, kSeq_rt, kSeq_bk, kSeq_ct, kExp_, kRet_, kIf_t, kIf_f, kAsg_V, kPar_, kAug_, kB1_, kB2_, kU_, kN_, kC1_, kC2_, kAnd_T, kAnd_F, kOr_T, kOr_F, kNot_B, kCh1_, kCh2_, kCh3_t, kCh3_f, kTV_B, kTB_B, kTA_t, kTA_f, kTO_t, kTO_f, kTN_, kOS_, kSl1_, kSl2_, kSl3_, kM2_, kK1_, kK2_, kSq_tup, kSq_lst, kSq_str, kEn_tup, kEn_lst, kZp_tup, kZp_lst, kFor_, kTurn_nx, kTurn_ct, kTurn_bk, kTurn_rt, kComp_, kLcT_t, kLcT_f,
 setAll, wipeE, pick, List.getElem?_cons_zero, List.getElem?_cons_succ, List.set_cons_zero, List.set_cons_succ, List.map_cons, List.map_nil, List.replicate_succ, List.replicate_zero, List.cons_append, List.nil_append, List.append_nil, List.length_cons, List.length_nil, List.filterMap_cons, List.filterMap_nil,
 Nat.reduceAdd, Nat.reduceSub, Nat.reduceLeDiff, Nat.reduceEqDiff, and_self, if_true, if_false, opAdd_int, opSub_int, opGt_int, opLt_int, opGe_int, opLe_int, opEq_int, opEq_str, opEq_bl, opNe_int, opNe_bl, opNe_str, bInt_int, bInt_bl, bAbs_int, truD_bl, truD_int, W_fLst, W_fTup, pow18, bLen_tup, bLen_lst, bTuple_lst, bTuple_tup, bList_lst, bList_tup, e]
  | _ => simp only [isi_non, isi_bl, isi_int, isi_str, isi_tup, isi_frz, isi_bor, List.any_cons, List.any_nil, isTy, reduceCtorEq, decide_true, decide_false, Bool.or_false, Bool.or_true, Bool.true_or, Bool.false_or, Bool.not_true, Bool.not_false, W_body, W_sSeq, W_sNx, W_sBk, W_sCt, W_sExpr, W_sRet, W_sRetN, W_sIf, W_sAsg, W_sPar, W_sAug, W_eC, W_eVar, W_eBin, W_eUn, W_eArgs, W_aNil, W_aCons, W_eAnd, W_eOr, W_eNot, W_eIf, W_eChain, W_tVal, W_tBl, W_tAnd, W_tOr, W_tNot, W_tTrue, W_oNone, W_oSome, W_eSl, W_eRev, W_eMethL, W_eCall, W_iSeq, W_iRange1, W_iRange2, W_iEnumS, W_iZipS, W_sFor, W_eComp, W_lcStep, W_gV, W_gUnpackVV, W_newF, W_newT, W_some,
 kBody_rt, kBody_nx, kSeq_nx, kSeq_rt, kSeq_bk, kSeq_ct, kExp_, kRet_, kIf_t, kIf_f, kAsg_V, kPar_, kAug_, kB1_, kB2_, kU_, kN_, kC1_, kC2_, kAnd_T, kAnd_F, kOr_T, kOr_F, kNot_B, kCh1_, kCh2_, kCh3_t, kCh3_f, kTV_B, kTB_B, kTA_t, kTA_f, kTO_t, kTO_f, kTN_, kOS_, kSl1_, kSl2_, kSl3_, kM2_, kK1_, kK2_, kSq_tup, kSq_lst, kSq_str, kEn_tup, kEn_lst, kZp_tup, kZp_lst, kFor_, kTurn_nx, kTurn_ct, kTurn_bk, kTurn_rt, kComp_, kLcT_t, kLcT_f,
 setAll, wipeE, pick, List.getElem?_cons_zero, List.getElem?_cons_succ, List.set_cons_zero, List.set_cons_succ, List.map_cons, List.map_nil, List.replicate_succ, List.replicate_zero, List.cons_append, List.nil_append, List.append_nil, List.length_cons, List.length_nil, List.filterMap_cons, List.filterMap_nil,
 Nat.reduceAdd, Nat.reduceSub, Nat.reduceLeDiff, Nat.reduceEqDiff, and_self, if_true, if_false, opAdd_int, opSub_int, opGt_int, opLt_int, opGe_int, opLe_int, opEq_int, opEq_str, opEq_bl, opNe_int, opNe_bl, opNe_str, bInt_int, bInt_bl, bAbs_int, truD_bl, truD_int, W_fLst, W_fTup, pow18, bLen_tup, bLen_lst, bTuple_lst, bTuple_tup, bList_lst, bList_tup, recD]
end AW

namespace AW
open PySem PySem.Spec PyProof.Rows L2

theorem Gd.mono {k m k' m' : Nat} {d : D} (g : Gd k m d) (h : k ≤ k') (h' : m ≤ m') : Gd k' m' d := ⟨g.c, g.s, Nat.le_trans g.p h, Nat.le_trans g.l h'⟩
theorem Gd.non {k m : Nat} : Gd k m .non := ⟨rfl, rfl, Nat.zero_le _, Nat.zero_le _⟩
theorem Gd.bl {k m : Nat} {b : Bool} : Gd k m (.bl b) := ⟨rfl, rfl, Nat.zero_le _, Nat.zero_le _⟩
theorem Gd.int {k m : Nat} {b : Int} : Gd k m (.int b) := ⟨rfl, rfl, Nat.zero_le _, Nat.zero_le _⟩
theorem Gd.str {k m : Nat} {b : Str} (h : PyData.strOk b = true) : Gd k m (.str b) := ⟨rfl, h, Nat.zero_le _, Nat.zero_le _⟩
theorem cls_of : ∀ {ds : List D}, (∀ d ∈ ds, cl d = true) → cls ds = true
  | [], _ => rfl
  | d :: ds, h => by simp only [cls, h d List.mem_cons_self, cls_of fun y hy => h y (List.mem_cons_of_mem _ hy), Bool.and_self]
theorem sos_of : ∀ {ds : List D}, (∀ d ∈ ds, so d = true) → sos ds = true
  | [], _ => rfl
  | d :: ds, h => by simp only [sos, h d List.mem_cons_self, sos_of fun y hy => h y (List.mem_cons_of_mem _ hy), Bool.and_self]
theorem deps_of {k : Nat} : ∀ {ds : List D}, (∀ d ∈ ds, dep d ≤ k) → deps ds ≤ k
  | [], _ => by simp [deps]
  | d :: ds, h => by
    have a := h d List.mem_cons_self
    have b := deps_of fun y hy => h y (List.mem_cons_of_mem _ hy)
    simp only [deps]; omega
theorem mxs_of {k : Nat} : ∀ {ds : List D}, (∀ d ∈ ds, mx d ≤ k) → mxs ds ≤ k
  | [], _ => by simp [mxs]
  | d :: ds, h => by
    have a := h d List.mem_cons_self
    have b := mxs_of fun y hy => h y (List.mem_cons_of_mem _ hy)
    simp only [mxs]; omega
theorem Gd.tup {k m : Nat} {xs : List D} (h : ∀ x ∈ xs, Gd k m x) (hl : xs.length ≤ m) (hm : m ≤ LIM) : Gd (k + 1) m (.tup xs) := by
  refine ⟨?_, ?_, ?_, ?_⟩
  · simp only [cl, cls_of fun d hd => (h d hd).c, Bool.and_true, decide_eq_true_eq]; omega
  · simp only [so]; exact sos_of fun d hd => (h d hd).s
  · have := deps_of fun d hd => (h d hd).p
    simp only [dep]; omega
  · have := mxs_of fun d hd => (h d hd).l
    simp only [mx]; omega
theorem Gd.lst {k m : Nat} {xs : List D} (h : ∀ x ∈ xs, Gd k m x) (hl : xs.length ≤ m) (hm : m ≤ LIM) : Gd (k + 1) m (.lst .frz xs) := by
  refine ⟨?_, ?_, ?_, ?_⟩
  · simp only [cl, cls_of fun d hd => (h d hd).c, Bool.and_true, decide_eq_true_eq]; omega
  · simp only [so]; exact sos_of fun d hd => (h d hd).s
  · have := deps_of fun d hd => (h d hd).p
    simp only [dep]; omega
  · have := mxs_of fun d hd => (h d hd).l
    simp only [mx]; omega
theorem Gd.in {k m : Nat} {xs : List D} (g : Gd (k + 1) m (.tup xs)) : xs.length ≤ m ∧ ∀ x ∈ xs, Gd k m x := by
  obtain ⟨a, b, c, d⟩ := g
  have hc := (cl_tup a).2
  have hs : sos xs = true := by simpa only [so] using b
  simp only [dep] at c
  simp only [mx] at d
  refine ⟨by omega, fun x hx => ⟨cls_in hc hx, sos_in hs hx, ?_, ?_⟩⟩
  · have := deps_in hx; omega
  · have := mxs_in hx; omega
theorem Gd.tup0 {m : Nat} {xs : List D} (g : Gd 0 m (.tup xs)) : False := by
  have := g.p
  simp [dep] at this
theorem all_nil {P : D → Prop} : ∀ x ∈ ([] : List D), P x := fun x h => by cases h
theorem all_cons {P : D → Prop} {d : D} {ds : List D} (h : P d) (t : ∀ x ∈ ds, P x) : ∀ x ∈ d :: ds, P x := fun x hx => by
  rcases List.mem_cons.mp hx with rfl | hx
  · exact h
  · exact t x hx
theorem opNe_tupnil {ds : List D} {S : Sto} (h : sos ds = true) (hd : deps ds ≤ 63) : opNe (.tup ds) (.tup []) S = some (.bl (!ds.isEmpty), S) := by
  have e : toP S (.tup ds) = some (pd (.tup ds)) := toP_pd (by simpa only [so] using h)
  have e' : toP S (.tup []) = some (pd (.tup [])) := rfl
  simp only [opNe, opEqF, opNeP, e, e']
  rw [shaped_pd (d := .tup ds) (by simpa only [so] using h) (by simp only [dep]; omega), shaped_pd (d := .tup []) rfl (by simp [dep, deps])]
  cases ds <;> simp [pd, pds, PyData.eqv, PyData.eqvAll]
theorem opSl_tl {ds : List D} {k : Nat} {S : Sto} : opSl false (.tup ds) none (some (k : Int)) S = some (.tup (ds.take k), S) := opSl_take (b := true)
theorem opSl_td {ds : List D} {k : Nat} {S : Sto} : opSl false (.tup ds) (some (k : Int)) none S = some (.tup (ds.drop k), S) := by
  simp only [opSl, cutD, HT.sIx_none, HT.sIx_nat]
  congr 3
  by_cases h : k ≤ ds.length
  · rw [Nat.min_eq_left h, List.take_of_length_le (by simp)]
  · rw [Nat.min_eq_right (by omega), List.drop_of_length_le (Nat.le_refl _), List.drop_of_length_le (by omega)]; simp
theorem opAdd_tup {a b : List D} {S : Sto} (h : a.length + b.length ≤ 1000000) : opAdd false (.tup a) (.tup b) S = some (.tup (a ++ b), S) := by
  simp only [opAdd, opAddT]
  exact if_pos h
theorem opAdd_lst {mk : Bool} {a b : List D} {S : Sto} (h : a.length + b.length ≤ 1000000) : opAdd mk (.lst .frz a) (.lst .frz b) S = newL mk (a ++ b) S := by
  simp only [opAdd, opAddL, readL]
  exact if_pos h
theorem opNeg_int {i : Int} {S : Sto} : opNeg (.int i) S = some (.int (-i), S) := rfl
theorem W_new0 {ds : List D} {S : Sto} {Q : Kn D} : W (newL false ds S) Q = Q (.lst .frz ds) S := W_some
def oddSem (take of odd : OpN) : SemS := (sSeq (sIf (AW.tAnd (tVal (eUn (opIsi [Ty.tup]) (eVar 1))) (AW.tAnd (tBl (eBin opNe (eVar 1) (eArgs fTup aNil))) (tBl (eBin opGt (eCall take 2 0 2 [] [0, 1] (aCons (eVar 0) (aCons (eC (D.int 3)) aNil)) aNil) (eC (D.int 0)))))) (sSeq (sAsg (gV 2) (eCall take 2 0 2 [] [0, 1] (aCons (eVar 0) (aCons (eArgs bLen (aCons (eVar 1) aNil)) aNil)) aNil)) (sRet (eBin (opAdd false) (eBin (opAdd false) (eSl (opSl false) (eVar 1) oNone (oSome (eVar 2))) (eArgs fTup (aCons (eCall odd 2 0 2 [] [0, 1] (aCons (eVar 0) (aCons (eBin opIx (eVar 1) (eVar 2)) aNil)) aNil) aNil))) (eSl (opSl false) (eVar 1) (oSome (eBin (opAdd false) (eVar 2) (eC (D.int 1)))) oNone)))) sNx) (sSeq (sAsg (gV 3) (eArgs (fLst false) (aCons (eC D.non) (aCons (eC (D.bl true)) (aCons (eC (D.bl false)) (aCons (eUn opNeg (eC (D.int 1))) (aCons (eC (D.int 0)) (aCons (eC (D.int 3)) (aCons (eC (D.int 7)) (aCons (eC (D.int 99)) (aCons (eC (D.str (Str.ofString "a"))) (aCons (eArgs (fLst false) aNil) (aCons (eArgs fTup aNil) (aCons (eArgs (fLst false) (aCons (eVar 1) aNil)) (aCons (eArgs fTup (aCons (eVar 1) aNil)) (aCons (eArgs fTup (aCons (eVar 1) (aCons (eVar 1) aNil))) (aCons (eArgs fTup (aCons (eArgs fTup aNil) (aCons (eArgs fTup aNil) aNil))) aNil))))))))))))))))) (sSeq (sIf (tVal (eUn (opIsi [Ty.tup]) (eVar 1))) (sAsg (gV 3) (eBin (opAdd false) (eVar 3) (eArgs (fLst false) (aCons (eBin (opAdd false) (eVar 1) (eArgs fTup (aCons (eC (D.int 5)) aNil))) (aCons (eRev false (eVar 1)) (aCons (eArgs (bList false) (aCons (eVar 1) aNil)) (aCons (eSl (opSl false) (eVar 1) (oSome (eC (D.int 1))) oNone) (aCons (eBin (opAdd false) (eVar 1) (eVar 1)) aNil)))))))) sNx) (sRet (eCall of 2 0 2 [] [0, 1] (aCons (eVar 0) (aCons (eVar 3) aNil)) aNil)))))
def oddTail (of : OpN) : SemS := (sSeq (sAsg (gV 3) (eArgs (fLst false) (aCons (eC D.non) (aCons (eC (D.bl true)) (aCons (eC (D.bl false)) (aCons (eUn opNeg (eC (D.int 1))) (aCons (eC (D.int 0)) (aCons (eC (D.int 3)) (aCons (eC (D.int 7)) (aCons (eC (D.int 99)) (aCons (eC (D.str (Str.ofString "a"))) (aCons (eArgs (fLst false) aNil) (aCons (eArgs fTup aNil) (aCons (eArgs (fLst false) (aCons (eVar 1) aNil)) (aCons (eArgs fTup (aCons (eVar 1) aNil)) (aCons (eArgs fTup (aCons (eVar 1) (aCons (eVar 1) aNil))) (aCons (eArgs fTup (aCons (eArgs fTup aNil) (aCons (eArgs fTup aNil) aNil))) aNil))))))))))))))))) (sSeq (sIf (tVal (eUn (opIsi [Ty.tup]) (eVar 1))) (sAsg (gV 3) (eBin (opAdd false) (eVar 3) (eArgs (fLst false) (aCons (eBin (opAdd false) (eVar 1) (eArgs fTup (aCons (eC (D.int 5)) aNil))) (aCons (eRev false (eVar 1)) (aCons (eArgs (bList false) (aCons (eVar 1) aNil)) (aCons (eSl (opSl false) (eVar 1) (oSome (eC (D.int 1))) oNone) (aCons (eBin (opAdd false) (eVar 1) (eVar 1)) aNil)))))))) sNx) (sRet (eCall of 2 0 2 [] [0, 1] (aCons (eVar 0) (aCons (eVar 3) aNil)) aNil))))
def oddIf (take odd : OpN) : SemS := (sIf (AW.tAnd (tVal (eUn (opIsi [Ty.tup]) (eVar 1))) (AW.tAnd (tBl (eBin opNe (eVar 1) (eArgs fTup aNil))) (tBl (eBin opGt (eCall take 2 0 2 [] [0, 1] (aCons (eVar 0) (aCons (eC (D.int 3)) aNil)) aNil) (eC (D.int 0)))))) (sSeq (sAsg (gV 2) (eCall take 2 0 2 [] [0, 1] (aCons (eVar 0) (aCons (eArgs bLen (aCons (eVar 1) aNil)) aNil)) aNil)) (sRet (eBin (opAdd false) (eBin (opAdd false) (eSl (opSl false) (eVar 1) oNone (oSome (eVar 2))) (eArgs fTup (aCons (eCall odd 2 0 2 [] [0, 1] (aCons (eVar 0) (aCons (eBin opIx (eVar 1) (eVar 2)) aNil)) aNil) aNil))) (eSl (opSl false) (eVar 1) (oSome (eBin (opAdd false) (eVar 2) (eC (D.int 1)))) oNone)))) sNx)
theorem odd_eq {take of odd : OpN} : oddSem take of odd = sSeq (oddIf take odd) (oddTail of) := rfl
/-- what may be put in d's place -/
theorem oddTail_run {take of : OpN} (t : TakeS take) (ho : of = body 2 (ofSem take)) {i n k m : Nat} {d : D} {S : Sto} {Q : Kn D} {x2 x3 : Option D} (g : Gd k m d) (h1 : 1 ≤ m) (hm : m ≤ 1000) (hb : Bx S i (n + 1)) (q : ∀ r S', Gd (k + 2) (2 * m + 2) r → Dr i n S S' → Q r S') :
    W (oddTail of [some (.ref i), some d, x2, x3] S) (kBody Q) := by
  unfold oddTail
  have gd : Gd (k + 1) (2 * m + 2) d := g.mono (by omega) (by omega)
  have lim : 2 * m + 2 ≤ LIM := Nat.le_trans (show 2 * m + 2 ≤ 2002 by omega) (by decide)
  have base : ∀ x ∈ [D.non, .bl true, .bl false, .int (-1), .int 0, .int 3, .int 7, .int 99, .str (Str.ofString "a"), .lst .frz [], .tup [], .lst .frz [d], .tup [d], .tup [d, d], .tup [.tup [], .tup []]], Gd (k + 2) (2 * m + 2) x :=
    all_cons .non (all_cons .bl (all_cons .bl (all_cons .int (all_cons .int (all_cons .int (all_cons .int (all_cons .int (all_cons (.str (by decide +kernel)) (all_cons (.lst all_nil (Nat.zero_le _) lim) (all_cons (.tup all_nil (Nat.zero_le _) lim)
      (all_cons (.lst (all_cons gd all_nil) (by simp) lim) (all_cons (.tup (all_cons gd all_nil) (by simp) lim) (all_cons (.tup (all_cons gd (all_cons gd all_nil)) (by simp) lim)
        (all_cons (.tup (all_cons (.tup all_nil (Nat.zero_le _) lim) (all_cons (.tup all_nil (Nat.zero_le _) lim) all_nil)) (by simp) lim) all_nil))))))))))))))
  simp only [W_body, W_sSeq, W_sNx, W_sBk, W_sCt, W_sExpr, W_sRet, W_sRetN, W_sIf, W_sAsg, W_sPar, W_sAug, W_eC, W_eVar, W_eBin, W_eUn, W_eArgs, W_aNil, W_aCons, W_eAnd, W_eOr, W_eNot, W_eIf, W_eChain, W_tVal, W_tBl, W_tAnd, W_tOr, W_tNot, W_tTrue, W_oNone, W_oSome, W_eSl, W_eRev, W_eMethL, W_eCall, W_iSeq, W_iRange1, W_iRange2, W_iEnumS, W_iZipS, W_sFor, W_eComp, W_lcStep, W_gV, W_gUnpackVV, W_newF, W_newT, W_some,
 kBody_rt, kBody_nx, kSeq_nx, kSeq_rt, kSeq_bk, kSeq_ct, kExp_, kRet_, kIf_t, kIf_f, kAsg_V, kPar_, kAug_, kB1_, kB2_, kU_, kN_, kC1_, kC2_, kAnd_T, kAnd_F, kOr_T, kOr_F, kNot_B, kCh1_, kCh2_, kCh3_t, kCh3_f, kTV_B, kTB_B, kTA_t, kTA_f, kTO_t, kTO_f, kTN_, kOS_, kSl1_, kSl2_, kSl3_, kM2_, kK1_, kK2_, kSq_tup, kSq_lst, kSq_str, kEn_tup, kEn_lst, kZp_tup, kZp_lst, kFor_, kTurn_nx, kTurn_ct, kTurn_bk, kTurn_rt, kComp_, kLcT_t, kLcT_f,
 setAll, wipeE, pick, List.getElem?_cons_zero, List.getElem?_cons_succ, List.set_cons_zero, List.set_cons_succ, List.map_cons, List.map_nil, List.replicate_succ, List.replicate_zero, List.cons_append, List.nil_append, List.append_nil, List.length_cons, List.length_nil, List.filterMap_cons, List.filterMap_nil,
 Nat.reduceAdd, Nat.reduceSub, Nat.reduceLeDiff, Nat.reduceEqDiff, and_self, if_true, if_false, opAdd_int, opSub_int, opGt_int, opLt_int, opGe_int, opLe_int, opEq_int, opEq_str, opEq_bl, opNe_int, opNe_bl, opNe_str, bInt_int, bInt_bl, bAbs_int, truD_bl, truD_int, W_fLst, W_fTup, pow18, bLen_tup, bLen_lst, bTuple_lst, bTuple_tup, bList_lst, bList_tup, opNeg_int]
  have pick : ∀ (S : Sto) (zs : List D) (x2 : Option D), Bx S i (n + 1) → 0 < zs.length → zs.length < 1000 → (∀ x ∈ zs, Gd (k + 2) (2 * m + 2) x) → (∀ r S', Gd (k + 2) (2 * m + 2) r → Dr i n S S' → Q r S') → W (of [.ref i, .lst .frz zs] S) (kRet [some (.ref i), some d, x2, some (.lst .frz zs)] (kBody Q)) := fun S zs x2 hb h0 h1 hz q =>
    W.congF ho (of_run t hb h0 (by omega) fun r S' hr dr _ => q r S' (hz r hr) dr)
  cases d with
  | tup es =>
    have hes : es.length ≤ m := by have := g.l; simp only [mx] at this; omega
    have ges : ∀ x ∈ es, Gd (k + 1) (2 * m + 2) x := fun x hx => by
      cases k with
      | zero => exact (g.tup0).elim
      | succ k => exact (g.in.2 x hx).mono (by omega) (by omega)
    simp only [isi_non, isi_bl, isi_int, isi_str, isi_tup, isi_frz, isi_bor, List.any_cons, List.any_nil, isTy, reduceCtorEq, decide_true, decide_false, Bool.or_false, Bool.or_true, Bool.true_or, Bool.false_or, Bool.not_true, Bool.not_false, W_body, W_sSeq, W_sNx, W_sBk, W_sCt, W_sExpr, W_sRet, W_sRetN, W_sIf, W_sAsg, W_sPar, W_sAug, W_eC, W_eVar, W_eBin, W_eUn, W_eArgs, W_aNil, W_aCons, W_eAnd, W_eOr, W_eNot, W_eIf, W_eChain, W_tVal, W_tBl, W_tAnd, W_tOr, W_tNot, W_tTrue, W_oNone, W_oSome, W_eSl, W_eRev, W_eMethL, W_eCall, W_iSeq, W_iRange1, W_iRange2, W_iEnumS, W_iZipS, W_sFor, W_eComp, W_lcStep, W_gV, W_gUnpackVV, W_newF, W_newT, W_some,
 kBody_rt, kBody_nx, kSeq_nx, kSeq_rt, kSeq_bk, kSeq_ct, kExp_, kRet_, kIf_t, kIf_f, kAsg_V, kPar_, kAug_, kB1_, kB2_, kU_, kN_, kC1_, kC2_, kAnd_T, kAnd_F, kOr_T, kOr_F, kNot_B, kCh1_, kCh2_, kCh3_t, kCh3_f, kTV_B, kTB_B, kTA_t, kTA_f, kTO_t, kTO_f, kTN_, kOS_, kSl1_, kSl2_, kSl3_, kM2_, kK1_, kK2_, kSq_tup, kSq_lst, kSq_str, kEn_tup, kEn_lst, kZp_tup, kZp_lst, kFor_, kTurn_nx, kTurn_ct, kTurn_bk, kTurn_rt, kComp_, kLcT_t, kLcT_f,
 setAll, wipeE, pick, List.getElem?_cons_zero, List.getElem?_cons_succ, List.set_cons_zero, List.set_cons_succ, List.map_cons, List.map_nil, List.replicate_succ, List.replicate_zero, List.cons_append, List.nil_append, List.append_nil, List.length_cons, List.length_nil, List.filterMap_cons, List.filterMap_nil,
 Nat.reduceAdd, Nat.reduceSub, Nat.reduceLeDiff, Nat.reduceEqDiff, and_self, if_true, if_false, opAdd_int, opSub_int, opGt_int, opLt_int, opGe_int, opLe_int, opEq_int, opEq_str, opEq_bl, opNe_int, opNe_bl, opNe_str, bInt_int, bInt_bl, bAbs_int, truD_bl, truD_int, W_fLst, W_fTup, pow18, bLen_tup, bLen_lst, bTuple_lst, bTuple_tup, bList_lst, bList_tup]
    rw [opAdd_tup (by simp; omega)]
    simp only [W_body, W_sSeq, W_sNx, W_sBk, W_sCt, W_sExpr, W_sRet, W_sRetN, W_sIf, W_sAsg, W_sPar, W_sAug, W_eC, W_eVar, W_eBin, W_eUn, W_eArgs, W_aNil, W_aCons, W_eAnd, W_eOr, W_eNot, W_eIf, W_eChain, W_tVal, W_tBl, W_tAnd, W_tOr, W_tNot, W_tTrue, W_oNone, W_oSome, W_eSl, W_eRev, W_eMethL, W_eCall, W_iSeq, W_iRange1, W_iRange2, W_iEnumS, W_iZipS, W_sFor, W_eComp, W_lcStep, W_gV, W_gUnpackVV, W_newF, W_newT, W_some,
 kBody_rt, kBody_nx, kSeq_nx, kSeq_rt, kSeq_bk, kSeq_ct, kExp_, kRet_, kIf_t, kIf_f, kAsg_V, kPar_, kAug_, kB1_, kB2_, kU_, kN_, kC1_, kC2_, kAnd_T, kAnd_F, kOr_T, kOr_F, kNot_B, kCh1_, kCh2_, kCh3_t, kCh3_f, kTV_B, kTB_B, kTA_t, kTA_f, kTO_t, kTO_f, kTN_, kOS_, kSl1_, kSl2_, kSl3_, kM2_, kK1_, kK2_, kSq_tup, kSq_lst, kSq_str, kEn_tup, kEn_lst, kZp_tup, kZp_lst, kFor_, kTurn_nx, kTurn_ct, kTurn_bk, kTurn_rt, kComp_, kLcT_t, kLcT_f,
 setAll, wipeE, pick, List.getElem?_cons_zero, List.getElem?_cons_succ, List.set_cons_zero, List.set_cons_succ, List.map_cons, List.map_nil, List.replicate_succ, List.replicate_zero, List.cons_append, List.nil_append, List.append_nil, List.length_cons, List.length_nil, List.filterMap_cons, List.filterMap_nil,
 Nat.reduceAdd, Nat.reduceSub, Nat.reduceLeDiff, Nat.reduceEqDiff, and_self, if_true, if_false, opAdd_int, opSub_int, opGt_int, opLt_int, opGe_int, opLe_int, opEq_int, opEq_str, opEq_bl, opNe_int, opNe_bl, opNe_str, bInt_int, bInt_bl, bAbs_int, truD_bl, truD_int, W_fLst, W_fTup, pow18, bLen_tup, bLen_lst, bTuple_lst, bTuple_tup, bList_lst, bList_tup, kRv_tup, opSl_drop1]
    rw [opAdd_tup (by omega)]
    simp only [W_body, W_sSeq, W_sNx, W_sBk, W_sCt, W_sExpr, W_sRet, W_sRetN, W_sIf, W_sAsg, W_sPar, W_sAug, W_eC, W_eVar, W_eBin, W_eUn, W_eArgs, W_aNil, W_aCons, W_eAnd, W_eOr, W_eNot, W_eIf, W_eChain, W_tVal, W_tBl, W_tAnd, W_tOr, W_tNot, W_tTrue, W_oNone, W_oSome, W_eSl, W_eRev, W_eMethL, W_eCall, W_iSeq, W_iRange1, W_iRange2, W_iEnumS, W_iZipS, W_sFor, W_eComp, W_lcStep, W_gV, W_gUnpackVV, W_newF, W_newT, W_some,
 kBody_rt, kBody_nx, kSeq_nx, kSeq_rt, kSeq_bk, kSeq_ct, kExp_, kRet_, kIf_t, kIf_f, kAsg_V, kPar_, kAug_, kB1_, kB2_, kU_, kN_, kC1_, kC2_, kAnd_T, kAnd_F, kOr_T, kOr_F, kNot_B, kCh1_, kCh2_, kCh3_t, kCh3_f, kTV_B, kTB_B, kTA_t, kTA_f, kTO_t, kTO_f, kTN_, kOS_, kSl1_, kSl2_, kSl3_, kM2_, kK1_, kK2_, kSq_tup, kSq_lst, kSq_str, kEn_tup, kEn_lst, kZp_tup, kZp_lst, kFor_, kTurn_nx, kTurn_ct, kTurn_bk, kTurn_rt, kComp_, kLcT_t, kLcT_f,
 setAll, wipeE, pick, List.getElem?_cons_zero, List.getElem?_cons_succ, List.set_cons_zero, List.set_cons_succ, List.map_cons, List.map_nil, List.replicate_succ, List.replicate_zero, List.cons_append, List.nil_append, List.append_nil, List.length_cons, List.length_nil, List.filterMap_cons, List.filterMap_nil,
 Nat.reduceAdd, Nat.reduceSub, Nat.reduceLeDiff, Nat.reduceEqDiff, and_self, if_true, if_false, opAdd_int, opSub_int, opGt_int, opLt_int, opGe_int, opLe_int, opEq_int, opEq_str, opEq_bl, opNe_int, opNe_bl, opNe_str, bInt_int, bInt_bl, bAbs_int, truD_bl, truD_int, W_fLst, W_fTup, pow18, bLen_tup, bLen_lst, bTuple_lst, bTuple_tup, bList_lst, bList_tup]
    rw [opAdd_lst (by simp)]
    simp only [W_body, W_sSeq, W_sNx, W_sBk, W_sCt, W_sExpr, W_sRet, W_sRetN, W_sIf, W_sAsg, W_sPar, W_sAug, W_eC, W_eVar, W_eBin, W_eUn, W_eArgs, W_aNil, W_aCons, W_eAnd, W_eOr, W_eNot, W_eIf, W_eChain, W_tVal, W_tBl, W_tAnd, W_tOr, W_tNot, W_tTrue, W_oNone, W_oSome, W_eSl, W_eRev, W_eMethL, W_eCall, W_iSeq, W_iRange1, W_iRange2, W_iEnumS, W_iZipS, W_sFor, W_eComp, W_lcStep, W_gV, W_gUnpackVV, W_newF, W_newT, W_some,
 kBody_rt, kBody_nx, kSeq_nx, kSeq_rt, kSeq_bk, kSeq_ct, kExp_, kRet_, kIf_t, kIf_f, kAsg_V, kPar_, kAug_, kB1_, kB2_, kU_, kN_, kC1_, kC2_, kAnd_T, kAnd_F, kOr_T, kOr_F, kNot_B, kCh1_, kCh2_, kCh3_t, kCh3_f, kTV_B, kTB_B, kTA_t, kTA_f, kTO_t, kTO_f, kTN_, kOS_, kSl1_, kSl2_, kSl3_, kM2_, kK1_, kK2_, kSq_tup, kSq_lst, kSq_str, kEn_tup, kEn_lst, kZp_tup, kZp_lst, kFor_, kTurn_nx, kTurn_ct, kTurn_bk, kTurn_rt, kComp_, kLcT_t, kLcT_f,
 setAll, wipeE, pick, List.getElem?_cons_zero, List.getElem?_cons_succ, List.set_cons_zero, List.set_cons_succ, List.map_cons, List.map_nil, List.replicate_succ, List.replicate_zero, List.cons_append, List.nil_append, List.append_nil, List.length_cons, List.length_nil, List.filterMap_cons, List.filterMap_nil,
 Nat.reduceAdd, Nat.reduceSub, Nat.reduceLeDiff, Nat.reduceEqDiff, and_self, if_true, if_false, opAdd_int, opSub_int, opGt_int, opLt_int, opGe_int, opLe_int, opEq_int, opEq_str, opEq_bl, opNe_int, opNe_bl, opNe_str, bInt_int, bInt_bl, bAbs_int, truD_bl, truD_int, W_fLst, W_fTup, pow18, bLen_tup, bLen_lst, bTuple_lst, bTuple_tup, bList_lst, bList_tup]
    refine pick S _ _ hb (by simp) (by simp) ?_ q
    intro x hx
    rcases List.mem_append.mp (show x ∈ [D.non, .bl true, .bl false, .int (-1), .int 0, .int 3, .int 7, .int 99, .str (Str.ofString "a"), .lst .frz [], .tup [], .lst .frz [.tup es], .tup [.tup es], .tup [.tup es, .tup es], .tup [.tup [], .tup []]] ++ [D.tup (es ++ [.int 5]), .tup es.reverse, .lst .frz es, .tup (es.drop 1), .tup (es ++ es)] from hx) with hx | hx
    · exact base x hx
    · simp only [List.mem_cons, List.not_mem_nil, or_false] at hx
      rcases hx with rfl | rfl | rfl | rfl | rfl
      · refine .tup (fun y hy => ?_) (by simp; omega) lim
        rcases List.mem_append.mp hy with hy | hy
        · exact ges y hy
        · rw [List.mem_singleton] at hy; subst hy; exact .int
      · exact .tup (fun y hy => ges y (List.mem_reverse.mp hy)) (by simp; omega) lim
      · exact .lst ges (by omega) lim
      · exact .tup (fun y hy => ges y (List.mem_of_mem_drop hy)) (by simp; omega) lim
      · refine .tup (fun y hy => ?_) (by simp; omega) lim
        rcases List.mem_append.mp hy with hy | hy
        · exact ges y hy
        · exact ges y hy
  | ref j => cases g.c
  | lst qk es =>
    cases qk with
    | ext => cases g.c
    | frz =>
      simp only [isi_non, isi_bl, isi_int, isi_str, isi_tup, isi_frz, isi_bor, List.any_cons, List.any_nil, isTy, reduceCtorEq, decide_true, decide_false, Bool.or_false, Bool.or_true, Bool.true_or, Bool.false_or, Bool.not_true, Bool.not_false, W_body, W_sSeq, W_sNx, W_sBk, W_sCt, W_sExpr, W_sRet, W_sRetN, W_sIf, W_sAsg, W_sPar, W_sAug, W_eC, W_eVar, W_eBin, W_eUn, W_eArgs, W_aNil, W_aCons, W_eAnd, W_eOr, W_eNot, W_eIf, W_eChain, W_tVal, W_tBl, W_tAnd, W_tOr, W_tNot, W_tTrue, W_oNone, W_oSome, W_eSl, W_eRev, W_eMethL, W_eCall, W_iSeq, W_iRange1, W_iRange2, W_iEnumS, W_iZipS, W_sFor, W_eComp, W_lcStep, W_gV, W_gUnpackVV, W_newF, W_newT, W_some,
 kBody_rt, kBody_nx, kSeq_nx, kSeq_rt, kSeq_bk, kSeq_ct, kExp_, kRet_, kIf_t, kIf_f, kAsg_V, kPar_, kAug_, kB1_, kB2_, kU_, kN_, kC1_, kC2_, kAnd_T, kAnd_F, kOr_T, kOr_F, kNot_B, kCh1_, kCh2_, kCh3_t, kCh3_f, kTV_B, kTB_B, kTA_t, kTA_f, kTO_t, kTO_f, kTN_, kOS_, kSl1_, kSl2_, kSl3_, kM2_, kK1_, kK2_, kSq_tup, kSq_lst, kSq_str, kEn_tup, kEn_lst, kZp_tup, kZp_lst, kFor_, kTurn_nx, kTurn_ct, kTurn_bk, kTurn_rt, kComp_, kLcT_t, kLcT_f,
 setAll, wipeE, pick, List.getElem?_cons_zero, List.getElem?_cons_succ, List.set_cons_zero, List.set_cons_succ, List.map_cons, List.map_nil, List.replicate_succ, List.replicate_zero, List.cons_append, List.nil_append, List.append_nil, List.length_cons, List.length_nil, List.filterMap_cons, List.filterMap_nil,
 Nat.reduceAdd, Nat.reduceSub, Nat.reduceLeDiff, Nat.reduceEqDiff, and_self, if_true, if_false, opAdd_int, opSub_int, opGt_int, opLt_int, opGe_int, opLe_int, opEq_int, opEq_str, opEq_bl, opNe_int, opNe_bl, opNe_str, bInt_int, bInt_bl, bAbs_int, truD_bl, truD_int, W_fLst, W_fTup, pow18, bLen_tup, bLen_lst, bTuple_lst, bTuple_tup, bList_lst, bList_tup]
      exact pick S _ _ hb (by simp) (by simp) base q
    | bor =>
      simp only [isi_non, isi_bl, isi_int, isi_str, isi_tup, isi_frz, isi_bor, List.any_cons, List.any_nil, isTy, reduceCtorEq, decide_true, decide_false, Bool.or_false, Bool.or_true, Bool.true_or, Bool.false_or, Bool.not_true, Bool.not_false, W_body, W_sSeq, W_sNx, W_sBk, W_sCt, W_sExpr, W_sRet, W_sRetN, W_sIf, W_sAsg, W_sPar, W_sAug, W_eC, W_eVar, W_eBin, W_eUn, W_eArgs, W_aNil, W_aCons, W_eAnd, W_eOr, W_eNot, W_eIf, W_eChain, W_tVal, W_tBl, W_tAnd, W_tOr, W_tNot, W_tTrue, W_oNone, W_oSome, W_eSl, W_eRev, W_eMethL, W_eCall, W_iSeq, W_iRange1, W_iRange2, W_iEnumS, W_iZipS, W_sFor, W_eComp, W_lcStep, W_gV, W_gUnpackVV, W_newF, W_newT, W_some,
 kBody_rt, kBody_nx, kSeq_nx, kSeq_rt, kSeq_bk, kSeq_ct, kExp_, kRet_, kIf_t, kIf_f, kAsg_V, kPar_, kAug_, kB1_, kB2_, kU_, kN_, kC1_, kC2_, kAnd_T, kAnd_F, kOr_T, kOr_F, kNot_B, kCh1_, kCh2_, kCh3_t, kCh3_f, kTV_B, kTB_B, kTA_t, kTA_f, kTO_t, kTO_f, kTN_, kOS_, kSl1_, kSl2_, kSl3_, kM2_, kK1_, kK2_, kSq_tup, kSq_lst, kSq_str, kEn_tup, kEn_lst, kZp_tup, kZp_lst, kFor_, kTurn_nx, kTurn_ct, kTurn_bk, kTurn_rt, kComp_, kLcT_t, kLcT_f,
 setAll, wipeE, pick, List.getElem?_cons_zero, List.getElem?_cons_succ, List.set_cons_zero, List.set_cons_succ, List.map_cons, List.map_nil, List.replicate_succ, List.replicate_zero, List.cons_append, List.nil_append, List.append_nil, List.length_cons, List.length_nil, List.filterMap_cons, List.filterMap_nil,
 Nat.reduceAdd, Nat.reduceSub, Nat.reduceLeDiff, Nat.reduceEqDiff, and_self, if_true, if_false, opAdd_int, opSub_int, opGt_int, opLt_int, opGe_int, opLe_int, opEq_int, opEq_str, opEq_bl, opNe_int, opNe_bl, opNe_str, bInt_int, bInt_bl, bAbs_int, truD_bl, truD_int, W_fLst, W_fTup, pow18, bLen_tup, bLen_lst, bTuple_lst, bTuple_tup, bList_lst, bList_tup]
      exact pick S _ _ hb (by simp) (by simp) base q
  | _ =>
    simp only [isi_non, isi_bl, isi_int, isi_str, isi_tup, isi_frz, isi_bor, List.any_cons, List.any_nil, isTy, reduceCtorEq, decide_true, decide_false, Bool.or_false, Bool.or_true, Bool.true_or, Bool.false_or, Bool.not_true, Bool.not_false, W_body, W_sSeq, W_sNx, W_sBk, W_sCt, W_sExpr, W_sRet, W_sRetN, W_sIf, W_sAsg, W_sPar, W_sAug, W_eC, W_eVar, W_eBin, W_eUn, W_eArgs, W_aNil, W_aCons, W_eAnd, W_eOr, W_eNot, W_eIf, W_eChain, W_tVal, W_tBl, W_tAnd, W_tOr, W_tNot, W_tTrue, W_oNone, W_oSome, W_eSl, W_eRev, W_eMethL, W_eCall, W_iSeq, W_iRange1, W_iRange2, W_iEnumS, W_iZipS, W_sFor, W_eComp, W_lcStep, W_gV, W_gUnpackVV, W_newF, W_newT, W_some,
 kBody_rt, kBody_nx, kSeq_nx, kSeq_rt, kSeq_bk, kSeq_ct, kExp_, kRet_, kIf_t, kIf_f, kAsg_V, kPar_, kAug_, kB1_, kB2_, kU_, kN_, kC1_, kC2_, kAnd_T, kAnd_F, kOr_T, kOr_F, kNot_B, kCh1_, kCh2_, kCh3_t, kCh3_f, kTV_B, kTB_B, kTA_t, kTA_f, kTO_t, kTO_f, kTN_, kOS_, kSl1_, kSl2_, kSl3_, kM2_, kK1_, kK2_, kSq_tup, kSq_lst, kSq_str, kEn_tup, kEn_lst, kZp_tup, kZp_lst, kFor_, kTurn_nx, kTurn_ct, kTurn_bk, kTurn_rt, kComp_, kLcT_t, kLcT_f,
 setAll, wipeE, pick, List.getElem?_cons_zero, List.getElem?_cons_succ, List.set_cons_zero, List.set_cons_succ, List.map_cons, List.map_nil, List.replicate_succ, List.replicate_zero, List.cons_append, List.nil_append, List.append_nil, List.length_cons, List.length_nil, List.filterMap_cons, List.filterMap_nil,
 Nat.reduceAdd, Nat.reduceSub, Nat.reduceLeDiff, Nat.reduceEqDiff, and_self, if_true, if_false, opAdd_int, opSub_int, opGt_int, opLt_int, opGe_int, opLe_int, opEq_int, opEq_str, opEq_bl, opNe_int, opNe_bl, opNe_str, bInt_int, bInt_bl, bAbs_int, truD_bl, truD_int, W_fLst, W_fTup, pow18, bLen_tup, bLen_lst, bTuple_lst, bTuple_tup, bList_lst, bList_tup]
    exact pick S _ _ hb (by simp) (by simp) base q
end AW

namespace AW
open PySem PySem.Spec PyProof.Rows L2

theorem odd_run {take of : OpN} (t : TakeS take) (ho : of = body 2 (ofSem take)) {f : Nat → OpN} (h : ∀ k, f (k + 1) = body 4 (oddSem take of (f k))) : ∀ (p k : Nat) (d : D) (S : Sto) (i n m : Nat) (Q : Kn D), p ≤ 50 → p ≤ k → Gd p m d → 1 ≤ m → m ≤ 400 → Bx S i (n + (2 * p + 4)) →
    (∀ r S', Gd (p + 2) (2 * m + 2) r → Dr i n S S' → Q r S') → W (f (k + 1) [.ref i, d] S) Q := by
  intro p
  induction p with
  | zero =>
    intro k d S i n m Q h50 hk g h1 hm hb q
    rw [h, W_body, odd_eq, W_sSeq]
    unfold oddIf
    have tail : ∀ S' x2 x3, Dr i (n + 1) S S' → W (oddTail of [some (.ref i), some d, x2, x3] S') (kBody Q) := fun S' x2 x3 dr => oddTail_run t ho g h1 (by omega) dr.bx fun r S2 gr d2 => q r S2 gr (dr.trans d2)
    have dr0 : Dr i (n + 1) S S := .refl (hb.mono (by omega))
    cases d with
    | tup es => exact (g.tup0).elim
    | ref j => cases g.c
    | lst qk es =>
      cases qk with
      | ext => cases g.c
      | frz => simp only [isi_non, isi_bl, isi_int, isi_str, isi_tup, isi_frz, isi_bor, List.any_cons, List.any_nil, isTy, reduceCtorEq, decide_true, decide_false, Bool.or_false, Bool.or_true, Bool.true_or, Bool.false_or, Bool.not_true, Bool.not_false, W_body, W_sSeq, W_sNx, W_sBk, W_sCt, W_sExpr, W_sRet, W_sRetN, W_sIf, W_sAsg, W_sPar, W_sAug, W_eC, W_eVar, W_eBin, W_eUn, W_eArgs, W_aNil, W_aCons, W_eAnd, W_eOr, W_eNot, W_eIf, W_eChain, W_tVal, W_tBl, W_tAnd, W_tOr, W_tNot, W_tTrue, W_oNone, W_oSome, W_eSl, W_eRev, W_eMethL, W_eCall, W_iSeq, W_iRange1, W_iRange2, W_iEnumS, W_iZipS, W_sFor, W_eComp, W_lcStep, W_gV, W_gUnpackVV, W_newF, W_newT, W_some,
 kBody_rt, kBody_nx, kSeq_nx, kSeq_rt, kSeq_bk, kSeq_ct, kExp_, kRet_, kIf_t, kIf_f, kAsg_V, kPar_, kAug_, kB1_, kB2_, kU_, kN_, kC1_, kC2_, kAnd_T, kAnd_F, kOr_T, kOr_F, kNot_B, kCh1_, kCh2_, kCh3_t, kCh3_f, kTV_B, kTB_B, kTA_t, kTA_f, kTO_t, kTO_f, kTN_, kOS_, kSl1_, kSl2_, kSl3_, kM2_, kK1_, kK2_, kSq_tup, kSq_lst, kSq_str, kEn_tup, kEn_lst, kZp_tup, kZp_lst, kFor_, kTurn_nx, kTurn_ct, kTurn_bk, kTurn_rt, kComp_, kLcT_t, kLcT_f,
 setAll, wipeE, pick, List.getElem?_cons_zero, List.getElem?_cons_succ, List.set_cons_zero, List.set_cons_succ, List.map_cons, List.map_nil, List.replicate_succ, List.replicate_zero, List.cons_append, List.nil_append, List.append_nil, List.length_cons, List.length_nil, List.filterMap_cons, List.filterMap_nil,
 Nat.reduceAdd, Nat.reduceSub, Nat.reduceLeDiff, Nat.reduceEqDiff, and_self, if_true, if_false, opAdd_int, opSub_int, opGt_int, opLt_int, opGe_int, opLe_int, opEq_int, opEq_str, opEq_bl, opNe_int, opNe_bl, opNe_str, bInt_int, bInt_bl, bAbs_int, truD_bl, truD_int, W_fLst, W_fTup, pow18, bLen_tup, bLen_lst, bTuple_lst, bTuple_tup, bList_lst, bList_tup]; exact tail _ _ _ dr0
      | bor => simp only [isi_non, isi_bl, isi_int, isi_str, isi_tup, isi_frz, isi_bor, List.any_cons, List.any_nil, isTy, reduceCtorEq, decide_true, decide_false, Bool.or_false, Bool.or_true, Bool.true_or, Bool.false_or, Bool.not_true, Bool.not_false, W_body, W_sSeq, W_sNx, W_sBk, W_sCt, W_sExpr, W_sRet, W_sRetN, W_sIf, W_sAsg, W_sPar, W_sAug, W_eC, W_eVar, W_eBin, W_eUn, W_eArgs, W_aNil, W_aCons, W_eAnd, W_eOr, W_eNot, W_eIf, W_eChain, W_tVal, W_tBl, W_tAnd, W_tOr, W_tNot, W_tTrue, W_oNone, W_oSome, W_eSl, W_eRev, W_eMethL, W_eCall, W_iSeq, W_iRange1, W_iRange2, W_iEnumS, W_iZipS, W_sFor, W_eComp, W_lcStep, W_gV, W_gUnpackVV, W_newF, W_newT, W_some,
 kBody_rt, kBody_nx, kSeq_nx, kSeq_rt, kSeq_bk, kSeq_ct, kExp_, kRet_, kIf_t, kIf_f, kAsg_V, kPar_, kAug_, kB1_, kB2_, kU_, kN_, kC1_, kC2_, kAnd_T, kAnd_F, kOr_T, kOr_F, kNot_B, kCh1_, kCh2_, kCh3_t, kCh3_f, kTV_B, kTB_B, kTA_t, kTA_f, kTO_t, kTO_f, kTN_, kOS_, kSl1_, kSl2_, kSl3_, kM2_, kK1_, kK2_, kSq_tup, kSq_lst, kSq_str, kEn_tup, kEn_lst, kZp_tup, kZp_lst, kFor_, kTurn_nx, kTurn_ct, kTurn_bk, kTurn_rt, kComp_, kLcT_t, kLcT_f,
 setAll, wipeE, pick, List.getElem?_cons_zero, List.getElem?_cons_succ, List.set_cons_zero, List.set_cons_succ, List.map_cons, List.map_nil, List.replicate_succ, List.replicate_zero, List.cons_append, List.nil_append, List.append_nil, List.length_cons, List.length_nil, List.filterMap_cons, List.filterMap_nil,
 Nat.reduceAdd, Nat.reduceSub, Nat.reduceLeDiff, Nat.reduceEqDiff, and_self, if_true, if_false, opAdd_int, opSub_int, opGt_int, opLt_int, opGe_int, opLe_int, opEq_int, opEq_str, opEq_bl, opNe_int, opNe_bl, opNe_str, bInt_int, bInt_bl, bAbs_int, truD_bl, truD_int, W_fLst, W_fTup, pow18, bLen_tup, bLen_lst, bTuple_lst, bTuple_tup, bList_lst, bList_tup]; exact tail _ _ _ dr0
    | _ => simp only [isi_non, isi_bl, isi_int, isi_str, isi_tup, isi_frz, isi_bor, List.any_cons, List.any_nil, isTy, reduceCtorEq, decide_true, decide_false, Bool.or_false, Bool.or_true, Bool.true_or, Bool.false_or, Bool.not_true, Bool.not_false, W_body, W_sSeq, W_sNx, W_sBk, W_sCt, W_sExpr, W_sRet, W_sRetN, W_sIf, W_sAsg, W_sPar, W_sAug, W_eC, W_eVar, W_eBin, W_eUn, W_eArgs, W_aNil, W_aCons, W_eAnd, W_eOr, W_eNot, W_eIf, W_eChain, W_tVal, W_tBl, W_tAnd, W_tOr, W_tNot, W_tTrue, W_oNone, W_oSome, W_eSl, W_eRev, W_eMethL, W_eCall, W_iSeq, W_iRange1, W_iRange2, W_iEnumS, W_iZipS, W_sFor, W_eComp, W_lcStep, W_gV, W_gUnpackVV, W_newF, W_newT, W_some,
 kBody_rt, kBody_nx, kSeq_nx, kSeq_rt, kSeq_bk, kSeq_ct, kExp_, kRet_, kIf_t, kIf_f, kAsg_V, kPar_, kAug_, kB1_, kB2_, kU_, kN_, kC1_, kC2_, kAnd_T, kAnd_F, kOr_T, kOr_F, kNot_B, kCh1_, kCh2_, kCh3_t, kCh3_f, kTV_B, kTB_B, kTA_t, kTA_f, kTO_t, kTO_f, kTN_, kOS_, kSl1_, kSl2_, kSl3_, kM2_, kK1_, kK2_, kSq_tup, kSq_lst, kSq_str, kEn_tup, kEn_lst, kZp_tup, kZp_lst, kFor_, kTurn_nx, kTurn_ct, kTurn_bk, kTurn_rt, kComp_, kLcT_t, kLcT_f,
 setAll, wipeE, pick, List.getElem?_cons_zero, List.getElem?_cons_succ, List.set_cons_zero, List.set_cons_succ, List.map_cons, List.map_nil, List.replicate_succ, List.replicate_zero, List.cons_append, List.nil_append, List.append_nil, List.length_cons, List.length_nil, List.filterMap_cons, List.filterMap_nil,
 Nat.reduceAdd, Nat.reduceSub, Nat.reduceLeDiff, Nat.reduceEqDiff, and_self, if_true, if_false, opAdd_int, opSub_int, opGt_int, opLt_int, opGe_int, opLe_int, opEq_int, opEq_str, opEq_bl, opNe_int, opNe_bl, opNe_str, bInt_int, bInt_bl, bAbs_int, truD_bl, truD_int, W_fLst, W_fTup, pow18, bLen_tup, bLen_lst, bTuple_lst, bTuple_tup, bList_lst, bList_tup]; exact tail _ _ _ dr0
  | succ p ih =>
    intro k d S i n m Q h50 hk g h1 hm hb q
    rw [h, W_body, odd_eq, W_sSeq]
    unfold oddIf
    have lim : 2 * m + 2 ≤ LIM := Nat.le_trans (show 2 * m + 2 ≤ 2002 by omega) (by decide)
    have tail : ∀ S' x2 x3, Dr i (n + 1) S S' → W (oddTail of [some (.ref i), some d, x2, x3] S') (kBody Q) := fun S' x2 x3 dr => oddTail_run t ho g h1 (by omega) dr.bx fun r S2 gr d2 => q r S2 gr (dr.trans d2)
    have dr0 : Dr i (n + 1) S S := .refl (hb.mono (by omega))
    cases d with
    | ref j => cases g.c
    | lst qk es =>
      cases qk with
      | ext => cases g.c
      | frz => simp only [isi_non, isi_bl, isi_int, isi_str, isi_tup, isi_frz, isi_bor, List.any_cons, List.any_nil, isTy, reduceCtorEq, decide_true, decide_false, Bool.or_false, Bool.or_true, Bool.true_or, Bool.false_or, Bool.not_true, Bool.not_false, W_body, W_sSeq, W_sNx, W_sBk, W_sCt, W_sExpr, W_sRet, W_sRetN, W_sIf, W_sAsg, W_sPar, W_sAug, W_eC, W_eVar, W_eBin, W_eUn, W_eArgs, W_aNil, W_aCons, W_eAnd, W_eOr, W_eNot, W_eIf, W_eChain, W_tVal, W_tBl, W_tAnd, W_tOr, W_tNot, W_tTrue, W_oNone, W_oSome, W_eSl, W_eRev, W_eMethL, W_eCall, W_iSeq, W_iRange1, W_iRange2, W_iEnumS, W_iZipS, W_sFor, W_eComp, W_lcStep, W_gV, W_gUnpackVV, W_newF, W_newT, W_some,
 kBody_rt, kBody_nx, kSeq_nx, kSeq_rt, kSeq_bk, kSeq_ct, kExp_, kRet_, kIf_t, kIf_f, kAsg_V, kPar_, kAug_, kB1_, kB2_, kU_, kN_, kC1_, kC2_, kAnd_T, kAnd_F, kOr_T, kOr_F, kNot_B, kCh1_, kCh2_, kCh3_t, kCh3_f, kTV_B, kTB_B, kTA_t, kTA_f, kTO_t, kTO_f, kTN_, kOS_, kSl1_, kSl2_, kSl3_, kM2_, kK1_, kK2_, kSq_tup, kSq_lst, kSq_str, kEn_tup, kEn_lst, kZp_tup, kZp_lst, kFor_, kTurn_nx, kTurn_ct, kTurn_bk, kTurn_rt, kComp_, kLcT_t, kLcT_f,
 setAll, wipeE, pick, List.getElem?_cons_zero, List.getElem?_cons_succ, List.set_cons_zero, List.set_cons_succ, List.map_cons, List.map_nil, List.replicate_succ, List.replicate_zero, List.cons_append, List.nil_append, List.append_nil, List.length_cons, List.length_nil, List.filterMap_cons, List.filterMap_nil,
 Nat.reduceAdd, Nat.reduceSub, Nat.reduceLeDiff, Nat.reduceEqDiff, and_self, if_true, if_false, opAdd_int, opSub_int, opGt_int, opLt_int, opGe_int, opLe_int, opEq_int, opEq_str, opEq_bl, opNe_int, opNe_bl, opNe_str, bInt_int, bInt_bl, bAbs_int, truD_bl, truD_int, W_fLst, W_fTup, pow18, bLen_tup, bLen_lst, bTuple_lst, bTuple_tup, bList_lst, bList_tup]; exact tail _ _ _ dr0
      | bor => simp only [isi_non, isi_bl, isi_int, isi_str, isi_tup, isi_frz, isi_bor, List.any_cons, List.any_nil, isTy, reduceCtorEq, decide_true, decide_false, Bool.or_false, Bool.or_true, Bool.true_or, Bool.false_or, Bool.not_true, Bool.not_false, W_body, W_sSeq, W_sNx, W_sBk, W_sCt, W_sExpr, W_sRet, W_sRetN, W_sIf, W_sAsg, W_sPar, W_sAug, W_eC, W_eVar, W_eBin, W_eUn, W_eArgs, W_aNil, W_aCons, W_eAnd, W_eOr, W_eNot, W_eIf, W_eChain, W_tVal, W_tBl, W_tAnd, W_tOr, W_tNot, W_tTrue, W_oNone, W_oSome, W_eSl, W_eRev, W_eMethL, W_eCall, W_iSeq, W_iRange1, W_iRange2, W_iEnumS, W_iZipS, W_sFor, W_eComp, W_lcStep, W_gV, W_gUnpackVV, W_newF, W_newT, W_some,
 kBody_rt, kBody_nx, kSeq_nx, kSeq_rt, kSeq_bk, kSeq_ct, kExp_, kRet_, kIf_t, kIf_f, kAsg_V, kPar_, kAug_, kB1_, kB2_, kU_, kN_, kC1_, kC2_, kAnd_T, kAnd_F, kOr_T, kOr_F, kNot_B, kCh1_, kCh2_, kCh3_t, kCh3_f, kTV_B, kTB_B, kTA_t, kTA_f, kTO_t, kTO_f, kTN_, kOS_, kSl1_, kSl2_, kSl3_, kM2_, kK1_, kK2_, kSq_tup, kSq_lst, kSq_str, kEn_tup, kEn_lst, kZp_tup, kZp_lst, kFor_, kTurn_nx, kTurn_ct, kTurn_bk, kTurn_rt, kComp_, kLcT_t, kLcT_f,
 setAll, wipeE, pick, List.getElem?_cons_zero, List.getElem?_cons_succ, List.set_cons_zero, List.set_cons_succ, List.map_cons, List.map_nil, List.replicate_succ, List.replicate_zero, List.cons_append, List.nil_append, List.append_nil, List.length_cons, List.length_nil, List.filterMap_cons, List.filterMap_nil,
 Nat.reduceAdd, Nat.reduceSub, Nat.reduceLeDiff, Nat.reduceEqDiff, and_self, if_true, if_false, opAdd_int, opSub_int, opGt_int, opLt_int, opGe_int, opLe_int, opEq_int, opEq_str, opEq_bl, opNe_int, opNe_bl, opNe_str, bInt_int, bInt_bl, bAbs_int, truD_bl, truD_int, W_fLst, W_fTup, pow18, bLen_tup, bLen_lst, bTuple_lst, bTuple_tup, bList_lst, bList_tup]; exact tail _ _ _ dr0
    | tup es =>
      obtain ⟨hes, ges⟩ := g.in
      have hs : sos es = true := by simpa only [so] using g.s
      have hp : deps es ≤ 63 ∨ 63 < deps es := by omega
      simp only [isi_non, isi_bl, isi_int, isi_str, isi_tup, isi_frz, isi_bor, List.any_cons, List.any_nil, isTy, reduceCtorEq, decide_true, decide_false, Bool.or_false, Bool.or_true, Bool.true_or, Bool.false_or, Bool.not_true, Bool.not_false, W_body, W_sSeq, W_sNx, W_sBk, W_sCt, W_sExpr, W_sRet, W_sRetN, W_sIf, W_sAsg, W_sPar, W_sAug, W_eC, W_eVar, W_eBin, W_eUn, W_eArgs, W_aNil, W_aCons, W_eAnd, W_eOr, W_eNot, W_eIf, W_eChain, W_tVal, W_tBl, W_tAnd, W_tOr, W_tNot, W_tTrue, W_oNone, W_oSome, W_eSl, W_eRev, W_eMethL, W_eCall, W_iSeq, W_iRange1, W_iRange2, W_iEnumS, W_iZipS, W_sFor, W_eComp, W_lcStep, W_gV, W_gUnpackVV, W_newF, W_newT, W_some,
 kBody_rt, kBody_nx, kSeq_nx, kSeq_rt, kSeq_bk, kSeq_ct, kExp_, kRet_, kIf_t, kIf_f, kAsg_V, kPar_, kAug_, kB1_, kB2_, kU_, kN_, kC1_, kC2_, kAnd_T, kAnd_F, kOr_T, kOr_F, kNot_B, kCh1_, kCh2_, kCh3_t, kCh3_f, kTV_B, kTB_B, kTA_t, kTA_f, kTO_t, kTO_f, kTN_, kOS_, kSl1_, kSl2_, kSl3_, kM2_, kK1_, kK2_, kSq_tup, kSq_lst, kSq_str, kEn_tup, kEn_lst, kZp_tup, kZp_lst, kFor_, kTurn_nx, kTurn_ct, kTurn_bk, kTurn_rt, kComp_, kLcT_t, kLcT_f,
 setAll, wipeE, pick, List.getElem?_cons_zero, List.getElem?_cons_succ, List.set_cons_zero, List.set_cons_succ, List.map_cons, List.map_nil, List.replicate_succ, List.replicate_zero, List.cons_append, List.nil_append, List.append_nil, List.length_cons, List.length_nil, List.filterMap_cons, List.filterMap_nil,
 Nat.reduceAdd, Nat.reduceSub, Nat.reduceLeDiff, Nat.reduceEqDiff, and_self, if_true, if_false, opAdd_int, opSub_int, opGt_int, opLt_int, opGe_int, opLe_int, opEq_int, opEq_str, opEq_bl, opNe_int, opNe_bl, opNe_str, bInt_int, bInt_bl, bAbs_int, truD_bl, truD_int, W_fLst, W_fTup, pow18, bLen_tup, bLen_lst, bTuple_lst, bTuple_tup, bList_lst, bList_tup]
      have hd := g.p
      simp only [dep] at hd
      rcases hp with hp | hp
      · rw [opNe_tupnil hs hp]
        simp only [W_body, W_sSeq, W_sNx, W_sBk, W_sCt, W_sExpr, W_sRet, W_sRetN, W_sIf, W_sAsg, W_sPar, W_sAug, W_eC, W_eVar, W_eBin, W_eUn, W_eArgs, W_aNil, W_aCons, W_eAnd, W_eOr, W_eNot, W_eIf, W_eChain, W_tVal, W_tBl, W_tAnd, W_tOr, W_tNot, W_tTrue, W_oNone, W_oSome, W_eSl, W_eRev, W_eMethL, W_eCall, W_iSeq, W_iRange1, W_iRange2, W_iEnumS, W_iZipS, W_sFor, W_eComp, W_lcStep, W_gV, W_gUnpackVV, W_newF, W_newT, W_some,
 kBody_rt, kBody_nx, kSeq_nx, kSeq_rt, kSeq_bk, kSeq_ct, kExp_, kRet_, kIf_t, kIf_f, kAsg_V, kPar_, kAug_, kB1_, kB2_, kU_, kN_, kC1_, kC2_, kAnd_T, kAnd_F, kOr_T, kOr_F, kNot_B, kCh1_, kCh2_, kCh3_t, kCh3_f, kTV_B, kTB_B, kTA_t, kTA_f, kTO_t, kTO_f, kTN_, kOS_, kSl1_, kSl2_, kSl3_, kM2_, kK1_, kK2_, kSq_tup, kSq_lst, kSq_str, kEn_tup, kEn_lst, kZp_tup, kZp_lst, kFor_, kTurn_nx, kTurn_ct, kTurn_bk, kTurn_rt, kComp_, kLcT_t, kLcT_f,
 setAll, wipeE, pick, List.getElem?_cons_zero, List.getElem?_cons_succ, List.set_cons_zero, List.set_cons_succ, List.map_cons, List.map_nil, List.replicate_succ, List.replicate_zero, List.cons_append, List.nil_append, List.append_nil, List.length_cons, List.length_nil, List.filterMap_cons, List.filterMap_nil,
 Nat.reduceAdd, Nat.reduceSub, Nat.reduceLeDiff, Nat.reduceEqDiff, and_self, if_true, if_false, opAdd_int, opSub_int, opGt_int, opLt_int, opGe_int, opLe_int, opEq_int, opEq_str, opEq_bl, opNe_int, opNe_bl, opNe_str, bInt_int, bInt_bl, bAbs_int, truD_bl, truD_int, W_fLst, W_fTup, pow18, bLen_tup, bLen_lst, bTuple_lst, bTuple_tup, bList_lst, bList_tup]
        refine kTA_any (fun hne => ?_) fun _ => ?_
        · have hpos : 0 < es.length := by
            cases es with
            | nil => cases hne
            | cons _ _ => simp
          simp only [W_body, W_sSeq, W_sNx, W_sBk, W_sCt, W_sExpr, W_sRet, W_sRetN, W_sIf, W_sAsg, W_sPar, W_sAug, W_eC, W_eVar, W_eBin, W_eUn, W_eArgs, W_aNil, W_aCons, W_eAnd, W_eOr, W_eNot, W_eIf, W_eChain, W_tVal, W_tBl, W_tAnd, W_tOr, W_tNot, W_tTrue, W_oNone, W_oSome, W_eSl, W_eRev, W_eMethL, W_eCall, W_iSeq, W_iRange1, W_iRange2, W_iEnumS, W_iZipS, W_sFor, W_eComp, W_lcStep, W_gV, W_gUnpackVV, W_newF, W_newT, W_some,
 kBody_rt, kBody_nx, kSeq_nx, kSeq_rt, kSeq_bk, kSeq_ct, kExp_, kRet_, kIf_t, kIf_f, kAsg_V, kPar_, kAug_, kB1_, kB2_, kU_, kN_, kC1_, kC2_, kAnd_T, kAnd_F, kOr_T, kOr_F, kNot_B, kCh1_, kCh2_, kCh3_t, kCh3_f, kTV_B, kTB_B, kTA_t, kTA_f, kTO_t, kTO_f, kTN_, kOS_, kSl1_, kSl2_, kSl3_, kM2_, kK1_, kK2_, kSq_tup, kSq_lst, kSq_str, kEn_tup, kEn_lst, kZp_tup, kZp_lst, kFor_, kTurn_nx, kTurn_ct, kTurn_bk, kTurn_rt, kComp_, kLcT_t, kLcT_f,
 setAll, wipeE, pick, List.getElem?_cons_zero, List.getElem?_cons_succ, List.set_cons_zero, List.set_cons_succ, List.map_cons, List.map_nil, List.replicate_succ, List.replicate_zero, List.cons_append, List.nil_append, List.append_nil, List.length_cons, List.length_nil, List.filterMap_cons, List.filterMap_nil,
 Nat.reduceAdd, Nat.reduceSub, Nat.reduceLeDiff, Nat.reduceEqDiff, and_self, if_true, if_false, opAdd_int, opSub_int, opGt_int, opLt_int, opGe_int, opLe_int, opEq_int, opEq_str, opEq_bl, opNe_int, opNe_bl, opNe_str, bInt_int, bInt_bl, bAbs_int, truD_bl, truD_int, W_fLst, W_fTup, pow18, bLen_tup, bLen_lst, bTuple_lst, bTuple_tup, bList_lst, bList_tup]
          refine take_run t (n := n + (2 * p + 5)) (hb.mono (by omega)) (by omega) (by omega) fun r S1 a1 a2 a3 _ => ?_
          simp only [W_body, W_sSeq, W_sNx, W_sBk, W_sCt, W_sExpr, W_sRet, W_sRetN, W_sIf, W_sAsg, W_sPar, W_sAug, W_eC, W_eVar, W_eBin, W_eUn, W_eArgs, W_aNil, W_aCons, W_eAnd, W_eOr, W_eNot, W_eIf, W_eChain, W_tVal, W_tBl, W_tAnd, W_tOr, W_tNot, W_tTrue, W_oNone, W_oSome, W_eSl, W_eRev, W_eMethL, W_eCall, W_iSeq, W_iRange1, W_iRange2, W_iEnumS, W_iZipS, W_sFor, W_eComp, W_lcStep, W_gV, W_gUnpackVV, W_newF, W_newT, W_some,
 kBody_rt, kBody_nx, kSeq_nx, kSeq_rt, kSeq_bk, kSeq_ct, kExp_, kRet_, kIf_t, kIf_f, kAsg_V, kPar_, kAug_, kB1_, kB2_, kU_, kN_, kC1_, kC2_, kAnd_T, kAnd_F, kOr_T, kOr_F, kNot_B, kCh1_, kCh2_, kCh3_t, kCh3_f, kTV_B, kTB_B, kTA_t, kTA_f, kTO_t, kTO_f, kTN_, kOS_, kSl1_, kSl2_, kSl3_, kM2_, kK1_, kK2_, kSq_tup, kSq_lst, kSq_str, kEn_tup, kEn_lst, kZp_tup, kZp_lst, kFor_, kTurn_nx, kTurn_ct, kTurn_bk, kTurn_rt, kComp_, kLcT_t, kLcT_f,
 setAll, wipeE, pick, List.getElem?_cons_zero, List.getElem?_cons_succ, List.set_cons_zero, List.set_cons_succ, List.map_cons, List.map_nil, List.replicate_succ, List.replicate_zero, List.cons_append, List.nil_append, List.append_nil, List.length_cons, List.length_nil, List.filterMap_cons, List.filterMap_nil,
 Nat.reduceAdd, Nat.reduceSub, Nat.reduceLeDiff, Nat.reduceEqDiff, and_self, if_true, if_false, opAdd_int, opSub_int, opGt_int, opLt_int, opGe_int, opLe_int, opEq_int, opEq_str, opEq_bl, opNe_int, opNe_bl, opNe_str, bInt_int, bInt_bl, bAbs_int, truD_bl, truD_int, W_fLst, W_fTup, pow18, bLen_tup, bLen_lst, bTuple_lst, bTuple_tup, bList_lst, bList_tup]
          refine kIf_any (fun _ => ?_) fun _ => ?_
          · simp only [W_body, W_sSeq, W_sNx, W_sBk, W_sCt, W_sExpr, W_sRet, W_sRetN, W_sIf, W_sAsg, W_sPar, W_sAug, W_eC, W_eVar, W_eBin, W_eUn, W_eArgs, W_aNil, W_aCons, W_eAnd, W_eOr, W_eNot, W_eIf, W_eChain, W_tVal, W_tBl, W_tAnd, W_tOr, W_tNot, W_tTrue, W_oNone, W_oSome, W_eSl, W_eRev, W_eMethL, W_eCall, W_iSeq, W_iRange1, W_iRange2, W_iEnumS, W_iZipS, W_sFor, W_eComp, W_lcStep, W_gV, W_gUnpackVV, W_newF, W_newT, W_some,
 kBody_rt, kBody_nx, kSeq_nx, kSeq_rt, kSeq_bk, kSeq_ct, kExp_, kRet_, kIf_t, kIf_f, kAsg_V, kPar_, kAug_, kB1_, kB2_, kU_, kN_, kC1_, kC2_, kAnd_T, kAnd_F, kOr_T, kOr_F, kNot_B, kCh1_, kCh2_, kCh3_t, kCh3_f, kTV_B, kTB_B, kTA_t, kTA_f, kTO_t, kTO_f, kTN_, kOS_, kSl1_, kSl2_, kSl3_, kM2_, kK1_, kK2_, kSq_tup, kSq_lst, kSq_str, kEn_tup, kEn_lst, kZp_tup, kZp_lst, kFor_, kTurn_nx, kTurn_ct, kTurn_bk, kTurn_rt, kComp_, kLcT_t, kLcT_f,
 setAll, wipeE, pick, List.getElem?_cons_zero, List.getElem?_cons_succ, List.set_cons_zero, List.set_cons_succ, List.map_cons, List.map_nil, List.replicate_succ, List.replicate_zero, List.cons_append, List.nil_append, List.append_nil, List.length_cons, List.length_nil, List.filterMap_cons, List.filterMap_nil,
 Nat.reduceAdd, Nat.reduceSub, Nat.reduceLeDiff, Nat.reduceEqDiff, and_self, if_true, if_false, opAdd_int, opSub_int, opGt_int, opLt_int, opGe_int, opLe_int, opEq_int, opEq_str, opEq_bl, opNe_int, opNe_bl, opNe_str, bInt_int, bInt_bl, bAbs_int, truD_bl, truD_int, W_fLst, W_fTup, pow18, bLen_tup, bLen_lst, bTuple_lst, bTuple_tup, bList_lst, bList_tup]
            refine take_run t (n := n + (2 * p + 4)) (a3.bx.mono (by omega)) (by omega) (by omega) fun r2 S2 b1 b2 b3 _ => ?_
            obtain ⟨j, rfl⟩ := Int.eq_ofNat_of_zero_le b1
            have hj : j < es.length := by omega
            have hat : atD es (j : Int) = some es[j] := atD_nat (by simp [hj])
            simp only [W_body, W_sSeq, W_sNx, W_sBk, W_sCt, W_sExpr, W_sRet, W_sRetN, W_sIf, W_sAsg, W_sPar, W_sAug, W_eC, W_eVar, W_eBin, W_eUn, W_eArgs, W_aNil, W_aCons, W_eAnd, W_eOr, W_eNot, W_eIf, W_eChain, W_tVal, W_tBl, W_tAnd, W_tOr, W_tNot, W_tTrue, W_oNone, W_oSome, W_eSl, W_eRev, W_eMethL, W_eCall, W_iSeq, W_iRange1, W_iRange2, W_iEnumS, W_iZipS, W_sFor, W_eComp, W_lcStep, W_gV, W_gUnpackVV, W_newF, W_newT, W_some,
 kBody_rt, kBody_nx, kSeq_nx, kSeq_rt, kSeq_bk, kSeq_ct, kExp_, kRet_, kIf_t, kIf_f, kAsg_V, kPar_, kAug_, kB1_, kB2_, kU_, kN_, kC1_, kC2_, kAnd_T, kAnd_F, kOr_T, kOr_F, kNot_B, kCh1_, kCh2_, kCh3_t, kCh3_f, kTV_B, kTB_B, kTA_t, kTA_f, kTO_t, kTO_f, kTN_, kOS_, kSl1_, kSl2_, kSl3_, kM2_, kK1_, kK2_, kSq_tup, kSq_lst, kSq_str, kEn_tup, kEn_lst, kZp_tup, kZp_lst, kFor_, kTurn_nx, kTurn_ct, kTurn_bk, kTurn_rt, kComp_, kLcT_t, kLcT_f,
 setAll, wipeE, pick, List.getElem?_cons_zero, List.getElem?_cons_succ, List.set_cons_zero, List.set_cons_succ, List.map_cons, List.map_nil, List.replicate_succ, List.replicate_zero, List.cons_append, List.nil_append, List.append_nil, List.length_cons, List.length_nil, List.filterMap_cons, List.filterMap_nil,
 Nat.reduceAdd, Nat.reduceSub, Nat.reduceLeDiff, Nat.reduceEqDiff, and_self, if_true, if_false, opAdd_int, opSub_int, opGt_int, opLt_int, opGe_int, opLe_int, opEq_int, opEq_str, opEq_bl, opNe_int, opNe_bl, opNe_str, bInt_int, bInt_bl, bAbs_int, truD_bl, truD_int, W_fLst, W_fTup, pow18, bLen_tup, bLen_lst, bTuple_lst, bTuple_tup, bList_lst, bList_tup, Int.ofNat_eq_natCast, opSl_tl, opIx_tup hat]
            obtain ⟨k, rfl⟩ : ∃ k', k = k' + 1 := ⟨k - 1, by omega⟩
            refine ih k es[j] S2 i n m _ (by omega) (by omega) (ges _ (List.getElem_mem _)) h1 hm b3.bx fun r S3 gr dr3 => ?_
            simp only [W_body, W_sSeq, W_sNx, W_sBk, W_sCt, W_sExpr, W_sRet, W_sRetN, W_sIf, W_sAsg, W_sPar, W_sAug, W_eC, W_eVar, W_eBin, W_eUn, W_eArgs, W_aNil, W_aCons, W_eAnd, W_eOr, W_eNot, W_eIf, W_eChain, W_tVal, W_tBl, W_tAnd, W_tOr, W_tNot, W_tTrue, W_oNone, W_oSome, W_eSl, W_eRev, W_eMethL, W_eCall, W_iSeq, W_iRange1, W_iRange2, W_iEnumS, W_iZipS, W_sFor, W_eComp, W_lcStep, W_gV, W_gUnpackVV, W_newF, W_newT, W_some,
 kBody_rt, kBody_nx, kSeq_nx, kSeq_rt, kSeq_bk, kSeq_ct, kExp_, kRet_, kIf_t, kIf_f, kAsg_V, kPar_, kAug_, kB1_, kB2_, kU_, kN_, kC1_, kC2_, kAnd_T, kAnd_F, kOr_T, kOr_F, kNot_B, kCh1_, kCh2_, kCh3_t, kCh3_f, kTV_B, kTB_B, kTA_t, kTA_f, kTO_t, kTO_f, kTN_, kOS_, kSl1_, kSl2_, kSl3_, kM2_, kK1_, kK2_, kSq_tup, kSq_lst, kSq_str, kEn_tup, kEn_lst, kZp_tup, kZp_lst, kFor_, kTurn_nx, kTurn_ct, kTurn_bk, kTurn_rt, kComp_, kLcT_t, kLcT_f,
 setAll, wipeE, pick, List.getElem?_cons_zero, List.getElem?_cons_succ, List.set_cons_zero, List.set_cons_succ, List.map_cons, List.map_nil, List.replicate_succ, List.replicate_zero, List.cons_append, List.nil_append, List.append_nil, List.length_cons, List.length_nil, List.filterMap_cons, List.filterMap_nil,
 Nat.reduceAdd, Nat.reduceSub, Nat.reduceLeDiff, Nat.reduceEqDiff, and_self, if_true, if_false, opAdd_int, opSub_int, opGt_int, opLt_int, opGe_int, opLe_int, opEq_int, opEq_str, opEq_bl, opNe_int, opNe_bl, opNe_str, bInt_int, bInt_bl, bAbs_int, truD_bl, truD_int, W_fLst, W_fTup, pow18, bLen_tup, bLen_lst, bTuple_lst, bTuple_tup, bList_lst, bList_tup]
            rw [opAdd_tup (by simp; omega)]
            simp only [W_body, W_sSeq, W_sNx, W_sBk, W_sCt, W_sExpr, W_sRet, W_sRetN, W_sIf, W_sAsg, W_sPar, W_sAug, W_eC, W_eVar, W_eBin, W_eUn, W_eArgs, W_aNil, W_aCons, W_eAnd, W_eOr, W_eNot, W_eIf, W_eChain, W_tVal, W_tBl, W_tAnd, W_tOr, W_tNot, W_tTrue, W_oNone, W_oSome, W_eSl, W_eRev, W_eMethL, W_eCall, W_iSeq, W_iRange1, W_iRange2, W_iEnumS, W_iZipS, W_sFor, W_eComp, W_lcStep, W_gV, W_gUnpackVV, W_newF, W_newT, W_some,
 kBody_rt, kBody_nx, kSeq_nx, kSeq_rt, kSeq_bk, kSeq_ct, kExp_, kRet_, kIf_t, kIf_f, kAsg_V, kPar_, kAug_, kB1_, kB2_, kU_, kN_, kC1_, kC2_, kAnd_T, kAnd_F, kOr_T, kOr_F, kNot_B, kCh1_, kCh2_, kCh3_t, kCh3_f, kTV_B, kTB_B, kTA_t, kTA_f, kTO_t, kTO_f, kTN_, kOS_, kSl1_, kSl2_, kSl3_, kM2_, kK1_, kK2_, kSq_tup, kSq_lst, kSq_str, kEn_tup, kEn_lst, kZp_tup, kZp_lst, kFor_, kTurn_nx, kTurn_ct, kTurn_bk, kTurn_rt, kComp_, kLcT_t, kLcT_f,
 setAll, wipeE, pick, List.getElem?_cons_zero, List.getElem?_cons_succ, List.set_cons_zero, List.set_cons_succ, List.map_cons, List.map_nil, List.replicate_succ, List.replicate_zero, List.cons_append, List.nil_append, List.append_nil, List.length_cons, List.length_nil, List.filterMap_cons, List.filterMap_nil,
 Nat.reduceAdd, Nat.reduceSub, Nat.reduceLeDiff, Nat.reduceEqDiff, and_self, if_true, if_false, opAdd_int, opSub_int, opGt_int, opLt_int, opGe_int, opLe_int, opEq_int, opEq_str, opEq_bl, opNe_int, opNe_bl, opNe_str, bInt_int, bInt_bl, bAbs_int, truD_bl, truD_int, W_fLst, W_fTup, pow18, bLen_tup, bLen_lst, bTuple_lst, bTuple_tup, bList_lst, bList_tup]
            rw [show ((j : Int) + 1) = ((j + 1 : Nat) : Int) by omega, opSl_td]
            simp only [W_body, W_sSeq, W_sNx, W_sBk, W_sCt, W_sExpr, W_sRet, W_sRetN, W_sIf, W_sAsg, W_sPar, W_sAug, W_eC, W_eVar, W_eBin, W_eUn, W_eArgs, W_aNil, W_aCons, W_eAnd, W_eOr, W_eNot, W_eIf, W_eChain, W_tVal, W_tBl, W_tAnd, W_tOr, W_tNot, W_tTrue, W_oNone, W_oSome, W_eSl, W_eRev, W_eMethL, W_eCall, W_iSeq, W_iRange1, W_iRange2, W_iEnumS, W_iZipS, W_sFor, W_eComp, W_lcStep, W_gV, W_gUnpackVV, W_newF, W_newT, W_some,
 kBody_rt, kBody_nx, kSeq_nx, kSeq_rt, kSeq_bk, kSeq_ct, kExp_, kRet_, kIf_t, kIf_f, kAsg_V, kPar_, kAug_, kB1_, kB2_, kU_, kN_, kC1_, kC2_, kAnd_T, kAnd_F, kOr_T, kOr_F, kNot_B, kCh1_, kCh2_, kCh3_t, kCh3_f, kTV_B, kTB_B, kTA_t, kTA_f, kTO_t, kTO_f, kTN_, kOS_, kSl1_, kSl2_, kSl3_, kM2_, kK1_, kK2_, kSq_tup, kSq_lst, kSq_str, kEn_tup, kEn_lst, kZp_tup, kZp_lst, kFor_, kTurn_nx, kTurn_ct, kTurn_bk, kTurn_rt, kComp_, kLcT_t, kLcT_f,
 setAll, wipeE, pick, List.getElem?_cons_zero, List.getElem?_cons_succ, List.set_cons_zero, List.set_cons_succ, List.map_cons, List.map_nil, List.replicate_succ, List.replicate_zero, List.cons_append, List.nil_append, List.append_nil, List.length_cons, List.length_nil, List.filterMap_cons, List.filterMap_nil,
 Nat.reduceAdd, Nat.reduceSub, Nat.reduceLeDiff, Nat.reduceEqDiff, and_self, if_true, if_false, opAdd_int, opSub_int, opGt_int, opLt_int, opGe_int, opLe_int, opEq_int, opEq_str, opEq_bl, opNe_int, opNe_bl, opNe_str, bInt_int, bInt_bl, bAbs_int, truD_bl, truD_int, W_fLst, W_fTup, pow18, bLen_tup, bLen_lst, bTuple_lst, bTuple_tup, bList_lst, bList_tup]
            rw [opAdd_tup (by simp; omega)]
            simp only [W_body, W_sSeq, W_sNx, W_sBk, W_sCt, W_sExpr, W_sRet, W_sRetN, W_sIf, W_sAsg, W_sPar, W_sAug, W_eC, W_eVar, W_eBin, W_eUn, W_eArgs, W_aNil, W_aCons, W_eAnd, W_eOr, W_eNot, W_eIf, W_eChain, W_tVal, W_tBl, W_tAnd, W_tOr, W_tNot, W_tTrue, W_oNone, W_oSome, W_eSl, W_eRev, W_eMethL, W_eCall, W_iSeq, W_iRange1, W_iRange2, W_iEnumS, W_iZipS, W_sFor, W_eComp, W_lcStep, W_gV, W_gUnpackVV, W_newF, W_newT, W_some,
 kBody_rt, kBody_nx, kSeq_nx, kSeq_rt, kSeq_bk, kSeq_ct, kExp_, kRet_, kIf_t, kIf_f, kAsg_V, kPar_, kAug_, kB1_, kB2_, kU_, kN_, kC1_, kC2_, kAnd_T, kAnd_F, kOr_T, kOr_F, kNot_B, kCh1_, kCh2_, kCh3_t, kCh3_f, kTV_B, kTB_B, kTA_t, kTA_f, kTO_t, kTO_f, kTN_, kOS_, kSl1_, kSl2_, kSl3_, kM2_, kK1_, kK2_, kSq_tup, kSq_lst, kSq_str, kEn_tup, kEn_lst, kZp_tup, kZp_lst, kFor_, kTurn_nx, kTurn_ct, kTurn_bk, kTurn_rt, kComp_, kLcT_t, kLcT_f,
 setAll, wipeE, pick, List.getElem?_cons_zero, List.getElem?_cons_succ, List.set_cons_zero, List.set_cons_succ, List.map_cons, List.map_nil, List.replicate_succ, List.replicate_zero, List.cons_append, List.nil_append, List.append_nil, List.length_cons, List.length_nil, List.filterMap_cons, List.filterMap_nil,
 Nat.reduceAdd, Nat.reduceSub, Nat.reduceLeDiff, Nat.reduceEqDiff, and_self, if_true, if_false, opAdd_int, opSub_int, opGt_int, opLt_int, opGe_int, opLe_int, opEq_int, opEq_str, opEq_bl, opNe_int, opNe_bl, opNe_str, bInt_int, bInt_bl, bAbs_int, truD_bl, truD_int, W_fLst, W_fTup, pow18, bLen_tup, bLen_lst, bTuple_lst, bTuple_tup, bList_lst, bList_tup]
            refine q _ _ (.tup (fun x hx => ?_) ?_ lim) ((a3.trans b3).trans dr3)
            · rcases List.mem_append.mp hx with hx | hx
              · rcases List.mem_append.mp hx with hx | hx
                · exact (ges x (List.mem_of_mem_take hx)).mono (by omega) (by omega)
                · rw [List.mem_singleton] at hx; subst hx; exact gr
              · exact (ges x (List.mem_of_mem_drop hx)).mono (by omega) (by omega)
            · simp; omega
          · simp only [W_body, W_sSeq, W_sNx, W_sBk, W_sCt, W_sExpr, W_sRet, W_sRetN, W_sIf, W_sAsg, W_sPar, W_sAug, W_eC, W_eVar, W_eBin, W_eUn, W_eArgs, W_aNil, W_aCons, W_eAnd, W_eOr, W_eNot, W_eIf, W_eChain, W_tVal, W_tBl, W_tAnd, W_tOr, W_tNot, W_tTrue, W_oNone, W_oSome, W_eSl, W_eRev, W_eMethL, W_eCall, W_iSeq, W_iRange1, W_iRange2, W_iEnumS, W_iZipS, W_sFor, W_eComp, W_lcStep, W_gV, W_gUnpackVV, W_newF, W_newT, W_some,
 kBody_rt, kBody_nx, kSeq_nx, kSeq_rt, kSeq_bk, kSeq_ct, kExp_, kRet_, kIf_t, kIf_f, kAsg_V, kPar_, kAug_, kB1_, kB2_, kU_, kN_, kC1_, kC2_, kAnd_T, kAnd_F, kOr_T, kOr_F, kNot_B, kCh1_, kCh2_, kCh3_t, kCh3_f, kTV_B, kTB_B, kTA_t, kTA_f, kTO_t, kTO_f, kTN_, kOS_, kSl1_, kSl2_, kSl3_, kM2_, kK1_, kK2_, kSq_tup, kSq_lst, kSq_str, kEn_tup, kEn_lst, kZp_tup, kZp_lst, kFor_, kTurn_nx, kTurn_ct, kTurn_bk, kTurn_rt, kComp_, kLcT_t, kLcT_f,
 setAll, wipeE, pick, List.getElem?_cons_zero, List.getElem?_cons_succ, List.set_cons_zero, List.set_cons_succ, List.map_cons, List.map_nil, List.replicate_succ, List.replicate_zero, List.cons_append, List.nil_append, List.append_nil, List.length_cons, List.length_nil, List.filterMap_cons, List.filterMap_nil,
 Nat.reduceAdd, Nat.reduceSub, Nat.reduceLeDiff, Nat.reduceEqDiff, and_self, if_true, if_false, opAdd_int, opSub_int, opGt_int, opLt_int, opGe_int, opLe_int, opEq_int, opEq_str, opEq_bl, opNe_int, opNe_bl, opNe_str, bInt_int, bInt_bl, bAbs_int, truD_bl, truD_int, W_fLst, W_fTup, pow18, bLen_tup, bLen_lst, bTuple_lst, bTuple_tup, bList_lst, bList_tup]
            exact tail _ _ _ (a3.mono (by omega))
        · simp only [W_body, W_sSeq, W_sNx, W_sBk, W_sCt, W_sExpr, W_sRet, W_sRetN, W_sIf, W_sAsg, W_sPar, W_sAug, W_eC, W_eVar, W_eBin, W_eUn, W_eArgs, W_aNil, W_aCons, W_eAnd, W_eOr, W_eNot, W_eIf, W_eChain, W_tVal, W_tBl, W_tAnd, W_tOr, W_tNot, W_tTrue, W_oNone, W_oSome, W_eSl, W_eRev, W_eMethL, W_eCall, W_iSeq, W_iRange1, W_iRange2, W_iEnumS, W_iZipS, W_sFor, W_eComp, W_lcStep, W_gV, W_gUnpackVV, W_newF, W_newT, W_some,
 kBody_rt, kBody_nx, kSeq_nx, kSeq_rt, kSeq_bk, kSeq_ct, kExp_, kRet_, kIf_t, kIf_f, kAsg_V, kPar_, kAug_, kB1_, kB2_, kU_, kN_, kC1_, kC2_, kAnd_T, kAnd_F, kOr_T, kOr_F, kNot_B, kCh1_, kCh2_, kCh3_t, kCh3_f, kTV_B, kTB_B, kTA_t, kTA_f, kTO_t, kTO_f, kTN_, kOS_, kSl1_, kSl2_, kSl3_, kM2_, kK1_, kK2_, kSq_tup, kSq_lst, kSq_str, kEn_tup, kEn_lst, kZp_tup, kZp_lst, kFor_, kTurn_nx, kTurn_ct, kTurn_bk, kTurn_rt, kComp_, kLcT_t, kLcT_f,
 setAll, wipeE, pick, List.getElem?_cons_zero, List.getElem?_cons_succ, List.set_cons_zero, List.set_cons_succ, List.map_cons, List.map_nil, List.replicate_succ, List.replicate_zero, List.cons_append, List.nil_append, List.append_nil, List.length_cons, List.length_nil, List.filterMap_cons, List.filterMap_nil,
 Nat.reduceAdd, Nat.reduceSub, Nat.reduceLeDiff, Nat.reduceEqDiff, and_self, if_true, if_false, opAdd_int, opSub_int, opGt_int, opLt_int, opGe_int, opLe_int, opEq_int, opEq_str, opEq_bl, opNe_int, opNe_bl, opNe_str, bInt_int, bInt_bl, bAbs_int, truD_bl, truD_int, W_fLst, W_fTup, pow18, bLen_tup, bLen_lst, bTuple_lst, bTuple_tup, bList_lst, bList_tup]
          exact tail _ _ _ dr0
      · omega
    | _ => simp only [isi_non, isi_bl, isi_int, isi_str, isi_tup, isi_frz, isi_bor, List.any_cons, List.any_nil, isTy, reduceCtorEq, decide_true, decide_false, Bool.or_false, Bool.or_true, Bool.true_or, Bool.false_or, Bool.not_true, Bool.not_false, W_body, W_sSeq, W_sNx, W_sBk, W_sCt, W_sExpr, W_sRet, W_sRetN, W_sIf, W_sAsg, W_sPar, W_sAug, W_eC, W_eVar, W_eBin, W_eUn, W_eArgs, W_aNil, W_aCons, W_eAnd, W_eOr, W_eNot, W_eIf, W_eChain, W_tVal, W_tBl, W_tAnd, W_tOr, W_tNot, W_tTrue, W_oNone, W_oSome, W_eSl, W_eRev, W_eMethL, W_eCall, W_iSeq, W_iRange1, W_iRange2, W_iEnumS, W_iZipS, W_sFor, W_eComp, W_lcStep, W_gV, W_gUnpackVV, W_newF, W_newT, W_some,
 kBody_rt, kBody_nx, kSeq_nx, kSeq_rt, kSeq_bk, kSeq_ct, kExp_, kRet_, kIf_t, kIf_f, kAsg_V, kPar_, kAug_, kB1_, kB2_, kU_, kN_, kC1_, kC2_, kAnd_T, kAnd_F, kOr_T, kOr_F, kNot_B, kCh1_, kCh2_, kCh3_t, kCh3_f, kTV_B, kTB_B, kTA_t, kTA_f, kTO_t, kTO_f, kTN_, kOS_, kSl1_, kSl2_, kSl3_, kM2_, kK1_, kK2_, kSq_tup, kSq_lst, kSq_str, kEn_tup, kEn_lst, kZp_tup, kZp_lst, kFor_, kTurn_nx, kTurn_ct, kTurn_bk, kTurn_rt, kComp_, kLcT_t, kLcT_f,
 setAll, wipeE, pick, List.getElem?_cons_zero, List.getElem?_cons_succ, List.set_cons_zero, List.set_cons_succ, List.map_cons, List.map_nil, List.replicate_succ, List.replicate_zero, List.cons_append, List.nil_append, List.append_nil, List.length_cons, List.length_nil, List.filterMap_cons, List.filterMap_nil,
 Nat.reduceAdd, Nat.reduceSub, Nat.reduceLeDiff, Nat.reduceEqDiff, and_self, if_true, if_false, opAdd_int, opSub_int, opGt_int, opLt_int, opGe_int, opLe_int, opEq_int, opEq_str, opEq_bl, opNe_int, opNe_bl, opNe_str, bInt_int, bInt_bl, bAbs_int, truD_bl, truD_int, W_fLst, W_fTup, pow18, bLen_tup, bLen_lst, bTuple_lst, bTuple_tup, bList_lst, bList_tup]; exact tail _ _ _ dr0
def looseSem (take : OpN) : SemS := (sSeq (sAsg (gV 3) (eArgs (fLst true) aNil)) (sSeq (sFor (iRange1 (aCons (eCall take 2 0 2 [] [0, 1] (aCons (eVar 0) (aCons (eBin (opAdd false) (eVar 2) (eC (D.int 1))) aNil)) aNil) aNil)) (gV 4) (sSeq (sAsg (gV 5) (eBin (opAdd false) (eC (D.int 2)) (eCall take 2 0 2 [] [0, 1] (aCons (eVar 0) (aCons (eC (D.int 4)) aNil)) aNil))) (sSeq (sAsg (gV 6) (eComp false (iSeq (eArgs fTup (aCons (eC (D.int 0)) (aCons (eC (D.int 1)) aNil)))) (gV 7) tTrue (eArgs bTuple (aCons (eComp false (iRange1 (aCons (eVar 1) aNil)) (gV 8) (tBl (eBin opEq (eCall take 2 0 2 [] [0, 1] (aCons (eVar 0) (aCons (eVar 5) aNil)) aNil) (eC (D.int 0)))) (eVar 8) [8]) aNil)) [7])) (sExpr (eMethL mAppend (eVar 3) (aCons (eArgs bTuple (aCons (eVar 6) aNil)) aNil)))))) (sRet (eArgs bTuple (aCons (eVar 3) aNil)))))
theorem loose_run {take : OpN} (t : TakeS take) {S : Sto} {i n size : Nat} {Q : Kn D} (hs : size ≤ 8) (hb : Bx S i (n + 100)) (q : ∀ r S', Gd 3 9 r → Dr i n S S' → Q r S') : W (body 9 (looseSem take) [.ref i, .int size, .int 4] S) Q := by
  unfold looseSem
  have hi := hb.lt
  simp only [W_body, W_sSeq, W_sNx, W_sBk, W_sCt, W_sExpr, W_sRet, W_sRetN, W_sIf, W_sAsg, W_sPar, W_sAug, W_eC, W_eVar, W_eBin, W_eUn, W_eArgs, W_aNil, W_aCons, W_eAnd, W_eOr, W_eNot, W_eIf, W_eChain, W_tVal, W_tBl, W_tAnd, W_tOr, W_tNot, W_tTrue, W_oNone, W_oSome, W_eSl, W_eRev, W_eMethL, W_eCall, W_iSeq, W_iRange1, W_iRange2, W_iEnumS, W_iZipS, W_sFor, W_eComp, W_lcStep, W_gV, W_gUnpackVV, W_newF, W_newT, W_some,
 kBody_rt, kBody_nx, kSeq_nx, kSeq_rt, kSeq_bk, kSeq_ct, kExp_, kRet_, kIf_t, kIf_f, kAsg_V, kPar_, kAug_, kB1_, kB2_, kU_, kN_, kC1_, kC2_, kAnd_T, kAnd_F, kOr_T, kOr_F, kNot_B, kCh1_, kCh2_, kCh3_t, kCh3_f, kTV_B, kTB_B, kTA_t, kTA_f, kTO_t, kTO_f, kTN_, kOS_, kSl1_, kSl2_, kSl3_, kM2_, kK1_, kK2_, kSq_tup, kSq_lst, kSq_str, kEn_tup, kEn_lst, kZp_tup, kZp_lst, kFor_, kTurn_nx, kTurn_ct, kTurn_bk, kTurn_rt, kComp_, kLcT_t, kLcT_f,
 setAll, wipeE, pick, List.getElem?_cons_zero, List.getElem?_cons_succ, List.set_cons_zero, List.set_cons_succ, List.map_cons, List.map_nil, List.replicate_succ, List.replicate_zero, List.cons_append, List.nil_append, List.append_nil, List.length_cons, List.length_nil, List.filterMap_cons, List.filterMap_nil,
 Nat.reduceAdd, Nat.reduceSub, Nat.reduceLeDiff, Nat.reduceEqDiff, and_self, if_true, if_false, opAdd_int, opSub_int, opGt_int, opLt_int, opGe_int, opLe_int, opEq_int, opEq_str, opEq_bl, opNe_int, opNe_bl, opNe_str, bInt_int, bInt_bl, bAbs_int, truD_bl, truD_int, W_fLst, W_fTup, pow18, bLen_tup, bLen_lst, bTuple_lst, bTuple_tup, bList_lst, bList_tup]
  refine take_run t (n := n + 90) (hb.app.mono (by omega)) (by omega) (by omega) fun m S1 a1 a2 a3 a3' => ?_
  have a4 : Dr i (n + 90) S S1 := ⟨a3.bx, Fr.app.trans a3.fr⟩
  simp only [W_body, W_sSeq, W_sNx, W_sBk, W_sCt, W_sExpr, W_sRet, W_sRetN, W_sIf, W_sAsg, W_sPar, W_sAug, W_eC, W_eVar, W_eBin, W_eUn, W_eArgs, W_aNil, W_aCons, W_eAnd, W_eOr, W_eNot, W_eIf, W_eChain, W_tVal, W_tBl, W_tAnd, W_tOr, W_tNot, W_tTrue, W_oNone, W_oSome, W_eSl, W_eRev, W_eMethL, W_eCall, W_iSeq, W_iRange1, W_iRange2, W_iEnumS, W_iZipS, W_sFor, W_eComp, W_lcStep, W_gV, W_gUnpackVV, W_newF, W_newT, W_some,
 kBody_rt, kBody_nx, kSeq_nx, kSeq_rt, kSeq_bk, kSeq_ct, kExp_, kRet_, kIf_t, kIf_f, kAsg_V, kPar_, kAug_, kB1_, kB2_, kU_, kN_, kC1_, kC2_, kAnd_T, kAnd_F, kOr_T, kOr_F, kNot_B, kCh1_, kCh2_, kCh3_t, kCh3_f, kTV_B, kTB_B, kTA_t, kTA_f, kTO_t, kTO_f, kTN_, kOS_, kSl1_, kSl2_, kSl3_, kM2_, kK1_, kK2_, kSq_tup, kSq_lst, kSq_str, kEn_tup, kEn_lst, kZp_tup, kZp_lst, kFor_, kTurn_nx, kTurn_ct, kTurn_bk, kTurn_rt, kComp_, kLcT_t, kLcT_f,
 setAll, wipeE, pick, List.getElem?_cons_zero, List.getElem?_cons_succ, List.set_cons_zero, List.set_cons_succ, List.map_cons, List.map_nil, List.replicate_succ, List.replicate_zero, List.cons_append, List.nil_append, List.append_nil, List.length_cons, List.length_nil, List.filterMap_cons, List.filterMap_nil,
 Nat.reduceAdd, Nat.reduceSub, Nat.reduceLeDiff, Nat.reduceEqDiff, and_self, if_true, if_false, opAdd_int, opSub_int, opGt_int, opLt_int, opGe_int, opLe_int, opEq_int, opEq_str, opEq_bl, opNe_int, opNe_bl, opNe_str, bInt_int, bInt_bl, bAbs_int, truD_bl, truD_int, W_fLst, W_fTup, pow18, bLen_tup, bLen_lst, bTuple_lst, bTuple_tup, bList_lst, bList_tup]
  rw [kR1_ (by omega)]
  simp only [W_body, W_sSeq, W_sNx, W_sBk, W_sCt, W_sExpr, W_sRet, W_sRetN, W_sIf, W_sAsg, W_sPar, W_sAug, W_eC, W_eVar, W_eBin, W_eUn, W_eArgs, W_aNil, W_aCons, W_eAnd, W_eOr, W_eNot, W_eIf, W_eChain, W_tVal, W_tBl, W_tAnd, W_tOr, W_tNot, W_tTrue, W_oNone, W_oSome, W_eSl, W_eRev, W_eMethL, W_eCall, W_iSeq, W_iRange1, W_iRange2, W_iEnumS, W_iZipS, W_sFor, W_eComp, W_lcStep, W_gV, W_gUnpackVV, W_newF, W_newT, W_some,
 kBody_rt, kBody_nx, kSeq_nx, kSeq_rt, kSeq_bk, kSeq_ct, kExp_, kRet_, kIf_t, kIf_f, kAsg_V, kPar_, kAug_, kB1_, kB2_, kU_, kN_, kC1_, kC2_, kAnd_T, kAnd_F, kOr_T, kOr_F, kNot_B, kCh1_, kCh2_, kCh3_t, kCh3_f, kTV_B, kTB_B, kTA_t, kTA_f, kTO_t, kTO_f, kTN_, kOS_, kSl1_, kSl2_, kSl3_, kM2_, kK1_, kK2_, kSq_tup, kSq_lst, kSq_str, kEn_tup, kEn_lst, kZp_tup, kZp_lst, kFor_, kTurn_nx, kTurn_ct, kTurn_bk, kTurn_rt, kComp_, kLcT_t, kLcT_f,
 setAll, wipeE, pick, List.getElem?_cons_zero, List.getElem?_cons_succ, List.set_cons_zero, List.set_cons_succ, List.map_cons, List.map_nil, List.replicate_succ, List.replicate_zero, List.cons_append, List.nil_append, List.append_nil, List.length_cons, List.length_nil, List.filterMap_cons, List.filterMap_nil,
 Nat.reduceAdd, Nat.reduceSub, Nat.reduceLeDiff, Nat.reduceEqDiff, and_self, if_true, if_false, opAdd_int, opSub_int, opGt_int, opLt_int, opGe_int, opLe_int, opEq_int, opEq_str, opEq_bl, opNe_int, opNe_bl, opNe_str, bInt_int, bInt_bl, bAbs_int, truD_bl, truD_int, W_fLst, W_fTup, pow18, bLen_tup, bLen_lst, bTuple_lst, bTuple_tup, bList_lst, bList_tup]
  have e0 : S1[S.length]? = some (.lst []) := a3.keep (by omega) setLen
  refine W_forK (fun k E S' => ∃ (x4 x5 x6 x7 x8 : Option D) (ds : List D), E = [some (.ref i), some (.int size), some (.int 4), some (.ref S.length), x4, x5, x6, x7, x8] ∧ ds.length = k ∧ (∀ d ∈ ds, Gd 2 9 d) ∧ S'[S.length]? = some (.lst ds) ∧ Dr i (n + 20 * (4 - k)) S S') (fun _ => rfl) ?_ ?_ ⟨none, none, none, none, none, [], rfl, rfl, all_nil, e0, (by exact a4.mono (by omega))⟩
  · rintro E S' ⟨x4, x5, x6, x7, x8, ds, rfl, h1, h2, h3, h4⟩
    rw [rangeD_len] at h1 h4
    simp only [W_body, W_sSeq, W_sNx, W_sBk, W_sCt, W_sExpr, W_sRet, W_sRetN, W_sIf, W_sAsg, W_sPar, W_sAug, W_eC, W_eVar, W_eBin, W_eUn, W_eArgs, W_aNil, W_aCons, W_eAnd, W_eOr, W_eNot, W_eIf, W_eChain, W_tVal, W_tBl, W_tAnd, W_tOr, W_tNot, W_tTrue, W_oNone, W_oSome, W_eSl, W_eRev, W_eMethL, W_eCall, W_iSeq, W_iRange1, W_iRange2, W_iEnumS, W_iZipS, W_sFor, W_eComp, W_lcStep, W_gV, W_gUnpackVV, W_newF, W_newT, W_some,
 kBody_rt, kBody_nx, kSeq_nx, kSeq_rt, kSeq_bk, kSeq_ct, kExp_, kRet_, kIf_t, kIf_f, kAsg_V, kPar_, kAug_, kB1_, kB2_, kU_, kN_, kC1_, kC2_, kAnd_T, kAnd_F, kOr_T, kOr_F, kNot_B, kCh1_, kCh2_, kCh3_t, kCh3_f, kTV_B, kTB_B, kTA_t, kTA_f, kTO_t, kTO_f, kTN_, kOS_, kSl1_, kSl2_, kSl3_, kM2_, kK1_, kK2_, kSq_tup, kSq_lst, kSq_str, kEn_tup, kEn_lst, kZp_tup, kZp_lst, kFor_, kTurn_nx, kTurn_ct, kTurn_bk, kTurn_rt, kComp_, kLcT_t, kLcT_f,
 setAll, wipeE, pick, List.getElem?_cons_zero, List.getElem?_cons_succ, List.set_cons_zero, List.set_cons_succ, List.map_cons, List.map_nil, List.replicate_succ, List.replicate_zero, List.cons_append, List.nil_append, List.append_nil, List.length_cons, List.length_nil, List.filterMap_cons, List.filterMap_nil,
 Nat.reduceAdd, Nat.reduceSub, Nat.reduceLeDiff, Nat.reduceEqDiff, and_self, if_true, if_false, opAdd_int, opSub_int, opGt_int, opLt_int, opGe_int, opLe_int, opEq_int, opEq_str, opEq_bl, opNe_int, opNe_bl, opNe_str, bInt_int, bInt_bl, bAbs_int, truD_bl, truD_int, W_fLst, W_fTup, pow18, bLen_tup, bLen_lst, bTuple_lst, bTuple_tup, bList_lst, bList_tup, bTuple_ref h3]
    exact q _ _ (.tup h2 (by omega) (by decide)) (h4.mono (by omega))
  · rintro k hk E S' ⟨x4, x5, x6, x7, x8, ds, rfl, h1, h2, h3, h4⟩
    rw [rangeD_len] at hk
    rw [rangeD_at]
    simp only [W_body, W_sSeq, W_sNx, W_sBk, W_sCt, W_sExpr, W_sRet, W_sRetN, W_sIf, W_sAsg, W_sPar, W_sAug, W_eC, W_eVar, W_eBin, W_eUn, W_eArgs, W_aNil, W_aCons, W_eAnd, W_eOr, W_eNot, W_eIf, W_eChain, W_tVal, W_tBl, W_tAnd, W_tOr, W_tNot, W_tTrue, W_oNone, W_oSome, W_eSl, W_eRev, W_eMethL, W_eCall, W_iSeq, W_iRange1, W_iRange2, W_iEnumS, W_iZipS, W_sFor, W_eComp, W_lcStep, W_gV, W_gUnpackVV, W_newF, W_newT, W_some,
 kBody_rt, kBody_nx, kSeq_nx, kSeq_rt, kSeq_bk, kSeq_ct, kExp_, kRet_, kIf_t, kIf_f, kAsg_V, kPar_, kAug_, kB1_, kB2_, kU_, kN_, kC1_, kC2_, kAnd_T, kAnd_F, kOr_T, kOr_F, kNot_B, kCh1_, kCh2_, kCh3_t, kCh3_f, kTV_B, kTB_B, kTA_t, kTA_f, kTO_t, kTO_f, kTN_, kOS_, kSl1_, kSl2_, kSl3_, kM2_, kK1_, kK2_, kSq_tup, kSq_lst, kSq_str, kEn_tup, kEn_lst, kZp_tup, kZp_lst, kFor_, kTurn_nx, kTurn_ct, kTurn_bk, kTurn_rt, kComp_, kLcT_t, kLcT_f,
 setAll, wipeE, pick, List.getElem?_cons_zero, List.getElem?_cons_succ, List.set_cons_zero, List.set_cons_succ, List.map_cons, List.map_nil, List.replicate_succ, List.replicate_zero, List.cons_append, List.nil_append, List.append_nil, List.length_cons, List.length_nil, List.filterMap_cons, List.filterMap_nil,
 Nat.reduceAdd, Nat.reduceSub, Nat.reduceLeDiff, Nat.reduceEqDiff, and_self, if_true, if_false, opAdd_int, opSub_int, opGt_int, opLt_int, opGe_int, opLe_int, opEq_int, opEq_str, opEq_bl, opNe_int, opNe_bl, opNe_str, bInt_int, bInt_bl, bAbs_int, truD_bl, truD_int, W_fLst, W_fTup, pow18, bLen_tup, bLen_lst, bTuple_lst, bTuple_tup, bList_lst, bList_tup]
    refine take_run t (n := n + 20 * (4 - (k + 1)) + 19) (h4.bx.mono (by omega)) (by omega) (by omega) fun th S2 b1 b2 b3 _ => ?_
    have g3 := b3.keep (by omega) h3
    simp only [W_body, W_sSeq, W_sNx, W_sBk, W_sCt, W_sExpr, W_sRet, W_sRetN, W_sIf, W_sAsg, W_sPar, W_sAug, W_eC, W_eVar, W_eBin, W_eUn, W_eArgs, W_aNil, W_aCons, W_eAnd, W_eOr, W_eNot, W_eIf, W_eChain, W_tVal, W_tBl, W_tAnd, W_tOr, W_tNot, W_tTrue, W_oNone, W_oSome, W_eSl, W_eRev, W_eMethL, W_eCall, W_iSeq, W_iRange1, W_iRange2, W_iEnumS, W_iZipS, W_sFor, W_eComp, W_lcStep, W_gV, W_gUnpackVV, W_newF, W_newT, W_some,
 kBody_rt, kBody_nx, kSeq_nx, kSeq_rt, kSeq_bk, kSeq_ct, kExp_, kRet_, kIf_t, kIf_f, kAsg_V, kPar_, kAug_, kB1_, kB2_, kU_, kN_, kC1_, kC2_, kAnd_T, kAnd_F, kOr_T, kOr_F, kNot_B, kCh1_, kCh2_, kCh3_t, kCh3_f, kTV_B, kTB_B, kTA_t, kTA_f, kTO_t, kTO_f, kTN_, kOS_, kSl1_, kSl2_, kSl3_, kM2_, kK1_, kK2_, kSq_tup, kSq_lst, kSq_str, kEn_tup, kEn_lst, kZp_tup, kZp_lst, kFor_, kTurn_nx, kTurn_ct, kTurn_bk, kTurn_rt, kComp_, kLcT_t, kLcT_f,
 setAll, wipeE, pick, List.getElem?_cons_zero, List.getElem?_cons_succ, List.set_cons_zero, List.set_cons_succ, List.map_cons, List.map_nil, List.replicate_succ, List.replicate_zero, List.cons_append, List.nil_append, List.append_nil, List.length_cons, List.length_nil, List.filterMap_cons, List.filterMap_nil,
 Nat.reduceAdd, Nat.reduceSub, Nat.reduceLeDiff, Nat.reduceEqDiff, and_self, if_true, if_false, opAdd_int, opSub_int, opGt_int, opLt_int, opGe_int, opLe_int, opEq_int, opEq_str, opEq_bl, opNe_int, opNe_bl, opNe_str, bInt_int, bInt_bl, bAbs_int, truD_bl, truD_int, W_fLst, W_fTup, pow18, bLen_tup, bLen_lst, bTuple_lst, bTuple_tup, bList_lst, bList_tup]
    refine ⟨by decide, ?_⟩
    refine W_lcK (ds := [.int 0, .int 1]) (fun j acc S' => acc.length = j ∧ (∀ d ∈ acc, Gd 1 9 d) ∧ S'[S.length]? = some (.lst ds) ∧ Dr i (n + 20 * (4 - (k + 1)) + 9 * (2 - j)) S S') (fun _ => rfl) ?_ ?_ ⟨rfl, all_nil, g3, (by exact (h4.trans b3).mono (by omega))⟩
    · rintro acc S3 ⟨c1, c2, c3, c4⟩
      simp only [List.length_cons, List.length_nil] at c1 c4
      rw [kM1_ref c3]
      simp only [W_body, W_sSeq, W_sNx, W_sBk, W_sCt, W_sExpr, W_sRet, W_sRetN, W_sIf, W_sAsg, W_sPar, W_sAug, W_eC, W_eVar, W_eBin, W_eUn, W_eArgs, W_aNil, W_aCons, W_eAnd, W_eOr, W_eNot, W_eIf, W_eChain, W_tVal, W_tBl, W_tAnd, W_tOr, W_tNot, W_tTrue, W_oNone, W_oSome, W_eSl, W_eRev, W_eMethL, W_eCall, W_iSeq, W_iRange1, W_iRange2, W_iEnumS, W_iZipS, W_sFor, W_eComp, W_lcStep, W_gV, W_gUnpackVV, W_newF, W_newT, W_some,
 kBody_rt, kBody_nx, kSeq_nx, kSeq_rt, kSeq_bk, kSeq_ct, kExp_, kRet_, kIf_t, kIf_f, kAsg_V, kPar_, kAug_, kB1_, kB2_, kU_, kN_, kC1_, kC2_, kAnd_T, kAnd_F, kOr_T, kOr_F, kNot_B, kCh1_, kCh2_, kCh3_t, kCh3_f, kTV_B, kTB_B, kTA_t, kTA_f, kTO_t, kTO_f, kTN_, kOS_, kSl1_, kSl2_, kSl3_, kM2_, kK1_, kK2_, kSq_tup, kSq_lst, kSq_str, kEn_tup, kEn_lst, kZp_tup, kZp_lst, kFor_, kTurn_nx, kTurn_ct, kTurn_bk, kTurn_rt, kComp_, kLcT_t, kLcT_f,
 setAll, wipeE, pick, List.getElem?_cons_zero, List.getElem?_cons_succ, List.set_cons_zero, List.set_cons_succ, List.map_cons, List.map_nil, List.replicate_succ, List.replicate_zero, List.cons_append, List.nil_append, List.append_nil, List.length_cons, List.length_nil, List.filterMap_cons, List.filterMap_nil,
 Nat.reduceAdd, Nat.reduceSub, Nat.reduceLeDiff, Nat.reduceEqDiff, and_self, if_true, if_false, opAdd_int, opSub_int, opGt_int, opLt_int, opGe_int, opLe_int, opEq_int, opEq_str, opEq_bl, opNe_int, opNe_bl, opNe_str, bInt_int, bInt_bl, bAbs_int, truD_bl, truD_int, W_fLst, W_fTup, pow18, bLen_tup, bLen_lst, bTuple_lst, bTuple_tup, bList_lst, bList_tup]
      rw [mAppend_run c3 (by omega)]
      simp only [W_body, W_sSeq, W_sNx, W_sBk, W_sCt, W_sExpr, W_sRet, W_sRetN, W_sIf, W_sAsg, W_sPar, W_sAug, W_eC, W_eVar, W_eBin, W_eUn, W_eArgs, W_aNil, W_aCons, W_eAnd, W_eOr, W_eNot, W_eIf, W_eChain, W_tVal, W_tBl, W_tAnd, W_tOr, W_tNot, W_tTrue, W_oNone, W_oSome, W_eSl, W_eRev, W_eMethL, W_eCall, W_iSeq, W_iRange1, W_iRange2, W_iEnumS, W_iZipS, W_sFor, W_eComp, W_lcStep, W_gV, W_gUnpackVV, W_newF, W_newT, W_some,
 kBody_rt, kBody_nx, kSeq_nx, kSeq_rt, kSeq_bk, kSeq_ct, kExp_, kRet_, kIf_t, kIf_f, kAsg_V, kPar_, kAug_, kB1_, kB2_, kU_, kN_, kC1_, kC2_, kAnd_T, kAnd_F, kOr_T, kOr_F, kNot_B, kCh1_, kCh2_, kCh3_t, kCh3_f, kTV_B, kTB_B, kTA_t, kTA_f, kTO_t, kTO_f, kTN_, kOS_, kSl1_, kSl2_, kSl3_, kM2_, kK1_, kK2_, kSq_tup, kSq_lst, kSq_str, kEn_tup, kEn_lst, kZp_tup, kZp_lst, kFor_, kTurn_nx, kTurn_ct, kTurn_bk, kTurn_rt, kComp_, kLcT_t, kLcT_f,
 setAll, wipeE, pick, List.getElem?_cons_zero, List.getElem?_cons_succ, List.set_cons_zero, List.set_cons_succ, List.map_cons, List.map_nil, List.replicate_succ, List.replicate_zero, List.cons_append, List.nil_append, List.append_nil, List.length_cons, List.length_nil, List.filterMap_cons, List.filterMap_nil,
 Nat.reduceAdd, Nat.reduceSub, Nat.reduceLeDiff, Nat.reduceEqDiff, and_self, if_true, if_false, opAdd_int, opSub_int, opGt_int, opLt_int, opGe_int, opLe_int, opEq_int, opEq_str, opEq_bl, opNe_int, opNe_bl, opNe_str, bInt_int, bInt_bl, bAbs_int, truD_bl, truD_int, W_fLst, W_fTup, pow18, bLen_tup, bLen_lst, bTuple_lst, bTuple_tup, bList_lst, bList_tup]
      refine ⟨_, _, _, _, _, ds ++ [.tup acc], rfl, by simp [h1], fun d hd => ?_, List.getElem?_set_self (List.getElem?_eq_some_iff.mp c3).1, (c4.mono (by omega)).above hi (Nat.le_refl _)⟩
      rcases List.mem_append.mp hd with hd | hd
      · exact h2 d hd
      · rw [List.mem_singleton] at hd
        subst hd
        exact .tup c2 (by omega) (by decide)
    · rintro j hj acc S3 ⟨c1, c2, c3, c4⟩
      have hj2 : j < 2 := hj
      have step : ∀ z : D, W (lcStep (gV 7) tTrue (eArgs bTuple (aCons (eComp false (iRange1 (aCons (eVar 1) aNil)) (gV 8) (tBl (eBin opEq (eCall take 2 0 2 [] [0, 1] (aCons (eVar 0) (aCons (eVar 5) aNil)) aNil) (eC (D.int 0)))) (eVar 8) [8]) aNil)) [7] [some (.ref i), some (.int size), some (.int 4), some (.ref S.length), some (.int (0 + k)), some (.int (2 + th)), x6, x7, x8] z S3) fun o S' => ∃ y, o = some y ∧ Gd 1 9 y ∧ S'[S.length]? = some (.lst ds) ∧ Dr i (n + 20 * (4 - (k + 1)) + 9 * (2 - (j + 1))) S S' := fun z => by
        simp only [W_body, W_sSeq, W_sNx, W_sBk, W_sCt, W_sExpr, W_sRet, W_sRetN, W_sIf, W_sAsg, W_sPar, W_sAug, W_eC, W_eVar, W_eBin, W_eUn, W_eArgs, W_aNil, W_aCons, W_eAnd, W_eOr, W_eNot, W_eIf, W_eChain, W_tVal, W_tBl, W_tAnd, W_tOr, W_tNot, W_tTrue, W_oNone, W_oSome, W_eSl, W_eRev, W_eMethL, W_eCall, W_iSeq, W_iRange1, W_iRange2, W_iEnumS, W_iZipS, W_sFor, W_eComp, W_lcStep, W_gV, W_gUnpackVV, W_newF, W_newT, W_some,
 kBody_rt, kBody_nx, kSeq_nx, kSeq_rt, kSeq_bk, kSeq_ct, kExp_, kRet_, kIf_t, kIf_f, kAsg_V, kPar_, kAug_, kB1_, kB2_, kU_, kN_, kC1_, kC2_, kAnd_T, kAnd_F, kOr_T, kOr_F, kNot_B, kCh1_, kCh2_, kCh3_t, kCh3_f, kTV_B, kTB_B, kTA_t, kTA_f, kTO_t, kTO_f, kTN_, kOS_, kSl1_, kSl2_, kSl3_, kM2_, kK1_, kK2_, kSq_tup, kSq_lst, kSq_str, kEn_tup, kEn_lst, kZp_tup, kZp_lst, kFor_, kTurn_nx, kTurn_ct, kTurn_bk, kTurn_rt, kComp_, kLcT_t, kLcT_f,
 setAll, wipeE, pick, List.getElem?_cons_zero, List.getElem?_cons_succ, List.set_cons_zero, List.set_cons_succ, List.map_cons, List.map_nil, List.replicate_succ, List.replicate_zero, List.cons_append, List.nil_append, List.append_nil, List.length_cons, List.length_nil, List.filterMap_cons, List.filterMap_nil,
 Nat.reduceAdd, Nat.reduceSub, Nat.reduceLeDiff, Nat.reduceEqDiff, and_self, if_true, if_false, opAdd_int, opSub_int, opGt_int, opLt_int, opGe_int, opLe_int, opEq_int, opEq_str, opEq_bl, opNe_int, opNe_bl, opNe_str, bInt_int, bInt_bl, bAbs_int, truD_bl, truD_int, W_fLst, W_fTup, pow18, bLen_tup, bLen_lst, bTuple_lst, bTuple_tup, bList_lst, bList_tup]
        rw [kR1_ (by omega)]
        simp only [W_body, W_sSeq, W_sNx, W_sBk, W_sCt, W_sExpr, W_sRet, W_sRetN, W_sIf, W_sAsg, W_sPar, W_sAug, W_eC, W_eVar, W_eBin, W_eUn, W_eArgs, W_aNil, W_aCons, W_eAnd, W_eOr, W_eNot, W_eIf, W_eChain, W_tVal, W_tBl, W_tAnd, W_tOr, W_tNot, W_tTrue, W_oNone, W_oSome, W_eSl, W_eRev, W_eMethL, W_eCall, W_iSeq, W_iRange1, W_iRange2, W_iEnumS, W_iZipS, W_sFor, W_eComp, W_lcStep, W_gV, W_gUnpackVV, W_newF, W_newT, W_some,
 kBody_rt, kBody_nx, kSeq_nx, kSeq_rt, kSeq_bk, kSeq_ct, kExp_, kRet_, kIf_t, kIf_f, kAsg_V, kPar_, kAug_, kB1_, kB2_, kU_, kN_, kC1_, kC2_, kAnd_T, kAnd_F, kOr_T, kOr_F, kNot_B, kCh1_, kCh2_, kCh3_t, kCh3_f, kTV_B, kTB_B, kTA_t, kTA_f, kTO_t, kTO_f, kTN_, kOS_, kSl1_, kSl2_, kSl3_, kM2_, kK1_, kK2_, kSq_tup, kSq_lst, kSq_str, kEn_tup, kEn_lst, kZp_tup, kZp_lst, kFor_, kTurn_nx, kTurn_ct, kTurn_bk, kTurn_rt, kComp_, kLcT_t, kLcT_f,
 setAll, wipeE, pick, List.getElem?_cons_zero, List.getElem?_cons_succ, List.set_cons_zero, List.set_cons_succ, List.map_cons, List.map_nil, List.replicate_succ, List.replicate_zero, List.cons_append, List.nil_append, List.append_nil, List.length_cons, List.length_nil, List.filterMap_cons, List.filterMap_nil,
 Nat.reduceAdd, Nat.reduceSub, Nat.reduceLeDiff, Nat.reduceEqDiff, and_self, if_true, if_false, opAdd_int, opSub_int, opGt_int, opLt_int, opGe_int, opLe_int, opEq_int, opEq_str, opEq_bl, opNe_int, opNe_bl, opNe_str, bInt_int, bInt_bl, bAbs_int, truD_bl, truD_int, W_fLst, W_fTup, pow18, bLen_tup, bLen_lst, bTuple_lst, bTuple_tup, bList_lst, bList_tup, rangeD_len, Int.toNat_natCast]
        refine ⟨Nat.le_trans hs (by decide), ?_⟩
        refine W_lcK (fun l acc S' => acc.length ≤ l ∧ (∀ d ∈ acc, Gd 0 9 d) ∧ S'[S.length]? = some (.lst ds) ∧ Dr i (n + 20 * (4 - (k + 1)) + 9 * (2 - (j + 1)) + (9 - l)) S S') (fun _ => rfl) ?_ ?_ ⟨Nat.le_refl _, all_nil, c3, (by exact c4.mono (by omega))⟩
        · rintro acc S4 ⟨d1, d2, d3, d4⟩
          rw [rangeD_len] at d1 d4
          exact ⟨_, rfl, .tup d2 (by omega) (by decide), d3, d4.mono (by omega)⟩
        · rintro l hl acc S4 ⟨d1, d2, d3, d4⟩
          rw [rangeD_len] at hl
          rw [rangeD_at]
          simp only [W_body, W_sSeq, W_sNx, W_sBk, W_sCt, W_sExpr, W_sRet, W_sRetN, W_sIf, W_sAsg, W_sPar, W_sAug, W_eC, W_eVar, W_eBin, W_eUn, W_eArgs, W_aNil, W_aCons, W_eAnd, W_eOr, W_eNot, W_eIf, W_eChain, W_tVal, W_tBl, W_tAnd, W_tOr, W_tNot, W_tTrue, W_oNone, W_oSome, W_eSl, W_eRev, W_eMethL, W_eCall, W_iSeq, W_iRange1, W_iRange2, W_iEnumS, W_iZipS, W_sFor, W_eComp, W_lcStep, W_gV, W_gUnpackVV, W_newF, W_newT, W_some,
 kBody_rt, kBody_nx, kSeq_nx, kSeq_rt, kSeq_bk, kSeq_ct, kExp_, kRet_, kIf_t, kIf_f, kAsg_V, kPar_, kAug_, kB1_, kB2_, kU_, kN_, kC1_, kC2_, kAnd_T, kAnd_F, kOr_T, kOr_F, kNot_B, kCh1_, kCh2_, kCh3_t, kCh3_f, kTV_B, kTB_B, kTA_t, kTA_f, kTO_t, kTO_f, kTN_, kOS_, kSl1_, kSl2_, kSl3_, kM2_, kK1_, kK2_, kSq_tup, kSq_lst, kSq_str, kEn_tup, kEn_lst, kZp_tup, kZp_lst, kFor_, kTurn_nx, kTurn_ct, kTurn_bk, kTurn_rt, kComp_, kLcT_t, kLcT_f,
 setAll, wipeE, pick, List.getElem?_cons_zero, List.getElem?_cons_succ, List.set_cons_zero, List.set_cons_succ, List.map_cons, List.map_nil, List.replicate_succ, List.replicate_zero, List.cons_append, List.nil_append, List.append_nil, List.length_cons, List.length_nil, List.filterMap_cons, List.filterMap_nil,
 Nat.reduceAdd, Nat.reduceSub, Nat.reduceLeDiff, Nat.reduceEqDiff, and_self, if_true, if_false, opAdd_int, opSub_int, opGt_int, opLt_int, opGe_int, opLe_int, opEq_int, opEq_str, opEq_bl, opNe_int, opNe_bl, opNe_str, bInt_int, bInt_bl, bAbs_int, truD_bl, truD_int, W_fLst, W_fTup, pow18, bLen_tup, bLen_lst, bTuple_lst, bTuple_tup, bList_lst, bList_tup]
          refine take_run t (n := n + 20 * (4 - (k + 1)) + 9 * (2 - (j + 1)) + (9 - (l + 1))) (d4.bx.mono (by omega)) (by omega) (by omega) fun r S5 f1 f2 f3 _ => ?_
          simp only [W_body, W_sSeq, W_sNx, W_sBk, W_sCt, W_sExpr, W_sRet, W_sRetN, W_sIf, W_sAsg, W_sPar, W_sAug, W_eC, W_eVar, W_eBin, W_eUn, W_eArgs, W_aNil, W_aCons, W_eAnd, W_eOr, W_eNot, W_eIf, W_eChain, W_tVal, W_tBl, W_tAnd, W_tOr, W_tNot, W_tTrue, W_oNone, W_oSome, W_eSl, W_eRev, W_eMethL, W_eCall, W_iSeq, W_iRange1, W_iRange2, W_iEnumS, W_iZipS, W_sFor, W_eComp, W_lcStep, W_gV, W_gUnpackVV, W_newF, W_newT, W_some,
 kBody_rt, kBody_nx, kSeq_nx, kSeq_rt, kSeq_bk, kSeq_ct, kExp_, kRet_, kIf_t, kIf_f, kAsg_V, kPar_, kAug_, kB1_, kB2_, kU_, kN_, kC1_, kC2_, kAnd_T, kAnd_F, kOr_T, kOr_F, kNot_B, kCh1_, kCh2_, kCh3_t, kCh3_f, kTV_B, kTB_B, kTA_t, kTA_f, kTO_t, kTO_f, kTN_, kOS_, kSl1_, kSl2_, kSl3_, kM2_, kK1_, kK2_, kSq_tup, kSq_lst, kSq_str, kEn_tup, kEn_lst, kZp_tup, kZp_lst, kFor_, kTurn_nx, kTurn_ct, kTurn_bk, kTurn_rt, kComp_, kLcT_t, kLcT_f,
 setAll, wipeE, pick, List.getElem?_cons_zero, List.getElem?_cons_succ, List.set_cons_zero, List.set_cons_succ, List.map_cons, List.map_nil, List.replicate_succ, List.replicate_zero, List.cons_append, List.nil_append, List.append_nil, List.length_cons, List.length_nil, List.filterMap_cons, List.filterMap_nil,
 Nat.reduceAdd, Nat.reduceSub, Nat.reduceLeDiff, Nat.reduceEqDiff, and_self, if_true, if_false, opAdd_int, opSub_int, opGt_int, opLt_int, opGe_int, opLe_int, opEq_int, opEq_str, opEq_bl, opNe_int, opNe_bl, opNe_str, bInt_int, bInt_bl, bAbs_int, truD_bl, truD_int, W_fLst, W_fTup, pow18, bLen_tup, bLen_lst, bTuple_lst, bTuple_tup, bList_lst, bList_tup]
          refine kLcT_any (fun _ => ?_) fun _ => ?_
          · simp only [W_body, W_sSeq, W_sNx, W_sBk, W_sCt, W_sExpr, W_sRet, W_sRetN, W_sIf, W_sAsg, W_sPar, W_sAug, W_eC, W_eVar, W_eBin, W_eUn, W_eArgs, W_aNil, W_aCons, W_eAnd, W_eOr, W_eNot, W_eIf, W_eChain, W_tVal, W_tBl, W_tAnd, W_tOr, W_tNot, W_tTrue, W_oNone, W_oSome, W_eSl, W_eRev, W_eMethL, W_eCall, W_iSeq, W_iRange1, W_iRange2, W_iEnumS, W_iZipS, W_sFor, W_eComp, W_lcStep, W_gV, W_gUnpackVV, W_newF, W_newT, W_some,
 kBody_rt, kBody_nx, kSeq_nx, kSeq_rt, kSeq_bk, kSeq_ct, kExp_, kRet_, kIf_t, kIf_f, kAsg_V, kPar_, kAug_, kB1_, kB2_, kU_, kN_, kC1_, kC2_, kAnd_T, kAnd_F, kOr_T, kOr_F, kNot_B, kCh1_, kCh2_, kCh3_t, kCh3_f, kTV_B, kTB_B, kTA_t, kTA_f, kTO_t, kTO_f, kTN_, kOS_, kSl1_, kSl2_, kSl3_, kM2_, kK1_, kK2_, kSq_tup, kSq_lst, kSq_str, kEn_tup, kEn_lst, kZp_tup, kZp_lst, kFor_, kTurn_nx, kTurn_ct, kTurn_bk, kTurn_rt, kComp_, kLcT_t, kLcT_f,
 setAll, wipeE, pick, List.getElem?_cons_zero, List.getElem?_cons_succ, List.set_cons_zero, List.set_cons_succ, List.map_cons, List.map_nil, List.replicate_succ, List.replicate_zero, List.cons_append, List.nil_append, List.append_nil, List.length_cons, List.length_nil, List.filterMap_cons, List.filterMap_nil,
 Nat.reduceAdd, Nat.reduceSub, Nat.reduceLeDiff, Nat.reduceEqDiff, and_self, if_true, if_false, opAdd_int, opSub_int, opGt_int, opLt_int, opGe_int, opLe_int, opEq_int, opEq_str, opEq_bl, opNe_int, opNe_bl, opNe_str, bInt_int, bInt_bl, bAbs_int, truD_bl, truD_int, W_fLst, W_fTup, pow18, bLen_tup, bLen_lst, bTuple_lst, bTuple_tup, bList_lst, bList_tup]
            refine ⟨by simp; omega, fun d hd => ?_, f3.keep (by omega) d3, d4.trans f3⟩
            rcases List.mem_append.mp hd with hd | hd
            · exact d2 d hd
            · rw [List.mem_singleton] at hd; subst hd; exact .int
          · exact ⟨Nat.le_succ_of_le d1, d2, f3.keep (by omega) d3, d4.trans f3⟩
      refine (step _).mono fun o S4 ⟨y, e, gy, h5, h6⟩ => ?_
      subst e
      refine ⟨by simp [c1], fun d hd => ?_, h5, h6⟩
      rcases List.mem_append.mp hd with hd | hd
      · exact c2 d hd
      · rw [List.mem_singleton] at hd; subst hd; exact gy
end AW

namespace AW
open PySem PySem.Spec PyProof.Rows L2

def rest80 (take odd isfilm isrec same : OpN) : SemS := sSeq (sFor (iRange1 (aCons (eC (D.int 12)) aNil)) (gV 4) (sSeq (sAsg (gV 5) (eVar 2)) (sSeq (sFor (iRange1 (aCons (eCall take 2 0 2 [] [0, 1] (aCons (eVar 0) (aCons (eC (D.int 4)) aNil)) aNil) aNil)) (gV 6) (sAsg (gV 5) (eCall odd 2 0 2 [] [0, 1] (aCons (eVar 0) (aCons (eVar 5) aNil)) aNil))) (sExpr (eMethL mAppend (eVar 3) (aCons (eVar 5) aNil)))))) (sSeq (sFor (iSeq (eVar 3)) (gV 5) (sSeq (sAsg (gV 7) (eCall (callP false isfilm) 2 0 2 [] [0, 1] (aCons (eVar 5) (aCons (eVar 1) aNil)) aNil)) (sIf (AW.tNot (tVal (eCall (callP false same) 2 0 2 [] [0, 1] (aCons (eArgs (fLst false) (aCons (eCall (callP false isrec) 2 0 2 [] [0, 1] (aCons (eVar 5) (aCons (eVar 1) aNil)) aNil) (aCons (eCall (callP false isrec) 0 2 2 [] [1, 0] aNil (aCons (eVar 1) (aCons (eVar 5) aNil))) aNil))) (aCons (eArgs (fLst false) (aCons (eVar 7) (aCons (eVar 7) aNil))) aNil)) aNil))) (sRet (eC (D.bl false))) sNx))) (sSeq (sAsg (gV 8) (eBin (opMul false) (eArgs fTup (aCons (eArgs fTup (aCons (eUn (opRg1 true false) (eC (D.int 23))) (aCons (eArgs fTup (aCons (eC (D.int 5)) (aCons (eC (D.int 23)) aNil))) aNil))) aNil)) (eC (D.int 40)))) (sRet (eCall (callP false same) 2 0 2 [] [0, 1] (aCons (eArgs (fLst false) (aCons (eCall (callP false isrec) 2 0 2 [] [0, 1] (aCons (eVar 8) (aCons (eC (D.int 24)) aNil)) aNil) (aCons (eCall (callP false isrec) 2 0 2 [] [0, 1] (aCons (eVar 8) (aCons (eC (D.int 23)) aNil)) aNil) aNil))) (aCons (eArgs (fLst false) (aCons (eC (D.bl true)) (aCons (eC (D.bl false)) aNil))) aNil)) aNil))))
def rightSem80 (take loose odd isfilm isrec same : OpN) : SemS := sSeq (sAsg (gV 1) (eCall take 2 0 2 [] [0, 1] (aCons (eVar 0) (aCons (eC (D.int 9)) aNil)) aNil)) (sSeq (sAsg (gV 2) (eCall loose 3 0 3 [] [0, 1, 2] (aCons (eVar 0) (aCons (eVar 1) (aCons (eC (D.int 4)) aNil))) aNil)) (sSeq (sAsg (gV 3) (eArgs (fLst true) (aCons (eArgs fTup aNil) (aCons (eArgs fTup (aCons (eArgs fTup aNil) (aCons (eArgs fTup aNil) aNil))) (aCons (eArgs fTup (aCons (eArgs fTup (aCons (eArgs fTup aNil) (aCons (eArgs fTup aNil) aNil))) aNil)) (aCons (eArgs fTup (aCons (eArgs fTup (aCons (eArgs fTup (aCons (eC (D.int 0)) aNil)) (aCons (eArgs fTup aNil) aNil))) aNil)) (aCons (eArgs fTup (aCons (eArgs fTup (aCons (eArgs fTup (aCons (eC (D.int 0)) aNil)) (aCons (eArgs fTup (aCons (eC (D.int 0)) aNil)) aNil))) aNil)) (aCons (eArgs fTup (aCons (eArgs fTup (aCons (eArgs fTup (aCons (eC (D.int 1)) (aCons (eC (D.int 0)) aNil))) (aCons (eArgs fTup aNil) aNil))) aNil)) (aCons (eArgs fTup (aCons (eArgs fTup (aCons (eArgs fTup (aCons (eC (D.int 0)) (aCons (eC (D.int 0)) aNil))) (aCons (eArgs fTup aNil) aNil))) aNil)) aNil))))))))) (sSeq (sAsg (gV 3) (eBin (opAdd true) (eVar 3) (eArgs (fLst false) (aCons (eArgs fTup (aCons (eArgs fTup (aCons (eArgs fTup (aCons (eUn opNeg (eC (D.int 1))) aNil)) (aCons (eArgs fTup aNil) aNil))) aNil)) (aCons (eArgs fTup (aCons (eArgs fTup (aCons (eArgs fTup aNil) (aCons (eArgs fTup (aCons (eC (D.bl true)) aNil)) aNil))) aNil)) (aCons (eArgs fTup (aCons (eArgs fTup (aCons (eArgs fTup aNil) (aCons (eArgs fTup (aCons (eVar 1) aNil)) aNil))) aNil)) (aCons (eArgs fTup (aCons (eArgs fTup (aCons (eArgs (fLst false) (aCons (eC (D.int 0)) aNil)) (aCons (eArgs fTup aNil) aNil))) aNil)) (aCons (eArgs fTup (aCons (eArgs (fLst false) (aCons (eArgs fTup (aCons (eC (D.int 0)) aNil)) (aCons (eArgs fTup aNil) aNil))) aNil)) (aCons (eArgs (fLst false) (aCons (eArgs fTup (aCons (eArgs fTup aNil) (aCons (eArgs fTup aNil) aNil))) aNil)) (aCons (eC D.non) aNil)))))))))) (sSeq (sAsg (gV 3) (eBin (opAdd true) (eVar 3) (eArgs (fLst false) (aCons (eArgs fTup (aCons (eArgs fTup (aCons (eArgs fTup (aCons (eC (D.int 0)) aNil)) aNil)) aNil)) (aCons (eArgs fTup (aCons (eArgs fTup (aCons (eArgs fTup (aCons (eC (D.int 0)) aNil)) (aCons (eArgs fTup aNil) (aCons (eArgs fTup aNil) aNil)))) aNil)) (aCons (eArgs fTup (aCons (eC (D.int 0)) (aCons (eArgs fTup aNil) aNil))) (aCons (eArgs fTup (aCons (eArgs fTup (aCons (eC (D.int 0)) (aCons (eArgs fTup aNil) aNil))) aNil)) (aCons (eArgs fTup (aCons (eArgs fTup (aCons (eC D.non) (aCons (eArgs fTup aNil) aNil))) aNil)) (aCons (eC (D.str (Str.ofString ""))) (aCons (eArgs fTup (aCons (eArgs fTup (aCons (eC (D.str (Str.ofString ""))) (aCons (eC (D.str (Str.ofString ""))) aNil))) aNil)) (aCons (eC (D.bl true)) (aCons (eC (D.int 0)) aNil)))))))))))) (rest80 take odd isfilm isrec same)))))
def gm : Nat → Nat
  | 0 => 9
  | j + 1 => 2 * gm j + 2
theorem gm_1 : ∀ j, 1 ≤ gm j
  | 0 => by decide
  | j + 1 => by unfold gm; omega
def great : D := .tup (List.replicate 40 [D.tup [.tup (rangeD 0 23), .tup [.int 5, .int 23]]]).flatten
theorem great_24 : recD 24 great = true := by decide +kernel
theorem great_23 : recD 23 great = false := by decide +kernel
theorem great_cl : cl great = true := by decide +kernel
theorem great_len : ∀ es, great = .tup es → es.length ≤ 1000 := fun es h => by
  unfold great at h
  injection h with h
  subst h
  decide +kernel
theorem opAdd_ref {i : Nat} {a b : List D} {S : Sto} {mk : Bool} (h : S[i]? = some (.lst a)) (hl : a.length + b.length ≤ 1000000) : opAdd mk (.ref i) (.lst .frz b) S = newL mk (a ++ b) S := by
  simp only [opAdd, opAddL, readL, h]
  exact if_pos hl
theorem opMul_great {S : Sto} : opMul false (.tup [D.tup [.tup (rangeD 0 23), .tup [.int 5, .int 23]]]) (.int 40) S = some (great, S) := by
  simp only [opMul, opMulT]
  rw [if_pos ⟨by decide, by decide, by simp, by simp⟩]
  rfl
theorem opRg_23 {S : Sto} : opRg1 true false (.int 23) S = some (.tup (rangeD 0 23), S) := by
  simp only [opRg1, mkRg]
  rw [if_pos (by decide)]
  rfl
theorem rest_run {take odd isfilm isrow isrec arenums iscount isnum same : OpN} (t : TakeS take) (hf : isfilm = body 4 (isfilmSem isrow)) (hr : isrow = body 3 isrowSem)
    (h3 : isrec = body 4 (isrecSem arenums)) (h2 : arenums = body 5 (arenumsSem iscount)) (h1 : iscount = body 1 (iscountSem isnum)) (h0 : isnum = body 1 isnumSem)
    (hodd : ∀ (p : Nat) (d : D) (S : Sto) (i n m : Nat) (Q : Kn D), p ≤ 20 → Gd p m d → 1 ≤ m → m ≤ 400 → Bx S i (n + (2 * p + 4)) → (∀ r S', Gd (p + 2) (2 * m + 2) r → Dr i n S S' → Q r S') → W (odd [.ref i, d] S) Q)
    (hsa : ∀ (a b c d : Bool) (S : Sto), a = c → b = d → callP false same [.lst .frz [.bl a, .bl b], .lst .frz [.bl c, .bl d]] S = some (.bl true, S))
    {i n size r : Nat} {film : D} {C : List D} {S : Sto} (hri : r ≠ i) (hC : S[r]? = some (.lst C)) (gC : ∀ x ∈ C, Gd 10 100 x) (lC : C.length ≤ 30) (gf : Gd 3 9 film) (hb : Bx S i (n + 2000)) :
    W (rest80 take odd isfilm isrec same [some (.ref i), some (.int size), some film, some (.ref r), none, none, none, none, none] S) (kBody fun d S' => d = .bl true ∧ Bx S' i n) := by
  unfold rest80
  simp only [W_body, W_sSeq, W_sNx, W_sBk, W_sCt, W_sExpr, W_sRet, W_sRetN, W_sIf, W_sAsg, W_sPar, W_sAug, W_eC, W_eVar, W_eBin, W_eUn, W_eArgs, W_aNil, W_aCons, W_eAnd, W_eOr, W_eNot, W_eIf, W_eChain, W_tVal, W_tBl, W_tAnd, W_tOr, W_tNot, W_tTrue, W_oNone, W_oSome, W_eSl, W_eRev, W_eMethL, W_eCall, W_iSeq, W_iRange1, W_iRange2, W_iEnumS, W_iZipS, W_sFor, W_eComp, W_lcStep, W_gV, W_gUnpackVV, W_newF, W_newT, W_some,
 kBody_rt, kBody_nx, kSeq_nx, kSeq_rt, kSeq_bk, kSeq_ct, kExp_, kRet_, kIf_t, kIf_f, kAsg_V, kPar_, kAug_, kB1_, kB2_, kU_, kN_, kC1_, kC2_, kAnd_T, kAnd_F, kOr_T, kOr_F, kNot_B, kCh1_, kCh2_, kCh3_t, kCh3_f, kTV_B, kTB_B, kTA_t, kTA_f, kTO_t, kTO_f, kTN_, kOS_, kSl1_, kSl2_, kSl3_, kM2_, kK1_, kK2_, kSq_tup, kSq_lst, kSq_str, kEn_tup, kEn_lst, kZp_tup, kZp_lst, kFor_, kTurn_nx, kTurn_ct, kTurn_bk, kTurn_rt, kComp_, kLcT_t, kLcT_f,
 setAll, wipeE, pick, List.getElem?_cons_zero, List.getElem?_cons_succ, List.set_cons_zero, List.set_cons_succ, List.map_cons, List.map_nil, List.replicate_succ, List.replicate_zero, List.cons_append, List.nil_append, List.append_nil, List.length_cons, List.length_nil, List.filterMap_cons, List.filterMap_nil,
 Nat.reduceAdd, Nat.reduceSub, Nat.reduceLeDiff, Nat.reduceEqDiff, and_self, if_true, if_false, opAdd_int, opSub_int, opGt_int, opLt_int, opGe_int, opLe_int, opEq_int, opEq_str, opEq_bl, opNe_int, opNe_bl, opNe_str, bInt_int, bInt_bl, bAbs_int, truD_bl, truD_int, W_fLst, W_fTup, pow18, bLen_tup, bLen_lst, bTuple_lst, bTuple_tup, bList_lst, bList_tup]
  rw [kR1_ (by decide)]
  simp only [W_body, W_sSeq, W_sNx, W_sBk, W_sCt, W_sExpr, W_sRet, W_sRetN, W_sIf, W_sAsg, W_sPar, W_sAug, W_eC, W_eVar, W_eBin, W_eUn, W_eArgs, W_aNil, W_aCons, W_eAnd, W_eOr, W_eNot, W_eIf, W_eChain, W_tVal, W_tBl, W_tAnd, W_tOr, W_tNot, W_tTrue, W_oNone, W_oSome, W_eSl, W_eRev, W_eMethL, W_eCall, W_iSeq, W_iRange1, W_iRange2, W_iEnumS, W_iZipS, W_sFor, W_eComp, W_lcStep, W_gV, W_gUnpackVV, W_newF, W_newT, W_some,
 kBody_rt, kBody_nx, kSeq_nx, kSeq_rt, kSeq_bk, kSeq_ct, kExp_, kRet_, kIf_t, kIf_f, kAsg_V, kPar_, kAug_, kB1_, kB2_, kU_, kN_, kC1_, kC2_, kAnd_T, kAnd_F, kOr_T, kOr_F, kNot_B, kCh1_, kCh2_, kCh3_t, kCh3_f, kTV_B, kTB_B, kTA_t, kTA_f, kTO_t, kTO_f, kTN_, kOS_, kSl1_, kSl2_, kSl3_, kM2_, kK1_, kK2_, kSq_tup, kSq_lst, kSq_str, kEn_tup, kEn_lst, kZp_tup, kZp_lst, kFor_, kTurn_nx, kTurn_ct, kTurn_bk, kTurn_rt, kComp_, kLcT_t, kLcT_f,
 setAll, wipeE, pick, List.getElem?_cons_zero, List.getElem?_cons_succ, List.set_cons_zero, List.set_cons_succ, List.map_cons, List.map_nil, List.replicate_succ, List.replicate_zero, List.cons_append, List.nil_append, List.append_nil, List.length_cons, List.length_nil, List.filterMap_cons, List.filterMap_nil,
 Nat.reduceAdd, Nat.reduceSub, Nat.reduceLeDiff, Nat.reduceEqDiff, and_self, if_true, if_false, opAdd_int, opSub_int, opGt_int, opLt_int, opGe_int, opLe_int, opEq_int, opEq_str, opEq_bl, opNe_int, opNe_bl, opNe_str, bInt_int, bInt_bl, bAbs_int, truD_bl, truD_int, W_fLst, W_fTup, pow18, bLen_tup, bLen_lst, bTuple_lst, bTuple_tup, bList_lst, bList_tup]
  refine W_forK (fun k E S' => ∃ (x4 x5 x6 : Option D) (C : List D), E = [some (.ref i), some (.int size), some film, some (.ref r), x4, x5, x6, none, none] ∧ S'[r]? = some (.lst C) ∧ (∀ x ∈ C, Gd 10 100 x) ∧ C.length ≤ 30 + k ∧ Bx S' i (n + 100 * (12 - k))) (fun _ => rfl) ?_ ?_ ⟨none, none, none, C, rfl, hC, gC, lC, hb.mono (by omega)⟩
  · rintro E S' ⟨x4, x5, x6, C, rfl, hC, gC, lC, hb⟩
    simp only [W_body, W_sSeq, W_sNx, W_sBk, W_sCt, W_sExpr, W_sRet, W_sRetN, W_sIf, W_sAsg, W_sPar, W_sAug, W_eC, W_eVar, W_eBin, W_eUn, W_eArgs, W_aNil, W_aCons, W_eAnd, W_eOr, W_eNot, W_eIf, W_eChain, W_tVal, W_tBl, W_tAnd, W_tOr, W_tNot, W_tTrue, W_oNone, W_oSome, W_eSl, W_eRev, W_eMethL, W_eCall, W_iSeq, W_iRange1, W_iRange2, W_iEnumS, W_iZipS, W_sFor, W_eComp, W_lcStep, W_gV, W_gUnpackVV, W_newF, W_newT, W_some,
 kBody_rt, kBody_nx, kSeq_nx, kSeq_rt, kSeq_bk, kSeq_ct, kExp_, kRet_, kIf_t, kIf_f, kAsg_V, kPar_, kAug_, kB1_, kB2_, kU_, kN_, kC1_, kC2_, kAnd_T, kAnd_F, kOr_T, kOr_F, kNot_B, kCh1_, kCh2_, kCh3_t, kCh3_f, kTV_B, kTB_B, kTA_t, kTA_f, kTO_t, kTO_f, kTN_, kOS_, kSl1_, kSl2_, kSl3_, kM2_, kK1_, kK2_, kSq_tup, kSq_lst, kSq_str, kEn_tup, kEn_lst, kZp_tup, kZp_lst, kFor_, kTurn_nx, kTurn_ct, kTurn_bk, kTurn_rt, kComp_, kLcT_t, kLcT_f,
 setAll, wipeE, pick, List.getElem?_cons_zero, List.getElem?_cons_succ, List.set_cons_zero, List.set_cons_succ, List.map_cons, List.map_nil, List.replicate_succ, List.replicate_zero, List.cons_append, List.nil_append, List.append_nil, List.length_cons, List.length_nil, List.filterMap_cons, List.filterMap_nil,
 Nat.reduceAdd, Nat.reduceSub, Nat.reduceLeDiff, Nat.reduceEqDiff, and_self, if_true, if_false, opAdd_int, opSub_int, opGt_int, opLt_int, opGe_int, opLe_int, opEq_int, opEq_str, opEq_bl, opNe_int, opNe_bl, opNe_str, bInt_int, bInt_bl, bAbs_int, truD_bl, truD_int, W_fLst, W_fTup, pow18, bLen_tup, bLen_lst, bTuple_lst, bTuple_tup, bList_lst, bList_tup]
    rw [kSq_ref hC]
    simp only [W_body, W_sSeq, W_sNx, W_sBk, W_sCt, W_sExpr, W_sRet, W_sRetN, W_sIf, W_sAsg, W_sPar, W_sAug, W_eC, W_eVar, W_eBin, W_eUn, W_eArgs, W_aNil, W_aCons, W_eAnd, W_eOr, W_eNot, W_eIf, W_eChain, W_tVal, W_tBl, W_tAnd, W_tOr, W_tNot, W_tTrue, W_oNone, W_oSome, W_eSl, W_eRev, W_eMethL, W_eCall, W_iSeq, W_iRange1, W_iRange2, W_iEnumS, W_iZipS, W_sFor, W_eComp, W_lcStep, W_gV, W_gUnpackVV, W_newF, W_newT, W_some,
 kBody_rt, kBody_nx, kSeq_nx, kSeq_rt, kSeq_bk, kSeq_ct, kExp_, kRet_, kIf_t, kIf_f, kAsg_V, kPar_, kAug_, kB1_, kB2_, kU_, kN_, kC1_, kC2_, kAnd_T, kAnd_F, kOr_T, kOr_F, kNot_B, kCh1_, kCh2_, kCh3_t, kCh3_f, kTV_B, kTB_B, kTA_t, kTA_f, kTO_t, kTO_f, kTN_, kOS_, kSl1_, kSl2_, kSl3_, kM2_, kK1_, kK2_, kSq_tup, kSq_lst, kSq_str, kEn_tup, kEn_lst, kZp_tup, kZp_lst, kFor_, kTurn_nx, kTurn_ct, kTurn_bk, kTurn_rt, kComp_, kLcT_t, kLcT_f,
 setAll, wipeE, pick, List.getElem?_cons_zero, List.getElem?_cons_succ, List.set_cons_zero, List.set_cons_succ, List.map_cons, List.map_nil, List.replicate_succ, List.replicate_zero, List.cons_append, List.nil_append, List.append_nil, List.length_cons, List.length_nil, List.filterMap_cons, List.filterMap_nil,
 Nat.reduceAdd, Nat.reduceSub, Nat.reduceLeDiff, Nat.reduceEqDiff, and_self, if_true, if_false, opAdd_int, opSub_int, opGt_int, opLt_int, opGe_int, opLe_int, opEq_int, opEq_str, opEq_bl, opNe_int, opNe_bl, opNe_str, bInt_int, bInt_bl, bAbs_int, truD_bl, truD_int, W_fLst, W_fTup, pow18, bLen_tup, bLen_lst, bTuple_lst, bTuple_tup, bList_lst, bList_tup]
    refine W_loop (fun ds E S2 => ∃ x5 x7 : Option D, E = [some (.ref i), some (.int size), some film, some (.ref r), x4, x5, x6, x7, none] ∧ S2 = S' ∧ ∀ x ∈ ds, Gd 10 100 x) (fun ⟨_, _, _, e, _⟩ => by subst e; exact stable_at hC) ?_ ?_ _ _ _ ⟨x5, none, rfl, rfl, gC⟩
    · rintro E S2 ⟨x5, x7, rfl, rfl, _⟩
      simp only [W_body, W_sSeq, W_sNx, W_sBk, W_sCt, W_sExpr, W_sRet, W_sRetN, W_sIf, W_sAsg, W_sPar, W_sAug, W_eC, W_eVar, W_eBin, W_eUn, W_eArgs, W_aNil, W_aCons, W_eAnd, W_eOr, W_eNot, W_eIf, W_eChain, W_tVal, W_tBl, W_tAnd, W_tOr, W_tNot, W_tTrue, W_oNone, W_oSome, W_eSl, W_eRev, W_eMethL, W_eCall, W_iSeq, W_iRange1, W_iRange2, W_iEnumS, W_iZipS, W_sFor, W_eComp, W_lcStep, W_gV, W_gUnpackVV, W_newF, W_newT, W_some,
 kBody_rt, kBody_nx, kSeq_nx, kSeq_rt, kSeq_bk, kSeq_ct, kExp_, kRet_, kIf_t, kIf_f, kAsg_V, kPar_, kAug_, kB1_, kB2_, kU_, kN_, kC1_, kC2_, kAnd_T, kAnd_F, kOr_T, kOr_F, kNot_B, kCh1_, kCh2_, kCh3_t, kCh3_f, kTV_B, kTB_B, kTA_t, kTA_f, kTO_t, kTO_f, kTN_, kOS_, kSl1_, kSl2_, kSl3_, kM2_, kK1_, kK2_, kSq_tup, kSq_lst, kSq_str, kEn_tup, kEn_lst, kZp_tup, kZp_lst, kFor_, kTurn_nx, kTurn_ct, kTurn_bk, kTurn_rt, kComp_, kLcT_t, kLcT_f,
 setAll, wipeE, pick, List.getElem?_cons_zero, List.getElem?_cons_succ, List.set_cons_zero, List.set_cons_succ, List.map_cons, List.map_nil, List.replicate_succ, List.replicate_zero, List.cons_append, List.nil_append, List.append_nil, List.length_cons, List.length_nil, List.filterMap_cons, List.filterMap_nil,
 Nat.reduceAdd, Nat.reduceSub, Nat.reduceLeDiff, Nat.reduceEqDiff, and_self, if_true, if_false, opAdd_int, opSub_int, opGt_int, opLt_int, opGe_int, opLe_int, opEq_int, opEq_str, opEq_bl, opNe_int, opNe_bl, opNe_str, bInt_int, bInt_bl, bAbs_int, truD_bl, truD_int, W_fLst, W_fTup, pow18, bLen_tup, bLen_lst, bTuple_lst, bTuple_tup, bList_lst, bList_tup, opRg_23]
      rw [opMul_great]
      simp only [W_body, W_sSeq, W_sNx, W_sBk, W_sCt, W_sExpr, W_sRet, W_sRetN, W_sIf, W_sAsg, W_sPar, W_sAug, W_eC, W_eVar, W_eBin, W_eUn, W_eArgs, W_aNil, W_aCons, W_eAnd, W_eOr, W_eNot, W_eIf, W_eChain, W_tVal, W_tBl, W_tAnd, W_tOr, W_tNot, W_tTrue, W_oNone, W_oSome, W_eSl, W_eRev, W_eMethL, W_eCall, W_iSeq, W_iRange1, W_iRange2, W_iEnumS, W_iZipS, W_sFor, W_eComp, W_lcStep, W_gV, W_gUnpackVV, W_newF, W_newT, W_some,
 kBody_rt, kBody_nx, kSeq_nx, kSeq_rt, kSeq_bk, kSeq_ct, kExp_, kRet_, kIf_t, kIf_f, kAsg_V, kPar_, kAug_, kB1_, kB2_, kU_, kN_, kC1_, kC2_, kAnd_T, kAnd_F, kOr_T, kOr_F, kNot_B, kCh1_, kCh2_, kCh3_t, kCh3_f, kTV_B, kTB_B, kTA_t, kTA_f, kTO_t, kTO_f, kTN_, kOS_, kSl1_, kSl2_, kSl3_, kM2_, kK1_, kK2_, kSq_tup, kSq_lst, kSq_str, kEn_tup, kEn_lst, kZp_tup, kZp_lst, kFor_, kTurn_nx, kTurn_ct, kTurn_bk, kTurn_rt, kComp_, kLcT_t, kLcT_f,
 setAll, wipeE, pick, List.getElem?_cons_zero, List.getElem?_cons_succ, List.set_cons_zero, List.set_cons_succ, List.map_cons, List.map_nil, List.replicate_succ, List.replicate_zero, List.cons_append, List.nil_append, List.append_nil, List.length_cons, List.length_nil, List.filterMap_cons, List.filterMap_nil,
 Nat.reduceAdd, Nat.reduceSub, Nat.reduceLeDiff, Nat.reduceEqDiff, and_self, if_true, if_false, opAdd_int, opSub_int, opGt_int, opLt_int, opGe_int, opLe_int, opEq_int, opEq_str, opEq_bl, opNe_int, opNe_bl, opNe_str, bInt_int, bInt_bl, bAbs_int, truD_bl, truD_int, W_fLst, W_fTup, pow18, bLen_tup, bLen_lst, bTuple_lst, bTuple_tup, bList_lst, bList_tup, isrec_run h3 h2 h1 h0 great_cl great_len, great_24, great_23]
      rw [hsa true false true false _ rfl rfl]
      simp only [W_body, W_sSeq, W_sNx, W_sBk, W_sCt, W_sExpr, W_sRet, W_sRetN, W_sIf, W_sAsg, W_sPar, W_sAug, W_eC, W_eVar, W_eBin, W_eUn, W_eArgs, W_aNil, W_aCons, W_eAnd, W_eOr, W_eNot, W_eIf, W_eChain, W_tVal, W_tBl, W_tAnd, W_tOr, W_tNot, W_tTrue, W_oNone, W_oSome, W_eSl, W_eRev, W_eMethL, W_eCall, W_iSeq, W_iRange1, W_iRange2, W_iEnumS, W_iZipS, W_sFor, W_eComp, W_lcStep, W_gV, W_gUnpackVV, W_newF, W_newT, W_some,
 kBody_rt, kBody_nx, kSeq_nx, kSeq_rt, kSeq_bk, kSeq_ct, kExp_, kRet_, kIf_t, kIf_f, kAsg_V, kPar_, kAug_, kB1_, kB2_, kU_, kN_, kC1_, kC2_, kAnd_T, kAnd_F, kOr_T, kOr_F, kNot_B, kCh1_, kCh2_, kCh3_t, kCh3_f, kTV_B, kTB_B, kTA_t, kTA_f, kTO_t, kTO_f, kTN_, kOS_, kSl1_, kSl2_, kSl3_, kM2_, kK1_, kK2_, kSq_tup, kSq_lst, kSq_str, kEn_tup, kEn_lst, kZp_tup, kZp_lst, kFor_, kTurn_nx, kTurn_ct, kTurn_bk, kTurn_rt, kComp_, kLcT_t, kLcT_f,
 setAll, wipeE, pick, List.getElem?_cons_zero, List.getElem?_cons_succ, List.set_cons_zero, List.set_cons_succ, List.map_cons, List.map_nil, List.replicate_succ, List.replicate_zero, List.cons_append, List.nil_append, List.append_nil, List.length_cons, List.length_nil, List.filterMap_cons, List.filterMap_nil,
 Nat.reduceAdd, Nat.reduceSub, Nat.reduceLeDiff, Nat.reduceEqDiff, and_self, if_true, if_false, opAdd_int, opSub_int, opGt_int, opLt_int, opGe_int, opLe_int, opEq_int, opEq_str, opEq_bl, opNe_int, opNe_bl, opNe_str, bInt_int, bInt_bl, bAbs_int, truD_bl, truD_int, W_fLst, W_fTup, pow18, bLen_tup, bLen_lst, bTuple_lst, bTuple_tup, bList_lst, bList_tup]
      exact ⟨trivial, hb.mono (by omega)⟩
    · rintro d ds E S2 ⟨x5, x7, rfl, rfl, gd⟩
      have g := gd d List.mem_cons_self
      have gl : ∀ es, d = .tup es → es.length ≤ 1000 := fun es e => by
        subst e
        have := g.l
        simp only [mx] at this
        omega
      simp only [W_body, W_sSeq, W_sNx, W_sBk, W_sCt, W_sExpr, W_sRet, W_sRetN, W_sIf, W_sAsg, W_sPar, W_sAug, W_eC, W_eVar, W_eBin, W_eUn, W_eArgs, W_aNil, W_aCons, W_eAnd, W_eOr, W_eNot, W_eIf, W_eChain, W_tVal, W_tBl, W_tAnd, W_tOr, W_tNot, W_tTrue, W_oNone, W_oSome, W_eSl, W_eRev, W_eMethL, W_eCall, W_iSeq, W_iRange1, W_iRange2, W_iEnumS, W_iZipS, W_sFor, W_eComp, W_lcStep, W_gV, W_gUnpackVV, W_newF, W_newT, W_some,
 kBody_rt, kBody_nx, kSeq_nx, kSeq_rt, kSeq_bk, kSeq_ct, kExp_, kRet_, kIf_t, kIf_f, kAsg_V, kPar_, kAug_, kB1_, kB2_, kU_, kN_, kC1_, kC2_, kAnd_T, kAnd_F, kOr_T, kOr_F, kNot_B, kCh1_, kCh2_, kCh3_t, kCh3_f, kTV_B, kTB_B, kTA_t, kTA_f, kTO_t, kTO_f, kTN_, kOS_, kSl1_, kSl2_, kSl3_, kM2_, kK1_, kK2_, kSq_tup, kSq_lst, kSq_str, kEn_tup, kEn_lst, kZp_tup, kZp_lst, kFor_, kTurn_nx, kTurn_ct, kTurn_bk, kTurn_rt, kComp_, kLcT_t, kLcT_f,
 setAll, wipeE, pick, List.getElem?_cons_zero, List.getElem?_cons_succ, List.set_cons_zero, List.set_cons_succ, List.map_cons, List.map_nil, List.replicate_succ, List.replicate_zero, List.cons_append, List.nil_append, List.append_nil, List.length_cons, List.length_nil, List.filterMap_cons, List.filterMap_nil,
 Nat.reduceAdd, Nat.reduceSub, Nat.reduceLeDiff, Nat.reduceEqDiff, and_self, if_true, if_false, opAdd_int, opSub_int, opGt_int, opLt_int, opGe_int, opLe_int, opEq_int, opEq_str, opEq_bl, opNe_int, opNe_bl, opNe_str, bInt_int, bInt_bl, bAbs_int, truD_bl, truD_int, W_fLst, W_fTup, pow18, bLen_tup, bLen_lst, bTuple_lst, bTuple_tup, bList_lst, bList_tup, isfilm_run hf hr (g.mono (show 10 ≤ 50 by omega) (show 100 ≤ 1000 by omega)), isrec_run h3 h2 h1 h0 g.c gl]
      rw [hsa _ _ _ _ _ rfl rfl]
      simp only [W_body, W_sSeq, W_sNx, W_sBk, W_sCt, W_sExpr, W_sRet, W_sRetN, W_sIf, W_sAsg, W_sPar, W_sAug, W_eC, W_eVar, W_eBin, W_eUn, W_eArgs, W_aNil, W_aCons, W_eAnd, W_eOr, W_eNot, W_eIf, W_eChain, W_tVal, W_tBl, W_tAnd, W_tOr, W_tNot, W_tTrue, W_oNone, W_oSome, W_eSl, W_eRev, W_eMethL, W_eCall, W_iSeq, W_iRange1, W_iRange2, W_iEnumS, W_iZipS, W_sFor, W_eComp, W_lcStep, W_gV, W_gUnpackVV, W_newF, W_newT, W_some,
 kBody_rt, kBody_nx, kSeq_nx, kSeq_rt, kSeq_bk, kSeq_ct, kExp_, kRet_, kIf_t, kIf_f, kAsg_V, kPar_, kAug_, kB1_, kB2_, kU_, kN_, kC1_, kC2_, kAnd_T, kAnd_F, kOr_T, kOr_F, kNot_B, kCh1_, kCh2_, kCh3_t, kCh3_f, kTV_B, kTB_B, kTA_t, kTA_f, kTO_t, kTO_f, kTN_, kOS_, kSl1_, kSl2_, kSl3_, kM2_, kK1_, kK2_, kSq_tup, kSq_lst, kSq_str, kEn_tup, kEn_lst, kZp_tup, kZp_lst, kFor_, kTurn_nx, kTurn_ct, kTurn_bk, kTurn_rt, kComp_, kLcT_t, kLcT_f,
 setAll, wipeE, pick, List.getElem?_cons_zero, List.getElem?_cons_succ, List.set_cons_zero, List.set_cons_succ, List.map_cons, List.map_nil, List.replicate_succ, List.replicate_zero, List.cons_append, List.nil_append, List.append_nil, List.length_cons, List.length_nil, List.filterMap_cons, List.filterMap_nil,
 Nat.reduceAdd, Nat.reduceSub, Nat.reduceLeDiff, Nat.reduceEqDiff, and_self, if_true, if_false, opAdd_int, opSub_int, opGt_int, opLt_int, opGe_int, opLe_int, opEq_int, opEq_str, opEq_bl, opNe_int, opNe_bl, opNe_str, bInt_int, bInt_bl, bAbs_int, truD_bl, truD_int, W_fLst, W_fTup, pow18, bLen_tup, bLen_lst, bTuple_lst, bTuple_tup, bList_lst, bList_tup, Bool.not_true]
      exact ⟨_, _, rfl, trivial, fun x hx => gd x (List.mem_cons_of_mem _ hx)⟩
  · rintro k hk E S' ⟨x4, x5, x6, C, rfl, hC, gC, lC, hb⟩
    rw [rangeD_len] at hk
    have hk' : k < 12 := hk
    rw [rangeD_at]
    simp only [W_body, W_sSeq, W_sNx, W_sBk, W_sCt, W_sExpr, W_sRet, W_sRetN, W_sIf, W_sAsg, W_sPar, W_sAug, W_eC, W_eVar, W_eBin, W_eUn, W_eArgs, W_aNil, W_aCons, W_eAnd, W_eOr, W_eNot, W_eIf, W_eChain, W_tVal, W_tBl, W_tAnd, W_tOr, W_tNot, W_tTrue, W_oNone, W_oSome, W_eSl, W_eRev, W_eMethL, W_eCall, W_iSeq, W_iRange1, W_iRange2, W_iEnumS, W_iZipS, W_sFor, W_eComp, W_lcStep, W_gV, W_gUnpackVV, W_newF, W_newT, W_some,
 kBody_rt, kBody_nx, kSeq_nx, kSeq_rt, kSeq_bk, kSeq_ct, kExp_, kRet_, kIf_t, kIf_f, kAsg_V, kPar_, kAug_, kB1_, kB2_, kU_, kN_, kC1_, kC2_, kAnd_T, kAnd_F, kOr_T, kOr_F, kNot_B, kCh1_, kCh2_, kCh3_t, kCh3_f, kTV_B, kTB_B, kTA_t, kTA_f, kTO_t, kTO_f, kTN_, kOS_, kSl1_, kSl2_, kSl3_, kM2_, kK1_, kK2_, kSq_tup, kSq_lst, kSq_str, kEn_tup, kEn_lst, kZp_tup, kZp_lst, kFor_, kTurn_nx, kTurn_ct, kTurn_bk, kTurn_rt, kComp_, kLcT_t, kLcT_f,
 setAll, wipeE, pick, List.getElem?_cons_zero, List.getElem?_cons_succ, List.set_cons_zero, List.set_cons_succ, List.map_cons, List.map_nil, List.replicate_succ, List.replicate_zero, List.cons_append, List.nil_append, List.append_nil, List.length_cons, List.length_nil, List.filterMap_cons, List.filterMap_nil,
 Nat.reduceAdd, Nat.reduceSub, Nat.reduceLeDiff, Nat.reduceEqDiff, and_self, if_true, if_false, opAdd_int, opSub_int, opGt_int, opLt_int, opGe_int, opLe_int, opEq_int, opEq_str, opEq_bl, opNe_int, opNe_bl, opNe_str, bInt_int, bInt_bl, bAbs_int, truD_bl, truD_int, W_fLst, W_fTup, pow18, bLen_tup, bLen_lst, bTuple_lst, bTuple_tup, bList_lst, bList_tup]
    refine take_run t (n := n + 100 * (12 - (k + 1)) + 90) (hb.mono (by omega)) (by omega) (by omega) fun laps S1 a1 a2 a3 _ => ?_
    have hC1 := a3.keep hri hC
    simp only [W_body, W_sSeq, W_sNx, W_sBk, W_sCt, W_sExpr, W_sRet, W_sRetN, W_sIf, W_sAsg, W_sPar, W_sAug, W_eC, W_eVar, W_eBin, W_eUn, W_eArgs, W_aNil, W_aCons, W_eAnd, W_eOr, W_eNot, W_eIf, W_eChain, W_tVal, W_tBl, W_tAnd, W_tOr, W_tNot, W_tTrue, W_oNone, W_oSome, W_eSl, W_eRev, W_eMethL, W_eCall, W_iSeq, W_iRange1, W_iRange2, W_iEnumS, W_iZipS, W_sFor, W_eComp, W_lcStep, W_gV, W_gUnpackVV, W_newF, W_newT, W_some,
 kBody_rt, kBody_nx, kSeq_nx, kSeq_rt, kSeq_bk, kSeq_ct, kExp_, kRet_, kIf_t, kIf_f, kAsg_V, kPar_, kAug_, kB1_, kB2_, kU_, kN_, kC1_, kC2_, kAnd_T, kAnd_F, kOr_T, kOr_F, kNot_B, kCh1_, kCh2_, kCh3_t, kCh3_f, kTV_B, kTB_B, kTA_t, kTA_f, kTO_t, kTO_f, kTN_, kOS_, kSl1_, kSl2_, kSl3_, kM2_, kK1_, kK2_, kSq_tup, kSq_lst, kSq_str, kEn_tup, kEn_lst, kZp_tup, kZp_lst, kFor_, kTurn_nx, kTurn_ct, kTurn_bk, kTurn_rt, kComp_, kLcT_t, kLcT_f,
 setAll, wipeE, pick, List.getElem?_cons_zero, List.getElem?_cons_succ, List.set_cons_zero, List.set_cons_succ, List.map_cons, List.map_nil, List.replicate_succ, List.replicate_zero, List.cons_append, List.nil_append, List.append_nil, List.length_cons, List.length_nil, List.filterMap_cons, List.filterMap_nil,
 Nat.reduceAdd, Nat.reduceSub, Nat.reduceLeDiff, Nat.reduceEqDiff, and_self, if_true, if_false, opAdd_int, opSub_int, opGt_int, opLt_int, opGe_int, opLe_int, opEq_int, opEq_str, opEq_bl, opNe_int, opNe_bl, opNe_str, bInt_int, bInt_bl, bAbs_int, truD_bl, truD_int, W_fLst, W_fTup, pow18, bLen_tup, bLen_lst, bTuple_lst, bTuple_tup, bList_lst, bList_tup]
    rw [kR1_ (by omega)]
    simp only [W_body, W_sSeq, W_sNx, W_sBk, W_sCt, W_sExpr, W_sRet, W_sRetN, W_sIf, W_sAsg, W_sPar, W_sAug, W_eC, W_eVar, W_eBin, W_eUn, W_eArgs, W_aNil, W_aCons, W_eAnd, W_eOr, W_eNot, W_eIf, W_eChain, W_tVal, W_tBl, W_tAnd, W_tOr, W_tNot, W_tTrue, W_oNone, W_oSome, W_eSl, W_eRev, W_eMethL, W_eCall, W_iSeq, W_iRange1, W_iRange2, W_iEnumS, W_iZipS, W_sFor, W_eComp, W_lcStep, W_gV, W_gUnpackVV, W_newF, W_newT, W_some,
 kBody_rt, kBody_nx, kSeq_nx, kSeq_rt, kSeq_bk, kSeq_ct, kExp_, kRet_, kIf_t, kIf_f, kAsg_V, kPar_, kAug_, kB1_, kB2_, kU_, kN_, kC1_, kC2_, kAnd_T, kAnd_F, kOr_T, kOr_F, kNot_B, kCh1_, kCh2_, kCh3_t, kCh3_f, kTV_B, kTB_B, kTA_t, kTA_f, kTO_t, kTO_f, kTN_, kOS_, kSl1_, kSl2_, kSl3_, kM2_, kK1_, kK2_, kSq_tup, kSq_lst, kSq_str, kEn_tup, kEn_lst, kZp_tup, kZp_lst, kFor_, kTurn_nx, kTurn_ct, kTurn_bk, kTurn_rt, kComp_, kLcT_t, kLcT_f,
 setAll, wipeE, pick, List.getElem?_cons_zero, List.getElem?_cons_succ, List.set_cons_zero, List.set_cons_succ, List.map_cons, List.map_nil, List.replicate_succ, List.replicate_zero, List.cons_append, List.nil_append, List.append_nil, List.length_cons, List.length_nil, List.filterMap_cons, List.filterMap_nil,
 Nat.reduceAdd, Nat.reduceSub, Nat.reduceLeDiff, Nat.reduceEqDiff, and_self, if_true, if_false, opAdd_int, opSub_int, opGt_int, opLt_int, opGe_int, opLe_int, opEq_int, opEq_str, opEq_bl, opNe_int, opNe_bl, opNe_str, bInt_int, bInt_bl, bAbs_int, truD_bl, truD_int, W_fLst, W_fTup, pow18, bLen_tup, bLen_lst, bTuple_lst, bTuple_tup, bList_lst, bList_tup]
    refine W_forK (fun j E S2 => ∃ (x6 : Option D) (d : D), E = [some (.ref i), some (.int size), some film, some (.ref r), some (.int (0 + k)), some d, x6, none, none] ∧ Gd (3 + 2 * j) (gm j) d ∧ S2[r]? = some (.lst C) ∧ Bx S2 i (n + 100 * (12 - (k + 1)) + 25 * (3 - j))) (fun _ => rfl) ?_ ?_ ⟨x6, film, rfl, gf, hC1, a3.bx.mono (by omega)⟩
    · rintro E S2 ⟨x6, d, rfl, gd, hC2, hb2⟩
      rw [rangeD_len] at gd hb2
      have gd' : Gd 10 100 d := by
        have : laps.toNat = 0 ∨ laps.toNat = 1 ∨ laps.toNat = 2 ∨ laps.toNat = 3 := by omega
        rcases this with e | e | e | e <;> rw [e] at gd <;> exact gd.mono (by decide) (by decide)
      simp only [W_body, W_sSeq, W_sNx, W_sBk, W_sCt, W_sExpr, W_sRet, W_sRetN, W_sIf, W_sAsg, W_sPar, W_sAug, W_eC, W_eVar, W_eBin, W_eUn, W_eArgs, W_aNil, W_aCons, W_eAnd, W_eOr, W_eNot, W_eIf, W_eChain, W_tVal, W_tBl, W_tAnd, W_tOr, W_tNot, W_tTrue, W_oNone, W_oSome, W_eSl, W_eRev, W_eMethL, W_eCall, W_iSeq, W_iRange1, W_iRange2, W_iEnumS, W_iZipS, W_sFor, W_eComp, W_lcStep, W_gV, W_gUnpackVV, W_newF, W_newT, W_some,
 kBody_rt, kBody_nx, kSeq_nx, kSeq_rt, kSeq_bk, kSeq_ct, kExp_, kRet_, kIf_t, kIf_f, kAsg_V, kPar_, kAug_, kB1_, kB2_, kU_, kN_, kC1_, kC2_, kAnd_T, kAnd_F, kOr_T, kOr_F, kNot_B, kCh1_, kCh2_, kCh3_t, kCh3_f, kTV_B, kTB_B, kTA_t, kTA_f, kTO_t, kTO_f, kTN_, kOS_, kSl1_, kSl2_, kSl3_, kM2_, kK1_, kK2_, kSq_tup, kSq_lst, kSq_str, kEn_tup, kEn_lst, kZp_tup, kZp_lst, kFor_, kTurn_nx, kTurn_ct, kTurn_bk, kTurn_rt, kComp_, kLcT_t, kLcT_f,
 setAll, wipeE, pick, List.getElem?_cons_zero, List.getElem?_cons_succ, List.set_cons_zero, List.set_cons_succ, List.map_cons, List.map_nil, List.replicate_succ, List.replicate_zero, List.cons_append, List.nil_append, List.append_nil, List.length_cons, List.length_nil, List.filterMap_cons, List.filterMap_nil,
 Nat.reduceAdd, Nat.reduceSub, Nat.reduceLeDiff, Nat.reduceEqDiff, and_self, if_true, if_false, opAdd_int, opSub_int, opGt_int, opLt_int, opGe_int, opLe_int, opEq_int, opEq_str, opEq_bl, opNe_int, opNe_bl, opNe_str, bInt_int, bInt_bl, bAbs_int, truD_bl, truD_int, W_fLst, W_fTup, pow18, bLen_tup, bLen_lst, bTuple_lst, bTuple_tup, bList_lst, bList_tup]
      rw [kM1_ref hC2]
      simp only [W_body, W_sSeq, W_sNx, W_sBk, W_sCt, W_sExpr, W_sRet, W_sRetN, W_sIf, W_sAsg, W_sPar, W_sAug, W_eC, W_eVar, W_eBin, W_eUn, W_eArgs, W_aNil, W_aCons, W_eAnd, W_eOr, W_eNot, W_eIf, W_eChain, W_tVal, W_tBl, W_tAnd, W_tOr, W_tNot, W_tTrue, W_oNone, W_oSome, W_eSl, W_eRev, W_eMethL, W_eCall, W_iSeq, W_iRange1, W_iRange2, W_iEnumS, W_iZipS, W_sFor, W_eComp, W_lcStep, W_gV, W_gUnpackVV, W_newF, W_newT, W_some,
 kBody_rt, kBody_nx, kSeq_nx, kSeq_rt, kSeq_bk, kSeq_ct, kExp_, kRet_, kIf_t, kIf_f, kAsg_V, kPar_, kAug_, kB1_, kB2_, kU_, kN_, kC1_, kC2_, kAnd_T, kAnd_F, kOr_T, kOr_F, kNot_B, kCh1_, kCh2_, kCh3_t, kCh3_f, kTV_B, kTB_B, kTA_t, kTA_f, kTO_t, kTO_f, kTN_, kOS_, kSl1_, kSl2_, kSl3_, kM2_, kK1_, kK2_, kSq_tup, kSq_lst, kSq_str, kEn_tup, kEn_lst, kZp_tup, kZp_lst, kFor_, kTurn_nx, kTurn_ct, kTurn_bk, kTurn_rt, kComp_, kLcT_t, kLcT_f,
 setAll, wipeE, pick, List.getElem?_cons_zero, List.getElem?_cons_succ, List.set_cons_zero, List.set_cons_succ, List.map_cons, List.map_nil, List.replicate_succ, List.replicate_zero, List.cons_append, List.nil_append, List.append_nil, List.length_cons, List.length_nil, List.filterMap_cons, List.filterMap_nil,
 Nat.reduceAdd, Nat.reduceSub, Nat.reduceLeDiff, Nat.reduceEqDiff, and_self, if_true, if_false, opAdd_int, opSub_int, opGt_int, opLt_int, opGe_int, opLe_int, opEq_int, opEq_str, opEq_bl, opNe_int, opNe_bl, opNe_str, bInt_int, bInt_bl, bAbs_int, truD_bl, truD_int, W_fLst, W_fTup, pow18, bLen_tup, bLen_lst, bTuple_lst, bTuple_tup, bList_lst, bList_tup]
      rw [mAppend_run hC2 (by omega)]
      simp only [W_body, W_sSeq, W_sNx, W_sBk, W_sCt, W_sExpr, W_sRet, W_sRetN, W_sIf, W_sAsg, W_sPar, W_sAug, W_eC, W_eVar, W_eBin, W_eUn, W_eArgs, W_aNil, W_aCons, W_eAnd, W_eOr, W_eNot, W_eIf, W_eChain, W_tVal, W_tBl, W_tAnd, W_tOr, W_tNot, W_tTrue, W_oNone, W_oSome, W_eSl, W_eRev, W_eMethL, W_eCall, W_iSeq, W_iRange1, W_iRange2, W_iEnumS, W_iZipS, W_sFor, W_eComp, W_lcStep, W_gV, W_gUnpackVV, W_newF, W_newT, W_some,
 kBody_rt, kBody_nx, kSeq_nx, kSeq_rt, kSeq_bk, kSeq_ct, kExp_, kRet_, kIf_t, kIf_f, kAsg_V, kPar_, kAug_, kB1_, kB2_, kU_, kN_, kC1_, kC2_, kAnd_T, kAnd_F, kOr_T, kOr_F, kNot_B, kCh1_, kCh2_, kCh3_t, kCh3_f, kTV_B, kTB_B, kTA_t, kTA_f, kTO_t, kTO_f, kTN_, kOS_, kSl1_, kSl2_, kSl3_, kM2_, kK1_, kK2_, kSq_tup, kSq_lst, kSq_str, kEn_tup, kEn_lst, kZp_tup, kZp_lst, kFor_, kTurn_nx, kTurn_ct, kTurn_bk, kTurn_rt, kComp_, kLcT_t, kLcT_f,
 setAll, wipeE, pick, List.getElem?_cons_zero, List.getElem?_cons_succ, List.set_cons_zero, List.set_cons_succ, List.map_cons, List.map_nil, List.replicate_succ, List.replicate_zero, List.cons_append, List.nil_append, List.append_nil, List.length_cons, List.length_nil, List.filterMap_cons, List.filterMap_nil,
 Nat.reduceAdd, Nat.reduceSub, Nat.reduceLeDiff, Nat.reduceEqDiff, and_self, if_true, if_false, opAdd_int, opSub_int, opGt_int, opLt_int, opGe_int, opLe_int, opEq_int, opEq_str, opEq_bl, opNe_int, opNe_bl, opNe_str, bInt_int, bInt_bl, bAbs_int, truD_bl, truD_int, W_fLst, W_fTup, pow18, bLen_tup, bLen_lst, bTuple_lst, bTuple_tup, bList_lst, bList_tup]
      refine ⟨_, _, _, C ++ [d], rfl, List.getElem?_set_self (List.getElem?_eq_some_iff.mp hC2).1, fun x hx => ?_, by simp; omega, (hb2.mono (by omega)).set hri⟩
      rcases List.mem_append.mp hx with hx | hx
      · exact gC x hx
      · rw [List.mem_singleton] at hx; subst hx; exact gd'
    · rintro j hj E S2 ⟨x6, d, rfl, gd, hC2, hb2⟩
      rw [rangeD_len] at hj
      have hj3 : j < 3 := by omega
      rw [rangeD_at]
      simp only [W_body, W_sSeq, W_sNx, W_sBk, W_sCt, W_sExpr, W_sRet, W_sRetN, W_sIf, W_sAsg, W_sPar, W_sAug, W_eC, W_eVar, W_eBin, W_eUn, W_eArgs, W_aNil, W_aCons, W_eAnd, W_eOr, W_eNot, W_eIf, W_eChain, W_tVal, W_tBl, W_tAnd, W_tOr, W_tNot, W_tTrue, W_oNone, W_oSome, W_eSl, W_eRev, W_eMethL, W_eCall, W_iSeq, W_iRange1, W_iRange2, W_iEnumS, W_iZipS, W_sFor, W_eComp, W_lcStep, W_gV, W_gUnpackVV, W_newF, W_newT, W_some,
 kBody_rt, kBody_nx, kSeq_nx, kSeq_rt, kSeq_bk, kSeq_ct, kExp_, kRet_, kIf_t, kIf_f, kAsg_V, kPar_, kAug_, kB1_, kB2_, kU_, kN_, kC1_, kC2_, kAnd_T, kAnd_F, kOr_T, kOr_F, kNot_B, kCh1_, kCh2_, kCh3_t, kCh3_f, kTV_B, kTB_B, kTA_t, kTA_f, kTO_t, kTO_f, kTN_, kOS_, kSl1_, kSl2_, kSl3_, kM2_, kK1_, kK2_, kSq_tup, kSq_lst, kSq_str, kEn_tup, kEn_lst, kZp_tup, kZp_lst, kFor_, kTurn_nx, kTurn_ct, kTurn_bk, kTurn_rt, kComp_, kLcT_t, kLcT_f,
 setAll, wipeE, pick, List.getElem?_cons_zero, List.getElem?_cons_succ, List.set_cons_zero, List.set_cons_succ, List.map_cons, List.map_nil, List.replicate_succ, List.replicate_zero, List.cons_append, List.nil_append, List.append_nil, List.length_cons, List.length_nil, List.filterMap_cons, List.filterMap_nil,
 Nat.reduceAdd, Nat.reduceSub, Nat.reduceLeDiff, Nat.reduceEqDiff, and_self, if_true, if_false, opAdd_int, opSub_int, opGt_int, opLt_int, opGe_int, opLe_int, opEq_int, opEq_str, opEq_bl, opNe_int, opNe_bl, opNe_str, bInt_int, bInt_bl, bAbs_int, truD_bl, truD_int, W_fLst, W_fTup, pow18, bLen_tup, bLen_lst, bTuple_lst, bTuple_tup, bList_lst, bList_tup]
      have hg : gm j ≤ 400 := by
        have : j = 0 ∨ j = 1 ∨ j = 2 := by omega
        rcases this with e | e | e <;> rw [e] <;> decide
      refine hodd (3 + 2 * j) d S2 i (n + 100 * (12 - (k + 1)) + 25 * (3 - (j + 1))) (gm j) _ (by omega) gd (gm_1 j) hg (hb2.mono (by omega)) fun r2 S3 gr dr => ?_
      simp only [W_body, W_sSeq, W_sNx, W_sBk, W_sCt, W_sExpr, W_sRet, W_sRetN, W_sIf, W_sAsg, W_sPar, W_sAug, W_eC, W_eVar, W_eBin, W_eUn, W_eArgs, W_aNil, W_aCons, W_eAnd, W_eOr, W_eNot, W_eIf, W_eChain, W_tVal, W_tBl, W_tAnd, W_tOr, W_tNot, W_tTrue, W_oNone, W_oSome, W_eSl, W_eRev, W_eMethL, W_eCall, W_iSeq, W_iRange1, W_iRange2, W_iEnumS, W_iZipS, W_sFor, W_eComp, W_lcStep, W_gV, W_gUnpackVV, W_newF, W_newT, W_some,
 kBody_rt, kBody_nx, kSeq_nx, kSeq_rt, kSeq_bk, kSeq_ct, kExp_, kRet_, kIf_t, kIf_f, kAsg_V, kPar_, kAug_, kB1_, kB2_, kU_, kN_, kC1_, kC2_, kAnd_T, kAnd_F, kOr_T, kOr_F, kNot_B, kCh1_, kCh2_, kCh3_t, kCh3_f, kTV_B, kTB_B, kTA_t, kTA_f, kTO_t, kTO_f, kTN_, kOS_, kSl1_, kSl2_, kSl3_, kM2_, kK1_, kK2_, kSq_tup, kSq_lst, kSq_str, kEn_tup, kEn_lst, kZp_tup, kZp_lst, kFor_, kTurn_nx, kTurn_ct, kTurn_bk, kTurn_rt, kComp_, kLcT_t, kLcT_f,
 setAll, wipeE, pick, List.getElem?_cons_zero, List.getElem?_cons_succ, List.set_cons_zero, List.set_cons_succ, List.map_cons, List.map_nil, List.replicate_succ, List.replicate_zero, List.cons_append, List.nil_append, List.append_nil, List.length_cons, List.length_nil, List.filterMap_cons, List.filterMap_nil,
 Nat.reduceAdd, Nat.reduceSub, Nat.reduceLeDiff, Nat.reduceEqDiff, and_self, if_true, if_false, opAdd_int, opSub_int, opGt_int, opLt_int, opGe_int, opLe_int, opEq_int, opEq_str, opEq_bl, opNe_int, opNe_bl, opNe_str, bInt_int, bInt_bl, bAbs_int, truD_bl, truD_int, W_fLst, W_fTup, pow18, bLen_tup, bLen_lst, bTuple_lst, bTuple_tup, bList_lst, bList_tup]
      exact ⟨_, _, rfl, gr.mono (by omega) (Nat.le_refl _), dr.keep hri hC2, dr.bx⟩
theorem right80 {take of loose odd isfilm isrow isrec arenums iscount isnum same : OpN} (t : TakeS take) (hl : loose = body 9 (looseSem take)) (hf : isfilm = body 4 (isfilmSem isrow)) (hr : isrow = body 3 isrowSem)
    (h3 : isrec = body 4 (isrecSem arenums)) (h2 : arenums = body 5 (arenumsSem iscount)) (h1 : iscount = body 1 (iscountSem isnum)) (h0 : isnum = body 1 isnumSem)
    (hodd : ∀ (p : Nat) (d : D) (S : Sto) (i n m : Nat) (Q : Kn D), p ≤ 20 → Gd p m d → 1 ≤ m → m ≤ 400 → Bx S i (n + (2 * p + 4)) → (∀ r S', Gd (p + 2) (2 * m + 2) r → Dr i n S S' → Q r S') → W (odd [.ref i, d] S) Q)
    (hsa : ∀ d e S, dep e ≤ 20 → kd d = kd e → cl d = true → cl e = true → same [d, e] S = some (.bl true, S)) :
    RightS (body 9 (rightSem80 take loose odd isfilm isrec same)) 3000 := by
  intro S i n hB
  have hi := hB.lt
  have sames : ∀ (a b c d : Bool) (S : Sto), a = c → b = d → callP false same [.lst .frz [.bl a, .bl b], .lst .frz [.bl c, .bl d]] S = some (.bl true, S) := fun a b c d S e1 e2 => by
    subst e1 e2
    exact W_callE (Sc := []) (d := .bl true) rfl (hsa _ _ _ (by simp [dep, deps]) rfl (by simp [cl, cls, LIM]) (by simp [cl, cls, LIM])) rfl
  unfold rightSem80
  simp only [W_body, W_sSeq, W_sNx, W_sBk, W_sCt, W_sExpr, W_sRet, W_sRetN, W_sIf, W_sAsg, W_sPar, W_sAug, W_eC, W_eVar, W_eBin, W_eUn, W_eArgs, W_aNil, W_aCons, W_eAnd, W_eOr, W_eNot, W_eIf, W_eChain, W_tVal, W_tBl, W_tAnd, W_tOr, W_tNot, W_tTrue, W_oNone, W_oSome, W_eSl, W_eRev, W_eMethL, W_eCall, W_iSeq, W_iRange1, W_iRange2, W_iEnumS, W_iZipS, W_sFor, W_eComp, W_lcStep, W_gV, W_gUnpackVV, W_newF, W_newT, W_some,
 kBody_rt, kBody_nx, kSeq_nx, kSeq_rt, kSeq_bk, kSeq_ct, kExp_, kRet_, kIf_t, kIf_f, kAsg_V, kPar_, kAug_, kB1_, kB2_, kU_, kN_, kC1_, kC2_, kAnd_T, kAnd_F, kOr_T, kOr_F, kNot_B, kCh1_, kCh2_, kCh3_t, kCh3_f, kTV_B, kTB_B, kTA_t, kTA_f, kTO_t, kTO_f, kTN_, kOS_, kSl1_, kSl2_, kSl3_, kM2_, kK1_, kK2_, kSq_tup, kSq_lst, kSq_str, kEn_tup, kEn_lst, kZp_tup, kZp_lst, kFor_, kTurn_nx, kTurn_ct, kTurn_bk, kTurn_rt, kComp_, kLcT_t, kLcT_f,
 setAll, wipeE, pick, List.getElem?_cons_zero, List.getElem?_cons_succ, List.set_cons_zero, List.set_cons_succ, List.map_cons, List.map_nil, List.replicate_succ, List.replicate_zero, List.cons_append, List.nil_append, List.append_nil, List.length_cons, List.length_nil, List.filterMap_cons, List.filterMap_nil,
 Nat.reduceAdd, Nat.reduceSub, Nat.reduceLeDiff, Nat.reduceEqDiff, and_self, if_true, if_false, opAdd_int, opSub_int, opGt_int, opLt_int, opGe_int, opLe_int, opEq_int, opEq_str, opEq_bl, opNe_int, opNe_bl, opNe_str, bInt_int, bInt_bl, bAbs_int, truD_bl, truD_int, W_fLst, W_fTup, pow18, bLen_tup, bLen_lst, bTuple_lst, bTuple_tup, bList_lst, bList_tup]
  refine take_run t (n := n + 2900) (hB.mono (by omega)) (by omega) (by omega) fun r S1 a1 a2 a3 _ => ?_
  obtain ⟨size, rfl⟩ := Int.eq_ofNat_of_zero_le a1
  simp only [W_body, W_sSeq, W_sNx, W_sBk, W_sCt, W_sExpr, W_sRet, W_sRetN, W_sIf, W_sAsg, W_sPar, W_sAug, W_eC, W_eVar, W_eBin, W_eUn, W_eArgs, W_aNil, W_aCons, W_eAnd, W_eOr, W_eNot, W_eIf, W_eChain, W_tVal, W_tBl, W_tAnd, W_tOr, W_tNot, W_tTrue, W_oNone, W_oSome, W_eSl, W_eRev, W_eMethL, W_eCall, W_iSeq, W_iRange1, W_iRange2, W_iEnumS, W_iZipS, W_sFor, W_eComp, W_lcStep, W_gV, W_gUnpackVV, W_newF, W_newT, W_some,
 kBody_rt, kBody_nx, kSeq_nx, kSeq_rt, kSeq_bk, kSeq_ct, kExp_, kRet_, kIf_t, kIf_f, kAsg_V, kPar_, kAug_, kB1_, kB2_, kU_, kN_, kC1_, kC2_, kAnd_T, kAnd_F, kOr_T, kOr_F, kNot_B, kCh1_, kCh2_, kCh3_t, kCh3_f, kTV_B, kTB_B, kTA_t, kTA_f, kTO_t, kTO_f, kTN_, kOS_, kSl1_, kSl2_, kSl3_, kM2_, kK1_, kK2_, kSq_tup, kSq_lst, kSq_str, kEn_tup, kEn_lst, kZp_tup, kZp_lst, kFor_, kTurn_nx, kTurn_ct, kTurn_bk, kTurn_rt, kComp_, kLcT_t, kLcT_f,
 setAll, wipeE, pick, List.getElem?_cons_zero, List.getElem?_cons_succ, List.set_cons_zero, List.set_cons_succ, List.map_cons, List.map_nil, List.replicate_succ, List.replicate_zero, List.cons_append, List.nil_append, List.append_nil, List.length_cons, List.length_nil, List.filterMap_cons, List.filterMap_nil,
 Nat.reduceAdd, Nat.reduceSub, Nat.reduceLeDiff, Nat.reduceEqDiff, and_self, if_true, if_false, opAdd_int, opSub_int, opGt_int, opLt_int, opGe_int, opLe_int, opEq_int, opEq_str, opEq_bl, opNe_int, opNe_bl, opNe_str, bInt_int, bInt_bl, bAbs_int, truD_bl, truD_int, W_fLst, W_fTup, pow18, bLen_tup, bLen_lst, bTuple_lst, bTuple_tup, bList_lst, bList_tup, Int.ofNat_eq_natCast]
  refine W.congF hl (loose_run t (n := n + 2800) (by omega) (a3.bx.mono (by omega)) fun film S2 gf b3 => ?_)
  have d2 := a3.trans b3
  simp only [W_body, W_sSeq, W_sNx, W_sBk, W_sCt, W_sExpr, W_sRet, W_sRetN, W_sIf, W_sAsg, W_sPar, W_sAug, W_eC, W_eVar, W_eBin, W_eUn, W_eArgs, W_aNil, W_aCons, W_eAnd, W_eOr, W_eNot, W_eIf, W_eChain, W_tVal, W_tBl, W_tAnd, W_tOr, W_tNot, W_tTrue, W_oNone, W_oSome, W_eSl, W_eRev, W_eMethL, W_eCall, W_iSeq, W_iRange1, W_iRange2, W_iEnumS, W_iZipS, W_sFor, W_eComp, W_lcStep, W_gV, W_gUnpackVV, W_newF, W_newT, W_some,
 kBody_rt, kBody_nx, kSeq_nx, kSeq_rt, kSeq_bk, kSeq_ct, kExp_, kRet_, kIf_t, kIf_f, kAsg_V, kPar_, kAug_, kB1_, kB2_, kU_, kN_, kC1_, kC2_, kAnd_T, kAnd_F, kOr_T, kOr_F, kNot_B, kCh1_, kCh2_, kCh3_t, kCh3_f, kTV_B, kTB_B, kTA_t, kTA_f, kTO_t, kTO_f, kTN_, kOS_, kSl1_, kSl2_, kSl3_, kM2_, kK1_, kK2_, kSq_tup, kSq_lst, kSq_str, kEn_tup, kEn_lst, kZp_tup, kZp_lst, kFor_, kTurn_nx, kTurn_ct, kTurn_bk, kTurn_rt, kComp_, kLcT_t, kLcT_f,
 setAll, wipeE, pick, List.getElem?_cons_zero, List.getElem?_cons_succ, List.set_cons_zero, List.set_cons_succ, List.map_cons, List.map_nil, List.replicate_succ, List.replicate_zero, List.cons_append, List.nil_append, List.append_nil, List.length_cons, List.length_nil, List.filterMap_cons, List.filterMap_nil,
 Nat.reduceAdd, Nat.reduceSub, Nat.reduceLeDiff, Nat.reduceEqDiff, and_self, if_true, if_false, opAdd_int, opSub_int, opGt_int, opLt_int, opGe_int, opLe_int, opEq_int, opEq_str, opEq_bl, opNe_int, opNe_bl, opNe_str, bInt_int, bInt_bl, bAbs_int, truD_bl, truD_int, W_fLst, W_fTup, pow18, bLen_tup, bLen_lst, bTuple_lst, bTuple_tup, bList_lst, bList_tup, opNeg_int]
  have gdc : ∀ {d : D}, cl d = true → so d = true → Nat.ble (dep d) 10 = true → Nat.ble (mx d) 100 = true → Gd 10 100 d := fun a b c d => ⟨a, b, Nat.le_of_ble_eq_true c, Nat.le_of_ble_eq_true d⟩
  rw [opAdd_ref setLen (by simp)]
  simp only [W_body, W_sSeq, W_sNx, W_sBk, W_sCt, W_sExpr, W_sRet, W_sRetN, W_sIf, W_sAsg, W_sPar, W_sAug, W_eC, W_eVar, W_eBin, W_eUn, W_eArgs, W_aNil, W_aCons, W_eAnd, W_eOr, W_eNot, W_eIf, W_eChain, W_tVal, W_tBl, W_tAnd, W_tOr, W_tNot, W_tTrue, W_oNone, W_oSome, W_eSl, W_eRev, W_eMethL, W_eCall, W_iSeq, W_iRange1, W_iRange2, W_iEnumS, W_iZipS, W_sFor, W_eComp, W_lcStep, W_gV, W_gUnpackVV, W_newF, W_newT, W_some,
 kBody_rt, kBody_nx, kSeq_nx, kSeq_rt, kSeq_bk, kSeq_ct, kExp_, kRet_, kIf_t, kIf_f, kAsg_V, kPar_, kAug_, kB1_, kB2_, kU_, kN_, kC1_, kC2_, kAnd_T, kAnd_F, kOr_T, kOr_F, kNot_B, kCh1_, kCh2_, kCh3_t, kCh3_f, kTV_B, kTB_B, kTA_t, kTA_f, kTO_t, kTO_f, kTN_, kOS_, kSl1_, kSl2_, kSl3_, kM2_, kK1_, kK2_, kSq_tup, kSq_lst, kSq_str, kEn_tup, kEn_lst, kZp_tup, kZp_lst, kFor_, kTurn_nx, kTurn_ct, kTurn_bk, kTurn_rt, kComp_, kLcT_t, kLcT_f,
 setAll, wipeE, pick, List.getElem?_cons_zero, List.getElem?_cons_succ, List.set_cons_zero, List.set_cons_succ, List.map_cons, List.map_nil, List.replicate_succ, List.replicate_zero, List.cons_append, List.nil_append, List.append_nil, List.length_cons, List.length_nil, List.filterMap_cons, List.filterMap_nil,
 Nat.reduceAdd, Nat.reduceSub, Nat.reduceLeDiff, Nat.reduceEqDiff, and_self, if_true, if_false, opAdd_int, opSub_int, opGt_int, opLt_int, opGe_int, opLe_int, opEq_int, opEq_str, opEq_bl, opNe_int, opNe_bl, opNe_str, bInt_int, bInt_bl, bAbs_int, truD_bl, truD_int, W_fLst, W_fTup, pow18, bLen_tup, bLen_lst, bTuple_lst, bTuple_tup, bList_lst, bList_tup]
  rw [opAdd_ref setLen (by simp)]
  simp only [W_body, W_sSeq, W_sNx, W_sBk, W_sCt, W_sExpr, W_sRet, W_sRetN, W_sIf, W_sAsg, W_sPar, W_sAug, W_eC, W_eVar, W_eBin, W_eUn, W_eArgs, W_aNil, W_aCons, W_eAnd, W_eOr, W_eNot, W_eIf, W_eChain, W_tVal, W_tBl, W_tAnd, W_tOr, W_tNot, W_tTrue, W_oNone, W_oSome, W_eSl, W_eRev, W_eMethL, W_eCall, W_iSeq, W_iRange1, W_iRange2, W_iEnumS, W_iZipS, W_sFor, W_eComp, W_lcStep, W_gV, W_gUnpackVV, W_newF, W_newT, W_some,
 kBody_rt, kBody_nx, kSeq_nx, kSeq_rt, kSeq_bk, kSeq_ct, kExp_, kRet_, kIf_t, kIf_f, kAsg_V, kPar_, kAug_, kB1_, kB2_, kU_, kN_, kC1_, kC2_, kAnd_T, kAnd_F, kOr_T, kOr_F, kNot_B, kCh1_, kCh2_, kCh3_t, kCh3_f, kTV_B, kTB_B, kTA_t, kTA_f, kTO_t, kTO_f, kTN_, kOS_, kSl1_, kSl2_, kSl3_, kM2_, kK1_, kK2_, kSq_tup, kSq_lst, kSq_str, kEn_tup, kEn_lst, kZp_tup, kZp_lst, kFor_, kTurn_nx, kTurn_ct, kTurn_bk, kTurn_rt, kComp_, kLcT_t, kLcT_f,
 setAll, wipeE, pick, List.getElem?_cons_zero, List.getElem?_cons_succ, List.set_cons_zero, List.set_cons_succ, List.map_cons, List.map_nil, List.replicate_succ, List.replicate_zero, List.cons_append, List.nil_append, List.append_nil, List.length_cons, List.length_nil, List.filterMap_cons, List.filterMap_nil,
 Nat.reduceAdd, Nat.reduceSub, Nat.reduceLeDiff, Nat.reduceEqDiff, and_self, if_true, if_false, opAdd_int, opSub_int, opGt_int, opLt_int, opGe_int, opLe_int, opEq_int, opEq_str, opEq_bl, opNe_int, opNe_bl, opNe_str, bInt_int, bInt_bl, bAbs_int, truD_bl, truD_int, W_fLst, W_fTup, pow18, bLen_tup, bLen_lst, bTuple_lst, bTuple_tup, bList_lst, bList_tup]
  have hlt := d2.bx.lt
  refine rest_run t hf hr h3 h2 h1 h0 hodd sames (by simp; omega) setLen ?_ (by simp) gf (d2.bx.mono (by omega)).app.app.app
  repeat' first
    | exact all_nil
    | refine all_cons (gdc rfl rfl rfl rfl) ?_
    | refine all_cons (gdc (by decide +kernel) (by decide +kernel) rfl rfl) ?_
end AW

namespace Lk80
open PySem PySem.Spec PyProof.Rows L2 AW
def topS (i : Nat) : Stmt := PySem.Challenge.pw_aheadworkers_k80_records_or_none.main.body.getD i (.Pass ⟨0, 0, 0, 0⟩)
def d0 : DefS := ⟨topS 1, ["thing"], ["thing"]⟩  -- is_number
def d1 : DefS := ⟨topS 2, ["thing"], ["thing"]⟩  -- is_count
def d2 : DefS := ⟨topS 5, ["thing", "many", "part", "early", "late"], ["thing", "many"]⟩  -- are_numbers
def d3 : DefS := ⟨topS 6, ["thing", "many", "part", "sighting"], ["thing", "many"]⟩  -- is_record
def d4 : DefS := ⟨topS 8, ["_law_script", "_law_k", "_law_cell"], ["_law_script", "_law_k"]⟩  -- _law_box
def d5 : DefS := ⟨topS 9, ["_law_box_here", "_law_below", "_law_drawn", "_law_once", "_law_far", "_law_twice"], ["_law_box_here", "_law_below"]⟩  -- _law_take
def d6 : DefS := ⟨topS 10, ["_law_script", "_law_most", "_law_cells_here", "_law_k", "_law_cell", "_law_at_so"], ["_law_script", "_law_most"]⟩  -- _law_cells
def d7 : DefS := ⟨topS 11, ["_law_box_here", "_law_some"], ["_law_box_here", "_law_some"]⟩  -- _law_of
def d8 : DefS := ⟨topS 12, ["_law_found", "_law_due", "_law_mine", "_law_its", "_law_own"], ["_law_found", "_law_due"]⟩  -- _law_same
def d9 : DefS := ⟨topS 13, ["_law_box_here", "_law_size", "_law_most", "_law_found", "_law_turn", "_law_thin", "_law_duo", "_law_side", "_law_k"], ["_law_box_here", "_law_size", "_law_most"]⟩  -- _law_loose
def d10 : DefS := ⟨topS 14, ["_law_told", "_law_size", "_law_own"], ["_law_told", "_law_size"]⟩  -- _law_is_row
def d11 : DefS := ⟨topS 15, ["_law_told", "_law_size", "_law_duo", "_law_part"], ["_law_told", "_law_size"]⟩  -- _law_is_film
def d12 : DefS := ⟨topS 16, ["_law_box_here", "_law_matter", "_law_spot", "_law_more"], ["_law_box_here", "_law_matter"]⟩  -- _law_odd
def d13 : DefS := ⟨topS 17, ["_law_box_here", "_law_size", "_law_film_so", "_law_some", "_law_lap", "_law_told", "_law_turn", "_law_due", "_law_great_so"], ["_law_box_here"]⟩  -- _law_right
def d14 : DefS := ⟨topS 18, ["_law_script", "_law_cells_here", "_law_k", "_law_box_here", "_law_turn"], ["_law_script"]⟩  -- law
def T : List DefS := [d0, d1, d2, d3, d4, d5, d6, d7, d8, d9, d10, d11, d12, d13, d14]
def i0 : DefI := ⟨0, ["thing"], false, [(1, [], [], [0])]⟩
def i1 : DefI := ⟨1, ["thing"], false, [(1, [], [], [0])]⟩
def i2 : DefI := ⟨2, ["thing", "many"], false, [(2, [], [], [0, 1])]⟩
def i3 : DefI := ⟨3, ["thing", "many"], false, [(2, [], [], [0, 1]), (0, ["many", "thing"], [], [1, 0])]⟩
def i4 : DefI := ⟨4, ["_law_script", "_law_k"], false, [(2, [], [], [0, 1])]⟩
def i5 : DefI := ⟨5, ["_law_box_here", "_law_below"], true, [(2, [], [], [0, 1])]⟩
def i6 : DefI := ⟨6, ["_law_script", "_law_most"], false, [(2, [], [], [0, 1])]⟩
def i7 : DefI := ⟨7, ["_law_box_here", "_law_some"], true, [(2, [], [], [0, 1])]⟩
def i8 : DefI := ⟨8, ["_law_found", "_law_due"], false, [(2, [], [], [0, 1])]⟩
def i9 : DefI := ⟨9, ["_law_box_here", "_law_size", "_law_most"], true, [(3, [], [], [0, 1, 2])]⟩
def i10 : DefI := ⟨10, ["_law_told", "_law_size"], false, [(2, [], [], [0, 1])]⟩
def i11 : DefI := ⟨11, ["_law_told", "_law_size"], false, [(2, [], [], [0, 1])]⟩
def i12 : DefI := ⟨12, ["_law_box_here", "_law_matter"], true, [(2, [], [], [0, 1])]⟩
def i13 : DefI := ⟨13, ["_law_box_here"], true, [(1, [], [], [0])]⟩
def G : Glob := ⟨["len", "abs", "all", "sorted", "int", "bool", "str", "list", "tuple", "isinstance", "range", "enumerate", "zip", "dict", "set"], [("PAIR", .int (2))], [("is_number", i0), ("is_count", i1), ("are_numbers", i2), ("is_record", i3), ("_law_box", i4), ("_law_take", i5), ("_law_cells", i6), ("_law_of", i7), ("_law_same", i8), ("_law_loose", i9), ("_law_is_row", i10), ("_law_is_film", i11), ("_law_odd", i12), ("_law_right", i13)], [(19, 11), (31, 22), (31, 55), (51, 17), (81, 16), (82, 16), (83, 16), (98, 24)]⟩

theorem den_eq {k i : Nat} {d : DefS} {m : SemS} (hd : T[i]? = some d) (hm : semOf G (den G T k) d = some m) : den G T (k + 1) i = body d.N.length m := by simp only [den, hd, hm]
theorem sem0 (call : Nat → OpN) : semOf G call d0 = some isnumSem := by with_unfolding_all rfl
theorem sem1 (call : Nat → OpN) : semOf G call d1 = some (iscountSem (call 0)) := by with_unfolding_all rfl
theorem sem2 (call : Nat → OpN) : semOf G call d2 = some (arenumsSem (call 1)) := by with_unfolding_all rfl
theorem sem3 (call : Nat → OpN) : semOf G call d3 = some (isrecSem (call 2)) := by with_unfolding_all rfl
theorem sem4 (call : Nat → OpN) : semOf G call d4 = some boxSem := by with_unfolding_all rfl
theorem sem5 (call : Nat → OpN) : semOf G call d5 = some takeSem := by with_unfolding_all rfl
theorem sem6 (call : Nat → OpN) : semOf G call d6 = some cellsSem := by with_unfolding_all rfl
theorem sem7 (call : Nat → OpN) : semOf G call d7 = some (ofSem (call 5)) := by with_unfolding_all rfl
theorem sem8 (call : Nat → OpN) : semOf G call d8 = some (sameSem (call 8)) := by with_unfolding_all rfl
theorem sem9 (call : Nat → OpN) : semOf G call d9 = some (looseSem (call 5)) := by with_unfolding_all rfl
theorem sem10 (call : Nat → OpN) : semOf G call d10 = some isrowSem := by with_unfolding_all rfl
theorem sem11 (call : Nat → OpN) : semOf G call d11 = some (isfilmSem (call 10)) := by with_unfolding_all rfl
theorem sem12 (call : Nat → OpN) : semOf G call d12 = some (oddSem (call 5) (call 7) (call 12)) := by with_unfolding_all rfl
theorem sem13 (call : Nat → OpN) : semOf G call d13 = some (rightSem80 (call 5) (call 9) (call 12) (call 11) (call 3) (call 8)) := by with_unfolding_all rfl
theorem sem14 (call : Nat → OpN) : semOf G call d14 = some (lawSem 3 3 (call 6) (call 4) (call 13)) := by with_unfolding_all rfl
theorem den0 (k : Nat) : den G T (k + 1) 0 = body 1 isnumSem := den_eq (d := d0) rfl (sem0 _)
theorem den5 (k : Nat) : den G T (k + 1) 5 = body 6 takeSem := den_eq (d := d5) rfl (sem5 _)
theorem den7 (k : Nat) : den G T (k + 2) 7 = body 2 (ofSem (body 6 takeSem)) := by rw [show den G T (k + 2) 7 = body 2 (ofSem (den G T (k + 1) 5)) from den_eq (k := k + 1) (d := d7) rfl (sem7 _), den5]
theorem den8 (k : Nat) : den G T (k + 1) 8 = body 5 (sameSem (den G T k 8)) := den_eq (d := d8) rfl (sem8 _)
theorem den10 (k : Nat) : den G T (k + 1) 10 = body 3 isrowSem := den_eq (d := d10) rfl (sem10 _)
theorem den12 (k : Nat) : den G T (k + 3) 12 = body 4 (oddSem (body 6 takeSem) (body 2 (ofSem (body 6 takeSem))) (den G T (k + 2) 12)) := by
  rw [show den G T (k + 3) 12 = body 4 (oddSem (den G T (k + 2) 5) (den G T (k + 2) 7) (den G T (k + 2) 12)) from den_eq (k := k + 2) (d := d12) rfl (sem12 _), den5, den7]
theorem law_true : ∀ ns : List Int, ns.length ≤ 63 → ∃ S', den G T 40 14 [script ns] [] = some (.bl true, S') := by
  intro ns hn
  rw [show den G T 40 14 = body 5 (lawSem 3 3 (den G T 39 6) (den G T 39 4) (den G T 39 13)) from den_eq (k := 39) (d := d14) rfl (sem14 _)]
  refine law_run (most := 3) (turns := 3) (cost := 3000) (den_eq (k := 38) (d := d6) rfl (sem6 _)) (den_eq (k := 38) (d := d4) rfl (sem4 _)) ?_ (by decide) (by decide) (by decide) (by decide) hn
  rw [show den G T 39 13 = body 9 (rightSem80 (den G T 38 5) (den G T 38 9) (den G T 38 12) (den G T 38 11) (den G T 38 3) (den G T 38 8)) from den_eq (k := 38) (d := d13) rfl (sem13 _), den5 37]
  refine right80 (of := body 2 (ofSem (body 6 takeSem))) take_ok ?_ (den_eq (k := 37) (d := d11) rfl (sem11 _)) (den10 36) (den_eq (k := 37) (d := d3) rfl (sem3 _)) (den_eq (k := 36) (d := d2) rfl (sem2 _)) (den_eq (k := 35) (d := d1) rfl (sem1 _)) (den0 34) ?_ ?_
  · rw [show den G T 38 9 = body 9 (looseSem (den G T 37 5)) from den_eq (k := 37) (d := d9) rfl (sem9 _), den5 36]
  · intro p d S i n m Q hp gd h1 hm hb q
    exact odd_run take_ok rfl (f := fun k => den G T (k + 2) 12) den12 p 35 d S i n m Q (by omega) (by omega) gd h1 hm hb q
  · exact fun d e S h1 h2 h3 h4 => same_run (f := fun k => den G T k 8) den8 37 d e S (Nat.le_trans h1 (by decide)) h2 h3 h4

theorem sc0 : FnScope d0.N d0.ps (defScope d0.st) := ⟨rfl, rfl, rfl, by decide +kernel, rfl, by decide +kernel, by decide +kernel⟩
theorem sc1 : FnScope d1.N d1.ps (defScope d1.st) := ⟨rfl, rfl, rfl, by decide +kernel, rfl, by decide +kernel, by decide +kernel⟩
theorem sc2 : FnScope d2.N d2.ps (defScope d2.st) := ⟨rfl, rfl, rfl, by decide +kernel, rfl, by decide +kernel, by decide +kernel⟩
theorem sc3 : FnScope d3.N d3.ps (defScope d3.st) := ⟨rfl, rfl, rfl, by decide +kernel, rfl, by decide +kernel, by decide +kernel⟩
theorem sc4 : FnScope d4.N d4.ps (defScope d4.st) := ⟨rfl, rfl, rfl, by decide +kernel, rfl, by decide +kernel, by decide +kernel⟩
theorem sc5 : FnScope d5.N d5.ps (defScope d5.st) := ⟨rfl, rfl, rfl, by decide +kernel, rfl, by decide +kernel, by decide +kernel⟩
theorem sc6 : FnScope d6.N d6.ps (defScope d6.st) := ⟨rfl, rfl, rfl, by decide +kernel, rfl, by decide +kernel, by decide +kernel⟩
theorem sc7 : FnScope d7.N d7.ps (defScope d7.st) := ⟨rfl, rfl, rfl, by decide +kernel, rfl, by decide +kernel, by decide +kernel⟩
theorem sc8 : FnScope d8.N d8.ps (defScope d8.st) := ⟨rfl, rfl, rfl, by decide +kernel, rfl, by decide +kernel, by decide +kernel⟩
theorem sc9 : FnScope d9.N d9.ps (defScope d9.st) := ⟨rfl, rfl, rfl, by decide +kernel, rfl, by decide +kernel, by decide +kernel⟩
theorem sc10 : FnScope d10.N d10.ps (defScope d10.st) := ⟨rfl, rfl, rfl, by decide +kernel, rfl, by decide +kernel, by decide +kernel⟩
theorem sc11 : FnScope d11.N d11.ps (defScope d11.st) := ⟨rfl, rfl, rfl, by decide +kernel, rfl, by decide +kernel, by decide +kernel⟩
theorem sc12 : FnScope d12.N d12.ps (defScope d12.st) := ⟨rfl, rfl, rfl, by decide +kernel, rfl, by decide +kernel, by decide +kernel⟩
theorem sc13 : FnScope d13.N d13.ps (defScope d13.st) := ⟨rfl, rfl, rfl, by decide +kernel, rfl, by decide +kernel, by decide +kernel⟩
theorem sc14 : FnScope d14.N d14.ps (defScope d14.st) := ⟨rfl, rfl, rfl, by decide +kernel, rfl, by decide +kernel, by decide +kernel⟩
section
variable {K : PySem.W.Frag} {mg : Str → Option Value}
theorem st0 {f : Addr} {fd : FuncData} (F : Fun K "is_number" "is_number" d0.st f fd) (h : mg "is_number" = some (.ref f)) : Stands K mg T "is_number" i0 := by
  obtain ⟨oc, od, kV, doc, pm, an, cdv, ct, osl, rfl, lk, hcd⟩ := id F.ex
  exact ⟨⟨d0, f, _, rfl, h, F, rfl, sc0, List.forall_mem_cons.mpr ⟨Bnd.mk0 fun us ws h1 h2 => match us, ws, h1, h2 with | [_], [], _, _ => by with_unfolding_all rfl, List.forall_mem_nil _⟩⟩⟩
theorem st1 {f : Addr} {fd : FuncData} (F : Fun K "is_count" "is_count" d1.st f fd) (h : mg "is_count" = some (.ref f)) : Stands K mg T "is_count" i1 := by
  obtain ⟨oc, od, kV, doc, pm, an, cdv, ct, osl, rfl, lk, hcd⟩ := id F.ex
  exact ⟨⟨d1, f, _, rfl, h, F, rfl, sc1, List.forall_mem_cons.mpr ⟨Bnd.mk0 fun us ws h1 h2 => match us, ws, h1, h2 with | [_], [], _, _ => by with_unfolding_all rfl, List.forall_mem_nil _⟩⟩⟩
theorem st2 {f : Addr} {fd : FuncData} (F : Fun K "are_numbers" "are_numbers" d2.st f fd) (h : mg "are_numbers" = some (.ref f)) : Stands K mg T "are_numbers" i2 := by
  obtain ⟨oc, od, kV, doc, pm, an, cdv, ct, osl, rfl, lk, hcd⟩ := id F.ex
  exact ⟨⟨d2, f, _, rfl, h, F, rfl, sc2, List.forall_mem_cons.mpr ⟨Bnd.mk0 fun us ws h1 h2 => match us, ws, h1, h2 with | [_, _], [], _, _ => by with_unfolding_all rfl, List.forall_mem_nil _⟩⟩⟩
theorem st3 {f : Addr} {fd : FuncData} (F : Fun K "is_record" "is_record" d3.st f fd) (h : mg "is_record" = some (.ref f)) : Stands K mg T "is_record" i3 := by
  obtain ⟨oc, od, kV, doc, pm, an, cdv, ct, osl, rfl, lk, hcd⟩ := id F.ex
  exact ⟨⟨d3, f, _, rfl, h, F, rfl, sc3, List.forall_mem_cons.mpr ⟨Bnd.mk0 fun us ws h1 h2 => match us, ws, h1, h2 with | [_, _], [], _, _ => by with_unfolding_all rfl, List.forall_mem_cons.mpr ⟨Bnd.mk0 fun us ws h1 h2 => match us, ws, h1, h2 with | [], [_, _], _, _ => by with_unfolding_all rfl, List.forall_mem_nil _⟩⟩⟩⟩
theorem st4 {f : Addr} {fd : FuncData} (F : Fun K "_law_box" "_law_box" d4.st f fd) (h : mg "_law_box" = some (.ref f)) : Stands K mg T "_law_box" i4 := by
  obtain ⟨oc, od, kV, doc, pm, an, cdv, ct, osl, rfl, lk, hcd⟩ := id F.ex
  exact ⟨⟨d4, f, _, rfl, h, F, rfl, sc4, List.forall_mem_cons.mpr ⟨Bnd.mk0 fun us ws h1 h2 => match us, ws, h1, h2 with | [_, _], [], _, _ => by with_unfolding_all rfl, List.forall_mem_nil _⟩⟩⟩
theorem st5 {f : Addr} {fd : FuncData} (F : Fun K "_law_take" "_law_take" d5.st f fd) (h : mg "_law_take" = some (.ref f)) : Stands K mg T "_law_take" i5 := by
  obtain ⟨oc, od, kV, doc, pm, an, cdv, ct, osl, rfl, lk, hcd⟩ := id F.ex
  exact ⟨⟨d5, f, _, rfl, h, F, rfl, sc5, List.forall_mem_cons.mpr ⟨Bnd.mk0 fun us ws h1 h2 => match us, ws, h1, h2 with | [_, _], [], _, _ => by with_unfolding_all rfl, List.forall_mem_nil _⟩⟩⟩
theorem st6 {f : Addr} {fd : FuncData} (F : Fun K "_law_cells" "_law_cells" d6.st f fd) (h : mg "_law_cells" = some (.ref f)) : Stands K mg T "_law_cells" i6 := by
  obtain ⟨oc, od, kV, doc, pm, an, cdv, ct, osl, rfl, lk, hcd⟩ := id F.ex
  exact ⟨⟨d6, f, _, rfl, h, F, rfl, sc6, List.forall_mem_cons.mpr ⟨Bnd.mk0 fun us ws h1 h2 => match us, ws, h1, h2 with | [_, _], [], _, _ => by with_unfolding_all rfl, List.forall_mem_nil _⟩⟩⟩
theorem st7 {f : Addr} {fd : FuncData} (F : Fun K "_law_of" "_law_of" d7.st f fd) (h : mg "_law_of" = some (.ref f)) : Stands K mg T "_law_of" i7 := by
  obtain ⟨oc, od, kV, doc, pm, an, cdv, ct, osl, rfl, lk, hcd⟩ := id F.ex
  exact ⟨⟨d7, f, _, rfl, h, F, rfl, sc7, List.forall_mem_cons.mpr ⟨Bnd.mk0 fun us ws h1 h2 => match us, ws, h1, h2 with | [_, _], [], _, _ => by with_unfolding_all rfl, List.forall_mem_nil _⟩⟩⟩
theorem st8 {f : Addr} {fd : FuncData} (F : Fun K "_law_same" "_law_same" d8.st f fd) (h : mg "_law_same" = some (.ref f)) : Stands K mg T "_law_same" i8 := by
  obtain ⟨oc, od, kV, doc, pm, an, cdv, ct, osl, rfl, lk, hcd⟩ := id F.ex
  exact ⟨⟨d8, f, _, rfl, h, F, rfl, sc8, List.forall_mem_cons.mpr ⟨Bnd.mk0 fun us ws h1 h2 => match us, ws, h1, h2 with | [_, _], [], _, _ => by with_unfolding_all rfl, List.forall_mem_nil _⟩⟩⟩
theorem st9 {f : Addr} {fd : FuncData} (F : Fun K "_law_loose" "_law_loose" d9.st f fd) (h : mg "_law_loose" = some (.ref f)) : Stands K mg T "_law_loose" i9 := by
  obtain ⟨oc, od, kV, doc, pm, an, cdv, ct, osl, rfl, lk, hcd⟩ := id F.ex
  exact ⟨⟨d9, f, _, rfl, h, F, rfl, sc9, List.forall_mem_cons.mpr ⟨Bnd.mk0 fun us ws h1 h2 => match us, ws, h1, h2 with | [_, _, _], [], _, _ => by with_unfolding_all rfl, List.forall_mem_nil _⟩⟩⟩
theorem st10 {f : Addr} {fd : FuncData} (F : Fun K "_law_is_row" "_law_is_row" d10.st f fd) (h : mg "_law_is_row" = some (.ref f)) : Stands K mg T "_law_is_row" i10 := by
  obtain ⟨oc, od, kV, doc, pm, an, cdv, ct, osl, rfl, lk, hcd⟩ := id F.ex
  exact ⟨⟨d10, f, _, rfl, h, F, rfl, sc10, List.forall_mem_cons.mpr ⟨Bnd.mk0 fun us ws h1 h2 => match us, ws, h1, h2 with | [_, _], [], _, _ => by with_unfolding_all rfl, List.forall_mem_nil _⟩⟩⟩
theorem st11 {f : Addr} {fd : FuncData} (F : Fun K "_law_is_film" "_law_is_film" d11.st f fd) (h : mg "_law_is_film" = some (.ref f)) : Stands K mg T "_law_is_film" i11 := by
  obtain ⟨oc, od, kV, doc, pm, an, cdv, ct, osl, rfl, lk, hcd⟩ := id F.ex
  exact ⟨⟨d11, f, _, rfl, h, F, rfl, sc11, List.forall_mem_cons.mpr ⟨Bnd.mk0 fun us ws h1 h2 => match us, ws, h1, h2 with | [_, _], [], _, _ => by with_unfolding_all rfl, List.forall_mem_nil _⟩⟩⟩
theorem st12 {f : Addr} {fd : FuncData} (F : Fun K "_law_odd" "_law_odd" d12.st f fd) (h : mg "_law_odd" = some (.ref f)) : Stands K mg T "_law_odd" i12 := by
  obtain ⟨oc, od, kV, doc, pm, an, cdv, ct, osl, rfl, lk, hcd⟩ := id F.ex
  exact ⟨⟨d12, f, _, rfl, h, F, rfl, sc12, List.forall_mem_cons.mpr ⟨Bnd.mk0 fun us ws h1 h2 => match us, ws, h1, h2 with | [_, _], [], _, _ => by with_unfolding_all rfl, List.forall_mem_nil _⟩⟩⟩
theorem st13 {f : Addr} {fd : FuncData} (F : Fun K "_law_right" "_law_right" d13.st f fd) (h : mg "_law_right" = some (.ref f)) : Stands K mg T "_law_right" i13 := by
  obtain ⟨oc, od, kV, doc, pm, an, cdv, ct, osl, rfl, lk, hcd⟩ := id F.ex
  exact ⟨⟨d13, f, _, rfl, h, F, rfl, sc13, List.forall_mem_cons.mpr ⟨Bnd.mk0 fun us ws h1 h2 => match us, ws, h1, h2 with | [_], [], _, _ => by with_unfolding_all rfl, List.forall_mem_nil _⟩⟩⟩
end
theorem all_mk {l : PySem.W.OpenLaw} {w : World} {K : PySem.W.Frag} {h : Heap} {mg : Str → Option Value} {fa : Addr} (X : K.In h) (G0 : h.Ns mainGlobals mg) (hfa : mg "law" = some (.ref fa))
    {f0 : Addr} {od0 an0 : Option Addr} {sl0 : Array (Option Value)} {oc0 kV0 dc0 pm0 cd0 ct0 : Value}
    (a0 : PySem.W.nsIn K mainGlobals "is_number" = some (some (.ref f0))) (l0 : K.lookup f0 = some ⟨oc0, od0, .func (PySem.W.fnOf "is_number" "is_number" (defArgs d0.st) (defBody d0.st) (defScope d0.st) .none kV0 dc0 pm0 an0 cd0 ct0), sl0⟩) (c0 : PySem.W.codeIn K cd0 "is_number" = true) (k0 : PySem.W.keepIn K (.ref f0) = true)
    {f1 : Addr} {od1 an1 : Option Addr} {sl1 : Array (Option Value)} {oc1 kV1 dc1 pm1 cd1 ct1 : Value}
    (a1 : PySem.W.nsIn K mainGlobals "is_count" = some (some (.ref f1))) (l1 : K.lookup f1 = some ⟨oc1, od1, .func (PySem.W.fnOf "is_count" "is_count" (defArgs d1.st) (defBody d1.st) (defScope d1.st) .none kV1 dc1 pm1 an1 cd1 ct1), sl1⟩) (c1 : PySem.W.codeIn K cd1 "is_count" = true) (k1 : PySem.W.keepIn K (.ref f1) = true)
    {f2 : Addr} {od2 an2 : Option Addr} {sl2 : Array (Option Value)} {oc2 kV2 dc2 pm2 cd2 ct2 : Value}
    (a2 : PySem.W.nsIn K mainGlobals "are_numbers" = some (some (.ref f2))) (l2 : K.lookup f2 = some ⟨oc2, od2, .func (PySem.W.fnOf "are_numbers" "are_numbers" (defArgs d2.st) (defBody d2.st) (defScope d2.st) .none kV2 dc2 pm2 an2 cd2 ct2), sl2⟩) (c2 : PySem.W.codeIn K cd2 "are_numbers" = true) (k2 : PySem.W.keepIn K (.ref f2) = true)
    {f3 : Addr} {od3 an3 : Option Addr} {sl3 : Array (Option Value)} {oc3 kV3 dc3 pm3 cd3 ct3 : Value}
    (a3 : PySem.W.nsIn K mainGlobals "is_record" = some (some (.ref f3))) (l3 : K.lookup f3 = some ⟨oc3, od3, .func (PySem.W.fnOf "is_record" "is_record" (defArgs d3.st) (defBody d3.st) (defScope d3.st) .none kV3 dc3 pm3 an3 cd3 ct3), sl3⟩) (c3 : PySem.W.codeIn K cd3 "is_record" = true) (k3 : PySem.W.keepIn K (.ref f3) = true)
    {f4 : Addr} {od4 an4 : Option Addr} {sl4 : Array (Option Value)} {oc4 kV4 dc4 pm4 cd4 ct4 : Value}
    (a4 : PySem.W.nsIn K mainGlobals "_law_box" = some (some (.ref f4))) (l4 : K.lookup f4 = some ⟨oc4, od4, .func (PySem.W.fnOf "_law_box" "_law_box" (defArgs d4.st) (defBody d4.st) (defScope d4.st) .none kV4 dc4 pm4 an4 cd4 ct4), sl4⟩) (c4 : PySem.W.codeIn K cd4 "_law_box" = true) (k4 : PySem.W.keepIn K (.ref f4) = true)
    {f5 : Addr} {od5 an5 : Option Addr} {sl5 : Array (Option Value)} {oc5 kV5 dc5 pm5 cd5 ct5 : Value}
    (a5 : PySem.W.nsIn K mainGlobals "_law_take" = some (some (.ref f5))) (l5 : K.lookup f5 = some ⟨oc5, od5, .func (PySem.W.fnOf "_law_take" "_law_take" (defArgs d5.st) (defBody d5.st) (defScope d5.st) .none kV5 dc5 pm5 an5 cd5 ct5), sl5⟩) (c5 : PySem.W.codeIn K cd5 "_law_take" = true) (k5 : PySem.W.keepIn K (.ref f5) = true)
    {f6 : Addr} {od6 an6 : Option Addr} {sl6 : Array (Option Value)} {oc6 kV6 dc6 pm6 cd6 ct6 : Value}
    (a6 : PySem.W.nsIn K mainGlobals "_law_cells" = some (some (.ref f6))) (l6 : K.lookup f6 = some ⟨oc6, od6, .func (PySem.W.fnOf "_law_cells" "_law_cells" (defArgs d6.st) (defBody d6.st) (defScope d6.st) .none kV6 dc6 pm6 an6 cd6 ct6), sl6⟩) (c6 : PySem.W.codeIn K cd6 "_law_cells" = true) (k6 : PySem.W.keepIn K (.ref f6) = true)
    {f7 : Addr} {od7 an7 : Option Addr} {sl7 : Array (Option Value)} {oc7 kV7 dc7 pm7 cd7 ct7 : Value}
    (a7 : PySem.W.nsIn K mainGlobals "_law_of" = some (some (.ref f7))) (l7 : K.lookup f7 = some ⟨oc7, od7, .func (PySem.W.fnOf "_law_of" "_law_of" (defArgs d7.st) (defBody d7.st) (defScope d7.st) .none kV7 dc7 pm7 an7 cd7 ct7), sl7⟩) (c7 : PySem.W.codeIn K cd7 "_law_of" = true) (k7 : PySem.W.keepIn K (.ref f7) = true)
    {f8 : Addr} {od8 an8 : Option Addr} {sl8 : Array (Option Value)} {oc8 kV8 dc8 pm8 cd8 ct8 : Value}
    (a8 : PySem.W.nsIn K mainGlobals "_law_same" = some (some (.ref f8))) (l8 : K.lookup f8 = some ⟨oc8, od8, .func (PySem.W.fnOf "_law_same" "_law_same" (defArgs d8.st) (defBody d8.st) (defScope d8.st) .none kV8 dc8 pm8 an8 cd8 ct8), sl8⟩) (c8 : PySem.W.codeIn K cd8 "_law_same" = true) (k8 : PySem.W.keepIn K (.ref f8) = true)
    {f9 : Addr} {od9 an9 : Option Addr} {sl9 : Array (Option Value)} {oc9 kV9 dc9 pm9 cd9 ct9 : Value}
    (a9 : PySem.W.nsIn K mainGlobals "_law_loose" = some (some (.ref f9))) (l9 : K.lookup f9 = some ⟨oc9, od9, .func (PySem.W.fnOf "_law_loose" "_law_loose" (defArgs d9.st) (defBody d9.st) (defScope d9.st) .none kV9 dc9 pm9 an9 cd9 ct9), sl9⟩) (c9 : PySem.W.codeIn K cd9 "_law_loose" = true) (k9 : PySem.W.keepIn K (.ref f9) = true)
    {f10 : Addr} {od10 an10 : Option Addr} {sl10 : Array (Option Value)} {oc10 kV10 dc10 pm10 cd10 ct10 : Value}
    (a10 : PySem.W.nsIn K mainGlobals "_law_is_row" = some (some (.ref f10))) (l10 : K.lookup f10 = some ⟨oc10, od10, .func (PySem.W.fnOf "_law_is_row" "_law_is_row" (defArgs d10.st) (defBody d10.st) (defScope d10.st) .none kV10 dc10 pm10 an10 cd10 ct10), sl10⟩) (c10 : PySem.W.codeIn K cd10 "_law_is_row" = true) (k10 : PySem.W.keepIn K (.ref f10) = true)
    {f11 : Addr} {od11 an11 : Option Addr} {sl11 : Array (Option Value)} {oc11 kV11 dc11 pm11 cd11 ct11 : Value}
    (a11 : PySem.W.nsIn K mainGlobals "_law_is_film" = some (some (.ref f11))) (l11 : K.lookup f11 = some ⟨oc11, od11, .func (PySem.W.fnOf "_law_is_film" "_law_is_film" (defArgs d11.st) (defBody d11.st) (defScope d11.st) .none kV11 dc11 pm11 an11 cd11 ct11), sl11⟩) (c11 : PySem.W.codeIn K cd11 "_law_is_film" = true) (k11 : PySem.W.keepIn K (.ref f11) = true)
    {f12 : Addr} {od12 an12 : Option Addr} {sl12 : Array (Option Value)} {oc12 kV12 dc12 pm12 cd12 ct12 : Value}
    (a12 : PySem.W.nsIn K mainGlobals "_law_odd" = some (some (.ref f12))) (l12 : K.lookup f12 = some ⟨oc12, od12, .func (PySem.W.fnOf "_law_odd" "_law_odd" (defArgs d12.st) (defBody d12.st) (defScope d12.st) .none kV12 dc12 pm12 an12 cd12 ct12), sl12⟩) (c12 : PySem.W.codeIn K cd12 "_law_odd" = true) (k12 : PySem.W.keepIn K (.ref f12) = true)
    {f13 : Addr} {od13 an13 : Option Addr} {sl13 : Array (Option Value)} {oc13 kV13 dc13 pm13 cd13 ct13 : Value}
    (a13 : PySem.W.nsIn K mainGlobals "_law_right" = some (some (.ref f13))) (l13 : K.lookup f13 = some ⟨oc13, od13, .func (PySem.W.fnOf "_law_right" "_law_right" (defArgs d13.st) (defBody d13.st) (defScope d13.st) .none kV13 dc13 pm13 an13 cd13 ct13), sl13⟩) (c13 : PySem.W.codeIn K cd13 "_law_right" = true) (k13 : PySem.W.keepIn K (.ref f13) = true)
    {f14 : Addr} {od14 an14 : Option Addr} {sl14 : Array (Option Value)} {oc14 kV14 dc14 pm14 cd14 ct14 : Value}
    (a14 : PySem.W.nsIn K mainGlobals "law" = some (some (.ref f14))) (l14 : K.lookup f14 = some ⟨oc14, od14, .func (PySem.W.fnOf "law" "law" (defArgs d14.st) (defBody d14.st) (defScope d14.st) .none kV14 dc14 pm14 an14 cd14 ct14), sl14⟩) (c14 : PySem.W.codeIn K cd14 "law" = true) (k14 : PySem.W.keepIn K (.ref f14) = true)
    (z0 : PySem.W.nsIn K mainGlobals "len" = some none)
    (z1 : PySem.W.nsIn K mainGlobals "abs" = some none)
    (z2 : PySem.W.nsIn K mainGlobals "all" = some none)
    (z3 : PySem.W.nsIn K mainGlobals "sorted" = some none)
    (z4 : PySem.W.nsIn K mainGlobals "int" = some none)
    (z5 : PySem.W.nsIn K mainGlobals "bool" = some none)
    (z6 : PySem.W.nsIn K mainGlobals "str" = some none)
    (z7 : PySem.W.nsIn K mainGlobals "list" = some none)
    (z8 : PySem.W.nsIn K mainGlobals "tuple" = some none)
    (z9 : PySem.W.nsIn K mainGlobals "isinstance" = some none)
    (z10 : PySem.W.nsIn K mainGlobals "range" = some none)
    (z11 : PySem.W.nsIn K mainGlobals "enumerate" = some none)
    (z12 : PySem.W.nsIn K mainGlobals "zip" = some none)
    (z13 : PySem.W.nsIn K mainGlobals "dict" = some none)
    (z14 : PySem.W.nsIn K mainGlobals "set" = some none)
    {t0 : Tok}
    (v0 : PySem.W.nsIn K mainGlobals "PAIR" = some (some (.int (2) t0)))
    : ∃ fd : FuncData, (∀ (s : Shared) (v : Value), BindsTo s fd ⟨[v], []⟩ [("_law_script", v)]) ∧ ∀ base : Heap, K.In base → base.Ns mainGlobals mg → FnOk l.prog w K mg base CX0 40 fa fd ["_law_script"] (spF K 1 (den G T 40 14)) := by
  have e := hfa.symm.trans (PySem.W.mg_of X G0 a14)
  cases e
  have F0 := fun_mk (st := d0.st) l0 c0 k0
  have F1 := fun_mk (st := d1.st) l1 c1 k1
  have F2 := fun_mk (st := d2.st) l2 c2 k2
  have F3 := fun_mk (st := d3.st) l3 c3 k3
  have F4 := fun_mk (st := d4.st) l4 c4 k4
  have F5 := fun_mk (st := d5.st) l5 c5 k5
  have F6 := fun_mk (st := d6.st) l6 c6 k6
  have F7 := fun_mk (st := d7.st) l7 c7 k7
  have F8 := fun_mk (st := d8.st) l8 c8 k8
  have F9 := fun_mk (st := d9.st) l9 c9 k9
  have F10 := fun_mk (st := d10.st) l10 c10 k10
  have F11 := fun_mk (st := d11.st) l11 c11 k11
  have F12 := fun_mk (st := d12.st) l12 c12 k12
  have F13 := fun_mk (st := d13.st) l13 c13 k13
  have F14 := fun_mk (st := d14.st) l14 c14 k14
  have t : Top K mg G T := ⟨List.forall_mem_cons.mpr ⟨PySem.W.mg_none_of X G0 z0, List.forall_mem_cons.mpr ⟨PySem.W.mg_none_of X G0 z1, List.forall_mem_cons.mpr ⟨PySem.W.mg_none_of X G0 z2, List.forall_mem_cons.mpr ⟨PySem.W.mg_none_of X G0 z3, List.forall_mem_cons.mpr ⟨PySem.W.mg_none_of X G0 z4, List.forall_mem_cons.mpr ⟨PySem.W.mg_none_of X G0 z5, List.forall_mem_cons.mpr ⟨PySem.W.mg_none_of X G0 z6, List.forall_mem_cons.mpr ⟨PySem.W.mg_none_of X G0 z7, List.forall_mem_cons.mpr ⟨PySem.W.mg_none_of X G0 z8, List.forall_mem_cons.mpr ⟨PySem.W.mg_none_of X G0 z9, List.forall_mem_cons.mpr ⟨PySem.W.mg_none_of X G0 z10, List.forall_mem_cons.mpr ⟨PySem.W.mg_none_of X G0 z11, List.forall_mem_cons.mpr ⟨PySem.W.mg_none_of X G0 z12, List.forall_mem_cons.mpr ⟨PySem.W.mg_none_of X G0 z13, List.forall_mem_cons.mpr ⟨PySem.W.mg_none_of X G0 z14, List.forall_mem_nil _⟩⟩⟩⟩⟩⟩⟩⟩⟩⟩⟩⟩⟩⟩⟩,
    List.forall_mem_cons.mpr ⟨⟨.int (2), _, PySem.W.mg_of X G0 v0, ⟨_, rfl⟩, fun _ => rp_int⟩, List.forall_mem_nil _⟩,
    List.forall_mem_cons.mpr ⟨st0 F0 (PySem.W.mg_of X G0 a0), List.forall_mem_cons.mpr ⟨st1 F1 (PySem.W.mg_of X G0 a1), List.forall_mem_cons.mpr ⟨st2 F2 (PySem.W.mg_of X G0 a2), List.forall_mem_cons.mpr ⟨st3 F3 (PySem.W.mg_of X G0 a3), List.forall_mem_cons.mpr ⟨st4 F4 (PySem.W.mg_of X G0 a4), List.forall_mem_cons.mpr ⟨st5 F5 (PySem.W.mg_of X G0 a5), List.forall_mem_cons.mpr ⟨st6 F6 (PySem.W.mg_of X G0 a6), List.forall_mem_cons.mpr ⟨st7 F7 (PySem.W.mg_of X G0 a7), List.forall_mem_cons.mpr ⟨st8 F8 (PySem.W.mg_of X G0 a8), List.forall_mem_cons.mpr ⟨st9 F9 (PySem.W.mg_of X G0 a9), List.forall_mem_cons.mpr ⟨st10 F10 (PySem.W.mg_of X G0 a10), List.forall_mem_cons.mpr ⟨st11 F11 (PySem.W.mg_of X G0 a11), List.forall_mem_cons.mpr ⟨st12 F12 (PySem.W.mg_of X G0 a12), List.forall_mem_cons.mpr ⟨st13 F13 (PySem.W.mg_of X G0 a13), List.forall_mem_nil _⟩⟩⟩⟩⟩⟩⟩⟩⟩⟩⟩⟩⟩⟩⟩
  exact ⟨_, fun s v => .of_eq rfl, fun base _ _ => fn_den (gok t 39) (d := d14) rfl F14 sc14⟩
end Lk80

open PySem PySem.W PyProof.Rows
set_option maxHeartbeats 0 in
theorem PySem.Challenge.cw_aheadworkers_k80_records_or_none_holds : PySem.Challenge.rw_aheadworkers_k80_records_or_none.Holds := by
  w_on; o_law; k_head; (case hw => w_witness2)
  k_fill
  refine L2.walk_of (l := PySem.Challenge.rw_aheadworkers_k80_records_or_none) (n := 63) (k := 40) (x := "_law_script") (CX := fun _ => L2.CX0) (sp := fun w => AW.spF _ 1 (AW.den Lk80.G Lk80.T 40 14)) rfl (by decide) rfl ⟨rfl, by decide, by decide⟩ (fun w h Y => PySem.W.kIn_of Y) ?F (fun _ _ a ns hl _ hS => AW.law_sp (n := 63) Lk80.law_true _ a ns hl hS) (fun _ _ _ _ _ h => h)
  case F =>
    intro w mg fa h KX G hmg
    refine' Lk80.all_mk KX G hmg ?a0 ?l0 ?c0 ?k0 ?a1 ?l1 ?c1 ?k1 ?a2 ?l2 ?c2 ?k2 ?a3 ?l3 ?c3 ?k3 ?a4 ?l4 ?c4 ?k4 ?a5 ?l5 ?c5 ?k5 ?a6 ?l6 ?c6 ?k6 ?a7 ?l7 ?c7 ?k7 ?a8 ?l8 ?c8 ?k8 ?a9 ?l9 ?c9 ?k9 ?a10 ?l10 ?c10 ?k10 ?a11 ?l11 ?c11 ?k11 ?a12 ?l12 ?c12 ?k12 ?a13 ?l13 ?c13 ?k13 ?a14 ?l14 ?c14 ?k14 ?z0 ?z1 ?z2 ?z3 ?z4 ?z5 ?z6 ?z7 ?z8 ?z9 ?z10 ?z11 ?z12 ?z13 ?z14 ?v0
    (case a0 => k_is)
    (case l0 => k_is)
    (case c0 => k_is)
    (case k0 => k_is)
    (case a1 => k_is)
    (case l1 => k_is)
    (case c1 => k_is)
    (case k1 => k_is)
    (case a2 => k_is)
    (case l2 => k_is)
    (case c2 => k_is)
    (case k2 => k_is)
    (case a3 => k_is)
    (case l3 => k_is)
    (case c3 => k_is)
    (case k3 => k_is)
    (case a4 => k_is)
    (case l4 => k_is)
    (case c4 => k_is)
    (case k4 => k_is)
    (case a5 => k_is)
    (case l5 => k_is)
    (case c5 => k_is)
    (case k5 => k_is)
    (case a6 => k_is)
    (case l6 => k_is)
    (case c6 => k_is)
    (case k6 => k_is)
    (case a7 => k_is)
    (case l7 => k_is)
    (case c7 => k_is)
    (case k7 => k_is)
    (case a8 => k_is)
    (case l8 => k_is)
    (case c8 => k_is)
    (case k8 => k_is)
    (case a9 => k_is)
    (case l9 => k_is)
    (case c9 => k_is)
    (case k9 => k_is)
    (case a10 => k_is)
    (case l10 => k_is)
    (case c10 => k_is)
    (case k10 => k_is)
    (case a11 => k_is)
    (case l11 => k_is)
    (case c11 => k_is)
    (case k11 => k_is)
    (case a12 => k_is)
    (case l12 => k_is)
    (case c12 => k_is)
    (case k12 => k_is)
    (case a13 => k_is)
    (case l13 => k_is)
    (case c13 => k_is)
    (case k13 => k_is)
    (case a14 => k_is)
    (case l14 => k_is)
    (case c14 => k_is)
    (case k14 => k_is)
    (case z0 => k_is)
    (case z1 => k_is)
    (case z2 => k_is)
    (case z3 => k_is)
    (case z4 => k_is)
    (case z5 => k_is)
    (case z6 => k_is)
    (case z7 => k_is)
    (case z8 => k_is)
    (case z9 => k_is)
    (case z10 => k_is)
    (case z11 => k_is)
    (case z12 => k_is)
    (case z13 => k_is)
    (case z14 => k_is)
    (case v0 => k_is)
