import PyProof.Rows.All
import Wide.All
import OpenK.AllK
import Wide.FinOn
import HandS.ForMost
import HandS.Lambda
import HandS.EndTab
import HandS.ForExc
import HandS.Wide
import HandS.Property
import HandS.Star
import HandS.IsInst
import HandS.SortInts
import HandS.Flow
import HandS.More
import HandS.Conv
import HandS.Dict
import HandS.ExcOwn
import HandS.Words
import HandS.EndBits
import HandS.Style
import HandS.ExcInit
import HandS.ExcField
import HandS.ExcIs
import KE.KIsAll
import KE.KTryMore
import HandS.FStr
import HandS.SetFor
import HandS.Strs
import PyProof.Rows.TupDisplay
import HandS.CallSlots
import HandS.Deep
import HandS.TupLe
import KE.KOpsOwn
import HandS.Iter
import HandS.DictComp
import HandS.Nested
import HandS.SortRule
import HandS.TupSets
import KE.KEqDict
import PyProof.DictFindH
import HandS.TupLen
import KE.KDictCopyH
import HandS.TryOnly
import KE.KDictOf
import HandS.SortKw
import HandS.SortOrd
import KE.KSortTupAny
import HandS.Finally
import HandS.ExcValue
import HandS.FStrTup
import PySem.Challenge.RW_claimclasses_k14_errors_with_their_parts
set_option Elab.async false
set_option linter.all false
set_option maxRecDepth 100000
set_option autoImplicit false
section
namespace Lin
open PySem L2

/-! ### data with ownership marks, and the same with addresses -/
inductive Kd where
  | frz | own | bor (r : Nat) | par
  deriving DecidableEq
inductive Sh where
  | lst | tup | dic (ks : List Key) | dtu (ks : List (List Key)) | obj (c : Nat) (ns : List Str) | xd (ns : List Str) | scr
  deriving DecidableEq
inductive D where
  | im (v : V)
  | nd (k : Kd) (s : Sh) (ds : List D)
inductive T where
  | im (v : V)
  | nd (a : Addr) (k : Kd) (s : Sh) (dx : Addr) (ts : List T)
structure Gh where
  H0 : Hp
  W : Addr → Prop
  F : Addr → Prop
  L : Addr → Option (Obj × HO) := fun _ => none
/-- a dict -/
def IsD : HO → Prop
  | .dK _ => True
  | .dT _ => True
  | _ => False
/-- neither a table of code objects nor a code object, nor a dict that is locked -/
def Sane (o : HO) : Prop := (∀ ps, o ≠ .tbl ps) ∧ (∀ c q, o ≠ LamX.CodeO c q) ∧ ∀ b u, o = .frz b u → ¬ IsD u
structure Gc where
  cl : Nat → Addr
  scr : HO
  ph : Gh → Prop
  T : List (Addr × Str)
  sane : Sane scr
def ho (g : Gc) (s : Sh) (dx : Addr) (vs : List V) : HO := match s with
  | .lst => .lst vs
  | .tup => .tup vs
  | .dic ks => .dK (ks.zip vs)
  | .dtu ks => .dT (ks.zip vs)
  | .obj c ns => .ins (g.cl c) dx (ns.zip vs)
  | .xd ns => .xd (ns.zip vs)
  | .scr => g.scr
theorem ho_sane (g : Gc) (s : Sh) (dx : Addr) (vs : List V) : Sane (ho g s dx vs) := by
  cases s with
  | scr => exact g.sane
  | _ => exact ⟨(fun ps z => nomatch z), (fun c q z => by unfold LamX.CodeO ho at z; cases z), fun b u z => nomatch z⟩
/-- new, or a table -/
def Nw (H : Hp) (a : Addr) : Prop := H a = none ∨ ∃ ps, H a = some (.tbl ps)
theorem Nw.ne {H : Hp} {a : Addr} {o : HO} (h : Nw H a) (e : H a = some o) (hs : Sane o) : False := by
  rcases h with h | ⟨ps, h⟩
  · rw [h] at e; cases e
  · rw [h] at e; cases e; exact hs.1 ps rfl
theorem tabs_but {T : List (Addr × Str)} {H H' : Hp} {a : Addr} {o : HO} (t : LamX.Tabs T H) (e : H a = some o) (hs : Sane o) (hH : ∀ b o, b ≠ a → H b = some o → H' b = some o) : LamX.Tabs T H' := fun p hp => by
  obtain ⟨ps, h1, h2, h3⟩ := t p hp
  have n1 : p.1 ≠ a := fun z => by rw [z, e] at h1; cases h1; exact hs.1 ps rfl
  refine ⟨ps, hH _ _ n1 h1, h2, fun pos cv hc => ?_⟩
  obtain ⟨c, e1, e2⟩ := h3 pos cv hc
  have n2 : c ≠ a := fun z => by
    have e3 := e2
    rw [z, e] at e3
    exact hs.2.1 _ _ (Option.some.inj e3)
  exact ⟨c, e1, hH _ _ n2 e2⟩
theorem tabs_ext {T : List (Addr × Str)} {H H' : Hp} (t : LamX.Tabs T H) (h : ∀ a o, H a = some o → H' a = some o) : LamX.Tabs T H' := t.ext h
def T.root : T → V
  | .im v => v
  | .nd a _ _ _ _ => .ref a
abbrev Cell := Kd × Addr × HO
/-- a tuple is never owned -/
def kz (s : Sh) (k : Kd) : Kd := match s with
  | .tup => .frz
  | .scr => .frz
  | _ => k
def HTup : HO → Prop
  | .tup _ => True
  | _ => False
theorem kz_f {f : Kd → Kd} (hf : f .frz = .frz) (s : Sh) (k : Kd) : kz s (f k) = f (kz s k) := by cases s <;> simp [kz, hf]
theorem kz_own {s : Sh} {k : Kd} (h : kz s k = .own) : k = .own ∧ s ≠ .tup ∧ s ≠ .scr := by cases s <;> simp_all [kz]
mutual
def T.cells (g : Gc) : T → List Cell
  | .im _ => []
  | .nd a k s dx ts => (kz s k, a, ho g s dx (ts.map T.root)) :: cellsL g ts
def cellsL (g : Gc) : List T → List Cell
  | [] => []
  | t :: r => t.cells g ++ cellsL g r
end
mutual
theorem cells_sane (g : Gc) : ∀ (t : T) (c : Cell), c ∈ t.cells g → Sane c.2.2
  | .im _, c, h => by simp [T.cells] at h
  | .nd a k s dx ts, c, h => by
    rw [T.cells] at h
    rcases List.mem_cons.mp h with rfl | h
    · exact ho_sane g s dx _
    · exact cellsL_sane g ts c h
theorem cellsL_sane (g : Gc) : ∀ (ts : List T) (c : Cell), c ∈ cellsL g ts → Sane c.2.2
  | [], c, h => by simp [cellsL] at h
  | t :: r, c, h => by
    rw [cellsL] at h
    rcases List.mem_append.mp h with h | h
    · exact cells_sane g t c h
    · exact cellsL_sane g r c h
end
mutual
def T.er : T → D
  | .im v => .im v
  | .nd _ k s _ ts => .nd k s (erL ts)
def erL : List T → List D
  | [] => []
  | t :: r => t.er :: erL r
end
mutual
def T.mk (f : Kd → Kd) : T → T
  | .im v => .im v
  | .nd a k s dx ts => .nd a (f k) s dx (mkL f ts)
def mkL (f : Kd → Kd) : List T → List T
  | [] => []
  | t :: r => t.mk f :: mkL f r
end
mutual
def D.mk (f : Kd → Kd) : D → D
  | .im v => .im v
  | .nd k s ds => .nd (f k) s (mkDL f ds)
def mkDL (f : Kd → Kd) : List D → List D
  | [] => []
  | t :: r => t.mk f :: mkDL f r
end
mutual
def D.kinds : D → List Kd
  | .im _ => []
  | .nd k _ ds => k :: kindsL ds
def kindsL : List D → List Kd
  | [] => []
  | t :: r => t.kinds ++ kindsL r
end
mutual
def D.kins : D → List Kd
  | .im _ => []
  | .nd k s ds => kz s k :: kinsL ds
def kinsL : List D → List Kd
  | [] => []
  | t :: r => t.kins ++ kinsL r
end
theorem erL_eq (ts : List T) : erL ts = ts.map T.er := by
  induction ts with
  | nil => rfl
  | cons t r ih => simp [erL, ih]
theorem cellsL_eq (g : Gc) (ts : List T) : cellsL g ts = ts.flatMap (T.cells g) := by
  induction ts with
  | nil => rfl
  | cons t r ih => simp [cellsL, ih]
theorem cellsL_append (g : Gc) (a b : List T) : cellsL g (a ++ b) = cellsL g a ++ cellsL g b := by simp [cellsL_eq]
theorem mkL_eq (f : Kd → Kd) (ts : List T) : mkL f ts = ts.map (T.mk f) := by
  induction ts with
  | nil => rfl
  | cons t r ih => simp [mkL, ih]
theorem mkDL_eq (f : Kd → Kd) (ts : List D) : mkDL f ts = ts.map (D.mk f) := by
  induction ts with
  | nil => rfl
  | cons t r ih => simp [mkDL, ih]
theorem kindsL_eq (ts : List D) : kindsL ts = ts.flatMap D.kinds := by
  induction ts with
  | nil => rfl
  | cons t r ih => simp [kindsL, ih]
theorem kinsL_eq (ts : List D) : kinsL ts = ts.flatMap D.kins := by
  induction ts with
  | nil => rfl
  | cons t r ih => simp [kinsL, ih]
mutual
/-- a mark that counts is one that stands there, or none -/
theorem kins_sub : ∀ (d : D) (k : Kd), k ∈ d.kins → k = .frz ∨ k ∈ d.kinds
  | .im _, k, h => by simp [D.kins] at h
  | .nd k' s ds, k, h => by
    rw [D.kins] at h
    rcases List.mem_cons.mp h with h | h
    · cases s <;> first | exact .inl h | exact .inr (by rw [D.kinds, h]; exact List.mem_cons_self)
    · exact (kinsL_sub ds k h).imp id fun z => by rw [D.kinds]; exact List.mem_cons_of_mem _ z
theorem kinsL_sub : ∀ (ds : List D) (k : Kd), k ∈ kinsL ds → k = .frz ∨ k ∈ kindsL ds
  | [], k, h => by simp [kinsL] at h
  | d :: r, k, h => by
    rw [kinsL] at h
    rcases List.mem_append.mp h with h | h
    · exact (kins_sub d k h).imp id fun z => by rw [kindsL]; exact List.mem_append_left _ z
    · exact (kinsL_sub r k h).imp id fun z => by rw [kindsL]; exact List.mem_append_right _ z
end
theorem root_mk (f : Kd → Kd) (t : T) : (t.mk f).root = t.root := by cases t <;> rfl
theorem roots_mk (f : Kd → Kd) (ts : List T) : (mkL f ts).map T.root = ts.map T.root := by simp [mkL_eq, root_mk]
mutual
theorem cells_mk (g : Gc) (f : Kd → Kd) (hf : f .frz = .frz := by rfl) : ∀ t : T, (t.mk f).cells g = (t.cells g).map fun c => (f c.1, c.2)
  | .im _ => rfl
  | .nd a k s dx ts => by
    simp only [T.mk, T.cells, List.map_cons, roots_mk]
    rw [cellsL_mk g f hf ts, kz_f hf]
theorem cellsL_mk (g : Gc) (f : Kd → Kd) (hf : f .frz = .frz := by rfl) : ∀ ts : List T, cellsL g (mkL f ts) = (cellsL g ts).map fun c => (f c.1, c.2)
  | [] => rfl
  | t :: r => by
    simp only [mkL, cellsL, List.map_append]
    rw [cells_mk g f hf t, cellsL_mk g f hf r]
end
mutual
theorem er_mk (f : Kd → Kd) : ∀ t : T, (t.mk f).er = t.er.mk f
  | .im _ => rfl
  | .nd a k s dx ts => by
    simp only [T.mk, T.er, D.mk]
    rw [erL_mk f ts]
theorem erL_mk (f : Kd → Kd) : ∀ ts : List T, erL (mkL f ts) = mkDL f (erL ts)
  | [] => rfl
  | t :: r => by
    simp only [mkL, erL, mkDL]
    rw [er_mk f t, erL_mk f r]
end
mutual
theorem kinds_er (g : Gc) : ∀ t : T, t.er.kins = (t.cells g).map (·.1)
  | .im _ => rfl
  | .nd a k s dx ts => by
    simp only [T.er, D.kins, T.cells, List.map_cons]
    rw [kindsL_er g ts]
theorem kindsL_er (g : Gc) : ∀ ts : List T, kinsL (erL ts) = (cellsL g ts).map (·.1)
  | [] => rfl
  | t :: r => by
    simp only [erL, kinsL, cellsL, List.map_append]
    rw [kinds_er g t, kindsL_er g r]
end
mutual
theorem own_ntup (g : Gc) : ∀ (t : T) (c : Cell), c ∈ t.cells g → c.1 = .own → ¬ HTup c.2.2
  | .im _, c, h, _ => by simp [T.cells] at h
  | .nd a k s dx ts, c, h, e => by
    rw [T.cells] at h
    rcases List.mem_cons.mp h with rfl | h
    · obtain ⟨_, h1, h2⟩ := kz_own e
      cases s <;> simp_all [ho, HTup]
    · exact own_ntupL g ts c h e
theorem own_ntupL (g : Gc) : ∀ (ts : List T) (c : Cell), c ∈ cellsL g ts → c.1 = .own → ¬ HTup c.2.2
  | [], c, h, _ => by simp [cellsL] at h
  | t :: r, c, h, e => by
    rw [cellsL] at h
    rcases List.mem_append.mp h with h | h
    · exact own_ntup g t c h e
    · exact own_ntupL g r c h e
end
/-- a new cell -/
def NewC (c : Cell) : Prop := c.1 = .own ∨ (c.1 = .frz ∧ HTup c.2.2)
theorem NewC.nbor {c : Cell} {r : Nat} (h : NewC c) (e : c.1 = .bor r) : False := by
  rcases h with h | ⟨h, _⟩ <;> (rw [h] at e; cases e)
theorem newC_node (g : Gc) (a dx : Addr) (s : Sh) (vs : List V) (hs : s ≠ .scr) : NewC (kz s .own, a, ho g s dx vs) := by
  cases s <;> simp_all [NewC, kz, ho, HTup]
def ownsC (cs : List Cell) : List Addr := cs.filterMap fun c => if c.1 = .own then some c.2.1 else none
theorem mem_ownsC {cs : List Cell} {a : Addr} : a ∈ ownsC cs ↔ ∃ c ∈ cs, c.1 = .own ∧ c.2.1 = a := by
  unfold ownsC
  simp only [List.mem_filterMap]
  constructor
  · rintro ⟨c, hc, h⟩
    split at h
    · exact ⟨c, hc, by assumption, by simpa using h⟩
    · cases h
  · rintro ⟨c, hc, h1, h2⟩
    exact ⟨c, hc, by rw [if_pos h1, h2]⟩
theorem ownsC_append (a b : List Cell) : ownsC (a ++ b) = ownsC a ++ ownsC b := by simp [ownsC]

/-! ### the relation between slots and temps of the evaluator and the heap -/
def CellAt (g : Gc) (A : List (Option T)) (i : Nat) (c : Cell) : Prop := ∃ t, A[i]? = some (some t) ∧ c ∈ t.cells g
/-- what a cell has in the heap; a dict that nobody owns may be locked -/
def Hd (H : Hp) (c : Cell) : Prop := H c.2.1 = some c.2.2 ∨ (c.1 ≠ .own ∧ IsD c.2.2 ∧ ∃ o, H c.2.1 = some (.frz o c.2.2))
theorem Hd.ext {H H' : Hp} {c : Cell} (h : Hd H c) (k : ∀ o, H c.2.1 = some o → H' c.2.1 = some o) : Hd H' c :=
  h.elim (fun e => .inl (k _ e)) fun ⟨e1, e2, o, e3⟩ => .inr ⟨e1, e2, o, k _ e3⟩
theorem Hd.own {H : Hp} {c : Cell} (h : Hd H c) (e : c.1 = .own) : H c.2.1 = some c.2.2 := h.elim id fun z => absurd e z.1
theorem Hd.flat {H : Hp} {c : Cell} (h : Hd H c) (e : ¬ IsD c.2.2) : H c.2.1 = some c.2.2 := h.elim id fun z => absurd z.2.1 e
theorem Hd.to {H : Hp} {c d : Cell} (h : Hd H c) (e : c.2 = d.2) (k : d.1 = .own → c.1 = .own) : Hd H d := by
  obtain ⟨k1, a, o⟩ := c
  obtain ⟨k2, a2, o2⟩ := d
  cases e
  exact h.elim .inl fun z => .inr ⟨fun q => z.1 (k q), z.2⟩
theorem Hd.some {H : Hp} {c : Cell} (h : Hd H c) : ∃ o, H c.2.1 = some o := h.elim (fun e => ⟨_, e⟩) fun z => ⟨_, z.2.2.choose_spec⟩
theorem Hd.none {H : Hp} {c : Cell} (h : Hd H c) (e : H c.2.1 = none) : False := by
  obtain ⟨o, q⟩ := h.some
  rw [e] at q; cases q
/-- the object that stands there is sane, or a locked dict -/
theorem Hd.ntab {H : Hp} {c : Cell} (h : Hd H c) (s : Sane c.2.2) : ∃ o, H c.2.1 = Option.some o ∧ (∀ ps, o ≠ .tbl ps) ∧ ∀ c q, o ≠ LamX.CodeO c q := by
  rcases h with e | ⟨_, _, o, e⟩
  · exact ⟨_, e, s.1, s.2.1⟩
  · exact ⟨_, e, (fun ps z => nomatch z), (fun c q z => by unfold LamX.CodeO at z; cases z)⟩
theorem Nw.neD {H : Hp} {c : Cell} (h : Nw H c.2.1) (e : Hd H c) (s : Sane c.2.2) : False := by
  obtain ⟨o, e, k, _⟩ := e.ntab s
  rcases h with h | ⟨ps, h⟩
  · rw [h] at e; cases e
  · rw [h] at e; cases e; exact k ps rfl
theorem Hd.extN {H H' : Hp} {c : Cell} (h : Hd H c) (s : Sane c.2.2) (k : ∀ o, H c.2.1 = Option.some o → (∀ ps, o ≠ .tbl ps) → H' c.2.1 = Option.some o) : Hd H' c := by
  obtain ⟨o, e, n, _⟩ := h.ntab s
  refine h.ext fun o' e' => k o' e' ?_
  rw [e] at e'; cases e'; exact n
theorem Hd.rd {H : Hp} {k : Kd} {a : Addr} {o : HO} (h : Hd H (k, a, o)) : L2.Rd H a o := h.elim .inl fun z => .inr z.2.2
structure Rel (g : Gc) (Γ : Gh) (n : Nat) (A : List (Option T)) (σ : St) (H : Hp) : Prop where
  len : n ≤ A.length
  slen : σ.length = n
  val : ∀ (i : Nat) (t : T), i < n → A[i]? = some (some t) → σ[i]? = some (some t.root)
  hold : ∀ i c, CellAt g A i c → Hd H c
  lab : ∀ i c r, CellAt g A i c → c.1 = .bor r → r < n
  nd : ∀ (i : Nat) (t : T), A[i]? = some (some t) → (ownsC (t.cells g)).Nodup
  sep : ∀ i j c d, CellAt g A i c → CellAt g A j d → c.1 = .own → d.2.1 = c.2.1 → (i = j ∧ d.1 = .own) ∨ (i ≠ j ∧ d.1 = .bor i)
  frame : ∀ a o, Γ.H0 a = some o → (∀ ps, o ≠ .tbl ps) → ¬ Γ.W a → H a = some o
  gown : ∀ i c, CellAt g A i c → c.1 = .frz ∨ c.1 = .par ∨ Γ.W c.2.1 ∨ Nw Γ.H0 c.2.1
  gfrz : ∀ i c, CellAt g A i c → c.1 = .frz → ¬ HTup c.2.2 → Γ.W c.2.1 ∨ Nw Γ.H0 c.2.1 ∨ Γ.F c.2.1
  pin : g.ph Γ
  tab : LamX.Tabs g.T H
  lck : ∀ a p, Γ.L a = some p → H a = some (.frz p.1 p.2) ∧ IsD p.2

section
variable {g : Gc} {Γ : Gh} {n : Nat} {A B : List (Option T)} {σ : St} {H H' : Hp} {t : T}
theorem cellAt_left {i : Nat} {c : Cell} (h : CellAt g A i c) : CellAt g (A ++ B) i c := by
  obtain ⟨t, e, hc⟩ := h
  exact ⟨t, by rw [List.getElem?_append_left (List.getElem?_eq_some_iff.mp e).1]; exact e, hc⟩
theorem CellAt.lt {i : Nat} {c : Cell} (h : CellAt g A i c) : i < A.length := by
  obtain ⟨t, e, _⟩ := h
  exact (List.getElem?_eq_some_iff.mp e).1
theorem cellAt_snoc {i : Nat} {c : Cell} : CellAt g (A ++ [some t]) i c ↔ CellAt g A i c ∨ (i = A.length ∧ c ∈ t.cells g) := by
  constructor
  · rintro ⟨u, e, hc⟩
    by_cases hi : i < A.length
    · rw [List.getElem?_append_left hi] at e
      exact .inl ⟨u, e, hc⟩
    · by_cases hi2 : i = A.length
      · subst hi2
        simp at e
        subst e
        exact .inr ⟨rfl, hc⟩
      · rw [List.getElem?_append_right (by omega)] at e
        have : i - A.length ≠ 0 := by omega
        cases hh : i - A.length with
        | zero => exact absurd hh this
        | succ m => rw [hh] at e; simp at e
  · rintro (h | ⟨rfl, hc⟩)
    · exact cellAt_left h
    · exact ⟨t, by simp, hc⟩
theorem cellAt_append {i : Nat} {c : Cell} : CellAt g (A ++ B) i c ↔ CellAt g A i c ∨ (A.length ≤ i ∧ CellAt g B (i - A.length) c) := by
  constructor
  · rintro ⟨u, e, hc⟩
    by_cases hi : i < A.length
    · rw [List.getElem?_append_left hi] at e
      exact .inl ⟨u, e, hc⟩
    · rw [List.getElem?_append_right (by omega)] at e
      exact .inr ⟨by omega, u, e, hc⟩
  · rintro (h | ⟨hi, u, e, hc⟩)
    · exact cellAt_left h
    · exact ⟨u, by rw [List.getElem?_append_right hi]; exact e, hc⟩
theorem cellAt_set {i j : Nat} {o : Option T} {c : Cell} (hj : j < A.length) : CellAt g (A.set j o) i c ↔ (i = j ∧ ∃ t, o = some t ∧ c ∈ t.cells g) ∨ (i ≠ j ∧ CellAt g A i c) := by
  constructor
  · rintro ⟨u, e, hc⟩
    by_cases hi : i = j
    · subst hi
      rw [List.getElem?_set_self hj] at e
      exact .inl ⟨rfl, u, by simpa using e, hc⟩
    · rw [List.getElem?_set_ne (Ne.symm hi)] at e
      exact .inr ⟨hi, u, e, hc⟩
  · rintro (⟨rfl, u, rfl, hc⟩ | ⟨hi, u, e, hc⟩)
    · exact ⟨u, by rw [List.getElem?_set_self hj], hc⟩
    · exact ⟨u, by rw [List.getElem?_set_ne (Ne.symm hi)]; exact e, hc⟩

theorem Rel.fresh (R : Rel g Γ n A σ H) {p : Addr} (h : H p = none) : Γ.W p ∨ Nw Γ.H0 p := by
  by_cases hw : Γ.W p
  · exact .inl hw
  · cases e : Γ.H0 p with
    | none => exact .inr (.inl e)
    | some o =>
      by_cases ht : ∃ ps, o = .tbl ps
      · obtain ⟨ps, rfl⟩ := ht
        exact .inr (.inr ⟨ps, e⟩)
      · rw [R.frame p o e (fun ps z => ht ⟨ps, z⟩) hw] at h; cases h
theorem Rel.freshN (R : Rel g Γ n A σ H) {p : Addr} (h : Nw H p) : Γ.W p ∨ Nw Γ.H0 p := by
  rcases h with h | ⟨ps, h⟩
  · exact R.fresh h
  · by_cases hw : Γ.W p
    · exact .inl hw
    · cases e : Γ.H0 p with
      | none => exact .inr (.inl e)
      | some o =>
        by_cases ht : ∃ ps, o = .tbl ps
        · obtain ⟨ps, rfl⟩ := ht
          exact .inr (.inr ⟨ps, e⟩)
        · have := R.frame p o e (fun ps z => ht ⟨ps, z⟩) hw
          rw [h] at this
          cases this
          exact absurd ⟨ps, rfl⟩ ht
theorem cellAt_sane {i : Nat} {c : Cell} (h : CellAt g A i c) : Sane c.2.2 := by
  obtain ⟨t, _, hc⟩ := h
  exact cells_sane g t c hc
theorem cellAt_ntup {i : Nat} {c : Cell} (h : CellAt g A i c) (k : c.1 = .own) : ¬ HTup c.2.2 := by
  obtain ⟨t, _, hc⟩ := h
  exact own_ntup g t c hc k
theorem mem_ntup {t : T} {us : List T} {c : Cell} (h : c ∈ t.cells g ++ cellsL g us) (k : c.1 = .own) : ¬ HTup c.2.2 := by
  rcases List.mem_append.mp h with h | h
  · exact own_ntup g t c h k
  · exact own_ntupL g us c h k
theorem Hd.tup {d : Cell} (h : Hd H d) (z : HTup d.2.2) : H d.2.1 = Option.some d.2.2 := h.flat fun q => by
  cases e : d.2.2 <;> rw [e] at z q <;> first | exact z | exact q
/-- an own cell is not where a tuple stands -/
theorem Hd.clash {c d : Cell} (h1 : Hd H c) (k : c.1 = .own) (n : ¬ HTup c.2.2) (h2 : Hd H d) (e : d.2.1 = c.2.1) (z : HTup d.2.2) : False := by
  have e1 := h1.own k
  have e2 := h2.tup z
  rw [e, e1] at e2
  rw [← Option.some.inj e2] at z
  exact n z
/-- fewer trees -/
theorem Rel.less (R : Rel g Γ n A σ H) {A' : List (Option T)} (hn : n ≤ A'.length) (h : ∀ (i : Nat) t, A'[i]? = some (some t) → A[i]? = some (some t)) : Rel g Γ n A' σ H := by
  have hc : ∀ {i c}, CellAt g A' i c → CellAt g A i c := fun ⟨t, e, m⟩ => ⟨t, h _ _ e, m⟩
  exact ⟨hn, R.slen, fun i t hi e => R.val i t hi (h i t e), fun i c x => R.hold i c (hc x), fun i c r x => R.lab i c r (hc x), fun i t e => R.nd i t (h i t e), fun i j c d x y => R.sep i j c d (hc x) (hc y), R.frame, fun i c x => R.gown i c (hc x), fun i c x => R.gfrz i c (hc x), R.pin, R.tab, R.lck⟩
theorem Rel.drop (R : Rel g Γ n (A ++ B) σ H) (hn : n ≤ A.length) : Rel g Γ n A σ H :=
  R.less hn fun i t e => by rw [List.getElem?_append_left (List.getElem?_eq_some_iff.mp e).1]; exact e
def ownsO (g : Gc) (o : Option T) : List Addr := match o with
  | none => []
  | some t => ownsC (t.cells g)
theorem Rel.ndB (R : Rel g Γ n (A ++ B) σ H) (hn : n ≤ A.length) : (B.flatMap (ownsO g)).Nodup := by
  suffices h : ∀ (B' : List (Option T)) (k : Nat), (∀ (i : Nat) t, B'[i]? = some (some t) → (A ++ B)[k + i]? = some (some t)) → n ≤ k → (B'.flatMap (ownsO g)).Nodup by
    exact h B A.length (fun i t e => by rw [List.getElem?_append_right (by omega)]; simpa using e) hn
  intro B'
  induction B' with
  | nil => intro _ _ _; simp
  | cons o r ih =>
    intro k h hk
    rw [List.flatMap_cons, List.nodup_append]
    refine ⟨?_, ih (k + 1) (fun i t e => by have := h (i + 1) t (by simpa using e); rw [show k + 1 + i = k + (i + 1) by omega]; exact this) (by omega), ?_⟩
    · cases o with
      | none => exact List.nodup_nil
      | some t => exact R.nd k t (by simpa using h 0 t (by simp))
    · intro a ha b hb hab
      subst hab
      cases o with
      | none => cases ha
      | some t =>
        obtain ⟨c, hc, k1, k2⟩ := mem_ownsC.mp (show a ∈ ownsC (t.cells g) from ha)
        obtain ⟨o', ho', hb⟩ := List.mem_flatMap.mp hb
        cases o' with
        | none => cases hb
        | some u =>
          obtain ⟨d, hd, k3, k4⟩ := mem_ownsC.mp (show a ∈ ownsC (u.cells g) from hb)
          obtain ⟨j, hj, ej⟩ := List.getElem_of_mem ho'
          have e1 := h 0 t (by simp)
          have e2 := h (j + 1) u (by simp [ej, List.getElem?_eq_getElem hj])
          rcases R.sep (k + 0) (k + (j + 1)) c d ⟨t, e1, hc⟩ ⟨u, e2, hd⟩ k1 (by rw [k4, k2]) with ⟨q, _⟩ | ⟨_, q⟩
          · omega
          · rw [k3] at q; cases q
/-- temps B are used up; the new temp's cells are theirs or new -/
theorem Rel.subst (R : Rel g Γ n (A ++ B) σ H) (hn : n ≤ A.length) (hH : ∀ a o, H a = some o → H' a = some o)
    (hc : ∀ c ∈ t.cells g, (NewC c ∧ H c.2.1 = none ∧ H' c.2.1 = some c.2.2) ∨ ∃ i, CellAt g B i c)
    (ho : ∃ fr : List Addr, (∀ a ∈ fr, H a = none) ∧ fr.Nodup ∧ List.Sublist (ownsC (t.cells g)) (fr ++ B.flatMap (ownsO g))) : Rel g Γ n (A ++ [some t]) σ H' := by
  have hA : ∀ {i c}, CellAt g A i c → CellAt g (A ++ B) i c := fun x => cellAt_left x
  have hB : ∀ {i c}, CellAt g B i c → CellAt g (A ++ B) (A.length + i) c := fun x => cellAt_append.mpr (.inr ⟨by omega, by rw [Nat.add_sub_cancel_left]; exact x⟩)
  have held : ∀ {i c}, CellAt g (A ++ B) i c → ∃ o, H c.2.1 = some o := fun x => (R.hold _ _ x).some
  have labB : ∀ {i c r}, CellAt g (A ++ B) i c → c.1 = .bor r → A.length ≤ r → False := fun x e h => by have := R.lab _ _ _ x e; omega
  refine ⟨by simp; omega, R.slen, ?_, ?_, ?_, ?_, ?_, ?_, ?_, ?_, R.pin, tabs_ext R.tab hH, fun a p e => ⟨hH _ _ (R.lck a p e).1, (R.lck a p e).2⟩⟩
  · intro i u hi e
    rw [List.getElem?_append_left (by omega)] at e
    exact R.val i u hi (by rw [List.getElem?_append_left (by omega)]; exact e)
  · intro i c x
    rcases cellAt_snoc.mp x with x | ⟨rfl, zx⟩
    · exact (R.hold i c (hA x)).ext fun o => hH _ o
    · rcases hc c zx with ⟨_, _, h⟩ | ⟨j, y⟩
      · exact .inl h
      · exact (R.hold _ c (hB y)).ext fun o => hH _ o
  · intro i c r x e
    rcases cellAt_snoc.mp x with x | ⟨rfl, zx⟩
    · exact R.lab i c r (hA x) e
    · rcases hc c zx with ⟨h, _, _⟩ | ⟨j, y⟩
      · exact (h.nbor e).elim
      · exact R.lab _ c r (hB y) e
  · intro i u e
    by_cases hi : i < A.length
    · rw [List.getElem?_append_left hi] at e
      exact R.nd i u (by rw [List.getElem?_append_left hi]; exact e)
    · have : u = t := by
        rw [List.getElem?_append_right (by omega)] at e
        cases hh : i - A.length with
        | zero => rw [hh] at e; simpa using e.symm
        | succ m => rw [hh] at e; simp at e
      subst this
      obtain ⟨fr, h1, h2, h3⟩ := ho
      refine h3.nodup (List.nodup_append.mpr ⟨h2, R.ndB hn, fun a ha b hb e => ?_⟩)
      subst e
      obtain ⟨o', ho', hb⟩ := List.mem_flatMap.mp hb
      cases o' with
      | none => cases hb
      | some w =>
        obtain ⟨d, hd, _, k4⟩ := mem_ownsC.mp (show a ∈ ownsC (w.cells g) from hb)
        obtain ⟨j, hj, ej⟩ := List.getElem_of_mem ho'
        obtain ⟨o, q⟩ := held (hB ⟨w, by rw [List.getElem?_eq_getElem hj, ej], hd⟩)
        rw [k4, h1 a ha] at q; cases q
  · intro i j c d x y hown hadr
    rcases cellAt_snoc.mp x with x | ⟨rfl, zx⟩
    · rcases cellAt_snoc.mp y with y | ⟨rfl, zy⟩
      · exact R.sep i j c d (hA x) (hA y) hown hadr
      · have hi := x.lt
        rcases hc d zy with ⟨_, h, _⟩ | ⟨j', y'⟩
        · obtain ⟨o, q⟩ := held (hA x)
          rw [hadr, q] at h; cases h
        · rcases R.sep i _ c d (hA x) (hB y') hown hadr with ⟨e, _⟩ | ⟨_, e⟩
          · omega
          · exact .inr ⟨by omega, e⟩
    · rcases hc c zx with ⟨_, h, k0⟩ | ⟨i', x'⟩
      · rcases cellAt_snoc.mp y with y | ⟨rfl, zy⟩
        · obtain ⟨o, q⟩ := held (hA y)
          rw [hadr, h] at q; cases q
        · rcases hc d zy with ⟨h', _, k'⟩ | ⟨j', y'⟩
          · rcases h' with h' | ⟨_, h'⟩
            · exact .inl ⟨rfl, h'⟩
            · rw [hadr, k0] at k'
              rw [← Option.some.inj k'] at h'
              exact absurd h' (own_ntup g t c zx hown)
          · obtain ⟨o, q⟩ := held (hB y')
            rw [hadr, h] at q; cases q
      · rcases cellAt_snoc.mp y with y | ⟨rfl, zy⟩
        · have hj := y.lt
          rcases R.sep _ j c d (hB x') (hA y) hown hadr with ⟨e, _⟩ | ⟨_, e⟩
          · omega
          · exact (labB (hA y) e (by omega)).elim
        · rcases hc d zy with ⟨_, h', _⟩ | ⟨j', y'⟩
          · obtain ⟨o, q⟩ := held (hB x')
            rw [← hadr, h'] at q; cases q
          · rcases R.sep _ _ c d (hB x') (hB y') hown hadr with ⟨_, e⟩ | ⟨_, e⟩
            · exact .inl ⟨rfl, e⟩
            · exact (labB (hB y') e (by omega)).elim
  · exact fun a o h1 h3 h2 => hH _ _ (R.frame a o h1 h3 h2)
  · intro i c x
    rcases cellAt_snoc.mp x with x | ⟨rfl, zx⟩
    · exact R.gown i c (hA x)
    · rcases hc c zx with ⟨_, h, _⟩ | ⟨j, y⟩
      · exact .inr (.inr (R.fresh h))
      · exact R.gown _ c (hB y)
  · intro i c x hf nt
    rcases cellAt_snoc.mp x with x | ⟨rfl, zx⟩
    · exact R.gfrz i c (hA x) hf nt
    · rcases hc c zx with ⟨h | ⟨_, h⟩, _, _⟩ | ⟨j, y⟩
      · rw [h] at hf; cases hf
      · exact absurd h nt
      · exact R.gfrz _ c (hB y) hf nt
/-- an immediate temp -/
theorem Rel.imm (R : Rel g Γ n (A ++ B) σ H) (hn : n ≤ A.length) (v : V) : Rel g Γ n (A ++ [some (.im v)]) σ H :=
  R.subst hn (fun _ _ h => h) (fun c hc => by simp [T.cells] at hc) ⟨[], by simp, by simp, by simp [T.cells, ownsC]⟩
end
end Lin
end
section
namespace Lin
open PySem L2
/-! ### marks changed -/
def kBo (i : Nat) : Kd → Kd := fun k => if k = .own then .bor i else k
def kFz : Kd → Kd := fun k => if k = .own then .frz else k
section
variable {g : Gc} {Γ : Gh} {n : Nat} {A B : List (Option T)} {σ : L2.St} {H H' : Hp} {t : T}
theorem cells_kBo {i : Nat} {c : Cell} (h : c ∈ (t.mk (kBo i)).cells g) : ∃ d ∈ t.cells g, d.2 = c.2 ∧ ((d.1 = .own ∧ c.1 = .bor i) ∨ (d.1 ≠ .own ∧ c.1 = d.1)) := by
  rw [cells_mk g _ (by first | rfl | decide)] at h
  obtain ⟨d, hd, rfl⟩ := List.mem_map.mp h
  refine ⟨d, hd, rfl, ?_⟩
  by_cases e : d.1 = .own
  · exact .inl ⟨e, by simp [kBo, e]⟩
  · exact .inr ⟨e, by simp [kBo, e]⟩
theorem cells_kFz {c : Cell} (h : c ∈ (t.mk kFz).cells g) : ∃ d ∈ t.cells g, d.2 = c.2 ∧ ((d.1 = .own ∧ c.1 = .frz) ∨ (d.1 ≠ .own ∧ c.1 = d.1)) := by
  rw [cells_mk g _ (by first | rfl | decide)] at h
  obtain ⟨d, hd, rfl⟩ := List.mem_map.mp h
  refine ⟨d, hd, rfl, ?_⟩
  by_cases e : d.1 = .own
  · exact .inl ⟨e, by simp [kFz, e]⟩
  · exact .inr ⟨e, by simp [kFz, e]⟩
theorem owns_none {cs : List Cell} (h : ∀ c ∈ cs, c.1 ≠ .own) : ownsC cs = [] := by
  unfold ownsC
  rw [List.filterMap_eq_nil_iff]
  intro c hc
  rw [if_neg (h c hc)]
theorem kBo_ne {i : Nat} {c : Cell} (h : c ∈ (t.mk (kBo i)).cells g) : c.1 ≠ .own := by
  obtain ⟨d, _, _, ⟨_, e⟩ | ⟨e1, e2⟩⟩ := cells_kBo h
  · rw [e]; intro z; cases z
  · rw [e2]; exact e1
theorem kFz_ne {c : Cell} (h : c ∈ (t.mk kFz).cells g) : c.1 ≠ .own := by
  obtain ⟨d, _, _, ⟨_, e⟩ | ⟨e1, e2⟩⟩ := cells_kFz h
  · rw [e]; intro z; cases z
  · rw [e2]; exact e1
/-- a slot is read -/
theorem Rel.var (R : Rel g Γ n A σ H) {i : Nat} (hi : i < n) (e : A[i]? = some (some t)) : Rel g Γ n (A ++ [some (t.mk (kBo i))]) σ H := by
  have at_ : ∀ {c}, c ∈ t.cells g → CellAt g A i c := fun h => ⟨t, e, h⟩
  refine ⟨by simp; have := R.len; omega, R.slen, ?_, ?_, ?_, ?_, ?_, R.frame, ?_, ?_, R.pin, R.tab, R.lck⟩
  · intro j u hj q
    rw [List.getElem?_append_left (by have := R.len; omega)] at q
    exact R.val j u hj q
  · intro j c x
    rcases cellAt_snoc.mp x with x | ⟨rfl, x'⟩
    · exact R.hold j c x
    · obtain ⟨d, hd, e2, e3⟩ := cells_kBo x'
      exact (R.hold i d (at_ hd)).to e2 fun k => by rcases e3 with ⟨e3, _⟩ | ⟨_, e3⟩ <;> simp_all
  · intro j c r x k
    rcases cellAt_snoc.mp x with x | ⟨rfl, x'⟩
    · exact R.lab j c r x k
    · obtain ⟨d, hd, e2, ⟨_, e3⟩ | ⟨_, e3⟩⟩ := cells_kBo x'
      · rw [e3] at k; cases k; exact hi
      · exact R.lab i d r (at_ hd) (e3 ▸ k)
  · intro j u q
    by_cases hj : j < A.length
    · rw [List.getElem?_append_left hj] at q
      exact R.nd j u q
    · have : u = t.mk (kBo i) := by
        rw [List.getElem?_append_right (by omega)] at q
        cases hh : j - A.length with
        | zero => rw [hh] at q; simpa using q.symm
        | succ m => rw [hh] at q; simp at q
      subst this
      rw [owns_none (fun c hc => kBo_ne hc)]
      exact List.nodup_nil
  · intro j l c d x y hown hadr
    rcases cellAt_snoc.mp x with x | ⟨rfl, x'⟩
    · rcases cellAt_snoc.mp y with y | ⟨rfl, y'⟩
      · exact R.sep j l c d x y hown hadr
      · have hj := x.lt
        obtain ⟨d0, hd, e2, q⟩ := cells_kBo y'
        rcases R.sep j i c d0 x (at_ hd) hown (by rw [e2]; exact hadr) with ⟨rfl, e3⟩ | ⟨e4, e3⟩
        · rcases q with ⟨_, q⟩ | ⟨q1, _⟩
          · exact .inr ⟨by omega, q⟩
          · exact absurd e3 q1
        · rcases q with ⟨q1, _⟩ | ⟨_, q2⟩
          · rw [e3] at q1; cases q1
          · exact .inr ⟨by omega, q2.trans e3⟩
    · exact absurd hown (kBo_ne x')
  · intro j c x
    rcases cellAt_snoc.mp x with x | ⟨rfl, x'⟩
    · exact R.gown j c x
    · obtain ⟨d, hd, e2, ⟨e4, e3⟩ | ⟨e4, e3⟩⟩ := cells_kBo x'
      · rcases R.gown i d (at_ hd) with z | z | z
        · rw [e4] at z; cases z
        · rw [e4] at z; cases z
        · rw [← e2]; exact .inr (.inr z)
      · have := R.gown i d (at_ hd)
        rw [e3, ← e2]; exact this
  · intro j c x k
    rcases cellAt_snoc.mp x with x | ⟨rfl, x'⟩
    · exact R.gfrz j c x k
    · obtain ⟨d, hd, e2, ⟨e4, e3⟩ | ⟨e4, e3⟩⟩ := cells_kBo x'
      · rw [e3] at k; cases k
      · rw [← e2]; exact R.gfrz i d (at_ hd) (e3 ▸ k)
theorem snoc_get {j : Nat} {u : T} (q : (A ++ [some t])[j]? = some (some u)) : (j < A.length ∧ A[j]? = some (some u)) ∨ (j = A.length ∧ u = t) := by
  by_cases hj : j < A.length
  · rw [List.getElem?_append_left hj] at q
    exact .inl ⟨hj, q⟩
  · rw [List.getElem?_append_right (by omega)] at q
    cases hh : j - A.length with
    | zero => rw [hh] at q; exact .inr ⟨by omega, by simpa using q.symm⟩
    | succ m => rw [hh] at q; simp at q
/-- the last temp is frozen -/
theorem Rel.freeze (R : Rel g Γ n (A ++ [some t]) σ H) (hn : n ≤ A.length) : Rel g Γ n (A ++ [some (t.mk kFz)]) σ H := by
  have at_ : ∀ {c}, c ∈ t.cells g → CellAt g (A ++ [some t]) A.length c := fun h => cellAt_snoc.mpr (.inr ⟨rfl, h⟩)
  have inA : ∀ {j c}, CellAt g A j c → CellAt g (A ++ [some t]) j c := fun h => cellAt_left h
  refine ⟨by simp; omega, R.slen, ?_, ?_, ?_, ?_, ?_, R.frame, ?_, ?_, R.pin, R.tab, R.lck⟩
  · intro j u hj q
    rcases snoc_get q with ⟨_, q⟩ | ⟨rfl, _⟩
    · exact R.val j u hj (by rw [List.getElem?_append_left (by omega)]; exact q)
    · omega
  · intro j c x
    rcases cellAt_snoc.mp x with x | ⟨rfl, x'⟩
    · exact R.hold j c (inA x)
    · obtain ⟨d, hd, e2, e3⟩ := cells_kFz x'
      exact (R.hold _ d (at_ hd)).to e2 fun k => by rcases e3 with ⟨e3, _⟩ | ⟨_, e3⟩ <;> simp_all
  · intro j c r x k
    rcases cellAt_snoc.mp x with x | ⟨rfl, x'⟩
    · exact R.lab j c r (inA x) k
    · obtain ⟨d, hd, e2, ⟨_, e3⟩ | ⟨_, e3⟩⟩ := cells_kFz x'
      · rw [e3] at k; cases k
      · exact R.lab _ d r (at_ hd) (e3 ▸ k)
  · intro j u q
    rcases snoc_get q with ⟨hj, q⟩ | ⟨rfl, rfl⟩
    · exact R.nd j u (by rw [List.getElem?_append_left hj]; exact q)
    · rw [owns_none (fun c hc => kFz_ne hc)]
      exact List.nodup_nil
  · intro j l c d x y hown hadr
    rcases cellAt_snoc.mp x with x | ⟨rfl, x'⟩
    · rcases cellAt_snoc.mp y with y | ⟨rfl, y'⟩
      · exact R.sep j l c d (inA x) (inA y) hown hadr
      · have hj := x.lt
        obtain ⟨d0, hd, e2, q⟩ := cells_kFz y'
        rcases R.sep j _ c d0 (inA x) (at_ hd) hown (by rw [e2]; exact hadr) with ⟨z, e3⟩ | ⟨e4, e3⟩
        · omega
        · rcases q with ⟨q1, _⟩ | ⟨_, q2⟩
          · rw [e3] at q1; cases q1
          · exact .inr ⟨by omega, q2.trans e3⟩
    · exact absurd hown (kFz_ne x')
  · intro j c x
    rcases cellAt_snoc.mp x with x | ⟨rfl, x'⟩
    · exact R.gown j c (inA x)
    · obtain ⟨d, hd, e2, ⟨e4, e3⟩ | ⟨e4, e3⟩⟩ := cells_kFz x'
      · exact .inl e3
      · have := R.gown _ d (at_ hd)
        rw [e3, ← e2]; exact this
  · intro j c x k
    rcases cellAt_snoc.mp x with x | ⟨rfl, x'⟩
    · exact R.gfrz j c (inA x) k
    · obtain ⟨d, hd, e2, ⟨e4, e3⟩ | ⟨e4, e3⟩⟩ := cells_kFz x'
      · rcases R.gown _ d (at_ hd) with z | z | z
        · rw [e4] at z; cases z
        · rw [e4] at z; cases z
        · exact fun _ => by rw [← e2]; exact z.elim .inl (fun z => .inr (.inl z))
      · rw [← e2]; exact R.gfrz _ d (at_ hd) (e3 ▸ k)
/-- the last temp goes into a slot -/
theorem Rel.assign (R : Rel g Γ n (A ++ [some t]) σ H) (hn : n ≤ A.length) {i : Nat} (hi : i < n) : Rel g Γ n (A.set i (some t)) (σ.set i (some t.root)) H := by
  have at_ : ∀ {c}, c ∈ t.cells g → CellAt g (A ++ [some t]) A.length c := fun h => cellAt_snoc.mpr (.inr ⟨rfl, h⟩)
  have inA : ∀ {j c}, CellAt g A j c → CellAt g (A ++ [some t]) j c := fun h => cellAt_left h
  have hiA : i < A.length := by omega
  have key : ∀ {j c}, CellAt g (A.set i (some t)) j c → ∃ k, CellAt g (A ++ [some t]) k c ∧ ((k = A.length ∧ j = i) ∨ (k = j ∧ j ≠ i ∧ j < A.length)) := fun {j c} h => by
    rcases (cellAt_set hiA).mp h with ⟨rfl, u, e, hc⟩ | ⟨hj, x⟩
    · cases e
      exact ⟨_, at_ hc, .inl ⟨rfl, rfl⟩⟩
    · exact ⟨j, inA x, .inr ⟨rfl, hj, x.lt⟩⟩
  refine ⟨by simp; omega, by simp [R.slen], ?_, ?_, ?_, ?_, ?_, R.frame, ?_, ?_, R.pin, R.tab, R.lck⟩
  · intro j u hj q
    by_cases h : j = i
    · subst h
      rw [List.getElem?_set_self hiA] at q
      have : t = u := by simpa using q
      subst this
      rw [List.getElem?_set_self (by have := R.slen; omega)]
    · rw [List.getElem?_set_ne (Ne.symm h)] at q
      rw [List.getElem?_set_ne (Ne.symm h)]
      exact R.val j u hj (by rw [List.getElem?_append_left (by omega)]; exact q)
  · intro j c x
    obtain ⟨k, y, _⟩ := key x
    exact R.hold k c y
  · intro j c r x q
    obtain ⟨k, y, _⟩ := key x
    exact R.lab k c r y q
  · intro j u q
    by_cases h : j = i
    · subst h
      rw [List.getElem?_set_self hiA] at q
      have : t = u := by simpa using q
      subst this
      exact R.nd A.length t (by simp)
    · rw [List.getElem?_set_ne (Ne.symm h)] at q
      exact R.nd j u (by rw [List.getElem?_append_left (List.getElem?_eq_some_iff.mp q).1]; exact q)
  · intro j l c d x y hown hadr
    obtain ⟨k1, x, h1⟩ := key x
    obtain ⟨k2, y, h2⟩ := key y
    rcases R.sep k1 k2 c d x y hown hadr with ⟨e, q⟩ | ⟨e, q⟩
    · exact .inl ⟨by omega, q⟩
    · have hl := R.lab _ _ _ y q
      exact .inr ⟨by omega, by rcases h1 with ⟨h1, _⟩ | ⟨h1, _⟩; omega; rw [← h1]; exact q⟩
  · intro j c x
    obtain ⟨k, y, _⟩ := key x
    exact R.gown k c y
  · intro j c x q
    obtain ⟨k, y, _⟩ := key x
    exact R.gfrz k c y q
end
/-! ### slots that borrow from slot r are given up -/
def hasBor (r : Nat) (d : D) : Bool := d.kins.contains (.bor r)
def killT (r : Nat) : Option T → Option T
  | some t => if hasBor r t.er then none else some t
  | none => none
def killD (r : Nat) : Option D → Option D
  | some d => if hasBor r d then none else some d
  | none => none
def kill (n r : Nat) (A : List (Option T)) : List (Option T) := (A.take n).map (killT r) ++ A.drop n
section
variable {g : Gc} {Γ : Gh} {n : Nat} {A B : List (Option T)} {σ : L2.St} {H H' : Hp} {t : T}
theorem hasBor_iff {r : Nat} : hasBor r t.er = true ↔ ∃ c ∈ t.cells g, c.1 = .bor r := by
  unfold hasBor
  rw [kinds_er g, List.contains_iff_mem, List.mem_map]
theorem killT_some {r : Nat} {o : Option T} (h : killT r o = some t) : o = some t ∧ hasBor r t.er = false := by
  cases o with
  | none => cases h
  | some u =>
    have h' : (if hasBor r u.er = true then none else some u) = some t := h
    by_cases e : hasBor r u.er = true
    · rw [if_pos e] at h'; cases h'
    · rw [if_neg e] at h'; cases h'
      exact ⟨rfl, by simpa using e⟩
theorem kill_get {r i : Nat} (h : (kill n r A)[i]? = some (some t)) : A[i]? = some (some t) ∧ (i < n → hasBor r t.er = false) := by
  unfold kill at h
  by_cases hi : i < (A.take n).length
  · rw [List.getElem?_append_left (by simpa using hi), List.getElem?_map] at h
    have hi' : i < n := by simp at hi; omega
    rw [List.getElem?_take_of_lt hi'] at h
    cases e : A[i]? with
    | none => rw [e] at h; cases h
    | some o =>
      rw [e] at h
      obtain ⟨rfl, q⟩ := killT_some (Option.some.inj h)
      exact ⟨rfl, fun _ => q⟩
  · have hi' : n ≤ i ∨ A.length ≤ i := by simp at hi; omega
    rw [List.getElem?_append_right (by simpa using hi)] at h
    rw [List.getElem?_drop] at h
    simp only [List.length_map, List.length_take] at h
    rcases hi' with hn | hA
    · by_cases hA : A.length ≤ n
      · rw [List.getElem?_eq_none (by omega)] at h; cases h
      · rw [show n + (i - min n A.length) = i by omega] at h
        exact ⟨h, fun z => by omega⟩
    · rw [List.getElem?_eq_none (by omega)] at h; cases h
theorem kill_length {r : Nat} : (kill n r A).length = A.length := by
  unfold kill
  simp
  omega
theorem Rel.kill (R : Rel g Γ n A σ H) (r : Nat) : Rel g Γ n (kill n r A) σ H :=
  R.less (by rw [kill_length]; exact R.len) fun i t e => (kill_get e).1
theorem kill_append {r : Nat} (h : n ≤ A.length) : Lin.kill n r (A ++ B) = Lin.kill n r A ++ B := by
  unfold Lin.kill
  rw [List.take_append_of_le_length h, List.drop_append_of_le_length h, List.append_assoc]
end
end Lin
end
section
namespace Lin
open PySem L2
/-! ### paths into a tree -/
def T.at : T → List Nat → Option T
  | t, [] => some t
  | .im _, _ :: _ => none
  | .nd _ _ _ _ ts, i :: p => match ts[i]? with
    | some u => u.at p
    | none => none
def T.put : T → List Nat → T → T
  | _, [], x => x
  | .im v, _ :: _, _ => .im v
  | .nd a k s dx ts, i :: p, x => match ts[i]? with
    | some u => .nd a k s dx (ts.set i (u.put p x))
    | none => .nd a k s dx ts
def D.at : D → List Nat → Option D
  | t, [] => some t
  | .im _, _ :: _ => none
  | .nd _ _ ts, i :: p => match ts[i]? with
    | some u => u.at p
    | none => none
def D.put : D → List Nat → D → D
  | _, [], x => x
  | .im v, _ :: _, _ => .im v
  | .nd k s ts, i :: p, x => match ts[i]? with
    | some u => .nd k s (ts.set i (u.put p x))
    | none => .nd k s ts
theorem er_at : ∀ (p : List Nat) (t : T), t.er.at p = (t.at p).map T.er
  | [], t => by cases t <;> rfl
  | i :: p, .im _ => rfl
  | i :: p, .nd a k s dx ts => by
    simp only [T.er, D.at, T.at, erL_eq, List.getElem?_map]
    cases ts[i]? with
    | none => rfl
    | some u => exact er_at p u
theorem er_put : ∀ (p : List Nat) (t x : T), (t.put p x).er = t.er.put p x.er
  | [], t, x => by cases t <;> rfl
  | i :: p, .im _, x => rfl
  | i :: p, .nd a k s dx ts, x => by
    simp only [T.er, D.put, T.put, erL_eq, List.getElem?_map]
    cases ts[i]? with
    | none => simp [T.er, erL_eq]
    | some u =>
      simp only [Option.map_some, T.er, erL_eq, List.map_set]
      rw [er_put p u x]
theorem root_put : ∀ (p : List Nat) (t x s : T), t.at p = some s → x.root = s.root → (t.put p x).root = t.root
  | [], t, x, s, h, e => by
    have : t = s := by simpa [T.at] using h
    subst this
    exact e
  | i :: p, .im _, x, s, h, e => rfl
  | i :: p, .nd a k sh dx ts, x, s, h, e => by
    simp only [T.put]
    cases ts[i]? with
    | none => rfl
    | some u => rfl
theorem cells_put (g : Gc) : ∀ (p : List Nat) (t x s : T), t.at p = some s → x.root = s.root → ∃ pre post, t.cells g = pre ++ s.cells g ++ post ∧ (t.put p x).cells g = pre ++ x.cells g ++ post
  | [], t, x, s, h, e => by
    have : t = s := by simpa [T.at] using h
    subst this
    exact ⟨[], [], by simp, by simp [T.put]⟩
  | i :: p, .im _, x, s, h, e => by simp [T.at] at h
  | i :: p, .nd a k sh dx ts, x, s, h, e => by
    simp only [T.at] at h
    cases q : ts[i]? with
    | none => rw [q] at h; cases h
    | some u =>
      rw [q] at h
      obtain ⟨pre, post, h1, h2⟩ := cells_put g p u x s h e
      obtain ⟨hi, hu⟩ := List.getElem?_eq_some_iff.mp q
      have e1 : ts = ts.take i ++ u :: ts.drop (i + 1) := by
        rw [← hu, List.getElem_cons_drop, List.take_append_drop]
      have e2 : ts.set i (u.put p x) = ts.take i ++ u.put p x :: ts.drop (i + 1) := List.set_eq_take_append_cons_drop.trans (by rw [if_pos hi])
      have er : (ts.set i (u.put p x)).map T.root = ts.map T.root := by
        rw [List.map_set, root_put p u x s h e]
        apply List.ext_getElem?
        intro j
        by_cases hj : j = i
        · subst hj
          rw [List.getElem?_set_self (by simpa using hi), List.getElem?_map, q]; rfl
        · rw [List.getElem?_set_ne (Ne.symm hj)]
      refine ⟨(kz sh k, a, ho g sh dx (ts.map T.root)) :: cellsL g (ts.take i) ++ pre, post ++ cellsL g (ts.drop (i + 1)), ?_, ?_⟩
      · rw [T.cells]
        conv => lhs; rw [e1, cellsL_append, cellsL, h1]
        rw [← e1]
        simp
      · simp only [T.put, q]
        rw [T.cells, er]
        rw [e2, cellsL_append, cellsL, h2]
        simp
section
variable {g : Gc} {Γ : Gh} {n : Nat} {A B U : List (Option T)} {σ : L2.St} {H H' : Hp} {t t' : T}
/-- slot r's tree is changed at its own address a; B are used up; U are the temps that come out (at most one) -/
theorem Rel.mut {r : Nat} {a : Addr} {U : Option T} (R : Rel g Γ n (A ++ B) σ H) (hn : n ≤ A.length) (e : A[r]? = some (some t)) (nb : ∀ i c, CellAt g (A ++ B) i c → c.1 ≠ .bor r)
    (ha : ∃ c ∈ t.cells g, c.1 = .own ∧ c.2.1 = a) (hroot : t'.root = t.root) (hH : ∀ b o, b ≠ a → H b = some o → H' b = some o)
    (hc : ∀ c, (c ∈ t'.cells g ∨ ∃ u, U = some u ∧ c ∈ u.cells g) → (c.2.1 = a ∧ c.1 = .own ∧ H' a = some c.2.2) ∨ (c.2.1 ≠ a ∧ (c ∈ t.cells g ∨ ∃ i, CellAt g B i c)) ∨ (c.1 = .own ∧ H c.2.1 = none ∧ H' c.2.1 = some c.2.2))
    (hnd : (ownsC (t'.cells g) ++ ownsO g U).Nodup) :
    Rel g Γ n (A.set r (some t') ++ [U]) σ H' := by
  obtain ⟨ca, hca, oca, eca⟩ := ha
  have hrA : r < A.length := (List.getElem?_eq_some_iff.mp e).1
  have atT : ∀ {c}, c ∈ t.cells g → CellAt g (A ++ B) r c := fun h => cellAt_left ⟨t, e, h⟩
  have atA : ∀ {i c}, CellAt g A i c → CellAt g (A ++ B) i c := fun h => cellAt_left h
  have atB : ∀ {i c}, CellAt g B i c → CellAt g (A ++ B) (A.length + i) c := fun x => cellAt_append.mpr (.inr ⟨by omega, by rw [Nat.add_sub_cancel_left]; exact x⟩)
  have hA' : (A.set r (some t')).length = A.length := by simp
  -- cells elsewhere are not at a
  have naA : ∀ {i c}, CellAt g A i c → i ≠ r → c.2.1 ≠ a := fun {i c} x hi q => by
    rcases R.sep r i ca c (atT hca) (atA x) oca (q.trans eca.symm) with ⟨z, _⟩ | ⟨_, z⟩
    · exact hi z.symm
    · exact nb i c (atA x) z
  have split : ∀ {i c}, CellAt g (A.set r (some t') ++ [U]) i c → (i ≠ r ∧ i < A.length ∧ CellAt g A i c ∧ c.2.1 ≠ a) ∨ ((i = r ∨ i = A.length) ∧
      ((i = r ∧ c ∈ t'.cells g) ∨ (i = A.length ∧ ∃ u, U = some u ∧ c ∈ u.cells g))) := fun {i c} x => by
    rcases cellAt_append.mp x with x | ⟨hi, u, eu, hu⟩
    · rcases (cellAt_set hrA).mp x with ⟨rfl, u, eu, hu⟩ | ⟨hi, x⟩
      · cases eu
        exact .inr ⟨.inl rfl, .inl ⟨rfl, hu⟩⟩
      · exact .inl ⟨hi, x.lt, x, naA x hi⟩
    · rw [hA'] at eu hi
      cases hh : i - A.length with
      | zero =>
        rw [hh] at eu
        have : i = A.length := by omega
        exact .inr ⟨.inr this, .inr ⟨this, u, by simpa using eu, hu⟩⟩
      | succ m => rw [hh] at eu; simp at eu
  have new : ∀ {i c}, ((i = r ∧ c ∈ t'.cells g) ∨ (i = A.length ∧ ∃ u, U = some u ∧ c ∈ u.cells g)) →
      (c.2.1 = a ∧ c.1 = .own ∧ H' a = some c.2.2) ∨ (c.2.1 ≠ a ∧ ∃ k, CellAt g (A ++ B) k c ∧ (k = r ∨ A.length ≤ k)) ∨ (c.1 = .own ∧ H c.2.1 = none ∧ H' c.2.1 = some c.2.2) := fun {i c} x => by
    rcases hc c (x.elim (fun z => .inl z.2) fun z => .inr z.2) with z | ⟨z, y⟩ | z
    · exact .inl z
    · refine .inr (.inl ⟨z, ?_⟩)
      rcases y with y | ⟨k, y⟩
      · exact ⟨r, atT y, .inl rfl⟩
      · exact ⟨_, atB y, .inr (by omega)⟩
    · exact .inr (.inr z)
  have labB : ∀ {i c r}, CellAt g (A ++ B) i c → c.1 = .bor r → A.length ≤ r → False := fun x e h => by have := R.lab _ _ _ x e; omega
  have hHa : ∀ {c : Cell}, c.2.1 ≠ a → ∀ {k}, CellAt g (A ++ B) k c → Hd H' c := fun {c} h {k} x => (R.hold k _ x).ext fun o => hH _ o h
  have ha0 : H a = some ca.2.2 := by have := (R.hold r ca (atT hca)).own oca; rw [eca] at this; exact this
  refine ⟨by simp; omega, R.slen, ?_, ?_, ?_, ?_, ?_, ?_, ?_, ?_, R.pin, tabs_but R.tab ha0 (cells_sane g t ca hca) hH, fun b p eb => ?_⟩
  rotate_right
  · obtain ⟨e1, e2⟩ := R.lck b p eb
    refine ⟨hH b _ (fun z => ?_) e1, e2⟩
    rw [z, ha0] at e1
    exact (cells_sane g t ca hca).2.2 _ _ (Option.some.inj e1) e2
  · intro i u hi q
    rw [List.getElem?_append_left (by rw [hA']; omega)] at q
    by_cases h : i = r
    · subst h
      rw [List.getElem?_set_self hrA] at q
      have : t' = u := by simpa using q
      subst this
      rw [hroot]
      exact R.val i t hi (by rw [List.getElem?_append_left (by omega)]; exact e)
    · rw [List.getElem?_set_ne (Ne.symm h)] at q
      exact R.val i u hi (by rw [List.getElem?_append_left (by omega)]; exact q)
  · intro i c x
    rcases split x with ⟨_, _, x, h⟩ | ⟨_, x⟩
    · exact hHa h (atA x)
    · rcases new x with ⟨z1, _, z3⟩ | ⟨z1, k, y, _⟩ | ⟨_, _, z⟩
      · exact .inl (by rw [z1]; exact z3)
      · exact hHa z1 y
      · exact .inl z
  · intro i c r' x q
    rcases split x with ⟨_, _, x, h⟩ | ⟨_, x⟩
    · exact R.lab i c r' (atA x) q
    · rcases new x with ⟨_, z, _⟩ | ⟨z1, k, y, _⟩ | ⟨z, _⟩
      · rw [z] at q; cases q
      · exact R.lab k c r' y q
      · rw [z] at q; cases q
  · intro i u q
    obtain ⟨n1, n2, _⟩ := List.nodup_append.mp hnd
    by_cases h : i < A.length
    · rw [List.getElem?_append_left (by rw [hA']; exact h)] at q
      by_cases h : i = r
      · subst h
        rw [List.getElem?_set_self hrA] at q
        have : t' = u := by simpa using q
        subst this
        exact n1
      · rw [List.getElem?_set_ne (Ne.symm h)] at q
        exact R.nd i u (by rw [List.getElem?_append_left (by omega)]; exact q)
    · rw [List.getElem?_append_right (by rw [hA']; omega), hA'] at q
      cases hh : i - A.length with
      | zero =>
        rw [hh] at q
        have q : U = some u := by simpa using q
        rw [q] at n2
        exact n2
      | succ m => rw [hh] at q; simp at q
  · intro i j c d x y hown hadr
    rcases split x with ⟨hi, hi2, x, h⟩ | ⟨hi, x⟩
    · rcases split y with ⟨hj, hj2, y, h'⟩ | ⟨hj, y⟩
      · exact R.sep i j c d (atA x) (atA y) hown hadr
      · rcases new y with ⟨z, _⟩ | ⟨z1, k, y', hk⟩ | ⟨_, z, _⟩
        · exact absurd (hadr.symm.trans z) h
        · rcases R.sep i k c d (atA x) y' hown hadr with ⟨q, _⟩ | ⟨_, q⟩
          · omega
          · exact .inr ⟨by omega, q⟩
        · rw [hadr] at z; exact ((R.hold i c (atA x)).none z).elim
    · rcases split y with ⟨hj, hj2, y, h'⟩ | ⟨hj, y⟩
      · rcases new x with ⟨z, _⟩ | ⟨z1, k, x', hk⟩ | ⟨_, z, _⟩
        · exact absurd (hadr.trans z) h'
        · rcases R.sep k j c d x' (atA y) hown hadr with ⟨q, _⟩ | ⟨_, q⟩
          · omega
          · rcases hk with hk | hk
            · exact absurd (hk ▸ q) (nb j d (atA y))
            · exact (labB (atA y) q hk).elim
        · rw [← hadr] at z; exact ((R.hold j d (atA y)).none z).elim
      · -- both are new: own ones stand in one list
        have dis : ∀ {c d : Cell}, c ∈ t'.cells g → (∃ u, U = some u ∧ d ∈ u.cells g) → c.1 = .own → d.1 = .own → d.2.1 = c.2.1 → False := fun {c d} h1 ⟨u, h2, h3⟩ o1 o2 q => by
          obtain ⟨_, _, n3⟩ := List.nodup_append.mp hnd
          exact n3 _ (mem_ownsC.mpr ⟨c, h1, o1, rfl⟩) _ (by rw [h2]; exact mem_ownsC.mpr ⟨d, h3, o2, rfl⟩) q.symm
        have downs : d.1 = .own := by
          rcases new x with ⟨z, _⟩ | ⟨z1, k, x', hk⟩ | ⟨_, z, _⟩
          · rcases new y with ⟨_, z', _⟩ | ⟨z1, k, y', hk⟩ | ⟨z', _⟩
            · exact z'
            · exact absurd (hadr.trans z) z1
            · exact z'
          · rcases new y with ⟨_, z', _⟩ | ⟨z1', k', y', hk'⟩ | ⟨z', _⟩
            · exact z'
            · rcases R.sep k k' c d x' y' hown hadr with ⟨_, q⟩ | ⟨_, q⟩
              · exact q
              · rcases hk with hk | hk
                · exact absurd (hk ▸ q) (nb k' d y')
                · exact (labB y' q hk).elim
            · exact z'
          · rcases new y with ⟨_, z', _⟩ | ⟨z1', k', y', hk'⟩ | ⟨z', _⟩
            · exact z'
            · rw [← hadr] at z; exact ((R.hold k' d y').none z).elim
            · exact z'
        refine .inl ⟨?_, downs⟩
        rcases x with ⟨ex, x2⟩ | ⟨ex, x2⟩
        · rcases y with ⟨ey, y2⟩ | ⟨ey, y2⟩
          · rw [ex, ey]
          · exact (dis x2 y2 hown downs hadr).elim
        · rcases y with ⟨ey, y2⟩ | ⟨ey, y2⟩
          · exact (dis y2 x2 downs hown hadr.symm).elim
          · rw [ex, ey]
  · intro b o h1 h3 h2
    by_cases hb : b = a
    · subst hb
      rcases R.gown r ca (atT hca) with z | z | z | z
      · rw [oca] at z; cases z
      · rw [oca] at z; cases z
      · rw [eca] at z; exact absurd z h2
      · rw [eca] at z
        rcases z with z | ⟨ps, z⟩
        · rw [h1] at z; cases z
        · rw [h1] at z; cases z; exact (h3 ps rfl).elim
    · exact hH b o hb (R.frame b o h1 h3 h2)
  · intro i c x
    rcases split x with ⟨_, _, x, h⟩ | ⟨_, x⟩
    · exact R.gown i c (atA x)
    · rcases new x with ⟨z, _⟩ | ⟨z1, k, y, _⟩ | ⟨_, z, _⟩
      · have := R.gown r ca (atT hca)
        rw [oca, eca, ← z] at this
        rcases this with q | q | q
        · cases q
        · cases q
        · exact .inr (.inr q)
      · exact R.gown k c y
      · exact .inr (.inr (R.fresh z))
  · intro i c x q
    rcases split x with ⟨_, _, x, h⟩ | ⟨_, x⟩
    · exact R.gfrz i c (atA x) q
    · rcases new x with ⟨_, z, _⟩ | ⟨z1, k, y, _⟩ | ⟨z, _⟩
      · rw [z] at q; cases q
      · exact R.gfrz k c y q
      · rw [z] at q; cases q
/-- a slot's tree is moved out (nothing borrows from it) -/
theorem Rel.move {r : Nat} (R : Rel g Γ n A σ H) (hr : r < n) (e : A[r]? = some (some t)) (nb : ∀ i c, CellAt g A i c → c.1 ≠ .bor r) : Rel g Γ n (A.set r none ++ [some t]) σ H := by
  have hrA : r < A.length := by have := R.len; omega
  have key : ∀ {i c}, CellAt g (A.set r none ++ [some t]) i c → ∃ k, CellAt g A k c ∧ ((k = r ∧ i = A.length) ∨ (k = i ∧ i ≠ r ∧ i < A.length)) := fun {i c} x => by
    rcases cellAt_snoc.mp x with x | ⟨ei, x2⟩
    · rcases (cellAt_set hrA).mp x with ⟨_, u, q, _⟩ | ⟨hi, x⟩
      · cases q
      · exact ⟨i, x, .inr ⟨rfl, hi, x.lt⟩⟩
    · exact ⟨r, ⟨t, e, x2⟩, .inl ⟨rfl, by simpa using ei⟩⟩
  refine ⟨by simp; have := R.len; omega, R.slen, ?_, fun i c x => ?_, fun i c r' x q => ?_, ?_, ?_, R.frame, fun i c x => ?_, fun i c x q => ?_, R.pin, R.tab, R.lck⟩
  · intro i u hi q
    have hiA : i < A.length := by have := R.len; omega
    rw [List.getElem?_append_left (by simpa using hiA)] at q
    by_cases h : i = r
    · subst h
      rw [List.getElem?_set_self hrA] at q; cases q
    · rw [List.getElem?_set_ne (Ne.symm h)] at q
      exact R.val i u hi q
  · obtain ⟨k, y, _⟩ := key x
    exact R.hold k c y
  · obtain ⟨k, y, _⟩ := key x
    exact R.lab k c r' y q
  · intro i u q
    rcases snoc_get q with ⟨hi, q⟩ | ⟨rfl, rfl⟩
    · by_cases h : i = r
      · subst h
        rw [List.getElem?_set_self hrA] at q; cases q
      · rw [List.getElem?_set_ne (Ne.symm h)] at q
        exact R.nd i u q
    · exact R.nd r u e
  · intro i j c d x y hown hadr
    obtain ⟨k1, x, h1⟩ := key x
    obtain ⟨k2, y, h2⟩ := key y
    rcases R.sep k1 k2 c d x y hown hadr with ⟨q, z⟩ | ⟨q, z⟩
    · exact .inl ⟨by omega, z⟩
    · refine .inr ⟨by omega, ?_⟩
      rcases h1 with ⟨h0, h1⟩ | ⟨h1, _⟩
      · exact absurd (h0 ▸ z) (nb k2 d y)
      · rw [← h1]; exact z
  · obtain ⟨k, y, _⟩ := key x
    exact R.gown k c y
  · obtain ⟨k, y, _⟩ := key x
    exact R.gfrz k c y q
end
end Lin
end
section
namespace Lin
open PySem L2
/-! ### the evaluator's results -/
abbrev Sg := List (Option D)
inductive R (α : Type) where
  | ok (a : α) (S : Sg)
  | exc (c : Nat) (d : D) (S : Sg)
  | bad
def R.bind {α β : Type} (x : R α) (f : α → Sg → R β) : R β := match x with
  | .ok a S => f a S
  | .exc c d S => .exc c d S
  | .bad => .bad
/-- a pure step that may fail -/
def R.lift {α : Type} (o : Option α) (S : Sg) : R α := match o with
  | some a => .ok a S
  | none => .bad
def ers (n : Nat) (A : List (Option T)) : Sg := (A.take n).map (Option.map T.er)
def cleanD (M : List Nat) (d : D) : Bool := M.all fun r => !hasBor r d
def dictOf : T → Option Addr
  | .im _ => none
  | .nd a _ _ _ _ => some a
section
variable (g : Gc) (n : Nat)
def Clean (M : List Nat) (A : List (Option T)) : Prop := ∀ r ∈ M, ∀ i c, n ≤ i → CellAt g A i c → c.1 ≠ .bor r
/-- the slots have changed (in their trees), the temps have not -/
structure Next (A A' : List (Option T)) : Prop where
  len : A'.length = A.length
  tmp : A'.drop n = A.drop n
/-- .. and of the slots those alone that M names (or a slot has been given up) -/
structure NextM (M : List Nat) (A A' : List (Option T)) : Prop extends Next n A A' where
  slot : ∀ i, i < n → i ∉ M → A'[i]? = A[i]? ∨ A'[i]? = some none
/-- .. and the names' values but M's are as they were -/
structure NextS (M : List Nat) (A A' : List (Option T)) (σ σ' : L2.St) : Prop extends Next n A A' where
  keep : ∀ j : Nat, n + j ∉ M → σ'[j]? = σ[j]?
variable (W : WX)
def PostX (Γ : Gh) (A : List (Option T)) (c : Nat) (d : D) (S : Sg) (σ : L2.St) : Prop :=
  ∀ A' t H', Rel g Γ n (A' ++ [some t]) σ H' → Next n A A' → ers n A' = S → t.er = d → W (.ref (g.cl c)) (dictOf t) σ H'
def PostE (M : List Nat) (Γ : Gh) (A : List (Option T)) (σ : L2.St) (Q : VK) : R D → Prop
  | .ok d S => ∀ A' t H', Rel g Γ n (A' ++ [some t]) σ H' → NextM n M A A' → ers n A' = S → t.er = d → Q t.root H'
  | .exc c d S => PostX g n W Γ A c d S σ
  | .bad => False
def PostA (M : List Nat) (Γ : Gh) (A : List (Option T)) (σ : L2.St) (Q : List V → Hp → Prop) : R (List D) → Prop
  | .ok ds S => ∀ A' (ts : List T) H', Rel g Γ n (A' ++ ts.map some) σ H' → NextM n M A A' → ers n A' = S → ts.map T.er = ds → Q (ts.map T.root) H'
  | .exc c d S => PostX g n W Γ A c d S σ
  | .bad => False
def PostT (M : List Nat) (Γ : Gh) (A : List (Option T)) (σ : L2.St) (Q : Bool → Hp → Prop) : R Bool → Prop
  | .ok b S => ∀ A' H', Rel g Γ n A' σ H' → NextM n M A A' → ers n A' = S → Q b H'
  | .exc c d S => PostX g n W Γ A c d S σ
  | .bad => False
inductive Fl where
  | nx | brk | cnt | ret (d : D)
def PostXS (M : List Nat) (Γ : Gh) (A : List (Option T)) (σ : L2.St) (c : Nat) (d : D) (S : Sg) : Prop :=
  ∀ A' t σ' H', Rel g Γ n (A' ++ [some t]) σ' H' → NextS n M A A' σ σ' → ers n A' = S → t.er = d → W (.ref (g.cl c)) (dictOf t) σ' H'
def PostS (M : List Nat) (Γ : Gh) (A : List (Option T)) (σ : L2.St) (D : Ends) : R Fl → Prop
  | .ok .nx S => ∀ A' σ' H', Rel g Γ n A' σ' H' → NextS n M A A' σ σ' → ers n A' = S → D.nx σ' H'
  | .ok .brk S => ∀ A' σ' H', Rel g Γ n A' σ' H' → NextS n M A A' σ σ' → ers n A' = S → D.bk σ' H'
  | .ok .cnt S => ∀ A' σ' H', Rel g Γ n A' σ' H' → NextS n M A A' σ σ' → ers n A' = S → D.ct σ' H'
  | .ok (.ret d) S => ∀ A' t σ' H', Rel g Γ n (A' ++ [some t]) σ' H' → NextS n M A A' σ σ' → ers n A' = S → t.er = d → D.rt t.root H'
  | .exc c d S => PostXS g n W M Γ A σ c d S
  | .bad => False
def MeanE (M : List Nat) (te : TE) (f : Sg → R D) : Prop := ∀ Γ A σ H Q, Rel g Γ n A σ H → Clean g n M A → PostE g n W M Γ A σ Q (f (ers n A)) → te σ H Q
def MeanA (M : List Nat) (ta : TA) (f : Sg → R (List D)) : Prop := ∀ Γ A σ H Q, Rel g Γ n A σ H → Clean g n M A → PostA g n W M Γ A σ Q (f (ers n A)) → ta σ H Q
def MeanT (M : List Nat) (tt : TT) (f : Sg → R Bool) : Prop := ∀ Γ A σ H Q, Rel g Γ n A σ H → Clean g n M A → PostT g n W M Γ A σ Q (f (ers n A)) → tt σ H Q
def MeanS (M : List Nat) (ts : TS) (f : Sg → R Fl) : Prop := ∀ Γ A σ H Dn, Rel g Γ n A σ H → Clean g n M A → PostS g n W M Γ A σ Dn (f (ers n A)) → ts Dn σ H
end
section
variable {g : Gc} {n : Nat} {W : WX} {Γ : Gh} {A A' A'' B : List (Option T)} {σ : L2.St} {H H' : Hp} {t : T} {M M1 M2 : List Nat}
theorem Next.refl (A : List (Option T)) : Next n A A := ⟨rfl, rfl⟩
theorem Next.trans (a : Next n A A') (b : Next n A' A'') : Next n A A'' := ⟨b.len.trans a.len, b.tmp.trans a.tmp⟩
theorem NextM.refl (M : List Nat) (A : List (Option T)) : NextM n M A A := ⟨.refl _, fun _ _ _ => .inl rfl⟩
theorem NextM.trans (a : NextM n M1 A A') (b : NextM n M2 A' A'') : NextM n (M1 ++ M2) A A'' := ⟨a.toNext.trans b.toNext, fun i hi hm => by
  rw [List.mem_append, not_or] at hm
  rcases b.slot i hi hm.2 with e | e
  · rw [e]; exact a.slot i hi hm.1
  · exact .inr e⟩
theorem NextM.mono (a : NextM n M1 A A') (h : ∀ r ∈ M1, r ∈ M) : NextM n M A A' := ⟨a.toNext, fun i hi hm => a.slot i hi fun z => hm (h i z)⟩
theorem Next.toS (a : Next n A A') (M : List Nat) (σ : L2.St) : NextS n M A A' σ σ := ⟨a, fun _ _ => rfl⟩
theorem NextS.refl (M : List Nat) (A : List (Option T)) (σ : L2.St) : NextS n M A A σ σ := ⟨.refl _, fun _ _ => rfl⟩
theorem NextS.trans {σ1 σ2 : L2.St} (a : NextS n M1 A A' σ σ1) (b : NextS n M2 A' A'' σ1 σ2) : NextS n (M1 ++ M2) A A'' σ σ2 := ⟨a.toNext.trans b.toNext, fun j hj => by
  rw [List.mem_append, not_or] at hj
  rw [b.keep j hj.2, a.keep j hj.1]⟩
theorem NextS.mono {σ1 : L2.St} (a : NextS n M1 A A' σ σ1) (h : ∀ r ∈ M1, r ∈ M) : NextS n M A A' σ σ1 := ⟨a.toNext, fun j hj => a.keep j fun z => hj (h _ z)⟩
theorem Next.left (a : Next n (A ++ B) A') (h : n ≤ A.length) : Next n A (A'.take A.length) ∧ A' = A'.take A.length ++ B := by
  have hl := a.len
  have ht := a.tmp
  rw [List.length_append] at hl
  have e : A' = A'.take A.length ++ A'.drop A.length := (List.take_append_drop _ _).symm
  have e2 : A'.drop A.length = B := by
    have := congrArg (List.drop (A.length - n)) ht
    rw [List.drop_drop, List.drop_drop, show n + (A.length - n) = A.length by omega, List.drop_left] at this
    exact this
  refine ⟨⟨by rw [List.length_take]; omega, ?_⟩, by rw [← e2]; exact e⟩
  have h3 : (A'.take A.length).drop n = (A'.drop n).take (A.length - n) := by rw [List.drop_take]
  rw [h3, ht, List.drop_append_of_le_length h, List.take_append_of_le_length (by rw [List.length_drop]; omega)]
  apply List.take_of_length_le
  rw [List.length_drop]; omega
theorem NextM.left (a : NextM n M (A ++ B) A') (h : n ≤ A.length) : NextM n M A (A'.take A.length) ∧ A' = A'.take A.length ++ B := by
  obtain ⟨y, z⟩ := a.toNext.left h
  refine ⟨⟨y, fun i hi hm => ?_⟩, z⟩
  have q := a.slot i hi hm
  rw [List.getElem?_append_left (by omega)] at q
  rw [List.getElem?_take_of_lt (by omega)]
  exact q
theorem Next.app (a : Next n A A') (h : n ≤ A.length) (B : List (Option T)) : Next n (A ++ B) (A' ++ B) :=
  ⟨by rw [List.length_append, List.length_append, a.len], by rw [List.drop_append_of_le_length h, List.drop_append_of_le_length (by rw [a.len]; exact h), a.tmp]⟩
theorem ers_append (h : n ≤ A.length) (B : List (Option T)) : ers n (A ++ B) = ers n A := by
  unfold ers
  rw [List.take_append_of_le_length h]
theorem ers_get {i : Nat} (hi : i < n) : (ers n A)[i]? = A[i]?.map (Option.map T.er) := by
  unfold ers
  rw [List.getElem?_map, List.getElem?_take_of_lt hi]
theorem ers_some {i : Nat} {d : D} (h : (ers n A)[i]? = some (some d)) : ∃ t, A[i]? = some (some t) ∧ t.er = d ∧ i < n := by
  have hi : i < n := by
    by_cases hi : i < n
    · exact hi
    · rw [List.getElem?_eq_none (by unfold ers; simp; omega)] at h; cases h
  rw [ers_get hi] at h
  cases e : A[i]? with
  | none => rw [e] at h; cases h
  | some o =>
    cases o with
    | none => rw [e] at h; cases h
    | some t => rw [e] at h; exact ⟨t, rfl, by simpa using h, hi⟩
theorem ers_set {i : Nat} (hi : i < n) (o : Option T) : ers n (A.set i o) = (ers n A).set i (o.map T.er) := by
  unfold ers
  rw [List.take_set, List.map_set]
theorem ers_kill {r : Nat} (h : n ≤ A.length) : ers n (kill n r A) = (ers n A).map (killD r) := by
  unfold ers kill
  rw [List.take_append_of_le_length (by simp; omega), List.take_of_length_le (by simp; omega), List.map_map, List.map_map]
  apply List.map_congr_left
  intro o _
  cases o with
  | none => rfl
  | some t =>
    show Option.map T.er (if hasBor r t.er then none else some t) = (if hasBor r t.er then none else some t.er)
    by_cases e : hasBor r t.er = true
    · rw [if_pos e, if_pos e]; rfl
    · rw [if_neg e, if_neg e]; rfl
theorem Clean.mono (c : Clean g n M A) (h : ∀ r ∈ M1, r ∈ M) : Clean g n M1 A := fun r hr => c r (h r hr)
theorem Clean.left (c : Clean g n (M1 ++ M2) A) : Clean g n M1 A := c.mono fun r h => List.mem_append_left _ h
theorem Clean.right (c : Clean g n (M1 ++ M2) A) : Clean g n M2 A := c.mono fun r h => List.mem_append_right _ h
theorem Clean.next (c : Clean g n M A) (x : Next n A A') (h : n ≤ A.length) : Clean g n M A' := fun r hr i cl hi ⟨t, e, hc⟩ => by
  refine c r hr i cl hi ⟨t, ?_, hc⟩
  have : A'[i]? = A[i]? := by
    have e1 : A'[i]? = (A'.drop n)[i - n]? := by rw [List.getElem?_drop]; congr 1; omega
    have e2 : A[i]? = (A.drop n)[i - n]? := by rw [List.getElem?_drop]; congr 1; omega
    rw [e1, e2, x.tmp]
  rw [← this]; exact e
theorem cleanD_iff : cleanD M t.er = true ↔ ∀ r ∈ M, ∀ c ∈ t.cells g, c.1 ≠ .bor r := by
  unfold cleanD
  rw [List.all_eq_true]
  constructor
  · intro h r hr c hc e
    have q := h r hr
    have : hasBor r t.er = true := (hasBor_iff (g := g)).mpr ⟨c, hc, e⟩
    rw [this] at q; cases q
  · intro h r hr
    cases q : hasBor r t.er with
    | false => rfl
    | true =>
      obtain ⟨c, hc, e⟩ := (hasBor_iff (g := g)).mp q
      exact absurd e (h r hr c hc)
theorem Clean.snoc (c : Clean g n M A) (h : cleanD M t.er = true) : Clean g n M (A ++ [some t]) := fun r hr i cl hi x => by
  rcases cellAt_snoc.mp x with x | ⟨_, x⟩
  · exact c r hr i cl hi x
  · exact cleanD_iff.mp h r hr cl x
theorem Clean.nil : Clean g n [] A := fun r hr => nomatch hr
theorem Rel.nA (R : Rel g Γ n A σ H) : n ≤ A.length := R.len
/-- what is wanted behind the first part of a thing -/
theorem PostX.of {c : Nat} {d : D} {S : Sg} (h : PostX g n W Γ A c d S σ) (x : Next n A A') : PostX g n W Γ A' c d S σ := fun A2 t H' R y => h A2 t H' R (x.trans y)
end
/-! ### expressions -/
/-- e is read as te, which means f; M: the slots that it may change -/
structure SdE (X : Cx) (g : Gc) (W : WX) (M : List Nat) (e : Expr) (te : TE) (f : Sg → R D) : Prop where
  pe : PE X e te
  mn : MeanE g X.N.length W M te f
structure SdT (X : Cx) (g : Gc) (W : WX) (M : List Nat) (e : Expr) (tt : TT) (f : Sg → R Bool) : Prop where
  pt : PT X e tt
  mn : MeanT g X.N.length W M tt f
structure SdA (X : Cx) (g : Gc) (W : WX) (M : List Nat) (es : List Expr) (ta : TA) (f : Sg → R (List D)) : Prop where
  pa : PA X es ta
  mn : MeanA g X.N.length W M ta f
structure SdS (X : Cx) (g : Gc) (W : WX) (M : List Nat) (st : Stmt) (ts : TS) (f : Sg → R Fl) : Prop where
  ps : PS X st ts
  mn : MeanS g X.N.length W M ts f
structure SdSs (X : Cx) (g : Gc) (W : WX) (M : List Nat) (st : List Stmt) (ts : TS) (f : Sg → R Fl) : Prop where
  ps : PSs X st ts
  mn : MeanS g X.N.length W M ts f
def cVar (i : Nat) : Sg → R D := fun S => match S[i]? with
  | some (some d) => .ok (d.mk (kBo i)) S
  | _ => .bad
def cMv (i : Nat) : Sg → R D := fun S => match S[i]? with
  | some (some d) => if hasBor i d then .bad else .ok d ((S.map (killD i)).set i none)
  | _ => .bad
def cLit (v : V) : Sg → R D := fun S => .ok (.im v) S
section
variable {g : Gc} {n : Nat} {W : WX} {Γ : Gh} {A A' A'' B : List (Option T)} {σ : L2.St} {H H' : Hp} {t : T} {M M1 M2 : List Nat}
theorem kill_slot {r j : Nat} (h : n ≤ A.length) (hj : j < n) : (kill n r A)[j]? = A[j]? ∨ (kill n r A)[j]? = some none := by
  unfold kill
  rw [List.getElem?_append_left (by simp; omega), List.getElem?_map, List.getElem?_take_of_lt hj]
  cases e : A[j]? with
  | none => exact absurd (List.getElem?_eq_none_iff.mp e) (by omega)
  | some o =>
    cases o with
    | none => exact .inr rfl
    | some t =>
      show some (if hasBor r t.er then none else some t) = _ ∨ _
      by_cases q : hasBor r t.er = true
      · rw [if_pos q]; exact .inr (by show some (if hasBor r t.er then none else some t) = _; rw [if_pos q])
      · rw [if_neg q]; exact .inl rfl
theorem mean_var (i : Nat) : MeanE g n W [] (tVar i) (cVar i) := by
  intro Γ A σ H Q R _ h
  unfold cVar at h
  split at h
  · rename_i d e
    obtain ⟨t, e1, e2, hi⟩ := ers_some e
    exact ⟨_, R.val i t hi e1, by
      have := h A (t.mk (kBo i)) H (R.var hi e1) (.refl _ _) rfl (by rw [er_mk, e2])
      rw [root_mk] at this
      exact this⟩
  · exact h.elim
theorem mean_mv (i : Nat) : MeanE g n W [i] (tVar i) (cMv i) := by
  intro Γ A σ H Q R cl h
  unfold cMv at h
  split at h
  · rename_i d e
    obtain ⟨t, e1, e2, hi⟩ := ers_some e
    by_cases hb : hasBor i d = true
    · rw [if_pos hb] at h; exact h.elim
    · rw [if_neg hb] at h
      refine ⟨_, R.val i t hi e1, ?_⟩
      have hb' : hasBor i t.er = false := by rw [e2]; simpa using hb
      have e3 : (kill n i A)[i]? = some (some t) := by
        unfold kill
        rw [List.getElem?_append_left (by simp; have := R.len; omega), List.getElem?_map, List.getElem?_take_of_lt hi, e1]
        show some (if hasBor i t.er then none else some t) = _
        rw [hb']; rfl
      have nb : ∀ j c, CellAt g (kill n i A) j c → c.1 ≠ .bor i := fun j c ⟨u, eu, hc⟩ q => by
        obtain ⟨k1, k2⟩ := kill_get eu
        by_cases hj : j < n
        · have := k2 hj
          rw [(hasBor_iff (g := g)).mpr ⟨c, hc, q⟩] at this; cases this
        · exact cl i (by simp) j c (by omega) ⟨u, k1, hc⟩ q
      have R2 := (R.kill i).move hi e3 nb
      refine h ((kill n i A).set i none) t H R2 ⟨⟨by simp [kill_length], ?_⟩, fun j hj hm => ?_⟩ ?_ e2
      rotate_left
      · have : j ≠ i := by simpa using hm
        rw [List.getElem?_set_ne (Ne.symm this)]
        exact kill_slot R.len hj
      rotate_right
      · rw [List.drop_set_of_lt hi]
        unfold kill
        rw [List.drop_append_of_le_length (by simp; have := R.len; omega), List.drop_of_length_le (by simp; omega), List.nil_append]
      · rw [ers_set hi, ers_kill R.len]; rfl
  · exact h.elim
theorem mean_lit (v : V) : MeanE g n W [] (tC v) (cLit v) := by
  intro Γ A σ H Q R _ h
  exact h A (.im v) H ((show Rel g Γ n (A ++ []) σ H by rw [List.append_nil]; exact R).imm R.len v) (.refl _ _) rfl rfl
end
/-! ### two parts, one after the other -/
def cTwo (M2 : List Nat) (fa fb : Sg → R D) (op : D → D → Option D) : Sg → R D := fun S => (fa S).bind fun da S1 => if cleanD M2 da then (fb S1).bind fun db S2 => R.lift (op da db) S2 else .bad
/-- an operation on two temps -/
def OpM (g : Gc) (n : Nat) (r : R2) (op : D → D → Option D) : Prop := ∀ Γ A ta tb σ H Q d, Rel g Γ n (A ++ [some ta] ++ [some tb]) σ H → n ≤ A.length → op ta.er tb.er = some d →
  (∀ t H', Rel g Γ n (A ++ [some t]) σ H' → t.er = d → Q t.root H') → r ta.root tb.root H Q
section
variable {g : Gc} {n : Nat} {W : WX} {Γ : Gh} {A A' A'' B : List (Option T)} {σ : L2.St} {H H' : Hp} {t : T} {M M1 M2 : List Nat}
theorem mean_two {ta tb : TE} {fa fb : Sg → R D} {r : R2} {op : D → D → Option D} (ha : MeanE g n W M1 ta fa) (hb : MeanE g n W M2 tb fb) (ho : OpM g n r op) : MeanE g n W (M1 ++ M2) (tOp r ta tb) (cTwo M2 fa fb op) := by
  intro Γ A σ H Q R cl h
  refine ha Γ A σ H _ R cl.left ?_
  unfold cTwo at h
  cases ea : fa (ers n A) with
  | bad => rw [ea] at h; exact h.elim
  | exc c d S => rw [ea] at h; exact h
  | ok da S1 =>
    rw [ea] at h
    dsimp only [Lin.R.bind] at h
    intro A1 t1 H1 R1 x1 e1 d1
    by_cases hc : cleanD M2 da = true
    · rw [if_pos hc] at h
      have n1 : n ≤ A1.length := by rw [x1.len]; exact R.len
      refine hb Γ (A1 ++ [some t1]) σ H1 _ R1 ((cl.right.next x1.toNext R.len).snoc (by rw [d1]; exact hc)) ?_
      rw [ers_append n1, e1]
      cases eb : fb S1 with
      | bad => rw [eb] at h; exact h.elim
      | exc c d S =>
        rw [eb] at h
        intro A2 t2 H2 R2 x2 e2 d2
        obtain ⟨y, z⟩ := x2.left n1
        have n3 : n ≤ (A2.take A1.length).length := by rw [y.len]; exact n1
        refine h (A2.take A1.length) t2 H2 ?_ (x1.toNext.trans y) ?_ d2
        · rw [z, List.append_assoc] at R2
          refine R2.subst (t := t2) n3 (fun _ _ q => q) (fun c hc => .inr ⟨1, ⟨t2, by simp, hc⟩⟩) ⟨[], by simp, by simp, ?_⟩
          simp [ownsO]
        · rw [z, ers_append n3] at e2; exact e2
      | ok db S2 =>
        rw [eb] at h
        dsimp only [Lin.R.bind] at h
        intro A2 t2 H2 R2 x2 e2 d2
        obtain ⟨y, z⟩ := x2.left n1
        have n3 : n ≤ (A2.take A1.length).length := by rw [y.len]; exact n1
        cases eo : op da db with
        | none => rw [eo] at h; exact h.elim
        | some d =>
          rw [eo] at h
          rw [z] at R2
          refine ho Γ (A2.take A1.length) t1 t2 σ H2 Q d R2 n3 (by rw [d1, d2]; exact eo) fun t H' R' et => ?_
          exact h _ t H' R' (x1.trans y) (by rw [z, ers_append n3] at e2; exact e2) et
    · rw [if_neg hc] at h; exact h.elim
end
end Lin
end
section
namespace Lin
open PySem L2
/-! ### one part; several parts -/
def cOne (fa : Sg → R D) (op : D → Option D) : Sg → R D := fun S => (fa S).bind fun da S1 => R.lift (op da) S1
def cTest (fa : Sg → R D) (op : D → Option Bool) : Sg → R Bool := fun S => (fa S).bind fun da S1 => R.lift (op da) S1
def cNil : Sg → R (List D) := fun S => .ok [] S
def cCons (M2 : List Nat) (fa : Sg → R D) (fr : Sg → R (List D)) : Sg → R (List D) := fun S => (fa S).bind fun da S1 => if cleanD M2 da then (fr S1).bind fun ds S2 => .ok (da :: ds) S2 else .bad
def cMany (fr : Sg → R (List D)) (op : List D → Option D) : Sg → R D := fun S => (fr S).bind fun ds S1 => R.lift (op ds) S1
def UnM (g : Gc) (n : Nat) (r : V → Hp → VK → Prop) (op : D → Option D) : Prop := ∀ Γ A ta σ H Q d, Rel g Γ n (A ++ [some ta]) σ H → n ≤ A.length → op ta.er = some d →
  (∀ t H', Rel g Γ n (A ++ [some t]) σ H' → t.er = d → Q t.root H') → r ta.root H Q
def TsM (g : Gc) (n : Nat) (r : V → Hp → (Bool → Hp → Prop) → Prop) (op : D → Option Bool) : Prop := ∀ Γ A ta σ H Q b, Rel g Γ n (A ++ [some ta]) σ H → n ≤ A.length → op ta.er = some b → Q b H → r ta.root H Q
def CaM (g : Gc) (n : Nat) (r : List V → Hp → VK → Prop) (op : List D → Option D) : Prop := ∀ Γ A (ts : List T) σ H Q d, Rel g Γ n (A ++ ts.map some) σ H → n ≤ A.length → op (ts.map T.er) = some d →
  (∀ t H', Rel g Γ n (A ++ [some t]) σ H' → t.er = d → Q t.root H') → r (ts.map T.root) H Q
section
variable {g : Gc} {n : Nat} {W : WX} {Γ : Gh} {A A' A'' B : List (Option T)} {σ : L2.St} {H H' : Hp} {t : T} {M M1 M2 : List Nat}
theorem mean_one {ta : TE} {fa : Sg → R D} {r : V → Hp → VK → Prop} {op : D → Option D} (ha : MeanE g n W M1 ta fa) (ho : UnM g n r op) : MeanE g n W M1 (tUn r ta) (cOne fa op) := by
  intro Γ A σ H Q Rr cl h
  refine ha Γ A σ H _ Rr cl ?_
  unfold cOne at h
  cases ea : fa (ers n A) with
  | bad => rw [ea] at h; exact h.elim
  | exc c d S => rw [ea] at h; exact h
  | ok da S1 =>
    rw [ea] at h
    dsimp only [Lin.R.bind] at h
    intro A1 t1 H1 R1 x1 e1 d1
    cases eo : op da with
    | none => rw [eo] at h; exact h.elim
    | some d =>
      rw [eo] at h
      exact ho Γ A1 t1 σ H1 Q d R1 (by rw [x1.len]; exact Rr.len) (by rw [d1]; exact eo) fun t H' R' et => h A1 t H' R' x1 e1 et
theorem mean_test {ta : TE} {fa : Sg → R D} {r : V → Hp → (Bool → Hp → Prop) → Prop} {op : D → Option Bool} (ha : MeanE g n W M1 ta fa) (ho : TsM g n r op) : MeanT g n W M1 (fun σ H Q => ta σ H fun x H1 => r x H1 Q) (cTest fa op) := by
  intro Γ A σ H Q Rr cl h
  refine ha Γ A σ H _ Rr cl ?_
  unfold cTest at h
  cases ea : fa (ers n A) with
  | bad => rw [ea] at h; exact h.elim
  | exc c d S => rw [ea] at h; exact h
  | ok da S1 =>
    rw [ea] at h
    dsimp only [Lin.R.bind] at h
    intro A1 t1 H1 R1 x1 e1 d1
    cases eo : op da with
    | none => rw [eo] at h; exact h.elim
    | some b =>
      rw [eo] at h
      have n1 : n ≤ A1.length := by rw [x1.len]; exact Rr.len
      exact ho Γ A1 t1 σ H1 Q b R1 n1 (by rw [d1]; exact eo) (h A1 H1 (R1.drop n1) x1 e1)
theorem mean_nil : MeanA g n W [] tNil cNil := by
  intro Γ A σ H Q Rr cl h
  have := h A [] H (by simpa using Rr) (.refl _ _) rfl rfl
  exact this
theorem mean_cons {ta : TE} {tr : TA} {fa : Sg → R D} {fr : Sg → R (List D)} (ha : MeanE g n W M1 ta fa) (hr : MeanA g n W M2 tr fr) : MeanA g n W (M1 ++ M2) (tCons ta tr) (cCons M2 fa fr) := by
  intro Γ A σ H Q Rr cl h
  refine ha Γ A σ H _ Rr cl.left ?_
  unfold cCons at h
  cases ea : fa (ers n A) with
  | bad => rw [ea] at h; exact h.elim
  | exc c d S => rw [ea] at h; exact h
  | ok da S1 =>
    rw [ea] at h
    dsimp only [Lin.R.bind] at h
    intro A1 t1 H1 R1 x1 e1 d1
    by_cases hc : cleanD M2 da = true
    · rw [if_pos hc] at h
      have n1 : n ≤ A1.length := by rw [x1.len]; exact Rr.len
      refine hr Γ (A1 ++ [some t1]) σ H1 _ R1 ((cl.right.next x1.toNext Rr.len).snoc (by rw [d1]; exact hc)) ?_
      rw [ers_append n1, e1]
      cases eb : fr S1 with
      | bad => rw [eb] at h; exact h.elim
      | exc c d S =>
        rw [eb] at h
        intro A2 t2 H2 R2 x2 e2 d2
        obtain ⟨y, z⟩ := x2.left n1
        have n3 : n ≤ (A2.take A1.length).length := by rw [y.len]; exact n1
        refine h (A2.take A1.length) t2 H2 ?_ (x1.toNext.trans y) ?_ d2
        · rw [z, List.append_assoc] at R2
          refine R2.subst (t := t2) n3 (fun _ _ q => q) (fun c hc => .inr ⟨1, ⟨t2, by simp, hc⟩⟩) ⟨[], by simp, by simp, ?_⟩
          simp [ownsO]
        · rw [z, ers_append n3] at e2; exact e2
      | ok ds S2 =>
        rw [eb] at h
        dsimp only [Lin.R.bind] at h
        intro A2 ts H2 R2 x2 e2 d2
        obtain ⟨y, z⟩ := x2.left n1
        have n3 : n ≤ (A2.take A1.length).length := by rw [y.len]; exact n1
        rw [z, List.append_assoc] at R2
        have := h (A2.take A1.length) (t1 :: ts) H2 (by simpa using R2) (x1.trans y) (by rw [z, ers_append n3] at e2; exact e2) (by simp [d1, d2])
        exact this
    · rw [if_neg hc] at h; exact h.elim
theorem mean_many {ta : TA} {fr : Sg → R (List D)} {r : List V → Hp → VK → Prop} {op : List D → Option D} (ha : MeanA g n W M1 ta fr) (ho : CaM g n r op) : MeanE g n W M1 (tCB r ta) (cMany fr op) := by
  intro Γ A σ H Q Rr cl h
  refine ha Γ A σ H _ Rr cl ?_
  unfold cMany at h
  cases ea : fr (ers n A) with
  | bad => rw [ea] at h; exact h.elim
  | exc c d S => rw [ea] at h; exact h
  | ok ds S1 =>
    rw [ea] at h
    dsimp only [Lin.R.bind] at h
    intro A1 ts H1 R1 x1 e1 d1
    cases eo : op ds with
    | none => rw [eo] at h; exact h.elim
    | some d =>
      rw [eo] at h
      exact ho Γ A1 ts σ H1 Q d R1 (by rw [x1.len]; exact Rr.len) (by rw [d1]; exact eo) fun t H' R' et => h A1 t H' R' x1 e1 et
theorem Rel.top1 {a : Addr} {k : Kd} {s : Sh} {dx : Addr} {ts : List T} (Rr : Rel g Γ n (A ++ [some (.nd a k s dx ts)]) σ H) : Hd H (kz s k, a, ho g s dx (ts.map T.root)) :=
  Rr.hold A.length (kz s k, a, ho g s dx (ts.map T.root)) ⟨.nd a k s dx ts, by simp, by rw [T.cells]; exact List.mem_cons_self⟩
theorem Rel.top2 {o : Option T} {a : Addr} {k : Kd} {s : Sh} {dx : Addr} {ts : List T} (Rr : Rel g Γ n (A ++ [some (.nd a k s dx ts)] ++ [o]) σ H) : Hd H (kz s k, a, ho g s dx (ts.map T.root)) :=
  Rr.hold A.length (kz s k, a, ho g s dx (ts.map T.root)) ⟨.nd a k s dx ts, by simp, by rw [T.cells]; exact List.mem_cons_self⟩
/-! ### new nodes -/
theorem Rel.node {p : Addr} {ts : List T} (Rr : Rel g Γ n (A ++ B) σ H) (hn : n ≤ A.length) (hp : H p = none) (s : Sh) (dx : Addr) (hc : ∀ c ∈ cellsL g ts, ∃ i, CellAt g B i c)
    (hs : (ownsC (cellsL g ts)).Sublist (B.flatMap (ownsO g))) (hsc : s ≠ .scr := by intro z; cases z) : Rel g Γ n (A ++ [some (.nd p .own s dx ts)]) σ (upd H p (ho g s dx (ts.map T.root))) := by
  refine Rr.subst hn (fun a o e => by rw [upd_ne (ne_of_none e hp)]; exact e) (fun c h => ?_) ⟨[p], by simpa using hp, by simp, ?_⟩
  · rw [T.cells] at h
    rcases List.mem_cons.mp h with rfl | h
    · exact .inl ⟨newC_node g p dx s _ hsc, hp, upd_same⟩
    · exact .inr (hc c h)
  · rw [T.cells]
    have e : ownsC ((kz s .own, p, ho g s dx (ts.map T.root)) :: cellsL g ts) = (if kz s .own = .own then [p] else []) ++ ownsC (cellsL g ts) := by
      by_cases z : kz s .own = .own <;> simp [ownsC, z]
    rw [e]
    refine List.Sublist.append ?_ hs
    split
    · exact List.Sublist.refl _
    · exact List.nil_sublist _
theorem flat_owns (ts : List T) : (ts.map some).flatMap (ownsO g) = ownsC (cellsL g ts) := by
  induction ts with
  | nil => rfl
  | cons t r ih => simp only [List.map_cons, List.flatMap_cons, cellsL, ownsC_append, ih]; rfl
theorem cellAt_map {ts : List T} {c : Cell} : (∃ i, CellAt g (ts.map some) i c) ↔ c ∈ cellsL g ts := by
  rw [cellsL_eq, List.mem_flatMap]
  constructor
  · rintro ⟨i, t, e, hc⟩
    rw [List.getElem?_map] at e
    cases q : ts[i]? with
    | none => rw [q] at e; cases e
    | some u =>
      rw [q] at e
      have : u = t := by simpa using e
      subst this
      exact ⟨u, List.mem_of_getElem? q, hc⟩
  · rintro ⟨t, ht, hc⟩
    obtain ⟨i, hi, e⟩ := List.getElem_of_mem ht
    exact ⟨i, t, by rw [List.getElem?_map, List.getElem?_eq_getElem hi, e]; rfl, hc⟩
theorem Rel.alloc {p : Addr} {ts : List T} (Rr : Rel g Γ n (A ++ ts.map some) σ H) (hn : n ≤ A.length) (hp : H p = none) (s : Sh) (dx : Addr) (hsc : s ≠ .scr := by intro z; cases z) :
    Rel g Γ n (A ++ [some (.nd p .own s dx ts)]) σ (upd H p (ho g s dx (ts.map T.root))) :=
  Rr.node hn hp s dx (fun c hc => cellAt_map.mpr hc) (by rw [flat_owns]; exact List.Sublist.refl _) hsc
/-- one of the temps' parts, as it is -/
theorem Rel.part (Rr : Rel g Γ n (A ++ B) σ H) (hn : n ≤ A.length) (hc : ∀ c ∈ t.cells g, ∃ i, CellAt g B i c) (hs : (ownsC (t.cells g)).Sublist (B.flatMap (ownsO g))) : Rel g Γ n (A ++ [some t]) σ H :=
  Rr.subst hn (fun _ _ q => q) (fun c h => .inr (hc c h)) ⟨[], by simp, by simp, by simpa using hs⟩
theorem cells_sublist {ts us : List T} (h : ts.Sublist us) : (cellsL g ts).Sublist (cellsL g us) := by
  induction h with
  | slnil => exact List.Sublist.refl _
  | cons t _ ih => exact ih.trans (by rw [cellsL]; exact List.sublist_append_right _ _)
  | cons_cons t _ ih => rw [cellsL, cellsL]; exact List.Sublist.append (List.Sublist.refl _) ih
theorem owns_sublist {a b : List Cell} (h : a.Sublist b) : (ownsC a).Sublist (ownsC b) := h.filterMap _
theorem child_sub {a : Addr} {k : Kd} {s : Sh} {dx : Addr} {ts : List T} : (cellsL g ts).Sublist ((T.nd a k s dx ts).cells g) := by rw [T.cells]; exact List.sublist_cons_self _ _
theorem at_sub {ts : List T} {i : Nat} {u : T} (h : ts[i]? = some u) : (u.cells g).Sublist (cellsL g ts) := by
  have : [u].Sublist ts := by rw [List.singleton_sublist]; exact List.mem_of_getElem? h
  have := cells_sublist (g := g) this
  simpa [cellsL] using this
theorem Rel.node1 {p : Addr} {ts : List T} (Rr : Rel g Γ n (A ++ [some t]) σ H) (hn : n ≤ A.length) (hp : H p = none) (s : Sh) (dx : Addr) (h : (cellsL g ts).Sublist (t.cells g)) (hsc : s ≠ .scr := by intro z; cases z) :
    Rel g Γ n (A ++ [some (.nd p .own s dx ts)]) σ (upd H p (ho g s dx (ts.map T.root))) :=
  Rr.node hn hp s dx (fun c hc => ⟨0, t, rfl, h.subset hc⟩) (by simpa [ownsO] using owns_sublist h) hsc
end
/-! ### ints -/
def dI2 (f : Int → Int → Option V) (a b : D) : Option D := match a, b with
  | .im (.int i), .im (.int j) => (f i j).map .im
  | _, _ => none
theorem er_im {t : T} {v : V} (h : t.er = .im v) : t = .im v := by
  cases t with
  | im w => simp [T.er] at h; rw [h]
  | nd a k s dx ts => simp [T.er] at h
theorem er_nd {t : T} {k : Kd} {s : Sh} {ds : List D} (h : t.er = .nd k s ds) : ∃ a dx ts, t = .nd a k s dx ts ∧ ts.map T.er = ds := by
  cases t with
  | im w => simp [T.er] at h
  | nd a k' s' dx ts =>
    simp only [T.er, D.nd.injEq] at h
    obtain ⟨rfl, rfl, h⟩ := h
    exact ⟨a, dx, ts, rfl, by rw [← erL_eq]; exact h⟩
section
variable {g : Gc} {n : Nat}
theorem dI2_some {f : Int → Int → Option V} {a b : D} {d : D} (h : dI2 f a b = some d) : ∃ i j v, a = .im (.int i) ∧ b = .im (.int j) ∧ f i j = some v ∧ d = .im v := by
  unfold dI2 at h
  split at h
  · rename_i i j
    cases e : f i j with
    | none => rw [e] at h; cases h
    | some v => rw [e] at h; exact ⟨i, j, v, rfl, rfl, e, by simpa using h.symm⟩
  · cases h
theorem opm_int {C : Int → Int → Prop} {gg : Int → Int → V} {f : Int → Int → Option V} (h : ∀ i j v, f i j = some v → C i j ∧ v = gg i j) : OpM g n (rI C gg) (dI2 f) := by
  intro Γ A ta tb σ H Q d Rr hn eo hq
  obtain ⟨i, j, v, e1, e2, e3, rfl⟩ := dI2_some eo
  obtain ⟨hc, rfl⟩ := h i j v e3
  rw [er_im e1, er_im e2]
  refine ⟨i, j, rfl, rfl, hc, ?_⟩
  rw [List.append_assoc] at Rr
  exact hq (.im (gg i j)) H (Rr.imm hn _) rfl
theorem opm_int0 {gg : Int → Int → V} : OpM g n (rI0 gg) (dI2 fun i j => some (gg i j)) := by
  intro Γ A ta tb σ H Q d Rr hn eo hq
  obtain ⟨i, j, v, e1, e2, e3, rfl⟩ := dI2_some eo
  cases e3
  rw [er_im e1, er_im e2]
  refine ⟨i, j, rfl, rfl, ?_⟩
  rw [List.append_assoc] at Rr
  exact hq (.im (gg i j)) H (Rr.imm hn _) rfl
theorem OpM.or {r1 r2 : R2} {o1 o2 : D → D → Option D} (h1 : OpM g n r1 o1) (h2 : OpM g n r2 o2) : OpM g n (fun x y H Q => r1 x y H Q ∨ r2 x y H Q) (fun a b => (o1 a b).or (o2 a b)) := by
  intro Γ A ta tb σ H Q d Rr hn eo hq
  dsimp only at eo
  cases e : o1 ta.er tb.er with
  | some d' =>
    rw [e] at eo
    have : d' = d := by simpa using eo
    subst this
    exact .inl (h1 Γ A ta tb σ H Q _ Rr hn e hq)
  | none =>
    rw [e] at eo
    exact .inr (h2 Γ A ta tb σ H Q _ Rr hn (by simpa using eo) hq)
/-! ### lists, tuples -/
def dCat (a b : D) : Option D := match a, b with
  | .nd _ .lst xs, .nd _ .lst ys => if xs.length + ys.length ≤ sizeLine then some (.nd .own .lst (xs ++ ys)) else none
  | _, _ => none
theorem opm_cat : OpM g n rCat dCat := by
  intro Γ A ta tb σ H Q d Rr hn eo hq
  unfold dCat at eo
  split at eo
  · rename_i k xs k' ys e1 e2
    split at eo
    · rename_i hz
      obtain ⟨a, dx, ts, rfl, h1⟩ := er_nd e1
      obtain ⟨b, dy, us, rfl, h2⟩ := er_nd e2
      cases eo
      have c1 : H a = some (.lst (ts.map T.root)) := Rr.top2.flat id
      have c2 : H b = some (.lst (us.map T.root)) := Rr.top1.flat id
      refine ⟨a, b, _, _, rfl, rfl, c1, c2, by simpa [← h1, ← h2] using hz, fun p hp => ?_⟩
      rw [List.append_assoc] at Rr
      have R2 := Rr.node (p := p) (ts := ts ++ us) hn hp .lst 0 (fun c hc => ?_) ?_
      · rw [← List.map_append]
        exact hq _ _ R2 (by simp [T.er, erL_eq, h1, h2])
      · rw [cellsL_append] at hc
        rcases List.mem_append.mp hc with h | h
        · exact ⟨0, _, rfl, child_sub.subset h⟩
        · exact ⟨1, _, rfl, child_sub.subset h⟩
      · rw [cellsL_append, ownsC_append]
        simp only [List.cons_append, List.nil_append, List.flatMap_cons, List.flatMap_nil, List.append_nil, ownsO]
        exact List.Sublist.append (owns_sublist child_sub) (owns_sublist child_sub)
    · cases eo
  · cases eo
def dIx (a b : D) : Option D := match a, b with
  | .nd _ .lst xs, .im (.int i) => atI xs i
  | .nd _ .tup xs, .im (.int i) => atI xs i
  | _, _ => none
theorem atI_map {α β : Type} (f : α → β) (xs : List α) (i : Int) : atI (xs.map f) i = (atI xs i).map f := by
  unfold atI
  rw [List.length_map]
  cases ixN xs.length i with
  | none => rfl
  | some j => simp
theorem atI_some {α : Type} {xs : List α} {i : Int} {x : α} (h : atI xs i = some x) : ∃ j, ixN xs.length i = some j ∧ xs[j]? = some x := by
  unfold atI at h
  cases e : ixN xs.length i with
  | none => rw [e] at h; cases h
  | some j => rw [e] at h; exact ⟨j, rfl, h⟩
theorem opm_ix {K : PySem.W.Frag} : OpM g n (fun x y H Q => rIxL K x y H Q ∨ rIxT K x y H Q) dIx := by
  intro Γ A ta tb σ H Q d Rr hn eo hq
  rw [List.append_assoc] at Rr
  have go : ∀ {a : Addr} {k : Kd} {s : Sh} {dx : Addr} {ts : List T} {i : Int}, ta = .nd a k s dx ts → atI (ts.map T.er) i = some d → ∃ u, atI (ts.map T.root) i = some u.root ∧ Q (T.root u) H := fun {a k s dx ts i} e h => by
    rw [atI_map] at h
    cases q : atI ts i with
    | none => rw [q] at h; cases h
    | some u =>
      rw [q] at h
      obtain ⟨j, _, hj⟩ := atI_some q
      refine ⟨u, by rw [atI_map, q]; rfl, hq u H ?_ (by simpa using h)⟩
      have hs : (u.cells g).Sublist (ta.cells g) := by rw [e]; exact (at_sub hj).trans child_sub
      exact Rr.part hn (fun c hc => ⟨0, ta, rfl, hs.subset hc⟩) (by
        simp only [List.cons_append, List.nil_append, List.flatMap_cons, List.flatMap_nil, List.append_nil, ownsO]
        exact (owns_sublist hs).trans (List.sublist_append_left _ _))
  have hold : ∀ {a : Addr} {k : Kd} {s : Sh} {dx : Addr} {ts : List T}, ta = .nd a k s dx ts → Hd H (kz s k, a, ho g s dx (ts.map T.root)) := fun {a k s dx ts} e =>
    Rr.hold A.length (kz s k, a, ho g s dx (ts.map T.root)) ⟨ta, by simp, by rw [e, T.cells]; exact List.mem_cons_self⟩
  unfold dIx at eo
  split at eo
  · rename_i k xs i e1 e2
    obtain ⟨a, dx, ts, h0, h1⟩ := er_nd e1
    obtain ⟨u, hu, hQ⟩ := go h0 (by rw [h1]; exact eo)
    refine .inl ⟨a, _, i, _, by rw [h0]; rfl, by rw [er_im e2]; rfl, SqL.of ((hold h0).flat id), hu, hQ⟩
  · rename_i k xs i e1 e2
    obtain ⟨a, dx, ts, h0, h1⟩ := er_nd e1
    obtain ⟨u, hu, hQ⟩ := go h0 (by rw [h1]; exact eo)
    refine .inr ⟨a, _, i, _, by rw [h0]; rfl, by rw [er_im e2]; rfl, SqT.of ((hold h0).flat id), hu, hQ⟩
  · cases eo
/-! ### displays -/
def dLst (ds : List D) : Option D := if ds.length ≤ sizeLine then some (.nd .own .lst ds) else none
def dTup (ds : List D) : Option D := if ds.length ≤ sizeLine then some (.nd .own .tup ds) else none
theorem mean_lst {W : WX} {M : List Nat} {ta : TA} {fr : Sg → R (List D)} (ha : MeanA g n W M ta fr) : MeanE g n W M (tLst ta) (cMany fr dLst) :=
  mean_many (r := fun xs H1 Q => xs.length ≤ sizeLine ∧ ∀ p, H1 p = none → Q (.ref p) (upd H1 p (.lst xs))) ha fun Γ A ts σ H Q d Rr hn eo hq => by
    unfold dLst at eo
    split at eo
    · rename_i hz
      cases eo
      refine ⟨by simpa using hz, fun p hp => hq (.nd p .own .lst 0 ts) _ (Rr.alloc hn hp .lst 0) (by simp [T.er, erL_eq])⟩
    · cases eo
theorem mean_tup {W : WX} {M : List Nat} {ta : TA} {fr : Sg → R (List D)} (ha : MeanA g n W M ta fr) : MeanE g n W M (tTup ta) (cMany fr dTup) :=
  mean_many (r := fun xs H1 Q => xs.length ≤ sizeLine ∧ ∀ p, H1 p = none → Q (.ref p) (upd H1 p (.tup xs))) ha fun Γ A ts σ H Q d Rr hn eo hq => by
    unfold dTup at eo
    split at eo
    · rename_i hz
      cases eo
      refine ⟨by simpa using hz, fun p hp => hq (.nd p .own .tup 0 ts) _ (Rr.alloc hn hp .tup 0) (by simp [T.er, erL_eq])⟩
    · cases eo
/-! ### equality -/
mutual
def toPy : D → Option PyData
  | .im .non => some .none
  | .im (.bl b) => some (.bool b)
  | .im (.int i) => some (.int i)
  | .im (.str x) => some (.str x)
  | .im _ => none
  | .nd _ .lst ds => (toPyL ds).map .list
  | .nd _ .tup ds => (toPyL ds).map .tuple
  | .nd _ _ _ => none
def toPyL : List D → Option (List PyData)
  | [] => some []
  | d :: r => match toPy d, toPyL r with
    | some x, some xs => some (x :: xs)
    | _, _ => none
end
mutual
theorem dp_of {K : PySem.W.Frag} {H : Hp} : ∀ (t : T) (x : PyData), (∀ c ∈ t.cells g, Hd H c) → toPy t.er = some x → Dp K H t.root x
  | .im v, x, _, e => by
    cases v <;> simp [T.er, toPy] at e <;> subst e
    · exact .non
    · exact .bl _
    · exact .int _
    · exact .str _
  | .nd a k s dx ts, x, h, e => by
    have h0 := h (kz s k, a, ho g s dx (ts.map T.root)) (by rw [T.cells]; exact List.mem_cons_self)
    have hr : ∀ c ∈ cellsL g ts, Hd H c := fun c hc => h c (by rw [T.cells]; exact List.mem_cons_of_mem _ hc)
    cases s with
    | lst =>
      simp only [T.er, toPy] at e
      cases q : toPyL (erL ts) with
      | none => rw [q] at e; cases e
      | some xs =>
        rw [q] at e
        have e' : PyData.list xs = x := by simpa using e
        subst e'
        exact .lst (SqL.of (h0.flat id)) (dps_of ts xs hr q)
    | tup =>
      simp only [T.er, toPy] at e
      cases q : toPyL (erL ts) with
      | none => rw [q] at e; cases e
      | some xs =>
        rw [q] at e
        have e' : PyData.tuple xs = x := by simpa using e
        subst e'
        exact .tup (SqT.of (h0.flat id)) (dps_of ts xs hr q)
    | _ => simp [T.er, toPy] at e
theorem dps_of {K : PySem.W.Frag} {H : Hp} : ∀ (ts : List T) (xs : List PyData), (∀ c ∈ cellsL g ts, Hd H c) → toPyL (erL ts) = some xs → DpAll K H (ts.map T.root) xs
  | [], xs, _, e => by
    simp [erL, toPyL] at e
    subst e
    exact .nil
  | t :: r, xs, h, e => by
    simp only [erL, toPyL] at e
    cases q1 : toPy t.er with
    | none => rw [q1] at e; simp at e
    | some x =>
      cases q2 : toPyL (erL r) with
      | none => rw [q1, q2] at e; simp at e
      | some ys =>
        rw [q1, q2] at e
        have e' : x :: ys = xs := by simpa using e
        subst e'
        exact .cons (dp_of t x (fun c hc => h c (by rw [cellsL]; exact List.mem_append_left _ hc)) q1) (dps_of r ys (fun c hc => h c (by rw [cellsL]; exact List.mem_append_right _ hc)) q2)
end
def eqD (a b : D) : Option Bool := match toPy a, toPy b with
  | some x, some y => if SeqAt.shaped x && SeqAt.shaped y then some (PyData.eqv x y) else none
  | _, _ => none
theorem eqD_some {a b : D} {k : Bool} (h : eqD a b = some k) : ∃ x y, toPy a = some x ∧ toPy b = some y ∧ SeqAt.shaped x = true ∧ SeqAt.shaped y = true ∧ k = PyData.eqv x y := by
  unfold eqD at h
  split at h
  · rename_i x y e1 e2
    split at h
    · rename_i hs
      rw [Bool.and_eq_true] at hs
      exact ⟨x, y, e1, e2, hs.1, hs.2, by simpa using h.symm⟩
    · cases h
  · cases h
theorem opm_eq {K : PySem.W.Frag} : OpM g n (rEqD K) (fun a b => (eqD a b).map fun k => .im (.bl k)) := by
  intro Γ A ta tb σ H Q d Rr hn eo hq
  dsimp only at eo
  cases e : eqD ta.er tb.er with
  | none => rw [e] at eo; cases eo
  | some k =>
    rw [e] at eo
    have eo : D.im (.bl k) = d := by simpa using eo
    obtain ⟨x, y, h1, h2, h3, h4, h5⟩ := eqD_some e
    refine ⟨x, y, dp_of (g := g) ta x (fun c hc => Rr.hold A.length c ⟨ta, by simp, hc⟩) h1, dp_of (g := g) tb y (fun c hc => Rr.hold (A.length + 1) c ⟨tb, by simp, hc⟩) h2, h3, h4, ?_⟩
    rw [← h5]
    rw [List.append_assoc] at Rr
    exact hq (.im (.bl k)) H (Rr.imm hn _) eo
theorem opm_ne {K : PySem.W.Frag} : OpM g n (rNeD K) (fun a b => (eqD a b).map fun k => .im (.bl (!k))) := by
  intro Γ A ta tb σ H Q d Rr hn eo hq
  dsimp only at eo
  cases e : eqD ta.er tb.er with
  | none => rw [e] at eo; cases eo
  | some k =>
    rw [e] at eo
    have eo : D.im (.bl (!k)) = d := by simpa using eo
    obtain ⟨x, y, h1, h2, h3, h4, h5⟩ := eqD_some e
    refine ⟨x, y, dp_of (g := g) ta x (fun c hc => Rr.hold A.length c ⟨ta, by simp, hc⟩) h1, dp_of (g := g) tb y (fun c hc => Rr.hold (A.length + 1) c ⟨tb, by simp, hc⟩) h2, h3, h4, ?_⟩
    rw [← h5]
    rw [List.append_assoc] at Rr
    exact hq (.im (.bl (!k))) H (Rr.imm hn _) eo
end
end Lin
end
section
namespace Lin
open PySem L2
section
variable {g : Gc} {n : Nat} {W : WX} {Γ : Gh} {A A' A'' B : List (Option T)} {σ : L2.St} {H H' : Hp} {t : T} {M M1 M2 : List Nat}
/-- a temp in the middle is dropped -/
theorem Rel.mid {o : Option T} (Rr : Rel g Γ n (A ++ [o] ++ [some t]) σ H) (hn : n ≤ A.length) : Rel g Γ n (A ++ [some t]) σ H := by
  rw [List.append_assoc] at Rr
  exact Rr.part hn (fun c hc => ⟨1, t, rfl, hc⟩) (by simp [ownsO])
/-- a temp that is part of what stands already, without own marks -/
theorem Rel.dup {u : T} (Rr : Rel g Γ n A σ H) (h : ∀ c ∈ u.cells g, c.1 ≠ .own ∧ ∃ i, CellAt g A i c) : Rel g Γ n (A ++ [some u]) σ H := by
  refine ⟨by simp; have := Rr.len; omega, Rr.slen, ?_, ?_, ?_, ?_, ?_, Rr.frame, ?_, ?_, Rr.pin, Rr.tab, Rr.lck⟩
  · intro j w hj q
    rcases snoc_get q with ⟨_, q⟩ | ⟨e, _⟩
    · exact Rr.val j w hj q
    · have := Rr.len; omega
  · intro j c x
    rcases cellAt_snoc.mp x with x | ⟨_, x⟩
    · exact Rr.hold j c x
    · obtain ⟨_, i, y⟩ := h c x
      exact Rr.hold i c y
  · intro j c r x k
    rcases cellAt_snoc.mp x with x | ⟨_, x⟩
    · exact Rr.lab j c r x k
    · obtain ⟨_, i, y⟩ := h c x
      exact Rr.lab i c r y k
  · intro j w q
    rcases snoc_get q with ⟨_, q⟩ | ⟨_, e⟩
    · exact Rr.nd j w q
    · rw [e, owns_none fun c hc => (h c hc).1]; exact List.nodup_nil
  · intro j l c d x y hown hadr
    rcases cellAt_snoc.mp x with x | ⟨_, x⟩
    · rcases cellAt_snoc.mp y with y | ⟨e, y⟩
      · exact Rr.sep j l c d x y hown hadr
      · obtain ⟨no, i, y'⟩ := h d y
        have := x.lt
        rcases Rr.sep j i c d x y' hown hadr with ⟨_, q⟩ | ⟨_, q⟩
        · exact absurd q no
        · exact .inr ⟨by omega, q⟩
    · exact absurd hown (h c x).1
  · intro j c x
    rcases cellAt_snoc.mp x with x | ⟨_, x⟩
    · exact Rr.gown j c x
    · obtain ⟨_, i, y⟩ := h c x
      exact Rr.gown i c y
  · intro j c x k
    rcases cellAt_snoc.mp x with x | ⟨_, x⟩
    · exact Rr.gfrz j c x k
    · obtain ⟨_, i, y⟩ := h c x
      exact Rr.gfrz i c y k
/-- slots' values where no tree is known do not matter -/
theorem Rel.reslot {σ' : L2.St} (Rr : Rel g Γ n A σ H) (hl : σ'.length = σ.length) (h : ∀ (i : Nat) t, A[i]? = some (some t) → i < n → σ'[i]? = σ[i]?) : Rel g Γ n A σ' H :=
  ⟨Rr.len, by rw [hl]; exact Rr.slen, fun i t hi e => by rw [h i t e hi]; exact Rr.val i t hi e, Rr.hold, Rr.lab, Rr.nd, Rr.sep, Rr.frame, Rr.gown, Rr.gfrz, Rr.pin, Rr.tab, Rr.lck⟩
end
/-! ### tests -/
def cAnd (fa fb : Sg → R Bool) : Sg → R Bool := fun S => (fa S).bind fun b S1 => if b = true then fb S1 else .ok false S1
def cOr (fa fb : Sg → R Bool) : Sg → R Bool := fun S => (fa S).bind fun b S1 => if b = true then .ok true S1 else fb S1
def cNot (fa : Sg → R Bool) : Sg → R Bool := fun S => (fa S).bind fun b S1 => .ok (!b) S1
def dNot (d : D) : Option D := match d with
  | .im (.bl b) => some (.im (.bl (!b)))
  | _ => none
def dBool (d : D) : Option Bool := match d with
  | .im (.bl b) => some b
  | _ => none
def dTru (d : D) : Option Bool := match d with
  | .im .non => some false
  | .im (.bl b) => some b
  | .im (.int i) => some (i != 0)
  | .im (.str x) => if x.length ≤ sizeLine then some ((x.length : Int) != 0) else none
  | .nd _ .lst ds => some (!ds.isEmpty)
  | .nd _ .tup ds => some (!ds.isEmpty)
  | _ => none
section
variable {g : Gc} {n : Nat} {W : WX} {Γ : Gh} {A A' A'' B : List (Option T)} {σ : L2.St} {H H' : Hp} {t : T} {M M1 M2 M3 : List Nat}
theorem mean_and {ta tb : TT} {fa fb : Sg → R Bool} (ha : MeanT g n W M1 ta fa) (hb : MeanT g n W M2 tb fb) : MeanT g n W (M1 ++ M2) (tAnd ta tb) (cAnd fa fb) := by
  intro Γ A σ H Q Rr cl h
  refine ha Γ A σ H _ Rr cl.left ?_
  unfold cAnd at h
  cases ea : fa (ers n A) with
  | bad => rw [ea] at h; exact h.elim
  | exc c d S => rw [ea] at h; exact h
  | ok b S1 =>
    rw [ea] at h
    dsimp only [Lin.R.bind] at h
    intro A1 H1 R1 x1 e1
    cases b with
    | true =>
      rw [if_pos rfl] at h ⊢
      refine hb Γ A1 σ H1 _ R1 (cl.right.next x1.toNext Rr.len) ?_
      rw [e1]
      cases eb : fb S1 with
      | bad => rw [eb] at h; exact h.elim
      | exc c d S => rw [eb] at h; exact PostX.of h x1.toNext
      | ok b' S2 => rw [eb] at h; exact fun A2 H2 R2 x2 e2 => h A2 H2 R2 (x1.trans x2) e2
    | false =>
      rw [if_neg Bool.false_ne_true] at h ⊢
      exact h A1 H1 R1 (x1.mono fun r hr => List.mem_append_left _ hr) e1
theorem mean_or {ta tb : TT} {fa fb : Sg → R Bool} (ha : MeanT g n W M1 ta fa) (hb : MeanT g n W M2 tb fb) : MeanT g n W (M1 ++ M2) (tOr ta tb) (cOr fa fb) := by
  intro Γ A σ H Q Rr cl h
  refine ha Γ A σ H _ Rr cl.left ?_
  unfold cOr at h
  cases ea : fa (ers n A) with
  | bad => rw [ea] at h; exact h.elim
  | exc c d S => rw [ea] at h; exact h
  | ok b S1 =>
    rw [ea] at h
    dsimp only [Lin.R.bind] at h
    intro A1 H1 R1 x1 e1
    cases b with
    | false =>
      rw [if_neg Bool.false_ne_true] at h ⊢
      refine hb Γ A1 σ H1 _ R1 (cl.right.next x1.toNext Rr.len) ?_
      rw [e1]
      cases eb : fb S1 with
      | bad => rw [eb] at h; exact h.elim
      | exc c d S => rw [eb] at h; exact PostX.of h x1.toNext
      | ok b' S2 => rw [eb] at h; exact fun A2 H2 R2 x2 e2 => h A2 H2 R2 (x1.trans x2) e2
    | true =>
      rw [if_pos rfl] at h ⊢
      exact h A1 H1 R1 (x1.mono fun r hr => List.mem_append_left _ hr) e1
theorem mean_not {ta : TT} {fa : Sg → R Bool} (ha : MeanT g n W M1 ta fa) : MeanT g n W M1 (tNot ta) (cNot fa) := by
  intro Γ A σ H Q Rr cl h
  refine ha Γ A σ H _ Rr cl ?_
  unfold cNot at h
  cases ea : fa (ers n A) with
  | bad => rw [ea] at h; exact h.elim
  | exc c d S => rw [ea] at h; exact h
  | ok b S1 => rw [ea] at h; exact h
theorem mean_notV {ta : TE} {fa : Sg → R D} (ha : MeanE g n W M1 ta fa) : MeanE g n W M1 (tNotV ta) (cOne fa dNot) :=
  mean_one (r := fun x H1 Q => ∃ c, x = .bl c ∧ Q (.bl (!c)) H1) ha fun Γ A ta σ H Q d Rr hn eo hq => by
    unfold dNot at eo
    split at eo
    · rename_i b e
      rw [er_im e]
      refine ⟨b, rfl, hq (.im (.bl (!b))) H (Rr.imm hn _) (Option.some.inj eo)⟩
    · cases eo
theorem tsm_bool : TsM g n (fun x H Q => ∃ k, x = .bl k ∧ Q k H) dBool := by
  intro Γ A ta σ H Q b Rr hn eo hq
  unfold dBool at eo
  split at eo
  · rename_i c e
    rw [er_im e]
    cases eo
    exact ⟨_, rfl, hq⟩
  · cases eo
theorem tsm_tru {K : PySem.W.Frag} : TsM g n (fun x H Q => ∃ k, TruV K x H k ∧ Q k H) dTru := by
  intro Γ A ta σ H Q b Rr hn eo hq
  unfold dTru at eo
  split at eo
  · rename_i e
    rw [er_im e]
    cases eo
    exact ⟨_, rfl, hq⟩
  · rename_i e
    rw [er_im e]
    cases eo
    exact ⟨_, rfl, hq⟩
  · rename_i e
    rw [er_im e]
    cases eo
    exact ⟨_, rfl, hq⟩
  · rename_i e
    rw [er_im e]
    split at eo
    · rename_i hz
      cases eo
      exact ⟨_, ⟨hz, rfl⟩, hq⟩
    · cases eo
  · rename_i k ds e
    obtain ⟨a, dx, ts, rfl, h1⟩ := er_nd e
    refine ⟨b, .inl ⟨_, SqL.of (Rr.top1.flat id), ?_⟩, hq⟩
    have eo : (!ds.isEmpty) = b := by simpa using eo
    rw [← eo, ← h1]
    simp
  · rename_i k ds e
    obtain ⟨a, dx, ts, rfl, h1⟩ := er_nd e
    refine ⟨b, .inr (.inl ⟨_, SqT.of (Rr.top1.flat id), ?_⟩), hq⟩
    have eo : (!ds.isEmpty) = b := by simpa using eo
    rw [← eo, ← h1]
    simp
  · cases eo
end
/-! ### statements -/
def cNext : Sg → R Fl := fun S => .ok .nx S
def cSeq (f h : Sg → R Fl) : Sg → R Fl := fun S => (f S).bind fun fl S1 => match fl with
  | .nx => h S1
  | fl => .ok fl S1
def cIf (fc : Sg → R Bool) (f h : Sg → R Fl) : Sg → R Fl := fun S => (fc S).bind fun b S1 => if b = true then f S1 else h S1
def cRet (f : Sg → R D) : Sg → R Fl := fun S => (f S).bind fun d S1 => .ok (.ret d) S1
def cExpr (f : Sg → R D) : Sg → R Fl := fun S => (f S).bind fun _ S1 => .ok .nx S1
def fzIf (z : Bool) (d : D) : D := if z = true then d.mk kFz else d
section
variable {g : Gc} {n : Nat} {W : WX} {Γ : Gh} {A A' A'' B : List (Option T)} {σ : L2.St} {H H' : Hp} {t : T} {M M1 M2 M3 : List Nat}
theorem PostS.of {D : Ends} {r : R Fl} {σ1 : L2.St} (h : PostS g n W M Γ A σ D r) (x : NextS n M1 A A' σ σ1) (h1 : ∀ r ∈ M1, r ∈ M) (h2 : ∀ r ∈ M2, r ∈ M) : PostS g n W M2 Γ A' σ1 D r := by
  have mm : ∀ q ∈ M1 ++ M2, q ∈ M := fun q hq => (List.mem_append.mp hq).elim (h1 q) (h2 q)
  cases r with
  | bad => exact h
  | exc c d S => exact fun A2 t σ' H' R y => h A2 t σ' H' R ((x.trans y).mono mm)
  | ok fl S => cases fl with
    | nx => exact fun A2 σ' H' R y => h A2 σ' H' R ((x.trans y).mono mm)
    | brk => exact fun A2 σ' H' R y => h A2 σ' H' R ((x.trans y).mono mm)
    | cnt => exact fun A2 σ' H' R y => h A2 σ' H' R ((x.trans y).mono mm)
    | ret d => exact fun A2 t σ' H' R y => h A2 t σ' H' R ((x.trans y).mono mm)
theorem PostS.sub {D : Ends} {r : R Fl} (h : PostS g n W M Γ A σ D r) (h2 : ∀ r ∈ M2, r ∈ M) : PostS g n W M2 Γ A σ D r := PostS.of h (NextS.refl [] A σ) (fun _ z => nomatch z) h2
theorem mean_next : MeanS g n W [] tNext cNext := fun Γ A σ H D Rr _ h => h A σ H Rr (.refl _ _ _) rfl
theorem mean_seq {t1 t2 : TS} {f1 f2 : Sg → R Fl} (h1 : MeanS g n W M1 t1 f1) (h2 : MeanS g n W M2 t2 f2) : MeanS g n W (M1 ++ M2) (tSeq t1 t2) (cSeq f1 f2) := by
  intro Γ A σ H D Rr cl h
  refine h1 Γ A σ H _ Rr cl.left ?_
  unfold cSeq at h
  have ml : ∀ r ∈ M1, r ∈ M1 ++ M2 := fun r hr => List.mem_append_left _ hr
  have mr : ∀ r ∈ M2, r ∈ M1 ++ M2 := fun r hr => List.mem_append_right _ hr
  cases ea : f1 (ers n A) with
  | bad => rw [ea] at h; exact h.elim
  | exc c d S => rw [ea] at h; exact fun A2 t σ' H' R y => h A2 t σ' H' R (y.mono ml)
  | ok fl S1 =>
    rw [ea] at h
    dsimp only [Lin.R.bind] at h
    cases fl with
    | nx =>
      intro A1 σ1 H1 R1 x1 e1
      refine h2 Γ A1 σ1 H1 D R1 (cl.right.next x1.toNext Rr.len) ?_
      rw [e1]
      exact PostS.of h x1 ml mr
    | brk => exact fun A2 σ' H' R y => h A2 σ' H' R (y.mono ml)
    | cnt => exact fun A2 σ' H' R y => h A2 σ' H' R (y.mono ml)
    | ret d => exact fun A2 t σ' H' R y => h A2 t σ' H' R (y.mono ml)
theorem mean_if {tc : TT} {t1 t2 : TS} {fc : Sg → R Bool} {f1 f2 : Sg → R Fl} (hc : MeanT g n W M1 tc fc) (h1 : MeanS g n W M2 t1 f1) (h2 : MeanS g n W M3 t2 f2) : MeanS g n W (M1 ++ (M2 ++ M3)) (tIfS tc t1 t2) (cIf fc f1 f2) := by
  intro Γ A σ H D Rr cl h
  refine hc Γ A σ H _ Rr cl.left ?_
  unfold cIf at h
  cases ea : fc (ers n A) with
  | bad => rw [ea] at h; exact h.elim
  | exc c d S => rw [ea] at h; exact fun A' t H' R x e => h A' t σ H' R (x.toS _ _) e
  | ok b S1 =>
    rw [ea] at h
    dsimp only [Lin.R.bind] at h
    intro A1 H1 R1 x1 e1
    replace x1 := x1.toNext
    cases b with
    | true =>
      rw [if_pos rfl] at h ⊢
      exact h1 Γ A1 σ H1 D R1 (cl.right.left.next x1 Rr.len) (by rw [e1]; exact PostS.of h (x1.toS [] σ) (fun _ z => nomatch z) fun r hr => List.mem_append_right _ (List.mem_append_left _ hr))
    | false =>
      rw [if_neg Bool.false_ne_true] at h ⊢
      exact h2 Γ A1 σ H1 D R1 (cl.right.right.next x1 Rr.len) (by rw [e1]; exact PostS.of h (x1.toS [] σ) (fun _ z => nomatch z) fun r hr => List.mem_append_right _ (List.mem_append_right _ hr))
theorem mean_ret {te : TE} {f : Sg → R D} (he : MeanE g n W M1 te f) : MeanS g n W M1 (tRet te) (cRet f) := by
  intro Γ A σ H D Rr cl h
  refine he Γ A σ H _ Rr cl ?_
  unfold cRet at h
  cases ea : f (ers n A) with
  | bad => rw [ea] at h; exact h.elim
  | exc c d S => rw [ea] at h; exact fun A' t H' R x e => h A' t σ H' R (x.toS _ _) e
  | ok d S1 =>
    rw [ea] at h
    exact fun A1 t1 H1 R1 x1 e1 d1 => h A1 t1 σ H1 R1 (x1.toNext.toS _ _) e1 d1
theorem mean_expr {te : TE} {f : Sg → R D} (he : MeanE g n W M1 te f) : MeanS g n W M1 (tDrop te) (cExpr f) := by
  intro Γ A σ H D Rr cl h
  refine he Γ A σ H _ Rr cl ?_
  unfold cExpr at h
  cases ea : f (ers n A) with
  | bad => rw [ea] at h; exact h.elim
  | exc c d S => rw [ea] at h; exact fun A' t H' R x e => h A' t σ H' R (x.toS _ _) e
  | ok d S1 =>
    rw [ea] at h
    exact fun A1 t1 H1 R1 x1 e1 d1 => h A1 σ H1 (R1.drop (by rw [x1.len]; exact Rr.len)) (x1.toNext.toS _ _) e1
theorem next_set {i : Nat} (hi : i < n) (o : Option T) (x : Next n A A') : Next n A (A'.set i o) := ⟨by rw [List.length_set]; exact x.len, by rw [List.drop_set_of_lt hi]; exact x.tmp⟩
theorem fz_er (z : Bool) (t : T) : (if z = true then t.mk kFz else t).er = fzIf z t.er := by
  unfold fzIf
  cases z with
  | true => rw [if_pos rfl, if_pos rfl, er_mk]
  | false => rw [if_neg Bool.false_ne_true, if_neg Bool.false_ne_true]
theorem Rel.fzIf (Rr : Rel g Γ n (A ++ [some t]) σ H) (hn : n ≤ A.length) (z : Bool) : Rel g Γ n (A ++ [some (if z = true then t.mk kFz else t)]) σ H := by
  cases z with
  | true => rw [if_pos rfl]; exact Rr.freeze hn
  | false => rw [if_neg Bool.false_ne_true]; exact Rr
theorem fz_root (z : Bool) (t : T) : (if z = true then t.mk kFz else t).root = t.root := by
  cases z with
  | true => rw [if_pos rfl, root_mk]
  | false => rw [if_neg Bool.false_ne_true]
/-- a target -/
def MeanG (g : Gc) (n : Nat) (xs : List Nat) (tg : TG) (f : D → Sg → Option Sg) : Prop := ∀ Γ A t σ H Q S', Rel g Γ n (A ++ [some t]) σ H → n ≤ A.length → f t.er (ers n A) = some S' →
  (∀ A' σ' H', Rel g Γ n A' σ' H' → NextM n xs A A' → ers n A' = S' → (∀ j : Nat, j ∉ xs → σ'[j]? = σ[j]?) → Q σ' H') → tg t.root σ H Q
def gSet (z : Bool) (i : Nat) : D → Sg → Option Sg := fun d S => some (S.set i (some (fzIf z d)))
theorem meang_name {z : Bool} {i : Nat} (hi : i < n) : MeanG g n [i] (gName i) (gSet z i) := by
  intro Γ A t σ H Q S' Rr hn e h
  unfold gSet at e
  have e : (ers n A).set i (some (Lin.fzIf z t.er)) = S' := by simpa using e
  have R2 := (Rr.fzIf hn z).assign hn hi
  rw [fz_root] at R2
  have ne : ∀ {j : Nat}, j ∉ [i] → i ≠ j := fun {j} hj z => hj (by simp [z])
  refine h _ _ _ R2 ⟨next_set hi _ (.refl _), fun j _ hj => .inl (List.getElem?_set_ne (ne hj))⟩ ?_ fun j hj => ?_
  · rw [ers_set hi, ← e]
    simp [fz_er]
  · have : j ≠ i := by simpa using hj
    rw [List.getElem?_set_ne (Ne.symm this)]
/-- target = value -/
def cAsg (tg : D → Sg → Option Sg) (f : Sg → R D) : Sg → R Fl := fun S => (f S).bind fun d S1 => match tg d S1 with
  | some S2 => .ok .nx S2
  | none => .bad
theorem mean_asg {xs : List Nat} {te : TE} {tg : TG} {f : Sg → R D} {fg : D → Sg → Option Sg} (he : MeanE g n W M1 te f) (hg : MeanG g n xs tg fg) : MeanS g n W (M1 ++ xs.map (n + ·)) (tAsg te tg) (cAsg fg f) := by
  intro Γ A σ H D Rr cl h
  refine he Γ A σ H _ Rr cl.left ?_
  unfold cAsg at h
  cases ea : f (ers n A) with
  | bad => rw [ea] at h; exact h.elim
  | exc c d S => rw [ea] at h; exact fun A' t H' R x e => h A' t σ H' R (x.toS _ _) e
  | ok d S1 =>
    rw [ea] at h
    dsimp only [Lin.R.bind] at h
    intro A1 t1 H1 R1 x1 e1 d1
    cases eg : fg d S1 with
    | none => rw [eg] at h; exact h.elim
    | some S2 =>
      rw [eg] at h
      refine hg Γ A1 t1 σ H1 _ S2 R1 (by rw [x1.len]; exact Rr.len) (by rw [d1, e1]; exact eg) fun A2 σ2 H2 R2 x2 e2 hk => ?_
      exact h A2 σ2 H2 R2 ⟨x1.toNext.trans x2.toNext, fun j hj => hk j fun z => hj (List.mem_append_right _ (List.mem_map.mpr ⟨j, z, rfl⟩))⟩ e2
/-! ### while -/
end
/-! ### what is walked -/
/-- J yields the trees us, one a turn, in every heap where t stands -/
structure Follows (J : It) (us : List T) (H : Hp) : Prop where
  go : ∀ (i : Nat) (u : T), us[i]? = some u → J.go i H ∧ ∀ x H', J.yld i H x H' → x = u.root ∧ H' = H
  stop : J.stop us.length H
section
variable (g : Gc) (n : Nat) (W : WX)
def PostI (M : List Nat) (Γ : Gh) (A : List (Option T)) (σ : L2.St) (Q : It → Hp → Prop) : R (D × List D) → Prop
  | .ok p S => ∀ A' (t : T) (us : List T) J H', Rel g Γ n (A' ++ [some t]) σ H' → NextM n M A A' → ers n A' = S → t.er = p.1 → us.map T.er = p.2 → (∀ u ∈ us, ∀ c ∈ u.cells g, c.1 ≠ .own ∧ c ∈ t.cells g) →
      (∀ Hx : Hp, (∀ c ∈ t.cells g, Hd Hx c) → Follows J us Hx) → Q J H'
  | .exc c d S => PostX g n W Γ A c d S σ
  | .bad => False
def MeanI (M : List Nat) (wi : TI) (f : Sg → R (D × List D)) : Prop := ∀ Γ A σ H Q, Rel g Γ n A σ H → Clean g n M A → PostI g n W M Γ A σ Q (f (ers n A)) → wi σ H Q
end
def iSeq (fa : Sg → R D) (s : Sh) : Sg → R (D × List D) := fun S => (fa S).bind fun d S1 => match d with
  | .nd k s' ds => if s' = s then .ok (D.mk kFz (.nd k s' ds), ds.map (D.mk kFz)) S1 else .bad
  | _ => .bad
def iRng (lo hi : Int) : D × List D := (.im .non, (List.range (hi - lo).toNat).map fun k : Nat => .im (.int (lo + (k : Int))))
def rngOk (i : Int) : Bool := decide (-(2 ^ 62) ≤ i) && decide (i < 2 ^ 62)
def iRng1F (fa : Sg → R (List D)) : Sg → R (D × List D) := fun S => (fa S).bind fun ds S1 => match ds with
  | [.im (.int hi)] => if rngOk hi then .ok (iRng 0 hi) S1 else .bad
  | _ => .bad
section
variable {g : Gc} {n : Nat} {W : WX} {Γ : Gh} {A A' A'' B : List (Option T)} {σ : L2.St} {H H' : Hp} {t : T} {M M1 M2 M3 : List Nat}
theorem cells_child_mk {a : Addr} {k : Kd} {s : Sh} {dx : Addr} {ts : List T} {u : T} (h : u ∈ ts.map (T.mk kFz)) {c : Cell} (hc : c ∈ u.cells g) : c.1 ≠ .own ∧ c ∈ ((T.nd a k s dx ts).mk kFz).cells g := by
  obtain ⟨v, hv, rfl⟩ := List.mem_map.mp h
  refine ⟨kFz_ne hc, ?_⟩
  rw [T.mk, T.cells, mkL_eq, cellsL_eq]
  exact List.mem_cons_of_mem _ (List.mem_flatMap.mpr ⟨_, List.mem_map_of_mem hv, hc⟩)
theorem meani_list {K : PySem.W.Frag} {ta : TE} {fa : Sg → R D} (ha : MeanE g n W M1 ta fa) : MeanI g n W M1 (iList K ta) (iSeq fa .lst) := by
  intro Γ A σ H Q Rr cl h
  refine ha Γ A σ H _ Rr cl ?_
  unfold iSeq at h
  cases ea : fa (ers n A) with
  | bad => rw [ea] at h; exact h.elim
  | exc c d S => rw [ea] at h; exact h
  | ok d S1 =>
    rw [ea] at h
    dsimp only [Lin.R.bind] at h
    intro A1 t1 H1 R1 x1 e1 d1
    have n1 : n ≤ A1.length := by rw [x1.len]; exact Rr.len
    split at h
    · rename_i k s' ds
      split at h
      · rename_i hs
        subst hs
        obtain ⟨a, dx, ts, rfl, h1⟩ := er_nd d1
        refine ⟨a, rfl, ⟨_, SqL.of (R1.top1.flat id)⟩, ?_⟩
        refine h A1 ((T.nd a k .lst dx ts).mk kFz) (ts.map (T.mk kFz)) (Itl K a) H1 (R1.freeze n1) x1 e1 (by rw [er_mk, d1]) (by rw [← h1]; simp [er_mk]) (fun u hu c hc => cells_child_mk hu hc) fun Hx hx => ?_
        have ha : Hx a = some (.lst (ts.map T.root)) := by
          have := hx ((kFz k), a, ho g .lst dx ((mkL kFz ts).map T.root)) (by rw [T.mk, T.cells]; exact List.mem_cons_self)
          rw [roots_mk] at this
          exact this.flat id
        have inj : ∀ xs, SqL K Hx a xs → xs = xs := fun _ _ => rfl
        refine ⟨fun i u hu => ?_, ⟨_, SqL.of ha, by simp⟩⟩
        rw [List.getElem?_map] at hu
        cases q : ts[i]? with
        | none => rw [q] at hu; cases hu
        | some v =>
          rw [q] at hu
          have hu : v.mk kFz = u := by simpa using hu
          have hv : (ts.map T.root)[i]? = some v.root := by rw [List.getElem?_map, q]; rfl
          refine ⟨⟨_, _, SqL.of ha, hv⟩, fun x H' y => ?_⟩
          obtain ⟨e, y⟩ := y
          refine ⟨?_, e⟩
          have := y _ (SqL.of ha)
          rw [hv] at this
          rw [← hu, root_mk]
          exact (Option.some.inj this).symm
      · exact h.elim
    · exact h.elim
theorem follows_rng (lo hi : Int) (Hx : Hp) : Follows (Itr lo (hi - lo).toNat) ((List.range (hi - lo).toNat).map fun k : Nat => T.im (.int (lo + (k : Int)))) Hx := by
  refine ⟨fun i u hu => ?_, by show _ ≤ _; simp⟩
  rw [List.getElem?_map] at hu
  cases q : (List.range (hi - lo).toNat)[i]? with
  | none => rw [q] at hu; cases hu
  | some k =>
    rw [q] at hu
    have hi' : i < (hi - lo).toNat := by have := (List.getElem?_eq_some_iff.mp q).1; simpa using this
    have hk : k = i := by
      rw [List.getElem?_range hi'] at q
      exact (Option.some.inj q).symm
    subst hk
    have hu : T.im (.int (lo + (k : Int))) = u := by simpa using hu
    refine ⟨hi', fun x H' y => ?_⟩
    obtain ⟨e, y⟩ := y
    exact ⟨by rw [← hu, y]; rfl, e⟩
theorem er_one {ts : List T} {x : D} (h : ts.map T.er = [x]) : ∃ t, ts = [t] ∧ t.er = x := by
  cases ts with
  | nil => cases h
  | cons t r =>
    cases r with
    | nil => exact ⟨t, rfl, by simpa using h⟩
    | cons _ _ => simp at h
theorem er_two {ts : List T} {x y : D} (h : ts.map T.er = [x, y]) : ∃ t u, ts = [t, u] ∧ t.er = x ∧ u.er = y := by
  cases ts with
  | nil => cases h
  | cons t r =>
    rw [List.map_cons, List.cons.injEq] at h
    obtain ⟨u, hu, eu⟩ := er_one h.2
    exact ⟨t, u, by rw [hu], h.1, eu⟩
theorem rngOk_iff {i : Int} (h : rngOk i = true) : -(2 ^ 62) ≤ i ∧ i < 2 ^ 62 := by
  unfold rngOk at h
  simpa using h
theorem meani_rng1 {ta : TA} {fa : Sg → R (List D)} (ha : MeanA g n W M1 ta fa) : MeanI g n W M1 (iRng1 ta) (iRng1F fa) := by
  intro Γ A σ H Q Rr cl h
  refine ha Γ A σ H _ Rr cl ?_
  unfold iRng1F at h
  cases ea : fa (ers n A) with
  | bad => rw [ea] at h; exact h.elim
  | exc c d S => rw [ea] at h; exact h
  | ok ds S1 =>
    rw [ea] at h
    dsimp only [Lin.R.bind] at h
    intro A1 ts H1 R1 x1 e1 d1
    have n1 : n ≤ A1.length := by rw [x1.len]; exact Rr.len
    split at h
    · rename_i hi
      split at h
      · rename_i ok
        obtain ⟨b1, b2⟩ := rngOk_iff ok
        · obtain ⟨t1, ht, d2⟩ := er_one d1
          subst ht
          rw [er_im d2]
          refine ⟨hi, rfl, b1, b2, ?_⟩
          refine h A1 (.im .non) ((List.range (hi - 0).toNat).map fun k : Nat => T.im (.int (0 + (k : Int)))) (Itr 0 hi.toNat) H1 (R1.imm n1 _) x1 e1 rfl ?_ ?_ fun Hx _ => (by have := follows_rng 0 hi Hx; rw [Int.sub_zero] at this ⊢; exact this)
          · simp [iRng, T.er]
          · intro u hu c hc
            obtain ⟨k, _, rfl⟩ := List.mem_map.mp hu
            simp [T.cells] at hc
      · exact h.elim
    · exact h.elim
/-! ### for -/
def forL (tg : D → Sg → Option Sg) (fb : Sg → R Fl) : List D → Sg → R Fl
  | [], S => .ok .nx S
  | d :: r, S => match tg d S with
    | none => .bad
    | some S0 => (fb S0).bind fun fl S1 => match fl with
      | .nx => forL tg fb r S1
      | .cnt => forL tg fb r S1
      | .brk => .ok .nx S1
      | .ret d => .ok (.ret d) S1
def cFor (Mb : List Nat) (tg : D → Sg → Option Sg) (fi : Sg → R (D × List D)) (fb : Sg → R Fl) : Sg → R Fl := fun S => (fi S).bind fun p S1 => if cleanD Mb p.1 then forL tg fb p.2 S1 else .bad
theorem mean_for {xs : List Nat} {wi : TI} {g1 : TG} {tb : TS} {fi : Sg → R (D × List D)} {tg : D → Sg → Option Sg} {fb : Sg → R Fl} (hi : MeanI g n W M1 wi fi) (hg : MeanG g n xs g1 tg) (hb : MeanS g n W M2 tb fb) :
    MeanS g n W (M1 ++ (xs.map (n + ·) ++ M2)) (tFor wi g1 tb) (cFor M2 tg fi fb) := by
  intro Γ A σ H D Rr cl h
  refine hi Γ A σ H _ Rr cl.left ?_
  unfold cFor at h
  cases ei : fi (ers n A) with
  | bad => rw [ei] at h; exact h.elim
  | exc c d S => rw [ei] at h; exact fun A' t H' R x e => h A' t σ H' R (x.toS _ _) e
  | ok p S0 =>
    rw [ei] at h
    dsimp only [Lin.R.bind] at h
    by_cases hc : cleanD M2 p.1 = true
    · rw [if_pos hc] at h
      intro A0 t us J H0 R0 x0 e0 d0 du hus hJ
      replace x0 := x0.toNext
      have n0 : n ≤ A0.length := by rw [x0.len]; exact Rr.len
      have mm : ∀ r ∈ (xs.map (n + ·) ++ M2) ++ (xs.map (n + ·) ++ M2), r ∈ xs.map (n + ·) ++ M2 := fun r hr => (List.mem_append.mp hr).elim id id
      have mr : ∀ r ∈ xs.map (n + ·) ++ M2, r ∈ M1 ++ (xs.map (n + ·) ++ M2) := fun r hr => List.mem_append_right _ hr
      refine ⟨fun i m σ' H' => m = us.length - i ∧ i ≤ us.length ∧ ∃ A', Rel g Γ n (A' ++ [some t]) σ' H' ∧ NextS n (xs.map (n + ·) ++ M2) A A' σ σ' ∧ forL tg fb (p.2.drop i) (ers n A') = forL tg fb p.2 S0,
        ⟨us.length, by simp, Nat.zero_le _, A0, R0, x0.toS _ _, by rw [e0, List.drop_zero]⟩, ?_⟩
      rintro i m σ1 H1 ⟨rfl, hi, A1, R1, x1, e1⟩
      have n1 : n ≤ A1.length := by rw [x1.len]; exact Rr.len
      have hold : ∀ c ∈ t.cells g, Hd H1 c := fun c hc => R1.hold A1.length c (cellAt_snoc.mpr (.inr ⟨rfl, hc⟩))
      have fol := hJ H1 hold
      rw [← e1] at h
      by_cases hlt : i < us.length
      · obtain ⟨go, yl⟩ := fol.go i us[i] (by simp [hlt])
        refine .inr ⟨go, fun σ' H' => ∃ A', Rel g Γ n (A' ++ [some t]) σ' H' ∧ NextS n (xs.map (n + ·) ++ M2) A A' σ σ' ∧ forL tg fb (p.2.drop (i + 1)) (ers n A') = forL tg fb p.2 S0,
          fun σ' H' ⟨A', r1, r2, r3⟩ => ⟨us.length - (i + 1), by omega, rfl, hlt, A', r1, r2, r3⟩, fun x H' y => ?_⟩
        obtain ⟨rfl, rfl⟩ := yl x H' y
        have hp : p.2.drop i = us[i].er :: p.2.drop (i + 1) := by
          have hl : i < p.2.length := by rw [← du, List.length_map]; exact hlt
          have : us[i].er = p.2[i] := by simp [← du]
          rw [this, List.getElem_cons_drop]
        rw [hp] at h e1
        rw [forL] at h e1
        -- the item as a temp
        have Rd : Rel g Γ n (A1 ++ [some t] ++ [some us[i]]) σ1 H' := R1.dup fun c hc => by
          obtain ⟨q1, q2⟩ := hus us[i] (List.getElem_mem hlt) c hc
          exact ⟨q1, A1.length, cellAt_snoc.mpr (.inr ⟨rfl, q2⟩)⟩
        have nA : n ≤ (A1 ++ [some t]).length := by rw [List.length_append]; omega
        cases et : tg us[i].er (ers n A1) with
        | none => rw [et] at h; exact h.elim
        | some S1 =>
          rw [et] at h e1
          dsimp only at h e1
          refine hg Γ (A1 ++ [some t]) us[i] σ1 H' _ S1 Rd nA (by rw [ers_append n1]; exact et) fun A2 σ2 H2 R2 x2 e2 hk => ?_
          replace x2 := x2.toNext
          obtain ⟨y2, z2⟩ := x2.left n1
          have n2 : n ≤ (A2.take A1.length).length := by rw [y2.len]; exact n1
          have cl2 : Clean g n M2 A2 := by
            rw [z2]
            exact ((cl.right.right.next x1.toNext Rr.len).next y2 n1).snoc (by rw [d0]; exact hc)
          refine hb Γ A2 σ2 H2 _ R2 cl2 ?_
          rw [e2]
          have out : ∀ {A3 : List (Option T)} {σ3 : L2.St}, NextS n M2 A2 A3 σ2 σ3 → NextS n (xs.map (n + ·) ++ M2) A (A3.take A1.length) σ σ3 ∧ A3 = A3.take A1.length ++ [some t] ∧ n ≤ (A3.take A1.length).length := fun {A3 σ3} x3 => by
            have x3' := x3.toNext
            rw [z2] at x3'
            obtain ⟨y3, z3⟩ := x3'.left n2
            have hl : (A2.take A1.length).length = A1.length := y2.len
            rw [hl] at y3 z3
            exact ⟨⟨(x1.toNext.trans y2).trans y3, fun j hj => by
              rw [List.mem_append, not_or] at hj
              rw [x3.keep j hj.2, hk j fun z => hj.1 (List.mem_map.mpr ⟨j, z, rfl⟩)]
              exact x1.keep j (by rw [List.mem_append, not_or]; exact hj)⟩, z3, by rw [y3.len]; exact n2⟩
          cases eb : fb S1 with
          | bad => rw [eb] at h; exact h.elim
          | exc c d S =>
            rw [eb] at h
            intro A3 t3 σ3 H3 R3 x3 e3 d3
            obtain ⟨q1, q2, q3⟩ := out x3
            rw [q2] at R3 e3
            exact h _ t3 σ3 H3 (R3.mid q3) (q1.mono mr) (by rw [ers_append q3] at e3; exact e3) d3
          | ok fl S2 =>
            rw [eb] at h e1
            dsimp only [Lin.R.bind] at h e1
            cases fl with
            | nx =>
              intro A3 σ3 H3 R3 x3 e3
              obtain ⟨q1, q2, q3⟩ := out x3
              rw [q2] at R3 e3
              exact ⟨_, R3, q1, by rw [ers_append q3] at e3; rw [e3, ← e1]⟩
            | cnt =>
              intro A3 σ3 H3 R3 x3 e3
              obtain ⟨q1, q2, q3⟩ := out x3
              rw [q2] at R3 e3
              exact ⟨_, R3, q1, by rw [ers_append q3] at e3; rw [e3, ← e1]⟩
            | brk =>
              intro A3 σ3 H3 R3 x3 e3
              obtain ⟨q1, q2, q3⟩ := out x3
              rw [q2] at R3 e3
              exact h _ σ3 H3 (R3.drop q3) (q1.mono mr) (by rw [ers_append q3] at e3; exact e3)
            | ret d =>
              intro A3 t3 σ3 H3 R3 x3 e3 d3
              obtain ⟨q1, q2, q3⟩ := out x3
              rw [q2] at R3 e3
              exact h _ t3 σ3 H3 (R3.mid q3) (q1.mono mr) (by rw [ers_append q3] at e3; exact e3) d3
      · have ei' : i = us.length := by omega
        subst ei'
        refine .inl ⟨fol.stop, ?_⟩
        rw [List.drop_of_length_le (by rw [← du, List.length_map]; exact Nat.le_refl _)] at h
        exact h A1 σ1 H1 (R1.drop n1) (x1.mono mr) rfl
    · rw [if_neg hc] at h; exact h.elim
end
end Lin
end
section
namespace Lin
open PySem L2
section
variable {g : Gc} {n : Nat} {W : WX} {Γ : Gh} {A A' A'' B : List (Option T)} {σ : L2.St} {H H' : Hp} {t : T} {M M1 M2 M3 : List Nat}
/-- an own address stands once in its tree -/
theorem Rel.only {i : Nat} (Rr : Rel g Γ n A σ H) (e : A[i]? = some (some t)) {l1 l2 : List Cell} {a : Addr} {o : HO} (h : t.cells g = l1 ++ (Kd.own, a, o) :: l2) : ∀ c ∈ l1 ++ l2, c.2.1 ≠ a := by
  intro c hc q
  have hct : c ∈ t.cells g := by
    rw [h]
    rcases List.mem_append.mp hc with z | z
    · exact List.mem_append_left _ z
    · exact List.mem_append_right _ (List.mem_cons_of_mem _ z)
  have hat : (Kd.own, a, o) ∈ t.cells g := by rw [h]; exact List.mem_append_right _ List.mem_cons_self
  rcases Rr.sep i i _ c ⟨t, e, hat⟩ ⟨t, e, hct⟩ rfl q with ⟨_, k⟩ | ⟨z, _⟩
  · have nd := Rr.nd i t e
    rw [h, ownsC_append] at nd
    have e2 : ownsC ((Kd.own, a, o) :: l2) = a :: ownsC l2 := by simp [ownsC]
    rw [e2] at nd
    obtain ⟨n1, n2, n3⟩ := List.nodup_append.mp nd
    rcases List.mem_append.mp hc with z | z
    · exact n3 a (mem_ownsC.mpr ⟨c, z, k, q⟩) a List.mem_cons_self rfl
    · exact (List.nodup_cons.mp n2).1 (mem_ownsC.mpr ⟨c, z, k, q⟩)
  · exact z rfl
theorem Rel.ndWith {r : Nat} (Rr : Rel g Γ n (A ++ B) σ H) (hn : n ≤ A.length) (e : A[r]? = some (some t)) : (ownsC (t.cells g) ++ B.flatMap (ownsO g)).Nodup := by
  have er : (A ++ B)[r]? = some (some t) := by rw [List.getElem?_append_left (List.getElem?_eq_some_iff.mp e).1]; exact e
  refine List.nodup_append.mpr ⟨Rr.nd r t er, Rr.ndB hn, fun a ha b hb q => ?_⟩
  subst q
  obtain ⟨c, hc, k1, k2⟩ := mem_ownsC.mp ha
  obtain ⟨o', ho', hb⟩ := List.mem_flatMap.mp hb
  cases o' with
  | none => cases hb
  | some u =>
    obtain ⟨d, hd, k3, k4⟩ := mem_ownsC.mp (show a ∈ ownsC (u.cells g) from hb)
    obtain ⟨j, hj, ej⟩ := List.getElem_of_mem ho'
    have hr := (List.getElem?_eq_some_iff.mp e).1
    rcases Rr.sep r (A.length + j) c d ⟨t, er, hc⟩ ⟨u, by rw [List.getElem?_append_right (by omega), Nat.add_sub_cancel_left, List.getElem?_eq_getElem hj, ej], hd⟩ k1 (by rw [k4, k2]) with ⟨z, _⟩ | ⟨_, z⟩
    · omega
    · rw [k3] at z; cases z
/-- no other cell of the temps B has an own address of the tree -/
theorem Rel.apart {r : Nat} (Rr : Rel g Γ n (A ++ B) σ H) (e : A[r]? = some (some t)) {a : Addr} {o : HO} (h : (Kd.own, a, o) ∈ t.cells g) (nb : ∀ i c, CellAt g B i c → c.1 ≠ .bor r) {i : Nat} {c : Cell} (hc : CellAt g B i c) : c.2.1 ≠ a := by
  intro q
  have er : (A ++ B)[r]? = some (some t) := by rw [List.getElem?_append_left (List.getElem?_eq_some_iff.mp e).1]; exact e
  have hr := (List.getElem?_eq_some_iff.mp e).1
  rcases Rr.sep r (A.length + i) _ c ⟨t, er, h⟩ (cellAt_append.mpr (.inr ⟨by omega, by rw [Nat.add_sub_cancel_left]; exact hc⟩)) rfl q with ⟨z, _⟩ | ⟨_, z⟩
  · omega
  · exact nb i c hc z
/-- at a path, an own node's content is changed: ts' and the result res are made of its children and of the temps us -/
theorem Rel.mutAt {r : Nat} {p : List Nat} {a dx : Addr} {s s' : Sh} {ts ts' us : List T} {res : T} {dropped : List Cell} (Rr : Rel g Γ n (A ++ us.map some) σ H) (hn : n ≤ A.length) (e : A[r]? = some (some t)) (nb : ∀ i c, CellAt g (A ++ us.map some) i c → c.1 ≠ .bor r)
    (hp : t.at p = some (.nd a .own s dx ts)) (ms : kz s .own = .own) (ms' : kz s' .own = .own) (hperm : (cellsL g ts' ++ res.cells g ++ dropped).Perm (cellsL g ts ++ cellsL g us)) :
    Rel g Γ n (A.set r (some (t.put p (.nd a .own s' dx ts'))) ++ [some res]) σ (upd H a (ho g s' dx (ts'.map T.root))) := by
  obtain ⟨pre, post, h1, h2⟩ := cells_put g p t (.nd a .own s' dx ts') (.nd a .own s dx ts) hp rfl
  have hrt : (t.put p (.nd a .own s' dx ts')).root = t.root := root_put p t _ _ hp rfl
  have hd : t.cells g = pre ++ (Kd.own, a, ho g s dx (ts.map T.root)) :: (cellsL g ts ++ post) := by rw [h1, T.cells, ms]; simp
  have hd' : (t.put p (.nd a .own s' dx ts')).cells g = pre ++ (Kd.own, a, ho g s' dx (ts'.map T.root)) :: (cellsL g ts' ++ post) := by rw [h2, T.cells, ms']; simp
  have er : (A ++ us.map some)[r]? = some (some t) := by rw [List.getElem?_append_left (List.getElem?_eq_some_iff.mp e).1]; exact e
  have only := Rr.only er hd
  have hat : (Kd.own, a, ho g s dx (ts.map T.root)) ∈ t.cells g := by rw [hd]; exact List.mem_append_right _ List.mem_cons_self
  have nbB : ∀ i c, CellAt g (us.map some) i c → c.1 ≠ .bor r := fun i c x => nb _ c (cellAt_append.mpr (.inr ⟨Nat.le_add_right A.length i, by rw [Nat.add_sub_cancel_left]; exact x⟩))
  have src : ∀ c, c ∈ cellsL g ts ++ cellsL g us → c.2.1 ≠ a ∧ (c ∈ t.cells g ∨ ∃ i, CellAt g (us.map some) i c) := fun c hc => by
    rcases List.mem_append.mp hc with z | z
    · exact ⟨only c (List.mem_append_right _ (List.mem_append_left _ z)), .inl (by rw [hd]; exact List.mem_append_right _ (List.mem_cons_of_mem _ (List.mem_append_left _ z)))⟩
    · obtain ⟨i, x⟩ := cellAt_map.mpr z
      exact ⟨Rr.apart e hat nbB x, .inr ⟨i, x⟩⟩
  have new : ∀ c, c ∈ cellsL g ts' ∨ c ∈ res.cells g → c ∈ cellsL g ts ++ cellsL g us := fun c hc => hperm.subset (by
    rcases hc with z | z
    · exact List.mem_append_left _ (List.mem_append_left _ z)
    · exact List.mem_append_left _ (List.mem_append_right _ z))
  refine Rr.mut (U := some res) hn e nb ⟨_, hat, rfl, rfl⟩ hrt (fun b o hb q => by rw [upd_ne hb]; exact q) (fun c hc => ?_) ?_
  · rcases hc with hc | ⟨u, hu, hc⟩
    · rw [hd'] at hc
      rcases List.mem_append.mp hc with z | z
      · exact .inr (.inl ⟨only c (List.mem_append_left _ z), .inl (by rw [hd]; exact List.mem_append_left _ z)⟩)
      · rcases List.mem_cons.mp z with rfl | z
        · exact .inl ⟨rfl, rfl, upd_same⟩
        · rcases List.mem_append.mp z with z | z
          · exact .inr (.inl (src c (new c (.inl z))))
          · exact .inr (.inl ⟨only c (List.mem_append_right _ (List.mem_append_right _ z)), .inl (by rw [hd]; exact List.mem_append_right _ (List.mem_cons_of_mem _ (List.mem_append_right _ z)))⟩)
    · cases hu
      exact .inr (.inl (src c (new c (.inr hc))))
  · have nd := Rr.ndWith hn e
    rw [flat_owns] at nd
    have hp2 : (ownsC (cellsL g ts' ++ res.cells g ++ dropped)).Perm (ownsC (cellsL g ts ++ cellsL g us)) := hperm.filterMap _
    rw [List.nodup_iff_count] at nd ⊢
    intro b
    have q1 := nd b
    have q2 := hp2.count_eq b
    rw [hd, hd'] at *
    simp only [ownsC_append, List.count_append, ownsO] at q1 q2 ⊢
    have e3 : ∀ (o : HO) (l : List Cell), List.count b (ownsC ((Kd.own, a, o) :: l)) = List.count b (ownsC l) + (if a == b then 1 else 0) := fun o l => by
      have : ownsC ((Kd.own, a, o) :: l) = a :: ownsC l := by simp [ownsC]
      rw [this, List.count_cons]
    rw [e3] at q1 ⊢
    simp only [ownsC_append, List.count_append] at q1 ⊢
    omega
end
/-! ### paths -/
section
variable (g : Gc) (n : Nat) (W : WX)
def PostP (r : Nat) (M : List Nat) (Γ : Gh) (A : List (Option T)) (σ : L2.St) (Q : VK) : R (List Nat) → Prop
  | .ok p S => ∀ A' H' (t u : T), Rel g Γ n A' σ H' → NextM n M A A' → ers n A' = S → A'[r]? = some (some t) → t.at p = some u → Q u.root H'
  | .exc c d S => PostX g n W Γ A c d S σ
  | .bad => False
def MeanP (r : Nat) (M : List Nat) (te : TE) (f : Sg → R (List Nat)) : Prop := ∀ Γ A σ H Q, Rel g Γ n A σ H → Clean g n M A → PostP g n W r M Γ A σ Q (f (ers n A)) → te σ H Q
end
def pVar (r : Nat) : Sg → R (List Nat) := fun S => match S[r]? with
  | some (some _) => .ok [] S
  | _ => .bad
def nodeAt (S : Sg) (r : Nat) (p : List Nat) : Option D := match S[r]? with
  | some (some d) => d.at p
  | _ => none
theorem nodeAt_some {n : Nat} {A : List (Option T)} {r : Nat} {p : List Nat} {d : D} (h : nodeAt (ers n A) r p = some d) : ∃ t u, A[r]? = some (some t) ∧ t.at p = some u ∧ u.er = d ∧ r < n := by
  unfold nodeAt at h
  split at h
  · rename_i d0 e
    obtain ⟨t, e1, e2, hr⟩ := ers_some e
    rw [← e2, er_at] at h
    cases q : t.at p with
    | none => rw [q] at h; cases h
    | some u => rw [q] at h; exact ⟨t, u, e1, q, by simpa using h, hr⟩
  · cases h
section
variable {g : Gc} {n : Nat} {W : WX} {Γ : Gh} {A A' A'' B : List (Option T)} {σ : L2.St} {H H' : Hp} {t : T} {M M1 M2 M3 : List Nat}
theorem cells_at {p : List Nat} {u : T} (h : t.at p = some u) : ∃ pre post, t.cells g = pre ++ u.cells g ++ post :=
  let ⟨pre, post, h1, _⟩ := cells_put g p t u u h rfl
  ⟨pre, post, h1⟩
theorem Rel.holdAt {r : Nat} {p : List Nat} {a dx : Addr} {k : Kd} {s : Sh} {ts : List T} (Rr : Rel g Γ n A σ H) (e : A[r]? = some (some t)) (h : t.at p = some (.nd a k s dx ts)) : Hd H (kz s k, a, ho g s dx (ts.map T.root)) := by
  obtain ⟨pre, post, q⟩ := cells_at (g := g) h
  exact Rr.hold r (kz s k, a, ho g s dx (ts.map T.root)) ⟨t, e, by rw [q, T.cells]; simp⟩
theorem meanp_var (r : Nat) : MeanP g n W r [] (tVar r) (pVar r) := by
  intro Γ A σ H Q Rr _ h
  unfold pVar at h
  split at h
  · rename_i d e
    obtain ⟨t, e1, e2, hi⟩ := ers_some e
    exact ⟨_, Rr.val r t hi e1, h A H t t Rr (.refl _ _) rfl e1 rfl⟩
  · exact h.elim
/-! ### a method that changes the node at a path -/
def nodeOk (okS : Sh → Bool) (S : Sg) (r : Nat) (p : List Nat) : Bool := match nodeAt S r p with
  | some (.nd _ s _) => okS s
  | _ => false
def cMutM (okS : Sh → Bool) (r : Nat) (M2 : List Nat) (fp : Sg → R (List Nat)) (fr : Sg → R (List D)) (op : Sh → List D → List D → Option (Sh × List D × D)) : Sg → R D := fun S => (fp S).bind fun p S1 => if r ∈ M2 ∨ nodeOk okS S1 r p = false then .bad else (fr S1).bind fun us S2 =>
  if us.all (fun d => !hasBor r d) then
    match nodeAt ((S2.map (killD r))) r p with
    | some (.nd .own s ds) => match op s ds us with
      | some (s', ds', res) => match (S2.map (killD r))[r]? with
        | some (some d) => .ok res ((S2.map (killD r)).set r (some (d.put p (.nd .own s' ds'))))
        | _ => .bad
      | none => .bad
    | _ => .bad
  else .bad
/-- what a method's rule must give: for an own node at a, its children ts, the arguments us -/
def MuM (g : Gc) (rr : V → List V → Hp → VK → Prop) (op : Sh → List D → List D → Option (Sh × List D × D)) : Prop :=
  ∀ (H : Hp) (a dx : Addr) (s : Sh) (ts us : List T) (s' : Sh) (ds' : List D) (dres : D), Hd H (kz s .own, a, ho g s dx (ts.map T.root)) → op s (ts.map T.er) (us.map T.er) = some (s', ds', dres) →
    ∃ (ts' : List T) (res : T) (dropped : List Cell), (kz s .own = .own ∧ kz s' .own = .own) ∧ ts'.map T.er = ds' ∧ res.er = dres ∧ (cellsL g ts' ++ res.cells g ++ dropped).Perm (cellsL g ts ++ cellsL g us) ∧
      ∀ Q : VK, Q res.root (upd H a (ho g s' dx (ts'.map T.root))) → rr (.ref a) (us.map T.root) H Q
theorem kill_clean {r : Nat} (cl : Clean g n [r] A) : ∀ i c, CellAt g (kill n r A) i c → c.1 ≠ .bor r := fun j c ⟨u, eu, hc⟩ q => by
  obtain ⟨k1, k2⟩ := kill_get eu
  by_cases hj : j < n
  · have := k2 hj
    rw [(hasBor_iff (g := g)).mpr ⟨c, hc, q⟩] at this; cases this
  · exact cl r (by simp) j c (by omega) ⟨u, k1, hc⟩ q
theorem nextM_kill {r : Nat} (h : n ≤ A.length) (x : NextM n M A' A) : NextM n M A' (kill n r A) := ⟨⟨by rw [kill_length]; exact x.len, by
    have : (kill n r A).drop n = A.drop n := by
      unfold kill
      rw [List.drop_append_of_le_length (by simp; omega), List.drop_of_length_le (by simp; omega), List.nil_append]
    rw [this]; exact x.tmp⟩, fun i hi hm => by
  rcases kill_slot (r := r) h hi with q | q
  · rw [q]; exact x.slot i hi hm
  · exact .inr q⟩
theorem mean_mutM {K : PySem.W.Frag} {Tn : String} {r : Nat} {tp : TE} {ta : TA} {fp : Sg → R (List Nat)} {fr : Sg → R (List D)} {rr : V → List V → Hp → VK → Prop} {op : Sh → List D → List D → Option (Sh × List D × D)} (hp : MeanP g n W r M1 tp fp) (ha : MeanA g n W M2 ta fr) (ho : MuM g rr op)
    {okS : Sh → Bool} (hty : ∀ (H : Hp) (k : Kd) (a dx : Addr) (s : Sh) (vs : List V), okS s = true → Hd H (kz s k, a, Lin.ho g s dx vs) → tyV K Tn (.ref a) H) :
    MeanE g n W (M1 ++ M2 ++ [r]) (fun σ H Q => tp σ H fun x H1 => tyV K Tn x H1 ∧ ta σ H1 fun xs H2 => rr x xs H2 Q) (cMutM okS r M2 fp fr op) := by
  intro Γ A σ H Q Rr cl h
  refine hp Γ A σ H _ Rr cl.left.left ?_
  unfold cMutM at h
  cases ea : fp (ers n A) with
  | bad => rw [ea] at h; exact h.elim
  | exc c d S => rw [ea] at h; exact h
  | ok p S1 =>
    rw [ea] at h
    dsimp only [Lin.R.bind] at h
    by_cases hm0 : r ∈ M2 ∨ nodeOk okS S1 r p = false
    · rw [if_pos hm0] at h; exact h.elim
    · rw [if_neg hm0] at h
      obtain ⟨hm, hok⟩ := not_or.mp hm0
      intro A1 H1 t u R1 x1 e1 et eu
      have n1 : n ≤ A1.length := R1.len
      have ty : tyV K Tn u.root H1 := by
        unfold nodeOk at hok
        split at hok
        · rename_i k s ds en
          obtain ⟨t', u', et', eu', ed, hr⟩ := nodeAt_some (by rw [← e1] at en; exact en)
          have : t' = t := by rw [et] at et'; simpa using et'.symm
          subst this
          have : u' = u := by rw [eu] at eu'; exact (Option.some.inj eu').symm
          subst this
          obtain ⟨a, dx, ts, hu, hds⟩ := er_nd ed
          subst hu
          exact hty H1 _ a dx s _ (by simpa using hok) (R1.holdAt et eu)
        · exact absurd rfl hok
      have cl1 := cl.next x1.toNext Rr.len
      -- the args, and then the node again
      have main : ∀ us S2, fr S1 = .ok us S2 → PostE g n W (M1 ++ M2 ++ [r]) Γ A σ Q (if us.all (fun d => !hasBor r d) then
          match nodeAt ((S2.map (killD r))) r p with
          | some (.nd .own s ds) => match op s ds us with
            | some (s', ds', res) => match (S2.map (killD r))[r]? with
              | some (some d) => .ok res ((S2.map (killD r)).set r (some (d.put p (.nd .own s' ds'))))
              | _ => .bad
            | none => .bad
          | _ => .bad
        else .bad) → ∀ (A2 : List (Option T)) (ts2 : List T) (H2 : Hp), Rel g Γ n (A2 ++ ts2.map some) σ H2 → NextM n M2 A1 A2 → ers n A2 = S2 → ts2.map T.er = us → rr u.root (ts2.map T.root) H2 Q := fun us S2 eb h A2 ts2 H2 R2 x2 e2 d2 => by
        have n2 : n ≤ A2.length := by rw [x2.len]; exact n1
        by_cases hb : us.all (fun d => !hasBor r d) = true
        · rw [if_pos hb] at h
          rw [← e2, ← ers_kill n2] at h
          split at h
          · rename_i s ds en
            obtain ⟨t', u', et', eu', ed, hr⟩ := nodeAt_some en
            have et2 := (kill_get et').1
            have : t' = t := by
              rcases x2.slot r hr hm with q | q
              · rw [et2, et] at q; simpa using q
              · rw [et2] at q; cases q
            subst this
            have : u' = u := by rw [eu] at eu'; exact (Option.some.inj eu').symm
            subst this
            obtain ⟨a, dx, ts, hu, hds⟩ := er_nd ed
            subst hu
            split at h
            · rename_i s' ds' res eo
              have R2k : Rel g Γ n (kill n r A2 ++ ts2.map some) σ H2 := by
                have := R2.kill r
                rw [kill_append n2] at this
                exact this
              have hH0 := R2k.holdAt (r := r) (t := t') (by rw [List.getElem?_append_left (by rw [kill_length]; omega)]; exact et') eu
              obtain ⟨ts', res', dropped, ⟨m1, m2⟩, k1, k2, k3, k4⟩ := ho H2 a dx s ts ts2 s' ds' res hH0 (by rw [hds, d2]; exact eo)
              have nbA : ∀ i c, CellAt g (kill n r A2 ++ ts2.map some) i c → c.1 ≠ .bor r := fun i c x => by
                rcases cellAt_append.mp x with x | ⟨_, x⟩
                · exact kill_clean (cl1.right.next x2.toNext n1) i c x
                · intro q
                  obtain ⟨v, hv, hc⟩ := x
                  rw [List.getElem?_map] at hv
                  cases q2 : ts2[i - (kill n r A2).length]? with
                  | none => rw [q2] at hv; cases hv
                  | some w =>
                    rw [q2] at hv
                    have : w = v := by simpa using hv
                    subst this
                    have hw : w.er ∈ us := by rw [← d2]; exact List.mem_map_of_mem (List.mem_of_getElem? q2)
                    have := List.all_eq_true.mp hb _ hw
                    rw [(hasBor_iff (g := g)).mpr ⟨c, hc, q⟩] at this
                    cases this
              have R3 := R2k.mutAt (s' := s') (ts' := ts') (res := res') (by rw [kill_length]; exact n2) et' nbA eu m1 m2 k3
              refine k4 Q ?_
              have ers1 : (ers n (kill n r A2))[r]? = some (some t'.er) := by rw [ers_get hr, et']; rfl
              rw [ers1] at h
              dsimp only at h
              refine h _ res' _ R3 ?_ ?_ k2
              · refine ⟨⟨?_, ?_⟩, fun i hi hmi => ?_⟩
                · rw [List.length_set, kill_length, x2.len, x1.len]
                · rw [List.drop_set_of_lt hr]
                  exact (nextM_kill (r := r) n2 (x1.trans x2)).tmp
                · rw [List.mem_append, not_or] at hmi
                  have : i ≠ r := by have := hmi.2; simpa using this
                  rw [List.getElem?_set_ne (Ne.symm this)]
                  exact (nextM_kill (r := r) n2 (x1.trans x2)).slot i hi hmi.1
              · rw [ers_set hr, Option.map_some, er_put]
                simp only [T.er, erL_eq, k1]
            · exact h.elim
          · exact h.elim
        · rw [if_neg hb] at h; exact h.elim
      cases eb : fr S1 with
      | bad => rw [eb] at h; exact h.elim
      | exc c d S =>
        rw [eb] at h
        exact ⟨ty, ha Γ A1 σ H1 _ R1 cl1.left.right (by rw [e1, eb]; exact PostX.of h x1.toNext)⟩
      | ok us S2 =>
        rw [eb] at h
        dsimp only [Lin.R.bind] at h
        exact ⟨ty, ha Γ A1 σ H1 _ R1 cl1.left.right (by rw [e1, eb]; exact fun A2 ts2 H2 R2 x2 e2 d2 => main us S2 eb h A2 ts2 H2 R2 x2 e2 d2)⟩
end
end Lin
end
section
namespace Lin
open PySem L2
/-! ### what a def means -/
inductive Rc where
  | ok (d : D) (ms : List D)
  | exc (c : Nat) (d : D) (ms : List D)
  | bad
/-- kinds of a result: own and frozen ones -/
def ofD (d : D) : Bool := d.kins.all fun k => k == .own || k == .frz
def kPar : Kd → Kd := fun k => if k = .frz then .frz else .par
structure CallOk (g : Gc) (H : Hp) (mr : List Bool) (ts : List T) : Prop where
  len : ts.length = mr.length
  hold : ∀ c ∈ cellsL g ts, Hd H c
  kind : ∀ (i : Nat) t, ts[i]? = some t → ∀ c ∈ t.cells g, c.1 = .frz ∨ (mr[i]? = some true ∧ c.1 = .own) ∨ (mr[i]? = some false ∧ c.1 = .par)
  nd : (ownsC (cellsL g ts)).Nodup
  sep : ∀ c ∈ cellsL g ts, ∀ d ∈ cellsL g ts, c.1 = .own → d.2.1 = c.2.1 → d.1 = .own
  tab : LamX.Tabs g.T H
/-- those by reference -/
def refs {α : Type} : List Bool → List α → List α
  | true :: mr, x :: xs => x :: refs mr xs
  | false :: mr, _ :: xs => refs mr xs
  | _, _ => []
structure BackOk (g : Gc) (H H' : Hp) (mr : List Bool) (ts : List T) (t : T) (us : List T) : Prop where
  frame : ∀ a o, H a = some o → (∀ ps, o ≠ .tbl ps) → a ∉ ownsC (cellsL g ts) → H' a = some o
  hold : ∀ c ∈ t.cells g ++ cellsL g us, Hd H' c
  kind : ∀ c ∈ t.cells g ++ cellsL g us, c.1 = .own ∨ c.1 = .frz
  nd : (ownsC (t.cells g ++ cellsL g us)).Nodup
  sep : ∀ c ∈ t.cells g ++ cellsL g us, ∀ d ∈ t.cells g ++ cellsL g us, c.1 = .own → d.2.1 = c.2.1 → d.1 = .own
  own : ∀ c ∈ t.cells g ++ cellsL g us, ¬ HTup c.2.2 → c.2.1 ∈ ownsC (cellsL g ts) ∨ Nw H c.2.1 ∨ (c.1 = .frz ∧ ∃ d ∈ cellsL g ts, d.1 = .frz ∧ d.2.1 = c.2.1 ∧ ¬ HTup d.2.2)
  root : us.map T.root = (refs mr ts).map T.root
  tab : LamX.Tabs g.T H'
abbrev FSem := List D → Rc
def spOf (g : Gc) (mr : List Bool) (sem : FSem) : Sp := fun vs H Q E => ∃ ts : List T, vs = ts.map T.root ∧ CallOk g H mr ts ∧
  match sem (ts.map T.er) with
  | .bad => False
  | .ok d ms => ∀ H' (t : T) (us : List T), BackOk g H H' mr ts t us → t.er = d → us.map T.er = ms → Q t.root H'
  | .exc c d ms => ∀ H' (t : T) (us : List T), BackOk g H H' mr ts t us → t.er = d → us.map T.er = ms → E (.ref (g.cl c)) (dictOf t) H'
/-! ### arguments of a call: by value or (a slot) by reference -/
section
variable (g : Gc) (n : Nat) (W : WX)
def PostC (rs : List (Option Nat)) (M : List Nat) (Γ : Gh) (A : List (Option T)) (σ : L2.St) (Q : List V → Hp → Prop) : R (List D) → Prop
  | .ok ds S => ∀ A' (ts : List T) H', Rel g Γ n (A' ++ ts.map some) σ H' → NextM n M A A' → ers n A' = S → ts.map T.er = ds →
      (∀ (i r : Nat), rs[i]? = some (some r) → ∃ t, ts[i]? = some t ∧ σ[r]? = some (some t.root) ∧ A'[r]? = some none ∧ r < n) → Q (ts.map T.root) H'
  | .exc c d S => PostX g n W Γ A c d S σ
  | .bad => False
def MeanC (rs : List (Option Nat)) (M : List Nat) (ta : TA) (f : Sg → R (List D)) : Prop := ∀ Γ A σ H Q, Rel g Γ n A σ H → Clean g n M A → PostC g n W rs M Γ A σ Q (f (ers n A)) → ta σ H Q
end
def cRefs (r : Nat) (fr : Sg → R (List D)) : Sg → R (List D) := fun S => (cMv r S).bind fun d S1 => if ofD d = true then (fr S1).bind fun ds S2 => .ok (d :: ds) S2 else .bad
theorem ofD_iff {g : Gc} {t : T} : ofD t.er = true ↔ ∀ c ∈ t.cells g, c.1 = .own ∨ c.1 = .frz := by
  unfold ofD
  rw [kinds_er g, List.all_eq_true]
  simp only [List.mem_map, forall_exists_index, and_imp, forall_apply_eq_imp_iff₂, Bool.or_eq_true, beq_iff_eq]
section
variable {g : Gc} {n : Nat} {W : WX} {Γ : Gh} {A A' A'' B : List (Option T)} {σ : L2.St} {H H' : Hp} {t : T} {M M1 M2 M3 : List Nat}
theorem meanc_nil : MeanC g n W [] [] tNil cNil := by
  intro Γ A σ H Q Rr cl h
  have := h A [] H (by simpa using Rr) (.refl _ _) rfl rfl (fun i r e => by simp at e)
  exact this
theorem meanc_val {rs : List (Option Nat)} {ta : TE} {tr : TA} {fa : Sg → R D} {fr : Sg → R (List D)} (ha : MeanE g n W M1 ta fa) (hr : MeanC g n W rs M2 tr fr) : MeanC g n W (none :: rs) (M1 ++ M2) (tCons ta tr) (cCons M2 fa fr) := by
  intro Γ A σ H Q Rr cl h
  refine ha Γ A σ H _ Rr cl.left ?_
  unfold cCons at h
  cases ea : fa (ers n A) with
  | bad => rw [ea] at h; exact h.elim
  | exc c d S => rw [ea] at h; exact h
  | ok da S1 =>
    rw [ea] at h
    dsimp only [Lin.R.bind] at h
    intro A1 t1 H1 R1 x1 e1 d1
    by_cases hc : cleanD M2 da = true
    · rw [if_pos hc] at h
      have n1 : n ≤ A1.length := by rw [x1.len]; exact Rr.len
      refine hr Γ (A1 ++ [some t1]) σ H1 _ R1 ((cl.right.next x1.toNext Rr.len).snoc (by rw [d1]; exact hc)) ?_
      rw [ers_append n1, e1]
      cases eb : fr S1 with
      | bad => rw [eb] at h; exact h.elim
      | exc c d S =>
        rw [eb] at h
        intro A2 t2 H2 R2 x2 e2 d2
        obtain ⟨y, z⟩ := x2.left n1
        have n3 : n ≤ (A2.take A1.length).length := by rw [y.len]; exact n1
        rw [z] at R2 e2
        exact h (A2.take A1.length) t2 H2 (R2.mid n3) (x1.toNext.trans y) (by rw [ers_append n3] at e2; exact e2) d2
      | ok ds S2 =>
        rw [eb] at h
        dsimp only [Lin.R.bind] at h
        intro A2 ts H2 R2 x2 e2 d2 hk
        obtain ⟨y, z⟩ := x2.left n1
        have n3 : n ≤ (A2.take A1.length).length := by rw [y.len]; exact n1
        rw [z, List.append_assoc] at R2
        have := h (A2.take A1.length) (t1 :: ts) H2 (by simpa using R2) (x1.trans y) (by rw [z, ers_append n3] at e2; exact e2) (by simp [d1, d2]) (fun i r e => by
          cases i with
          | zero => simp at e
          | succ i =>
            obtain ⟨u, h1, h2, h3, h4⟩ := hk i r (by simpa using e)
            refine ⟨u, by simpa using h1, h2, ?_, h4⟩
            rw [z, List.getElem?_append_left (by omega)] at h3
            exact h3)
        exact this
    · rw [if_neg hc] at h; exact h.elim
theorem meanc_ref {rs : List (Option Nat)} {r : Nat} {tr : TA} {fr : Sg → R (List D)} (hr : MeanC g n W rs M2 tr fr) (hm : r ∉ M2) : MeanC g n W (some r :: rs) ([r] ++ M2) (tCons (tVar r) tr) (cRefs r fr) := by
  intro Γ A σ H Q Rr cl h
  unfold cRefs at h
  show tVar r σ H _
  unfold cMv at h
  split at h
  · rename_i d e
    obtain ⟨t, e1, e2, hi⟩ := ers_some e
    by_cases hb : hasBor r d = true
    · rw [if_pos hb] at h; exact h.elim
    · rw [if_neg hb] at h
      dsimp only [Lin.R.bind] at h
      refine ⟨_, Rr.val r t hi e1, ?_⟩
      have hb' : hasBor r t.er = false := by rw [e2]; simpa using hb
      have e3 : (kill n r A)[r]? = some (some t) := by
        unfold kill
        rw [List.getElem?_append_left (by simp; have := Rr.len; omega), List.getElem?_map, List.getElem?_take_of_lt hi, e1]
        show some (if hasBor r t.er then none else some t) = _
        rw [hb']; rfl
      have R2 := (Rr.kill r).move hi e3 (kill_clean cl.left)
      have nK : n ≤ ((kill n r A).set r none).length := by rw [List.length_set, kill_length]; exact Rr.len
      have x1 : NextM n [r] A ((kill n r A).set r none) := by
        refine ⟨⟨by rw [List.length_set, kill_length], ?_⟩, fun j hj hm => ?_⟩
        · rw [List.drop_set_of_lt hi]
          exact (nextM_kill (r := r) (M := []) Rr.len (.refl _ _)).tmp
        · have : j ≠ r := by simpa using hm
          rw [List.getElem?_set_ne (Ne.symm this)]
          exact kill_slot Rr.len hj
      by_cases hof : ofD d = true
      · rw [if_pos hof] at h
        have hk := (ofD_iff (g := g)).mp (by rw [e2]; exact hof)
        have cl2 : Clean g n M2 ((kill n r A).set r none ++ [some t]) := fun q hq i c hi2 x => by
          rcases cellAt_snoc.mp x with x | ⟨_, x⟩
          · exact (cl.right.next x1.toNext Rr.len) q hq i c hi2 x
          · intro z
            rcases hk c x with y | y <;> (rw [y] at z; cases z)
        refine hr Γ _ σ H _ R2 cl2 ?_
        have eS : ers n ((kill n r A).set r none ++ [some t]) = ((ers n A).map (killD r)).set r none := by
          rw [ers_append nK, ers_set hi, ers_kill Rr.len]; rfl
        rw [eS]
        cases eb : fr (((ers n A).map (killD r)).set r none) with
        | bad => rw [eb] at h; exact h.elim
        | exc c d S =>
          rw [eb] at h
          intro A2 t2 H2 R3 x2 e5 d2
          obtain ⟨y, z⟩ := x2.left nK
          have n3 : n ≤ (A2.take ((kill n r A).set r none).length).length := by rw [y.len]; exact nK
          rw [z] at R3 e5
          exact h _ t2 H2 (R3.mid n3) (x1.toNext.trans y) (by rw [ers_append n3] at e5; exact e5) d2
        | ok ds S2 =>
          rw [eb] at h
          dsimp only [Lin.R.bind] at h
          intro A2 ts H2 R3 x2 e5 d2 hkk
          obtain ⟨y, z⟩ := x2.left nK
          have hl : ((kill n r A).set r none).length = A.length := by rw [List.length_set, kill_length]
          have n3 : n ≤ (A2.take ((kill n r A).set r none).length).length := by rw [y.len]; exact nK
          have hrA : r < A.length := by have := Rr.len; omega
          have slr : (A2.take ((kill n r A).set r none).length)[r]? = some none := by
            rcases y.slot r hi hm with q | q
            · rw [q, List.getElem?_set_self (by rw [kill_length]; exact hrA)]
            · exact q
          rw [z, List.append_assoc] at R3
          have := h (A2.take ((kill n r A).set r none).length) (t :: ts) H2 (by simpa using R3) (x1.trans y) (by rw [z, ers_append n3] at e5; exact e5) (by simp [e2, d2]) (fun i r' e => by
            cases i with
            | zero =>
              have : r = r' := by simpa using e
              subst this
              exact ⟨t, rfl, Rr.val r t hi e1, slr, hi⟩
            | succ i =>
              obtain ⟨u, h1, h2, h3, h4⟩ := hkk i r' (by simpa using e)
              refine ⟨u, by simpa using h1, h2, ?_, h4⟩
              rw [z, List.getElem?_append_left (by rw [y.len, hl]; have := Rr.len; omega)] at h3
              exact h3)
          exact this
      · rw [if_neg hof] at h; exact h.elim
  · exact h.elim
end
end Lin
end
section
namespace Lin
open PySem L2
def setAll {α : Type} : List α → List Nat → List α → List α
  | A, r :: rs, u :: us => setAll (A.set r u) rs us
  | A, _, _ => A
theorem setAll_length {α : Type} : ∀ (A : List α) (rs : List Nat) (us : List α), (setAll A rs us).length = A.length
  | A, [], us => by cases us <;> rfl
  | A, _ :: _, [] => rfl
  | A, r :: rs, u :: us => by rw [setAll, setAll_length, List.length_set]
theorem setAll_out {α : Type} : ∀ (A : List α) (rs : List Nat) (us : List α) (i : Nat), i ∉ rs → (setAll A rs us)[i]? = A[i]?
  | A, [], us, i, _ => by cases us <;> rfl
  | A, _ :: _, [], i, _ => rfl
  | A, r :: rs, u :: us, i, h => by
    rw [List.mem_cons, not_or] at h
    rw [setAll, setAll_out _ rs us i h.2, List.getElem?_set_ne (Ne.symm h.1)]
theorem setAll_in {α : Type} : ∀ (A : List α) (rs : List Nat) (us : List α) (k i : Nat) (u : α), rs.Nodup → rs[k]? = some i → us[k]? = some u → i < A.length → (setAll A rs us)[i]? = some u
  | A, [], us, k, i, u, _, h, _, _ => by simp at h
  | A, _ :: _, [], k, i, u, _, _, h, _ => by simp at h
  | A, r :: rs, v :: us, 0, i, u, nd, h1, h2, hi => by
    simp at h1 h2
    subst h1; subst h2
    rw [setAll, setAll_out _ rs us r (List.nodup_cons.mp nd).1, List.getElem?_set_self hi]
  | A, r :: rs, v :: us, k + 1, i, u, nd, h1, h2, hi => by
    rw [setAll]
    exact setAll_in _ rs us k i u (List.nodup_cons.mp nd).2 (by simpa using h1) (by simpa using h2) (by rw [List.length_set]; exact hi)
theorem setAll_map {α β : Type} (f : α → β) : ∀ (A : List α) (rs : List Nat) (us : List α), (setAll A rs us).map f = setAll (A.map f) rs (us.map f)
  | A, [], us => by cases us <;> rfl
  | A, _ :: _, [] => rfl
  | A, r :: rs, u :: us => by
    rw [setAll, setAll_map f _ rs us, List.map_set]
    rfl
theorem setAll_take {α : Type} {n : Nat} : ∀ (A : List α) (rs : List Nat) (us : List α), (∀ r ∈ rs, r < n) → (setAll A rs us).take n = setAll (A.take n) rs us
  | A, [], us, _ => by cases us <;> rfl
  | A, _ :: _, [], _ => rfl
  | A, r :: rs, u :: us, h => by
    rw [setAll, setAll_take _ rs us (fun q hq => h q (List.mem_cons_of_mem _ hq)), List.take_set]
    rfl
theorem setAll_drop {α : Type} {n : Nat} : ∀ (A : List α) (rs : List Nat) (us : List α), (∀ r ∈ rs, r < n) → (setAll A rs us).drop n = A.drop n
  | A, [], us, _ => by cases us <;> rfl
  | A, _ :: _, [], _ => rfl
  | A, r :: rs, u :: us, h => by
    rw [setAll, setAll_drop _ rs us (fun q hq => h q (List.mem_cons_of_mem _ hq)), List.drop_set_of_lt (h r List.mem_cons_self)]
theorem nodup_flat {α β : Type} {f : α → List β} : ∀ {L : List α} {i j : Nat} {a b : α} {x : β}, (L.flatMap f).Nodup → L[i]? = some a → L[j]? = some b → x ∈ f a → x ∈ f b → i = j
  | [], i, j, a, b, x, _, h, _, _, _ => by simp at h
  | y :: L, 0, 0, a, b, x, _, _, _, _, _ => rfl
  | y :: L, 0, j + 1, a, b, x, nd, h1, h2, ha, hb => by
    rw [List.flatMap_cons] at nd
    simp at h1; subst h1
    exact absurd rfl ((List.nodup_append.mp nd).2.2 x ha x (List.mem_flatMap.mpr ⟨b, List.mem_of_getElem? (by simpa using h2), hb⟩))
  | y :: L, i + 1, 0, a, b, x, nd, h1, h2, ha, hb => by
    rw [List.flatMap_cons] at nd
    simp at h2; subst h2
    exact absurd rfl ((List.nodup_append.mp nd).2.2 x hb x (List.mem_flatMap.mpr ⟨a, List.mem_of_getElem? (by simpa using h1), ha⟩))
  | y :: L, i + 1, j + 1, a, b, x, nd, h1, h2, ha, hb => by
    rw [List.flatMap_cons] at nd
    rw [nodup_flat (i := i) (j := j) (List.nodup_append.mp nd).2.1 (by simpa using h1) (by simpa using h2) ha hb]
theorem refs_get {α : Type} : ∀ (rs : List (Option Nat)) (ts : List α) (k r : Nat), (rs.filterMap id)[k]? = some r → ts.length = rs.length → ∃ (i : Nat) (t : α), rs[i]? = some (some r) ∧ ts[i]? = some t ∧ (refs (rs.map Option.isSome) ts)[k]? = some t
  | [], ts, k, r, h, _ => by simp at h
  | none :: rs, [], k, r, _, h => by simp at h
  | none :: rs, x :: ts, k, r, h, hl => by
    obtain ⟨i, t, h1, h2, h3⟩ := refs_get rs ts k r (by simpa using h) (by simpa using hl)
    exact ⟨i + 1, t, by simpa using h1, by simpa using h2, by simpa [refs] using h3⟩
  | some q :: rs, [], k, r, _, h => by simp at h
  | some q :: rs, x :: ts, 0, r, h, hl => by
    refine ⟨0, x, ?_, rfl, by simp [refs]⟩
    simpa using h
  | some q :: rs, x :: ts, k + 1, r, h, hl => by
    obtain ⟨i, t, h1, h2, h3⟩ := refs_get rs ts k r (by simpa using h) (by simpa using hl)
    exact ⟨i + 1, t, by simpa using h1, by simpa using h2, by simpa [refs] using h3⟩
theorem refs_length {α : Type} : ∀ (rs : List (Option Nat)) (ts : List α), ts.length = rs.length → (refs (rs.map Option.isSome) ts).length = (rs.filterMap id).length
  | [], [], _ => rfl
  | [], _ :: _, h => by simp at h
  | _ :: _, [], h => by simp at h
  | none :: rs, x :: ts, h => by simpa [refs] using refs_length rs ts (by simpa using h)
  | some q :: rs, x :: ts, h => by simpa [refs] using refs_length rs ts (by simpa using h)
/-- the arguments as the callee sees them -/
def argsT : List (Option Nat) → List T → List T
  | some _ :: rs, t :: ts => t :: argsT rs ts
  | none :: rs, t :: ts => t.mk kPar :: argsT rs ts
  | _, _ => []
def argsD : List (Option Nat) → List D → List D
  | some _ :: rs, t :: ts => t :: argsD rs ts
  | none :: rs, t :: ts => t.mk kPar :: argsD rs ts
  | _, _ => []
theorem argsT_er : ∀ (rs : List (Option Nat)) (ts : List T), (argsT rs ts).map T.er = argsD rs (ts.map T.er)
  | [], [] => rfl
  | [], _ :: _ => rfl
  | none :: _, [] => rfl
  | some _ :: _, [] => rfl
  | some _ :: rs, t :: ts => by simp [argsT, argsD, argsT_er rs ts]
  | none :: rs, t :: ts => by simp [argsT, argsD, argsT_er rs ts, er_mk]
theorem argsT_root : ∀ (rs : List (Option Nat)) (ts : List T), ts.length = rs.length → (argsT rs ts).map T.root = ts.map T.root
  | [], [], _ => rfl
  | [], _ :: _, h => by simp at h
  | none :: _, [], h => by simp at h
  | some _ :: _, [], h => by simp at h
  | some _ :: rs, t :: ts, h => by simp [argsT, argsT_root rs ts (by simpa using h)]
  | none :: rs, t :: ts, h => by simp [argsT, argsT_root rs ts (by simpa using h), root_mk]
theorem argsT_length : ∀ (rs : List (Option Nat)) (ts : List T), ts.length = rs.length → (argsT rs ts).length = rs.length
  | [], [], _ => rfl
  | [], _ :: _, h => by simp at h
  | none :: _, [], h => by simp at h
  | some _ :: _, [], h => by simp at h
  | some _ :: rs, t :: ts, h => by simp [argsT, argsT_length rs ts (by simpa using h)]
  | none :: rs, t :: ts, h => by simp [argsT, argsT_length rs ts (by simpa using h)]
theorem argsT_get : ∀ (rs : List (Option Nat)) (ts : List T) (i : Nat) (u : T), ts.length = rs.length → (argsT rs ts)[i]? = some u → ∃ t, ts[i]? = some t ∧ ((∃ r, rs[i]? = some (some r) ∧ u = t) ∨ (rs[i]? = some none ∧ u = t.mk kPar))
  | [], [], i, u, _, h => by simp [argsT] at h
  | [], _ :: _, i, u, h, _ => by simp at h
  | none :: _, [], i, u, h, _ => by simp at h
  | some _ :: _, [], i, u, h, _ => by simp at h
  | some r :: rs, t :: ts, 0, u, _, h => ⟨t, rfl, .inl ⟨r, rfl, by simpa [argsT] using h.symm⟩⟩
  | none :: rs, t :: ts, 0, u, _, h => ⟨t, rfl, .inr ⟨rfl, by simpa [argsT] using h.symm⟩⟩
  | some r :: rs, t :: ts, i + 1, u, hl, h => by
    obtain ⟨v, h1, h2⟩ := argsT_get rs ts i u (by simpa using hl) (by simpa [argsT] using h)
    exact ⟨v, by simpa using h1, by simpa using h2⟩
  | none :: rs, t :: ts, i + 1, u, hl, h => by
    obtain ⟨v, h1, h2⟩ := argsT_get rs ts i u (by simpa using hl) (by simpa [argsT] using h)
    exact ⟨v, by simpa using h1, by simpa using h2⟩
theorem kPar_own (k : Kd) : kPar k ≠ .own := by
  unfold kPar
  split <;> (intro h; cases h)
theorem argsT_owns (g : Gc) : ∀ (rs : List (Option Nat)) (ts : List T), ts.length = rs.length → (ownsC (cellsL g (argsT rs ts))).Sublist (ownsC (cellsL g ts))
  | [], [], _ => List.Sublist.refl _
  | [], _ :: _, h => by simp at h
  | none :: _, [], h => by simp at h
  | some _ :: _, [], h => by simp at h
  | some _ :: rs, t :: ts, h => by
    simp only [argsT, cellsL, ownsC_append]
    exact List.Sublist.append (List.Sublist.refl _) (argsT_owns g rs ts (by simpa using h))
  | none :: rs, t :: ts, h => by
    simp only [argsT, cellsL, ownsC_append]
    have : ownsC ((t.mk kPar).cells g) = [] := owns_none fun c hc => by
      rw [cells_mk g _ (by first | rfl | decide)] at hc
      obtain ⟨d, _, rfl⟩ := List.mem_map.mp hc
      exact kPar_own d.1
    rw [this, List.nil_append]
    exact (argsT_owns g rs ts (by simpa using h)).trans (List.sublist_append_right _ _)
theorem mem_cellsL {g : Gc} {ts : List T} {c : Cell} (h : c ∈ cellsL g ts) : ∃ (i : Nat) (t : T), ts[i]? = some t ∧ c ∈ t.cells g := by
  rw [cellsL_eq, List.mem_flatMap] at h
  obtain ⟨t, ht, hc⟩ := h
  obtain ⟨i, hi, e⟩ := List.getElem_of_mem ht
  exact ⟨i, t, by rw [List.getElem?_eq_getElem hi, e], hc⟩
theorem cellsL_mem {g : Gc} {ts : List T} {c : Cell} {i : Nat} {t : T} (h : ts[i]? = some t) (hc : c ∈ t.cells g) : c ∈ cellsL g ts := by
  rw [cellsL_eq, List.mem_flatMap]
  exact ⟨t, List.mem_of_getElem? h, hc⟩
/-- an own cell of the arguments is one of the temps' -/
theorem mem_args {g : Gc} {rs : List (Option Nat)} {ts : List T} (hl : ts.length = rs.length) {c : Cell} (hc : c ∈ cellsL g (argsT rs ts)) (k : c.1 = .own) : ∃ (i : Nat) (t : T) (d : Cell), ts[i]? = some t ∧ d ∈ t.cells g ∧ d = c := by
  obtain ⟨i, u, hu, hcu⟩ := mem_cellsL hc
  obtain ⟨t, ht, ⟨r, h1, rfl⟩ | ⟨h1, rfl⟩⟩ := argsT_get rs ts i u hl hu
  · exact ⟨i, u, c, ht, hcu, rfl⟩
  · rw [cells_mk g _ (by first | rfl | decide)] at hcu
    obtain ⟨d, hd, rfl⟩ := List.mem_map.mp hcu
    exact absurd k (kPar_own _)
section
variable {g : Gc} {n : Nat} {W : WX} {Γ : Gh} {A A' A'' B : List (Option T)} {σ : L2.St} {H H' : Hp} {t : T} {M M1 M2 M3 : List Nat}
theorem Rel.callOk {rs : List (Option Nat)} {ts : List T} (Rr : Rel g Γ n (A ++ ts.map some) σ H) (hn : n ≤ A.length) (hl : ts.length = rs.length) (hof : ∀ (i r : Nat) t, rs[i]? = some (some r) → ts[i]? = some t → ofD t.er = true) :
    CallOk g H (rs.map Option.isSome) (argsT rs ts) := by
  have atB : ∀ {i t c}, ts[i]? = some t → c ∈ t.cells g → CellAt g (A ++ ts.map some) (A.length + i) c := fun {i t c} h hc => cellAt_append.mpr (.inr ⟨by omega, t, by rw [Nat.add_sub_cancel_left, List.getElem?_map, h]; rfl, hc⟩)
  have src : ∀ c ∈ cellsL g (argsT rs ts), ∃ (i : Nat) (t : T) (d : Cell), ts[i]? = some t ∧ d ∈ t.cells g ∧ d.2 = c.2 ∧ (((∃ r, rs[i]? = some (some r)) ∧ c.1 = d.1) ∨ (rs[i]? = some none ∧ c.1 = kPar d.1)) := fun c hc => by
    obtain ⟨i, u, hu, hcu⟩ := mem_cellsL hc
    obtain ⟨t, ht, ⟨r, h1, rfl⟩ | ⟨h1, rfl⟩⟩ := argsT_get rs ts i u hl hu
    · exact ⟨i, u, c, ht, hcu, rfl, .inl ⟨⟨r, h1⟩, rfl⟩⟩
    · rw [cells_mk g _ (by first | rfl | decide)] at hcu
      obtain ⟨d, hd, rfl⟩ := List.mem_map.mp hcu
      exact ⟨i, t, d, ht, hd, rfl, .inr ⟨h1, rfl⟩⟩
  refine ⟨by rw [argsT_length rs ts hl, List.length_map], fun c hc => ?_, fun i u hu c hc => ?_, ?_, fun c hc d hd hown hadr => ?_, Rr.tab⟩
  · obtain ⟨i, t, d, ht, hd, e, q⟩ := src c hc
    refine (Rr.hold _ d (atB ht hd)).to e fun k => ?_
    rcases q with ⟨_, q⟩ | ⟨_, q⟩
    · rw [← q]; exact k
    · rw [q] at k; exact absurd k (kPar_own _)
  · obtain ⟨t, ht, ⟨r, h1, rfl⟩ | ⟨h1, rfl⟩⟩ := argsT_get rs ts i u hl hu
    · rcases (ofD_iff (g := g)).mp (hof i r u h1 ht) c hc with z | z
      · exact .inr (.inl ⟨by rw [List.getElem?_map, h1]; rfl, z⟩)
      · exact .inl z
    · rw [cells_mk g _ (by first | rfl | decide)] at hc
      obtain ⟨d, hd, rfl⟩ := List.mem_map.mp hc
      by_cases z : d.1 = .frz
      · exact .inl (by simp [kPar, z])
      · exact .inr (.inr ⟨by rw [List.getElem?_map, h1]; rfl, by simp [kPar, z]⟩)
  · have := Rr.ndB hn
    rw [flat_owns] at this
    exact (argsT_owns g rs ts hl).nodup this
  · obtain ⟨i, t, c', ht, hc', ec, hk⟩ := src c hc
    obtain ⟨j, u, d', hu, hd', ed, hk'⟩ := src d hd
    have oc : c'.1 = .own := by
      rcases hk with ⟨_, z⟩ | ⟨_, z⟩
      · rw [← z]; exact hown
      · exact absurd (z ▸ hown) (kPar_own _)
    rcases Rr.sep _ _ c' d' (atB ht hc') (atB hu hd') oc (by rw [ed, ec]; exact hadr) with ⟨e, z⟩ | ⟨_, z⟩
    · have : i = j := by omega
      subst this
      rcases hk' with ⟨_, z'⟩ | ⟨z1, _⟩
      · rw [z']; exact z
      · rcases hk with ⟨⟨r, z2⟩, _⟩ | ⟨_, z2⟩
        · rw [z1] at z2; cases z2
        · exact absurd (z2 ▸ hown) (kPar_own _)
    · have := Rr.lab _ _ _ (atB hu hd') z
      omega
/-- behind the call -/
theorem Rel.back {rs : List (Option Nat)} {ts us : List T} (Rr : Rel g Γ n (A ++ ts.map some) σ H) (hn : n ≤ A.length) (hl : ts.length = rs.length) (hnd : (rs.filterMap id).Nodup)
    (hk : ∀ (i r : Nat), rs[i]? = some (some r) → ∃ t, ts[i]? = some t ∧ σ[r]? = some (some t.root) ∧ A[r]? = some none ∧ r < n)
    (b : BackOk g H H' (rs.map Option.isSome) (argsT rs ts) t us) : Rel g Γ n (setAll A (rs.filterMap id) (us.map some) ++ [some t]) σ H' := by
  have atB : ∀ {i t c}, ts[i]? = some t → c ∈ t.cells g → CellAt g (A ++ ts.map some) (A.length + i) c := fun {i t c} h hc => cellAt_append.mpr (.inr ⟨by omega, t, by rw [Nat.add_sub_cancel_left, List.getElem?_map, h]; rfl, hc⟩)
  have atA : ∀ {i c}, CellAt g A i c → CellAt g (A ++ ts.map some) i c := fun h => cellAt_left h
  have slots : ∀ {i}, i ∈ rs.filterMap id → i < n := fun {i} h => by
    obtain ⟨o, ho, e⟩ := List.mem_filterMap.mp h
    have e : o = some i := e
    subst e
    obtain ⟨j, hj, ej⟩ := List.getElem_of_mem ho
    obtain ⟨_, _, _, _, q⟩ := hk j i (by rw [List.getElem?_eq_getElem hj, ej])
    exact q
  have ulen : us.length = (rs.filterMap id).length := by
    have := congrArg List.length b.root
    rw [List.length_map, List.length_map] at this
    rw [this]
    have q : (argsT rs ts).length = rs.length := argsT_length rs ts hl
    exact refs_length rs (argsT rs ts) q
  have src : ∀ c ∈ cellsL g (argsT rs ts), ∃ i d, CellAt g (A ++ ts.map some) (A.length + i) d ∧ d.2 = c.2 ∧ (c.1 = d.1 ∨ c.1 = kPar d.1) := fun c hc => by
    obtain ⟨i, u, hu, hcu⟩ := mem_cellsL hc
    obtain ⟨t, ht, ⟨r, h1, rfl⟩ | ⟨h1, rfl⟩⟩ := argsT_get rs ts i u hl hu
    · exact ⟨i, c, atB ht hcu, rfl, .inl rfl⟩
    · rw [cells_mk g _ (by first | rfl | decide)] at hcu
      obtain ⟨d, hd, rfl⟩ := List.mem_map.mp hcu
      exact ⟨i, d, atB ht hd, rfl, .inr rfl⟩
  have ownsrc : ∀ {a}, a ∈ ownsC (cellsL g (argsT rs ts)) → ∃ i d, CellAt g (A ++ ts.map some) (A.length + i) d ∧ d.1 = .own ∧ d.2.1 = a := fun {a} h => by
    obtain ⟨c, hc, k1, k2⟩ := mem_ownsC.mp h
    obtain ⟨i, d, x, e, z⟩ := src c hc
    refine ⟨i, d, x, ?_, by rw [e]; exact k2⟩
    rcases z with z | z
    · rw [← z]; exact k1
    · exact absurd (z ▸ k1) (kPar_own _)
  -- what stands in the slots is not changed by the call
  have notown : ∀ {i c}, CellAt g A i c → c.2.1 ∉ ownsC (cellsL g (argsT rs ts)) := fun {i c} x h => by
    obtain ⟨j, d, y, k, e⟩ := ownsrc h
    have := x.lt
    rcases Rr.sep _ i d c y (atA x) k e.symm with ⟨z, _⟩ | ⟨_, z⟩
    · omega
    · have := Rr.lab _ _ _ (atA x) z
      omega
  have split : ∀ {i c}, CellAt g (setAll A (rs.filterMap id) (us.map some) ++ [some t]) i c → (CellAt g A i c ∧ i ∉ rs.filterMap id) ∨ (∃ k u, (t :: us)[k]? = some u ∧ c ∈ u.cells g ∧ ((k = 0 ∧ i = A.length) ∨ ∃ k', k = k' + 1 ∧ (rs.filterMap id)[k']? = some i ∧ i < A.length)) := fun {i c} x => by
    rcases cellAt_snoc.mp x with x | ⟨e, x⟩
    · by_cases hi : i ∈ rs.filterMap id
      · obtain ⟨k, hk', ek⟩ := List.getElem_of_mem hi
        have hku : k < us.length := by omega
        obtain ⟨u, eu, hu⟩ := x
        have := setAll_in A (rs.filterMap id) (us.map some) k i (some us[k]) hnd (by rw [List.getElem?_eq_getElem hk', ek]) (by rw [List.getElem?_map, List.getElem?_eq_getElem hku]; rfl) (Nat.lt_of_lt_of_le (slots hi) hn)
        rw [this] at eu
        have : us[k] = u := by simpa using eu
        exact .inr ⟨k + 1, u, by simp [← this, List.getElem?_eq_getElem hku], hu, .inr ⟨k, rfl, by rw [List.getElem?_eq_getElem hk', ek], Nat.lt_of_lt_of_le (slots hi) hn⟩⟩
      · obtain ⟨u, eu, hu⟩ := x
        rw [setAll_out _ _ _ _ hi] at eu
        exact .inl ⟨⟨u, eu, hu⟩, hi⟩
    · exact .inr ⟨0, t, rfl, x, .inl ⟨rfl, by rw [e, setAll_length]⟩⟩
  have inb : ∀ {k : Nat} {u : T} {c : Cell}, (t :: us)[k]? = some u → c ∈ u.cells g → c ∈ t.cells g ++ cellsL g us := fun {k u c} h hc => by
    have : c ∈ cellsL g (t :: us) := cellsL_mem h hc
    simpa [cellsL] using this
  have flat : ((t :: us).flatMap fun u => ownsC (u.cells g)).Nodup := by
    have e : ((t :: us).flatMap fun u => ownsC (u.cells g)) = ownsC (t.cells g ++ cellsL g us) := by
      have : ∀ l : List T, (l.flatMap fun u => ownsC (u.cells g)) = ownsC (cellsL g l) := fun l => by
        induction l with
        | nil => rfl
        | cons x r ih => rw [List.flatMap_cons, cellsL, ownsC_append, ih]
      rw [this]; rfl
    rw [e]; exact b.nd
  have newA : ∀ {j : Nat} {c d : Cell}, CellAt g A j d → c ∈ t.cells g ++ cellsL g us → c.1 = .own → d.2.1 ≠ c.2.1 := fun {j c d} x hc k e => by
    rcases b.own c hc (mem_ntup hc k) with z | z | ⟨z, _⟩
    · exact notown x (by rw [e]; exact z)
    · exact Nw.neD (by rw [e]; exact z) (Rr.hold j d (atA x)) (cellAt_sane x)
    · rw [k] at z; cases z
  refine ⟨by rw [List.length_append, setAll_length]; simp; omega, Rr.slen, ?_, ?_, ?_, ?_, ?_, ?_, ?_, ?_, Rr.pin, b.tab, fun a p ea => ?_⟩
  rotate_right
  · obtain ⟨e1, e2⟩ := Rr.lck a p ea
    refine ⟨b.frame a _ e1 (fun ps z => nomatch z) fun z => ?_, e2⟩
    obtain ⟨c, hc, k1, k2⟩ := mem_ownsC.mp z
    obtain ⟨i, w, d, hd, q1, q2⟩ := mem_args hl hc k1
    have := (Rr.hold (A.length + i) d (cellAt_append.mpr (.inr ⟨by omega, w, by rw [Nat.add_sub_cancel_left, List.getElem?_map, hd]; rfl, q1⟩))).own (q2 ▸ k1)
    rw [q2, k2, e1] at this
    have hs := cells_sane g w d q1
    rw [q2] at hs
    exact hs.2.2 _ _ (Option.some.inj this).symm e2
  · intro i u hi e
    rw [List.getElem?_append_left (by rw [setAll_length]; omega)] at e
    by_cases hm : i ∈ rs.filterMap id
    · obtain ⟨k, hk', ek⟩ := List.getElem_of_mem hm
      have hki : (rs.filterMap id)[k]? = some i := by rw [List.getElem?_eq_getElem hk', ek]
      have hku : k < us.length := by omega
      have := setAll_in A (rs.filterMap id) (us.map some) k i (some us[k]) hnd hki (by rw [List.getElem?_map, List.getElem?_eq_getElem hku]; rfl) (by omega)
      rw [this] at e
      have eu : us[k] = u := by simpa using e
      obtain ⟨j, w, h1, h2, h3⟩ := refs_get rs (argsT rs ts) k i hki (argsT_length rs ts hl)
      obtain ⟨v, hv, hs, _⟩ := hk j i h1
      have hroot : u.root = w.root := by
        have := congrArg (fun l => l[k]?) b.root
        simp only [List.getElem?_map] at this
        rw [List.getElem?_eq_getElem hku, eu, h3] at this
        simpa using this
      obtain ⟨v', hv', ⟨r, _, z⟩ | ⟨z, _⟩⟩ := argsT_get rs ts j w hl h2
      · rw [hv] at hv'
        have : v = v' := by simpa using hv'
        subst this
        rw [hs, hroot, z]
      · rw [h1] at z; cases z
    · rw [setAll_out _ _ _ _ hm] at e
      exact Rr.val i u hi (by rw [List.getElem?_append_left (by omega)]; exact e)
  · intro i c x
    rcases split x with ⟨x, _⟩ | ⟨k, u, hu, hc, _⟩
    · exact (Rr.hold i c (atA x)).extN (cellAt_sane x) fun o e k => b.frame _ o e k (notown x)
    · exact b.hold c (inb hu hc)
  · intro i c r x q
    rcases split x with ⟨x, _⟩ | ⟨k, u, hu, hc, _⟩
    · exact Rr.lab i c r (atA x) q
    · rcases b.kind c (inb hu hc) with z | z <;> (rw [z] at q; cases q)
  · intro i u e
    rcases snoc_get e with ⟨hi, e⟩ | ⟨_, e⟩
    · by_cases hm : i ∈ rs.filterMap id
      · obtain ⟨k, hk', ek⟩ := List.getElem_of_mem hm
        have hku : k < us.length := by omega
        have := setAll_in A (rs.filterMap id) (us.map some) k i (some us[k]) hnd (by rw [List.getElem?_eq_getElem hk', ek]) (by rw [List.getElem?_map, List.getElem?_eq_getElem hku]; rfl) (by rw [setAll_length] at hi; exact hi)
        rw [this] at e
        have eu : us[k] = u := by simpa using e
        rw [← eu]
        have hs : (us[k].cells g).Sublist (t.cells g ++ cellsL g us) := (at_sub (List.getElem?_eq_getElem hku)).trans (List.sublist_append_right _ _)
        exact (owns_sublist hs).nodup b.nd
      · rw [setAll_out _ _ _ _ hm] at e
        exact Rr.nd i u (by rw [List.getElem?_append_left (List.getElem?_eq_some_iff.mp e).1]; exact e)
    · rw [e]
      exact (owns_sublist (List.sublist_append_left _ _)).nodup b.nd
  · intro i j c d x y hown hadr
    rcases split x with ⟨x, hxi⟩ | ⟨k, u, hu, hc, hpos⟩
    · rcases split y with ⟨y, hyj⟩ | ⟨l, v, hv, hd, hpos'⟩
      · exact Rr.sep i j c d (atA x) (atA y) hown hadr
      · exfalso
        by_cases ntd : HTup d.2.2
        · exact Hd.clash ((Rr.hold i c (atA x)).extN (cellAt_sane x) fun o e k => b.frame _ o e k (notown x)) hown (cellAt_ntup x hown) (b.hold d (inb hv hd)) hadr ntd
        rcases b.own d (inb hv hd) ntd with z | z | ⟨_, e, he, k1, k2, _⟩
        · exact notown x (by rw [← hadr]; exact z)
        · exact Nw.neD (by rw [← hadr]; exact z) (Rr.hold i c (atA x)) (cellAt_sane x)
        · obtain ⟨m, e', y', q1, q2⟩ := src e he
          have fr : e'.1 = .frz := by
            rcases q2 with q2 | q2
            · rw [← q2]; exact k1
            · have : kPar e'.1 = .frz := by rw [← q2]; exact k1
              unfold kPar at this
              by_cases z : e'.1 = .frz
              · exact z
              · rw [if_neg z] at this; cases this
          rcases Rr.sep i _ c e' (atA x) y' hown (by rw [q1, k2]; exact hadr) with ⟨z, _⟩ | ⟨_, z⟩
          · have := x.lt; omega
          · rw [fr] at z; cases z
    · rcases split y with ⟨y, hyj⟩ | ⟨l, v, hv, hd, hpos'⟩
      · exact absurd hadr (newA y (inb hu hc) hown)
      · have od := b.sep c (inb hu hc) d (inb hv hd) hown hadr
        have : k = l := nodup_flat flat hu hv (mem_ownsC.mpr ⟨c, hc, hown, rfl⟩) (mem_ownsC.mpr ⟨d, hd, od, hadr⟩)
        subst this
        refine .inl ⟨?_, od⟩
        rcases hpos with ⟨h0, h1⟩ | ⟨k', h0, h1, _⟩
        · rcases hpos' with ⟨_, h2⟩ | ⟨k'', h2, _⟩
          · rw [h1, h2]
          · omega
        · rcases hpos' with ⟨h2, _⟩ | ⟨k'', h2, h3, _⟩
          · omega
          · have : k' = k'' := by omega
            subst this
            rw [h1] at h3
            exact Option.some.inj h3
  · intro a o h1 h3 h2
    refine b.frame a o (Rr.frame a o h1 h3 h2) h3 fun hm => ?_
    obtain ⟨i, d, y, k, e⟩ := ownsrc hm
    rcases Rr.gown _ d y with z | z | z | z
    · rw [k] at z; cases z
    · rw [k] at z; cases z
    · rw [e] at z; exact h2 z
    · rw [e] at z
      rcases z with z | ⟨ps, z⟩
      · rw [h1] at z; cases z
      · rw [h1] at z; cases z; exact h3 ps rfl
  · intro i c x
    rcases split x with ⟨x, _⟩ | ⟨k, u, hu, hc, _⟩
    · exact Rr.gown i c (atA x)
    · by_cases ntc : HTup c.2.2
      · rcases b.kind c (inb hu hc) with q | q
        · exact absurd ntc (mem_ntup (inb hu hc) q)
        · exact .inl q
      rcases b.own c (inb hu hc) ntc with z | z | ⟨z, _⟩
      · obtain ⟨j, d, y, k1, e⟩ := ownsrc z
        have := Rr.gown _ d y
        rw [k1, e] at this
        rcases this with q | q | q
        · cases q
        · cases q
        · exact .inr (.inr q)
      · exact .inr (.inr (Rr.freshN z))
      · exact .inl z
  · intro i c x q nt
    rcases split x with ⟨x, _⟩ | ⟨k, u, hu, hc, _⟩
    · exact Rr.gfrz i c (atA x) q nt
    · rcases b.own c (inb hu hc) nt with z | z | ⟨_, e, he, k1, k2, nte⟩
      · obtain ⟨j, d, y, k1, e⟩ := ownsrc z
        have := Rr.gown _ d y
        rw [k1, e] at this
        rcases this with q | q | q
        · cases q
        · cases q
        · exact q.elim .inl fun z => .inr (.inl z)
      · exact (Rr.freshN z).elim .inl fun z => .inr (.inl z)
      · obtain ⟨m, e', y', q1, q2⟩ := src e he
        have fr : e'.1 = .frz := by
          rcases q2 with q2 | q2
          · rw [← q2]; exact k1
          · have : kPar e'.1 = .frz := by rw [← q2]; exact k1
            unfold kPar at this
            by_cases z : e'.1 = .frz
            · exact z
            · rw [if_neg z] at this; cases this
        have := Rr.gfrz _ e' y' fr (by rw [q1]; exact nte)
        rw [q1, k2] at this
        exact this
/-! ### the call -/
def backS (rs : List (Option Nat)) (ms : List D) (S : Sg) : Sg := setAll S (rs.filterMap id) (ms.map some)
def callR (rs : List (Option Nat)) (sem : FSem) (ds : List D) (S : Sg) : R D :=
  if ds.length = rs.length then match sem (argsD rs ds) with
    | .ok d ms => .ok d (backS rs ms S)
    | .exc c d ms => .exc c d (backS rs ms S)
    | .bad => .bad
  else .bad
def cCall (rs : List (Option Nat)) (fr : Sg → R (List D)) (sem : FSem) : Sg → R D := fun S => (fr S).bind fun ds S1 => if (List.zip rs ds).all (fun p => p.1.isNone || ofD p.2) then callR rs sem ds S1 else .bad
theorem call_core {rs : List (Option Nat)} {sem : FSem} {ts : List T} {Q : VK} {S1 : Sg} (Rr : Rel g Γ n (A' ++ ts.map some) σ H) (hn : n ≤ A'.length) (x : NextM n M A A') (hm : ∀ r ∈ rs.filterMap id, r ∈ M) (e : ers n A' = S1) (hnd : (rs.filterMap id).Nodup)
    (hof : ((List.zip rs (ts.map T.er)).all fun p => p.1.isNone || ofD p.2) = true)
    (hk : ∀ (i r : Nat), rs[i]? = some (some r) → ∃ t, ts[i]? = some t ∧ σ[r]? = some (some t.root) ∧ A'[r]? = some none ∧ r < n)
    (h : PostE g n W M Γ A σ Q (callR rs sem (ts.map T.er) S1)) : spOf g (rs.map Option.isSome) sem (ts.map T.root) H Q (WE W σ) := by
  unfold callR at h
  by_cases hl : (ts.map T.er).length = rs.length
  · rw [if_pos hl] at h
    have hl' : ts.length = rs.length := by simpa using hl
    have slots : ∀ r ∈ rs.filterMap id, r < n := fun r hr => by
      obtain ⟨o, ho, e⟩ := List.mem_filterMap.mp hr
      have e : o = some r := e
      subst e
      obtain ⟨j, hj, ej⟩ := List.getElem_of_mem ho
      obtain ⟨_, _, _, _, q⟩ := hk j r (by rw [List.getElem?_eq_getElem hj, ej])
      exact q
    have of2 : ∀ (i r : Nat) t, rs[i]? = some (some r) → ts[i]? = some t → ofD t.er = true := fun i r t h1 h2 => by
      have hz : (List.zip rs (ts.map T.er))[i]? = some (some r, t.er) := by
        rw [List.getElem?_zip_eq_some]
        exact ⟨h1, by rw [List.getElem?_map, h2]; rfl⟩
      have := List.all_eq_true.mp hof _ (List.mem_of_getElem? hz)
      simpa using this
    refine ⟨argsT rs ts, (argsT_root rs ts hl').symm, Rr.callOk hn hl' of2, ?_⟩
    rw [argsT_er]
    have nx : ∀ us : List T, us.length = us.length → NextM n M A (setAll A' (rs.filterMap id) (us.map some)) := fun us _ => by
      refine ⟨⟨by rw [setAll_length]; exact x.len, by rw [setAll_drop _ _ _ slots]; exact x.tmp⟩, fun i hi hmi => ?_⟩
      rw [setAll_out _ _ _ _ fun z => hmi (hm i z)]
      exact x.slot i hi hmi
    have es : ∀ us : List T, ers n (setAll A' (rs.filterMap id) (us.map some)) = backS rs (us.map T.er) S1 := fun us => by
      unfold ers backS
      rw [setAll_take _ _ _ slots, setAll_map, List.map_map]
      have : (List.take n A').map (Option.map T.er) = S1 := e
      rw [this, List.map_map]
      rfl
    cases q : sem (argsD rs (ts.map T.er)) with
    | bad => rw [q] at h; exact h
    | ok d ms =>
      rw [q] at h
      intro H' t us b et eu
      exact h _ t H' (Rr.back hn hl' hnd hk b) (nx us rfl) (by rw [es us, eu]) et
    | exc c d ms =>
      rw [q] at h
      intro H' t us b et eu
      exact h _ t H' (Rr.back hn hl' hnd hk b) (nx us rfl).toNext (by rw [es us, eu]) et
  · rw [if_neg hl] at h; exact h.elim
theorem mean_call {rs : List (Option Nat)} {ta : TA} {fr : Sg → R (List D)} {sem : FSem} (ha : MeanC g n W rs M1 ta fr) (hm : ∀ r ∈ rs.filterMap id, r ∈ M1) (hnd : (rs.filterMap id).Nodup) : MeanE g n W M1 (tCallS (spOf g (rs.map Option.isSome) sem) (WE W) ta) (cCall rs fr sem) := by
  intro Γ A σ H Q Rr cl h
  refine ha Γ A σ H _ Rr cl ?_
  unfold cCall at h
  cases ea : fr (ers n A) with
  | bad => rw [ea] at h; exact h.elim
  | exc c d S => rw [ea] at h; exact h
  | ok ds S1 =>
    rw [ea] at h
    dsimp only [Lin.R.bind] at h
    intro A1 ts H1 R1 x1 e1 d1 hk
    split at h
    · rename_i hof
      rw [← d1] at h hof
      exact call_core R1 (by rw [x1.len]; exact Rr.len) x1 hm e1 hnd hof hk h
    · exact h.elim
end
end Lin
end
section
namespace Lin
open PySem L2
/-! ### a def's body as the def's meaning -/
def kRet (mr : List Bool) : Kd → Kd
  | .bor r => if mr[r]? = some true then .bor r else .frz
  | k => k
def usOf {α : Type} : List Bool → List (Option α) → Option (List α)
  | [], _ => some []
  | true :: mr, some d :: S => (usOf mr S).map (d :: ·)
  | false :: mr, _ :: S => usOf mr S
  | _, _ => none
def fin (mr : List Bool) (d : D) (S : Sg) (k : D → List D → Rc) : Rc := match usOf mr S with
  | some ms => if ofD (d.mk (kRet mr)) && ms.all ofD then k (d.mk (kRet mr)) ms else .bad
  | none => .bad
def semOf (n : Nat) (mr : List Bool) (f : Sg → R Fl) : FSem := fun ds => match f (ds.map some ++ List.replicate (n - ds.length) none) with
  | .ok .nx S => fin mr (.im .non) S .ok
  | .ok (.ret d) S => fin mr d S .ok
  | .exc c d S => fin mr d S (.exc c)
  | _ => .bad
theorem usOf_map {α β : Type} (f : α → β) : ∀ (mr : List Bool) (S : List (Option α)), usOf mr (S.map (Option.map f)) = (usOf mr S).map (List.map f)
  | [], _ => rfl
  | true :: mr, [] => rfl
  | false :: mr, [] => rfl
  | true :: mr, none :: S => rfl
  | true :: mr, some d :: S => by
    simp only [List.map_cons, Option.map_some, usOf, usOf_map f mr S]
    cases usOf mr S <;> rfl
  | false :: mr, o :: S => by
    simp only [List.map_cons, usOf, usOf_map f mr S]
theorem usOf_take {α : Type} : ∀ (mr : List Bool) (S : List (Option α)) (n : Nat), mr.length ≤ n → usOf mr (S.take n) = usOf mr S
  | [], _, _, _ => rfl
  | true :: mr, [], n, _ => by simp
  | false :: mr, [], n, _ => by simp
  | true :: mr, none :: S, n + 1, h => by simp [usOf]
  | true :: mr, some d :: S, n + 1, h => by
    simp only [List.take_succ_cons, usOf]
    rw [usOf_take mr S n (by simpa using h)]
  | false :: mr, o :: S, n + 1, h => by
    simp only [List.take_succ_cons, usOf]
    rw [usOf_take mr S n (by simpa using h)]
section
variable {g : Gc} {Γ : Gh} {n : Nat} {A : List (Option T)} {σ : L2.St} {H : Hp} {t : T}
/-- the trees by reference: where they stand, and apart -/
theorem us_facts (Rr : Rel g Γ n A σ H) : ∀ (mr : List Bool) (B : List (Option T)) (k : Nat) (us : List T), (∀ i : Nat, B[i]? = A[k + i]?) → usOf mr B = some us →
    (us.flatMap fun u => ownsC (u.cells g)).Nodup ∧ ∀ u ∈ us, ∃ i, mr[i]? = some true ∧ A[k + i]? = some (some u)
  | [], B, k, us, _, h => by
    have : us = [] := by simpa [usOf] using h.symm
    subst this
    exact ⟨by simp, fun u hu => nomatch hu⟩
  | true :: mr, [], k, us, _, h => by simp [usOf] at h
  | false :: mr, [], k, us, _, h => by simp [usOf] at h
  | true :: mr, none :: B, k, us, _, h => by simp [usOf] at h
  | true :: mr, some d :: B, k, us, hB, h => by
    simp only [usOf] at h
    cases e : usOf mr B with
    | none => rw [e] at h; cases h
    | some vs =>
      rw [e] at h
      have h : d :: vs = us := by simpa using h
      subst h
      obtain ⟨n1, n2⟩ := us_facts Rr mr B (k + 1) vs (fun i => by have := hB (i + 1); rw [List.getElem?_cons_succ] at this; rw [this]; congr 1; omega) e
      have hd : A[k]? = some (some d) := by have := hB 0; simpa using this.symm
      refine ⟨?_, fun u hu => ?_⟩
      · rw [List.flatMap_cons, List.nodup_append]
        refine ⟨Rr.nd k d hd, n1, fun a ha b hb q => ?_⟩
        subst q
        obtain ⟨c, hc, k1, k2⟩ := mem_ownsC.mp ha
        obtain ⟨v, hv, hb⟩ := List.mem_flatMap.mp hb
        obtain ⟨i, _, hi⟩ := n2 v hv
        obtain ⟨c', hc', k3, k4⟩ := mem_ownsC.mp hb
        rcases Rr.sep k (k + 1 + i) c c' ⟨d, hd, hc⟩ ⟨v, hi, hc'⟩ k1 (by rw [k4, k2]) with ⟨z, _⟩ | ⟨_, z⟩
        · omega
        · rw [k3] at z; cases z
      · rcases List.mem_cons.mp hu with rfl | hu
        · exact ⟨0, rfl, hd⟩
        · obtain ⟨i, h1, h2⟩ := n2 u hu
          exact ⟨i + 1, by simpa using h1, by rw [show k + (i + 1) = k + 1 + i by omega]; exact h2⟩
  | false :: mr, o :: B, k, us, hB, h => by
    simp only [usOf] at h
    obtain ⟨n1, n2⟩ := us_facts Rr mr B (k + 1) us (fun i => by have := hB (i + 1); rw [List.getElem?_cons_succ] at this; rw [this]; congr 1; omega) h
    refine ⟨n1, fun u hu => ?_⟩
    obtain ⟨i, h1, h2⟩ := n2 u hu
    exact ⟨i + 1, by simpa using h1, by rw [show k + (i + 1) = k + 1 + i by omega]; exact h2⟩
theorem us_roots (P : Nat → T → T → Prop) : ∀ (mr : List Bool) (B : List (Option T)) (ts : List T) (k : Nat) (us : List T), usOf mr B = some us → ts.length = mr.length →
    (∀ (i : Nat) u t, mr[i]? = some true → B[i]? = some (some u) → ts[i]? = some t → u.root = t.root) → us.map T.root = (refs mr ts).map T.root
  | [], B, ts, k, us, h, _, _ => by
    have : us = [] := by simpa [usOf] using h.symm
    subst this
    cases ts <;> rfl
  | true :: mr, [], ts, k, us, h, _, _ => by simp [usOf] at h
  | false :: mr, [], ts, k, us, h, _, _ => by simp [usOf] at h
  | true :: mr, none :: B, ts, k, us, h, _, _ => by simp [usOf] at h
  | b :: mr, o :: B, [], k, us, h, hl, _ => by simp at hl
  | true :: mr, some d :: B, x :: ts, k, us, h, hl, hr => by
    simp only [usOf] at h
    cases e : usOf mr B with
    | none => rw [e] at h; cases h
    | some vs =>
      rw [e] at h
      have h : d :: vs = us := by simpa using h
      subst h
      simp only [refs, List.map_cons]
      rw [hr 0 d x rfl rfl rfl, us_roots P mr B ts (k + 1) vs e (by simpa using hl) fun i u t h1 h2 h3 => hr (i + 1) u t (by simpa using h1) (by simpa using h2) (by simpa using h3)]
  | false :: mr, o :: B, x :: ts, k, us, h, hl, hr => by
    simp only [usOf] at h
    simp only [refs]
    exact us_roots P mr B ts (k + 1) us h (by simpa using hl) fun i u t h1 h2 h3 => hr (i + 1) u t (by simpa using h1) (by simpa using h2) (by simpa using h3)
theorem dictOf_mk (f : Kd → Kd) (t : T) : dictOf (t.mk f) = dictOf t := by cases t <;> rfl
end
def ghost (g : Gc) (H : Hp) (ts : List T) : Gh := ⟨H, fun a => a ∈ ownsC (cellsL g ts), fun a => ∃ d ∈ cellsL g ts, d.1 = .frz ∧ d.2.1 = a ∧ ¬ HTup d.2.2, fun _ => none⟩
section
variable {g : Gc} {H H' : Hp} {mr : List Bool} {ts : List T}
theorem CallOk.rel {N : List Str} (hph : g.ph (ghost g H ts)) (c : CallOk g H mr ts) (hN : ts.length ≤ N.length) : Rel g (ghost g H ts) N.length (ts.map some ++ List.replicate (N.length - ts.length) none) (L2.start N (ts.map T.root)) H := by
  have get : ∀ {i : Nat} {t : T}, (ts.map some ++ List.replicate (N.length - ts.length) none)[i]? = some (some t) → ts[i]? = some t := fun {i t} h => by
    by_cases hi : i < ts.length
    · rw [List.getElem?_append_left (by simpa using hi), List.getElem?_map] at h
      cases e : ts[i]? with
      | none => rw [e] at h; cases h
      | some u => rw [e] at h; simpa using h
    · rw [List.getElem?_append_right (by simpa using hi), List.getElem?_replicate] at h
      split at h <;> cases h
  have cell : ∀ {i : Nat} {c : Cell}, CellAt g (ts.map some ++ List.replicate (N.length - ts.length) none) i c → ∃ t, ts[i]? = some t ∧ c ∈ t.cells g := fun ⟨t, e, h⟩ => ⟨t, get e, h⟩
  have flat : (ts.flatMap fun u => ownsC (u.cells g)).Nodup := by
    have : ∀ l : List T, (l.flatMap fun u => ownsC (u.cells g)) = ownsC (cellsL g l) := fun l => by
      induction l with
      | nil => rfl
      | cons x r ih => rw [List.flatMap_cons, cellsL, ownsC_append, ih]
    rw [this]; exact c.nd
  refine ⟨by simp; omega, by simp [L2.start]; omega, ?_, ?_, ?_, ?_, ?_, fun a o h _ _ => h, ?_, ?_, hph, c.tab, fun a p z => nomatch z⟩
  · intro i t hi e
    have ht := get e
    have hi2 : i < ts.length := (List.getElem?_eq_some_iff.mp ht).1
    unfold L2.start
    rw [List.getElem?_append_left (by simpa using hi2), List.getElem?_map, List.getElem?_map, ht]
    rfl
  · intro i cl x
    obtain ⟨t, ht, hc⟩ := cell x
    exact c.hold cl (cellsL_mem ht hc)
  · intro i cl r x q
    obtain ⟨t, ht, hc⟩ := cell x
    rcases c.kind i t ht cl hc with z | ⟨_, z⟩ | ⟨_, z⟩ <;> (rw [z] at q; cases q)
  · intro i t e
    exact (owns_sublist (at_sub (get e))).nodup c.nd
  · intro i j cl d x y hown hadr
    obtain ⟨t, ht, hc⟩ := cell x
    obtain ⟨u, hu, hd⟩ := cell y
    have od := c.sep cl (cellsL_mem ht hc) d (cellsL_mem hu hd) hown hadr
    exact .inl ⟨nodup_flat flat ht hu (mem_ownsC.mpr ⟨cl, hc, hown, rfl⟩) (mem_ownsC.mpr ⟨d, hd, od, hadr⟩), od⟩
  · intro i cl x
    obtain ⟨t, ht, hc⟩ := cell x
    rcases c.kind i t ht cl hc with z | ⟨_, z⟩ | ⟨_, z⟩
    · exact .inl z
    · exact .inr (.inr (.inl (mem_ownsC.mpr ⟨cl, cellsL_mem ht hc, z, rfl⟩)))
    · exact .inr (.inl z)
  · intro i cl x q nt
    obtain ⟨t, ht, hc⟩ := cell x
    exact .inr (.inr ⟨cl, cellsL_mem ht hc, q, rfl, nt⟩)
theorem back_of {n : Nat} {A A' : List (Option T)} {σ σ' : L2.St} {M : List Nat} {t : T} {us : List T} (c : CallOk g H mr ts) (hn : mr.length ≤ n) (Rr : Rel g (ghost g H ts) n (A' ++ [some t]) σ' H') (hA : n ≤ A'.length)
    (hσ : ∀ (i : Nat) u, ts[i]? = some u → mr[i]? = some true → σ'[i]? = some (some u.root)) (hu : usOf mr (A'.take n) = some us) (hof : ofD (t.mk (kRet mr)).er = true) (hofs : ∀ u ∈ us, ofD u.er = true) :
    BackOk g H H' mr ts (t.mk (kRet mr)) us := by
  have RA := Rr.drop hA
  have hu2 : usOf mr A' = some us := by rw [← usOf_take mr A' n hn]; exact hu
  obtain ⟨n1, n2⟩ := us_facts RA mr A' 0 us (fun i => by rw [Nat.zero_add]) hu2
  have slot : ∀ {i : Nat}, mr[i]? = some true → i < n := fun {i} h => Nat.lt_of_lt_of_le (List.getElem?_eq_some_iff.mp h).1 hn
  have atA : ∀ {i c}, CellAt g A' i c → CellAt g (A' ++ [some t]) i c := fun h => cellAt_left h
  have atT : ∀ {c}, c ∈ t.cells g → CellAt g (A' ++ [some t]) A'.length c := fun h => cellAt_snoc.mpr (.inr ⟨rfl, h⟩)
  -- where the cells of the result come from
  have src : ∀ c ∈ (t.mk (kRet mr)).cells g ++ cellsL g us, ∃ i d, CellAt g (A' ++ [some t]) i d ∧ d.2 = c.2 ∧ (c.1 = d.1 ∨ (c.1 = .frz ∧ ∃ r, d.1 = .bor r ∧ mr[r]? ≠ some true)) ∧ ((i = A'.length ∧ c ∈ (t.mk (kRet mr)).cells g) ∨ mr[i]? = some true) := fun c hc => by
    rcases List.mem_append.mp hc with hc | hc
    · have hc0 := hc
      rw [cells_mk g _ (by first | rfl | decide)] at hc
      obtain ⟨d, hd, rfl⟩ := List.mem_map.mp hc
      refine ⟨A'.length, d, atT hd, rfl, ?_, .inl ⟨rfl, hc0⟩⟩
      have of := (ofD_iff (g := g)).mp hof _ hc0
      dsimp only at of ⊢
      cases q : d.1 with
      | bor r =>
        rw [q] at of
        dsimp only [kRet] at of ⊢
        by_cases hm : mr[r]? = some true
        · rw [if_pos hm] at of
          rcases of with z | z <;> cases z
        · rw [if_neg hm]
          exact .inr ⟨rfl, r, rfl, hm⟩
      | frz => exact .inl rfl
      | own => exact .inl rfl
      | par => exact .inl rfl
    · rw [cellsL_eq, List.mem_flatMap] at hc
      obtain ⟨u, hu3, hcu⟩ := hc
      obtain ⟨i, h1, h2⟩ := n2 u hu3
      rw [Nat.zero_add] at h2
      exact ⟨i, c, atA ⟨u, h2, hcu⟩, rfl, .inl rfl, .inr h1⟩
  have kinds : ∀ c ∈ (t.mk (kRet mr)).cells g ++ cellsL g us, c.1 = .own ∨ c.1 = .frz := fun c hc => by
    rcases List.mem_append.mp hc with hc | hc
    · exact (ofD_iff (g := g)).mp hof c hc
    · rw [cellsL_eq, List.mem_flatMap] at hc
      obtain ⟨u, hu3, hcu⟩ := hc
      exact (ofD_iff (g := g)).mp (hofs u hu3) c hcu
  have own_of : ∀ {c d : Cell}, (c.1 = d.1 ∨ (c.1 = .frz ∧ ∃ r, d.1 = .bor r ∧ mr[r]? ≠ some true)) → c.1 = .own → d.1 = .own := fun {c d} h k => by
    rcases h with h | ⟨h, _⟩
    · rw [← h]; exact k
    · rw [k] at h; cases h
  have sepx : ∀ c ∈ (t.mk (kRet mr)).cells g ++ cellsL g us, ∀ d ∈ (t.mk (kRet mr)).cells g ++ cellsL g us, c.1 = .own → d.2.1 = c.2.1 → d.1 = .own := fun c hc d hd hown hadr => by
    obtain ⟨i, c', x, ex, kx, px⟩ := src c hc
    obtain ⟨j, d', y, ey, ky, py⟩ := src d hd
    rcases Rr.sep i j c' d' x y (own_of kx hown) (by rw [ex, ey]; exact hadr) with ⟨_, z⟩ | ⟨_, z⟩
    · rcases ky with ky | ⟨_, r, ky, _⟩
      · rw [ky]; exact z
      · rw [z] at ky; cases ky
    · exfalso
      rcases px with ⟨px, _⟩ | px
      · have := Rr.lab _ _ _ y z
        omega
      · rcases ky with ky | ⟨_, r, ky, hr⟩
        · rcases kinds d hd with q | q <;> (rw [ky, z] at q; cases q)
        · rw [z] at ky
          cases ky
          exact hr px
  refine ⟨fun a o h hs hm => Rr.frame a o h hs hm, fun c hc => ?_, kinds, ?_, sepx, fun c hc nt => ?_, ?_, Rr.tab⟩
  · obtain ⟨i, d, x, e, q, _⟩ := src c hc
    exact (Rr.hold i d x).to e (own_of q)
  · rw [ownsC_append, List.nodup_append]
    refine ⟨?_, ?_, fun a ha b hb q => ?_⟩
    · have e : ownsC ((t.mk (kRet mr)).cells g) = ownsC (t.cells g) := by
        rw [cells_mk g _ (by first | rfl | decide)]
        unfold ownsC
        rw [List.filterMap_map]
        congr 1
        funext c
        have : ∀ k, (kRet mr k = .own) ↔ k = .own := fun k => by
          cases k with
          | bor r =>
            dsimp only [kRet]
            split
            · exact ⟨(fun z => nomatch z), (fun z => nomatch z)⟩
            · exact ⟨(fun z => nomatch z), (fun z => nomatch z)⟩
          | _ => exact Iff.rfl
        by_cases z : c.1 = .own
        · simp [this, z]
        · simp [this, z]
      rw [e]
      exact Rr.nd A'.length t (by simp)
    · have : ∀ l : List T, (l.flatMap fun u => ownsC (u.cells g)) = ownsC (cellsL g l) := fun l => by
        induction l with
        | nil => rfl
        | cons x r ih => rw [List.flatMap_cons, cellsL, ownsC_append, ih]
      rw [← this]; exact n1
    · subst q
      obtain ⟨c, hc, k1, k2⟩ := mem_ownsC.mp ha
      obtain ⟨d, hd, k3, k4⟩ := mem_ownsC.mp hb
      rw [cells_mk g _ (by first | rfl | decide)] at hc
      obtain ⟨c', hc', rfl⟩ := List.mem_map.mp hc
      rw [cellsL_eq, List.mem_flatMap] at hd
      obtain ⟨u, hu3, hdu⟩ := hd
      obtain ⟨i, h1, h2⟩ := n2 u hu3
      rw [Nat.zero_add] at h2
      have hlt : i < A'.length := (List.getElem?_eq_some_iff.mp h2).1
      rcases Rr.sep i A'.length d c' (atA ⟨u, h2, hdu⟩) (atT hc') k3 (by rw [k4]; exact k2) with ⟨z, _⟩ | ⟨_, z⟩
      · omega
      · have k1 : kRet mr c'.1 = .own := k1
        rw [z] at k1
        dsimp only [kRet] at k1
        split at k1 <;> cases k1
  · obtain ⟨i, d, x, e, k, _⟩ := src c hc
    rcases kinds c hc with q | q
    · have od := own_of k q
      rcases Rr.gown i d x with z | z | z | z
      · rw [od] at z; cases z
      · rw [od] at z; cases z
      · rw [e] at z; exact .inl z
      · rw [e] at z; exact .inr (.inl z)
    · rcases k with k | ⟨_, r, k, _⟩
      · rcases Rr.gfrz i d x (by rw [← k]; exact q) (by rw [e]; exact nt) with z | z | z
        · rw [e] at z; exact .inl z
        · rw [e] at z; exact .inr (.inl z)
        · rw [e] at z; exact .inr (.inr ⟨q, z⟩)
      · rcases Rr.gown i d x with z | z | z | z
        · rw [k] at z; cases z
        · rw [k] at z; cases z
        · rw [e] at z; exact .inl z
        · rw [e] at z; exact .inr (.inl z)
  · refine us_roots (fun _ _ _ => True) mr A' ts 0 us hu2 c.len fun i u v h1 h2 h3 => ?_
    have q1 := RA.val i u (slot h1) h2
    rw [hσ i v h3 h1] at q1
    have : v.root = u.root := by simpa using q1
    exact this.symm
end
section
variable {P : Program} {w : World} {K : PySem.W.Frag} {mg : Str → Option Value} {base : Heap} {g : Gc}
/-- a body that starts with these arguments -/
theorem body_run {N : List Str} {mr : List Bool} {ts : List T} {H : Hp} {M : List Nat} {fb : Sg → R Fl} {t : TS} {E : XK} {Q : VK} (mn : MeanS g N.length (fun cls d _ H => E cls d H) M t fb) (hph : g.ph (ghost g H ts)) (c : CallOk g H mr ts) (hl : ts.length ≤ N.length) (hmn : mr.length ≤ N.length)
    (hM : ∀ i : Nat, mr[i]? = some true → N.length + i ∉ M)
    (h : match semOf N.length mr fb (ts.map T.er) with
      | .bad => False
      | .ok d ms => ∀ H' (t : T) (us : List T), BackOk g H H' mr ts t us → t.er = d → us.map T.er = ms → Q t.root H'
      | .exc cc d ms => ∀ H' (t : T) (us : List T), BackOk g H H' mr ts t us → t.er = d → us.map T.er = ms → E (.ref (g.cl cc)) (dictOf t) H') :
    t { nx := fun _ H' => Q .non H', rt := Q } (L2.start N (ts.map T.root)) H := by
  have R0 := CallOk.rel (N := N) hph c hl
  refine mn (ghost g H ts) _ _ H _ R0 (fun r _ i cl hi ⟨u, e, hc⟩ => ?_) ?_
  · rw [List.getElem?_eq_none (by show _ ≤ i; have hi : N.length ≤ i := hi; simp; omega)] at e
    cases e
  · have e0 : ers N.length (ts.map some ++ List.replicate (N.length - ts.length) none) = (ts.map T.er).map some ++ List.replicate (N.length - (ts.map T.er).length) none := by
      unfold ers
      rw [List.take_of_length_le (by simp; omega), List.map_append, List.map_map, List.map_replicate, List.length_map, List.map_map]
      rfl
    show PostS g N.length _ M _ _ _ _ (fb (ers N.length _))
    rw [e0]
    unfold semOf at h
    have hσ : ∀ {σ' : L2.St} {A' : List (Option T)}, NextS N.length M (ts.map some ++ List.replicate (N.length - ts.length) none) A' (L2.start N (ts.map T.root)) σ' → ∀ (i : Nat) u, ts[i]? = some u → mr[i]? = some true → σ'[i]? = some (some u.root) := fun {σ' A'} x i u hu hm => by
      rw [x.keep i (hM i hm)]
      have hi2 : i < ts.length := (List.getElem?_eq_some_iff.mp hu).1
      unfold L2.start
      rw [List.getElem?_append_left (by simpa using hi2), List.getElem?_map, List.getElem?_map, hu]
      rfl
    have done : ∀ {A' : List (Option T)} {t : T} {σ' : L2.St} {H' : Hp} {d : D} {S : Sg} {kk : D → List D → Rc}, Rel g (ghost g H ts) N.length (A' ++ [some t]) σ' H' → NextS N.length M (ts.map some ++ List.replicate (N.length - ts.length) none) A' (L2.start N (ts.map T.root)) σ' →
        ers N.length A' = S → t.er = d → fin mr d S kk ≠ .bad → ∃ us, BackOk g H H' mr ts (t.mk (kRet mr)) us ∧ fin mr d S kk = kk (t.mk (kRet mr)).er (us.map T.er) := fun {A' t σ' H' d S kk} R x e et hne => by
      have hA : N.length ≤ A'.length := by have := x.len; rw [this]; simp; omega
      unfold fin at hne ⊢
      rw [← e] at hne ⊢
      unfold ers at hne ⊢
      rw [usOf_map] at hne ⊢
      cases q : usOf mr (A'.take N.length) with
      | none => rw [q] at hne; exact absurd rfl hne
      | some us =>
        rw [q] at hne
        dsimp only [Option.map_some] at hne ⊢
        by_cases hof : (ofD (d.mk (kRet mr)) && (us.map T.er).all ofD) = true
        · rw [if_pos hof]
          rw [Bool.and_eq_true] at hof
          have h1 : ofD (t.mk (kRet mr)).er = true := by rw [er_mk, et]; exact hof.1
          have h2 : ∀ u ∈ us, ofD u.er = true := fun u hu => List.all_eq_true.mp hof.2 _ (List.mem_map_of_mem hu)
          exact ⟨us, back_of (A := []) (σ := []) (M := M) c hmn R hA (hσ x) q h1 h2, by rw [er_mk, et]⟩
        · rw [if_neg hof] at hne; exact absurd rfl hne
    cases q : fb ((ts.map T.er).map some ++ List.replicate (N.length - (ts.map T.er).length) none) with
    | bad => rw [q] at h; exact h.elim
    | exc cc d S =>
      rw [q] at h
      dsimp only at h
      intro A' t σ' H' R x e et
      have hne : fin mr d S (.exc cc) ≠ .bad := fun z => by rw [z] at h; exact h
      obtain ⟨us, b, e2⟩ := done R x e et hne
      rw [e2] at h
      have := h H' _ us b rfl rfl
      rw [dictOf_mk] at this
      exact this
    | ok fl S =>
      rw [q] at h
      cases fl with
      | nx =>
        dsimp only at h
        intro A' σ' H' R x e
        have hne : fin mr (.im .non) S .ok ≠ .bad := fun z => by rw [z] at h; exact h
        have hA : N.length ≤ A'.length := by have := x.len; rw [this]; simp; omega
        obtain ⟨us, b, e2⟩ := done (t := .im .non) (d := .im .non) ((show Rel g _ N.length (A' ++ []) σ' H' by rw [List.append_nil]; exact R).imm hA _) x e rfl hne
        rw [e2] at h
        exact h H' _ us b rfl rfl
      | brk => exact h.elim
      | cnt => exact h.elim
      | ret d =>
        dsimp only at h
        intro A' t σ' H' R x e et
        have hne : fin mr d S .ok ≠ .bad := fun z => by rw [z] at h; exact h
        obtain ⟨us, b, e2⟩ := done R x e et hne
        rw [e2] at h
        have := h H' _ us b rfl rfl
        rw [root_mk] at this
        exact this
/-- THE RULE for a def: its body's meaning is the def's -/
theorem fn_ok {x qual : Str} {st : Stmt} {f : Addr} {fd : FuncData} {N ps : List Str} {k : Nat} {M : List Nat} {fb : Sg → R Fl} (hph : ∀ Γ, g.ph Γ) (F : Fun K x qual st f fd) (S : FnScope N ps (defScope st)) (mr : List Bool) (hmr : mr.length = ps.length) (hM : ∀ i : Nat, mr[i]? = some true → N.length + i ∉ M)
    (hb : ∀ (cdv : Value) (A : Around) (outer : List Env) (s : Shared) (H : Hp) (E : XK), Room k (A.deeper (PyProof.Rows.envOfC qual (defScope st) s.heap.objs.size f cdv)) →
      ∃ t, SdSs (cxOf (L2.CX P w) P w K mg base N qual (defScope st) f cdv A outer s H E) g (fun cls d _ H => E cls d H) M (defBody st) t fb) :
    FnOk P w K mg base (L2.CX P w) (k + 1) f fd ps (spOf g mr (semOf N.length mr fb)) := by
  have hpl : ps.length ≤ N.length := by have := congrArg List.length S.pre; rw [List.length_take] at this; omega
  refine F.okX S (fun vs H Q E h => ?_) fun cdv A outer s H vs Q E hr h => ?_
  · obtain ⟨ts, rfl, c, _⟩ := h
    rw [List.length_map, c.len, hmr]
  · obtain ⟨ts, rfl, c, h⟩ := h
    obtain ⟨t, sd⟩ := hb cdv A outer s H E hr
    have hl : ts.length ≤ N.length := by rw [c.len, hmr]; exact hpl
    refine ⟨t, sd.ps, ?_⟩
    exact body_run sd.mn (hph _) c hl (by rw [hmr]; exact hpl) hM h
end
end Lin
end
section
namespace Lin
open PySem L2
/-! ### list comprehensions -/
def wipeS {α : Type} (xs : List Nat) (S : List (Option α)) : List (Option α) := xs.foldr (fun x s => s.set x none) S
theorem wipeS_length {α : Type} : ∀ (xs : List Nat) (S : List (Option α)), (wipeS xs S).length = S.length
  | [], S => rfl
  | x :: xs, S => by
    show ((wipeS xs S).set x none).length = _
    rw [List.length_set, wipeS_length]
theorem wipeS_some {α : Type} : ∀ (xs : List Nat) (S : List (Option α)) (i : Nat) (t : α), (wipeS xs S)[i]? = some (some t) → S[i]? = some (some t) ∧ i ∉ xs
  | [], S, i, t, h => ⟨h, by simp⟩
  | x :: xs, S, i, t, h => by
    have h : ((wipeS xs S).set x none)[i]? = some (some t) := h
    by_cases hi : i = x
    · subst hi
      by_cases hl : i < (wipeS xs S).length
      · rw [List.getElem?_set_self hl] at h; cases h
      · rw [List.getElem?_eq_none (by rw [List.length_set]; omega)] at h; cases h
    · rw [List.getElem?_set_ne (Ne.symm hi)] at h
      obtain ⟨h1, h2⟩ := wipeS_some xs S i t h
      exact ⟨h1, by simp [hi, h2]⟩
theorem wipeS_map {α β : Type} (f : α → β) : ∀ (xs : List Nat) (S : List (Option α)), (wipeS xs S).map (Option.map f) = wipeS xs (S.map (Option.map f))
  | [], S => rfl
  | x :: xs, S => by
    show ((wipeS xs S).set x none).map _ = (wipeS xs (S.map _)).set x none
    rw [List.map_set, wipeS_map f xs S]
    rfl
theorem wipeS_take {α : Type} {n : Nat} : ∀ (xs : List Nat) (S : List (Option α)), (wipeS xs S).take n = wipeS xs (S.take n)
  | [], S => rfl
  | x :: xs, S => by
    show ((wipeS xs S).set x none).take n = (wipeS xs (S.take n)).set x none
    rw [List.take_set, wipeS_take xs S]
theorem wipeS_drop {α : Type} {n : Nat} : ∀ (xs : List Nat) (S : List (Option α)), (∀ x ∈ xs, x < n) → (wipeS xs S).drop n = S.drop n
  | [], S, _ => rfl
  | x :: xs, S, h => by
    show ((wipeS xs S).set x none).drop n = _
    rw [List.drop_set_of_lt (h x List.mem_cons_self), wipeS_drop xs S fun y hy => h y (List.mem_cons_of_mem _ hy)]
theorem wipeS_append {α : Type} : ∀ (xs : List Nat) (S R : List (Option α)), (∀ x ∈ xs, x < S.length) → wipeS xs (S ++ R) = wipeS xs S ++ R
  | [], S, R, _ => rfl
  | x :: xs, S, R, h => by
    show (wipeS xs (S ++ R)).set x none = (wipeS xs S).set x none ++ R
    rw [wipeS_append xs S R fun y hy => h y (List.mem_cons_of_mem _ hy), List.set_append_left _ _ (by rw [wipeS_length]; exact h x List.mem_cons_self)]
theorem wipe_eq (σ : L2.St) : ∀ xs : List Nat, wipe σ xs = wipeS xs σ
  | [] => rfl
  | x :: xs => by
    show (wipe σ xs).set x none = (wipeS xs σ).set x none
    rw [wipe_eq σ xs]
theorem wipe_ext {σ σ' : L2.St} {xs : List Nat} (hl : σ'.length = σ.length) (h : ∀ j : Nat, j ∉ xs → σ'[j]? = σ[j]?) : wipe σ' xs = wipe σ xs := by
  rw [wipe_eq, wipe_eq]
  apply List.ext_getElem?
  intro j
  suffices hh : ∀ xs : List Nat, (∀ j : Nat, j ∉ xs → σ'[j]? = σ[j]?) → ∀ j : Nat, (wipeS xs σ')[j]? = (wipeS xs σ)[j]? ∨ True by
    have key : ∀ (ys : List Nat) (j : Nat), (j ∈ ys ∨ σ'[j]? = σ[j]?) → (wipeS ys σ')[j]? = (wipeS ys σ)[j]? := by
      intro ys
      induction ys with
      | nil => intro j hj; exact hj.elim (fun z => nomatch z) id
      | cons y ys ih =>
        intro j hj
        show ((wipeS ys σ').set y none)[j]? = ((wipeS ys σ).set y none)[j]?
        by_cases e : j = y
        · subst e
          by_cases hlt : j < σ.length
          · rw [List.getElem?_set_self (by rw [wipeS_length]; omega), List.getElem?_set_self (by rw [wipeS_length]; omega)]
          · rw [List.getElem?_eq_none (by rw [List.length_set, wipeS_length]; omega), List.getElem?_eq_none (by rw [List.length_set, wipeS_length]; omega)]
        · rw [List.getElem?_set_ne (Ne.symm e), List.getElem?_set_ne (Ne.symm e)]
          refine ih j (hj.elim (fun z => ?_) .inr)
          rcases List.mem_cons.mp z with z | z
          · exact absurd z e
          · exact .inl z
    by_cases hj : j ∈ xs
    · exact key xs j (.inl hj)
    · exact key xs j (.inr (h j hj))
  exact fun _ _ _ => .inr trivial
def lcL (xs : List Nat) (Me : List Nat) (tg : D → Sg → Option Sg) (ft : Sg → R Bool) (fe : Sg → R D) : List D → Sg → List D → R (List D)
  | [], S, acc => .ok acc S
  | d :: r, S, acc => match tg d S with
    | none => .bad
    | some S0 => match ft S0 with
      | .ok b S1 => if b = true then match fe S1 with
          | .ok y S2 => if acc.length < sizeLine ∧ cleanD Me y = true then lcL xs Me tg ft fe r (wipeS xs S2) (acc ++ [y]) else .bad
          | _ => .bad
        else lcL xs Me tg ft fe r (wipeS xs S1) acc
      | _ => .bad
def cLc (xs : List Nat) (Me : List Nat) (tg : D → Sg → Option Sg) (fi : Sg → R (D × List D)) (ft : Sg → R Bool) (fe : Sg → R D) : Sg → R D := fun S => (fi S).bind fun p S1 => if cleanD Me p.1 = true then
    match lcL xs Me tg ft fe p.2 (wipeS xs S1) [] with
    | .ok ds S2 => .ok (.nd .own .lst ds) S2
    | _ => .bad
  else .bad
section
variable {g : Gc} {n : Nat} {W : WX} {Γ : Gh} {A A' A'' B : List (Option T)} {σ : L2.St} {H H' : Hp} {t : T} {M M1 M2 M3 : List Nat}
theorem Rel.wipe {xs : List Nat} (Rr : Rel g Γ n A σ H) {σ' : L2.St} (hl : σ'.length = σ.length) (h : ∀ j : Nat, j ∉ xs → σ'[j]? = σ[j]?) : Rel g Γ n (wipeS xs A) σ' H :=
  (Rr.less (by rw [wipeS_length]; exact Rr.len) fun i t e => (wipeS_some xs A i t e).1).reslot hl fun i t e _ => h i (wipeS_some xs A i t e).2
theorem wipe_get {σ : L2.St} {xs : List Nat} {j : Nat} (h : j ∉ xs) : (L2.wipe σ xs)[j]? = σ[j]? := by
  induction xs with
  | nil => rfl
  | cons x xs ih =>
    rw [List.mem_cons, not_or] at h
    show ((L2.wipe σ xs).set x none)[j]? = _
    rw [List.getElem?_set_ne (Ne.symm h.1)]
    exact ih h.2
/-- a temp list takes one more item -/
theorem Rel.push {a dx : Addr} {ts : List T} {u : T} (Rr : Rel g Γ n (A ++ [some (.nd a .own .lst dx ts)] ++ [some u]) σ H) (hn : n ≤ A.length) : Rel g Γ n (A ++ [some (.nd a .own .lst dx (ts ++ [u]))]) σ (upd H a (.lst (ts.map T.root ++ [u.root]))) := by
  have hb : ∀ i c, CellAt g (A ++ [some (T.nd a .own .lst dx ts)] ++ [u].map some) i c → c.1 ≠ .bor A.length := fun i c x q => by have := Rr.lab i c _ x q; omega
  have e : (A ++ [some (T.nd a .own .lst dx ts)])[A.length]? = some (some (.nd a .own .lst dx ts)) := by simp
  have := (show Rel g Γ n (A ++ [some (T.nd a .own .lst dx ts)] ++ [u].map some) σ H from Rr).mutAt (r := A.length) (p := []) (s' := .lst) (ts' := ts ++ [u]) (res := .im .non) (dropped := []) (by simp; omega) e hb rfl rfl rfl (by
    simp [cellsL_append, cellsL, T.cells])
  have R2 := this.drop (A := (A ++ [some (T.nd a .own .lst dx ts)]).set A.length (some ((T.nd a .own .lst dx ts).put [] (.nd a .own .lst dx (ts ++ [u]))))) (by simp; omega)
  simp only [T.put, List.map_append, List.map_cons, List.map_nil, ho] at R2
  rw [List.set_append_right _ _ (Nat.le_refl _)] at R2
  simpa using R2
theorem nextM_wipe {xs : List Nat} (hx : ∀ x ∈ xs, x < n) (x : NextM n M A A') : NextM n (M ++ xs) A (wipeS xs A') := by
  refine ⟨⟨by rw [wipeS_length]; exact x.len, by rw [wipeS_drop xs A' hx]; exact x.tmp⟩, fun i hi hm => ?_⟩
  rw [List.mem_append, not_or] at hm
  have : (wipeS xs A')[i]? = A'[i]? := by
    clear x hx
    induction xs with
    | nil => rfl
    | cons y ys ih =>
      show ((wipeS ys A').set y none)[i]? = _
      have h2 := hm.2
      rw [List.mem_cons, not_or] at h2
      rw [List.getElem?_set_ne (Ne.symm h2.1)]
      exact ih ⟨hm.1, h2.2⟩
  rw [this]
  exact x.slot i hi hm.1
theorem mean_lc {xs : List Nat} {wi : TI} {g1 : TG} {tt : TT} {te : TE} {fi : Sg → R (D × List D)} {tg : D → Sg → Option Sg} {ft : Sg → R Bool} {fe : Sg → R D} (hx : ∀ x ∈ xs, x < n) (hi : MeanI g n W M1 wi fi) (hg : MeanG g n xs g1 tg)
    (ht : MeanT g n (fun _ _ _ _ => False) M2 tt ft) (he : MeanE g n (fun _ _ _ _ => False) M3 te fe) : MeanE g n W (M1 ++ (M2 ++ M3) ++ xs) (tLc wi g1 tt te xs) (cLc xs (M2 ++ M3) tg fi ft fe) := by
  intro Γ A σ H Q Rr cl h
  refine hi Γ A σ H _ Rr cl.left.left ?_
  unfold cLc at h
  cases ei : fi (ers n A) with
  | bad => rw [ei] at h; exact h.elim
  | exc c d S => rw [ei] at h; exact h
  | ok p S0 =>
    rw [ei] at h
    dsimp only [Lin.R.bind] at h
    by_cases hc : cleanD (M2 ++ M3) p.1 = true
    · rw [if_pos hc] at h
      intro A0 t us J H0 R0 x0 e0 d0 du hus hJ Dd hD
      have n0 : n ≤ A0.length := by rw [x0.len]; exact Rr.len
      have hx0 : ∀ x ∈ xs, x < A0.length := fun x hxx => Nat.lt_of_lt_of_le (hx x hxx) n0
      have sl := Rr.slen
      cases eL : lcL xs (M2 ++ M3) tg ft fe p.2 (wipeS xs S0) [] with
      | bad => rw [eL] at h; exact h.elim
      | exc c d S => rw [eL] at h; exact h.elim
      | ok ds S9 =>
        rw [eL] at h
        dsimp only at h
        have wl : (L2.wipe σ xs).length = σ.length := wipe_length σ xs
        -- the start
        have Rw : Rel g Γ n (wipeS xs A0 ++ [some t]) (L2.wipe σ xs) H0 := by
          have := R0.wipe (xs := xs) (σ' := L2.wipe σ xs) wl fun j hj => wipe_get hj
          rw [wipeS_append xs A0 _ hx0] at this
          exact this
        have nw : n ≤ (wipeS xs A0 ++ [some t]).length := by rw [List.length_append, wipeS_length]; omega
        have RD := (show Rel g Γ n (wipeS xs A0 ++ [some t] ++ []) (L2.wipe σ xs) H0 by rw [List.append_nil]; exact Rw).node (p := Dd) (ts := []) nw hD .lst 0 (fun c hc => by simp [cellsL] at hc) (by simp [cellsL, ownsC])
        refine ⟨fun i m H' => m = us.length - i ∧ i ≤ us.length ∧ ∃ A' ts, Rel g Γ n (A' ++ [some t] ++ [some (.nd Dd .own .lst 0 ts)]) (L2.wipe σ xs) H' ∧ NextM n (M1 ++ (M2 ++ M3) ++ xs) A A' ∧ (∀ u ∈ ts, cleanD (M2 ++ M3) u.er = true) ∧
            lcL xs (M2 ++ M3) tg ft fe (p.2.drop i) (ers n A') (ts.map T.er) = .ok ds S9,
          ⟨us.length, by simp, Nat.zero_le _, wipeS xs A0, [], RD, (nextM_wipe hx x0).mono fun r hr => by
            rcases List.mem_append.mp hr with z | z
            · exact List.mem_append_left _ (List.mem_append_left _ z)
            · exact List.mem_append_right _ z, fun u hu => (nomatch hu), by
            unfold ers
            rw [wipeS_take, wipeS_map]
            have : (List.take n A0).map (Option.map T.er) = S0 := e0
            rw [this, List.drop_zero]
            exact eL⟩, ?_⟩
        rintro i m H1 ⟨rfl, hi, A1, ts, R1, x1, cts, e1⟩
        have n1 : n ≤ A1.length := by rw [x1.len]; exact Rr.len
        have hx1 : ∀ x ∈ xs, x < A1.length := fun x hxx => Nat.lt_of_lt_of_le (hx x hxx) n1
        have hold : ∀ c ∈ t.cells g, Hd H1 c := fun c hc => R1.hold A1.length c (cellAt_left (cellAt_snoc.mpr (.inr ⟨rfl, hc⟩)))
        have fol := hJ H1 hold
        by_cases hlt : i < us.length
        · obtain ⟨go, yl⟩ := fol.go i us[i] (by simp [hlt])
          refine .inr ⟨go, fun H' => ∃ A' ts, Rel g Γ n (A' ++ [some t] ++ [some (.nd Dd .own .lst 0 ts)]) (L2.wipe σ xs) H' ∧ NextM n (M1 ++ (M2 ++ M3) ++ xs) A A' ∧ (∀ u ∈ ts, cleanD (M2 ++ M3) u.er = true) ∧
              lcL xs (M2 ++ M3) tg ft fe (p.2.drop (i + 1)) (ers n A') (ts.map T.er) = .ok ds S9, fun H' ⟨A', ts, r1, r2, r3, r4⟩ => ⟨us.length - (i + 1), by omega, rfl, hlt, A', ts, r1, r2, r3, r4⟩, fun x H' y => ?_⟩
          obtain ⟨rfl, rfl⟩ := yl x H' y
          have hp : p.2.drop i = us[i].er :: p.2.drop (i + 1) := by
            have hl : i < p.2.length := by rw [← du, List.length_map]; exact hlt
            have : us[i].er = p.2[i] := by simp [← du]
            rw [this, List.getElem_cons_drop]
          rw [hp, lcL] at e1
          -- the pending temps
          have nP : n ≤ (A1 ++ [some t] ++ [some (T.nd Dd .own .lst 0 ts)]).length := by simp; omega
          have Rd : Rel g Γ n (A1 ++ [some t] ++ [some (T.nd Dd .own .lst 0 ts)] ++ [some us[i]]) (L2.wipe σ xs) H' := R1.dup fun c hc => by
            obtain ⟨q1, q2⟩ := hus us[i] (List.getElem_mem hlt) c hc
            exact ⟨q1, A1.length, cellAt_left (cellAt_snoc.mpr (.inr ⟨rfl, q2⟩))⟩
          have ersP : ∀ {B : List (Option T)}, n ≤ B.length → ∀ o : Option T, ers n (B ++ [some t] ++ [o]) = ers n B := fun {B} hB o => by
            rw [ers_append (by simp; omega), ers_append hB]
          have clP : ∀ {B : List (Option T)}, NextM n (M1 ++ (M2 ++ M3) ++ xs) A B → Clean g n (M2 ++ M3) (B ++ [some t] ++ [some (T.nd Dd .own .lst 0 ts)]) := fun {B} xB => by
            refine ((cl.left.right.next xB.toNext Rr.len).snoc (by rw [d0]; exact hc)).snoc ?_
            refine (cleanD_iff (g := g)).mpr fun r hr c hcc => ?_
            rw [T.cells] at hcc
            rcases List.mem_cons.mp hcc with rfl | hcc
            · intro z; cases z
            · rw [cellsL_eq, List.mem_flatMap] at hcc
              obtain ⟨u, hu, hcu⟩ := hcc
              exact cleanD_iff.mp (cts u hu) r hr c hcu
          cases et : tg us[i].er (ers n A1) with
          | none => rw [et] at e1; cases e1
          | some S1 =>
            rw [et] at e1
            dsimp only at e1
            refine hg Γ _ us[i] _ H' _ S1 Rd nP (by rw [ersP n1]; exact et) fun A2 σ2 H2 R2 x2 e2 hk => ?_
            have l2 : σ2.length = σ.length := by rw [R2.slen, sl]
            have l2w : σ2.length = (L2.wipe σ xs).length := by rw [l2, wl]
            have wk : wipe σ2 xs = wipe σ xs := by
              refine wipe_ext l2 fun j hj => ?_
              rw [hk j hj, wipe_get hj]
            refine ⟨wk, ?_⟩
            -- split off the pending temps
            have out : ∀ {M5 : List Nat} {A3 B3 : List (Option T)}, n ≤ B3.length → NextM n M5 (B3 ++ [some t] ++ [some (T.nd Dd .own .lst 0 ts)]) A3 → NextM n M5 B3 (A3.take B3.length) ∧ A3 = A3.take B3.length ++ [some t] ++ [some (.nd Dd .own .lst 0 ts)] ∧ n ≤ (A3.take B3.length).length := fun {M5 A3 B3} hB x3 => by
              have x3' := x3
              rw [List.append_assoc] at x3'
              obtain ⟨y3, z3⟩ := x3'.left hB
              exact ⟨y3, by rw [List.append_assoc]; exact z3, by rw [y3.len]; exact hB⟩
            have inAll : ∀ {M5 : List Nat} {B3 B4 : List (Option T)}, NextM n (M1 ++ (M2 ++ M3) ++ xs) A B3 → NextM n M5 B3 B4 → (∀ r ∈ M5, r ∈ M1 ++ (M2 ++ M3) ++ xs) → NextM n (M1 ++ (M2 ++ M3) ++ xs) A B4 := fun a b hm => (a.trans b).mono fun r hr => (List.mem_append.mp hr).elim id (hm r)
            obtain ⟨y2, z2, n2⟩ := out n1 x2
            have x12 := inAll x1 y2 fun r hr => List.mem_append_right _ hr
            rw [z2] at R2 e2
            rw [ersP n2] at e2
            refine ht Γ _ σ2 H2 _ R2 ((clP x12).mono fun r hr => List.mem_append_left _ hr) ?_
            rw [ersP n2, e2]
            cases eft : ft S1 with
            | bad => rw [eft] at e1; cases e1
            | exc c d S => rw [eft] at e1; cases e1
            | ok b S2 =>
              rw [eft] at e1
              dsimp only at e1
              intro A3 H3 R3 x3 e3
              obtain ⟨y3, z3, n3⟩ := out n2 x3
              have x13 := inAll x12 y3 fun r hr => List.mem_append_left _ (List.mem_append_right _ (List.mem_append_left _ hr))
              rw [z3] at R3 e3
              rw [ersP n3] at e3
              have back : ∀ {B : List (Option T)} {us' : List T} {Hb : Hp}, n ≤ B.length → Rel g Γ n (B ++ [some t] ++ [some (T.nd Dd .own .lst 0 us')]) σ2 Hb → Rel g Γ n (wipeS xs B ++ [some t] ++ [some (T.nd Dd .own .lst 0 us')]) (L2.wipe σ xs) Hb := fun {B us' Hb} hB r => by
                have hxB : ∀ x ∈ xs, x < B.length := fun x hxx => Nat.lt_of_lt_of_le (hx x hxx) hB
                have := r.wipe (xs := xs) (σ' := L2.wipe σ xs) (by rw [wl, l2]) fun j hj => by rw [hk j hj]
                rw [List.append_assoc, wipeS_append xs B _ hxB, ← List.append_assoc] at this
                exact this
              have wnext : ∀ {B : List (Option T)}, NextM n (M1 ++ (M2 ++ M3) ++ xs) A B → NextM n (M1 ++ (M2 ++ M3) ++ xs) A (wipeS xs B) := fun {B} y => (nextM_wipe hx y).mono fun r hr => (List.mem_append.mp hr).elim id fun z => List.mem_append_right _ z
              have wers : ∀ {B : List (Option T)}, ers n (wipeS xs B) = wipeS xs (ers n B) := fun {B} => by
                unfold ers
                rw [wipeS_take, wipeS_map]
              cases b with
              | false =>
                rw [if_neg Bool.false_ne_true] at e1 ⊢
                exact ⟨_, ts, back n3 R3, wnext x13, cts, by rw [wers, e3]; exact e1⟩
              | true =>
                rw [if_pos rfl] at e1 ⊢
                refine he Γ _ σ2 H3 _ R3 ((clP x13).mono fun r hr => List.mem_append_right _ hr) ?_
                rw [ersP n3, e3]
                cases efe : fe S2 with
                | bad => rw [efe] at e1; cases e1
                | exc c d S => rw [efe] at e1; cases e1
                | ok yd S3 =>
                  rw [efe] at e1
                  dsimp only at e1
                  intro A4 ty H4 R4 x4 e4 d4
                  obtain ⟨y4, z4, n4⟩ := out n3 x4
                  have x14 := inAll x13 y4 fun r hr => List.mem_append_left _ (List.mem_append_right _ (List.mem_append_right _ hr))
                  rw [z4] at R4 e4
                  rw [ersP n4] at e4
                  by_cases hcond : (ts.map T.er).length < sizeLine ∧ cleanD (M2 ++ M3) yd = true
                  · rw [if_pos hcond] at e1
                    have hD4 : H4 Dd = some (.lst (ts.map T.root)) := (R4.top2.flat id)
                    refine ⟨_, hD4, by simpa using hcond.1, ?_⟩
                    have R5 := R4.push (by rw [List.length_append]; exact Nat.le_trans n4 (Nat.le_add_right _ _))
                    refine ⟨_, ts ++ [ty], back n4 R5, wnext x14, fun u hu => ?_, ?_⟩
                    · rcases List.mem_append.mp hu with z | z
                      · exact cts u z
                      · have : u = ty := by simpa using z
                        rw [this, d4]; exact hcond.2
                    · rw [wers, e4, List.map_append, List.map_cons, List.map_nil, d4]
                      exact e1
                  · rw [if_neg hcond] at e1; cases e1
        · have ei' : i = us.length := by omega
          subst ei'
          refine .inl ⟨fol.stop, ?_⟩
          rw [List.drop_of_length_le (by rw [← du, List.length_map]; exact Nat.le_refl _), lcL] at e1
          have e2 : ts.map T.er = ds ∧ ers n A1 = S9 := by
            cases e1
            exact ⟨rfl, rfl⟩
          have R2 : Rel g Γ n (A1 ++ [some (T.nd Dd .own .lst 0 ts)]) (L2.wipe σ xs) H1 := R1.mid n1
          have R3 : Rel g Γ n (A1 ++ [some (T.nd Dd .own .lst 0 ts)]) σ H1 := R2.reslot (by rw [wl]) fun i t e hi => by
            have := R2.val i t hi e
            rw [this]
            exact (wipe_some this).1
          exact h A1 (.nd Dd .own .lst 0 ts) H1 R3 x1 e2.2 (by simp [T.er, erL_eq, e2.1])
    · rw [if_neg hc] at h; exact h.elim
end
end Lin
end
section
namespace Lin
open PySem L2
/-! ### lists changed by their methods -/
def mAppend (s : Sh) (ds us : List D) : Option (Sh × List D × D) := match s, us with
  | .lst, [y] => if ds.length < sizeLine then some (.lst, ds ++ [y], .im .non) else none
  | _, _ => none
def mPopAt (s : Sh) (ds us : List D) : Option (Sh × List D × D) := match s, us with
  | .lst, [.im (.int i)] => if -(2 ^ 63) ≤ i ∧ i < 2 ^ 63 then match seqIndex? i ds.length with
      | some k => match ds[k]? with
        | some y => some (.lst, ds.eraseIdx k, y)
        | none => none
      | none => none
    else none
  | _, _ => none
section
variable {g : Gc}
theorem mum_append : MuM g rAppend mAppend := by
  intro H a dx s ts us s' ds' dres hH ho
  unfold mAppend at ho
  split at ho
  · rename_i y eu
    obtain ⟨u, rfl, hu⟩ := er_one eu
    split at ho
    · rename_i hz
      cases ho
      refine ⟨ts ++ [u], .im .non, [], ⟨rfl, rfl⟩, by simp [hu], rfl, by simp [cellsL_append, cellsL, T.cells], fun Q q => ?_⟩
      refine ⟨a, ts.map T.root, u.root, rfl, rfl, hH.flat id, by simpa using hz, ?_⟩
      have q' := q
      simp only [Lin.ho, List.map_append, List.map_cons, List.map_nil] at q'
      exact q'
    · cases ho
  · cases ho
theorem erase_perm {ts : List T} {k : Nat} {u : T} (h : ts[k]? = some u) : (cellsL g (ts.eraseIdx k) ++ u.cells g).Perm (cellsL g ts) := by
  obtain ⟨hk, e⟩ := List.getElem?_eq_some_iff.mp h
  have e1 : ts = ts.take k ++ u :: ts.drop (k + 1) := by rw [← e, List.getElem_cons_drop, List.take_append_drop]
  rw [List.eraseIdx_eq_take_drop_succ, cellsL_append]
  conv => rhs; rw [e1, cellsL_append, cellsL]
  rw [List.append_assoc]
  exact List.Perm.append_left _ List.perm_append_comm
theorem map_erase {α β : Type} (f : α → β) (l : List α) (k : Nat) : (l.eraseIdx k).map f = (l.map f).eraseIdx k := by
  simp [List.eraseIdx_eq_take_drop_succ, List.map_take, List.map_drop]
theorem mum_popAt : MuM g rPopAt mPopAt := by
  intro H a dx s ts us s' ds' dres hH ho
  unfold mPopAt at ho
  split at ho
  · rename_i i eu
    obtain ⟨u, rfl, hu⟩ := er_one eu
    split at ho
    · rename_i hb
      rw [List.length_map] at ho
      cases ek : seqIndex? i ts.length with
      | none => rw [ek] at ho; cases ho
      | some k =>
        rw [ek] at ho
        dsimp only at ho
        rw [List.getElem?_map] at ho
        cases ey : ts[k]? with
        | none => rw [ey] at ho; cases ho
        | some y =>
          rw [ey] at ho
          cases ho
          refine ⟨ts.eraseIdx k, y, [], ⟨rfl, rfl⟩, map_erase _ _ _, rfl, ?_, fun Q q => ?_⟩
          · rw [List.append_nil, er_im hu]
            simpa [cellsL, T.cells] using erase_perm (g := g) ey
          · rw [er_im hu]
            refine ⟨a, ts.map T.root, i, k, y.root, rfl, rfl, hH.flat id, hb.1, hb.2, by rw [List.length_map]; exact ek, by rw [List.getElem?_map, ey]; rfl, ?_⟩
            rw [← map_erase]
            exact q
    · cases ho
  · cases ho
def isLst (s : Sh) : Bool := match s with
  | .lst => true
  | _ => false
theorem lst_ty {K : PySem.W.Frag} {H : Hp} {k : Kd} {a dx : Addr} {s : Sh} {vs : List V} (h : isLst s = true) (e : Hd H (kz s k, a, ho g s dx vs)) : tyV K "list" (.ref a) H := by
  cases s with
  | lst => exact .inl ⟨rfl, _, SqL.of (e.flat id)⟩
  | _ => cases h
end
/-! ### path[i] = e; path.f = e -/
/-- the node's new content, from the value v at the place i -/
def cSetAt (r : Nat) (M2 : List Nat) (fe : Sg → R D) (fp : Sg → R (List Nat)) (fi : Sg → R D) (op : Sh → List D → D → D → Option (Sh × List D)) : Sg → R Fl := fun S => (fe S).bind fun v S1 => if cleanD M2 v = true ∧ hasBor r v = false then (fp S1).bind fun p S2 => if r ∈ M2 then .bad else
  (fi S2).bind fun i S3 => if hasBor r i = false then match nodeAt ((S3.map (killD r))) r p with
    | some (.nd .own s ds) => match op s ds i v with
      | some (s', ds') => match (S3.map (killD r))[r]? with
        | some (some d) => .ok .nx ((S3.map (killD r)).set r (some (d.put p (.nd .own s' ds'))))
        | _ => .bad
      | none => .bad
    | _ => .bad
  else .bad
  else .bad
def StM (g : Gc) (rs : V → V → V → Hp → (Hp → Prop) → Prop) (op : Sh → List D → D → D → Option (Sh × List D)) : Prop :=
  ∀ (H : Hp) (a dx : Addr) (s : Sh) (ts : List T) (i v : T) (s' : Sh) (ds' : List D), (∀ c ∈ i.cells g, Hd H c) → Hd H (kz s .own, a, ho g s dx (ts.map T.root)) → op s (ts.map T.er) i.er v.er = some (s', ds') →
    ∃ (ts' : List T) (dropped : List Cell), (kz s .own = .own ∧ kz s' .own = .own) ∧ ts'.map T.er = ds' ∧ (cellsL g ts' ++ dropped).Perm (cellsL g ts ++ cellsL g [v, i]) ∧ ∀ Q : Hp → Prop, Q (upd H a (ho g s' dx (ts'.map T.root))) → rs (.ref a) i.root v.root H Q
section
variable {g : Gc} {n : Nat} {W : WX} {Γ : Gh} {A A' A'' B : List (Option T)} {σ : L2.St} {H H' : Hp} {t : T} {M M1 M2 M3 M4 : List Nat}
theorem mean_setAt {r : Nat} {te tp ti : TE} {fe fi : Sg → R D} {fp : Sg → R (List Nat)} {rs : TSet} {op : Sh → List D → D → D → Option (Sh × List D)} (he : MeanE g n W M1 te fe) (hp : MeanP g n W r M2 tp fp) (hi : MeanE g n W M3 ti fi) (ho : StM g rs op) :
    MeanS g n W (M1 ++ (M2 ++ M3) ++ [r]) (tAsg te (gSub tp ti rs)) (cSetAt r (M2 ++ M3) fe fp fi op) := by
  intro Γ A σ H Dn Rr cl h
  refine he Γ A σ H _ Rr cl.left.left ?_
  unfold cSetAt at h
  cases ea : fe (ers n A) with
  | bad => rw [ea] at h; exact h.elim
  | exc c d S => rw [ea] at h; exact fun A' t H' R x e => h A' t σ H' R (x.toS _ _) e
  | ok v S1 =>
    rw [ea] at h
    dsimp only [Lin.R.bind] at h
    intro A1 tv H1 R1 x1 e1 d1
    have n1 : n ≤ A1.length := by rw [x1.len]; exact Rr.len
    by_cases hcv : cleanD (M2 ++ M3) v = true ∧ hasBor r v = false
    · rw [if_pos hcv] at h
      have cl1 := cl.next x1.toNext Rr.len
      have clv : Clean g n (M2 ++ M3) (A1 ++ [some tv]) := cl1.left.right.snoc (by rw [d1]; exact hcv.1)
      have nv : n ≤ (A1 ++ [some tv]).length := by rw [List.length_append]; omega
      refine hp Γ (A1 ++ [some tv]) σ H1 _ R1 clv.left ?_
      rw [ers_append n1, e1]
      cases eb : fp S1 with
      | bad => rw [eb] at h; exact h.elim
      | exc c d S =>
        rw [eb] at h
        intro A2 t2 H2 R2 x2 e2 d2
        obtain ⟨y, z⟩ := x2.left n1
        have n3 : n ≤ (A2.take A1.length).length := by rw [y.len]; exact n1
        rw [z] at R2 e2
        exact h _ t2 σ H2 (R2.mid n3) ((x1.toNext.trans y).toS _ _) (by rw [ers_append n3] at e2; exact e2) d2
      | ok p S2 =>
        rw [eb] at h
        dsimp only [Lin.R.bind] at h
        by_cases hm : r ∈ M2 ++ M3
        · rw [if_pos hm] at h; exact h.elim
        · rw [if_neg hm] at h
          rw [List.mem_append, not_or] at hm
          intro A2 H2 t u R2 x2 e2 et eu
          obtain ⟨y2, z2⟩ := x2.left n1
          have l2 : (A2.take A1.length).length = A1.length := y2.len
          have n2 : n ≤ (A2.take A1.length).length := by rw [l2]; exact n1
          have nA2 : n ≤ A2.length := by rw [x2.len]; exact nv
          refine hi Γ A2 σ H2 _ R2 ((clv.next x2.toNext nv).right) ?_
          rw [e2]
          cases ec : fi S2 with
          | bad => rw [ec] at h; exact h.elim
          | exc c d S =>
            rw [ec] at h
            intro A3 t3 H3 R3 x3 e3 d3
            have x23 := x2.toNext.trans x3
            obtain ⟨y, z⟩ := x23.left n1
            have n3 : n ≤ (A3.take A1.length).length := by rw [y.len]; exact n1
            rw [z] at R3 e3
            exact h _ t3 σ H3 (R3.mid n3) ((x1.toNext.trans y).toS _ _) (by rw [ers_append n3] at e3; exact e3) d3
          | ok i S3 =>
            rw [ec] at h
            dsimp only [Lin.R.bind] at h
            by_cases hbi : hasBor r i = false
            · rw [if_pos hbi] at h
              intro A3 ti H3 R3 x3 e3 d3
              have x23 : NextM n (M2 ++ M3) (A1 ++ [some tv]) A3 := x2.trans x3
              obtain ⟨y, z⟩ := x23.left n1
              have l3 : (A3.take A1.length).length = A1.length := y.len
              have n3 : n ≤ (A3.take A1.length).length := by rw [l3]; exact n1
              have e3' : ers n (A3.take A1.length) = S3 := by rw [z, ers_append n3] at e3; exact e3
              rw [← e3', ← ers_kill n3] at h
              split at h
              · rename_i s ds en
                obtain ⟨t', u', et', eu', ed, hr⟩ := nodeAt_some en
                have et2 := (kill_get et').1
                have hrA : r < A1.length := by omega
                have : t' = t := by
                  have q0 : A3[r]? = some (some t') := by
                    rw [z, List.getElem?_append_left (by rw [l3]; exact hrA)]; exact et2
                  rcases x3.slot r hr hm.2 with q | q
                  · rw [q0, et] at q; simpa using q
                  · rw [q0] at q; cases q
                subst this
                have : u' = u := by rw [eu] at eu'; exact (Option.some.inj eu').symm
                subst this
                obtain ⟨a, dx, ts, hu, hds⟩ := er_nd ed
                subst hu
                split at h
                · rename_i s' ds' eo
                  rw [z, List.append_assoc] at R3
                  have R3k : Rel g Γ n (kill n r (A3.take A1.length) ++ [tv, ti].map some) σ H3 := by
                    have := R3.kill r
                    rw [kill_append n3] at this
                    exact this
                  have hH := R3k.holdAt (r := r) (t := t') (by rw [List.getElem?_append_left (by rw [kill_length, l3]; exact hrA)]; exact et') eu
                  have hti : ∀ c ∈ ti.cells g, Hd H3 c := fun c hc => R3k.hold ((kill n r (A3.take A1.length)).length + 1) c (cellAt_append.mpr (.inr ⟨by omega, ti, by rw [show (kill n r (A3.take A1.length)).length + 1 - (kill n r (A3.take A1.length)).length = 1 by omega]; rfl, hc⟩))
                  obtain ⟨ts', dropped, ⟨m1, m2⟩, k1, k3, k4⟩ := ho H3 a dx s ts ti tv s' ds' hti hH (by rw [hds, d3, d1]; exact eo)
                  have nbA : ∀ i c, CellAt g (kill n r (A3.take A1.length) ++ [tv, ti].map some) i c → c.1 ≠ .bor r := fun j c x => by
                    rcases cellAt_append.mp x with x | ⟨_, x⟩
                    · exact kill_clean ((cl1.right).next y.toNext n1) j c x
                    · intro q
                      have hmem : c ∈ cellsL g [tv, ti] := cellAt_map.mp ⟨_, x⟩
                      simp only [cellsL, List.append_nil] at hmem
                      rcases List.mem_append.mp hmem with w | w
                      · have := (hasBor_iff (g := g)).mpr ⟨c, w, q⟩
                        rw [d1, hcv.2] at this; cases this
                      · have := (hasBor_iff (g := g)).mpr ⟨c, w, q⟩
                        rw [d3, hbi] at this; cases this
                  have R4 := R3k.mutAt (s' := s') (ts' := ts') (res := .im .non) (dropped := dropped) (by rw [kill_length]; exact n3) et' nbA eu m1 m2 (by simpa [T.cells] using k3)
                  refine k4 _ ?_
                  have ers1 : (ers n (kill n r (A3.take A1.length)))[r]? = some (some t'.er) := by rw [ers_get hr, et']; rfl
                  rw [ers1] at h
                  dsimp only at h
                  refine h _ σ _ (R4.drop (by rw [List.length_set, kill_length]; exact n3)) (Next.toS ⟨?_, ?_⟩ _ _) ?_
                  · rw [List.length_set, kill_length, l3, x1.len]
                  · rw [List.drop_set_of_lt hr]
                    exact (nextM_kill (r := r) n3 (x1.trans y)).tmp
                  · rw [ers_set hr, Option.map_some, er_put]
                    simp only [T.er, erL_eq, k1]
                · exact h.elim
              · exact h.elim
            · rw [if_neg hbi] at h; exact h.elim
    · rw [if_neg hcv] at h; exact h.elim
/-- lists -/
def sLst (s : Sh) (ds : List D) (i v : D) : Option (Sh × List D) := match s, i with
  | .lst, .im (.int k) => (ixN ds.length k).map fun j => (.lst, ds.set j v)
  | _, _ => none
theorem stm_lst : StM g rSetL sLst := by
  intro H a dx s ts i v s' ds' _ hH ho
  unfold sLst at ho
  split at ho
  · rename_i k ei
    rw [List.length_map] at ho
    cases ej : ixN ts.length k with
    | none => rw [ej] at ho; cases ho
    | some j =>
      rw [ej] at ho
      cases ho
      obtain ⟨_, hj, _⟩ := ixN_seq ej
      refine ⟨ts.set j v, (ts[j]).cells g ++ i.cells g, ⟨rfl, rfl⟩, by rw [List.map_set], ?_, fun Q q => ?_⟩
      · have e1 : ts = ts.take j ++ ts[j] :: ts.drop (j + 1) := by rw [List.getElem_cons_drop, List.take_append_drop]
        have e2 : ts.set j v = ts.take j ++ v :: ts.drop (j + 1) := List.set_eq_take_append_cons_drop.trans (by rw [if_pos hj])
        have e3 : cellsL g ts = cellsL g (ts.take j) ++ ((ts[j]).cells g ++ cellsL g (ts.drop (j + 1))) := by
          conv => lhs; rw [e1, cellsL_append, cellsL]
        rw [e2, e3, cellsL_append]
        simp only [cellsL, List.append_nil]
        classical
        refine List.perm_iff_count.mpr fun c => ?_
        simp only [List.count_append]
        omega
      · rw [er_im ei]
        refine ⟨a, ts.map T.root, k, j, rfl, rfl, hH.flat id, by rw [List.length_map]; exact ej, ?_⟩
        rw [← List.map_set]
        exact q
  · cases ho
end
end Lin
end
section
namespace Lin
open PySem L2
/-! ### fields -/
section
variable {g : Gc} {n : Nat} {W : WX} {Γ : Gh} {A A' A'' B : List (Option T)} {σ : L2.St} {H H' : Hp} {t : T} {M M1 M2 M3 M4 : List Nat}
/-! ### path.f = e -/
def putL {α : Type} (f : Str) : List Str → List α → α → List Str × List α
  | n :: ns, x :: xs, v => if n = f then (n :: ns, v :: xs) else (n :: (putL f ns xs v).1, x :: (putL f ns xs v).2)
  | _, _, v => ([f], [v])
/-! ### C(..) -/
/-! ### o.m(..): the receiver is looked at ahead of the arguments -/
end
end Lin
end
section
namespace Lin
open PySem L2
/-! ### calls as values, in the text -/
section
variable {X : Cx} {k : Nat} {f C : Addr} {fd : FuncData} {ps : List Str} {sp : Sp} {E : L2.St → XK} {x m : Str} {p pos apos : Pos} {e o : Expr} {es : List Expr} {ta : TE} {t : TA}
/-- x in o -/
structure Spec1 (K : PySem.W.Frag) (C : Addr) (m : Str) (f : Addr) : Prop where
  at_ : PySem.W.findIn K (.ref C) m = some (some (.ref f))
  fn : PySem.W.isFn K (.ref f) = true
end
end Lin
end
section
namespace Lin
open PySem L2
/-! ### calls of built-ins: an immediate result -/
def immV (o : List D → Option V) : List D → Option D := fun ds => (o ds).map .im
section
variable {g : Gc} {n : Nat}
theorem cam_imm {r : List V → Hp → VK → Prop} {o : List D → Option V}
    (h : ∀ (H : Hp) (ts : List T) (v : V) (Q : VK), (∀ c ∈ cellsL g ts, Hd H c) → o (ts.map T.er) = some v → Q v H → r (ts.map T.root) H Q) : CaM g n r (immV o) := by
  intro Γ A ts σ H Q d Rr hn eo hq
  unfold immV at eo
  cases e : o (ts.map T.er) with
  | none => rw [e] at eo; cases eo
  | some v =>
    rw [e] at eo
    cases eo
    refine h H ts v Q (fun c hc => ?_) e (hq (.im v) H (Rr.imm hn _) rfl)
    obtain ⟨i, x⟩ := cellAt_map.mpr hc
    obtain ⟨t, e1, e2⟩ := x
    exact Rr.hold (A.length + i) c ⟨t, by rw [List.getElem?_append_right (by omega)]; simpa using e1, e2⟩
theorem CaM.or {r1 r2 : List V → Hp → VK → Prop} {o1 o2 : List D → Option D} (h1 : CaM g n r1 o1) (h2 : CaM g n r2 o2) : CaM g n (fun xs H Q => r1 xs H Q ∨ r2 xs H Q) (fun ds => (o1 ds).or (o2 ds)) := by
  intro Γ A ts σ H Q d Rr hn eo hq
  dsimp only at eo
  cases e : o1 (ts.map T.er) with
  | some d' =>
    rw [e] at eo
    have : d' = d := by simpa using eo
    subst this
    exact .inl (h1 Γ A ts σ H Q _ Rr hn e hq)
  | none =>
    rw [e] at eo
    exact .inr (h2 Γ A ts σ H Q _ Rr hn (by simpa using eo) hq)
theorem er1 {ts : List T} {x : D} (h : ts.map T.er = [x]) : ∃ t, ts = [t] ∧ t.er = x := er_one h
theorem holdNd {H : Hp} {a : Addr} {k : Kd} {s : Sh} {dx : Addr} {ts us : List T} (h : ∀ c ∈ cellsL g (.nd a k s dx ts :: us), Hd H c) : Hd H (kz s k, a, ho g s dx (ts.map T.root)) :=
  h (kz s k, a, ho g s dx (ts.map T.root)) (by rw [cellsL, T.cells]; simp)

def dBls : List D → Option (List Bool)
  | [] => some []
  | .im (.bl i) :: r => (dBls r).map (i :: ·)
  | _ => none
theorem bls_root : ∀ (ts : List T) (ns : List Bool), dBls (ts.map T.er) = some ns → ts = ns.map fun i => T.im (.bl i)
  | [], ns, h => by
    simp [dBls] at h
    subst h; rfl
  | t :: r, ns, h => by
    rw [List.map_cons] at h
    unfold dBls at h
    split at h
    · cases ‹_ = []›
    · rename_i i r' e
      obtain ⟨e1, e2⟩ := List.cons.inj e
      subst e2
      cases q : dBls (r.map T.er) with
      | none => rw [q] at h; cases h
      | some ms =>
        rw [q] at h
        cases h
        rw [er_im e1, bls_root r ms q]; rfl
    · cases h
theorem roots_int (ns : List Int) : (ns.map fun i => T.im (.int i)).map T.root = ns.map V.int := by simp [T.root, Function.comp_def]
theorem roots_bl (ns : List Bool) : (ns.map fun i => T.im (.bl i)).map T.root = ns.map V.bl := by simp [T.root, Function.comp_def]
theorem ers_int (ns : List Int) : (ns.map fun i => T.im (.int i)).map T.er = ns.map fun i => D.im (.int i) := by simp [T.er, Function.comp_def]
theorem cells_int (ns : List Int) : cellsL g (ns.map fun i => T.im (.int i)) = [] := by
  induction ns with
  | nil => rfl
  | cons i r ih => simp [cellsL, T.cells, ih]
/-! len -/
def vLen (ds : List D) : Option V := match ds with
  | [.nd _ .lst xs] => some (.int xs.length)
  | [.nd _ .tup xs] => some (.int xs.length)
  | _ => none
theorem cam_len {K : PySem.W.Frag} : CaM g n (fun xs H Q => ∃ p ys, xs = [V.ref p] ∧ (SqL K H p ys ∨ SqT K H p ys) ∧ Q (.int ys.length) H) (immV vLen) :=
  cam_imm fun H ts v Q hc e hq => by
    unfold vLen at e
    split at e
    · rename_i k xs q
      obtain ⟨t, rfl, q'⟩ := er1 q
      obtain ⟨a, dx, us, rfl, h1⟩ := er_nd q'
      cases e
      exact ⟨a, us.map T.root, rfl, .inl (SqL.of ((holdNd hc).flat id)), by rw [← h1] at hq; simpa using hq⟩
    · rename_i k xs q
      obtain ⟨t, rfl, q'⟩ := er1 q
      obtain ⟨a, dx, us, rfl, h1⟩ := er_nd q'
      cases e
      exact ⟨a, us.map T.root, rfl, .inr (SqT.of ((holdNd hc).flat id)), by rw [← h1] at hq; simpa using hq⟩
    · cases e
def vLenD (ds : List D) : Option V := match ds with
  | [.nd _ (.dic ks) xs] => if ks.length = xs.length then some (.int ks.length) else none
  | _ => none
def rLenD : List V → Hp → VK → Prop := fun xs H Q => ∃ a kvs, xs = [V.ref a] ∧ Rd H a (.dK kvs) ∧ Q (.int kvs.length) H
theorem call_lenD {X : Cx} : CallR X (.builtin "len") rLenD := by
  intro pins s σ H xs us Q I r h
  obtain ⟨a, kvs, rfl, e, q⟩ := h
  rw [Vals.ref1 r]
  exact d_len I e fun t s' I' => ⟨.int kvs.length, H, I', ⟨t, rfl⟩, q⟩
theorem cam_lenD : CaM g n rLenD (immV vLenD) :=
  cam_imm fun H ts v Q hc e hq => by
    unfold vLenD at e
    split at e
    · rename_i k ks xs q
      obtain ⟨t, rfl, q'⟩ := er1 q
      obtain ⟨a, dx, us, rfl, h1⟩ := er_nd q'
      split at e
      · rename_i hl
        cases e
        refine ⟨a, _, rfl, (holdNd hc).rd, ?_⟩
        rw [List.length_zip, List.length_map]
        have : us.length = ks.length := by rw [hl, ← h1]; simp
        rw [this, Nat.min_self]
        exact hq
      · cases e
    · cases e

def vInt1 (f : Int → V) (ds : List D) : Option V := match ds with
  | [.im (.int i)] => some (f i)
  | _ => none
theorem cam_int1 {f : Int → V} : CaM g n (fun xs H Q => ∃ i, xs = [V.int i] ∧ Q (f i) H) (immV (vInt1 f)) :=
  cam_imm fun H ts v Q hc e hq => by
    unfold vInt1 at e
    split at e
    · rename_i i q
      obtain ⟨t, rfl, q'⟩ := er1 q
      cases e
      exact ⟨i, by rw [er_im q']; rfl, hq⟩
    · cases e
def vToInt (ds : List D) : Option V := match ds with
  | [.im (.int i)] => some (.int i)
  | [.im (.bl k)] => some (.int (if k then 1 else 0))
  | _ => none
theorem cam_toInt : CaM g n (fun xs H Q => (∃ i, xs = [V.int i] ∧ Q (.int i) H) ∨ ∃ k, xs = [V.bl k] ∧ Q (.int (if k then 1 else 0)) H) (immV vToInt) :=
  cam_imm fun H ts v Q hc e hq => by
    unfold vToInt at e
    split at e
    · rename_i i q
      obtain ⟨t, rfl, q'⟩ := er1 q
      cases e
      exact .inl ⟨i, by rw [er_im q']; rfl, hq⟩
    · rename_i i q
      obtain ⟨t, rfl, q'⟩ := er1 q
      cases e
      exact .inr ⟨i, by rw [er_im q']; rfl, hq⟩
    · cases e
/-! sum, all, any, max, min of a list -/
def vAny (ds : List D) : Option V := match ds with
  | [.nd _ .lst xs] => (dBls xs).map fun ns => .bl (ns.any id)
  | _ => none
theorem listBls {K : PySem.W.Frag} {H : Hp} {ts : List T} {k : Kd} {xs : List D} {ns : List Bool} (hc : ∀ c ∈ cellsL g ts, Hd H c) (q : ts.map T.er = [.nd k .lst xs]) (e : dBls xs = some ns) : ∃ a, ts.map T.root = [V.ref a] ∧ H a = some (.lst (ns.map V.bl)) := by
  obtain ⟨t, rfl, q'⟩ := er1 q
  obtain ⟨a, dx, us, rfl, h1⟩ := er_nd q'
  rw [← h1] at e
  have := bls_root us ns e
  refine ⟨a, rfl, ?_⟩
  have h := (holdNd hc).flat id
  rw [this, roots_bl] at h
  exact h
theorem cam_any {K : PySem.W.Frag} : CaM g n (rAny K) (immV vAny) :=
  cam_imm fun H ts v Q hc e hq => by
    unfold vAny at e
    split at e
    · rename_i k xs q
      cases e2 : dBls xs with
      | none => rw [e2] at e; cases e
      | some ns =>
        rw [e2] at e; cases e
        obtain ⟨a, h1, h2⟩ := listBls (K := K) hc q e2
        exact ⟨a, ns, h1, SqL.of h2, hq⟩
    · cases e
/-! isinstance -/
end
end Lin
end
section
namespace Lin
open PySem L2
section
variable {g : Gc} {n : Nat} {W : WX} {Γ : Gh} {A A' A'' B : List (Option T)} {σ : L2.St} {H H' : Hp} {t : T} {M M1 M2 M3 : List Nat}
/-! ### list(x), tuple(x), sorted(x) -/
def dListOf (ds : List D) : Option D := match ds with
  | [.nd _ .lst xs] => some (.nd .own .lst xs)
  | [.nd _ .tup xs] => some (.nd .own .lst xs)
  | _ => none
theorem cam_listOf {K : PySem.W.Frag} : CaM g n (fun xs H Q => ∃ p ys, xs = [V.ref p] ∧ (SqL K H p ys ∨ SqT K H p ys) ∧ ∀ l, H l = none → Q (.ref l) (upd H l (.lst ys))) dListOf := by
  intro Γ A ts σ H Q d Rr hn eo hq
  unfold dListOf at eo
  split at eo
  · rename_i k xs q
    obtain ⟨t, rfl, q'⟩ := er1 q
    obtain ⟨a, dx, us, rfl, h1⟩ := er_nd q'
    cases eo
    exact ⟨a, us.map T.root, rfl, .inl (SqL.of (Rr.top1.flat id)), fun p hp => hq (.nd p .own .lst 0 us) _ (Rr.node1 hn hp .lst 0 child_sub) (by rw [T.er, erL_eq, h1])⟩
  · rename_i k xs q
    obtain ⟨t, rfl, q'⟩ := er1 q
    obtain ⟨a, dx, us, rfl, h1⟩ := er_nd q'
    cases eo
    exact ⟨a, us.map T.root, rfl, .inr (SqT.of (Rr.top1.flat id)), fun p hp => hq (.nd p .own .lst 0 us) _ (Rr.node1 hn hp .lst 0 child_sub) (by rw [T.er, erL_eq, h1])⟩
  · cases eo
/-- a new list of ints in place of temps -/
theorem Rel.newInts {p : Addr} (Rr : Rel g Γ n (A ++ B) σ H) (hn : n ≤ A.length) (hp : H p = none) (ns : List Int) : Rel g Γ n (A ++ [some (.nd p .own .lst 0 (ns.map fun i => T.im (.int i)))]) σ (upd H p (.lst (ns.map V.int))) := by
  have := Rr.node (p := p) (ts := ns.map fun i => T.im (.int i)) hn hp .lst 0 (by rw [cells_int]; exact fun c h => nomatch h) (by rw [cells_int]; exact List.nil_sublist _)
  rw [roots_int] at this
  exact this
def intsD (ns : List Int) : D := .nd .own .lst (ns.map fun i => .im (.int i))
theorem intsD_er (p : Addr) (ns : List Int) : (T.nd p .own .lst 0 (ns.map fun i => T.im (.int i))).er = intsD ns := by rw [T.er, erL_eq, ers_int]; rfl
theorem zip_fst {α β : Type} : ∀ (ks : List α) (vs : List β), ks.length = vs.length → (ks.zip vs).map (·.1) = ks
  | [], _, _ => by simp
  | _ :: _, [], h => by simp at h
  | k :: ks, v :: vs, h => by simp [zip_fst ks vs (by simpa using h)]
def keyD (k : Key) : D := .im (kV k)
def dListD (ds : List D) : Option D := match ds with
  | [.nd _ (.dic ks) xs] => if ks.length = xs.length then some (.nd .own .lst (ks.map keyD)) else none
  | _ => none
theorem cells_im (vs : List V) : cellsL g (vs.map T.im) = [] := by
  induction vs with
  | nil => rfl
  | cons i r ih => simp [cellsL, T.cells, ih]
/-- list(a dict), also one that is locked -/
def rListZ : List V → Hp → VK → Prop := fun xs H Q => ∃ p kvs, xs = [.ref p] ∧ Rd H p (.dK kvs) ∧ ∀ q, H q = none → Q (.ref q) (upd H q (.lst (kvs.map fun kv => kV kv.1)))
theorem keys_vals {kvs : List (Key × V)} {vs : List (Key × Value)} (rk : KV kvs vs) {acc : Array Value} (hs : acc.size = vs.length) (h : ∀ (j : Nat) (w : Value), acc[j]? = some w → ∃ k y, vs[j]? = some (k, y) ∧ keyIs k w = true) : Vals (kvs.map fun kv => kV kv.1) acc.toList := by
  have hl : kvs.length = vs.length := Paired.length rk
  refine vals_of_at (by simp [hs, hl]) fun j x w h1 h2 => ?_
  obtain ⟨k, y, e, hi⟩ := h j w (by simpa using h2)
  have e1 : (kvs.map Prod.fst)[j]? = some k := by
    rw [KV.keys rk]
    simp [e]
  have e2 : (kvs.map fun kv => kV kv.1)[j]? = ((kvs.map Prod.fst)[j]?).map kV := by simp; rfl
  rw [e2, e1] at h1
  obtain rfl : kV k = x := by simpa using h1
  exact keyIs_rel hi
theorem call_listZ {X : Cx} (hc : X.calm = true) : CallR X (.type "list") rListZ := by
  rintro pins s σ H xs us Q I r ⟨p, kvs, rfl, hk, q⟩
  obtain ⟨u, rfl, rx⟩ := r.one
  cases rx
  obtain ⟨z, lo, vs, rk, hd⟩ := (show ObjOk X.prog X.w H s.heap p (.dK kvs) from hk.ok I.hok)
  obtain ⟨ep, hat⟩ := hd.dictAt
  have hl : kvs.length = vs.length := Paired.length rk
  refine PySem.W.kdl_call (PySem.W.kdl_dict (knd := mixKind X.prog X.w) (kvs := vs) (ep := ep) lo) (I.ok.hd hc) hat (by omega) fun h' tk acc' c' kp hS ha => ?_
  have V := keys_vals rk ha.1 ha.2
  exact ⟨.ref s.heap.objs.size, _, I.laid kp (Nat.le_refl _) (show ObjOk X.prog X.w _ _ _ (.lst (kvs.map fun kv => kV kv.1)) from ⟨by simpa using z, acc'.toList, c', V, by simpa using hS⟩), rfl, q _ (I.hok.fresh (Nat.le_refl _))⟩
theorem dget_k {H : Hp} {a : Addr} {kvs : List (Key × V)} {k : Key} (e : Rd H a (.dK kvs)) : DGet H a (kV k) (valV kvs k) := .inl ⟨kvs, k, e, rfl, rfl⟩
theorem dget_t {H : Hp} {a b : Addr} {kvs : List (List Key × V)} {k : List Key} (e : Rd H a (.dT kvs)) (eb : H b = some (.tup (k.map kV))) : DGet H a (.ref b) (valV kvs k) := .inr ⟨kvs, k, b, e, rfl, eb, rfl⟩
theorem cam_listD : CaM g n rListZ dListD := by
  intro Γ A ts σ H Q d Rr hn eo hq
  unfold dListD at eo
  split at eo
  · rename_i k ks xs q
    obtain ⟨t, rfl, q'⟩ := er1 q
    obtain ⟨a, dx, us, rfl, h1⟩ := er_nd q'
    split at eo
    · rename_i hl
      cases eo
      have hh : Rd H a (.dK (ks.zip (us.map T.root))) := Rr.top1.rd
      refine ⟨a, _, rfl, hh, fun p hp => ?_⟩
      have e : ((ks.zip (us.map T.root)).map fun kv => kV kv.1) = ks.map kV := by
        have := zip_fst ks (us.map T.root) (by rw [hl, ← h1]; simp)
        have e2 := congrArg (List.map kV) this
        rw [List.map_map] at e2
        exact e2
      rw [e]
      have R2 := Rr.node (p := p) (ts := (ks.map kV).map T.im) hn hp .lst 0 (by rw [cells_im]; exact fun c h => nomatch h) (by rw [cells_im]; exact List.nil_sublist _)
      have e3 : ((ks.map kV).map T.im).map T.root = ks.map kV := by simp [T.root, Function.comp_def]
      rw [e3] at R2
      exact hq _ _ R2 (by rw [T.er, erL_eq]; simp [T.er, keyD, Function.comp_def])
    · cases eo
  · cases eo
/-! ### list(range(..)) -/
theorem rgV_eq (a b : Int) : rgV a b = ((List.range (b - a).toNat).map fun k : Nat => a + (k : Int)).map V.int := by unfold rgV; rw [List.map_map]; rfl
def rgI (a b : Int) : List Int := (List.range (b - a).toNat).map fun k : Nat => a + (k : Int)
def dRg1 (d : D) : Option D := match d with
  | .im (.int j) => if rngOk j = true ∧ j ≤ 16777216 then some (intsD (rgI 0 j)) else none
  | _ => none
theorem mean_lstRg1 {ta : TE} {fa : Sg → R D} (ha : MeanE g n W M1 ta fa) : MeanE g n W M1 (tLstRg (tRg1 ta)) (cOne fa dRg1) :=
  mean_one (r := fun x H1 Q => ∃ m, x = .int m ∧ RgOk 0 m ∧ ∀ q, H1 q = none → Q (.ref q) (upd H1 q (.lst (rgV 0 m)))) ha fun Γ A ta σ H Q d Rr hn eo hq => by
    unfold dRg1 at eo
    split at eo
    · rename_i j e
      split at eo
      · rename_i hj
        cases eo
        rw [er_im e]
        obtain ⟨r1, r2⟩ := rngOk_iff hj.1
        refine ⟨j, rfl, ⟨by omega, by omega, r1, r2, by have := hj.2; omega⟩, fun p hp => ?_⟩
        rw [rgV_eq]
        exact hq _ _ (Rr.newInts hn hp _) (intsD_er _ _)
      · cases eo
    · cases eo
/-! ### dicts: d[k], k in d, d[k] = v -/
def valP {κ α : Type} [DecidableEq κ] (k : κ) : List κ → List α → Option α
  | k' :: ks, x :: xs => if k' = k then some x else valP k ks xs
  | _, _ => none
theorem valP_map {κ α β : Type} [DecidableEq κ] (f : α → β) (k : κ) : ∀ (ks : List κ) (xs : List α), valP k ks (xs.map f) = (valP k ks xs).map f
  | [], _ => by simp [valP]
  | _ :: _, [] => by simp [valP]
  | k' :: ks, x :: xs => by
    simp only [List.map_cons, valP]
    by_cases e : k' = k
    · rw [if_pos e, if_pos e]; rfl
    · rw [if_neg e, if_neg e]; exact valP_map f k ks xs
theorem valP_valV {κ : Type} [DecidableEq κ] (k : κ) : ∀ (ks : List κ) (vs : List V), valV (ks.zip vs) k = valP k ks vs
  | [], _ => by simp [valP, valV]
  | _ :: _, [] => by simp [valP, valV]
  | k' :: ks, x :: xs => by
    have ih := valP_valV k ks xs
    unfold valV at ih ⊢
    simp only [List.zip_cons_cons, List.find?_cons, valP]
    by_cases e : k' = k
    · simp [e]
    · simp only [e, decide_false, if_false]; exact ih
theorem valP_get {κ α : Type} [DecidableEq κ] (k : κ) : ∀ (ks : List κ) (xs : List α) (x : α), valP k ks xs = some x → ∃ i : Nat, xs[i]? = some x
  | [], _, x, h => by simp [valP] at h
  | _ :: _, [], x, h => by simp [valP] at h
  | k' :: ks, y :: xs, x, h => by
    simp only [valP] at h
    by_cases e : k' = k
    · rw [if_pos e] at h; exact ⟨0, by simpa using h⟩
    · rw [if_neg e] at h
      obtain ⟨i, hi⟩ := valP_get k ks xs x h
      exact ⟨i + 1, by simpa using hi⟩
def keyOf (d : D) : Option Key := match d with
  | .im (.int i) => some (.inl i)
  | .im (.str x) => some (.inr x)
  | _ => none
theorem keyOf_root {d : T} {k : Key} (h : keyOf d.er = some k) : d = .im (kV k) := by
  unfold keyOf at h
  split at h
  · rename_i e; cases h; exact er_im e
  · rename_i e; cases h; exact er_im e
  · cases h
def keyTs : List D → Option (List Key)
  | [] => some []
  | d :: r => match keyOf d, keyTs r with
    | some k, some ks => some (k :: ks)
    | _, _ => none
def keyT (d : D) : Option (List Key) := match d with
  | .nd _ .tup ds => keyTs ds
  | _ => none
theorem keyTs_root : ∀ (ts : List T) (ks : List Key), keyTs (ts.map T.er) = some ks → ts.map T.root = ks.map kV
  | [], ks, h => by simp [keyTs] at h; subst h; rfl
  | t :: r, ks, h => by
    simp only [List.map_cons, keyTs] at h
    cases e1 : keyOf t.er with
    | none => rw [e1] at h; cases h
    | some k =>
      cases e2 : keyTs (r.map T.er) with
      | none => rw [e1, e2] at h; cases h
      | some ms =>
        rw [e1, e2] at h
        cases h
        rw [List.map_cons, List.map_cons, keyTs_root r ms e2, keyOf_root e1]; rfl
/-- what stands at a key: none if this is no dict with such a key kind -/
def dGetO (d y : D) : Option (Option D) := match d with
  | .nd _ (.dic ks) ds => (keyOf y).map fun k => valP k ks ds
  | .nd _ (.dtu ks) ds => (keyT y).map fun k => valP k ks ds
  | _ => none
theorem dgetO_of {H : Hp} {td ty : T} {o : Option D} (hd : ∀ c ∈ td.cells g, Hd H c) (hy : ∀ c ∈ ty.cells g, Hd H c) (h : dGetO td.er ty.er = some o) :
    ∃ a k s dx ts, td = .nd a k s dx ts ∧ ∃ u : Option T, u.map T.er = o ∧ DGet H a ty.root (u.map T.root) ∧ ∀ x, u = some x → ∃ i : Nat, ts[i]? = some x := by
  unfold dGetO at h
  split at h
  · rename_i k ks ds e
    obtain ⟨a, dx, ts, rfl, h1⟩ := er_nd e
    cases ek : keyOf ty.er with
    | none => rw [ek] at h; cases h
    | some key =>
      rw [ek] at h
      have hh : Rd H a (.dK (ks.zip (ts.map T.root))) := Hd.rd (hd _ (by rw [T.cells]; exact List.mem_cons_self))
      refine ⟨a, k, _, dx, ts, rfl, valP key ks ts, ?_, ?_, fun x hx => valP_get key ks ts x hx⟩
      · rw [← valP_map, h1]; simpa using h
      · rw [keyOf_root ek, ← valP_map, ← valP_valV]
        exact dget_k hh
  · rename_i k ks ds e
    obtain ⟨a, dx, ts, rfl, h1⟩ := er_nd e
    cases ek : keyT ty.er with
    | none => rw [ek] at h; cases h
    | some key =>
      rw [ek] at h
      have hh : Rd H a (.dT (ks.zip (ts.map T.root))) := Hd.rd (hd _ (by rw [T.cells]; exact List.mem_cons_self))
      unfold keyT at ek
      split at ek
      · rename_i k' ds' e'
        obtain ⟨b, dy, us, rfl, h2⟩ := er_nd e'
        have hb : H b = some (.tup (us.map T.root)) := Hd.flat (hy _ (by rw [T.cells]; exact List.mem_cons_self)) id
        rw [keyTs_root us key (by rw [h2]; exact ek)] at hb
        refine ⟨a, k, _, dx, ts, rfl, valP key ks ts, ?_, ?_, fun x hx => valP_get key ks ts x hx⟩
        · rw [← valP_map, h1]; simpa using h
        · rw [← valP_map, ← valP_valV]
          exact dget_t hh hb
      · cases ek
  · cases h
def rDGet : R2 := fun x y H Q => ∃ a v, x = .ref a ∧ DGet H a y (some v) ∧ Q v H
def dDGet (d y : D) : Option D := (dGetO d y).bind id
theorem hold2a {ta tb : T} (Rr : Rel g Γ n (A ++ [some ta] ++ [some tb]) σ H) : ∀ c ∈ ta.cells g, Hd H c := fun c hc => Rr.hold A.length c ⟨ta, by simp, hc⟩
theorem hold2b {ta tb : T} (Rr : Rel g Γ n (A ++ [some ta] ++ [some tb]) σ H) : ∀ c ∈ tb.cells g, Hd H c := fun c hc => Rr.hold (A.length + 1) c ⟨tb, by simp, hc⟩
theorem opm_dget : OpM g n rDGet dDGet := by
  intro Γ A ta tb σ H Q d Rr hn eo hq
  unfold dDGet at eo
  cases e : dGetO ta.er tb.er with
  | none => rw [e] at eo; cases eo
  | some o =>
    rw [e] at eo
    obtain ⟨a, k, s, dx, ts, rfl, u, h1, h2, h3⟩ := dgetO_of (hold2a Rr) (hold2b Rr) e
    have eo : o = some d := eo
    subst eo
    cases u with
    | none => cases h1
    | some x =>
      obtain ⟨i, hi⟩ := h3 x rfl
      refine ⟨a, x.root, rfl, h2, hq x H ?_ (by simpa using h1)⟩
      have hs : (x.cells g).Sublist ((T.nd a k s dx ts).cells g) := (at_sub hi).trans child_sub
      rw [List.append_assoc] at Rr
      exact Rr.part hn (fun c hc => ⟨0, _, rfl, hs.subset hc⟩) (by
        simp only [List.cons_append, List.nil_append, List.flatMap_cons, List.flatMap_nil, List.append_nil, ownsO]
        exact (owns_sublist hs).trans (List.sublist_append_left _ _))
end
section
open PySem.Spec PyProof.Rows
variable {X : Cx}
theorem ix_dget (hu : X.A.units + 1 < cLine) : IxR X rDGet := by
  intro value slice pins s σ H x y v u Q I rx ry h hs
  obtain ⟨a, w, rfl, gg, q⟩ := h
  obtain rfl : v = Value.ref a := rx
  have ht := dict_typeIs I gg
  unfold subscriptTail
  refine wpAny_bind ?_
  rw [getitemInPython_of_ne ht.not_modules]
  refine wpAny_bind (wpAny_specialOf ht PySem.F.slot_dict_getitem.lookup ?_)
  have fin : wpAny (model X.prog X.w) X.A (subscripted slice false (.ref a) u) (fun r s₃ => wpAny (model X.prog X.w) X.A (letTemporaryGo value (.ref a) r >>= fun _ => pure r) (EP X pins σ Q) X.xe s₃) X.xe s := by
    rw [hs]
    exact wpAny_operating (d_getItem hu I gg ry fun w' s3 I3 rw' => wpAny_bind (wpAny_letTemporaryGo (wpAny_pure ⟨w, H, I3, rw', q⟩)))
  first
    | exact wpAny_pure (wpAny_bind fin)
    | exact wpAny_bind (wpAny_pure (wpAny_bind fin))
    | exact wpAny_bind fin
def rDSet : TSet := fun o i v H Q => ∃ a H4, o = .ref a ∧ DPut H a i v H4 ∧ Q H4
theorem pset_dict (hu : X.A.units + 1 < cLine) : PSet X rDSet := by
  intro pins s σ H x y v ov iv u Q I rx ry rv h
  obtain ⟨a, H4, rfl, gg, q⟩ := h
  obtain rfl : ov = Value.ref a := rx
  exact d_setItem hu I gg ry rv fun s' I' => ⟨H4, I', q⟩
theorem PSet.or {r r' : TSet} (h : PSet X r) (h' : PSet X r') : PSet X (fun o i v H Q => r o i v H Q ∨ r' o i v H Q) := by
  intro pins s σ H x y v ov iv u Q I rx ry rv q
  rcases q with q | q
  · exact h pins s σ H x y v ov iv u Q I rx ry rv q
  · exact h' pins s σ H x y v ov iv u Q I rx ry rv q
end
end Lin
end
section
namespace Lin
open PySem L2
def putP {κ α : Type} [DecidableEq κ] (f : κ) : List κ → List α → α → List κ × List α
  | n :: ns, x :: xs, v => if n = f then (n :: ns, v :: xs) else (n :: (putP f ns xs v).1, x :: (putP f ns xs v).2)
  | _, _, v => ([f], [v])
section
variable {g : Gc} {n : Nat} {W : WX} {Γ : Gh} {A A' A'' B : List (Option T)} {σ : L2.St} {H H' : Hp} {t : T} {M M1 M2 M3 : List Nat} {κ : Type} [DecidableEq κ]
theorem putP_map {α β : Type} (h : α → β) (f : κ) : ∀ (ns : List κ) (xs : List α) (v : α), (putP f ns (xs.map h) (h v)).1 = (putP f ns xs v).1 ∧ (putP f ns (xs.map h) (h v)).2 = (putP f ns xs v).2.map h
  | [], xs, v => by cases xs <;> simp [putP]
  | _ :: _, [], v => by simp [putP]
  | n :: ns, x :: xs, v => by
    obtain ⟨h1, h2⟩ := putP_map h f ns xs v
    simp only [List.map_cons, putP]
    by_cases e : n = f
    · rw [if_pos e, if_pos e]; exact ⟨rfl, rfl⟩
    · rw [if_neg e, if_neg e]; simp [h1, h2]
theorem putK_cons (k k' : κ) (v x : V) (kvs : List (κ × V)) (hn : k' ∉ kvs.map (·.1)) : putK ((k', x) :: kvs) k v = if k' = k then (k', v) :: kvs else (k', x) :: putK kvs k v := by
  unfold putK
  by_cases e : k' = k
  · subst e
    rw [if_pos rfl]
    simp only [List.any_cons, decide_true, Bool.true_or, if_true, List.map_cons]
    congr 1
    conv => rhs; rw [← List.map_id kvs]
    apply List.map_congr_left
    intro kv hkv
    have : kv.1 ≠ k' := fun z => hn (List.mem_map.mpr ⟨kv, hkv, z⟩)
    rw [if_neg this]; rfl
  · rw [if_neg e]
    simp only [List.any_cons, e, decide_false, Bool.false_or, List.map_cons, if_false]
    split <;> rfl
theorem putP_zip (f : κ) : ∀ (ns : List κ) (vs : List V) (v : V), ns.length = vs.length → ns.Nodup → putK (ns.zip vs) f v = (putP f ns vs v).1.zip (putP f ns vs v).2
  | [], [], v, _, _ => rfl
  | [], _ :: _, v, h, _ => by simp at h
  | _ :: _, [], v, h, _ => by simp at h
  | n :: ns, x :: vs, v, h, nd => by
    obtain ⟨nd1, nd2⟩ := List.nodup_cons.mp nd
    have hl : ns.length = vs.length := by simpa using h
    have ih := putP_zip f ns vs v hl nd2
    rw [List.zip_cons_cons, putK_cons _ _ _ _ _ (by rw [zip_fst _ _ hl]; exact nd1)]
    simp only [putP]
    by_cases e : n = f
    · rw [if_pos e, if_pos e]; rfl
    · rw [if_neg e, if_neg e, ih]; rfl
theorem putP_perm (f : κ) : ∀ (ns : List κ) (ts : List T) (v : T), ns.length = ts.length → ∃ dropped, (cellsL g (putP f ns ts v).2 ++ dropped).Perm (cellsL g ts ++ v.cells g)
  | [], [], v, _ => ⟨[], by simp [putP, cellsL]⟩
  | [], _ :: _, v, h => by simp at h
  | _ :: _, [], v, h => by simp at h
  | n :: ns, x :: ts, v, h => by
    obtain ⟨dr, p⟩ := putP_perm f ns ts v (by simpa using h)
    simp only [putP]
    by_cases e : n = f
    · rw [if_pos e]
      refine ⟨x.cells g, ?_⟩
      simp only [cellsL]
      classical
      refine List.perm_iff_count.mpr fun c => ?_
      simp only [List.count_append]
      omega
    · rw [if_neg e]
      refine ⟨dr, ?_⟩
      simp only [cellsL, List.append_assoc]
      exact p.append_left _
def sDic (s : Sh) (ds : List D) (i v : D) : Option (Sh × List D) := match s with
  | .dic ks => (keyOf i).bind fun k => if ks.length = ds.length ∧ ks.Nodup ∧ ks.length < sizeLine then some (.dic (putP k ks ds v).1, (putP k ks ds v).2) else none
  | .dtu ks => (keyT i).bind fun k => if ks.length = ds.length ∧ ks.Nodup ∧ ks.length < sizeLine then some (.dtu (putP k ks ds v).1, (putP k ks ds v).2) else none
  | _ => none
theorem stm_dic : StM g rDSet sDic := by
  intro H a dx s ts i v s' ds' hi hH ho
  unfold sDic at ho
  split at ho
  · rename_i ks
    cases ek : keyOf i.er with
    | none => rw [ek] at ho; cases ho
    | some k =>
      rw [ek, Option.bind_some] at ho
      split at ho
      · rename_i hh
        obtain ⟨hl, hnd, hz⟩ := hh
        rw [List.length_map] at hl
        cases ho
        obtain ⟨dr, p⟩ := putP_perm (g := g) k ks ts v hl
        obtain ⟨m1, m2⟩ := putP_map T.er k ks ts v
        obtain ⟨k1, k2⟩ := putP_map T.root k ks ts v
        refine ⟨(putP k ks ts v).2, dr ++ i.cells g, ⟨rfl, rfl⟩, m2.symm, ?_, fun Q q => ?_⟩
        · simp only [cellsL, List.append_nil]
          rw [← List.append_assoc, ← List.append_assoc]
          exact p.append_right _
        · refine ⟨a, _, rfl, ?_, q⟩
          rw [keyOf_root ek]
          have := DPut.k (H := H) (a := a) (k := k) (v := v.root) (Hd.own hH rfl) (by rw [List.length_zip, List.length_map]; omega)
          rw [putP_zip k ks _ _ (by rw [List.length_map]; exact hl) hnd, k1, k2, ← m1] at this
          exact this
      · cases ho
  · rename_i ks
    cases ek : keyT i.er with
    | none => rw [ek] at ho; cases ho
    | some k =>
      rw [ek, Option.bind_some] at ho
      split at ho
      · rename_i hh
        obtain ⟨hl, hnd, hz⟩ := hh
        rw [List.length_map] at hl
        cases ho
        obtain ⟨dr, p⟩ := putP_perm (g := g) k ks ts v hl
        obtain ⟨m1, m2⟩ := putP_map T.er k ks ts v
        obtain ⟨k1, k2⟩ := putP_map T.root k ks ts v
        refine ⟨(putP k ks ts v).2, dr ++ i.cells g, ⟨rfl, rfl⟩, m2.symm, ?_, fun Q q => ?_⟩
        · simp only [cellsL, List.append_nil]
          rw [← List.append_assoc, ← List.append_assoc]
          exact p.append_right _
        · refine ⟨a, _, rfl, ?_, q⟩
          unfold keyT at ek
          split at ek
          · rename_i k' ds' e'
            obtain ⟨b, dy, us, rfl, h2⟩ := er_nd e'
            have hb : H b = some (.tup (us.map T.root)) := Hd.flat (hi _ (by rw [T.cells]; exact List.mem_cons_self)) id
            rw [keyTs_root us k (by rw [h2]; exact ek)] at hb
            have := DPut.t (H := H) (a := a) (b := b) (k := k) (v := v.root) (Hd.own hH rfl) hb (by rw [List.length_zip, List.length_map]; omega)
            rw [putP_zip k ks _ _ (by rw [List.length_map]; exact hl) hnd, k1, k2, ← m1] at this
            exact this
          · cases ek
      · cases ho
  · cases ho
theorem StM.or {r1 r2 : TSet} {o1 o2 : Sh → List D → D → D → Option (Sh × List D)} (h1 : StM g r1 o1) (h2 : StM g r2 o2) : StM g (fun o i v H Q => r1 o i v H Q ∨ r2 o i v H Q) (fun s ds i v => (o1 s ds i v).or (o2 s ds i v)) := by
  intro H a dx s ts i v s' ds' hi hH ho
  dsimp only at ho
  cases e : o1 s (ts.map T.er) i.er v.er with
  | some p =>
    rw [e] at ho
    have : p = (s', ds') := by simpa using ho
    subst this
    obtain ⟨ts', dr, h0, h3, h4, h5⟩ := h1 H a dx s ts i v s' ds' hi hH e
    exact ⟨ts', dr, h0, h3, h4, fun Q q => .inl (h5 Q q)⟩
  | none =>
    rw [e] at ho
    obtain ⟨ts', dr, h0, h3, h4, h5⟩ := h2 H a dx s ts i v s' ds' hi hH (by simpa using ho)
    exact ⟨ts', dr, h0, h3, h4, fun Q q => .inr (h5 Q q)⟩
/-! ### x in xs; is None -/
def dNeg (d : D) : Option D := match d with
  | .im (.int i) => some (.im (.int (-i)))
  | _ => none
theorem unm_neg : UnM g n (rU fun i => .int (-i)) dNeg := by
  intro Γ A ta σ H Q d Rr hn eo hq
  unfold dNeg at eo
  split at eo
  · rename_i i e
    cases eo
    rw [er_im e]
    exact ⟨i, rfl, hq (.im _) H (Rr.imm hn _) rfl⟩
  · cases eo
/-! ### a op b op' c -/
end
end Lin
end
section
namespace Lin
open PySem L2
section
variable {g : Gc} {n : Nat} {W : WX} {Γ : Gh} {A A' A'' B C : List (Option T)} {σ : L2.St} {H H' : Hp} {t : T} {M M1 M2 M3 : List Nat}
/-- temps without own marks, parts of the temps that stood -/
theorem Rel.view (Rr : Rel g Γ n (A ++ B) σ H) (hn : n ≤ A.length) (h : ∀ i c, CellAt g C i c → c.1 ≠ .own ∧ ∃ j, CellAt g B j c) : Rel g Γ n (A ++ C) σ H := by
  have inA : ∀ {i c}, CellAt g A i c → CellAt g (A ++ B) i c := fun x => cellAt_left x
  have inB : ∀ {i c}, CellAt g B i c → CellAt g (A ++ B) (A.length + i) c := fun x => cellAt_append.mpr (.inr ⟨by omega, by rw [Nat.add_sub_cancel_left]; exact x⟩)
  have src : ∀ {i c}, CellAt g (A ++ C) i c → ∃ j, CellAt g (A ++ B) j c ∧ ((j = i ∧ i < A.length) ∨ (A.length ≤ i ∧ A.length ≤ j ∧ c.1 ≠ .own)) := fun {i c} x => by
    rcases cellAt_append.mp x with x | ⟨hi, x⟩
    · exact ⟨i, inA x, .inl ⟨rfl, x.lt⟩⟩
    · obtain ⟨no, j, y⟩ := h _ c x
      exact ⟨_, inB y, .inr ⟨hi, by omega, no⟩⟩
  refine ⟨by simp; omega, Rr.slen, ?_, ?_, ?_, ?_, ?_, Rr.frame, ?_, ?_, Rr.pin, Rr.tab, Rr.lck⟩
  · intro j w hj q
    rw [List.getElem?_append_left (by omega)] at q
    exact Rr.val j w hj (by rw [List.getElem?_append_left (by omega)]; exact q)
  · intro i c x
    obtain ⟨j, y, _⟩ := src x
    exact Rr.hold j c y
  · intro i c r x k
    obtain ⟨j, y, _⟩ := src x
    exact Rr.lab j c r y k
  · intro i w q
    by_cases hi : i < A.length
    · rw [List.getElem?_append_left hi] at q
      exact Rr.nd i w (by rw [List.getElem?_append_left hi]; exact q)
    · rw [List.getElem?_append_right (by omega)] at q
      rw [owns_none fun c hc => (h _ c ⟨w, q, hc⟩).1]; exact List.nodup_nil
  · intro i l c d x y hown hadr
    obtain ⟨j1, y1, z1⟩ := src x
    obtain ⟨j2, y2, z2⟩ := src y
    rcases z1 with ⟨rfl, hi⟩ | ⟨_, _, no⟩
    · rcases Rr.sep _ _ c d y1 y2 hown hadr with ⟨q1, q2⟩ | ⟨q1, q2⟩
      · rcases z2 with ⟨rfl, _⟩ | ⟨_, _, no⟩
        · exact .inl ⟨q1, q2⟩
        · exact absurd q2 no
      · rcases z2 with ⟨rfl, _⟩ | ⟨a1, _, _⟩
        · exact .inr ⟨q1, q2⟩
        · exact .inr ⟨by omega, q2⟩
    · exact absurd hown no
  · intro i c x
    obtain ⟨j, y, _⟩ := src x
    exact Rr.gown j c y
  · intro i c x k
    obtain ⟨j, y, _⟩ := src x
    exact Rr.gfrz j c y k
theorem kFz_own (k : Kd) : kFz k ≠ .own := by unfold kFz; split <;> simp_all
/-- a node's children, frozen -/
theorem Rel.spread {a : Addr} {k : Kd} {s : Sh} {dx : Addr} {ts : List T} (Rr : Rel g Γ n (A ++ [some (.nd a k s dx ts)]) σ H) (hn : n ≤ A.length) : Rel g Γ n (A ++ (ts.map (T.mk kFz)).map some) σ H := by
  refine (Rr.freeze hn).view hn fun i c ⟨u, e, hc⟩ => ?_
  rw [List.getElem?_map, List.getElem?_map] at e
  cases q : ts[i]? with
  | none => rw [q] at e; cases e
  | some w =>
    rw [q] at e
    have : w.mk kFz = u := by simpa using e
    subst this
    have m : c ∈ cellsL g (ts.map (T.mk kFz)) := by rw [cellsL_eq]; exact List.mem_flatMap.mpr ⟨_, List.mem_map.mpr ⟨w, List.mem_of_getElem? q, rfl⟩, hc⟩
    refine ⟨?_, 0, _, rfl, ?_⟩
    · rw [cells_mk g _ (by first | rfl | decide)] at hc
      obtain ⟨d, _, rfl⟩ := List.mem_map.mp hc
      exact kFz_own _
    · rw [T.mk, T.cells, mkL_eq]; exact List.mem_cons_of_mem _ m
/-! ### *xs -/
def seqD (d : D) : Option (List D) := match d with
  | .nd _ .lst ds => some ds
  | .nd _ .tup ds => some ds
  | _ => none
/-! ### a, b = .. -/
/-! ### {k: v, ..} -/
end
end Lin
end
section
namespace Lin
open PySem L2
/-! ### the text's rules, with their meanings -/
structure CxE (X : Cx) (W : WX) : Prop where
  calm : X.calm = true
  takes : Takes X W
  nd : X.N.Nodup
  room : Room 0 X.A
structure CxS (X : Cx) (W : WX) : Prop extends CxE X W where
  pass : PassesOwn (model X.prog X.w) X.A X.env X.xe
section
variable (g : Gc) (n : Nat) (W : WX) (M : List Nat)
/-- the reading that a meaning has -/
def tE (f : Sg → R D) : TE := fun σ H Q => ∃ Γ A, Rel g Γ n A σ H ∧ Clean g n M A ∧ PostE g n W M Γ A σ Q (f (ers n A))
def tT (f : Sg → R Bool) : TT := fun σ H Q => ∃ Γ A, Rel g Γ n A σ H ∧ Clean g n M A ∧ PostT g n W M Γ A σ Q (f (ers n A))
def tA (f : Sg → R (List D)) : TA := fun σ H Q => ∃ Γ A, Rel g Γ n A σ H ∧ Clean g n M A ∧ PostA g n W M Γ A σ Q (f (ers n A))
def tCA (rs : List (Option Nat)) (f : Sg → R (List D)) : TA := fun σ H Q => ∃ Γ A, Rel g Γ n A σ H ∧ Clean g n M A ∧ PostC g n W rs M Γ A σ Q (f (ers n A))
def tI (f : Sg → R (D × List D)) : TI := fun σ H Q => ∃ Γ A, Rel g Γ n A σ H ∧ Clean g n M A ∧ PostI g n W M Γ A σ Q (f (ers n A))
def tP (r : Nat) (f : Sg → R (List Nat)) : TE := fun σ H Q => ∃ Γ A, Rel g Γ n A σ H ∧ Clean g n M A ∧ PostP g n W r M Γ A σ Q (f (ers n A))
def tS (f : Sg → R Fl) : TS := fun Dn σ H => ∃ Γ A, Rel g Γ n A σ H ∧ Clean g n M A ∧ PostS g n W M Γ A σ Dn (f (ers n A))
def tG (xs : List Nat) (f : D → Sg → Option Sg) : TG := fun v σ H Q => ∃ Γ A t S', v = t.root ∧ Rel g Γ n (A ++ [some t]) σ H ∧ n ≤ A.length ∧ f t.er (ers n A) = some S' ∧
  (∀ A' σ' H', Rel g Γ n A' σ' H' → NextM n xs A A' → ers n A' = S' → (∀ j : Nat, j ∉ xs → σ'[j]? = σ[j]?) → Q σ' H')
end
section
theorem mn_E {g : Gc} {n : Nat} {W : WX} {M : List Nat} {f : Sg → R D} : MeanE g n W M (tE g n W M f) f := fun Γ A σ H Q r c p => ⟨Γ, A, r, c, p⟩
theorem mn_T {g : Gc} {n : Nat} {W : WX} {M : List Nat} {f : Sg → R Bool} : MeanT g n W M (tT g n W M f) f := fun Γ A σ H Q r c p => ⟨Γ, A, r, c, p⟩
theorem mn_A {g : Gc} {n : Nat} {W : WX} {M : List Nat} {f : Sg → R (List D)} : MeanA g n W M (tA g n W M f) f := fun Γ A σ H Q r c p => ⟨Γ, A, r, c, p⟩
theorem mn_C {g : Gc} {n : Nat} {W : WX} {M : List Nat} {rs : List (Option Nat)} {f : Sg → R (List D)} : MeanC g n W rs M (tCA g n W M rs f) f := fun Γ A σ H Q r c p => ⟨Γ, A, r, c, p⟩
theorem mn_I {g : Gc} {n : Nat} {W : WX} {M : List Nat} {f : Sg → R (D × List D)} : MeanI g n W M (tI g n W M f) f := fun Γ A σ H Q r c p => ⟨Γ, A, r, c, p⟩
theorem mn_P {g : Gc} {n : Nat} {W : WX} {M : List Nat} {r : Nat} {f : Sg → R (List Nat)} : MeanP g n W r M (tP g n W M r f) f := fun Γ A σ H Q r c p => ⟨Γ, A, r, c, p⟩
theorem mn_S {g : Gc} {n : Nat} {W : WX} {M : List Nat} {f : Sg → R Fl} : MeanS g n W M (tS g n W M f) f := fun Γ A σ H Q r c p => ⟨Γ, A, r, c, p⟩
theorem mn_G {g : Gc} {n : Nat} {xs : List Nat} {f : D → Sg → Option Sg} : MeanG g n xs (tG g n xs f) f := fun Γ A t σ H Q S' r hn e q => ⟨Γ, A, t, S', rfl, r, hn, e, q⟩
end
section
variable (X : Cx) (g : Gc) (W : WX) (M : List Nat)
def QE (e : Expr) (f : Sg → R D) : Prop := PE X e (tE g X.N.length W M f)
def QT (e : Expr) (f : Sg → R Bool) : Prop := PT X e (tT g X.N.length W M f)
def QW (e : Expr) (f : Sg → R Bool) : Prop := PW X e (tT g X.N.length W M f)
def QTs (es : List Expr) (f : Sg → R Bool) : Prop := PTs X es (tT g X.N.length W M f)
def QA (es : List Expr) (f : Sg → R (List D)) : Prop := PA X es (tA g X.N.length W M f)
def QC (rs : List (Option Nat)) (es : List Expr) (f : Sg → R (List D)) : Prop := PA X es (tCA g X.N.length W M rs f)
def QI (tg e : Expr) (f : Sg → R (D × List D)) : Prop := PI X tg e (tI g X.N.length W M f)
def QP (r : Nat) (e : Expr) (f : Sg → R (List Nat)) : Prop := PE X e (tP g X.N.length W M r f)
def QS (s : Stmt) (f : Sg → R Fl) : Prop := PS X s (tS g X.N.length W M f)
def QSs (s : List Stmt) (f : Sg → R Fl) : Prop := PSs X s (tS g X.N.length W M f)
def QG (xs : List Nat) (tg : Expr) (f : D → Sg → Option Sg) : Prop := PG X tg (tG g X.N.length xs f)
end
section
variable {X : Cx} {g : Gc} {W : WX} {M : List Nat}
theorem qE {e : Expr} {te : TE} {f : Sg → R D} (h : PE X e te) (m : MeanE g X.N.length W M te f) : QE X g W M e f := ⟨fun pins s σ H Q I ⟨Γ, A, r, c, p⟩ => h.run pins s σ H Q I (m Γ A σ H Q r c p)⟩
theorem qT {e : Expr} {te : TT} {f : Sg → R Bool} (h : PT X e te) (m : MeanT g X.N.length W M te f) : QT X g W M e f := ⟨fun pins s σ H Q I ⟨Γ, A, r, c, p⟩ => h.run pins s σ H Q I (m Γ A σ H Q r c p)⟩
theorem qW {e : Expr} {te : TT} {f : Sg → R Bool} (h : PW X e te) (m : MeanT g X.N.length W M te f) : QW X g W M e f := ⟨fun wh pins s σ H Q I ⟨Γ, A, r, c, p⟩ => h.run wh pins s σ H Q I (m Γ A σ H Q r c p)⟩
theorem qTs {e : List Expr} {te : TT} {f : Sg → R Bool} (h : PTs X e te) (m : MeanT g X.N.length W M te f) : QTs X g W M e f := ⟨fun pins s σ H Q I ⟨Γ, A, r, c, p⟩ => h.run pins s σ H Q I (m Γ A σ H Q r c p)⟩
theorem qA {e : List Expr} {te : TA} {f : Sg → R (List D)} (h : PA X e te) (m : MeanA g X.N.length W M te f) : QA X g W M e f := ⟨fun pos pins s σ H Q I ⟨Γ, A, r, c, p⟩ => h.run pos pins s σ H Q I (m Γ A σ H Q r c p)⟩
theorem qC {rs : List (Option Nat)} {e : List Expr} {te : TA} {f : Sg → R (List D)} (h : PA X e te) (m : MeanC g X.N.length W rs M te f) : QC X g W M rs e f := ⟨fun pos pins s σ H Q I ⟨Γ, A, r, c, p⟩ => h.run pos pins s σ H Q I (m Γ A σ H Q r c p)⟩
theorem qI {tg e : Expr} {te : TI} {f : Sg → R (D × List D)} (h : PI X tg e te) (m : MeanI g X.N.length W M te f) : QI X g W M tg e f := ⟨fun pins s σ H Q I ⟨Γ, A, r, c, p⟩ => h.run pins s σ H Q I (m Γ A σ H Q r c p)⟩
theorem qP {r : Nat} {e : Expr} {te : TE} {f : Sg → R (List Nat)} (h : PE X e te) (m : MeanP g X.N.length W r M te f) : QP X g W M r e f := ⟨fun pins s σ H Q I ⟨Γ, A, r, c, p⟩ => h.run pins s σ H Q I (m Γ A σ H Q r c p)⟩
theorem qS {e : Stmt} {te : TS} {f : Sg → R Fl} (h : PS X e te) (m : MeanS g X.N.length W M te f) : QS X g W M e f := ⟨fun pins s σ H Q I ⟨Γ, A, r, c, p⟩ => h.run pins s σ H Q I (m Γ A σ H Q r c p)⟩
theorem qSs {e : List Stmt} {te : TS} {f : Sg → R Fl} (h : PSs X e te) (m : MeanS g X.N.length W M te f) : QSs X g W M e f := ⟨fun pins s σ H Q I ⟨Γ, A, r, c, p⟩ => h.run pins s σ H Q I (m Γ A σ H Q r c p)⟩
theorem qG {xs : List Nat} {e : Expr} {te : TG} {f : D → Sg → Option Sg} (h : PG X e te) (m : MeanG g X.N.length xs te f) : QG X g xs e f := ⟨fun pins s σ H v u Q I rv ⟨Γ, A, t, S', e1, r, hn, ef, q⟩ => h.run pins s σ H v u Q I rv (by rw [e1]; exact m Γ A t σ H Q S' r hn ef q)⟩
end
theorem CxE.un {X : Cx} {W : WX} (c : CxE X W) : X.A.units + 199 < cLine := by have := c.room.un; omega
theorem CxE.blk {X : Cx} {W : WX} (c : CxE X W) (s : Shared) (H : Hp) (scope : Scope) (env : Env) (fp : List Addr) : CxE (X.blk s H scope env fp) (fun _ _ _ _ => False) :=
  ⟨c.calm, fun u s' ⟨a, B, sI, pins, σ, H, cls, d, e, I, nb, up, sky, na, os, ag, w⟩ => w.elim, c.nd, c.room⟩
theorem CxE.at {X : Cx} {W : WX} (c : CxE X W) (σ : L2.St) : PassesAt (L2.CX X.prog X.w) X σ (WE W σ) :=
  fun pins H s e s' I cx => c.takes e s' (XE.of_call I (fun cls d H' h => h) cx)
def cYes : Sg → R Bool := fun S => .ok true S
theorem mean_yes {g : Gc} {n : Nat} {W : WX} : MeanT g n W [] tYes cYes := fun Γ A σ H Q r c p => p A H r (.refl _ _) rfl
def oAdd (a b : D) : Option D := (dI2 (fun i j => some (.int (i + j))) a b).or (dCat a b)
def fMul (i j : Int) : Option V := if (-(2 ^ 64) < i ∧ i < 2 ^ 64) ∨ (-(2 ^ 64) < j ∧ j < 2 ^ 64) then some (.int (i * j)) else none
def oMul : D → D → Option D := dI2 fMul
def fDiv (i j : Int) : Option V := if 0 < j ∧ j < 1000000000000000000000000000000 then some (.int (i / j)) else none
def oDiv : D → D → Option D := dI2 fDiv
def fMod (i j : Int) : Option V := if 0 < j then some (.int (i % j)) else none
def oMod : D → D → Option D := dI2 fMod
def fPow (i j : Int) : Option V := if 0 ≤ j ∧ j ≤ 1000000 ∧ i.natAbs < 2 ^ 64 then some (.int (i ^ j.toNat)) else none
def oPow : D → D → Option D := dI2 fPow
def oLt : D → D → Option D := dI2 fun i j => some (.bl (decide (i < j)))
def oGt : D → D → Option D := dI2 fun i j => some (.bl (decide (j < i)))
def oGe : D → D → Option D := dI2 fun i j => some (.bl (decide (j ≤ i)))
def oEq : D → D → Option D := fun a b => (eqD a b).map fun k => .im (.bl k)
def oNe : D → D → Option D := fun a b => (eqD a b).map fun k => .im (.bl (!k))
def oIx : D → D → Option D := fun a b => (dIx a b).or (dDGet a b)
/-- an operator's rule, with its meaning -/
def BinM (X : Cx) (g : Gc) (op : Operator) (f : D → D → Option D) : Prop := ∃ r : R2, OpR X (binaryOp op) r ∧ OpM g X.N.length r f
def CmpM (X : Cx) (g : Gc) (op : CmpOp) (f : D → D → Option D) : Prop := ∃ r : R2, OpR X (compareOp op) r ∧ OpM g X.N.length r f
section
variable {Mz : List Nat} {X : Cx} {g : Gc} {W : WX} {M M1 M2 M3 M4 : List Nat} {a b c e o : Expr} {es : List Expr} {pos p apos p2 : Pos} {fa fb fc fe : Sg → R D} {ft fu : Sg → R Bool} {fr : Sg → R (List D)}
/-! names and constants -/
theorem sd_var (i : Nat) {x : Str} (hN : X.N[i]? = some x := by rfl) (hv : Vis X.env.scope x := by first | exact Or.inl rfl | exact Or.inr (Or.inl rfl) | exact Or.inr (Or.inr rfl)) (hd : (x == ("__debug__" : Str)) = false := by decide)
    (hcd : (x == ("__classdict__" : Str)) = false := by decide) : QE X g W [] (.Name x pos) (cVar i) := qE (pe_var hN hv hd hcd) (mean_var i)
theorem sd_mv (i : Nat) {x : Str} (hN : X.N[i]? = some x := by rfl) (hv : Vis X.env.scope x := by first | exact Or.inl rfl | exact Or.inr (Or.inl rfl) | exact Or.inr (Or.inr rfl)) (hd : (x == ("__debug__" : Str)) = false := by decide)
    (hcd : (x == ("__classdict__" : Str)) = false := by decide) : QE X g W [i] (.Name x pos) (cMv i) := qE (pe_var hN hv hd hcd) (mean_mv i)
theorem sd_int {i : Int} {j} : QE X g W [] (.Constant (.int i) j pos) (cLit (.int i)) := qE pe_int (mean_lit _)
theorem sd_bl {i : Bool} {j} : QE X g W [] (.Constant (.bool i) j pos) (cLit (.bl i)) := qE pe_bl (mean_lit _)
theorem sd_non {j} : QE X g W [] (.Constant .none j pos) (cLit .non) := qE pe_non (mean_lit _)
theorem sd_str {x : Str} {j} : QE X g W [] (.Constant (.str x) j pos) (cLit (.str x)) := qE pe_str (mean_lit _)
/-! operators -/
theorem sd_op {op : Operator} {f : D → D → Option D} (ho : BinM X g op f) (ha : QE X g W M1 a fa) (hb : QE X g W M2 b fb) (hMz : Mz = (M1 ++ M2) := by rfl) : QE X g W Mz (.BinOp a op b pos) (cTwo M2 fa fb f) := by
  subst hMz
  exact (let ⟨_, h1, h2⟩ := ho; qE (pe_op h1 ha hb) (mean_two mn_E mn_E h2))
theorem bm_add : BinM X g .Add oAdd := ⟨_, op_add.or op_cat, opm_int0.or opm_cat⟩
theorem bm_mul : BinM X g .Mult oMul := ⟨_, op_mul, opm_int fun i j v h => by
    unfold fMul at h
    split at h
    · rename_i hc; cases h; exact ⟨hc, rfl⟩
    · cases h⟩
theorem bm_fdiv : BinM X g .FloorDiv oDiv := ⟨_, op_fdivW, opm_int fun i j v h => by
    unfold fDiv at h
    split at h
    · rename_i hc; cases h; exact ⟨wide_div (b := 100) hc.1 (Nat.lt_of_lt_of_le (show j.natAbs < 1000000000000000000000000000000 by have := hc.2; omega) (by decide)) (by decide) (by decide), rfl⟩
    · cases h⟩
theorem bm_mod : BinM X g .Mod oMod := ⟨_, op_mod, opm_int fun i j v h => by
    unfold fMod at h
    split at h
    · rename_i hc; cases h; exact ⟨hc, rfl⟩
    · cases h⟩
theorem bm_pow : BinM X g .Pow oPow := ⟨_, op_pow, opm_int fun i j v h => by
    unfold fPow at h
    split at h
    · rename_i hc; cases h; exact ⟨hc, rfl⟩
    · cases h⟩
theorem sd_neg (ha : QE X g W M1 a fa) : QE X g W M1 (.UnaryOp .USub a pos) (cOne fa dNeg) := qE (pe_un un_neg ha) (mean_one mn_E unm_neg)
/-! comparisons -/
theorem cm_lt : CmpM X g .Lt oLt := ⟨_, op_lt, opm_int0⟩
theorem cm_gt : CmpM X g .Gt oGt := ⟨_, op_gt, opm_int0⟩
theorem cm_ge : CmpM X g .GtE oGe := ⟨_, op_ge, opm_int0⟩
theorem cm_eq (c : CxE X W) : CmpM X g .Eq oEq := ⟨_, op_eqD (by have := c.un; omega), opm_eq⟩
theorem cm_ne (c : CxE X W) : CmpM X g .NotEq oNe := ⟨_, op_neD (by have := c.un; omega), opm_ne⟩
theorem sd_cmp {op : CmpOp} {f : D → D → Option D} (h : CmpM X g op f) (ha : QE X g W M1 a fa) (hb : QE X g W M2 b fb) (hm : behindInMarks op b = false := by first | exact nobehind _ (by decide) (by decide) | rfl) (hMz : Mz = (M1 ++ M2) := by rfl) : QE X g W Mz (.Compare a [op] [b] pos) (cTwo M2 fa fb f) := by
  subst hMz
  exact (let ⟨_, h1, h2⟩ := h; qE (pe_cmpR h1 ha hb hm) (mean_two mn_E mn_E h2))
theorem sdt_cmp {op : CmpOp} {f : D → D → Option D} (h : CmpM X g op f) (ha : QE X g W M1 a fa) (hb : QE X g W M2 b fb) (hm : behindInMarks op b = false := by first | exact nobehind _ (by decide) (by decide) | rfl) (hMz : Mz = (M1 ++ M2) := by rfl) : QT X g W Mz (.Compare a [op] [b] pos) (cTest (cTwo M2 fa fb f) dBool) := by
  subst hMz
  exact (let ⟨_, h1, h2⟩ := h; qT (pt_cmpR h1 ha hb hm) (mean_test (mean_two mn_E mn_E h2) tsm_bool))
/-! tests -/
theorem sdt_val (ha : QE X g W M1 a fa) (he : ∀ whole, isTrue a X.env whole = (do let v ← whole; standAt a.pos; holding [v] (truthy v)) := by intro _; rfl) : QT X g W M1 a (cTest fa dTru) :=
  qT (pt_truth ha he) (mean_test mn_E tsm_tru)
theorem sdt_not (ha : QT X g W M1 a ft) : QT X g W M1 (.UnaryOp .Not a pos) (cNot ft) := qT (pt_not ha) (mean_not mn_T)
theorem sdw_and1 (ha : QT X g W M1 a ft) : QW X g W M1 (.BoolOp .And [a] pos) ft := qW (pw_and1 ha) mn_T
theorem sdw_or1 (ha : QT X g W M1 a ft) : QW X g W M1 (.BoolOp .Or [a] pos) ft := qW (pw_or1 ha) mn_T
theorem sdw_and (ha : QT X g W M1 a ft) (hb : QW X g W M2 (.BoolOp .And (b :: es) pos) fu) (hMz : Mz = (M1 ++ M2) := by rfl) : QW X g W Mz (.BoolOp .And (a :: b :: es) pos) (cAnd ft fu) := by
  subst hMz
  exact (qW (pw_and ha hb) (mean_and mn_T mn_T))
theorem sdw_or (ha : QT X g W M1 a ft) (hb : QW X g W M2 (.BoolOp .Or (b :: es) pos) fu) (hMz : Mz = (M1 ++ M2) := by rfl) : QW X g W Mz (.BoolOp .Or (a :: b :: es) pos) (cOr ft fu) := by
  subst hMz
  exact (qW (pw_or ha hb) (mean_or mn_T mn_T))
theorem sdt_w (h : QW X g W M1 a ft) : QT X g W M1 a ft := qT h.pt mn_T
theorem sd_not (ha : QE X g W M1 a fa) : QE X g W M1 (.UnaryOp .Not a pos) (cOne fa dNot) := qE (pe_not ha) (mean_notV mn_E)
/-! arguments, displays -/
theorem sda_nil : QA X g W [] [] cNil := qA pa_nil mean_nil
theorem sda_cons (ha : QE X g W M1 a fa) (hr : QA X g W M2 es fr) (hs : starEach (a :: es) X.env = (false, eval a X.env) :: starEach es X.env := by rfl) (hMz : Mz = (M1 ++ M2) := by rfl) : QA X g W Mz (a :: es) (cCons M2 fa fr) := by
  subst hMz
  exact (qA (pa_cons ha hr hs) (mean_cons mn_E mn_A))
theorem sd_lst (h : QA X g W M1 es fr) : QE X g W M1 (.List es pos) (cMany fr dLst) := qE (pe_lst h) (mean_lst mn_A)
theorem sd_tup {k} (h : QA X g W M1 es fr) : QE X g W M1 (.Tuple es k pos) (cMany fr dTup) := qE (pe_tup h) (mean_tup mn_A)
theorem sd_ix (cx : CxE X W) (ha : QE X g W M1 a fa) (hb : QE X g W M2 b fb) (hs : PlainIx b := by intro _ _; rfl) (hMz : Mz = (M1 ++ M2) := by rfl) : QE X g W Mz (.Subscript a b pos) (cTwo M2 fa fb oIx) := by
  subst hMz
  exact (qE (pe_ix ((ix_list.or ix_tup).or (ix_dget (by have := cx.un; omega))) ha hb hs) (mean_two mn_E mn_E (opm_ix.or opm_dget)))
/-! fields -/
end
end Lin
end
section
namespace Lin
open PySem L2
/-- a def of the module, as its meaning -/
def Df (P : Program) (w : World) (K : PySem.W.Frag) (mg : Str → Option Value) (base : Heap) (g : Gc) (x : Str) (ps : List Str) (k : Nat) (mr : List Bool) (sem : FSem) : Prop :=
  ∃ f fd, FnOk P w K mg base (L2.CX P w) k f fd ps (spOf g mr sem) ∧ mg x = some (.ref f) ∧ PySem.W.keepIn K (.ref f) = true ∧ Binds K fd ps []
/-- a method of class c -/
def Dm (P : Program) (w : World) (K : PySem.W.Frag) (mg : Str → Option Value) (base : Heap) (g : Gc) (c : Nat) (m : Str) (ps : List Str) (k : Nat) (mr : List Bool) (sem : FSem) : Prop :=
  ∃ f fd, FnOk P w K mg base (L2.CX P w) k f fd ps (spOf g mr sem) ∧ Cls K (g.cl c) ∧ Meth K (g.cl c) m f ∧ Binds K fd ps []
/-- a class's constructor -/
def Dk (P : Program) (w : World) (K : PySem.W.Frag) (mg : Str → Option Value) (base : Heap) (g : Gc) (c : Nat) (x : Str) (ps : List Str) (k : Nat) (mr : List Bool) (sem : FSem) : Prop :=
  ∃ f fd, FnOk P w K mg base (L2.CX P w) k f fd ps (spOf g mr sem) ∧ Mk K (g.cl c) f ∧ mg x = some (.ref (g.cl c)) ∧ Binds K fd ps []
/-- a built-in function or type, called -/
def BuF (X : Cx) (g : Gc) (v : Value) (op : List D → Option D) : Prop := ∃ r, CallR X v r ∧ CaM g X.N.length r op
section
variable {Mz : List Nat} {X : Cx} {g : Gc} {W : WX} {M M1 M2 M3 M4 : List Nat} {a b c e o tg iter : Expr} {es : List Expr} {pos p apos p2 pos' : Pos} {fa fb fc fe : Sg → R D} {ft fu : Sg → R Bool} {fr : Sg → R (List D)} {rs : List (Option Nat)} {x m : Str} {ps : List Str} {k : Nat} {mr : List Bool} {sem : FSem} {cn : Nat} {f1 f2 : Sg → R Fl} {st : Stmt} {sts sts' : List Stmt}
theorem sdc_nil : QC X g W [] [] [] cNil := qC pa_nil meanc_nil
theorem sdc_val (ha : QE X g W M1 a fa) (hr : QC X g W M2 rs es fr) (hs : starEach (a :: es) X.env = (false, eval a X.env) :: starEach es X.env := by rfl) (hMz : Mz = (M1 ++ M2) := by rfl) : QC X g W Mz (none :: rs) (a :: es) (cCons M2 fa fr) := by
  subst hMz
  exact (qC (pa_cons ha hr hs) (meanc_val mn_E mn_C))
theorem sdc_ref (r : Nat) {y : Str} (hr : QC X g W M2 rs es fr) (hm : r ∉ M2 := by decide) (hN : X.N[r]? = some y := by rfl) (hv : Vis X.env.scope y := by first | exact Or.inl rfl | exact Or.inr (Or.inl rfl) | exact Or.inr (Or.inr rfl)) (hd : (y == ("__debug__" : Str)) = false := by decide)
    (hcd : (y == ("__classdict__" : Str)) = false := by decide) (hs : starEach (.Name y pos :: es) X.env = (false, eval (.Name y pos) X.env) :: starEach es X.env := by rfl) (hMz : Mz = ([r] ++ M2) := by rfl) : QC X g W Mz (some r :: rs) (.Name y pos :: es) (cRefs r fr) := by
  subst hMz
  exact (qC (pa_cons (pe_var hN hv hd hcd) hr hs) (meanc_ref mn_C hm))
theorem sd_call (cx : CxE X W) (F : Df X.prog X.w X.K X.mg X.base g x ps k (rs.map Option.isSome) sem) (hr : Room k X.A) (ha : QC X g W M1 rs (e :: es) fr) (hM : ∀ r ∈ rs.filterMap id, r ∈ M1 := by decide) (hnd : (rs.filterMap id).Nodup := by decide) (hg : Gl X x := by rfl) (hdb : (x == ("__debug__" : Str)) = false := by decide)
    (he : starEach (e :: es) X.env = (false, eval e X.env) :: starEach es X.env := by rfl) (hpl : (backTo pos (starEach es X.env)).any (·.1) = false := by rfl) : QE X g W M1 (.Call (.Name x p) (e :: es) [] pos) (cCall rs fr sem) :=
  let ⟨_, _, h1, h2, h3, h4⟩ := F; qE (pe_callS h1 hr hg h2 h3 h4 cx.at ha hdb he hpl) (mean_call mn_C hM hnd)
/-! built-ins -/
theorem sd_callB {id : String} {op : List D → Option D} (hb : BuF X g (.builtin id) op) (ha : QA X g W M1 (e :: es) fr) (hm : X.mg x = none) (hv : bootBuiltins x = some (.builtin id) := by rfl) (hg : Gl X x := by rfl) (hn : x ≠ "__name__" := by decide) (hdb : (x == ("__debug__" : Str)) = false := by decide)
    (he : starEach (e :: es) X.env = (false, eval e X.env) :: starEach es X.env := by rfl) (hpl : (backTo pos (starEach es X.env)).any (·.1) = false := by rfl) : QE X g W M1 (.Call (.Name x p) (e :: es) [] pos) (cMany fr op) :=
  let ⟨_, h1, h2⟩ := hb; qE (pe_callB h1 hg hm hv ha hn hdb he hpl) (mean_many mn_A h2)
theorem sd_callTy {id : String} {op : List D → Option D} (hb : BuF X g (.type id) op) (ha : QA X g W M1 (e :: es) fr) (hm : X.mg x = none) (hv : bootBuiltins x = some (.type id) := by rfl) (hg : Gl X x := by rfl) (hn : x ≠ "__name__" := by decide) (hdb : (x == ("__debug__" : Str)) = false := by decide)
    (he : starEach (e :: es) X.env = (false, eval e X.env) :: starEach es X.env := by rfl) (hpl : (backTo pos (starEach es X.env)).any (·.1) = false := by rfl) : QE X g W M1 (.Call (.Name x p) (e :: es) [] pos) (cMany fr op) :=
  let ⟨_, h1, h2⟩ := hb; qE (pe_callTy h1 hg hm hv ha hn hdb he hpl) (mean_many mn_A h2)
def bLen : List D → Option D := fun ds => (immV vLen ds).or (immV vLenD ds)
def bAbs : List D → Option D := immV (vInt1 fun i => .int (if i < 0 then -i else i))
def bList : List D → Option D := fun ds => (dListOf ds).or (dListD ds)
theorem bu_len : BuF X g (.builtin "len") bLen := ⟨_, call_len_seq.or call_lenD, cam_len.or cam_lenD⟩
theorem bu_abs : BuF X g (.builtin "abs") bAbs := ⟨_, call_abs, cam_int1⟩
theorem bu_any (cx : CxE X W) : BuF X g (.builtin "any") (immV vAny) := ⟨_, cr_any cx.calm, cam_any⟩
theorem bu_int : BuF X g (.type "int") (immV vToInt) := ⟨_, call_int1, cam_toInt⟩
theorem bu_list (cx : CxE X W) : BuF X g (.type "list") bList := ⟨_, call_list_of.or (call_listZ cx.calm), cam_listOf.or cam_listD⟩
theorem sd_lstRg1 {p1 p3 : Pos} (cx : CxE X W) (ha : QE X g W M1 a fa) (hl : X.mg "list" = none) (hr : X.mg "range" = none) (hg1 : Gl X "list" := by rfl) (hg2 : Gl X "range" := by rfl) (na : starEach [a] X.env = (false, eval a X.env) :: starEach [] X.env := by rfl)
    (nb : starEach [.Call (.Name "range" p1) [a] [] p3] X.env = (false, eval (.Call (.Name "range" p1) [a] [] p3) X.env) :: starEach [] X.env := by rfl) : QE X g W M1 (.Call (.Name "list" p) [.Call (.Name "range" p1) [a] [] p3] [] pos) (cOne fa dRg1) :=
  qE (pe_listRg cx.calm hg1 hl (prg_1 hg2 hr ha na) nb) (mean_lstRg1 mn_E)
/-! paths, methods of lists -/
theorem sdp_var (r : Nat) {y : Str} (hN : X.N[r]? = some y := by rfl) (hv : Vis X.env.scope y := by first | exact Or.inl rfl | exact Or.inr (Or.inl rfl) | exact Or.inr (Or.inr rfl)) (hd : (y == ("__debug__" : Str)) = false := by decide)
    (hcd : (y == ("__classdict__" : Str)) = false := by decide) : QP X g W [] r (.Name y pos) (pVar r) := qP (pe_var hN hv hd hcd) (meanp_var r)
theorem sd_bm {r : Nat} {fp : Sg → R (List Nat)} {id : String} {rr : V → List V → Hp → VK → Prop} {op : Sh → List D → List D → Option (Sh × List D × D)} (slot : PySem.Slot "list" m id) (hty : typeOf (.builtin id) = pure (.type "method_descriptor")) (hm : MtR X id rr) (ho : MuM g rr op) (hp : QP X g W M1 r o fp) (ha : QA X g W M2 (e :: es) fr)
    (hbase : attributeBase o m X.env (eval o X.env) = eval o X.env := by rfl)
    (hfew : ((backTo pos (starEach (e :: es) X.env)).all (fun x => !x.1) && (backToKw pos (keywordEach [] X.env)).all (fun x => x.1.isSome)
      && decide ((e :: es).length + ([] : List Keyword).length + (if ([] : List Keyword).isEmpty then 0 else 1) < 30)) = true := by rfl)
    (hline : (apos.endLine == pos.line) = true := by rfl) (hs : starEach (e :: es) X.env = (false, eval e X.env) :: starEach es X.env := by rfl) (hplain : (backTo pos (starEach es X.env)).any (·.1) = false := by rfl) (hMz : Mz = (M1 ++ M2 ++ [r]) := by rfl) : QE X g W Mz (.Call (.Attribute o m apos) (e :: es) [] pos) (cMutM isLst r M2 fp fr op) := by
  subst hMz
  exact (qE (pe_bm PySem.F.plainAttrs_list slot hty hm hp ha hbase hfew hline hs hplain) (mean_mutM mn_P mn_A ho fun H k a dx s vs h e => lst_ty h e))
theorem sd_append {r : Nat} {fp : Sg → R (List Nat)} (hp : QP X g W M1 r o fp) (ha : QA X g W M2 [e] fr)
    (hbase : attributeBase o "append" X.env (eval o X.env) = eval o X.env := by rfl)
    (hfew : ((backTo pos (starEach [e] X.env)).all (fun x => !x.1) && (backToKw pos (keywordEach [] X.env)).all (fun x => x.1.isSome)
      && decide ([e].length + ([] : List Keyword).length + (if ([] : List Keyword).isEmpty then 0 else 1) < 30)) = true := by rfl)
    (hline : (apos.endLine == pos.line) = true := by rfl) (hs : starEach [e] X.env = (false, eval e X.env) :: starEach [] X.env := by rfl) (hMz : Mz = (M1 ++ M2 ++ [r]) := by rfl) : QE X g W Mz (.Call (.Attribute o "append" apos) [e] [] pos) (cMutM isLst r M2 fp fr mAppend) := by
  subst hMz
  exact (sd_bm PySem.F.slot_list_append PySem.F.type_list_append mt_append mum_append hp ha hbase hfew hline hs rfl)
theorem sd_popAt {r : Nat} {fp : Sg → R (List Nat)} (hp : QP X g W M1 r o fp) (ha : QA X g W M2 [e] fr)
    (hbase : attributeBase o "pop" X.env (eval o X.env) = eval o X.env := by rfl)
    (hfew : ((backTo pos (starEach [e] X.env)).all (fun x => !x.1) && (backToKw pos (keywordEach [] X.env)).all (fun x => x.1.isSome)
      && decide ([e].length + ([] : List Keyword).length + (if ([] : List Keyword).isEmpty then 0 else 1) < 30)) = true := by rfl)
    (hline : (apos.endLine == pos.line) = true := by rfl) (hs : starEach [e] X.env = (false, eval e X.env) :: starEach [] X.env := by rfl) (hMz : Mz = (M1 ++ M2 ++ [r]) := by rfl) : QE X g W Mz (.Call (.Attribute o "pop" apos) [e] [] pos) (cMutM isLst r M2 fp fr mPopAt) := by
  subst hMz
  exact (sd_bm PySem.F.slot_list_pop PySem.F.type_list_pop mt_popAt mum_popAt hp ha hbase hfew hline hs rfl)
/-! targets, iterables, comprehensions -/
theorem sdg_name (z : Bool) (i : Nat) {y : Str} (cx : X.N.Nodup) (hi : X.N[i]? = some y := by rfl) (hx : Loc X.env.scope y := by first | exact Or.inl rfl | exact Or.inr rfl) (hf : X.fn y = true ∨ X.env.scope.names.lookup y = some .local := by first | exact .inl rfl | exact .inr rfl) : QG X g [i] (.Name y pos) (gSet z i) :=
  qG (pg_name cx hi hx hf) (meang_name (List.getElem?_eq_some_iff.mp hi).1)
theorem sdi_list (ha : QE X g W M1 a fa) : QI X g W M1 tg a (iSeq fa .lst) := qI (pi_list ha) (meani_list mn_E)
theorem sdi_rng1 (ha : QA X g W M1 [a] fr) (hm : X.mg "range" = none) (hg : Gl X "range" := by rfl) (hs : starEach [a] X.env = [(false, eval a X.env)] := by rfl) : QI X g W M1 tg (.Call (.Name "range" p) [a] [] pos) (iRng1F fr) := qI (pi_range1 hg hm ha hs) (meani_rng1 mn_A)
theorem sdts_nil : QTs X g W [] [] cYes := qTs pts_nil mean_yes
theorem sd_lc {ifs : List Expr} {scope : Scope} (own : List (Str × Nat)) {fi : Sg → R (D × List D)} {tf : D → Sg → Option Sg} (cx : CxE X W) (hi : QI X g W M1 tg iter fi) (ok : BlkOk X.N X.env.scope scope own)
    (hg : ∀ (s : Shared) (H : Hp) (C : Addr) (cl : List (Str × Addr)) (fp : List Addr), CxE (X.blk s H scope (compEnvC scope cl C X.env) fp) (fun _ _ _ _ => False) → QG (X.blk s H scope (compEnvC scope cl C X.env) fp) g (own.map (·.2)) tg tf)
    (ht : ∀ (s : Shared) (H : Hp) (C : Addr) (cl : List (Str × Addr)) (fp : List Addr), CxE (X.blk s H scope (compEnvC scope cl C X.env) fp) (fun _ _ _ _ => False) → QTs (X.blk s H scope (compEnvC scope cl C X.env) fp) g (fun _ _ _ _ => False) M2 ifs ft)
    (he : ∀ (s : Shared) (H : Hp) (C : Addr) (cl : List (Str × Addr)) (fp : List Addr), CxE (X.blk s H scope (compEnvC scope cl C X.env) fp) (fun _ _ _ _ => False) → QE (X.blk s H scope (compEnvC scope cl C X.env) fp) g (fun _ _ _ _ => False) M3 a fa)
    (hs : ∀ x, foldedSetIterable iter X.env x = pure x := by intro _; rfl) (hMz : Mz = (M1 ++ (M2 ++ M3) ++ own.map (·.2)) := by rfl) : QE X g W Mz (.ListComp a [⟨tg, iter, ifs, 0⟩] scope pos) (cLc (own.map (·.2)) (M2 ++ M3) tf fi ft fa) := by
  subst hMz
  exact (qE (pe_lc (g := tG g X.N.length (own.map Prod.snd) tf) (tt := tT g X.N.length (fun _ _ _ _ => False) M2 ft) (te := tE g X.N.length (fun _ _ _ _ => False) M3 fa) cx.calm cx.nd hi ok (fun s H C cl fp => hg s H C cl fp (cx.blk ..)) (fun s H C cl fp => ht s H C cl fp (cx.blk ..)) (fun s H C cl fp => he s H C cl fp (cx.blk ..)) hs) (mean_lc (fun x hx => by
    obtain ⟨q, hq, rfl⟩ := List.mem_map.mp hx
    exact (List.getElem?_eq_some_iff.mp (ok.ix q hq)).1) mn_I mn_G mn_T mn_E))
/-! statements -/
theorem sds_set (z : Bool) (i : Nat) {y : Str} (cx : X.N.Nodup) (he : QE X g W M1 e fe) (hi : X.N[i]? = some y := by rfl) (hx : Loc X.env.scope y := by first | exact Or.inl rfl | exact Or.inr rfl) (hs : swapsWith e (some (.Name y pos')) pos.line X.env = pure false := by rfl)
    (hf : X.fn y = true ∨ X.env.scope.names.lookup y = some .local := by first | exact .inl rfl | exact .inr rfl) (hMz : Mz = (M1 ++ [i].map (X.N.length + ·)) := by rfl) : QS X g W Mz (.Assign [.Name y pos'] e pos) (cAsg (gSet z i) fe) := by
  subst hMz
  exact (qS (ps_set cx hi hx he hs hf) (mean_asg mn_E (meang_name (List.getElem?_eq_some_iff.mp hi).1)))
def oSet (s : Sh) (ds : List D) (i v : D) : Option (Sh × List D) := (sLst s ds i v).or (sDic s ds i v)
theorem sds_setAt {r : Nat} {fp : Sg → R (List Nat)} (cx : CxE X W) (he : QE X g W M1 e fe) (hp : QP X g W M2 r o fp) (hi : QE X g W M3 b fb) (hs : swapsWithSole [.Subscript o b pos'] e pos.line X.env = pure false := by rfl) (hw : swappedStores [.Subscript o b pos'] e X.env = pure none := by rfl)
    (h1 : (assignEach [.Subscript o b pos'] X.env).map (·.2) = [assign (.Subscript o b pos') X.env] := by rfl)
    (ha : ∀ v, assign (.Subscript o b pos') X.env v = (do
      let ov ← holding [v] (eval o X.env)
      let iv ← holding [v, ov] (eval b X.env)
      standAt pos'
      holding [v, ov, iv] (setItem ov iv v)
      release [v, ov, iv] []) := by intro _; rfl) (hMz : Mz = (M1 ++ (M2 ++ M3) ++ [r]) := by rfl) : QS X g W Mz (.Assign [.Subscript o b pos'] e pos) (cSetAt r (M2 ++ M3) fe fp fb oSet) := by
  subst hMz
  exact (qS (ps_asg he (pg_sub hp hi (PSet.or set_list (pset_dict (by have := cx.un; omega))) ha) hs hw h1) (mean_setAt mn_E mn_P mn_E (stm_lst.or stm_dic)))
theorem sds_expr (he : QE X g W M1 e fe) (hs : swapsWith e none pos.line X.env = pure false := by rfl) : QS X g W M1 (.Expr e pos) (cExpr fe) := qS (ps_expr he hs) (mean_expr mn_E)
theorem sds_ret (he : QE X g W M1 e fe) : QS X g W M1 (.Return (some e) pos) (cRet fe) := qS (ps_ret he) (mean_ret mn_E)
theorem sds_if (hc : QT X g W M1 c ft) (h1 : QSs X g W M2 sts f1) (h2 : QSs X g W M3 sts' f2) (hMz : Mz = (M1 ++ (M2 ++ M3)) := by rfl) : QS X g W Mz (.If c sts sts' pos) (cIf ft f1 f2) := by
  subst hMz
  exact (qS (ps_if hc h1 h2) (mean_if mn_T mn_S mn_S))
theorem sds_for {xs : List Nat} {fi : Sg → R (D × List D)} {tf : D → Sg → Option Sg} (cx : CxS X W) (hi : QI X g W M1 tg iter fi) (hg : QG X g xs tg tf) (hb : QSs X g W M2 sts f1) (hs : ∀ x, foldedSetIterable iter X.env x = pure x := by intro _; rfl) (hMz : Mz = (M1 ++ (xs.map (X.N.length + ·) ++ M2)) := by rfl) : QS X g W Mz (.For tg iter sts [] pos) (cFor M2 tf fi f1) := by
  subst hMz
  exact (qS (ps_for cx.pass cx.calm hi hg hb hs) (mean_for mn_I mn_G mn_S))
theorem sdb_nil : QSs X g W [] [] cNext := qSs pss_nil mean_next
theorem sdb_one (h : QS X g W M1 st f1) : QSs X g W M1 [st] f1 := qSs (pss_one h) mn_S
theorem sdb_cons (h1 : QS X g W M1 st f1) (h2 : QSs X g W M2 sts f2) (hMz : Mz = (M1 ++ M2) := by rfl) : QSs X g W Mz (st :: sts) (cSeq f1 f2) := by
  subst hMz
  exact (qSs (pss_cons h1 h2) (mean_seq mn_S mn_S))
end
/-! ### defs -/
section
variable {P : Program} {w : World} {K : PySem.W.Frag} {mg : Str → Option Value} {base : Heap} {g : Gc}
theorem cx_ok {N ps : List Str} {sc : Scope} (S : FnScope N ps sc) {qual : Str} {f : Addr} {cdv : Value} {A : Around} {outer : List Env} {s : Shared} {H : Hp} {E : XK} {k : Nat} (hr : Room k (A.deeper (PyProof.Rows.envOfC qual sc s.heap.objs.size f cdv))) :
    CxS (cxOf (L2.CX P w) P w K mg base N qual sc f cdv A outer s H E) (fun cls d _ H => E cls d H) :=
  ⟨⟨rfl, takes_of rfl rfl rfl rfl, S.nd, hr.mono (Nat.zero_le _)⟩, passes_of rfl⟩
theorem def_ok {x qual : Str} {st : Stmt} {f : Addr} {fd : FuncData} {N ps : List Str} {k : Nat} (hph : ∀ Γ, g.ph Γ) (M : List Nat) {fb : Sg → R Fl} (F : Fun K x qual st f fd) (S : FnScope N ps (defScope st)) (mr : List Bool) (hmr : mr.length = ps.length) (hM : ∀ i : Nat, mr[i]? = some true → N.length + i ∉ M)
    (hb : ∀ (cdv : Value) (A : Around) (outer : List Env) (s : Shared) (H : Hp) (E : XK), Room k (A.deeper (PyProof.Rows.envOfC qual (defScope st) s.heap.objs.size f cdv)) →
      CxS (cxOf (L2.CX P w) P w K mg base N qual (defScope st) f cdv A outer s H E) (fun cls d _ H => E cls d H) →
      QSs (cxOf (L2.CX P w) P w K mg base N qual (defScope st) f cdv A outer s H E) g (fun cls d _ H => E cls d H) M (defBody st) fb) :
    FnOk P w K mg base (L2.CX P w) (k + 1) f fd ps (spOf g mr (semOf N.length mr fb)) :=
  fn_ok hph F S mr hmr hM fun cdv A outer s H E hr => ⟨_, hb cdv A outer s H E hr (cx_ok S hr), mn_S⟩
end
end Lin
end
section
namespace Lin
open PySem L2
theorem keep_of {mr : List Bool} {n : Nat} {M : List Nat} (h : (mr.zipIdx.all fun p => !p.1 || !M.contains (n + p.2)) = true) : ∀ i : Nat, mr[i]? = some true → n + i ∉ M := by
  intro i hi hm
  rw [List.all_eq_true] at h
  have := h (true, i) (by
    rw [List.mem_iff_getElem?]
    exact ⟨i, by rw [List.getElem?_zipIdx, hi]; simp⟩)
  simp [hm] at this
/-! ### a slot by reference that the arguments behind it use too -/
section
variable {g : Gc} {n : Nat} {W : WX} {Γ : Gh} {A A' A'' B : List (Option T)} {σ : L2.St} {H H' : Hp} {t : T} {M M1 M2 M3 Mz : List Nat}
end
/-! ### the script -/
def bListS (sa : Option Addr) (ns : List Int) (ds : List D) : Option D := match ds with
  | [.nd _ .scr _] => some (intsD ns)
  | [.im (.ref b)] => if sa = some b then some (intsD ns) else none
  | _ => none
/-- what list(script) needs: known to the heap, or one of the module's own objects -/
structure ScrOk (K : PySem.W.Frag) (g : Gc) (sa : Option Addr) (ns : List Int) : Prop where
  h : ∀ (H : Hp) (b : Addr), H b = some g.scr → SqL K H b (ns.map V.int)
  k : ∀ b, sa = some b → ∀ H : Hp, SqL K H b (ns.map V.int)
  nd : ¬ IsD g.scr
theorem cam_listS {K : PySem.W.Frag} {g : Gc} {n : Nat} {sa : Option Addr} {ns : List Int} (hS : ScrOk K g sa ns) : CaM g n (fun xs H Q => ∃ p ys, xs = [V.ref p] ∧ (SqL K H p ys ∨ SqT K H p ys) ∧ ∀ l, H l = none → Q (.ref l) (upd H l (.lst ys))) (bListS sa ns) := by
  intro Γ A ts σ H Q d Rr hn eo hq
  unfold bListS at eo
  split at eo
  · rename_i k xs q
    obtain ⟨t, rfl, q'⟩ := er1 q
    obtain ⟨a, dx, us, rfl, h1⟩ := er_nd q'
    cases eo
    exact ⟨a, _, rfl, .inl (hS.h H a (Rr.top1.flat hS.nd)), fun p hp => hq _ _ (Rr.newInts hn hp ns) (intsD_er _ _)⟩
  · rename_i b q
    obtain ⟨t, rfl, q'⟩ := er1 q
    split at eo
    · rename_i hb
      cases eo
      rw [er_im q'] at Rr ⊢
      exact ⟨b, _, rfl, .inl (hS.k b hb H), fun p hp => hq _ _ (Rr.newInts hn hp ns) (intsD_er _ _)⟩
    · cases eo
  · cases eo
theorem bu_listS {X : Cx} {g : Gc} {sa : Option Addr} {ns : List Int} (hS : ScrOk X.K g sa ns) : BuF X g (.type "list") (bListS sa ns) := ⟨_, call_list_of, cam_listS hS⟩
/-! ### the law -/
def spScr (K : PySem.W.Frag) (T : List (Addr × Str)) : Sp := fun vs H Q _ => ∃ (a : Addr) (ns : List Int), vs = [.ref a] ∧ SqL K H a (ns.map V.int) ∧ LamX.Tabs T H ∧ ns.length ≤ 63 ∧ (∀ z ∈ ns, Builtin.Int.intBits z ≤ 1048576) ∧ ∀ H', Q (.bl true) H'
theorem sane_frz (o : Obj) (xs : List V) : Sane (.frz o (.lst xs)) := ⟨(fun ps z => nomatch z), (fun c q z => by unfold LamX.CodeO at z; cases z), fun b u z q => by cases z; exact q⟩
theorem sane_lst (xs : List V) : Sane (.lst xs) := ⟨(fun ps z => nomatch z), (fun c q z => by unfold LamX.CodeO at z; cases z), fun b u z => nomatch z⟩
theorem law_fin {P : Program} {w : World} {K : PySem.W.Frag} {mg : Str → Option Value} {base : Heap} {k : Nat} {f : Addr} {fd : FuncData} {x : Str} (cl : Nat → Addr) (T : List (Addr × Str)) {m : Option Addr → List Int → FSem}
    (F : ∀ (scr : HO) (hs : Sane scr) (sa : Option Addr) (ns : List Int), ScrOk K ⟨cl, scr, fun _ => True, T, hs⟩ sa ns → FnOk P w K mg base (L2.CX P w) k f fd [x] (spOf ⟨cl, scr, fun _ => True, T, hs⟩ [false] (m sa ns)))
    (hp : ∀ sa ns d, ns.length ≤ 63 → (∀ z ∈ ns, Builtin.Int.intBits z ≤ 1048576) → (d = .nd .frz .scr [] ∨ ∃ b, sa = some b ∧ d = .im (.ref b)) → m sa ns [d] = .ok (.im (.bl true)) []) :
    FnOk P w K mg base (L2.CX P w) k f fd [x] (spScr K T) := by
  have key : ∀ vs H Q E, spScr K T vs H Q E → ∃ sp', FnOk P w K mg base (L2.CX P w) k f fd [x] sp' ∧ sp' vs H Q E := by
    rintro vs H Q E ⟨a, ns, rfl, hS, hT, hl, hb, hq⟩
    have mk : ∀ (scr : HO) (hs0 : Sane scr) (sa : Option Addr) (t : Lin.T), ScrOk K ⟨cl, scr, fun _ => True, T, hs0⟩ sa ns → t.root = .ref a → (t.er = .nd .frz .scr [] ∨ ∃ b, sa = some b ∧ t.er = .im (.ref b)) → (∀ c ∈ t.cells ⟨cl, scr, fun _ => True, T, hs0⟩, H c.2.1 = some c.2.2) → (∀ c ∈ t.cells ⟨cl, scr, fun _ => True, T, hs0⟩, c.1 = .frz) →
        ∃ sp', FnOk P w K mg base (L2.CX P w) k f fd [x] sp' ∧ sp' [.ref a] H Q E := fun scr hs0 sa t hs hr he hh hf => by
      have hc : ∀ c ∈ cellsL ⟨cl, scr, fun _ => True, T, hs0⟩ [t], c ∈ t.cells ⟨cl, scr, fun _ => True, T, hs0⟩ := fun c h => by simpa [cellsL] using h
      refine ⟨_, F scr hs0 sa ns hs, [t], by simp [hr], ⟨rfl, fun c h => .inl (hh c (hc c h)), fun i u hu c h => ?_, ?_, fun c h d _ ho => ?_, hT⟩, ?_⟩
      · cases i with
        | zero => have : t = u := by simpa using hu
                  subst this; exact .inl (hf c h)
        | succ i => simp at hu
      · have : ownsC (cellsL ⟨cl, scr, fun _ => True, T, hs0⟩ [t]) = [] := owns_none fun c h => by rw [hf c (hc c h)]; simp
        rw [this]; exact List.nodup_nil
      · rw [hf c (hc c h)] at ho; cases ho
      · have e := hp sa ns t.er hl hb he
        rw [List.map_cons, List.map_nil, e]
        intro H' t' us _ et _
        rw [er_im et]
        exact hq H'
    rcases hS with (h1 | ⟨o, h1⟩) | h1
    · refine mk (.lst (ns.map V.int)) (sane_lst _) none (.nd a .frz .scr 0 []) ⟨fun H b e => .inl (.inl e), fun b e => (nomatch e), id⟩ rfl (.inl rfl) (fun c h => ?_) (fun c h => ?_)
      · have : c = (.frz, a, .lst (ns.map V.int)) := by simpa [kz, Lin.T.cells, cellsL, ho] using h
        rw [this]; exact h1
      · have : c = (.frz, a, .lst (ns.map V.int)) := by simpa [kz, Lin.T.cells, cellsL, ho] using h
        rw [this]
    · refine mk (.frz o (.lst (ns.map V.int))) (sane_frz _ _) none (.nd a .frz .scr 0 []) ⟨fun H b e => .inl (.inr ⟨o, e⟩), fun b e => (nomatch e), id⟩ rfl (.inl rfl) (fun c h => ?_) (fun c h => ?_)
      · have : c = (.frz, a, .frz o (.lst (ns.map V.int))) := by simpa [kz, Lin.T.cells, cellsL, ho] using h
        rw [this]; exact h1
      · have : c = (.frz, a, .frz o (.lst (ns.map V.int))) := by simpa [kz, Lin.T.cells, cellsL, ho] using h
        rw [this]
    · exact mk (.frz default (.lst (ns.map V.int))) (sane_frz _ _) (some a) (.im (.ref a)) ⟨fun H b e => .inl (.inr ⟨_, e⟩), fun b e H => by cases e; exact .inr h1, id⟩ rfl (.inr ⟨a, rfl, rfl⟩) (fun c h => by simp [Lin.T.cells] at h) (fun c h => by simp [Lin.T.cells] at h)
  refine ⟨fun vs H Q E h => ?_, fun A outer s H args us vs Q E hr e0 hb r hsp => ?_⟩
  · obtain ⟨a, ns, rfl, _⟩ := h; rfl
  · obtain ⟨_, F', q⟩ := key vs H Q E hsp
    exact F'.run A outer s H args us vs Q E hr e0 hb r q
theorem law_walk {l : PySem.W.OpenLaw} {k : Nat} {x : Str} {q : Program} {loose : List Str} {XP : (Str → Option Value) → Heap → Prop} {YP : World → Heap → Prop} {d : DefRec} {K : Params → PySem.W.Frag} (hn : l.most = some 63) (hdf : d.params.defaults = []) (hr : Room k callerA)
    (hY : ∀ (w : World) (h : Heap), YP w h → (K w.params).In h)
    (F : ∀ (w : World) (mg : Str → Option Value) (fa : Addr) (h : Heap), (K w.params).In h → h.Ns mainGlobals mg → mg d.name = some (.ref fa) →
      ∃ fd : FuncData, (∀ (s : Shared) (u : Value), BindsTo s fd ⟨[u], []⟩ [(x, u)]) ∧ ∀ base : Heap, (K w.params).In base → base.Ns mainGlobals mg → FnOk l.prog w (K w.params) mg base (L2.CX l.prog w) k fa fd [x] (spScr (K w.params) [])) :
    PySem.W.WalkO q loose XP YP l.row.toRowW d [] (fun f vs => PySem.call f vs) :=
  L2.walk_ofB (n := 63) (k := k) (x := x) (CX := fun w => L2.CX l.prog w) (sp := fun w => spScr (K w.params) []) hn (by decide) hdf hr hY F (fun _ H a ns hl hb hO hS => ⟨a, ns, rfl, hS, (fun p hp => nomatch hp), hl, hb, fun _ => rfl⟩) fun _ _ _ _ _ ⟨_, _, _, _, _, _, _, _, _, _, _, _, z⟩ => z
end Lin
end
section
namespace Lin.V0
open PySem L2 Lin
/-! ### the plain side: what a meaning gives, by a wish behind it -/
/-- what is wished of an error -/
abbrev EX := Nat → D → Sg → Prop
abbrev EC := Nat → D → List D → Prop
def OkE {α : Type} (E : EX) (x : R α) (Q : α → Sg → Prop) : Prop := match x with
  | .ok a S => Q a S
  | .exc c d S => E c d S
  | .bad => False
def OkCE (E : EC) (x : Rc) (Q : D → List D → Prop) : Prop := match x with
  | .ok d ms => Q d ms
  | .exc c d ms => E c d ms
  | .bad => False
def E0 : EX := fun _ _ _ => False
def EC0 : EC := fun _ _ _ => False
abbrev Ok {α : Type} (x : R α) (Q : α → Sg → Prop) : Prop := OkE E0 x Q
abbrev OkC (x : Rc) (Q : D → List D → Prop) : Prop := OkCE EC0 x Q
def So {α : Type} (x : Option α) (Q : α → Prop) : Prop := match x with
  | some a => Q a
  | none => False
def OkF (Q : Fl → Sg → Prop) (K : Sg → Prop) : Fl → Sg → Prop := fun fl S => match fl with
  | .nx => K S
  | fl => Q fl S
section
variable {α β : Type} {E : EX} {Ec : EC}
theorem ok_ok {a : α} {S : Sg} {Q : α → Sg → Prop} : OkE E (.ok a S) Q = Q a S := rfl
theorem so_some {a : α} {Q : α → Prop} : So (some a) Q = Q a := rfl
theorem so_none {Q : α → Prop} : So none Q = False := rfl
theorem ok_bind {x : R α} {f : α → Sg → R β} {Q : β → Sg → Prop} : OkE E (x.bind f) Q = OkE E x fun a S => OkE E (f a S) Q := by cases x <;> rfl
theorem ok_lift {o : Option α} {S : Sg} {Q : α → Sg → Prop} : OkE E (R.lift o S) Q = So o fun a => Q a S := by cases o <;> rfl
theorem Ok.mono {x : R α} {Q Q' : α → Sg → Prop} (h : OkE E x Q) (m : ∀ a S, Q a S → Q' a S) : OkE E x Q' := by
  cases x with
  | ok a S => exact m a S h
  | exc c d S => exact h
  | bad => exact h
theorem OkC.mono {x : Rc} {Q Q' : D → List D → Prop} (h : OkCE Ec x Q) (m : ∀ d ms, Q d ms → Q' d ms) : OkCE Ec x Q' := by
  cases x with
  | ok a S => exact m a S h
  | exc c d S => exact h
  | bad => exact h
theorem OkE.mono {x : R α} {Q Q' : α → Sg → Prop} (h : OkE E x Q) (m : ∀ a S, Q a S → Q' a S) : OkE E x Q' := Ok.mono h m
theorem OkCE.mono {x : Rc} {Q Q' : D → List D → Prop} (h : OkCE Ec x Q) (m : ∀ d ms, Q d ms → Q' d ms) : OkCE Ec x Q' := OkC.mono h m
theorem Ok.get {x : R α} {Q : α → Sg → Prop} (h : Ok x Q) : ∃ a S, x = .ok a S ∧ Q a S := by
  cases x with
  | ok a S => exact ⟨a, S, rfl, h⟩
  | exc c d S => exact False.elim h
  | bad => exact False.elim h
theorem OkC.get {x : Rc} {Q : D → List D → Prop} (h : OkC x Q) : ∃ d ms, x = .ok d ms ∧ Q d ms := by
  cases x with
  | ok a S => exact ⟨a, S, rfl, h⟩
  | exc c d S => exact False.elim h
  | bad => exact False.elim h
theorem So.get {x : Option α} {Q : α → Prop} (h : So x Q) : ∃ a, x = some a ∧ Q a := by
  cases x with
  | some a => exact ⟨a, rfl, h⟩
  | none => exact False.elim h
theorem So.mono {x : Option α} {Q Q' : α → Prop} (h : So x Q) (m : ∀ a, Q a → Q' a) : So x Q' := by
  cases x with
  | some a => exact m a h
  | none => exact h
end
section
variable {E : EX} {Ec : EC} {S : Sg} {Q : D → Sg → Prop} {QB : Bool → Sg → Prop} {QL : List D → Sg → Prop} {QF : Fl → Sg → Prop} {fa fb fc fe : Sg → R D} {ft fu : Sg → R Bool} {fr : Sg → R (List D)} {f h : Sg → R Fl} {M M2 : List Nat}
theorem ok_var {i : Nat} : OkE E (cVar i S) Q = So (S[i]?) fun o => So o fun d => Q (d.mk (kBo i)) S := by
  unfold cVar
  rcases e : S[i]? with _ | _ | d <;> rfl
theorem ok_mv {i : Nat} : OkE E (cMv i S) Q = So (S[i]?) fun o => So o fun d => if hasBor i d = true then False else Q d ((S.map (killD i)).set i none) := by
  unfold cMv
  rcases e : S[i]? with _ | _ | d
  · rfl
  · rfl
  · show OkE E (if hasBor i d then R.bad else _) Q = if hasBor i d = true then False else _
    split <;> rfl
theorem ok_lit {v : V} : OkE E (cLit v S) Q = Q (.im v) S := rfl
theorem ok_two {op : D → D → Option D} : OkE E (cTwo M2 fa fb op S) Q = OkE E (fa S) fun da S1 => if cleanD M2 da = true then OkE E (fb S1) fun db S2 => So (op da db) fun d => Q d S2 else False := by
  unfold cTwo
  rw [ok_bind]
  congr; funext da S1
  split
  · rw [ok_bind]; congr; funext db S2; rw [ok_lift]
  · rfl
theorem ok_one {op : D → Option D} : OkE E (cOne fa op S) Q = OkE E (fa S) fun da S1 => So (op da) fun d => Q d S1 := by
  unfold cOne
  rw [ok_bind]; congr; funext da S1; rw [ok_lift]
theorem ok_test {op : D → Option Bool} : OkE E (cTest fa op S) QB = OkE E (fa S) fun da S1 => So (op da) fun d => QB d S1 := by
  unfold cTest
  rw [ok_bind]; congr; funext da S1; rw [ok_lift]
theorem ok_nil : OkE E (cNil S) QL = QL [] S := rfl
theorem ok_cons : OkE E (cCons M2 fa fr S) QL = OkE E (fa S) fun da S1 => if cleanD M2 da = true then OkE E (fr S1) fun ds S2 => QL (da :: ds) S2 else False := by
  unfold cCons
  rw [ok_bind]; congr; funext da S1
  split
  · rw [ok_bind]; rfl
  · rfl
theorem ok_many {op : List D → Option D} : OkE E (cMany fr op S) Q = OkE E (fr S) fun ds S1 => So (op ds) fun d => Q d S1 := by
  unfold cMany
  rw [ok_bind]; congr; funext da S1; rw [ok_lift]
theorem ok_and : OkE E (cAnd ft fu S) QB = OkE E (ft S) fun b S1 => if b = true then OkE E (fu S1) QB else QB false S1 := by
  unfold cAnd
  rw [ok_bind]; congr; funext b S1; cases b <;> rfl
theorem ok_or : OkE E (cOr ft fu S) QB = OkE E (ft S) fun b S1 => if b = true then QB true S1 else OkE E (fu S1) QB := by
  unfold cOr
  rw [ok_bind]; congr; funext b S1; cases b <;> rfl
theorem ok_not : OkE E (cNot ft S) QB = OkE E (ft S) fun b S1 => QB (!b) S1 := by
  unfold cNot
  rw [ok_bind]; rfl
theorem ok_next : OkE E (cNext S) QF = QF .nx S := rfl
theorem ok_seq : OkE E (cSeq f h S) QF = OkE E (f S) (OkF QF fun S1 => OkE E (h S1) QF) := by
  unfold cSeq
  rw [ok_bind]; congr; funext fl S1; cases fl <;> rfl
theorem okF_nx {K : Sg → Prop} : OkF QF K .nx S = K S := rfl
theorem okF_ret {K : Sg → Prop} {d : D} : OkF QF K (.ret d) S = QF (.ret d) S := rfl
theorem okF_brk {K : Sg → Prop} : OkF QF K .brk S = QF .brk S := rfl
theorem okF_cnt {K : Sg → Prop} : OkF QF K .cnt S = QF .cnt S := rfl
theorem ok_if : OkE E (cIf ft f h S) QF = OkE E (ft S) fun b S1 => if b = true then OkE E (f S1) QF else OkE E (h S1) QF := by
  unfold cIf
  rw [ok_bind]; congr; funext b S1; cases b <;> rfl
theorem ok_ret : OkE E (cRet fa S) QF = OkE E (fa S) fun d S1 => QF (.ret d) S1 := by unfold cRet; rw [ok_bind]; rfl
theorem ok_expr : OkE E (cExpr fa S) QF = OkE E (fa S) fun _ S1 => QF .nx S1 := by unfold cExpr; rw [ok_bind]; rfl
theorem ok_asg {tg : D → Sg → Option Sg} : OkE E (cAsg tg fa S) QF = OkE E (fa S) fun d S1 => So (tg d S1) fun S2 => QF .nx S2 := by
  unfold cAsg
  rw [ok_bind]; congr; funext d S1; cases tg d S1 <;> rfl
theorem so_gset {z : Bool} {i : Nat} {d : D} {Q : Sg → Prop} : So (gSet z i d S) Q = Q (S.set i (some (fzIf z d))) := rfl
theorem ok_pvar {r : Nat} {Q : List Nat → Sg → Prop} : OkE E (pVar r S) Q = So (S[r]?) fun o => So o fun _ => Q [] S := by
  unfold pVar
  rcases e : S[r]? with _ | _ | d <;> rfl
theorem ok_setAt {r : Nat} {fp : Sg → R (List Nat)} {op : Sh → List D → D → D → Option (Sh × List D)} : OkE E (cSetAt r M2 fe fp fb op S) QF = OkE E (fe S) fun v S1 => if cleanD M2 v = true ∧ hasBor r v = false then OkE E (fp S1) fun p S2 => if r ∈ M2 then False else OkE E (fb S2) fun i S3 => if hasBor r i = false then
    So (nodeAt (S3.map (killD r)) r p) fun d => match d with
      | .nd .own s ds => So (op s ds i v) fun q => So ((S3.map (killD r))[r]?) fun o => So o fun d => QF .nx ((S3.map (killD r)).set r (some (d.put p (.nd .own q.1 q.2))))
      | _ => False
    else False else False := by
  unfold cSetAt
  rw [ok_bind]; congr; funext v S1
  split
  · rw [ok_bind]; congr; funext p S2
    split
    · rfl
    · rw [ok_bind]; congr; funext i S3
      split
      · rcases nodeAt (S3.map (killD r)) r p with _ | d
        · rfl
        · cases d with
          | im v => rfl
          | nd k s ds =>
            cases k with
            | own =>
              simp only [so_some]
              rcases op s ds i v with _ | ⟨s', ds'⟩
              · rfl
              · rcases e : (S3.map (killD r))[r]? with _ | _ | d <;> simp [so_some, so_none, e, OkE, So]
            | _ => rfl
      · rfl
  · rfl
theorem ok_mutM {okS : Sh → Bool} {r : Nat} {fp : Sg → R (List Nat)} {op : Sh → List D → List D → Option (Sh × List D × D)} : OkE E (cMutM okS r M2 fp fr op S) Q = OkE E (fp S) fun p S1 => if r ∈ M2 ∨ nodeOk okS S1 r p = false then False else OkE E (fr S1) fun us S2 =>
    if us.all (fun d => !hasBor r d) = true then So (nodeAt (S2.map (killD r)) r p) fun d => match d with
      | .nd .own s ds => So (op s ds us) fun q => So ((S2.map (killD r))[r]?) fun o => So o fun d => Q q.2.2 ((S2.map (killD r)).set r (some (d.put p (.nd .own q.1 q.2.1))))
      | _ => False
    else False := by
  unfold cMutM
  rw [ok_bind]; congr; funext p S1
  split
  · rfl
  · rw [ok_bind]; congr; funext us S2
    split
    · rcases nodeAt (S2.map (killD r)) r p with _ | d
      · rfl
      · cases d with
        | im v => rfl
        | nd k s ds =>
          cases k with
          | own =>
            simp only [so_some]
            rcases op s ds us with _ | ⟨s', ds', res⟩
            · rfl
            · rcases e : (S2.map (killD r))[r]? with _ | _ | d <;> simp [so_some, so_none, e, OkE, So]
          | _ => rfl
    · rfl
theorem ok_call {rs : List (Option Nat)} {sem : FSem} : OkE E (cCall rs fr sem S) Q = OkE E (fr S) fun ds S1 => if (List.zip rs ds).all (fun p => p.1.isNone || ofD p.2) = true ∧ ds.length = rs.length then OkCE (fun c d ms => E c d (backS rs ms S1)) (sem (argsD rs ds)) fun d ms => Q d (backS rs ms S1) else False := by
  unfold cCall
  rw [ok_bind]; congr; funext ds S1
  by_cases h1 : (List.zip rs ds).all (fun p => p.1.isNone || ofD p.2) = true
  · rw [if_pos h1]
    unfold callR
    by_cases h2 : ds.length = rs.length
    · rw [if_pos h2, if_pos ⟨h1, h2⟩]
      cases sem (argsD rs ds) <;> rfl
    · rw [if_neg h2, if_neg fun z => h2 z.2]; rfl
  · rw [if_neg h1, if_neg fun z => h1 z.1]; rfl
theorem ok_refs {r : Nat} : OkE E (cRefs r fr S) QL = OkE E (cMv r S) fun d S1 => if ofD d = true then OkE E (fr S1) fun ds S2 => QL (d :: ds) S2 else False := by
  unfold cRefs
  rw [ok_bind]; congr; funext d S1
  split
  · rw [ok_bind]; rfl
  · rfl
theorem ok_for {tg : D → Sg → Option Sg} {fi : Sg → R (D × List D)} : OkE E (cFor M tg fi f S) QF = OkE E (fi S) fun p S1 => if cleanD M p.1 = true then OkE E (forL tg f p.2 S1) QF else False := by
  unfold cFor
  rw [ok_bind]; congr; funext p S1; split <;> rfl
theorem ok_forCons {tg : D → Sg → Option Sg} {d : D} {r : List D} : OkE E (forL tg f (d :: r) S) QF = So (tg d S) fun S0 => OkE E (f S0) fun fl S1 => match fl with
      | .nx => OkE E (forL tg f r S1) QF
      | .cnt => OkE E (forL tg f r S1) QF
      | .brk => QF .nx S1
      | .ret d => QF (.ret d) S1 := by
  rw [forL]
  cases tg d S with
  | none => rfl
  | some S0 =>
    show OkE E (R.bind _ _) QF = OkE E _ _
    rw [ok_bind]; congr; funext fl S1; cases fl <;> rfl
/-- a loop's invariant -/
theorem forL_inv {tg : D → Sg → Option Sg} (Inv : Nat → Sg → Prop) (ds : List D) (QF : Fl → Sg → Prop) (hb : ∀ (i : Nat) d S, ds[i]? = some d → Inv i S → So (tg d S) fun S0 => OkE E (f S0) fun fl S1 => match fl with
      | .nx => Inv (i + 1) S1
      | .cnt => Inv (i + 1) S1
      | .brk => QF .nx S1
      | .ret d => QF (.ret d) S1) (hz : ∀ S, Inv ds.length S → QF .nx S) (h0 : Inv 0 S) : OkE E (forL tg f ds S) QF := by
  have key : ∀ (rest : List D) (i : Nat) (S : Sg), ds.drop i = rest → i ≤ ds.length → Inv i S → OkE E (forL tg f rest S) QF := by
    intro rest
    induction rest with
    | nil =>
      intro i S e hi hv
      have : i = ds.length := by
        have := List.drop_eq_nil_iff.mp e; omega
      subst this
      exact hz S hv
    | cons d r ih =>
      intro i S e hi hv
      have hd : ds[i]? = some d := by
        have := congrArg List.head? e
        rw [List.head?_drop] at this; exact this
      have hlt : i < ds.length := (List.getElem?_eq_some_iff.mp hd).1
      have er : ds.drop (i + 1) = r := by
        rw [← List.tail_drop, e]; rfl
      rw [ok_forCons]
      refine (hb i d S hd hv).mono fun S0 h0 => h0.mono fun fl S1 h1 => ?_
      cases fl with
      | nx => exact ih (i + 1) S1 er hlt h1
      | cnt => exact ih (i + 1) S1 er hlt h1
      | brk => exact h1
      | ret d => exact h1
  exact key ds 0 S rfl (Nat.zero_le _) h0
theorem ok_iseq {s : Sh} {Q : D × List D → Sg → Prop} : OkE E (iSeq fa s S) Q = OkE E (fa S) fun d S1 => match d with
    | .nd k s' ds => if s' = s then Q (D.mk kFz (.nd k s' ds), ds.map (D.mk kFz)) S1 else False
    | _ => False := by
  unfold iSeq
  rw [ok_bind]; congr; funext d S1
  cases d with
  | im v => rfl
  | nd k s' ds => by_cases hh : s' = s <;> simp [hh, OkE]
theorem ok_yes : OkE E (cYes S) QB = QB true S := rfl
/-- a comprehension: its items by an invariant of the rest of the state -/
theorem ok_lc {xs Me : List Nat} {tg : D → Sg → Option Sg} {fi : Sg → R (D × List D)} : OkE E (cLc xs Me tg fi ft fe S) Q = OkE E (fi S) fun p S1 => if cleanD Me p.1 = true then Ok (lcL xs Me tg ft fe p.2 (wipeS xs S1) []) fun ds S2 => Q (.nd .own .lst ds) S2 else False := by
  unfold cLc
  rw [ok_bind]; congr; funext p S1
  split
  · cases lcL xs Me tg ft fe p.2 (wipeS xs S1) [] <;> rfl
  · rfl
theorem lcL_inv {xs Me : List Nat} {tg : D → Sg → Option Sg} (Inv : Nat → Sg → List D → Prop) (ds : List D) (QL : List D → Sg → Prop)
    (hb : ∀ (i : Nat) d S acc, ds[i]? = some d → Inv i S acc → So (tg d S) fun S0 => Ok (ft S0) fun b S1 => if b = true then Ok (fe S1) fun y S2 => (acc.length < sizeLine ∧ cleanD Me y = true) ∧ Inv (i + 1) (wipeS xs S2) (acc ++ [y]) else Inv (i + 1) (wipeS xs S1) acc)
    (hz : ∀ S acc, Inv ds.length S acc → QL acc S) (h0 : Inv 0 S []) : Ok (lcL xs Me tg ft fe ds S []) QL := by
  have key : ∀ (rest : List D) (i : Nat) (S : Sg) (acc : List D), ds.drop i = rest → i ≤ ds.length → Inv i S acc → Ok (lcL xs Me tg ft fe rest S acc) QL := by
    intro rest
    induction rest with
    | nil =>
      intro i S acc e hi hv
      have : i = ds.length := by
        have := List.drop_eq_nil_iff.mp e; omega
      subst this
      exact hz S acc hv
    | cons d r ih =>
      intro i S acc e hi hv
      have hd : ds[i]? = some d := by
        have := congrArg List.head? e
        rw [List.head?_drop] at this; exact this
      have hlt : i < ds.length := (List.getElem?_eq_some_iff.mp hd).1
      have er : ds.drop (i + 1) = r := by
        rw [← List.tail_drop, e]; rfl
      rw [lcL]
      obtain ⟨S0, e0, h1⟩ := (hb i d S acc hd hv).get
      rw [e0]
      obtain ⟨b, S1, e1, h2⟩ := h1.get
      dsimp only
      rw [e1]
      dsimp only
      cases b with
      | false => exact ih (i + 1) _ acc er hlt h2
      | true =>
        rw [if_pos rfl] at h2 ⊢
        obtain ⟨y, S2, e2, h3, h4⟩ := h2.get
        rw [e2]
        dsimp only
        rw [if_pos h3]
        exact ih (i + 1) _ _ er hlt h4
  exact key ds 0 S [] rfl (Nat.zero_le _) h0
theorem okC_sem {n : Nat} {mr : List Bool} {ds : List D} {Qc : D → List D → Prop} : OkCE Ec (semOf n mr f ds) Qc = OkE (fun c d S => OkCE Ec (fin mr d S (.exc c)) Qc) (f (ds.map some ++ List.replicate (n - ds.length) none)) fun fl S => match fl with
    | .nx => OkCE Ec (fin mr (.im .non) S .ok) Qc
    | .ret d => OkCE Ec (fin mr d S .ok) Qc
    | _ => False := by
  unfold semOf
  cases f (ds.map some ++ List.replicate (n - ds.length) none) with
  | ok fl S => cases fl <;> rfl
  | exc c d S => rfl
  | bad => rfl
theorem okC_finx {mr : List Bool} {c : Nat} {d : D} {Qc : D → List D → Prop} : OkCE Ec (fin mr d S (.exc c)) Qc = So (usOf mr S) fun ms => if (ofD (d.mk (kRet mr)) && ms.all ofD) = true then Ec c (d.mk (kRet mr)) ms else False := by
  unfold fin
  cases usOf mr S with
  | none => rfl
  | some ms => show OkCE Ec (if _ then _ else _) Qc = if _ then _ else _; split <;> rfl
theorem okC_fin {mr : List Bool} {d : D} {Qc : D → List D → Prop} : OkCE Ec (fin mr d S .ok) Qc = So (usOf mr S) fun ms => if (ofD (d.mk (kRet mr)) && ms.all ofD) = true then Qc (d.mk (kRet mr)) ms else False := by
  unfold fin
  cases usOf mr S with
  | none => rfl
  | some ms => show OkCE Ec (if _ then _ else _) Qc = if _ then _ else _; split <;> rfl
end
end Lin.V0
end
section
namespace Lin
open PySem L2
/-! the plain side, its wishes closed against unfolding -/
structure Tag {β : Type} (q : β) : Type where
abbrev EX := V0.EX
abbrev EC := V0.EC
structure OkE {α : Type} (E : EX) (x : R α) (Q : α → Sg → Prop) (t : Tag (E, Q) := ⟨⟩) : Prop where
  out : V0.OkE E x Q
structure OkCE (E : EC) (x : Rc) (Q : D → List D → Prop) (t : Tag (E, Q) := ⟨⟩) : Prop where
  out : V0.OkCE E x Q
structure So {α : Type} (x : Option α) (Q : α → Prop) (t : Tag Q := ⟨⟩) : Prop where
  out : V0.So x Q
abbrev NoX : EX := V0.E0
abbrev NoC : EC := V0.EC0
abbrev OkF := V0.OkF
theorem ok_def {α : Type} {E : EX} {x : R α} {Q : α → Sg → Prop} : OkE E x Q = V0.OkE E x Q := propext ⟨fun h => h.out, fun h => ⟨h⟩⟩
theorem okC_def {Ec : EC} {x : Rc} {Q : D → List D → Prop} : OkCE Ec x Q = V0.OkCE Ec x Q := propext ⟨fun h => h.out, fun h => ⟨h⟩⟩
theorem so_def {α : Type} {x : Option α} {Q : α → Prop} : So x Q = V0.So x Q := propext ⟨fun h => h.out, fun h => ⟨h⟩⟩
section
variable {α β : Type} {E : EX} {Ec : EC}
theorem ok_ok {a : α} {S : Sg} {Q : α → Sg → Prop} : OkE E (.ok a S) Q = Q a S := by
  first
    | (simp only [ok_def, okC_def, so_def]; exact V0.ok_ok)
    | exact V0.ok_ok
theorem so_some {a : α} {Q : α → Prop} : So (some a) Q = Q a := by
  first
    | (simp only [ok_def, okC_def, so_def]; exact V0.so_some)
    | exact V0.so_some
theorem so_none {Q : α → Prop} : So none Q = False := by
  first
    | (simp only [ok_def, okC_def, so_def]; exact V0.so_none)
    | exact V0.so_none
theorem ok_bind {x : R α} {f : α → Sg → R β} {Q : β → Sg → Prop} : OkE E (x.bind f) Q = OkE E x fun a S => OkE E (f a S) Q := by
  first
    | (simp only [ok_def, okC_def, so_def]; exact V0.ok_bind)
    | exact V0.ok_bind
theorem ok_lift {o : Option α} {S : Sg} {Q : α → Sg → Prop} : OkE E (R.lift o S) Q = So o fun a => Q a S := by
  first
    | (simp only [ok_def, okC_def, so_def]; exact V0.ok_lift)
    | exact V0.ok_lift
theorem Ok.mono {x : R α} {Q Q' : α → Sg → Prop} (h : OkE E x Q) (m : ∀ a S, Q a S → Q' a S) : OkE E x Q' := by
  first
    | (simp only [ok_def, okC_def, so_def] at h ⊢; exact V0.Ok.mono h m)
    | (simp only [ok_def, okC_def, so_def] at h; exact V0.Ok.mono h)
theorem OkC.mono {x : Rc} {Q Q' : D → List D → Prop} (h : OkCE Ec x Q) (m : ∀ d ms, Q d ms → Q' d ms) : OkCE Ec x Q' := by
  first
    | (simp only [ok_def, okC_def, so_def] at h ⊢; exact V0.OkC.mono h m)
    | (simp only [ok_def, okC_def, so_def] at h; exact V0.OkC.mono h)
theorem OkE.mono {x : R α} {Q Q' : α → Sg → Prop} (h : OkE E x Q) (m : ∀ a S, Q a S → Q' a S) : OkE E x Q' := Ok.mono h m
theorem OkCE.mono {x : Rc} {Q Q' : D → List D → Prop} (h : OkCE Ec x Q) (m : ∀ d ms, Q d ms → Q' d ms) : OkCE Ec x Q' := OkC.mono h m
theorem OkE.get {x : R α} {Q : α → Sg → Prop} (h : OkE NoX x Q) : ∃ a S, x = .ok a S ∧ Q a S := by
  first
    | (simp only [ok_def, okC_def, so_def] at h ⊢; exact V0.Ok.get h)
    | (simp only [ok_def, okC_def, so_def] at h; exact V0.Ok.get h)
theorem OkCE.get {x : Rc} {Q : D → List D → Prop} (h : OkCE NoC x Q) : ∃ d ms, x = .ok d ms ∧ Q d ms := by
  first
    | (simp only [ok_def, okC_def, so_def] at h ⊢; exact V0.OkC.get h)
    | (simp only [ok_def, okC_def, so_def] at h; exact V0.OkC.get h)
theorem So.get {x : Option α} {Q : α → Prop} (h : So x Q) : ∃ a, x = some a ∧ Q a := by
  first
    | (simp only [ok_def, okC_def, so_def] at h ⊢; exact V0.So.get h m)
    | (simp only [ok_def, okC_def, so_def] at h; exact V0.So.get h)
theorem So.mono {x : Option α} {Q Q' : α → Prop} (h : So x Q) (m : ∀ a, Q a → Q' a) : So x Q' := by
  first
    | (simp only [ok_def, okC_def, so_def] at h ⊢; exact V0.So.mono h m)
    | (simp only [ok_def, okC_def, so_def] at h; exact V0.So.mono h)
end
section
variable {E : EX} {Ec : EC} {S : Sg} {Q : D → Sg → Prop} {QB : Bool → Sg → Prop} {QL : List D → Sg → Prop} {QF : Fl → Sg → Prop} {fa fb fc fe : Sg → R D} {ft fu : Sg → R Bool} {fr : Sg → R (List D)} {f h : Sg → R Fl} {M M2 : List Nat}
theorem ok_var {i : Nat} : OkE E (cVar i S) Q = So (S[i]?) fun o => So o fun d => Q (d.mk (kBo i)) S := by
  first
    | (simp only [ok_def, okC_def, so_def]; exact V0.ok_var)
    | exact V0.ok_var
theorem ok_mv {i : Nat} : OkE E (cMv i S) Q = So (S[i]?) fun o => So o fun d => if hasBor i d = true then False else Q d ((S.map (killD i)).set i none) := by
  first
    | (simp only [ok_def, okC_def, so_def]; exact V0.ok_mv)
    | exact V0.ok_mv
theorem ok_lit {v : V} : OkE E (cLit v S) Q = Q (.im v) S := by
  first
    | (simp only [ok_def, okC_def, so_def]; exact V0.ok_lit)
    | exact V0.ok_lit
theorem ok_two {op : D → D → Option D} : OkE E (cTwo M2 fa fb op S) Q = OkE E (fa S) fun da S1 => if cleanD M2 da = true then OkE E (fb S1) fun db S2 => So (op da db) fun d => Q d S2 else False := by
  first
    | (simp only [ok_def, okC_def, so_def]; exact V0.ok_two)
    | exact V0.ok_two
theorem ok_one {op : D → Option D} : OkE E (cOne fa op S) Q = OkE E (fa S) fun da S1 => So (op da) fun d => Q d S1 := by
  first
    | (simp only [ok_def, okC_def, so_def]; exact V0.ok_one)
    | exact V0.ok_one
theorem ok_test {op : D → Option Bool} : OkE E (cTest fa op S) QB = OkE E (fa S) fun da S1 => So (op da) fun d => QB d S1 := by
  first
    | (simp only [ok_def, okC_def, so_def]; exact V0.ok_test)
    | exact V0.ok_test
theorem ok_nil : OkE E (cNil S) QL = QL [] S := by
  first
    | (simp only [ok_def, okC_def, so_def]; exact V0.ok_nil)
    | exact V0.ok_nil
theorem ok_cons : OkE E (cCons M2 fa fr S) QL = OkE E (fa S) fun da S1 => if cleanD M2 da = true then OkE E (fr S1) fun ds S2 => QL (da :: ds) S2 else False := by
  first
    | (simp only [ok_def, okC_def, so_def]; exact V0.ok_cons)
    | exact V0.ok_cons
theorem ok_many {op : List D → Option D} : OkE E (cMany fr op S) Q = OkE E (fr S) fun ds S1 => So (op ds) fun d => Q d S1 := by
  first
    | (simp only [ok_def, okC_def, so_def]; exact V0.ok_many)
    | exact V0.ok_many
theorem ok_and : OkE E (cAnd ft fu S) QB = OkE E (ft S) fun b S1 => if b = true then OkE E (fu S1) QB else QB false S1 := by
  first
    | (simp only [ok_def, okC_def, so_def]; exact V0.ok_and)
    | exact V0.ok_and
theorem ok_or : OkE E (cOr ft fu S) QB = OkE E (ft S) fun b S1 => if b = true then QB true S1 else OkE E (fu S1) QB := by
  first
    | (simp only [ok_def, okC_def, so_def]; exact V0.ok_or)
    | exact V0.ok_or
theorem ok_not : OkE E (cNot ft S) QB = OkE E (ft S) fun b S1 => QB (!b) S1 := by
  first
    | (simp only [ok_def, okC_def, so_def]; exact V0.ok_not)
    | exact V0.ok_not
theorem ok_next : OkE E (cNext S) QF = QF .nx S := by
  first
    | (simp only [ok_def, okC_def, so_def]; exact V0.ok_next)
    | exact V0.ok_next
theorem ok_seq : OkE E (cSeq f h S) QF = OkE E (f S) (OkF QF fun S1 => OkE E (h S1) QF) := by
  first
    | (simp only [ok_def, okC_def, so_def]; exact V0.ok_seq)
    | exact V0.ok_seq
theorem okF_nx {K : Sg → Prop} : OkF QF K .nx S = K S := by
  first
    | (simp only [ok_def, okC_def, so_def]; exact V0.okF_nx)
    | exact V0.okF_nx
theorem okF_ret {K : Sg → Prop} {d : D} : OkF QF K (.ret d) S = QF (.ret d) S := by
  first
    | (simp only [ok_def, okC_def, so_def]; exact V0.okF_ret)
    | exact V0.okF_ret
theorem okF_brk {K : Sg → Prop} : OkF QF K .brk S = QF .brk S := by
  first
    | (simp only [ok_def, okC_def, so_def]; exact V0.okF_brk)
    | exact V0.okF_brk
theorem okF_cnt {K : Sg → Prop} : OkF QF K .cnt S = QF .cnt S := by
  first
    | (simp only [ok_def, okC_def, so_def]; exact V0.okF_cnt)
    | exact V0.okF_cnt
theorem ok_if : OkE E (cIf ft f h S) QF = OkE E (ft S) fun b S1 => if b = true then OkE E (f S1) QF else OkE E (h S1) QF := by
  first
    | (simp only [ok_def, okC_def, so_def]; exact V0.ok_if)
    | exact V0.ok_if
theorem ok_ret : OkE E (cRet fa S) QF = OkE E (fa S) fun d S1 => QF (.ret d) S1 := by
  first
    | (simp only [ok_def, okC_def, so_def]; exact V0.ok_ret)
    | exact V0.ok_ret
theorem ok_expr : OkE E (cExpr fa S) QF = OkE E (fa S) fun _ S1 => QF .nx S1 := by
  first
    | (simp only [ok_def, okC_def, so_def]; exact V0.ok_expr)
    | exact V0.ok_expr
theorem ok_asg {tg : D → Sg → Option Sg} : OkE E (cAsg tg fa S) QF = OkE E (fa S) fun d S1 => So (tg d S1) fun S2 => QF .nx S2 := by
  first
    | (simp only [ok_def, okC_def, so_def]; exact V0.ok_asg)
    | exact V0.ok_asg
theorem so_gset {z : Bool} {i : Nat} {d : D} {Q : Sg → Prop} : So (gSet z i d S) Q = Q (S.set i (some (fzIf z d))) := by
  first
    | (simp only [ok_def, okC_def, so_def]; exact V0.so_gset)
    | exact V0.so_gset
theorem ok_pvar {r : Nat} {Q : List Nat → Sg → Prop} : OkE E (pVar r S) Q = So (S[r]?) fun o => So o fun _ => Q [] S := by
  first
    | (simp only [ok_def, okC_def, so_def]; exact V0.ok_pvar)
    | exact V0.ok_pvar
theorem ok_setAt {r : Nat} {fp : Sg → R (List Nat)} {op : Sh → List D → D → D → Option (Sh × List D)} : OkE E (cSetAt r M2 fe fp fb op S) QF = OkE E (fe S) fun v S1 => if cleanD M2 v = true ∧ hasBor r v = false then OkE E (fp S1) fun p S2 => if r ∈ M2 then False else OkE E (fb S2) fun i S3 => if hasBor r i = false then
    So (nodeAt (S3.map (killD r)) r p) fun d => match d with
      | .nd .own s ds => So (op s ds i v) fun q => So ((S3.map (killD r))[r]?) fun o => So o fun d => QF .nx ((S3.map (killD r)).set r (some (d.put p (.nd .own q.1 q.2))))
      | _ => False
    else False else False := by
  first
    | (simp only [ok_def, okC_def, so_def]; exact V0.ok_setAt)
    | exact V0.ok_setAt
theorem ok_mutM {okS : Sh → Bool} {r : Nat} {fp : Sg → R (List Nat)} {op : Sh → List D → List D → Option (Sh × List D × D)} : OkE E (cMutM okS r M2 fp fr op S) Q = OkE E (fp S) fun p S1 => if r ∈ M2 ∨ nodeOk okS S1 r p = false then False else OkE E (fr S1) fun us S2 =>
    if us.all (fun d => !hasBor r d) = true then So (nodeAt (S2.map (killD r)) r p) fun d => match d with
      | .nd .own s ds => So (op s ds us) fun q => So ((S2.map (killD r))[r]?) fun o => So o fun d => Q q.2.2 ((S2.map (killD r)).set r (some (d.put p (.nd .own q.1 q.2.1))))
      | _ => False
    else False := by
  first
    | (simp only [ok_def, okC_def, so_def]; exact V0.ok_mutM)
    | exact V0.ok_mutM
theorem ok_call {rs : List (Option Nat)} {sem : FSem} : OkE E (cCall rs fr sem S) Q = OkE E (fr S) fun ds S1 => if (List.zip rs ds).all (fun p => p.1.isNone || ofD p.2) = true ∧ ds.length = rs.length then OkCE (fun c d ms => E c d (backS rs ms S1)) (sem (argsD rs ds)) fun d ms => Q d (backS rs ms S1) else False := by
  first
    | (simp only [ok_def, okC_def, so_def]; exact V0.ok_call)
    | exact V0.ok_call
theorem ok_refs {r : Nat} : OkE E (cRefs r fr S) QL = OkE E (cMv r S) fun d S1 => if ofD d = true then OkE E (fr S1) fun ds S2 => QL (d :: ds) S2 else False := by
  first
    | (simp only [ok_def, okC_def, so_def]; exact V0.ok_refs)
    | exact V0.ok_refs
theorem ok_for {tg : D → Sg → Option Sg} {fi : Sg → R (D × List D)} : OkE E (cFor M tg fi f S) QF = OkE E (fi S) fun p S1 => if cleanD M p.1 = true then OkE E (forL tg f p.2 S1) QF else False := by
  first
    | (simp only [ok_def, okC_def, so_def]; exact V0.ok_for)
    | exact V0.ok_for
theorem ok_forCons {tg : D → Sg → Option Sg} {d : D} {r : List D} : OkE E (forL tg f (d :: r) S) QF = So (tg d S) fun S0 => OkE E (f S0) fun fl S1 => match fl with
      | .nx => OkE E (forL tg f r S1) QF
      | .cnt => OkE E (forL tg f r S1) QF
      | .brk => QF .nx S1
      | .ret d => QF (.ret d) S1 := by
  first
    | (simp only [ok_def, okC_def, so_def]; exact V0.ok_forCons)
    | exact V0.ok_forCons
/-- a loop's invariant -/
theorem forL_inv {tg : D → Sg → Option Sg} (Inv : Nat → Sg → Prop) (ds : List D) (QF : Fl → Sg → Prop) (hb : ∀ (i : Nat) d S, ds[i]? = some d → Inv i S → So (tg d S) fun S0 => OkE E (f S0) fun fl S1 => match fl with
      | .nx => Inv (i + 1) S1
      | .cnt => Inv (i + 1) S1
      | .brk => QF .nx S1
      | .ret d => QF (.ret d) S1) (hz : ∀ S, Inv ds.length S → QF .nx S) (h0 : Inv 0 S) : OkE E (forL tg f ds S) QF := by
  simp only [ok_def, okC_def, so_def] at hb ⊢
  exact V0.forL_inv Inv ds QF hb hz h0
theorem ok_iseq {s : Sh} {Q : D × List D → Sg → Prop} : OkE E (iSeq fa s S) Q = OkE E (fa S) fun d S1 => match d with
    | .nd k s' ds => if s' = s then Q (D.mk kFz (.nd k s' ds), ds.map (D.mk kFz)) S1 else False
    | _ => False := by
  first
    | (simp only [ok_def, okC_def, so_def]; exact V0.ok_iseq)
    | exact V0.ok_iseq
theorem ok_yes : OkE E (cYes S) QB = QB true S := by
  first
    | (simp only [ok_def, okC_def, so_def]; exact V0.ok_yes)
    | exact V0.ok_yes
/-- a comprehension: its items by an invariant of the rest of the state -/
theorem ok_lc {xs Me : List Nat} {tg : D → Sg → Option Sg} {fi : Sg → R (D × List D)} : OkE E (cLc xs Me tg fi ft fe S) Q = OkE E (fi S) fun p S1 => if cleanD Me p.1 = true then OkE NoX (lcL xs Me tg ft fe p.2 (wipeS xs S1) []) fun ds S2 => Q (.nd .own .lst ds) S2 else False := by
  first
    | (simp only [ok_def, okC_def, so_def]; exact V0.ok_lc)
    | exact V0.ok_lc
theorem lcL_inv {xs Me : List Nat} {tg : D → Sg → Option Sg} (Inv : Nat → Sg → List D → Prop) (ds : List D) (QL : List D → Sg → Prop)
    (hb : ∀ (i : Nat) d S acc, ds[i]? = some d → Inv i S acc → So (tg d S) fun S0 => OkE NoX (ft S0) fun b S1 => if b = true then OkE NoX (fe S1) fun y S2 => (acc.length < sizeLine ∧ cleanD Me y = true) ∧ Inv (i + 1) (wipeS xs S2) (acc ++ [y]) else Inv (i + 1) (wipeS xs S1) acc)
    (hz : ∀ S acc, Inv ds.length S acc → QL acc S) (h0 : Inv 0 S []) : OkE NoX (lcL xs Me tg ft fe ds S []) QL := by
  simp only [ok_def, okC_def, so_def] at hb ⊢
  exact V0.lcL_inv Inv ds QL hb hz h0
theorem okC_sem {n : Nat} {mr : List Bool} {ds : List D} {Qc : D → List D → Prop} : OkCE Ec (semOf n mr f ds) Qc = OkE (fun c d S => OkCE Ec (fin mr d S (.exc c)) Qc) (f (ds.map some ++ List.replicate (n - ds.length) none)) fun fl S => match fl with
    | .nx => OkCE Ec (fin mr (.im .non) S .ok) Qc
    | .ret d => OkCE Ec (fin mr d S .ok) Qc
    | _ => False := by
  simp only [ok_def, okC_def, so_def]; exact V0.okC_sem
theorem okC_finx {mr : List Bool} {c : Nat} {d : D} {Qc : D → List D → Prop} : OkCE Ec (fin mr d S (.exc c)) Qc = So (usOf mr S) fun ms => if (ofD (d.mk (kRet mr)) && ms.all ofD) = true then Ec c (d.mk (kRet mr)) ms else False := by
  simp only [ok_def, okC_def, so_def]; exact V0.okC_finx
theorem okC_fin {mr : List Bool} {d : D} {Qc : D → List D → Prop} : OkCE Ec (fin mr d S .ok) Qc = So (usOf mr S) fun ms => if (ofD (d.mk (kRet mr)) && ms.all ofD) = true then Qc (d.mk (kRet mr)) ms else False := by
  first
    | (simp only [ok_def, okC_def, so_def]; exact V0.okC_fin)
    | exact V0.okC_fin
end
end Lin
end
section
namespace Lin
open PySem L2
/-! ### frozen data, ints -/
abbrev I (i : Int) : D := .im (.int i)
abbrev B (b : Bool) : D := .im (.bl b)
/-- only frozen marks -/
def Fz (d : D) : Prop := ∀ k ∈ d.kinds, k = .frz
theorem fz_im (v : V) : Fz (.im v) := fun k h => by simp [D.kinds] at h
mutual
theorem mk_id (f : Kd → Kd) : ∀ d : D, (∀ k ∈ d.kinds, f k = k) → d.mk f = d
  | .im _, _ => rfl
  | .nd k s ds, h => by
    rw [D.mk, h k (by rw [D.kinds]; exact List.mem_cons_self), mk_idL f ds fun q hq => h q (by rw [D.kinds]; exact List.mem_cons_of_mem _ hq)]
theorem mk_idL (f : Kd → Kd) : ∀ ds : List D, (∀ k ∈ kindsL ds, f k = k) → mkDL f ds = ds
  | [], _ => rfl
  | d :: r, h => by
    rw [mkDL, mk_id f d fun q hq => h q (by rw [kindsL]; exact List.mem_append_left _ hq), mk_idL f r fun q hq => h q (by rw [kindsL]; exact List.mem_append_right _ hq)]
end
theorem of_raw {d : D} (h : ∀ k ∈ d.kinds, k = .own ∨ k = .frz) : ofD d = true := by
  unfold ofD
  rw [List.all_eq_true]
  intro k hk
  rcases kins_sub d k hk with e | e
  · rw [e]; rfl
  · rcases h k e with e | e <;> rw [e] <;> rfl
theorem bor_raw {d : D} {r : Nat} (h : Kd.bor r ∉ d.kinds) : hasBor r d = false := by
  unfold hasBor
  rw [Bool.eq_false_iff]
  intro q
  rw [List.contains_iff_mem] at q
  rcases kins_sub d _ q with e | e
  · cases e
  · exact h e
theorem fz_of {d : D} (h : Fz d) : ofD d = true := of_raw fun k hk => .inr (h k hk)
theorem fz_bor {d : D} (h : Fz d) (r : Nat) : hasBor r d = false := bor_raw fun q => by cases h _ q
theorem fz_clean {d : D} (h : Fz d) (M : List Nat) : cleanD M d = true := by
  unfold cleanD
  rw [List.all_eq_true]
  intro r _
  rw [fz_bor h]; rfl
theorem fz_kill {d : D} (h : Fz d) (r : Nat) : killD r (some d) = some d := by
  show (if hasBor r d then none else some d) = some d
  rw [fz_bor h]; rfl
theorem kill_none (r : Nat) : killD r none = none := rfl
theorem kill_im (r : Nat) (v : V) : killD r (some (.im v)) = some (.im v) := fz_kill (fz_im v) r
theorem clean_nil (d : D) : cleanD [] d = true := rfl
theorem clean_im (M : List Nat) (v : V) : cleanD M (.im v) = true := fz_clean (fz_im v) M
theorem bor_im (r : Nat) (v : V) : hasBor r (.im v) = false := fz_bor (fz_im v) r
theorem of_im (v : V) : ofD (.im v) = true := fz_of (fz_im v)
theorem mk_im (f : Kd → Kd) (v : V) : (D.im v).mk f = .im v := rfl
theorem fzIf_im (z : Bool) (v : V) : fzIf z (.im v) = .im v := by cases z <;> rfl
/-! lists of ints -/
def iL (k : Kd) (ns : List Int) : D := .nd k .lst (ns.map fun i => I i)
theorem kinds_iL (k : Kd) (ns : List Int) : (iL k ns).kinds = [k] := by
  unfold iL
  rw [D.kinds, kindsL_eq]
  congr 1
  rw [List.flatMap_eq_nil_iff]
  intro d hd
  obtain ⟨i, _, rfl⟩ := List.mem_map.mp hd
  rfl
theorem iL_mk (f : Kd → Kd) (k : Kd) (ns : List Int) : (iL k ns).mk f = iL (f k) ns := by
  unfold iL
  rw [D.mk, mk_idL]
  intro q hq
  have := kinds_iL k ns
  unfold iL at this
  rw [D.kinds] at this
  have e : kindsL (ns.map fun i => I i) = [] := by simpa using this
  rw [e] at hq; cases hq
theorem of_iL (ns : List Int) : ofD (iL .own ns) = true := of_raw fun k hk => by rw [kinds_iL] at hk; exact .inl (by simpa using hk)
/-! operators at ints -/
theorem add_I (a b : Int) : oAdd (I a) (I b) = some (I (a + b)) := rfl
theorem lt_I (a b : Int) : oLt (I a) (I b) = some (B (decide (a < b))) := rfl
theorem gt_I (a b : Int) : oGt (I a) (I b) = some (B (decide (b < a))) := rfl
theorem ge_I (a b : Int) : oGe (I a) (I b) = some (B (decide (b ≤ a))) := rfl
theorem eq_I (a b : Int) : oEq (I a) (I b) = some (B (decide (a = b))) := by
  simp [oEq, eqD, toPy, SeqAt.shaped, PyData.eqv, Bool.beq_eq_decide_eq, PyData.canLay0, PyData.depth]
theorem ne_I (a b : Int) : oNe (I a) (I b) = some (B (!decide (a = b))) := by
  simp [oNe, eqD, toPy, SeqAt.shaped, PyData.eqv, Bool.beq_eq_decide_eq, PyData.canLay0, PyData.depth]
theorem mod_I {a b : Int} (h : 0 < b) : oMod (I a) (I b) = some (I (a % b)) := by
  show (fMod a b).map D.im = _
  unfold fMod; rw [if_pos h]; rfl
theorem div_I {a b : Int} (h : 0 < b) (h2 : b < 1000000000000000000000000000000) : oDiv (I a) (I b) = some (I (a / b)) := by
  show (fDiv a b).map D.im = _
  unfold fDiv; rw [if_pos ⟨h, h2⟩]; rfl
theorem mul_l {a b : Int} (h : -18446744073709551616 < a) (h2 : a < 18446744073709551616) : oMul (I a) (I b) = some (I (a * b)) := by
  show (fMul a b).map D.im = _
  unfold fMul; rw [if_pos (.inl ⟨by omega, by omega⟩)]; rfl
theorem mul_r {a b : Int} (h : -18446744073709551616 < b) (h2 : b < 18446744073709551616) : oMul (I a) (I b) = some (I (a * b)) := by
  show (fMul a b).map D.im = _
  unfold fMul; rw [if_pos (.inr ⟨by omega, by omega⟩)]; rfl
theorem pow_I {a b : Int} (h : 0 ≤ b) (h2 : b ≤ 1000000) (h3 : a.natAbs < 18446744073709551616) : oPow (I a) (I b) = some (I (a ^ b.toNat)) := by
  show (fPow a b).map D.im = _
  unfold fPow; rw [if_pos ⟨h, h2, by omega⟩]; rfl
theorem len_iL (k : Kd) (ns : List Int) : bLen [iL k ns] = some (I ns.length) := by
  simp [bLen, immV, vLen, iL]
theorem len_lst (k : Kd) (ds : List D) : bLen [.nd k .lst ds] = some (I ds.length) := rfl
theorem ix_iL {k : Kd} {ns : List Int} {i : Int} {x : Int} (h0 : 0 ≤ i) (h : ns[i.toNat]? = some x) : oIx (iL k ns) (I i) = some (I x) := by
  have hl := (List.getElem?_eq_some_iff.mp h).1
  unfold oIx dIx iL
  dsimp only
  simp only [atI, ixN, List.length_map, if_pos h0, if_pos (show i < (ns.length : Int) by omega), List.getElem?_map, h, Option.bind_some, Option.map_some, Option.some_or]
theorem ix_lst {k : Kd} {ds : List D} {i : Int} {x : D} (h0 : 0 ≤ i) (h : ds[i.toNat]? = some x) : oIx (.nd k .lst ds) (I i) = some x := by
  have hl := (List.getElem?_eq_some_iff.mp h).1
  unfold oIx dIx
  dsimp only
  simp only [atI, ixN, if_pos h0, if_pos (show i < (ds.length : Int) by omega), h, Option.bind_some, Option.some_or]
theorem ix_tup {k : Kd} {ds : List D} {i : Int} {x : D} (h0 : 0 ≤ i) (h : ds[i.toNat]? = some x) : oIx (.nd k .tup ds) (I i) = some x := by
  have hl := (List.getElem?_eq_some_iff.mp h).1
  unfold oIx dIx
  dsimp only
  simp only [atI, ixN, if_pos h0, if_pos (show i < (ds.length : Int) by omega), h, Option.bind_some, Option.some_or]
theorem dbool_B (b : Bool) : dBool (B b) = some b := rfl
theorem dtru_B (b : Bool) : dTru (B b) = some b := rfl
theorem toInt_I (i : Int) : immV vToInt [I i] = some (I i) := rfl
theorem toInt_B (b : Bool) : immV vToInt [B b] = some (I (if b then 1 else 0)) := rfl
theorem abs_I (i : Int) : bAbs [I i] = some (I (if i < 0 then -i else i)) := rfl
end Lin
namespace Lin
open PySem L2
/-- own and frozen marks alone -/
def Cl (d : D) : Prop := ∀ k ∈ d.kinds, k = .own ∨ k = .frz
theorem Fz.cl {d : D} (h : Fz d) : Cl d := fun k hk => .inr (h k hk)
theorem fzIf_t {d : D} : fzIf true d = d.mk kFz := rfl
theorem fzIf_f {d : D} : fzIf false d = d := rfl
end Lin
namespace Lin
open PySem L2
section
variable {S : Sg} {Q : D → Sg → Prop} {fr : Sg → R (List D)} {M2 : List Nat} {r : Nat}
theorem popAt_eq {ds : List D} {i : Nat} {y : D} (hi : ds[i]? = some y) (hz : ds.length < 4611686018427387904) : mPopAt .lst ds [I i] = some (.lst, ds.eraseIdx i, y) := by
  have hlt := (List.getElem?_eq_some_iff.mp hi).1
  have e1 : seqIndex? (i : Int) ds.length = some i := by
    unfold seqIndex?
    have h1 : ¬ ((i : Int) < 0) := by omega
    have h2 : (i : Int) < (ds.length : Int) := by omega
    have h3 : (0 : Int) ≤ (i : Int) := by omega
    simp only [h1, if_false, h2, h3, decide_true, Bool.and_self, if_true, Int.toNat_natCast]
  have h63 : (2 : Int) ^ 63 = 9223372036854775808 := by rfl
  simp only [mPopAt, h63, e1, hi]
  rw [if_pos ⟨by omega, by omega⟩]
end
end Lin
namespace Lin
open PySem L2
section
variable {S : Sg} {QF : Fl → Sg → Prop} {fr : Sg → R (List D)} {f : Sg → R Fl} {M : List Nat} {tg : D → Sg → Option Sg}
theorem rngOk_of {n : Int} (h0 : -4611686018427387904 ≤ n) (h1 : n < 4611686018427387904) : rngOk n = true := by
  unfold rngOk
  have e : (2 : Int) ^ 62 = 4611686018427387904 := by rfl
  rw [e, Bool.and_eq_true]
  exact ⟨decide_eq_true h0, decide_eq_true h1⟩
def upto (n : Nat) : List D := (List.range n).map fun k : Nat => I k
theorem iRng_upto (n : Nat) : iRng 0 (n : Int) = (.im .non, upto n) := by
  unfold iRng upto
  simp
end
end Lin
namespace Lin
open PySem L2
theorem small_size {m : Nat} (h : m < 1000000) : m < sizeLine := by rw [sizeLine_eq]; omega
theorem small_size' {m : Nat} (h : m < 1000000) : m ≤ sizeLine := Nat.le_of_lt (small_size h)
end Lin
namespace Lin
open PySem L2
section
variable {S : Sg} {Q : D → Sg → Prop} {fa fe : Sg → R D} {i : Nat}
end
end Lin
namespace Lin
open PySem L2
end Lin
end
section
namespace Lin
open PySem L2
/-! ### plain values and their marked forms -/
inductive P where
  | im (v : V)
  | nd (s : Sh) (vs : List P)
mutual
def P.all (c : Kd) : P → D
  | .im v => .im v
  | .nd s vs => .nd c s (P.allL c vs)
def P.allL (c : Kd) : List P → List D
  | [] => []
  | v :: r => P.all c v :: P.allL c r
end
theorem allL_eq (c : Kd) (vs : List P) : P.allL c vs = vs.map (P.all c) := by
  induction vs with
  | nil => rfl
  | cons v r ih => simp [P.allL, ih]
/-- root k, the rest c -/
def en (k c : Kd) (v : P) : D := match v with
  | .im v => .im v
  | .nd s vs => .nd k s (vs.map (P.all c))
theorem en_self (c : Kd) (v : P) : P.all c v = en c c v := by cases v <;> simp [P.all, en, allL_eq]
mutual
theorem all_mk (f : Kd → Kd) (c : Kd) : ∀ v : P, (P.all c v).mk f = P.all (f c) v
  | .im _ => rfl
  | .nd s vs => by simp only [P.all, D.mk]; rw [allL_mk f c vs]
theorem allL_mk (f : Kd → Kd) (c : Kd) : ∀ vs : List P, mkDL f (P.allL c vs) = P.allL (f c) vs
  | [] => rfl
  | v :: r => by simp only [P.allL, mkDL]; rw [all_mk f c v, allL_mk f c r]
end
theorem en_mk (f : Kd → Kd) (k c : Kd) (v : P) : (en k c v).mk f = en (f k) (f c) v := by
  cases v with
  | im v => rfl
  | nd s vs => simp only [en, D.mk, ← allL_eq, allL_mk]
theorem bo_own (i : Nat) : kBo i .own = .bor i := rfl
theorem bo_frz (i : Nat) : kBo i .frz = .frz := rfl
theorem bo_par (i : Nat) : kBo i .par = .par := rfl
theorem bo_bor (i j : Nat) : kBo i (.bor j) = .bor j := rfl
theorem fz_own : kFz .own = .frz := rfl
theorem fz_frz : kFz .frz = .frz := rfl
theorem fz_par' : kFz .par = .par := rfl
theorem fz_bor' (j : Nat) : kFz (.bor j) = .bor j := rfl
theorem pa_own : kPar .own = .par := rfl
theorem pa_frz : kPar .frz = .frz := rfl
theorem pa_par : kPar .par = .par := rfl
theorem pa_bor (j : Nat) : kPar (.bor j) = .par := rfl
theorem re_own (mr : List Bool) : kRet mr .own = .own := rfl
theorem re_frz (mr : List Bool) : kRet mr .frz = .frz := rfl
theorem re_par (mr : List Bool) : kRet mr .par = .par := rfl
theorem re_bor (mr : List Bool) (j : Nat) : kRet mr (.bor j) = if mr[j]? = some true then .bor j else .frz := rfl
mutual
theorem all_kinds (c : Kd) : ∀ v : P, ∀ k ∈ (P.all c v).kinds, k = c
  | .im _, k, h => by simp [P.all, D.kinds] at h
  | .nd s vs, k, h => by
    simp only [P.all, D.kinds, List.mem_cons] at h
    rcases h with h | h
    · exact h
    · exact allL_kinds c vs k h
theorem allL_kinds (c : Kd) : ∀ vs : List P, ∀ k ∈ kindsL (P.allL c vs), k = c
  | [], k, h => by simp [P.allL, kindsL] at h
  | v :: r, k, h => by
    simp only [P.allL, kindsL, List.mem_append] at h
    rcases h with h | h
    · exact all_kinds c v k h
    · exact allL_kinds c r k h
end
theorem en_kinds {k c : Kd} {v : P} {q : Kd} (h : q ∈ (en k c v).kinds) : q = k ∨ q = c := by
  cases v with
  | im v => simp [en, D.kinds] at h
  | nd s vs =>
    simp only [en, D.kinds, List.mem_cons, ← allL_eq] at h
    rcases h with h | h
    · exact .inl h
    · exact .inr (allL_kinds c vs q h)
theorem bor_en {r : Nat} {k c : Kd} (h1 : k ≠ .bor r) (h2 : c ≠ .bor r) (v : P) : hasBor r (en k c v) = false := by
  refine bor_raw fun q => ?_
  rcases en_kinds q with e | e
  · exact h1 e.symm
  · exact h2 e.symm
theorem kill_en {r : Nat} {k c : Kd} (h1 : k ≠ .bor r) (h2 : c ≠ .bor r) (v : P) : killD r (some (en k c v)) = some (en k c v) := by
  show (if hasBor r _ then none else some _) = _
  rw [bor_en h1 h2]; rfl
theorem kill_opt {r : Nat} {k c : Kd} (h1 : k ≠ .bor r) (h2 : c ≠ .bor r) (o : Option P) : killD r (o.map (en k c)) = o.map (en k c) := by
  cases o with
  | none => rfl
  | some v => exact kill_en h1 h2 v
theorem of_en {k c : Kd} (h1 : k = .own ∨ k = .frz) (h2 : c = .own ∨ c = .frz) (v : P) : ofD (en k c v) = true := by
  refine of_raw fun q hq => ?_
  rcases en_kinds hq with e | e
  · rw [e]; exact h1
  · rw [e]; exact h2
theorem clean_cons (r : Nat) (M : List Nat) (d : D) : cleanD (r :: M) d = (!hasBor r d && cleanD M d) := rfl
/-! forms -/
abbrev pN (n : Nat) : P := .im (.int n)
def pL {α : Type} (f : α → P) (xs : List α) : P := .nd .lst (xs.map f)
def pT (vs : List P) : P := .nd .tup vs
theorem en_im (k c : Kd) (v : V) : en k c (.im v) = .im v := rfl
theorem en_pL {α : Type} (k c : Kd) (f : α → P) (xs : List α) : en k c (pL f xs) = .nd k .lst (xs.map fun x => en c c (f x)) := by
  simp [en, pL, en_self]
theorem en_pT (k c : Kd) (vs : List P) : en k c (pT vs) = .nd k .tup (vs.map (en c c)) := by
  simp [en, pT, en_self]
/-! operations -/
section
variable {α : Type} {k c k' c' : Kd} {f : α → P} {xs : List α}
theorem len_en : bLen [en k c (pL f xs)] = some (I xs.length) := by rw [en_pL, len_lst]; simp
theorem len_enT {vs : List P} : bLen [en k c (pT vs)] = some (I vs.length) := by rw [en_pT]; simp [bLen, immV, vLen]
theorem ix_en {i : Nat} (h : i < xs.length) : oIx (en k c (pL f xs)) (I (i : Int)) = some (en c c (f xs[i])) := by
  rw [en_pL]; exact ix_lst (by omega) (by simp [h])
theorem ix_enT0 {v : P} {vs : List P} : oIx (en k c (pT (v :: vs))) (I 0) = some (en c c v) := by
  rw [en_pT]; exact ix_tup (by omega) (by simp)
theorem ix_enT1 {v w : P} {vs : List P} : oIx (en k c (pT (v :: w :: vs))) (I 1) = some (en c c w) := by
  rw [en_pT]; exact ix_tup (by omega) (by simp)
theorem list_en : bList [en k c (pL f xs)] = some (en .own c (pL f xs)) := by rw [en_pL, en_pL]; rfl
theorem tru_en : dTru (en k c (pL f xs)) = some (!xs.isEmpty) := by rw [en_pL]; simp [dTru]
theorem seq_en : seqD (en k c (pL f xs)) = some (xs.map fun x => en c c (f x)) := by rw [en_pL]; rfl
theorem not_B (b : Bool) : dNot (B b) = some (B (!b)) := rfl
theorem neg_I (i : Int) : dNeg (I i) = some (I (-i)) := rfl
/-! dicts -/
/-! lists in and out -/
theorem ints_N (ns : List Nat) : intsD (ns.map fun n : Nat => (n : Int)) = en .own .frz (pL pN ns) := by
  rw [en_pL]; simp [intsD, en_im]
theorem rg1_N {n : Nat} (h : n < 1000000) : dRg1 (I (n : Int)) = some (en .own .frz (pL pN (List.range n))) := by
  unfold dRg1
  dsimp only
  rw [if_pos ⟨rngOk_of (by omega) (by omega), by omega⟩, ← ints_N]
  simp [rgI]
end
end Lin
end
section
namespace Lin
open PySem L2
/-! ### equality of encoded values -/
structure Eqs {α : Type} [DecidableEq α] (f : α → P) (m : Nat) : Prop where
  py : ∃ d : α → PyData, (∀ k c x, toPy (en k c (f x)) = some (d x)) ∧ (∀ x y, PyData.eqv (d x) (d y) = decide (x = y)) ∧ (∀ x, (d x).canLay0 = true) ∧ ∀ x, (d x).depth ≤ m
theorem eqs_N : Eqs pN 1 := ⟨fun i => .int i, fun _ _ _ => rfl, fun x y => by simp only [PyData.eqv, Bool.beq_eq_decide_eq]; congr 1; exact propext Int.ofNat_inj, fun _ => rfl, fun _ => by simp [PyData.depth]⟩
theorem toPyL_map {α : Type} {g : α → D} {d : α → PyData} (h : ∀ x, toPy (g x) = some (d x)) : ∀ xs : List α, toPyL (xs.map g) = some (xs.map d)
  | [] => rfl
  | x :: r => by simp only [List.map_cons, toPyL, h x, toPyL_map h r]
theorem eqvAll_map' {α : Type} [DecidableEq α] {d : α → PyData} (h : ∀ x y, PyData.eqv (d x) (d y) = decide (x = y)) : ∀ xs ys : List α, PyData.eqvAll (xs.map d) (ys.map d) = decide (xs = ys)
  | [], [] => by simp [PyData.eqvAll]
  | [], _ :: _ => by simp [PyData.eqvAll]
  | _ :: _, [] => by simp [PyData.eqvAll]
  | x :: xs, y :: ys => by simp [PyData.eqvAll, h, eqvAll_map' h xs ys, Bool.decide_and]
theorem lay_map {α : Type} {d : α → PyData} (h : ∀ x, (d x).canLay0 = true) : ∀ xs : List α, PyData.canLayAll0 (xs.map d) = true
  | [] => rfl
  | x :: r => by simp [PyData.canLayAll0, h x, lay_map h r]
theorem depth_map {α : Type} {d : α → PyData} {m : Nat} (h : ∀ x, (d x).depth ≤ m) : ∀ xs : List α, PyData.depthAll (xs.map d) ≤ m
  | [] => by simp [PyData.depthAll]
  | x :: r => by
    have := h x
    have := depth_map h r
    simp [PyData.depthAll]; omega
theorem eqs_L {α : Type} [DecidableEq α] {f : α → P} {m : Nat} (h : Eqs f m) : Eqs (pL f) (m + 1) := by
  obtain ⟨d, h1, h2, h3, h4⟩ := h.py
  refine ⟨fun xs => .list (xs.map d), fun k c xs => ?_, fun xs ys => ?_, fun xs => ?_, fun xs => ?_⟩
  · rw [en_pL, toPy, toPyL_map (fun x => h1 c c x)]; rfl
  · rw [PyData.eqv]; exact eqvAll_map' h2 xs ys
  · exact lay_map h3 xs
  · have := depth_map h4 xs
    simp [PyData.depth]; omega
theorem eq_en {α : Type} [DecidableEq α] {f : α → P} {m : Nat} (h : Eqs f m) (hm : m ≤ 64) {k c k' c' : Kd} {x y : α} : oEq (en k c (f x)) (en k' c' (f y)) = some (B (decide (x = y))) := by
  obtain ⟨d, h1, h2, h3, h4⟩ := h.py
  have s1 := h4 x
  have s2 := h4 y
  simp only [oEq, eqD, h1, SeqAt.shaped, h3, Bool.true_and]
  rw [decide_eq_true (by omega), decide_eq_true (by omega)]
  simp [h2]
theorem ne_en {α : Type} [DecidableEq α] {f : α → P} {m : Nat} (h : Eqs f m) (hm : m ≤ 64) {k c k' c' : Kd} {x y : α} : oNe (en k c (f x)) (en k' c' (f y)) = some (B (!decide (x = y))) := by
  obtain ⟨d, h1, h2, h3, h4⟩ := h.py
  have s1 := h4 x
  have s2 := h4 y
  simp only [oNe, eqD, h1, SeqAt.shaped, h3, Bool.true_and]
  rw [decide_eq_true (by omega), decide_eq_true (by omega)]
  simp [h2]
section
variable {k c k' c' : Kd}
theorem eq_LN {x y : List Nat} : oEq (en k c (pL pN x)) (en k' c' (pL pN y)) = some (B (decide (x = y))) := eq_en (eqs_L eqs_N) (by decide)
theorem ne_LN {x y : List Nat} : oNe (en k c (pL pN x)) (en k' c' (pL pN y)) = some (B (!decide (x = y))) := ne_en (eqs_L eqs_N) (by decide)
theorem eq_LLN {x y : List (List Nat)} : oEq (en k c (pL (pL pN) x)) (en k' c' (pL (pL pN) y)) = some (B (decide (x = y))) := eq_en (eqs_L (eqs_L eqs_N)) (by decide)
theorem ne_LLN {x y : List (List Nat)} : oNe (en k c (pL (pL pN) x)) (en k' c' (pL (pL pN) y)) = some (B (!decide (x = y))) := ne_en (eqs_L (eqs_L eqs_N)) (by decide)
end
/-! ### evaluator forms -/
section
variable {E : EX} {Ec : EC} {S : Sg} {Q : D → Sg → Prop} {QB : Bool → Sg → Prop} {QL : List D → Sg → Prop} {QF : Fl → Sg → Prop} {fa fb fc fe : Sg → R D} {ft fu : Sg → R Bool} {fr : Sg → R (List D)} {f h : Sg → R Fl} {M M2 : List Nat} {r : Nat}
theorem ok_cg {α : Type} {x : R α} {Q Q' : α → Sg → Prop} (h : ∀ a S, Q a S = Q' a S) : OkE E x Q = OkE E x Q' := by
  have : Q = Q' := funext fun a => funext fun S => h a S
  subst this; rfl
theorem so_cg {α : Type} {x : Option α} {Q Q' : α → Prop} (h : ∀ a, Q a = Q' a) : So x Q = So x Q' := by
  have : Q = Q' := funext fun a => h a
  subst this; rfl
def MutAt (op : Sh → List D → List D → Option (Sh × List D × D)) (d : D) (us : List D) (K : D → D → Prop) : Prop := match d with
  | .nd .own s ds => So (op s ds us) fun q => K (.nd .own q.1 q.2.1) q.2.2
  | _ => False
def shOk (okS : Sh → Bool) (d : D) : Bool := match d with
  | .nd _ s _ => okS s
  | _ => false
theorem nodeAt_nil {S : Sg} {d : D} (h : S[r]? = some (some d)) : nodeAt S r [] = some d := by unfold nodeAt; rw [h]; cases d <;> rfl
theorem ok_mutE {okS : Sh → Bool} {op : Sh → List D → List D → Option (Sh × List D × D)} : OkE E (cMutM okS r M2 (pVar r) fr op S) Q = So S[r]? fun o => So o fun d0 => if r ∈ M2 ∨ shOk okS d0 = false then False else OkE E (fr S) fun us S2 =>
    if us.all (fun d => !hasBor r d) = true then So ((S2.map (killD r))[r]?) fun o => So o fun d => MutAt op d us fun d' res => Q res ((S2.map (killD r)).set r (some d')) else False := by
  rw [ok_mutM, ok_pvar]
  rcases e : S[r]? with _ | _ | d0
  · rw [so_none, so_none]
  · rw [so_some, so_some, so_none, so_none]
  · simp only [so_some]
    have e2 : nodeOk okS S r [] = shOk okS d0 := by
      unfold nodeOk; rw [nodeAt_nil e]; cases d0 <;> rfl
    rw [e2]
    by_cases c : r ∈ M2 ∨ shOk okS d0 = false
    · rw [if_pos c, if_pos c]
    · rw [if_neg c, if_neg c]
      refine ok_cg fun us S2 => ?_
      by_cases c2 : us.all (fun d => !hasBor r d) = true
      · rw [if_pos c2, if_pos c2]
        rcases e3 : (S2.map (killD r))[r]? with _ | _ | d
        · have : nodeAt (S2.map (killD r)) r [] = none := by unfold nodeAt; rw [e3]
          rw [this, so_none, so_none]
        · have : nodeAt (S2.map (killD r)) r [] = none := by unfold nodeAt; rw [e3]
          rw [this, so_some, so_none, so_none]
        · rw [nodeAt_nil e3, so_some, so_some, so_some]
          cases d with
          | im v => rfl
          | nd k s ds =>
            cases k with
            | own =>
              show So _ _ = So _ _
              refine so_cg fun q => ?_
              simp only [so_some]
              rfl
            | _ => rfl
      · rw [if_neg c2, if_neg c2]
def SetAt (op : Sh → List D → D → D → Option (Sh × List D)) (d i v : D) (K : D → Prop) : Prop := match d with
  | .nd .own s ds => So (op s ds i v) fun q => K (.nd .own q.1 q.2)
  | _ => False
theorem ok_setE {op : Sh → List D → D → D → Option (Sh × List D)} : OkE E (cSetAt r M2 fe (pVar r) fb op S) QF = OkE E (fe S) fun v S1 => if cleanD M2 v = true ∧ hasBor r v = false then So S1[r]? fun o => So o fun _ => if r ∈ M2 then False else OkE E (fb S1) fun i S3 =>
    if hasBor r i = false then So ((S3.map (killD r))[r]?) fun o => So o fun d => SetAt op d i v fun d' => QF .nx ((S3.map (killD r)).set r (some d')) else False else False := by
  rw [ok_setAt]
  refine ok_cg fun v S1 => ?_
  by_cases c1 : cleanD M2 v = true ∧ hasBor r v = false
  · rw [if_pos c1, if_pos c1, ok_pvar]
    refine so_cg fun o => so_cg fun d0 => ?_
    by_cases c2 : r ∈ M2
    · rw [if_pos c2, if_pos c2]
    · rw [if_neg c2, if_neg c2]
      refine ok_cg fun i S3 => ?_
      by_cases c3 : hasBor r i = false
      · rw [if_pos c3, if_pos c3]
        rcases e3 : (S3.map (killD r))[r]? with _ | _ | d
        · have : nodeAt (S3.map (killD r)) r [] = none := by unfold nodeAt; rw [e3]
          rw [this, so_none, so_none]
        · have : nodeAt (S3.map (killD r)) r [] = none := by unfold nodeAt; rw [e3]
          rw [this, so_some, so_none, so_none]
        · rw [nodeAt_nil e3, so_some, so_some, so_some]
          cases d with
          | im v => rfl
          | nd k s ds =>
            cases k with
            | own =>
              show So _ _ = So _ _
              refine so_cg fun q => ?_
              simp only [so_some]
              rfl
            | _ => rfl
      · rw [if_neg c3, if_neg c3]
  · rw [if_neg c1, if_neg c1]
end
end Lin
end
section
namespace Lin
open PySem L2
section
variable {E : EX} {Ec : EC} {S : Sg} {Q : D → Sg → Prop} {QB : Bool → Sg → Prop} {QL : List D → Sg → Prop} {QF : Fl → Sg → Prop} {fa fb fc fe : Sg → R D} {ft fu : Sg → R Bool} {fr : Sg → R (List D)} {f h : Sg → R Fl} {M M2 : List Nat} {r : Nat}
variable {α : Type} {k c k' c' : Kd} {g : α → P} {xs : List α} {K2 : D → D → Prop} {K1 : D → Prop}
theorem shOk_L : shOk isLst (en k c (pL g xs)) = true := by rw [en_pL]; rfl
theorem mut_app {x : α} (hl : xs.length < 1000000) : MutAt mAppend (en .own c (pL g xs)) [en c c (g x)] K2 = K2 (en .own c (pL g (xs ++ [x]))) (.im .non) := by
  rw [en_pL, en_pL]
  simp only [MutAt, mAppend, List.length_map, if_pos (small_size hl), so_some, List.map_append, List.map_cons, List.map_nil]
theorem mut_popAt {i : Nat} {x : α} (hi : xs[i]? = some x) (hl : xs.length < 1000000) : MutAt mPopAt (en .own c (pL g xs)) [I (i : Int)] K2 = K2 (en .own c (pL g (xs.eraseIdx i))) (en c c (g x)) := by
  rw [en_pL, en_pL]
  have e : (xs.map fun x => en c c (g x))[i]? = some (en c c (g x)) := by simp [hi]
  simp only [MutAt, popAt_eq e (by simp; omega), so_some]
  congr 2
  rw [List.eraseIdx_eq_take_drop_succ, List.eraseIdx_eq_take_drop_succ]
  simp
/-! iteration -/
def itD (s : Sh) (d : D) : Option (D × List D) := match d with
  | .nd k s' ds => if s' = s then some (D.mk kFz (.nd k s' ds), ds.map (D.mk kFz)) else none
  | _ => none
theorem ok_iseqE {s : Sh} {Q : D × List D → Sg → Prop} : OkE E (iSeq fa s S) Q = OkE E (fa S) fun d S1 => So (itD s d) fun p => Q p S1 := by
  rw [ok_iseq]
  refine ok_cg fun d S1 => ?_
  cases d with
  | im v => simp only [itD, so_none]
  | nd k s' ds =>
    simp only [itD]
    by_cases e : s' = s
    · rw [if_pos e, if_pos e, so_some]
    · rw [if_neg e, if_neg e, so_none]
theorem it_en : itD .lst (en k c (pL g xs)) = some (en (kFz k) (kFz c) (pL g xs), xs.map fun x => en (kFz c) (kFz c) (g x)) := by
  have e : (en k c (pL g xs)).mk kFz = en (kFz k) (kFz c) (pL g xs) := en_mk _ _ _ _
  rw [en_pL] at e ⊢
  simp only [itD, if_true, e, List.map_map]
  congr 2
  exact List.map_congr_left fun x _ => en_mk _ _ _ _
def rg1 (ds : List D) : Option (D × List D) := match ds with
    | [.im (.int hi)] => if rngOk hi = true then some (iRng 0 hi) else none
    | _ => none
theorem ok_rg1 {Q : D × List D → Sg → Prop} : OkE E (iRng1F fr S) Q = OkE E (fr S) fun ds S1 => So (rg1 ds) fun p => Q p S1 := by
  have e : iRng1F fr S = (fr S).bind fun ds S1 => R.lift (rg1 ds) S1 := by
    unfold iRng1F
    congr 1; funext ds S1
    unfold rg1
    split
    · first
        | (split <;> rfl)
        | (dsimp only; split <;> rfl)
        | (split <;> simp_all [R.lift])
    · first
        | rfl
        | (split <;> simp_all [R.lift])
  rw [e, ok_bind]
  exact ok_cg fun ds S1 => ok_lift
theorem rg1_eq {n : Nat} (h : n < 1000000) : rg1 [I (n : Int)] = some (.im .non, (List.range n).map fun k : Nat => I (k : Int)) := by
  unfold rg1
  dsimp only
  rw [if_pos (rngOk_of (by omega) (by omega)), iRng_upto]; rfl
theorem clean_non : cleanD M (.im .non) = true := clean_im _ _
/-- a loop over what is told by a list -/
theorem for_inv {β : Type} {tg : D → Sg → Option Sg} {e : β → D} {ys : List β} (Inv : Nat → Sg → Prop) (hb : ∀ (i : Nat) y S, ys[i]? = some y → Inv i S → So (tg (e y) S) fun S0 => OkE E (f S0) fun fl S1 => match fl with
      | .nx => Inv (i + 1) S1
      | .cnt => Inv (i + 1) S1
      | .brk => QF .nx S1
      | .ret d => QF (.ret d) S1) (hz : ∀ S, Inv ys.length S → QF .nx S) (h0 : Inv 0 S) : OkE E (forL tg f (ys.map e) S) QF := by
  refine forL_inv Inv _ _ ?_ ?_ h0
  · intro i d S hd hi
    rw [List.getElem?_map] at hd
    cases q : ys[i]? with
    | none => rw [q] at hd; cases hd
    | some y =>
      rw [q] at hd
      cases hd
      exact hb i y S q hi
  · intro S hi
    rw [List.length_map] at hi
    exact hz S hi
/-- a comprehension over what is told by a list -/
theorem lc_inv {β : Type} {ws Me : List Nat} {tg : D → Sg → Option Sg} {e : β → D} {ys : List β} (Inv : Nat → Sg → List D → Prop)
    (hb : ∀ (i : Nat) y S acc, ys[i]? = some y → Inv i S acc → So (tg (e y) S) fun S0 => OkE NoX (ft S0) fun b S1 => if b = true then OkE NoX (fe S1) fun z S2 => (acc.length < sizeLine ∧ cleanD Me z = true) ∧ Inv (i + 1) (wipeS ws S2) (acc ++ [z]) else Inv (i + 1) (wipeS ws S1) acc)
    (hz : ∀ S acc, Inv ys.length S acc → QL acc S) (h0 : Inv 0 S []) : OkE NoX (lcL ws Me tg ft fe (ys.map e) S []) QL := by
  refine lcL_inv Inv _ _ ?_ ?_ h0
  · intro i d S acc hd hi
    rw [List.getElem?_map] at hd
    cases q : ys[i]? with
    | none => rw [q] at hd; cases hd
    | some y =>
      rw [q] at hd
      cases hd
      exact hb i y S acc q hi
  · intro S acc hi
    rw [List.length_map] at hi
    exact hz S acc hi
/-- the plain case: one result for each item, the state as it was -/
theorem lc_map {β γ : Type} {i : Nat} {Me : List Nat} {e : β → D} {ys : List β} (h : γ → D) (w : β → γ) (hl : ys.length < 1000000) (hS : S.set i none = S)
    (hf : ∀ y ∈ ys, (e y).mk kFz = e y)
    (hb : ∀ y ∈ ys, OkE NoX (fe (S.set i (some (e y)))) fun z S2 => z = h (w y) ∧ cleanD Me z = true ∧ S2.set i none = S)
    (hz : QL ((ys.map w).map h) S) : OkE NoX (lcL [i] Me (gSet true i) cYes fe (ys.map e) S []) QL := by
  refine lc_inv (Inv := fun j S' acc => S' = S ∧ acc = ((ys.map w).map h).take j) ?_ ?_ ⟨rfl, by simp⟩
  · rintro j y S' acc hy ⟨rfl, rfl⟩
    have hm := List.mem_of_getElem? hy
    have hj := (List.getElem?_eq_some_iff.mp hy).1
    rw [so_gset, ok_yes, if_pos rfl, show fzIf true (e y) = e y from hf y hm]
    refine (hb y hm).mono ?_
    rintro z S2 ⟨rfl, h2, h3⟩
    refine ⟨⟨small_size (by rw [List.length_take]; omega), h2⟩, h3, ?_⟩
    rw [List.take_add_one]
    congr 1
    simp [hy]
  · rintro S' acc ⟨rfl, rfl⟩
    rw [show ys.length = ((ys.map w).map h).length by simp, List.take_length]
    exact hz
/-! more forms -/
def imV (d : D) : Option V := match d with | .im v => some v | _ => none
theorem imV_im (v : V) : imV (.im v) = some v := rfl
theorem okC_of {x : Rc} {d : D} {ms : List D} {Q : D → List D → Prop} (e : x = .ok d ms) : OkCE Ec x Q = Q d ms := by rw [e, okC_def]; rfl
theorem of_okC {x : Rc} {d : D} {ms : List D} (h : OkCE NoC x fun d' ms' => d' = d ∧ ms' = ms) : x = .ok d ms := by
  obtain ⟨d', ms', e, rfl, rfl⟩ := h.get
  exact e
theorem en_LNp {ns : List Nat} : en k .par (pL pN ns) = en k .frz (pL pN ns) := by rw [en_pL, en_pL]; rfl
theorem en_LNo {ns : List Nat} : en k .own (pL pN ns) = en k .frz (pL pN ns) := by rw [en_pL, en_pL]; rfl
theorem en_LNb {ns : List Nat} {j : Nat} : en k (.bor j) (pL pN ns) = en k .frz (pL pN ns) := by rw [en_pL, en_pL]; rfl
theorem bor_nd {s : Sh} {ds : List D} : hasBor r (.nd k s ds) = (decide (Kd.bor r = kz s k) || ds.any (hasBor r)) := by
  unfold hasBor
  rw [D.kins, List.contains_cons, kinsL_eq]
  congr 1
  rw [Bool.eq_iff_iff, List.contains_iff_mem, List.any_eq_true, List.mem_flatMap]
  simp only [List.contains_iff_mem]
theorem kz_lst : kz .lst k = k := rfl
theorem kz_tup : kz .tup k = .frz := rfl
theorem kz_dic {ks : List Key} : kz (.dic ks) k = k := rfl
theorem kz_dtu {ks : List (List Key)} : kz (.dtu ks) k = k := rfl
theorem kz_obj {c : Nat} {ns : List Str} : kz (.obj c ns) k = k := rfl
theorem kz_xd {ns : List Str} : kz (.xd ns) k = k := rfl
theorem kz_scr : kz .scr k = .frz := rfl
theorem kill_d {d : D} (h : hasBor r d = false) : killD r (some d) = some d := by
  show (if hasBor r d then none else some d) = some d
  rw [h]; rfl
theorem of_nd {s : Sh} {ds : List D} : ofD (.nd k s ds) = ((kz s k == .own || kz s k == .frz) && ds.all ofD) := by
  unfold ofD
  rw [D.kins, List.all_cons, kinsL_eq]
  congr 1
  rw [Bool.eq_iff_iff, List.all_eq_true, List.all_eq_true]
  simp only [List.mem_flatMap, List.all_eq_true]
  exact ⟨fun h d hd q hq => h q ⟨d, hd, hq⟩, fun h q ⟨d, hd, hq⟩ => h d hd q hq⟩
/-- a cut between two statements -/
theorem seq_cut (A : Sg → Prop) (h1 : OkE E (f S) (OkF QF A)) (h2 : ∀ S1, A S1 → OkE E (h S1) QF) : OkE E (cSeq f h S) QF := by
  rw [ok_seq]
  refine h1.mono fun fl S1 q => ?_
  cases fl with
  | nx => exact h2 S1 q
  | _ => exact q
theorem dLst_s {ds : List D} (h : ds.length < 1000000) : dLst ds = some (.nd .own .lst ds) := by unfold dLst; rw [if_pos (small_size' h)]
theorem dTup_s {ds : List D} (h : ds.length < 1000000) : dTup ds = some (.nd .own .tup ds) := by unfold dTup; rw [if_pos (small_size' h)]
theorem en_L0 : en k c (pL g []) = .nd k .lst [] := rfl
theorem all_clean {ds : List D} : ds.all (cleanD []) = true := by simp [List.all_eq_true, clean_nil]
theorem mk_nd (q : Kd → Kd) (k : Kd) (s : Sh) (ds : List D) : D.mk q (.nd k s ds) = .nd (q k) s (ds.map (D.mk q)) := by rw [D.mk, mkDL_eq]
end
end Lin
end
section
namespace Lin
open PySem L2
/-! ### len(o), o.p, o(..) of own classes -/
def W0 : WX := fun _ _ _ _ => False
section
variable {g : Gc} {n : Nat} {W : WX} {Γ : Gh} {A A' A'' B : List (Option T)} {σ : L2.St} {H H' : Hp} {t : T} {M M1 M2 : List Nat}
end
section
variable {X : Cx} {k : Nat} {f C : Addr} {fd : FuncData} {ps : List Str} {sp : Sp} {E : L2.St → XK} {x m : Str} {p pos apos : Pos} {e o fe : Expr} {es : List Expr} {ta : TE} {t : TA}
end
/-- an own __len__, a property's getter, an own __call__ -/
def Dl (P : Program) (w : World) (K : PySem.W.Frag) (mg : Str → Option Value) (base : Heap) (g : Gc) (c : Nat) (k : Nat) (sem : FSem) : Prop :=
  ∃ f fd ps, FnOk P w K mg base (L2.CX P w) k f fd ps (spOf g [false] sem) ∧ Spec1 K (g.cl c) "__len__" f ∧ Binds K fd ps []
def Dp (P : Program) (w : World) (K : PySem.W.Frag) (mg : Str → Option Value) (base : Heap) (g : Gc) (c : Nat) (m : Str) (k : Nat) (sem : FSem) : Prop :=
  ∃ f fd ps p, FnOk P w K mg base (L2.CX P w) k f fd ps (spOf g [false] sem) ∧ Cls K (g.cl c) ∧ PropOf K (g.cl c) m p f ∧ Binds K fd ps []
def Do (P : Program) (w : World) (K : PySem.W.Frag) (mg : Str → Option Value) (base : Heap) (g : Gc) (c : Nat) (ps : List Str) (k : Nat) (mr : List Bool) (sem : FSem) : Prop :=
  ∃ f fd, FnOk P w K mg base (L2.CX P w) k f fd ps (spOf g mr sem) ∧ StX.CallO K (g.cl c) f ∧ Binds K fd ps []
section
variable {Mz : List Nat} {X : Cx} {g : Gc} {W : WX} {M M1 M2 M3 M4 : List Nat} {a b c e o fe lo hi : Expr} {es : List Expr} {pos p apos p2 p3 pos' : Pos} {fa fb fc : Sg → R D} {fr : Sg → R (List D)} {rs : List (Option Nat)} {x m : Str} {cn k : Nat} {ps : List Str} {sem : FSem}
/-! ### slices -/
end
section
variable {g : Gc} {n : Nat} {W : WX} {Γ : Gh} {A A' A'' B : List (Option T)} {σ : L2.St} {H H' : Hp} {t : T} {M M1 M2 : List Nat}
end
section
variable {Mz : List Nat} {X : Cx} {g : Gc} {W : WX} {M M1 M2 M3 M4 : List Nat} {a b c e o fe : Expr} {es : List Expr} {pos p apos p2 p3 pos' : Pos} {fa fb fc : Sg → R D}
end
end Lin
end
section
namespace Lin
open PySem L2
/-! ### raise -/
abbrev veB : List Value := [.type "ValueError", .type "Exception", .type "BaseException", .type "object"]
/-- an own exception class without own __init__ -/
structure Ex0 (K : PySem.W.Frag) (C : Addr) : Prop where
  ex : PySem.W.excIn K C veB "ValueError.__new__" = true
  kp : PySem.W.keepIn K (.ref C) = true
  sb : PySem.W.subIn K (.ref C) (.type "BaseException") = some true
  ty : PySem.W.typeIn K (.ref C) = some (.type "type")
/-- an own exception class whose __init__ keeps one value in the field f -/
structure Ex1 (K : PySem.W.Frag) (C : Addr) (f : Str) (fI : Addr) : Prop where
  cl : OexC K C
  ini : PySem.W.findIn K (.ref C) "__init__" = some (some (.ref fI))
  fn : PySem.W.typeIn K (.ref fI) = some (.type "function")
  no : PySem.W.findIn K (.ref C) f = some none
def spX (K : PySem.W.Frag) (f : Str) (Pv : V → Prop) : Sp := fun vs H Q _ => ∃ (a C : Addr) (v : V), vs = [.ref a, v] ∧ OexC K C ∧ PySem.W.findIn K (.ref C) f = some none ∧ H a = some (exo a C none) ∧ Pv v ∧
  ∀ dx, H dx = none → dx ≠ a → Q .non (upd (upd H dx (exd dx [(f, v)])) a (exo a C (some dx)))
section
variable {g : Gc} {n : Nat} {W : WX} {Γ : Gh} {A A' A'' B : List (Option T)} {σ : L2.St} {H H' : Hp} {t : T} {M M1 M2 : List Nat}
end
section
variable {Mz : List Nat} {X : Cx} {g : Gc} {W : WX} {M M1 M2 : List Nat} {e : Expr} {pos p pos' : Pos} {fa : Sg → R D} {x : Str} {c k : Nat}
/-- the __init__ of such a class, as its rule -/
def Dx (P : Program) (w : World) (K : PySem.W.Frag) (mg : Str → Option Value) (base : Heap) (g : Gc) (c : Nat) (x f : Str) (Pv : V → Bool) : Prop :=
  ∃ fI fd par, FnOk P w K mg base (L2.CX P w) 1 fI fd ["self", par] (spX K f fun v => Pv v = true) ∧ Ex1 K (g.cl c) f fI ∧ mg x = some (.ref (g.cl c)) ∧ Binds K fd ["self", par] []
end
/-! ### such an __init__: Base.__init__(self, ..), self.f = par -/
/-- what the class Base must have -/
structure BaseC (K : PySem.W.Frag) (mg : Str → Option Value) (x : Str) (B : Addr) : Prop where
  gl : mg x = some (.ref B)
  ga : PySem.W.specialIn K (.ref B) "__getattribute__" = some (some (.builtin "type.__getattribute__"))
  rd : PySem.W.readsIn K B (.type "type") = true
  fd : PySem.W.findCls K (.ref B) (.type "type") "__init__" = some (.val (.builtin "ValueError.__init__"))
section
variable {X : Cx} {e : Expr} {es : List Expr} {ta : TA} {x : Str} {B : Addr} {p1 p2 pos : Pos}
theorem pe_baseInit {pl : Sem Bool} (T : BaseC X.K X.mg x B) (hg : Gl X x) (ha : PA X (e :: es) ta) (hdb : (x == ("__debug__" : Str)) = false)
    (hc : eval (.Call (.Attribute (.Name x p1) "__init__" p2) (e :: es) [] pos) X.env = (do
      let ov ← eval (.Name x p1) X.env
      standAt p2.atName
      let (f, first) ← holding [ov] (getMethod ov "__init__" pl)
      callWith pos f first (backTo pos (starEach (e :: es) X.env)) (backToKw pos (keywordEach [] X.env))))
    (he : starEach (e :: es) X.env = (false, eval e X.env) :: starEach es X.env) (hpl : (backTo pos (starEach es X.env)).any (·.1) = false) :
    PE X (.Call (.Attribute (.Name x p1) "__init__" p2) (e :: es) [] pos) (tVeI X.K ta) := by
  refine ⟨fun pins s σ H Q I h => ?_⟩
  refine PySem.W.methodCall_KW (ld_glob I hg T.gl ?_ hdb) hc
  refine PySem.W.method_cls I.kIn T.ga (PySem.W.cls_value I.kIn T.rd T.fd (by decide +kernel) ?_)
  refine PyProof.Rows.callWith_method1 (thn (ha.run pos pins _ σ H _ (I.tok _) h) fun us s1 ⟨vs, H1, I1, r1, a, C, ws, ev, hl, T', ea, q⟩ => ?_) he hpl
  subst ev
  cases r1 with
  | @cons _ u0 _ ur ra rw' =>
    have hu0 : u0 = Value.ref a := ra
    subst hu0
    have hlen : ur.length ≤ sizeLine := by
      have := Paired.length rw'
      rw [← this, sizeLine_eq]; omega
    exact oinit_ok T' I1 ea hlen fun s' J => ⟨.non, H1, J, rfl, q⟩
end
section
variable {P : Program} {w : World} {K : PySem.W.Frag} {mg : Str → Option Value} {base : Heap}
end
end Lin
end
section
set_option maxHeartbeats 4000000
namespace Lin
open PySem PySem.Spec PySem.Calls PyProof.Rows L2
/-! ### isinstance of a caught error, its dict being there or not -/
section
variable {prog : Program} {w : World} {A : Around} {E : Value → Shared → Prop} {s : Shared} {K : PySem.W.Frag} {x C : Addr} {ox : Obj} {od : Option Obj}
theorem fo_class (T : ExcC K C) : PySem.W.findObj K C od "__class__" = some (.bind (.builtin "getset_descriptor.__get__") (.builtin "object.__class__")) := by
  obtain ⟨cd, hcd, _⟩ := PySem.W.any_some T.hd
  unfold PySem.W.findObj
  rw [hcd, Option.bind_some, T.ha, Option.bind_some]
  simp [T.hn, T.ht]
theorem exc_class {Q : Option Value → Shared → Prop} (T : ExcC K C) (X : K.In s.heap) (J : PySem.W.InstAt s.heap x ox C od) (h : Q (some (.ref C)) { s with toks := s.toks + 1 }) : wpAny (model prog w) A (getAttr? (.ref x) "__class__") Q E s := by
  obtain ⟨hp, gs, dr, tk, os⟩ := s
  have ty0 := J.type (M := model prog w)
  have lg := PySem.W.looks_findIn (M := model prog w) X T.hg
  have lk := PySem.W.looks_findIn (M := model prog w) X T.hk
  have lf := PySem.W.looks_find (M := model prog w) X J (fo_class T)
  have sb : PySem.W.Looks (model prog w) hp (isInstance (.ref x) (.type "BaseException")) true := ty0.andThen (PySem.W.looks_subIn X T.hs)
  have n0 : (false && onTheHeap (Value.builtin "BaseException.__getattribute__")) = false := rfl
  have n1 : (onTheHeap (Value.ref C) && (Value.builtin "BaseException.__getattribute__" == Value.builtin "object.__getattribute__")) = false := by
    rw [show (Value.builtin "BaseException.__getattribute__" == Value.builtin "object.__getattribute__") = false by decide +kernel]; rfl
  unfold getAttr? getAttrBy? getAttrBy
  refine wpAny_bind (wpAny_mkText (wpAny_bind (wpAny_attempt (wpAny_holding (wpAny_bind (ty0.at (wpAny_bind (lg.at ?_))))))))
  change wpAny _ _ (if (onTheHeap (Value.ref C) && (Value.builtin "BaseException.__getattribute__" == Value.builtin "object.__getattribute__")) = true then _ else _) _ _ _
  rw [n1, if_neg Bool.false_ne_true]
  unfold getAttrByItsOwn hookBefore
  refine wpAny_bind ?_
  rw [if_pos (by rfl : onTheHeap (Value.ref C) = true)]
  refine lk.at (wpAny_bind (wpAny_attempt (wpAny_holding ?_)))
  unfold callGetattribute
  rw [n0, if_neg Bool.false_ne_true]
  unfold boundAndCalled
  rw [PySem.F.excAttr_ValueError.ga.bind (.ref x)]
  refine wpAny_bind (wpAny_pure ?_)
  change wpAny _ _ (call (.builtin "BaseException.__getattribute__") [.ref x, .str "__class__" tk]) _ _ _
  refine wpAny_call (codeAny_call_builtin PySem.F.excAttr_ValueError.ga.plain PySem.F.entry_bexc_ga (@PySem.W.check_slot (model prog w) _ _ ⟨hp, gs, dr, tk + 1, os⟩ "BaseException.__getattribute__" "BaseException" "__getattribute__" (.ref x) [.str "__class__" tk] [] _ (by decide +kernel) (by decide +kernel) sb (PySem.F.args_bexc_ga (.ref x) (.str "__class__" tk)) ?_))
  unfold Builtin.«object.__getattribute__»
  refine wpAny_bind (wpAny_of_eq (a := ((Value.ref x : Value), [Value.str "__class__" tk])) (by first | rfl | (simp only [slotArgs]; rfl)) (wpAny_bind (wpAny_pure (wpAny_bind (ty0.at (wpAny_bind (lf.at ?_)))))))
  change wpAny _ _ (holding [Value.builtin "object.__class__"] (call (.builtin "getset_descriptor.__get__") [.builtin "object.__class__", .ref x, .ref C]) >>= ret) _ _ _
  refine wpAny_bind (wpAny_holding (wpAny_call (PySem.W.class_get (s := ⟨hp, gs, dr, tk + 1, os⟩) (ox := ox) (od := od) X J T.hm (wpAny_pure ?_))))
  change wpAny _ _ (handedOut (.ref C)) _ _ _
  rw [PySem.W.handedOut_of (v := .ref C) rfl]
  first
    | exact wpAny_pure (wpAny_pure h)
    | exact wpAny_pure h
    | exact wpAny_pure (wpAny_bind (wpAny_pure (wpAny_pure h)))
theorem kit_exc (T : ExcC K C) : PySem.W.KitX K (.ref x) (.ref C) (fun h => PySem.W.InstAt h x ox C od) := by
  obtain ⟨cd, hcd, _⟩ := PySem.W.any_some T.hd
  unfold PySem.W.clsIn at hcd
  split at hcd
  · rename_i c' d' cd' sl' hl
    refine ⟨fun _ _ _ J => J.type, fun _ _ X _ A' Q' E' s' k q => ?_, fun h tp dd its n sl X htp => ?_, fun X J k => exc_class T X J k⟩
    · unfold isType loadHead
      exact wpAny_bind (wpAny_loadPart (k _ _ (X _ _ hl)) (wpAny_pure q))
    · rw [Bool.eq_false_iff]
      intro q
      have e := Value.ref.inj (beq_iff_eq.mp q)
      subst e
      have z := (X _ _ hl).symm.trans htp
      cases z
  · cases hcd
end
end Lin
end
section
namespace Lin
open PySem L2
/-! ### try: .. except X as e: .. -/
/-- the caught error's dict, held fast -/
def pinH (d : Option Addr) (fs : List (Str × V)) (Γ : Gh) : Prop := ∀ dd, d = some dd → Γ.H0 dd = some (.xd fs) ∧ ¬ Γ.W dd
def gPin (g : Gc) (d : Option Addr) (fs : List (Str × V)) : Gc := ⟨g.cl, g.scr, pinH d fs, g.T, g.sane⟩
section
variable {g : Gc} {n : Nat} {W : WX} {Γ : Gh} {A A' A'' B : List (Option T)} {σ : L2.St} {H H' : Hp} {t : T} {M M1 M2 : List Nat} {d : Option Addr} {fs : List (Str × V)}
end
section
variable {X : Cx} {g : Gc} {W : WX} {Mb Mh Mz : List Nat} {x nm : Str} {c i : Nat} {body suite : List Stmt} {b₀ : Stmt} {np pos pos' : Pos} {fb : Sg → R Fl} {fh : Nat → List (Str × V) → Addr → Sg → R Fl} {mt : Nat → Option Bool}
theorem CxS.tr (cx : CxS X W) {W' : WX} {pn : List (Addr × Obj)} {xe : Value → Shared → Prop} (tk : Takes (X.tr pn xe) W') (ps : PassesOwn (model X.prog X.w) X.A X.env xe) : CxS (X.tr pn xe) W' := ⟨⟨cx.calm, tk, cx.nd, cx.room⟩, ps⟩
end
end Lin
end
section
namespace Lin
open PySem L2
/-! ### in the suite: e.f, isinstance(e, C), == -/
section
variable {X : Cx} {g : Gc} {W : WX} {M M1 : List Nat} {e : Expr} {pos p p2 : Pos} {fa : Sg → R D} {x : Str} {c : Nat} {a : Addr} {oe : Obj} {pn : List (Addr × Obj)} {d : Option Addr} {fs : List (Str × V)}
end
end Lin
namespace Lin
open PySem L2
/-! ### messages -/
end Lin
namespace Lin
open PySem L2
def baseA (mg : Str → Option Value) : Addr := match mg "ClaimError" with
  | some (.ref B) => B
  | _ => 0
theorem baseA_of {mg : Str → Option Value} {B : Addr} (h : mg "ClaimError" = some (.ref B)) : baseA mg = B := by unfold baseA; rw [h]
theorem baseC_of {K : PySem.W.Frag} {mg : Str → Option Value} {B : Addr} (h : mg "ClaimError" = some (.ref B)) (h1 : PySem.W.specialIn K (.ref B) "__getattribute__" = some (some (.builtin "type.__getattribute__"))) (h2 : PySem.W.readsIn K B (.type "type") = true)
    (h3 : PySem.W.findCls K (.ref B) (.type "type") "__init__" = some (.val (.builtin "ValueError.__init__"))) : BaseC K mg "ClaimError" (baseA mg) := by
  rw [baseA_of h]; exact ⟨h, h1, h2, h3⟩
end Lin
namespace Lin
open PySem L2
theorem kitOne_of {K : PySem.W.Frag} {C B : Addr} (h1 : PySem.W.hasDictIn K B = true) (h2 : PySem.W.typeIn K (.ref B) = some (.type "type")) (h3 : PySem.W.subIn K (.ref C) (.ref B) = some true) : PySem.W.kitOne K (.ref C) (.ref B) = some true := by
  obtain ⟨cd, hc, _⟩ := PySem.W.any_some h1
  unfold PySem.W.kitOne
  split
  · rfl
  · unfold PySem.W.kitCls
    simp [hc, h2, h3]
end Lin
end
section
namespace Lin
open PySem L2
/-! ### plain forms of the new parts -/
section
variable {E : EX} {Ec : EC} {S : Sg} {Q : D → Sg → Prop} {QF : Fl → Sg → Prop} {fa : Sg → R D} {fr : Sg → R (List D)} {f h : Sg → R Fl} {α : Type} {k c k' c' : Kd} {g : α → P} {xs : List α}
/-! a try -/
def raiV (P : V → Bool) (d : D) : Option V := match d with
  | .im v => if P v = true then some v else none
  | _ => none
theorem raiV_t {v : V} : raiV (fun _ => true) (.im v) = some v := rfl
def xfD (a : Addr) (o : Option V) (dd : D) : Option D := match dd, o with | .im (.ref b), some v => if b = a then some (D.im v) else none | _, _ => none
theorem xfD_some {a : Addr} {v : V} : xfD a (some v) (.im (.ref a)) = some (.im v) := by simp [xfD]
def isXD (a : Addr) (dd : D) : Option D := match dd with | .im (.ref b) => if b = a then some (B true) else none | _ => none
theorem isXD_a {a : Addr} : isXD a (.im (.ref a)) = some (B true) := by simp [isXD]
/-! an error on the way -/
end
end Lin
end
section
set_option maxHeartbeats 4000000
namespace Lin
open PySem PySem.Spec PyProof.Rows L2
/-! ### several clauses 'except x as n', one name for all -/
abbrev TsH := Addr → Value → Option Addr → TS
inductive HdsA (X : Cx) (n : Str) : List ExceptHandler → List (Value × TsH) → Prop
  | nil : HdsA X n [] []
  | cons {x : Str} {c : Value} {ts : TsH} {b₀ : Stmt} {suite : List Stmt} {np pos' : Pos} {hds : List ExceptHandler} {l : List (Value × TsH)} (hc : Names X x c)
      (hsu : ∀ (a : Addr) (oe : Obj) (cls : Value) (d : Option Addr) (pn : List (Addr × Obj)), Zc cls d oe → (∃ vs, oe.data = .fields vs) → PSs (X.suite a ((a, oe) :: pn)) (b₀ :: suite) (ts a cls d)) (r : HdsA X n hds l) :
      HdsA X n (.ExceptHandler (some (.Name x np)) (some n) (b₀ :: suite) pos' :: hds) ((c, ts) :: l)
section
variable {X : Cx} {n : Str} {i : Nat} {body : List Stmt} {h₀ : ExceptHandler} {hds : List ExceptHandler} {l : List (Value × TsH)} {pos : Pos} {tb : WX → TS} {Wout : WX}
end
end Lin
end
section
set_option maxHeartbeats 4000000
namespace Lin
open PySem L2
abbrev Clz := (Nat → Option Bool) × (Nat → List (Str × V) → Addr → Sg → R Fl)
inductive HdsQ (X : Cx) (g : Gc) (nm : Str) (Mz : List Nat) : List ExceptHandler → List Clz → Prop
  | nil : HdsQ X g nm Mz [] []
  | cons {x : Str} {c : Nat} {mt : Nat → Option Bool} {fh : Nat → List (Str × V) → Addr → Sg → R Fl} {b₀ : Stmt} {suite : List Stmt} {np pos' : Pos} {hds : List ExceptHandler} {l : List Clz} {Mh : List Nat} (hM : ∀ r ∈ Mh, r ∈ Mz) (hc : Names X x (.ref (g.cl c)))
      (hmt : ∀ c' b, mt c' = some b → PySem.W.exmOne X.K (.ref (g.cl c')) (.ref (g.cl c)) = some b)
      (hsu : ∀ (a : Addr) (oe : Obj) (c' : Nat) (d : Option Addr) (pn : List (Addr × Obj)) (fs : List (Str × V)), mt c' = some true → Zc (.ref (g.cl c')) d oe → (∃ vs, oe.data = .fields vs) → (d = none → fs = []) → QSs (X.suite a ((a, oe) :: pn)) (gPin g d fs) W0 Mh (b₀ :: suite) (fh c' fs a))
      (r : HdsQ X g nm Mz hds l) : HdsQ X g nm Mz (.ExceptHandler (some (.Name x np)) (some nm) (b₀ :: suite) pos' :: hds) ((mt, fh) :: l)
section
variable {X : Cx} {g : Gc} {W : WX} {Mb Mz : List Nat} {x nm : Str} {c i : Nat} {body : List Stmt} {h₀ : ExceptHandler} {hds : List ExceptHandler} {pos : Pos} {fb : Sg → R Fl} {l : List Clz}
end
end Lin
end
section
namespace Lin
open PySem L2
/-! plain -/
section
variable {E : EX} {S : Sg} {QF : Fl → Sg → Prop} {f : Sg → R Fl}
end
end Lin
end
section
namespace Lin
open PySem L2
/-! ### list * int -/
def dRep (a b : D) : Option D := match a, b with
  | .nd _ .lst xs, .im (.int k) => if 0 ≤ k ∧ k < 2 ^ 63 ∧ xs.length * k.toNat ≤ sizeLine then some (.nd .own .lst (List.replicate k.toNat (mkDL kFz xs)).flatten) else none
  | _, _ => none
theorem map_repl {α β : Type} (f : α → β) (k : Nat) (l : List α) : ((List.replicate k l).flatten).map f = (List.replicate k (l.map f)).flatten := by
  rw [List.map_flatten, List.map_replicate]
theorem cells_repl {g : Gc} {ts : List T} {k : Nat} {c : Cell} (h : c ∈ cellsL g (List.replicate k ts).flatten) : c ∈ cellsL g ts := by
  rw [cellsL_eq, List.mem_flatMap] at h ⊢
  obtain ⟨t, ht, hc⟩ := h
  rw [List.mem_flatten] at ht
  obtain ⟨l, hl, hl2⟩ := ht
  rw [List.eq_of_mem_replicate hl] at hl2
  exact ⟨t, hl2, hc⟩
theorem opm_rep {g : Gc} {n : Nat} : OpM g n rRep dRep := by
  intro Γ A ta tb σ H Q d Rr hn eo hq
  unfold dRep at eo
  split at eo
  · rename_i k xs j e1 e2
    split at eo
    · rename_i hz
      obtain ⟨h0, h1, h2⟩ := hz
      obtain ⟨a, dx, ts, rfl, h3⟩ := er_nd e1
      have et := er_im e2
      subst et
      cases eo
      have c1 : H a = some (.lst (ts.map T.root)) := Rr.top2.flat id
      refine ⟨a, j, _, rfl, rfl, c1, by omega, h1, by simpa [← h3] using h2, fun p hp => ?_⟩
      have R1 := (Rr.drop (by simp; omega)).freeze hn
      have noOwn : ∀ c ∈ cellsL g (mkL kFz ts), c.1 ≠ .own := fun c hc => by
        rw [cellsL_mk g _ (by first | rfl | decide), List.mem_map] at hc
        obtain ⟨c', _, rfl⟩ := hc
        dsimp only [kFz]
        split
        · exact fun z => nomatch z
        · assumption
      have R2 := R1.node (p := p) (ts := (List.replicate j.toNat (mkL kFz ts)).flatten) hn hp .lst 0 (fun c hc => ⟨0, _, rfl, by rw [T.mk]; exact child_sub.subset (cells_repl hc)⟩) ?_
      · have er : (List.replicate j.toNat (mkL kFz ts)).flatten.map T.root = (List.replicate j.toNat (ts.map T.root)).flatten := by rw [map_repl, roots_mk]
        have hoe : ho g .lst 0 ((List.replicate j.toNat (mkL kFz ts)).flatten.map T.root) = .lst (List.replicate j.toNat (ts.map T.root)).flatten := by rw [er]; rfl
        rw [hoe] at R2
        refine hq _ _ R2 ?_
        rw [T.er, erL_eq, map_repl, ← erL_eq, erL_mk, erL_eq, h3]
      · have : ownsC (cellsL g (List.replicate j.toNat (mkL kFz ts)).flatten) = [] := by
          rw [List.eq_nil_iff_forall_not_mem]
          intro x hx
          obtain ⟨c, hc, ho, _⟩ := mem_ownsC.mp hx
          exact noOwn c (cells_repl hc) ho
        rw [this]
        exact List.nil_sublist _
    · cases eo
  · cases eo
theorem bm_rep {X : Cx} {g : Gc} : BinM X g .Mult dRep := ⟨_, op_rep, opm_rep⟩
end Lin
end
section
set_option maxHeartbeats 4000000
namespace Lin
open PySem PySem.Spec PyProof.Rows L2
/-! ### set(..) of a list of ints -/
section
variable {P : Program} {w : World} {A : Around} {E : Value → Shared → Prop} {s : Shared}
end
end Lin
end
section
namespace Lin
open PySem PyProof.Rows L2
/-! ### sorted(set(e)), len(set(e)), e a list of ints -/
def rSetL (K : PySem.W.Frag) (w : World) : List V → Hp → VK → Prop := fun vs H Q => ∃ (p : Addr) (ns : List Int), vs = [V.ref p] ∧ SqL K H p (ns.map V.int) ∧ ns.length < 60 ∧
  ∀ (a : Addr) (n : Nat), n ≤ ns.length → H a = none → Q (.ref a) (upd H a (SetO w a (fun j => decide (j ∈ ns)) n))
section
variable {X : Cx} {g : Gc} {W : WX} {M1 : List Nat} {e : Expr} {p p2 pos pos2 : Pos} {fr : Sg → R (List D)}
end
end Lin
end
section
namespace Lin
open PySem PyProof.Rows L2
/-! ### tuple(range(n)) -/
section
variable {g : Gc} {n : Nat} {W : WX} {Γ : Gh} {A B : List (Option T)} {σ : L2.St} {H : Hp} {M1 : List Nat}
end
section
variable {X : Cx} {g : Gc} {W : WX} {M1 : List Nat} {a : Expr} {p p1 p3 pos : Pos} {fa : Sg → R D}
end
end Lin
end
section
namespace Lin
open PySem PyProof.Rows L2
section
variable {X : Cx} {g : Gc} {W : WX} {Mz M1 M2 : List Nat} {a b : Expr} {pos : Pos} {fp : Sg → R (List Nat)} {fb : Sg → R D} {r : Nat}
end
end Lin
end
section
namespace Lin
open PySem L2
/-! ### a call with owned temps by reference -/
structure Back0 (g : Gc) (H H' : Hp) (ts : List T) (t : T) (us : List T) : Prop where
  frame : ∀ a o, H a = some o → (∀ ps, o ≠ .tbl ps) → a ∉ ownsC (cellsL g ts) → H' a = some o
  hold : ∀ c ∈ t.cells g ++ cellsL g us, Hd H' c
  kind : ∀ c ∈ t.cells g ++ cellsL g us, c.1 = .own ∨ c.1 = .frz
  nd : (ownsC (t.cells g ++ cellsL g us)).Nodup
  sep : ∀ c ∈ t.cells g ++ cellsL g us, ∀ d ∈ t.cells g ++ cellsL g us, c.1 = .own → d.2.1 = c.2.1 → d.1 = .own
  own : ∀ c ∈ t.cells g ++ cellsL g us, ¬ HTup c.2.2 → c.2.1 ∈ ownsC (cellsL g ts) ∨ Nw H c.2.1 ∨ (c.1 = .frz ∧ ∃ d ∈ cellsL g ts, d.1 = .frz ∧ d.2.1 = c.2.1 ∧ ¬ HTup d.2.2)
  tab : LamX.Tabs g.T H'
theorem cellsL_sub {g : Gc} {us us' : List T} (h : us'.Sublist us) : (cellsL g us').Sublist (cellsL g us) := by
  rw [cellsL_eq, cellsL_eq]
  induction h with
  | slnil => exact List.Sublist.refl _
  | cons a _ ih => rw [List.flatMap_cons]; exact ih.trans (List.sublist_append_right _ _)
  | cons_cons a _ ih => rw [List.flatMap_cons, List.flatMap_cons]; exact List.Sublist.append (List.Sublist.refl _) ih
theorem BackOk.cut {g : Gc} {H H' : Hp} {mr : List Bool} {ts us us' : List T} {t : T} (b : BackOk g H H' mr ts t us) (h : us'.Sublist us) : Back0 g H H' ts t us' := by
  have s : (t.cells g ++ cellsL g us').Sublist (t.cells g ++ cellsL g us) := List.Sublist.append (List.Sublist.refl _) (cellsL_sub h)
  exact ⟨b.frame, fun c hc => b.hold c (s.subset hc), fun c hc => b.kind c (s.subset hc), (owns_sublist s).nodup b.nd, fun c hc d hd => b.sep c (s.subset hc) d (s.subset hd), fun c hc => b.own c (s.subset hc), b.tab⟩
abbrev Rt := Option (Option Nat)
def rjoin (rs : List Rt) : List (Option Nat) := rs.map Option.join
def rdum (rs : List Rt) : List (Option Nat) := rs.map fun o => o.map fun _ => 0
def rslots (rs : List Rt) : List Nat := (rjoin rs).filterMap id
def keepU {α : Type} : List Rt → List α → List α
  | none :: rs, us => keepU rs us
  | some none :: rs, _ :: us => keepU rs us
  | some (some _) :: rs, u :: us => u :: keepU rs us
  | _, _ => []
section
variable {g : Gc} {n : Nat} {W : WX} {Γ : Gh} {A A' A'' B : List (Option T)} {σ : L2.St} {H H' : Hp} {t : T} {M M1 M2 M3 : List Nat}
def backT (rs : List Rt) (ms : List D) (S : Sg) : Sg := setAll S (rslots rs) ((keepU rs ms).map some)
end
section
variable {X : Cx} {g : Gc} {W : WX} {M1 : List Nat} {e : Expr} {es : List Expr} {pos p : Pos} {fr : Sg → R (List D)} {rs : List Rt} {x : Str} {ps : List Str} {k : Nat} {sem : FSem}
end
section
variable {E : EX} {S : Sg} {Q : D → Sg → Prop} {fr : Sg → R (List D)}
end
end Lin
end
section
namespace Lin
open PySem L2
/-! ### plain forms: paths x[i] -/
section
variable {E : EX} {S : Sg} {Q : D → Sg → Prop} {QP : List Nat → Sg → Prop} {QF : Fl → Sg → Prop} {fb fe : Sg → R D} {fp : Sg → R (List Nat)} {fr : Sg → R (List D)} {M2 : List Nat} {r : Nat} {α : Type} {g : α → P} {xs : List α} {k c : Kd}
end
end Lin
end
section
namespace Lin
open PySem PyProof.Rows L2
/-! ### {k: v}, k a tuple of ints and texts -/
section
variable {g : Gc} {n : Nat} {W : WX} {M1 : List Nat}
end
section
variable {X : Cx} {g : Gc} {W : WX} {M1 : List Nat} {pos : Pos} {fr : Sg → R (List D)}
end
/-! ### what is walked: a list or a tuple -/
section
variable {g : Gc} {n : Nat} {W : WX} {M1 : List Nat}
end
section
variable {X : Cx} {g : Gc} {W : WX} {M1 : List Nat} {tg a : Expr} {fa : Sg → R D}
end
section
variable {E : EX} {S : Sg} {Q : D → Sg → Prop} {fa : Sg → R D} {fr : Sg → R (List D)} {α : Type} {g : α → P} {xs : List α} {k c : Kd}
end
end Lin
end
section
namespace Lin
open PySem L2
/-! ### a temp is frozen -/
section
variable {g : Gc} {n : Nat} {W : WX} {M1 : List Nat}
end
section
variable {X : Cx} {g : Gc} {W : WX} {M1 : List Nat} {a : Expr} {fa : Sg → R D}
end
section
variable {E : EX} {S : Sg} {Q : D → Sg → Prop} {fa : Sg → R D}
end
theorem backT_nil (ms : List D) (S : Sg) : backT [] ms S = S := by
  unfold backT rslots rjoin
  cases keepU [] ms <;> rfl
theorem backT_val (rs : List Rt) (ms : List D) (S : Sg) : backT (none :: rs) ms S = backT rs ms S := by
  simp [backT, rslots, rjoin, keepU]
theorem backT_tmp (rs : List Rt) (m : D) (ms : List D) (S : Sg) : backT (some none :: rs) (m :: ms) S = backT rs ms S := by
  simp [backT, rslots, rjoin, keepU]
theorem backT_ref (rs : List Rt) (r : Nat) (m : D) (ms : List D) (S : Sg) : backT (some (some r) :: rs) (m :: ms) S = backT rs ms (S.set r (some m)) := by
  simp [backT, rslots, rjoin, keepU, setAll]
theorem rdum_nil : rdum [] = [] := rfl
theorem rdum_none (rs : List Rt) : rdum (none :: rs) = none :: rdum rs := rfl
theorem rdum_cons (o : Option Nat) (rs : List Rt) : rdum (some o :: rs) = some 0 :: rdum rs := rfl
end Lin
end
section
set_option maxHeartbeats 2000000
namespace Lin
open PySem PySem.Spec PyProof.Rows L2 LamX
/-! ### a lambda with one parameter, called by the def that got it -/
structure Lam1 (sc scope : Scope) (y : Str) : Prop where
  kind : scope.kind = .function
  co : scope.isCoroutine = false
  gen : scope.isGenerator = false
  nocell : ∀ z ∈ scope.names, z.2 ≠ .cell
  loc : ∀ z ∈ scope.names, z.2 = .local → z.1 = y
  par : scope.names.lookup y = some .local
  free : ∀ z ∈ scope.names, z.2 = .free → sc.names.lookup z.1 = some .cell ∨ sc.names.lookup z.1 = some .free
theorem Lam1.has {X : Cx} {scope : Scope} {y : Str} (L : Lam1 X.env.scope scope y) (ok : X.Ok) : ∀ z ∈ scope.names, z.2 = .free → ∃ c, X.env.cells.lookup z.1 = some c := fun z hz e =>
  (L.free z hz e).elim (fun q => ok.has _ (.inl q)) fun q => ok.has _ (.inr q)
section
variable {X : Cx} {pins : List (Addr × Obj)} {σ : L2.St} {H HZ : Hp} {s s1 : Shared} {y : Str}
end
end Lin
end
section
set_option maxHeartbeats 2000000
namespace Lin
open PySem PySem.Spec PyProof.Rows L2 LamX
/-! ### what a lambda means: the names that it sees are the maker's, handed over -/
mutual
/-- the marks of all but tuples -/
def D.knt : D → List Kd
  | .im _ => []
  | .nd _ .tup ds => kntL ds
  | .nd k .lst ds => k :: kntL ds
  | .nd k (.dic _) ds => k :: kntL ds
  | .nd k (.dtu _) ds => k :: kntL ds
  | .nd k (.obj _ _) ds => k :: kntL ds
  | .nd k (.xd _) ds => k :: kntL ds
  | .nd k .scr ds => .frz :: kntL ds
def kntL : List D → List Kd
  | [] => []
  | d :: r => d.knt ++ kntL r
end
def ownD (d : D) : Bool := d.knt.all fun k => k == .own
def cClo (i : Nat) (f : Addr) (F : D → Rc) (fa : Sg → R D) : Sg → R D := fun S => match S[i]? with
  | some (some (.im (.ref f'))) => if f' = f then (fa S).bind fun d S1 => match F d with
      | .ok r _ => .ok r S1
      | .exc c r _ => .exc c r S1
      | .bad => .bad
    else .bad
  | _ => .bad
def capS (S : Sg) : Sg := S.map (Option.map (D.mk kPar))
/-- another ghost -/
def gPh (g : Gc) (ph : Gh → Prop) : Gc := ⟨g.cl, g.scr, ph, g.T, g.sane⟩
theorem ho_ph (g : Gc) (ph : Gh → Prop) (s : Sh) (dx : Addr) (vs : List V) : ho (gPh g ph) s dx vs = ho g s dx vs := by cases s <;> rfl
mutual
theorem cells_ph (g : Gc) (ph : Gh → Prop) : ∀ t : T, t.cells (gPh g ph) = t.cells g
  | .im _ => rfl
  | .nd a k s dx ts => by rw [T.cells, T.cells, ho_ph, cellsL_ph g ph ts]
theorem cellsL_ph (g : Gc) (ph : Gh → Prop) : ∀ ts : List T, cellsL (gPh g ph) ts = cellsL g ts
  | [] => rfl
  | t :: r => by rw [cellsL, cellsL, cells_ph g ph t, cellsL_ph g ph r]
end
theorem cellAt_ph {g : Gc} {ph : Gh → Prop} {A : List (Option T)} {i : Nat} {c : Cell} : CellAt (gPh g ph) A i c ↔ CellAt g A i c := by
  unfold CellAt
  simp only [cells_ph]
theorem Rel.ph {g : Gc} {ph : Gh → Prop} {Γ : Gh} {n : Nat} {A : List (Option T)} {σ : L2.St} {H : Hp} (R : Rel (gPh g ph) Γ n A σ H) (h : g.ph Γ) : Rel g Γ n A σ H :=
  ⟨R.len, R.slen, R.val, fun i c x => R.hold i c (cellAt_ph.mpr x), fun i c r x => R.lab i c r (cellAt_ph.mpr x), fun i u e => by have := R.nd i u e; rw [cells_ph] at this; exact this, fun i j c e x y => R.sep i j c e (cellAt_ph.mpr x) (cellAt_ph.mpr y), R.frame,
    fun i c x => R.gown i c (cellAt_ph.mpr x), fun i c x => R.gfrz i c (cellAt_ph.mpr x), h, R.tab, R.lck⟩
def cloH (g : Gc) (caps : List (Option T)) (cc : Addr) (q : Str) (Γ : Gh) : Prop := (∀ t, some t ∈ caps → ∀ c ∈ t.cells g, Hd Γ.H0 c ∧ ¬ Γ.W c.2.1) ∧ Γ.H0 cc = some (CodeO cc q) ∧ ¬ Γ.W cc
def gClo (g : Gc) (caps : List (Option T)) (cc : Addr) (q : Str) : Gc := gPh g (cloH g caps cc q)
section
variable {g : Gc} {caps : List (Option T)} {cc : Addr} {q : Str} {Γ : Gh} {n nm : Nat} {A : List (Option T)} {σ σm : L2.St} {H : Hp} {t : T}
end
section
variable {g : Gc} {caps : List (Option T)} {cc : Addr} {q : Str} {n nm : Nat} {σm : L2.St} {W : WX} {M1 Mb : List Nat}
end
end Lin
end
section
set_option maxHeartbeats 2000000
namespace Lin
open PySem PySem.Spec PyProof.Rows L2 LamX
section
variable {g : Gc} {Γ : Gh} {n : Nat} {A : List (Option T)} {σ : L2.St} {H H1 : Hp} {cc : Addr} {q : Str}
/-- the tables have grown -/
theorem Rel.growN (R : Rel g Γ n A σ H) (e : ExtN H H1) (t : Tabs g.T H1) : Rel g Γ n A σ H1 :=
  ⟨R.len, R.slen, R.val, fun i c x => (R.hold i c x).extN (cellAt_sane x) fun o q k => e _ o q k, R.lab, R.nd, R.sep, fun a o h1 h3 h2 => e _ _ (R.frame a o h1 h3 h2) h3, R.gown, R.gfrz, R.pin, t, fun a p q => ⟨e _ _ (R.lck a p q).1 (fun ps z => nomatch z), (R.lck a p q).2⟩⟩
/-- a code object, held fast -/
def ghCode (Γ : Gh) (cc : Addr) (q : Str) : Gh := ⟨fun b => if b = cc then some (CodeO cc q) else Γ.H0 b, fun b => Γ.W b ∧ b ≠ cc, Γ.F, Γ.L⟩
theorem Rel.codeIn (hph : ∀ Γ, g.ph Γ) (R : Rel g Γ n A σ H) (h : H cc = some (CodeO cc q)) : Rel g (ghCode Γ cc q) n A σ H := by
  have ne : ∀ {i c}, CellAt g A i c → c.2.1 ≠ cc := fun {i c} x z => by
    obtain ⟨o, h1, _, h2⟩ := (R.hold i c x).ntab (cellAt_sane x)
    rw [z, h] at h1
    exact h2 _ _ (Option.some.inj h1).symm
  refine ⟨R.len, R.slen, R.val, R.hold, R.lab, R.nd, R.sep, fun a o h1 h3 h2 => ?_, fun i c x => ?_, fun i c x k nt => ?_, hph _, R.tab, R.lck⟩
  · dsimp only [ghCode] at h1 h2
    by_cases e : a = cc
    · rw [if_pos e] at h1
      cases h1
      rw [e]; exact h
    · rw [if_neg e] at h1
      exact R.frame a o h1 h3 fun z => h2 ⟨z, e⟩
  · rcases R.gown i c x with z | z | z | z
    · exact .inl z
    · exact .inr (.inl z)
    · exact .inr (.inr (.inl ⟨z, ne x⟩))
    · refine .inr (.inr (.inr ?_))
      dsimp only [ghCode, Nw] at z ⊢
      rw [if_neg (ne x)]; exact z
  · rcases R.gfrz i c x k nt with z | z | z
    · exact .inl ⟨z, ne x⟩
    · refine .inr (.inl ?_)
      dsimp only [ghCode, Nw] at z ⊢
      rw [if_neg (ne x)]; exact z
    · exact .inr (.inr z)
end
end Lin
end
section
set_option maxHeartbeats 2000000
namespace Lin
open PySem PySem.Spec PyProof.Rows L2 LamX
/-! ### x(lambda y: body, e..): a lambda handed to a def -/
section
variable {g : Gc} {ph : Gh → Prop} {H H' : Hp} {v : V} {l us : List T} {t : T} {m : Nat}
end
section
variable {X : Cx} {g : Gc} {W : WX} {M1 Mb Mc : List Nat}
end
end Lin
end
section
set_option maxHeartbeats 2000000
namespace Lin
open PySem PySem.Spec PyProof.Rows L2 LamX
/-! ### promises do not hang on the ghost -/
section
variable {g : Gc} {pz : Gh → Prop}
theorem callOk_ph {H : Hp} {mr : List Bool} {ts : List T} : CallOk (gPh g pz) H mr ts ↔ CallOk g H mr ts := by
  constructor
  · rintro ⟨c1, c2, c3, c4, c5, c6⟩
    simp only [cells_ph, cellsL_ph] at c2 c3 c4 c5
    exact ⟨c1, c2, c3, c4, c5, c6⟩
  · rintro ⟨c1, c2, c3, c4, c5, c6⟩
    refine ⟨c1, ?_, ?_, ?_, ?_, c6⟩ <;> simp only [cells_ph, cellsL_ph] <;> assumption
theorem backOk_ph {H H' : Hp} {mr : List Bool} {ts us : List T} {t : T} : BackOk (gPh g pz) H H' mr ts t us ↔ BackOk g H H' mr ts t us := by
  constructor
  · rintro ⟨c1, c2, c3, c4, c5, c6, c7, c8⟩
    simp only [cells_ph, cellsL_ph] at c1 c2 c3 c4 c5 c6
    exact ⟨c1, c2, c3, c4, c5, c6, c7, c8⟩
  · rintro ⟨c1, c2, c3, c4, c5, c6, c7, c8⟩
    refine ⟨?_, ?_, ?_, ?_, ?_, ?_, c7, c8⟩ <;> simp only [cells_ph, cellsL_ph] <;> assumption
theorem spOf_ph {mr : List Bool} {sem : FSem} : spOf (gPh g pz) mr sem = spOf g mr sem := by
  funext vs H Q E
  unfold spOf
  simp only [callOk_ph, backOk_ph]
  rfl
section
variable {P : Program} {w : World} {K : PySem.W.Frag} {mg : Str → Option Value} {base : Heap} {k c : Nat} {x m : Str} {ps : List Str} {mr : List Bool} {sem : FSem}
theorem Df.ph (h : Df P w K mg base g x ps k mr sem) (ph : Gh → Prop) : Df P w K mg base (gPh g ph) x ps k mr sem := by
  unfold Df at h ⊢
  rw [spOf_ph (pz := ph)]; exact h
theorem Dm.ph (h : Dm P w K mg base g c m ps k mr sem) (ph : Gh → Prop) : Dm P w K mg base (gPh g ph) c m ps k mr sem := by
  unfold Dm at h ⊢
  rw [spOf_ph (pz := ph)]; exact h
theorem Dk.ph (h : Dk P w K mg base g c x ps k mr sem) (ph : Gh → Prop) : Dk P w K mg base (gPh g ph) c x ps k mr sem := by
  unfold Dk at h ⊢
  rw [spOf_ph (pz := ph)]; exact h
theorem Dl.ph (h : Dl P w K mg base g c k sem) (ph : Gh → Prop) : Dl P w K mg base (gPh g ph) c k sem := by
  unfold Dl at h ⊢
  rw [spOf_ph (pz := ph)]; exact h
theorem Dp.ph (h : Dp P w K mg base g c m k sem) (ph : Gh → Prop) : Dp P w K mg base (gPh g ph) c m k sem := by
  unfold Dp at h ⊢
  rw [spOf_ph (pz := ph)]; exact h
theorem Do.ph (h : Do P w K mg base g c ps k mr sem) (ph : Gh → Prop) : Do P w K mg base (gPh g ph) c ps k mr sem := by
  unfold Do at h ⊢
  rw [spOf_ph (pz := ph)]; exact h
theorem Dx.ph {f : Str} {Pv : V → Bool} (h : Dx P w K mg base g c x f Pv) (ph : Gh → Prop) : Dx P w K mg base (gPh g ph) c x f Pv := h
end
end
/-! ### a def that makes lambdas: its code object is known -/
section
variable {P : Program} {w : World} {K : PySem.W.Frag} {mg : Str → Option Value} {base : Heap} {g : Gc}
end
section
variable {X : Cx} {g : Gc} {W : WX} {M1 Mb : List Nat}
end
end Lin
end
section
set_option maxHeartbeats 2000000
namespace Lin
open PySem PySem.Spec PyProof.Rows L2 LamX
/-! ### default arguments -/
section
variable {g : Gc} {n : Nat} {W : WX} {M : List Nat} {Γ : Gh} {A : List (Option T)} {σ : L2.St} {H : Hp}
end
/-- a def with default arguments, the last ones left out -/
def Dd (P : Program) (w : World) (K : PySem.W.Frag) (mg : Str → Option Value) (base : Heap) (g : Gc) (x : Str) (ps : List Str) (k : Nat) (mr : List Bool) (sem : FSem) (dvs : List V) : Prop :=
  ∃ f fd ds, FnOk P w K mg base (L2.CX P w) k f fd ps (spOf g mr sem) ∧ mg x = some (.ref f) ∧ PySem.W.keepIn K (.ref f) = true ∧ Binds K fd ps ds ∧ Vals dvs ds
theorem Dd.ph {P : Program} {w : World} {K : PySem.W.Frag} {mg : Str → Option Value} {base : Heap} {g : Gc} {x : Str} {ps : List Str} {k : Nat} {mr : List Bool} {sem : FSem} {dvs : List V} (h : Dd P w K mg base g x ps k mr sem dvs) (pz : Gh → Prop) : Dd P w K mg base (gPh g pz) x ps k mr sem dvs := by
  unfold Dd at h ⊢
  rw [spOf_ph (pz := pz)]; exact h
section
variable {X : Cx} {g : Gc} {W : WX} {M1 M2 M3 M4 Mz : List Nat} {x : Str} {ps : List Str} {k : Nat} {e a b c d : Expr} {es : List Expr} {p pos p2 pos2 : Pos} {fr : Sg → R (List D)} {rs : List (Option Nat)} {sem : FSem} {dvs : List V} {fa fb fc fd : Sg → R D}
/-! ### a op b op c op d -/
end
section
variable {g : Gc} {n : Nat} {W : WX} {M1 M2 M3 M4 : List Nat}
end
section
variable {X : Cx} {g : Gc} {W : WX} {M1 M2 M3 M4 Mz : List Nat} {a b c d e : Expr} {p pos p2 pos2 : Pos} {fa fb fc fd : Sg → R D} {fr : Sg → R (List D)}
end
/-! ### len(set(e)), e a list of ints -/
section
variable {X : Cx} {g : Gc} {W : WX} {M1 : List Nat} {e : Expr} {p p2 pos pos2 : Pos} {fr : Sg → R (List D)}
end
/-! ### a def with default arguments -/
def FunD (K : PySem.W.Frag) (x qual : Str) (st : Stmt) (f : Addr) (fd : FuncData) (td : Addr) : Prop :=
  ∃ (oc : Value) (od : Option Addr) (kV doc pm : Value) (an : Option Addr) (cdv ct : Value) (osl : Array (Option Value)),
    fd = PySem.W.fnOf x qual (defArgs st) (defBody st) (defScope st) (.ref td) kV doc pm an cdv ct ∧ K.lookup f = some ⟨oc, od, .func fd, osl⟩ ∧ PySem.W.codeIn K cdv qual = true
theorem FunD.binds {K : PySem.W.Frag} {x qual : Str} {st : Stmt} {f td : Addr} {fd : FuncData} {ps : List Str} {o : Obj} {items : Array Value} {n m : Nat} {ds : List Value} (F : FunD K x qual st f fd td) (ho : K.lookup td = some o) (hs : o.data = .seq items n)
    (h : ∀ (kV doc pm : Value) (an : Option Addr) (cdv ct : Value) (us : List Value), us.length = m → ∃ k, bindArgs (PySem.W.fnOf x qual (defArgs st) (defBody st) (defScope st) (.ref td) kV doc pm an cdv ct) ⟨us, []⟩ = seqItems? (.ref td) >>= k ∧ k (some items) = pure (ps.zip (us ++ ds))) (hm : m + ds.length = ps.length := by rfl) : Binds K fd ps ds := by
  obtain ⟨oc, od, kV, doc, pm, an, cdv, ct, osl, rfl, lk, hcd⟩ := F
  intro s us KX hl
  obtain ⟨k, h1, h2⟩ := h kV doc pm an cdv ct us (by rw [List.length_append] at hl; omega)
  exact PySem.W.binds_K KX rfl ho hs h1 h2
section
variable {P : Program} {w : World} {K : PySem.W.Frag} {mg : Str → Option Value} {base : Heap} {g : Gc}
end
end Lin
end
section
namespace Lin
open PySem L2
section
variable {E : EX} {Ec : EC} {S : Sg} {Q : D → Sg → Prop} {QL : List D → Sg → Prop} {fa fb fc fd : Sg → R D} {fr : Sg → R (List D)}
theorem cap_nil : capS [] = [] := rfl
theorem cap_none (S : Sg) : capS (none :: S) = none :: capS S := rfl
theorem cap_some (d : D) (S : Sg) : capS (some d :: S) = some (d.mk kPar) :: capS S := rfl
theorem own_im (v : V) : ownD (.im v) = true := rfl
end
end Lin
end
section
set_option maxHeartbeats 2000000
namespace Lin
open PySem L2
/-! ### two temps change places -/
section
variable {g : Gc} {n : Nat} {W : WX} {Γ : Gh} {A : List (Option T)} {σ : L2.St} {M2 M3 : List Nat}
end
end Lin
end
section
set_option maxHeartbeats 2000000
namespace Lin
open PySem L2
/-! ### comprehensions with two fors -/
section
variable {g : Gc} {n : Nat} {W : WX} {M1 : List Nat}
end
section
variable {X : Cx} {g : Gc} {W : WX} {M1 Mz : List Nat} {a tg iter tg1 iter1 : Expr} {pos : Pos} {fa : Sg → R D} {ft ft1 : Sg → R Bool}
end
end Lin
end
section
namespace Lin
open PySem L2
section
variable {E : EX} {S : Sg} {Q : D → Sg → Prop} {QL : List D → Sg → Prop} {fe : Sg → R D} {ft ft1 : Sg → R Bool} {fi fi1 : Sg → R (D × List D)} {tg tg1 : D → Sg → Option Sg}
end
end Lin
end
section
namespace Lin
open PySem L2 PyProof.Rows HT
/-! ### x in xs, deep -/
section
variable {g : Gc} {n : Nat}
/-! ### x is a truth -/
end
section
variable {X : Cx} {g : Gc} {W : WX}
end
/-! ### t[::-1] of a tuple -/
section
variable {prog : Program} {w : World} {A : Around} {E : Value → Shared → Prop} {s : Shared}
end
section
variable {X : Cx}
end
section
variable {g : Gc} {n : Nat}
end
section
variable {X : Cx} {g : Gc} {W : WX} {M1 : List Nat} {a : Expr} {fa : Sg → R D}
end
end Lin
end
section
namespace Lin
open PySem L2
/-! ### a method of a variable, whose arguments change the variable -/
section
variable {g : Gc} {n : Nat} {W : WX} {M M1 M2 : List Nat}
end
section
variable {Mz : List Nat} {X : Cx} {g : Gc} {W : WX} {M1 M2 : List Nat} {e : Expr} {pos p apos : Pos} {fr : Sg → R (List D)}
end
end Lin
end
section
namespace Lin
open PySem L2 PyProof.Rows PySem.W
/-! ### operators that an own class defines: an instance and a whole number -/
structure OpO (K : PySem.W.Frag) (C f : Addr) (op : Operator) : Prop where
  first : PySem.W.selfFirst K C = true
  at_ : PySem.W.findIn K (.ref C) (PySem.dunder op.info.2) = some (some (.ref f))
  fn : PySem.W.isFn K (.ref f) = true
  rc : PySem.W.findIn K (.ref C) (PySem.dunderR op.info.2) = some none
  ti : ∃ fo, PySem.W.findIn K (.type "int") (PySem.dunder op.info.2) = some fo
  tr : ∃ ro, PySem.W.findIn K (.type "int") (PySem.dunderR op.info.2) = some ro
  sub : PySem.W.subIn K (.type "int") (.ref C) = some false
  mro : ∃ cd, PySem.W.clsIn K C = some cd ∧ cd.mro = [.ref C, .type "object"]
  inp : PySem.W.findIn K (.ref C) (PySem.dunderI op.info.2) = some none
  ino : PySem.W.findIn K (.type "object") (PySem.dunderI op.info.2) = some none
section
variable {prog : Program} {w : World} {M : Model} {A : Around} {E : Value → Shared → Prop} {s : Shared} {K : PySem.W.Frag} {x C L f : Addr} {h₀ : Heap} {m : Str → Option Value} {ox : Obj} {od : Option Obj} {nm : String}
end
section
variable {X : Cx} {k : Nat} {f C : Addr} {fd : FuncData} {ps : List Str} {sp : Sp} {E : L2.St → XK} {x m : Str} {p pos apos pos' : Pos} {a b e : Expr} {ta tb : TE}
end
section
variable {Mz : List Nat} {X : Cx} {g : Gc} {W : WX} {M1 M2 : List Nat} {a b : Expr} {pos pos' : Pos} {fa fb : Sg → R D} {cn k : Nat} {ps : List Str} {sem : FSem} {op : Operator}
end
end Lin
end
section
namespace Lin
open PySem L2
/-! ### xs.index(y) -/
section
variable {g : Gc} {n : Nat} {W : WX} {M1 M2 : List Nat}
end
section
variable {Mz : List Nat} {X : Cx} {g : Gc} {W : WX} {M1 M2 : List Nat} {a b o e : Expr} {pos apos : Pos} {fa fb : Sg → R D}
end
/-! ### xs[::-1] -/
section
variable {g : Gc} {n : Nat}
end
section
variable {X : Cx} {g : Gc} {W : WX} {M1 : List Nat} {a : Expr} {fa : Sg → R D}
end
/-! ### a, b = x, y -/
section
variable {g : Gc} {n : Nat} {W : WX} {M1 : List Nat}
end
section
variable {Mz : List Nat} {X : Cx} {g : Gc} {W : WX} {M1 : List Nat} {a b : Expr} {pos px py pt : Pos} {fr : Sg → R (List D)}
end
section
variable {E : EX} {S : Sg} {QF : Fl → Sg → Prop} {fr : Sg → R (List D)} {zi zj : Bool} {i j : Nat}
end
/-! ### y = [.. two fors ..] -/
section
variable {X : Cx} {g : Gc} {W : WX} {M1 Mz : List Nat} {a tg iter tg1 iter1 : Expr} {py spos pos : Pos} {fa : Sg → R D} {ft ft1 : Sg → R Bool}
end
end Lin
end
section
namespace Lin
open PySem L2
/-! ### for x in r, where the body changes x: the item is taken out of r for the turn, an address stands in its place -/
section
variable {g : Gc} {n : Nat} {W : WX} {M2 : List Nat}
end
end Lin
end
section
namespace Lin
open PySem PyProof.Rows L2
/-! ### a part of a slot's tree becomes another slot's own; the part stays where it was, as one that is lent -/
section
variable {g : Gc} {Γ : Gh} {n : Nat} {A A' A'' B : List (Option T)} {σ : L2.St} {H H' : Hp} {t : T} {W : WX} {M M1 M2 : List Nat}
end
/-! ### paths: a dict's value, a field -/
section
variable {g : Gc} {Γ : Gh} {n : Nat} {A A' A'' B : List (Option T)} {σ : L2.St} {H H' : Hp} {t : T} {W : WX} {M M1 M2 : List Nat}
end
section
variable {X : Cx} {g : Gc} {W : WX} {Mz M1 M2 : List Nat} {a b e : Expr} {pos pos' : Pos} {fp : Sg → R (List Nat)} {fb : Sg → R D} {r : Nat}
end
end Lin
end
section
namespace Lin
open PySem PyProof.Rows L2
/-! ### range with a step of -1 -/
section
variable {g : Gc} {n : Nat} {W : WX} {Γ : Gh} {A A' A'' B : List (Option T)} {σ : L2.St} {H H' : Hp} {t : T} {M M1 M2 M3 : List Nat}
end
section
variable {X : Cx} {g : Gc} {W : WX} {M1 : List Nat} {tg a b c : Expr} {p pos : Pos} {fr : Sg → R (List D)}
end
section
variable {g : Gc} {n : Nat} {W : WX} {Γ : Gh} {A A' A'' B : List (Option T)} {σ : L2.St} {H H' : Hp} {t : T} {M M1 M2 M3 : List Nat}
/-! ### a key tuple -/
/-! ### a dict is locked while it is walked over -/
end
end Lin
end
section
namespace Lin
open PySem PySem.Spec PyProof.Rows L2
/-! ### a dict is walked over: it is locked meanwhile -/
section
variable {X : Cx}
end
/-! ### its meaning -/
section
variable {g : Gc} {n : Nat} {W : WX} {Γ : Gh} {A A' A'' B : List (Option T)} {σ : L2.St} {H H' : Hp} {t : T} {M M1 M2 M3 : List Nat}
end
end Lin
end
section
namespace Lin
open PySem PySem.Spec PyProof.Rows L2
section
variable {g : Gc} {n : Nat} {W : WX} {Γ : Gh} {A A' A'' B : List (Option T)} {σ : L2.St} {H H' : Hp} {t : T} {M M1 M2 M3 : List Nat}
end
section
variable {X : Cx} {g : Gc} {W : WX} {Mz M1 M2 : List Nat} {tg iter : Expr} {sts : List Stmt} {pos : Pos} {fa : Sg → R D} {f1 : Sg → R Fl}
end
end Lin
end
section
namespace Lin
open PySem PySem.Spec PyProof.Rows L2
section
variable {g : Gc} {n : Nat} {W : WX} {Γ : Gh} {A : List (Option T)} {σ : L2.St} {M1 M2 M3 : List Nat}
end
section
variable {X : Cx} {g : Gc} {W : WX} {Mz M1 M2 M3 : List Nat} {tg iter a : Expr} {pos : Pos} {fa fe : Sg → R D} {ft : Sg → R Bool}
end
end Lin
end
section
namespace Lin
open PySem L2
/-! ### plain forms: keys and fields in paths, keeping what is stolen, range(.., .., -1), loops over dicts -/
section
variable {E : EX} {S : Sg} {Q : D → Sg → Prop} {QP : List Nat → Sg → Prop} {QF : Fl → Sg → Prop} {fa fb fe : Sg → R D} {f : Sg → R Fl} {ft : Sg → R Bool} {fp : Sg → R (List Nat)} {fr : Sg → R (List D)} {M M2 : List Nat} {r x : Nat}
end
end Lin
end
section
namespace Lin
open PySem L2
/-! ### for x in r, where x changes -/
section
variable {X : Cx} {g : Gc} {W : WX} {M2 Mz : List Nat} {sts : List Stmt} {f1 : Sg → R Fl} {x y : Str} {px py pos : Pos}
end
end Lin
end
section
namespace Lin
open PySem PySem.Spec PyProof.Rows L2
/-! ### {k: v for .. in ..}, keys ints, texts or tuples of them -/
section
variable {Y : Cx}
end
/-! ### the meaning -/
section
variable {g : Gc} {n : Nat} {W : WX} {Γ : Gh} {A : List (Option T)} {σ : L2.St} {M1 M2 M3 M4 : List Nat}
def Dk0 (sh : Sh) : Prop := sh = .dic [] ∨ sh = .dtu []
theorem Dk0.x {sh : Sh} (h : Dk0 sh) : (∃ ks, sh = .dic ks) ∨ ∃ ks, sh = .dtu ks := h.imp (fun e => ⟨_, e⟩) fun e => ⟨_, e⟩
theorem Dk0.o {sh : Sh} (h : Dk0 sh) : ho g sh 0 [] = .dK [] ∨ ho g sh 0 [] = .dT [] := h.imp (fun e => by rw [e]; rfl) fun e => by rw [e]; rfl
end
section
variable {X : Cx} {g : Gc} {W : WX} {Mz M1 M2 M3 M4 : List Nat} {tg iter kx vx : Expr} {pos : Pos} {ft : Sg → R Bool} {fk fv : Sg → R D}
end
section
variable {X : Cx} {g : Gc} {W : WX} {Mz M1 M2 M3 M4 : List Nat} {tg iter kx vx : Expr} {ft : Sg → R Bool} {fk fv : Sg → R D}
end
section
variable {E : EX} {S : Sg} {Q : D → Sg → Prop} {fa fk fv : Sg → R D} {ft : Sg → R Bool} {Me xs : List Nat} {tg : D → Sg → Option Sg}
end
end Lin
end
section
namespace Lin
open PySem L2
/-! ### xs[::-1] of a list whose items nobody owns -/
def noOwn (ds : List D) : Bool := (kinsL ds).all fun k => decide (k ≠ .own)
section
variable {g : Gc} {n : Nat}
end
section
variable {X : Cx} {g : Gc} {W : WX} {M1 : List Nat} {a : Expr} {fa : Sg → R D}
end
/-! ### a variable handed out for good: it and what is read of it are frozen -/
section
variable {g : Gc} {n : Nat} {W : WX}
end
section
variable {X : Cx} {g : Gc} {W : WX} {pos : Pos}
end
section
variable {E : EX} {S : Sg} {Q : D → Sg → Prop}
end
end Lin
end
section
namespace Lin
open PySem L2
/-! ### a, b = (x, y), a tuple made for it: what it owns goes to the names -/
section
variable {g : Gc} {Γ : Gh} {n : Nat} {A B B' : List (Option T)} {σ : L2.St} {H : Hp}
theorem ownsC_flat (g : Gc) : ∀ ts : List T, ownsC (cellsL g ts) = ts.flatMap fun t => ownsC (t.cells g)
  | [] => rfl
  | t :: r => by rw [cellsL, ownsC_append, ownsC_flat g r, List.flatMap_cons]
def MeanGsO (g : Gc) (n : Nat) (xs : List Nat) (tg : TGs) (f : List D → Sg → Option Sg) : Prop := ∀ Γ A (ts : List T) σ H Q S', Rel g Γ n (A ++ ts.map some) σ H → n ≤ A.length → f (ts.map T.er) (ers n A) = some S' →
  (∀ A' σ' H', Rel g Γ n A' σ' H' → NextM n xs A A' → ers n A' = S' → (∀ j : Nat, j ∉ xs → σ'[j]? = σ[j]?) → Q σ' H') → tg (ts.map T.root) σ H Q
end
section
variable {X : Cx} {g : Gc} {xs ys Mz : List Nat} {es : List Expr} {pos : Pos} {f : List D → Sg → Option Sg}
structure QGsO (X : Cx) (g : Gc) (xs : List Nat) (es : List Expr) (f : List D → Sg → Option Sg) : Prop where
  ex : ∃ tg, PGs X es tg ∧ MeanGsO g X.N.length xs tg f
end
end Lin
end
section
namespace Lin
open PySem L2
/-! ### x += e, x -= e of ints -/
section
variable {g : Gc} {n : Nat} {W : WX} {M1 : List Nat}
end
section
variable {X : Cx} {g : Gc} {W : WX} {M1 Mz : List Nat} {e : Expr} {pos pos' : Pos} {fe : Sg → R D}
end
section
variable {E : EX} {S : Sg} {QF : Fl → Sg → Prop} {fe : Sg → R D}
def intD (d : D) : Option Int := match d with
  | .im (.int a) => some a
  | _ => none
theorem intD_I {z : Int} : intD (.im (.int z)) = some z := rfl
end
end Lin
end
section
set_option maxHeartbeats 2000000
namespace Lin
open PySem PySem.Spec PyProof.Rows L2 LamX
/-! ### a frame that has captured cells and cells of its own -/
structure InD (s0 : Shared) (L : Addr) (m : Str → Option Value) (cs : List (Str × Addr)) (cm : Str → Option Value) (s : Shared) : Prop where
  inn : InCall s0 L m s
  cell : ∀ z c, cs.lookup z = some c → L < c → s.heap.IsCell c (cm z)
  inj : ∀ z z' c, cs.lookup z = some c → cs.lookup z' = some c → z = z'
section
variable {M : Model} {A : Around} {E : Value → Shared → Prop} {s0 s : Shared} {m cm : Str → Option Value} {env : Env}
theorem InD.putL {z : Str} {v : Value} {Q : Unit → Shared → Prop} (x : InD s0 env.locals m env.cells cm s) (hk : env.scope.kind = .function) (hl : env.kindOf z = some .local)
    (h : ∀ s', InD s0 env.locals (fun y => if y = z then some v else m y) env.cells cm s' → Q () s') : wpAny M A (storeName env z v) Q E s := by
  refine wpAny_storeName_local hl x.inn.ns (fun h2 n2 b2 => ?_) (by rw [hk]; rfl)
  refine h _ ⟨⟨?_, n2, fun a o ea => ?_, x.inn.fresh⟩, fun k c lk hc => (x.cell k c lk hc).sameBut b2 (Nat.ne_of_gt hc), x.inj⟩
  · obtain ⟨h1, tk, e⟩ := x.inn.same
    subst e
    exact ⟨h2, _, rfl⟩
  · have hlt : a < env.locals := Nat.lt_of_lt_of_le (Heap.lt_size ea) x.inn.fresh
    exact b2.extBut a o (Nat.ne_of_lt hlt) (x.inn.keep a o ea)
theorem InD.putC {z : Str} {c : Addr} {v : Value} {Q : Unit → Shared → Prop} (x : InD s0 env.locals m env.cells cm s) (hk : env.scope.kind = .function) (hl : env.kindOf z = some .cell) (hc : env.cells.lookup z = some c) (hL : env.locals < c)
    (h : ∀ s', InD s0 env.locals m env.cells (fun y => if y = z then some v else cm y) s' → Q () s') : wpAny M A (storeName env z v) Q E s := by
  refine wpAny_storeName_cell hk hl hc (x.cell z c hc hL) fun h2 c2 b2 => ?_
  refine h _ ⟨⟨?_, x.inn.ns.sameBut b2 (Nat.ne_of_lt hL), fun a o ea => ?_, x.inn.fresh⟩, fun k d lk hd => ?_, x.inj⟩
  · obtain ⟨h1, tk, e⟩ := x.inn.same
    subst e
    exact ⟨h2, _, rfl⟩
  · have hlt : a < c := Nat.lt_trans (Nat.lt_of_lt_of_le (Heap.lt_size ea) x.inn.fresh) hL
    exact b2.extBut a o (Nat.ne_of_lt hlt) (x.inn.keep a o ea)
  · by_cases e : k = z
    · subst e
      have : d = c := by rw [hc] at lk; exact (Option.some.inj lk).symm
      subst this
      simpa using c2
    · simp only [if_neg e]
      exact (x.cell k d lk hd).sameBut b2 fun e2 => e (x.inj k z c (e2 ▸ lk) hc)
theorem InD.binds (f : Str × Value → PUnit → Sem (ForInStep PUnit)) (hf : ∀ z v u, f (z, v) u = (do storeName env z v; pure (.yield ⟨⟩))) (hk : env.scope.kind = .function) :
    ∀ (bs : List (Str × Value)) (m cm : Str → Option Value) (s : Shared) (Q : PUnit → Shared → Prop), InD s0 env.locals m env.cells cm s →
      (∀ p ∈ bs, env.kindOf p.1 = some .local ∨ (env.kindOf p.1 = some .cell ∧ ∃ c, env.cells.lookup p.1 = some c ∧ env.locals < c)) →
      (∀ s', InD s0 env.locals (bindL env.kindOf bs m) env.cells (bindC env.kindOf bs cm) s' → Q ⟨⟩ s') → wpAny M A (forIn bs ⟨⟩ f) Q E s
  | [], m, cm, s, Q, x, _, h => by
    rw [List.forIn_nil]
    exact wpAny_pure (h s x)
  | (z, v) :: r, m, cm, s, Q, x, ks, h => by
    rw [List.forIn_cons, hf]
    have kr := fun p (hp : p ∈ r) => ks p (List.mem_cons_of_mem _ hp)
    rcases ks (z, v) List.mem_cons_self with hl | ⟨hl, c, hc, hL⟩
    · have hl : env.kindOf z = some .local := hl
      refine wpAny_bind (wpAny_bind (x.putL hk hl fun s1 x1 => wpAny_pure (InD.binds f hf hk r _ _ s1 Q x1 kr fun s2 x2 => h s2 ?_)))
      rw [bindL, bindC, if_pos hl, if_pos hl]
      exact x2
    · have hl : env.kindOf z = some .cell := hl
      have hn : ¬ env.kindOf z = some .local := by rw [hl]; decide
      refine wpAny_bind (wpAny_bind (x.putC hk hl hc hL fun s1 x1 => wpAny_pure (InD.binds f hf hk r _ _ s1 Q x1 kr fun s2 x2 => h s2 ?_)))
      rw [bindL, bindC, if_neg hn, if_neg hn]
      exact x2
end
section
variable {M : Model} {A : Around} {E : Value → Shared → Prop} {s : Shared}
end
end Lin
end
section
set_option maxHeartbeats 2000000
namespace Lin
open PySem PySem.Spec PyProof.Rows L2 LamX
/-! ### the body of an inner function: one parameter, its locals, the maker's names -/
def isHid (z : Str) : Bool := z.cps.back? == some 0
/-- msc: the maker's scope; y: the parameter; zs: the locals -/
structure InSc (msc sc : Scope) (y : Str) (zs : List Str) : Prop where
  kind : sc.kind = .function
  co : sc.isCoroutine = false
  gen : sc.isGenerator = false
  par : sc.names.lookup y = some .local ∨ sc.names.lookup y = some .cell
  own : ∀ p ∈ sc.names, p.2 = .local ∨ p.2 = .cell → p.1 = y ∨ p.1 ∈ zs
  fr : ∀ p ∈ sc.names, p.2 = .free → p.1 ≠ y ∧ p.1 ∉ zs
  free : ∀ p ∈ sc.names, p.2 = .free → msc.names.lookup p.1 = some .cell ∨ msc.names.lookup p.1 = some .free
  ne : ∀ p ∈ sc.names, isHid p.1 = false
def ndB : List Str → Bool
  | [] => true
  | z :: r => !r.contains z && ndB r
section
variable {X : Cx} {pins : List (Addr × Obj)} {σ : L2.St} {H HZ : Hp} {s s1 s2 : Shared} {q y : Str} {zs : List Str} {sc : Scope}
theorem InSc.has (L : InSc X.env.scope sc y zs) (ok : X.Ok) : ∀ p ∈ sc.names, p.2 = .free → ∃ c, X.env.cells.lookup p.1 = some c := fun p hp e =>
  (L.free p hp e).elim (fun z => ok.has _ (.inl z)) fun z => ok.has _ (.inr z)
theorem InSc.back (L : InSc X.env.scope sc y zs) (ok : X.Ok) {z : Str} {c : Addr} (e : (cloFrom X.env.cells sc.names []).lookup z = some c) : X.env.cells.lookup z = some c := by
  rcases cloFrom_mem (PySem.mem_of_lookup e) with hm | ⟨k1, k2⟩
  · cases hm
  · obtain ⟨d, hd⟩ := L.has ok _ k1 rfl
    have hd : X.env.cells.lookup z = some d := hd
    have : c = d := by rw [k2, hd] <;> rfl
    rw [this]; exact hd
end
end Lin
end
section
set_option maxHeartbeats 2000000
namespace Lin
open PySem PySem.Spec PyProof.Rows L2 LamX
/-! ### an inner function, called somewhere -/
/-- f, made in X at s: called at any later state, it runs what tb says -/
def RunIn (X : Cx) (q : Str) (zs : List Str) (f cc : Addr) (σ : L2.St) (H : Hp) (s : Shared) (k : Nat) (tb : XK → TE) : Prop :=
  ∀ (A : Around) (outer : List Env) (s1 : Shared) (H1 : Hp) (E : XK) (Q : VK) (v : V) (u : Value), Room (k + 1) A → Env0 X.prog X.w X.K X.mg X.base A outer s1 H1 → Un (frs X.stack) [] H H1 s.heap s1.heap →
    s1.heap.get? f = s.heap.get? f → H1 cc = some (CodeO cc q) → L2.RelV v u → tb E (σ ++ some v :: zs.map fun _ => none) H1 Q →
    codeAny (model X.prog X.w) A (.call (.ref f) ⟨[u], []⟩) (CR (L2.CX X.prog X.w) outer X.prog X.w H1 s1 Q E) s1
section
variable {X : Cx} {pins : List (Addr × Obj)} {σ : L2.St} {H : Hp} {s : Shared} {y : Str} {zs : List Str} {sc : Scope} {f cc : Addr} {k : Nat}
end
end Lin
end
section
set_option maxHeartbeats 2000000
namespace Lin
open PySem PySem.Spec PyProof.Rows L2 LamX
/-! ### what an inner function means -/
section
variable {g : Gc} {Γ : Gh} {n : Nat} {A : List (Option T)} {σ : L2.St} {H : Hp}
end
section
variable {g : Gc} {caps : List (Option T)} {cc : Addr} {q : Str} {n nm nz : Nat} {σm : L2.St} {W : WX} {M1 Mb : List Nat} {t1 : TE} {fa : Sg → R D} {i : Nat} {f : Addr}
end
end Lin
end
section
set_option maxHeartbeats 2000000
namespace Lin
open PySem PySem.Spec PyProof.Rows L2 LamX
/-! ### C(e, f): an inner function handed to a constructor -/
section
variable {g : Gc} {H H' : Hp} {ts us : List T} {t : T} {v : V}
end
/-- in the context Z: calling the name a (slot i) is calling F -/
def CloRi (i : Nat) (Z : Cx) (g : Gc) (a : Str) (f : Addr) (F : D → Rc) : Prop := ∀ (pn : List (Addr × Obj)) (xe : Value → Shared → Prop) (W : WX) (M1 : List Nat) (e1 : Expr) (fa : Sg → R D) (p1 p2 : Pos), Takes (Z.tr pn xe) W → QE (Z.tr pn xe) g W M1 e1 fa →
  (∀ env, starEach [e1] env = (false, eval e1 env) :: starEach [] env) → QE (Z.tr pn xe) g W M1 (.Call (.Name a p1) [e1] [] p2) (cClo i f F fa)
/-- what an __init__ that is given an inner function must show of its body -/
def CalM (P : Program) (w : World) (K : PySem.W.Frag) (mg : Str → Option Value) (base : Heap) (g : Gc) (k : Nat) (qn a : Str) (i : Nat) (st : Stmt) (ga : Addr) (Ng : List Str) (Mc : List Nat) (bc : Addr → (D → Rc) → Sg → R Fl) : Prop :=
  ∀ (ph : Gh → Prop) (f : Addr) (Fm : D → Rc) (cdv : Value) (A : Around) (outer : List Env) (s : Shared) (H : Hp) (E : XK), Room k (A.deeper (envOfC qn (defScope st) s.heap.objs.size ga cdv)) →
    CxS (cxOf (L2.CX P w) P w K mg base Ng qn (defScope st) ga cdv A outer s H E) (fun cls d _ H => E cls d H) →
    CloRi i (cxOf (L2.CX P w) P w K mg base Ng qn (defScope st) ga cdv A outer s H E) (gPh g ph) a f Fm →
    QSs (cxOf (L2.CX P w) P w K mg base Ng qn (defScope st) ga cdv A outer s H E) (gPh g ph) (fun cls d _ H => E cls d H) Mc (defBody st) (bc f Fm)
/-- an inner function that is made: how it runs, what it means -/
structure InnerOk (X : Cx) (g : Gc) (q : Str) (zs : List Str) (f cc : Addr) (ob : Obj) (k : Nat) (σ : L2.St) (tb : XK → TE) (F : Sg → D → Rc) : Prop where
  run : ∀ pins H s, Inv X pins σ H s → s.heap.get? f = some ob → RunIn X q zs f cc σ H s k tb
  mean : ∀ caps : List (Option T), caps.length = X.N.length → σ.length = X.N.length → (∀ (i : Nat) (u : T), caps[i]? = some (some u) → σ[i]? = some (some u.root)) → ∀ (n i : Nat) (W : WX) (M1 : List Nat) (t1 : TE) (fa : Sg → R D), i < n → MeanE (gClo g caps cc q) n W M1 t1 fa →
    MeanE (gClo g caps cc q) n W M1 (fun σZ HZ Q => σZ[i]? = some (some (.ref f)) ∧ t1 σZ HZ fun v H1 => H1 cc = some (CodeO cc q) ∧ tb (WE W σZ) (σ ++ some v :: zs.map fun _ => none) H1 Q) (cClo i f (F (caps.map (Option.map T.er))) fa)
section
variable {X : Cx} {g : Gc} {W : WX} {M1 Mc : List Nat} {Γ : Gh} {A A2 : List (Option T)} {σ : L2.St} {H : Hp} {s : Shared} {pins : List (Addr × Obj)} {Q : VK}
end
end Lin
end
section
set_option maxHeartbeats 2000000
namespace Lin
open PySem PySem.Spec PyProof.Rows L2 LamX
section
variable {X : Cx} {g : Gc} {W : WX} {M1 Mb : List Nat} {y : Str} {zs : List Str} {sc : Scope} {f cc : Addr} {σ : L2.St} {k : Nat}
end
theorem CalM.mono {P : Program} {w : World} {K : PySem.W.Frag} {mg : Str → Option Value} {base : Heap} {g : Gc} {k k' i : Nat} {qn a : Str} {st : Stmt} {ga : Addr} {Ng : List Str} {Mc : List Nat} {bc : Addr → (D → Rc) → Sg → R Fl} (h : CalM P w K mg base g k qn a i st ga Ng Mc bc) (hk : k ≤ k') : CalM P w K mg base g k' qn a i st ga Ng Mc bc :=
  fun ph f Fm cdv A outer s H E hr => h ph f Fm cdv A outer s H E (hr.mono hk)
section
variable {X : Cx} {g : Gc} {W : WX} {M1 Mb : List Nat}
end
end Lin
end
section
set_option maxHeartbeats 2000000
namespace Lin
open PySem PySem.Spec PyProof.Rows L2 LamX
/-! ### def a(y): ..; return C(e, a) -/
section
variable {X : Cx} {pins : List (Addr × Obj)} {σ : L2.St} {H : Hp} {s : Shared}
end
section
variable {g : Gc} {Γ : Gh} {n : Nat} {A : List (Option T)} {σ : L2.St} {H : Hp}
end
section
variable {X : Cx} {g : Gc} {W : WX} {M1 Mb : List Nat}
end
end Lin
end
section
set_option maxHeartbeats 2000000
namespace Lin
open PySem PySem.Spec PyProof.Rows L2 LamX
/-! ### a def with defaults that makes inner functions -/
section
variable {P : Program} {w : World} {K : PySem.W.Frag} {mg : Str → Option Value} {base : Heap} {g : Gc}
end
end Lin
end
section
set_option maxHeartbeats 2000000
namespace Lin
open PySem PySem.Spec PyProof.Rows L2 LamX
/-! ### sorted(xs), xs a list of pairs of ints -/
section
variable {g : Gc} {n : Nat} {Γ : Gh} {A : List (Option T)} {σ : L2.St} {H : Hp}
end
end Lin
end
section
set_option maxHeartbeats 2000000
namespace Lin
open PySem PySem.Spec PyProof.Rows L2 LamX
/-! ### sorted(d), d a dict whose keys are pairs of ints -/
section
variable {X : Cx}
end
/-! ### its meaning -/
section
variable {g : Gc} {n : Nat} {Γ : Gh} {A : List (Option T)} {σ : L2.St} {H : Hp}
end
end Lin
end
section
set_option maxHeartbeats 2000000
namespace Lin
open PySem L2
/-! ### e.clear(), e an owned list that is nobody's but this expression's -/
section
variable {g : Gc} {n : Nat} {W : WX} {Γ : Gh} {A A' B : List (Option T)} {σ : L2.St} {H H' : Hp} {t : T} {M M1 : List Nat}
end
section
variable {Mz : List Nat} {X : Cx} {g : Gc} {W : WX} {M M1 : List Nat} {o : Expr} {pos p apos : Pos} {fe : Sg → R D}
end
end Lin
end
section
namespace Lin
open PySem L2
/-! ### plain rules -/
def ownLst : D → Bool
  | .nd .own .lst _ => true
  | _ => false
section
variable {E : EX} {Ec : EC} {S : Sg} {Q : D → Sg → Prop} {QF : Fl → Sg → Prop} {fa fe : Sg → R D} {fs fb : Sg → R Fl}
theorem ownLst_en {α : Type} {c : Kd} {f : α → P} {xs : List α} : ownLst (en .own c (pL f xs)) = true := by rw [en_pL]; rfl
end
end Lin
end
section
set_option maxHeartbeats 2000000
namespace L2
open PySem PySem.Spec PyProof.Rows
section
variable {X : Cx}
end
end L2
namespace Lin
open PySem L2
/-! ### i in range(n), i not in range(n) -/
section
variable {g : Gc} {n : Nat} {W : WX} {Γ : Gh} {A A' A'' B : List (Option T)} {σ : L2.St} {H H' : Hp} {t : T} {M M1 M2 : List Nat}
end
section
variable {Mz : List Nat} {X : Cx} {g : Gc} {W : WX} {M1 M2 : List Nat} {a e : Expr} {pos p pos2 : Pos} {fa : Sg → R D} {fr : Sg → R (List D)}
end
section
variable {E : EX} {S : Sg} {Q : D → Sg → Prop} {fa : Sg → R D} {fr : Sg → R (List D)}
end
end Lin
end
section
set_option maxHeartbeats 2000000
namespace Lin
open PySem L2
/-! ### x in o, x not in o, o an instance with an own __contains__ -/
section
variable {g : Gc} {n : Nat} {W : WX} {Γ : Gh} {A A' A'' B : List (Option T)} {σ : L2.St} {H H' : Hp} {t : T} {M M1 M2 : List Nat}
end
section
variable {Mz : List Nat} {X : Cx} {g : Gc} {W : WX} {M1 M2 : List Nat} {a b : Expr} {pos : Pos} {fa fb : Sg → R D} {cn k : Nat} {ps : List Str} {sem : FSem}
end
section
variable {E : EX} {S : Sg} {Q : D → Sg → Prop} {fa fb : Sg → R D}
end
end Lin
end
section
set_option maxHeartbeats 2000000
namespace Lin
open PySem PySem.Spec PyProof.Rows L2 LamX
/-! ### sorted(xs), xs a short list of tuples of small numbers, all of one length -/
section
variable {g : Gc} {n : Nat} {Γ : Gh} {A : List (Option T)} {σ : L2.St} {H : Hp}
end
end Lin
end
section
set_option maxHeartbeats 2000000
namespace Lin
open PySem PySem.Spec PyProof.Rows L2 LamX
/-! ### min(t), max(t), t a tuple of ints -/
section
variable {prog : Program} {w : World} {A : Around} {E : Value → Shared → Prop} {s : Shared} {l : Addr} {xs : Array (Int × Tok)} {its : List Value} {ns : List Int}
end
/-! ### its meaning -/
section
variable {g : Gc} {n : Nat}
end
end Lin
end
section
/-! dicts whose keys are tuples, compared -/
namespace Lin
open PySem L2 PySem.Spec PyProof.Rows
section
variable {pr : Program} {ww : World} {κ : Type} [DecidableEq κ] {kd : HeapKind pr ww κ} {A : Around} {E : Value → Shared → Prop} {s : Shared}
inductive HitT {κ : Type} [DecidableEq κ] (A : Around) (s : Shared) (yb : List (κ × Addr × Value)) : List (κ × Addr × Value) → Bool → Prop
  | nil : HitT A s yb [] true
  | no {x : κ × Addr × Value} {r : List (κ × Addr × Value)} : atKey yb x.1 = none → HitT A s yb (x :: r) false
  | yes {x : κ × Addr × Value} {r : List (κ × Addr × Value)} {p : Addr × Value} {e b : Bool} : atKey yb x.1 = some p → SeqAt.EqAt A s x.2.2 p.2 e → HitT A s yb r b → HitT A s yb (x :: r) (e && b)
end
/-! the operators -/
section
variable {X : Cx}
end
/-! what they mean -/
section
variable {g : Gc} {n : Nat} {W : WX}
end
section
variable {X : Cx} {g : Gc} {W : WX}
end
section
variable {E : EX} {S : Sg} {Q : D → Sg → Prop}
end
end Lin
end
section
/-! len of a dict whose keys are tuples -/
namespace Lin
open PySem L2 PySem.Spec PyProof.Rows
section
variable {g : Gc} {n : Nat}
end
end Lin
end
section
/-! slices of tuples, not whole ones -/
namespace Lin
open PySem L2
section
variable {g : Gc} {n : Nat}
end
section
variable {Mz : List Nat} {X : Cx} {g : Gc} {W : WX} {M1 M2 : List Nat} {a b : Expr} {pos p2 : Pos} {fa fb : Sg → R D}
end
end Lin
end
section
/-! xs.index(y) of lists and tuples -/
namespace Lin
open PySem L2
section
variable {g : Gc} {n : Nat} {W : WX} {M1 M2 : List Nat}
end
section
variable {Mz : List Nat} {X : Cx} {g : Gc} {W : WX} {M1 M2 : List Nat} {a b o e : Expr} {pos apos : Pos} {fa fb : Sg → R D}
end
end Lin
end
section
/-! d.get(k, x) of a dict -/
namespace Lin
open PySem PySem.Spec PySem.Calls PyProof.Rows L2
section
variable {g : Gc} {n : Nat} {W : WX}
end
section
variable {Mz : List Nat} {X : Cx} {g : Gc} {W : WX} {M1 M2 M3 : List Nat} {a b o e f : Expr} {pos apos : Pos} {fa fb fc : Sg → R D}
end
end Lin
end
section
/-! list(d.values()) -/
namespace Lin
open PySem PySem.Spec PySem.Calls PyProof.Rows L2
/-! ### its meaning: values that are no objects -/
section
variable {g : Gc} {n : Nat} {W : WX}
end
section
variable {X : Cx} {g : Gc} {W : WX} {M1 : List Nat} {o : Expr} {p pos apos cpos : Pos} {fa : Sg → R D}
end
end Lin
end
section
namespace Lin
open PySem L2
/-! ### for x in e, e a new list or tuple: what it owns passes to the names, item by item -/
section
variable {g : Gc} {Γ : Gh} {n : Nat} {A A' B : List (Option T)} {σ : L2.St} {H : Hp} {W : WX} {M M1 M2 : List Nat}
theorem Rel.split {t0 : T} {ts : List T} (R : Rel g Γ n (A ++ [some t0]) σ H) (hn : n ≤ A.length) (hs : (cellsL g ts).Sublist (t0.cells g)) : Rel g Γ n (A ++ ts.map some) σ H := by
  have up : ∀ {i : Nat} {t : T}, A.length ≤ i → (A ++ ts.map some)[i]? = some (some t) → ts[i - A.length]? = some t := fun {i t} hi e => by
    rw [List.getElem?_append_right hi, List.getElem?_map] at e
    cases q : ts[i - A.length]? with
    | none => rw [q] at e; cases e
    | some w => rw [q] at e; simpa using e
  have sub : ∀ {j : Nat} {t : T}, ts[j]? = some t → (t.cells g).Sublist (t0.cells g) := fun {j t} e => (at_sub e).trans hs
  have top : (A ++ [some t0])[A.length]? = some (some t0) := by rw [List.getElem?_append_right (Nat.le_refl _), Nat.sub_self]; rfl
  have at_ : ∀ {i : Nat} {c : Cell}, CellAt g (A ++ ts.map some) i c → CellAt g (A ++ [some t0]) (if i < A.length then i else A.length) c := fun {i c} ⟨t, e, hc⟩ => by
    by_cases q : i < A.length
    · rw [if_pos q]
      rw [List.getElem?_append_left q] at e
      exact ⟨t, by rw [List.getElem?_append_left q]; exact e, hc⟩
    · rw [if_neg q]
      exact ⟨_, top, (sub (up (by omega) e)).subset hc⟩
  refine ⟨by simp; omega, R.slen, fun i t hi e => R.val i t hi ?_, fun i c h => R.hold _ c (at_ h), fun i c r h => R.lab _ c r (at_ h), fun i t e => ?_, fun i j c d h1 h2 kk q => ?_, R.frame, fun i c h => R.gown _ c (at_ h), fun i c h => R.gfrz _ c (at_ h), R.pin, R.tab, R.lck⟩
  · rw [List.getElem?_append_left (by omega)] at e ⊢
    exact e
  · by_cases q : i < A.length
    · exact R.nd i t (by rw [List.getElem?_append_left q] at e ⊢; exact e)
    · exact (owns_sublist (sub (up (by omega) e))).nodup (R.nd _ _ top)
  · have s0 := R.sep _ _ c d (at_ h1) (at_ h2) kk q
    by_cases qi : i < A.length
    · rw [if_pos qi] at s0
      by_cases qj : j < A.length
      · rw [if_pos qj] at s0
        exact s0
      · rw [if_neg qj] at s0
        rcases s0 with ⟨z, _⟩ | ⟨_, z⟩
        · omega
        · exact .inr ⟨by omega, z⟩
    · rw [if_neg qi] at s0
      by_cases qj : j < A.length
      · rw [if_pos qj] at s0
        rcases s0 with ⟨z, _⟩ | ⟨_, z⟩
        · omega
        · have := R.lab _ d _ (at_ h2) z
          omega
      · rw [if_neg qj] at s0
        rcases s0 with ⟨_, z⟩ | ⟨z, _⟩
        · obtain ⟨t1, e1, c1⟩ := h1
          obtain ⟨t2, e2, c2⟩ := h2
          have nd1 : (ownsC (cellsL g ts)).Nodup := (owns_sublist hs).nodup (R.nd _ _ top)
          rw [ownsC_flat] at nd1
          have := nodup_flat nd1 (up (by omega) e1) (up (by omega) e2) (mem_ownsC.mpr ⟨c, c1, kk, rfl⟩) (mem_ownsC.mpr ⟨d, c2, z, q⟩)
          exact .inl ⟨by omega, z⟩
        · exact absurd rfl z
theorem cells_ims : ∀ vs : List V, cellsL g (vs.map T.im) = []
  | [] => rfl
  | v :: r => by rw [List.map_cons, cellsL, cells_ims r, T.cells, List.append_nil]
theorem roots_ims (vs : List V) : (vs.map T.im).map T.root = vs := by
  rw [List.map_map]
  exact List.map_id vs
/-- a container whose items have been taken out -/
def shell (a : Addr) (k : Kd) (s : Sh) (dx : Addr) (ts : List T) : T := .nd a k s dx ((ts.map T.root).map T.im)
theorem shell_cells (a : Addr) (k : Kd) (s : Sh) (dx : Addr) (ts : List T) : (shell a k s dx ts).cells g = [(kz s k, a, ho g s dx (ts.map T.root))] := by
  unfold shell
  rw [T.cells, cells_ims, roots_ims]
theorem Rel.open {a dx : Addr} {k : Kd} {s : Sh} {ts : List T} (R : Rel g Γ n (A ++ [some (.nd a k s dx ts)]) σ H) (hn : n ≤ A.length) : Rel g Γ n (A ++ (shell a k s dx ts :: ts).map some) σ H := by
  refine R.split hn ?_
  rw [cellsL, shell_cells, T.cells]
  exact List.Sublist.refl _
theorem Clean.app (c : Clean g n M A) (h : ∀ t, some t ∈ B → ∀ r ∈ M, ∀ c ∈ t.cells g, c.1 ≠ .bor r) : Clean g n M (A ++ B) := fun r hr i cl hi ⟨t, e, hc⟩ => by
  by_cases q : i < A.length
  · rw [List.getElem?_append_left q] at e
    exact c r hr i cl hi ⟨t, e, hc⟩
  · rw [List.getElem?_append_right (by omega)] at e
    exact h t (List.mem_of_getElem? e) r hr cl hc
end
section
variable {X : Cx} {g : Gc} {W : WX} {Mz M1 M2 : List Nat} {tg iter : Expr} {pos : Pos} {fa : Sg → R D} {f1 : Sg → R Fl} {sts : List Stmt}
end
section
variable {E : _} {S : Sg} {QF : Fl → Sg → Prop} {M : List Nat} {f : Sg → R Fl} {fa : Sg → R D}
end
end Lin
end
section
namespace Lin
open PySem PySem.Spec PyProof.Rows L2 LamX
/-! list(d), d a dict whose keys are tuples -/
section
variable {g : Gc} {n : Nat} {Γ : Gh} {A : List (Option T)} {σ : L2.St} {H : Hp}
end
/-! d.clear() of a dict -/
section
variable {g : Gc}
variable {n : Nat} {W : WX} {M1 : List Nat}
end
section
variable {Mz : List Nat} {X : Cx} {g : Gc} {W : WX} {M1 : List Nat} {o : Expr} {pos apos : Pos}
end
end Lin
end
section
namespace Lin
open PySem L2
/-! ### a, b = xs, a list -/
section
variable {g : Gc} {n : Nat} {W : WX} {Γ : Gh} {A : List (Option T)} {σ : L2.St} {H : Hp}
end
section
variable {X : Cx} {g : Gc} {es : List Expr} {pos : Pos}
end
end Lin
end
section
namespace Lin
open PySem L2
/-! ### for x in [a, b[1], ..]: x.clear(), parts of own slots that are emptied one by one -/
section
variable (g : Gc) (n : Nat) (W : WX)
/-- the values are the roots of what stands at the paths -/
def RootsAt (A : List (Option T)) (ps : List (Nat × List Nat)) (vs : List V) : Prop := ps.length = vs.length ∧ ∀ (i : Nat) e v, ps[i]? = some e → vs[i]? = some v → ∀ t u, A[e.1]? = some (some t) → t.at e.2 = some u → u.root = v
end
section
variable {g : Gc} {n : Nat} {W : WX} {Γ : Gh} {A A' : List (Option T)} {σ : L2.St} {H : Hp}
theorem RootsAt.next {ps : List (Nat × List Nat)} {vs : List V} (h : RootsAt A ps vs) (hA : ∀ (i : Nat) t, A'[i]? = some (some t) → ∀ q u, t.at q = some u → ∃ t0 u0, A[i]? = some (some t0) ∧ t0.at q = some u0 ∧ u0.root = u.root) : RootsAt A' ps vs :=
  ⟨h.1, fun i e v h1 h2 t u h3 h4 => by
    obtain ⟨t0, u0, q1, q2, q3⟩ := hA _ t h3 _ u h4
    rw [← q3]
    exact h.2 i e v h1 h2 t0 u0 q1 q2⟩
end
section
variable {X : Cx} {g : Gc} {W : WX} {Mz : List Nat}
end
section
variable {E : EX} {S : Sg} {QF : Fl → Sg → Prop}
end
end Lin
end
section
namespace Lin
open PySem L2
/-! ### for x in told[..][1:], the items of a tuple in an own slot: each is the name's for its turn, and goes back -/
section
variable {g : Gc} {Γ : Gh} {n : Nat} {A A' B : List (Option T)} {σ : L2.St} {H : Hp} {W : WX} {M M1 M2 : List Nat}
end
section
variable {g : Gc} {Γ : Gh} {n : Nat} {A A' B : List (Option T)} {σ : L2.St} {H : Hp} {W : WX} {M M1 M2 : List Nat}
end
section
variable {X : Cx} {g : Gc} {W : WX} {Mz M1 M2 : List Nat} {e : Expr} {fp : Sg → R (List Nat)} {fb : Sg → R Fl} {sts : List Stmt} {r : Nat}
end
section
variable {E : EX} {S : Sg} {QF : Fl → Sg → Prop}
end
end Lin
end
section
namespace Lin
open PySem L2
/-! ### (x, f(x)) handed out: x is read once more behind its place, and then given up -/
section
variable {g : Gc} {n : Nat} {W : WX} {Γ : Gh} {A A' B : List (Option T)} {σ : L2.St} {H H' : Hp} {t : T} {M M2 : List Nat}
end
section
variable {X : Cx} {g : Gc} {W : WX} {Mz M2 : List Nat} {es : List Expr} {fr : Sg → R (List D)} {pos : Pos}
end
section
variable {E : EX} {S : Sg} {Q : List D → Sg → Prop}
end
end Lin
end
section
namespace Lin
open PySem L2
/-! ### a, b, c = told; .. to the end of the block: the parts are the names' own, and go back into told where the block ends -/
section
variable {g : Gc} {Γ : Gh} {n : Nat} {A A' B : List (Option T)} {σ : L2.St} {H : Hp} {W : WX} {M M2 : List Nat}
end
section
variable {X : Cx} {g : Gc} {W : WX} {Mz M2 : List Nat} {es : List Expr} {fb : Sg → R Fl} {sts : List Stmt} {r : Nat}
end
section
variable {S : Sg} {QF : Fl → Sg → Prop} {k : Kd}
end
end Lin
end
section
/-! dict(d), d a dict whose keys are tuples of whole numbers -/
namespace Lin
open PySem PySem.Spec PyProof.Rows L2 LamX
section
variable {prog : Program} {w : World} {K : Type} [DecidableEq K] {kd : KeyKind prog w K} {A : Around} {E : Value → Shared → Prop} {s : Shared}
end
/-- the hash of a tuple of whole numbers -/
def hT (ks : List Key) : Int := reduceHash (Builtin.Tuple.tupleHashOf (ks.map fun k => match k with | .inl i => hashInt i | .inr _ => 0))
section
variable {X : Cx} {pins : List (Addr × Obj)} {σ : L2.St} {H : Hp} {s : Shared} {a : Addr} {A : Around} {E : Value → Shared → Prop} {kvs : List (List Key × V)}
end
section
variable {X : Cx}
end
/-! what it means: the values are whole numbers -/
section
variable {g : Gc} {n : Nat}
end
end Lin
end
section
/-! d.pop(k), the keys tuples, the values whole numbers: a method that looks at its arguments -/
namespace Lin
open PySem PySem.Spec PyProof.Rows L2 LamX
section
variable {g : Gc} {n : Nat} {W : WX} {M1 M2 : List Nat}
end
/-! the method -/
theorem KT.drop {H : Hp} {kvs : List (List Key × V)} {xs : List (List Key × Addr × Value)} (r : KT H kvs xs) (k : List Key) : KT H (dropK kvs k) (withoutH xs k) := by
  unfold dropK withoutH
  induction r with
  | nil => exact .nil
  | @cons p q ps qs h t ih =>
    rw [List.filter_cons, List.filter_cons]
    by_cases e : p.1 = k
    · have a : ¬ decide (p.1 ≠ k) = true := by simp [e]
      have b : ¬ decide (q.1 ≠ k) = true := by simp [h.1.symm.trans e]
      rw [if_neg a, if_neg b]; exact ih
    · have e' : ¬ q.1 = k := fun z => e (h.1.trans z)
      have a : decide (p.1 ≠ k) = true := by simp [e]
      have b : decide (q.1 ≠ k) = true := by simp [e']
      rw [if_pos a, if_pos b]; exact .cons h ih
section
variable {g : Gc}
end
section
variable {Mz : List Nat} {X : Cx} {g : Gc} {W : WX} {M1 M2 : List Nat} {o e : Expr} {pos apos : Pos} {fr : Sg → R (List D)}
end
section
variable {E : EX} {S : Sg} {Q : D → Sg → Prop} {r : Nat} {M2 : List Nat} {fr : Sg → R (List D)}
end
end Lin
end
section
/-! x is not a truth -/
namespace Lin
open PySem PySem.Spec PyProof.Rows L2
section
variable {g : Gc} {n : Nat}
end
end Lin
end
section
/-! sorted(xs, reverse=True) of ints; xs.insert(i, y) -/
namespace Lin
open PySem PySem.Spec PyProof.Rows L2
section
variable {g : Gc} {n : Nat} {W : WX}
end
section
variable {Mz : List Nat} {X : Cx} {g : Gc} {W : WX} {M1 M2 : List Nat} {a b e e2 o : Expr} {pos p apos kpos : Pos} {fa fb : Sg → R D} {fr : Sg → R (List D)}
end
/-! ### plain -/
section
variable {α : Type} {k c : Kd} {g : α → P} {xs : List α} {K2 : D → D → Prop}
end
end Lin
end
section
/-! isinstance(e, C) of an own class; for a, b in zip(e1, e2); d.get(k); (.., *e) that hands its parts on -/
namespace Lin
open PySem PySem.Spec PySem.Calls PyProof.Rows L2
/-! ### an own class asked for -/
structure IsC (K : PySem.W.Frag) (C : Addr) : Prop where
  cl : Cls K C
  ha : PySem.W.findIn K (.ref C) "__class__" = some (some (.builtin "object.__class__"))
  hn : PySem.W.specialIn K (.builtin "object.__class__") "__get__" = some (some (.builtin "getset_descriptor.__get__"))
  ht : PySem.W.takesIn K (.builtin "object.__class__") = some true
  hm : PySem.W.mroIn K C (.type "object") = some true
  no : ∀ T, T ∈ (["NoneType", "bool", "int", "str", "list", "tuple", "dict"] : List String) → PySem.W.kitOne K (.type T) (.ref C) = some false
section
variable {g : Gc} {n : Nat}
end
section
variable {X : Cx} {g : Gc} {W : WX} {M : List Nat} {e : Expr} {pos p p2 : Pos} {fa : Sg → R D} {x : Str} {cn : Nat}
end
/-! ### a tuple display whose last part is spread -/
section
variable {g : Gc} {n : Nat} {W : WX} {M1 M2 : List Nat}
end
section
variable {Mz : List Nat} {X : Cx} {g : Gc} {W : WX} {M1 M2 M3 : List Nat} {a : Expr} {es : List Expr} {p : Pos} {fa : Sg → R D} {fr : Sg → R (List D)}
end
/-! ### for a, b in zip(e1, e2) of two lists that nobody owns -/
section
variable {g : Gc} {n : Nat} {W : WX} {M1 M2 : List Nat}
end
section
variable {Mz : List Nat} {X : Cx} {g : Gc} {W : WX} {M1 M2 : List Nat} {e e2 : Expr} {elts : List Expr} {kk : Nat} {sts : List Stmt} {tpos p ipos pos : Pos} {fr : Sg → R (List D)} {f1 : Sg → R Fl}
end
/-! ### d.get(k) -/
section
variable {g : Gc} {n : Nat} {W : WX}
end
section
variable {Mz : List Nat} {X : Cx} {g : Gc} {W : WX} {M1 M2 : List Nat} {a b o e f : Expr} {pos apos : Pos} {fa fb : Sg → R D}
end
/-! ### plain -/
end Lin
end
section
set_option maxHeartbeats 4000000
/-! errors whose field holds any frozen value: raise C(e); except C as e: .. e.f .. -/
namespace Lin
open PySem PyProof.Rows L2
section
variable {g : Gc} {n : Nat} {W : WX} {Γ : Gh} {A A' B : List (Option T)} {σ : L2.St} {H H' : Hp} {t : T} {M : List Nat}
end
section
variable {X : Cx} {g : Gc} {W : WX} {M : List Nat} {e : Expr} {pos p pos' : Pos} {fa : Sg → R D} {x : Str} {c k : Nat}
end
/-! ### the caught error, its values held fast -/
/-- held cells -/
def HeldC (Γ : Gh) (c : Cell) : Prop := (c.1 = .frz ∨ c.1 = .par) ∧ Hd Γ.H0 c ∧ ¬ Γ.W c.2.1 ∧ (c.1 = .frz → Γ.F c.2.1)
def rtF (fT : List (Str × T)) : List (Str × V) := fT.map fun p => (p.1, p.2.root)
def erF (fT : List (Str × T)) : List (Str × D) := fT.map fun p => (p.1, p.2.er)
def phT (g : Gc) (d : Option Addr) (fT : List (Str × T)) (Γ : Gh) : Prop := pinH d (rtF fT) Γ ∧ ∀ p ∈ fT, ∀ c ∈ p.2.cells g, HeldC Γ c
def gPinT (g : Gc) (d : Option Addr) (fT : List (Str × T)) : Gc := gPh g (phT g d fT)
section
variable {g : Gc} {n : Nat} {W : WX} {Γ : Gh} {A A' A'' B : List (Option T)} {σ : L2.St} {H H' : Hp} {t : T} {M : List Nat} {d : Option Addr} {fT : List (Str × T)}
/-- what is held may be laid on the stack -/
theorem Rel.held (R : Rel g Γ n A σ H) (h : ∀ c ∈ t.cells g, HeldC Γ c) : Rel g Γ n (A ++ [some t]) σ H := by
  refine ⟨by rw [List.length_append]; have := R.len; omega, R.slen, fun i u hi e => ?_, fun i c x => ?_, fun i c r x => ?_, fun i u e => ?_, fun i j c e x y hc he => ?_, R.frame, fun i c x => ?_, fun i c x hf nt => ?_, R.pin, R.tab, R.lck⟩
  · rw [List.getElem?_append_left (by have := R.len; omega)] at e
    exact R.val i u hi e
  · rcases cellAt_snoc.mp x with x | ⟨rfl, x2⟩
    · exact R.hold i c x
    · obtain ⟨_, h2, h3, _⟩ := h c x2
      exact h2.extN (cells_sane g t c x2) fun o e ne => R.frame _ _ e ne h3
  · rcases cellAt_snoc.mp x with x | ⟨rfl, x2⟩
    · exact R.lab i c r x
    · intro z
      rcases (h c x2).1 with q | q <;> (rw [q] at z; cases z)
  · by_cases hi : i < A.length
    · rw [List.getElem?_append_left hi] at e
      exact R.nd i u e
    · rw [List.getElem?_append_right (by omega)] at e
      have hu : u = t := by
        cases hh : i - A.length with
        | zero => rw [hh] at e; simpa using e.symm
        | succ m => rw [hh] at e; simp at e
      subst hu
      have : ownsC (u.cells g) = [] := by
        rw [List.eq_nil_iff_forall_not_mem]
        intro a ha
        obtain ⟨c, hc, h1, _⟩ := mem_ownsC.mp ha
        rcases (h c hc).1 with q | q <;> (rw [q] at h1; cases h1)
      rw [this]
      exact List.nodup_nil
  · rcases cellAt_snoc.mp x with x | ⟨rfl, x2⟩
    · rcases cellAt_snoc.mp y with y | ⟨rfl, y2⟩
      · exact R.sep i j c e x y hc he
      · obtain ⟨_, h2, h3, _⟩ := h e y2
        exfalso
        rcases R.gown i c x with q | q | q | q
        · rw [hc] at q; cases q
        · rw [hc] at q; cases q
        · exact h3 (he ▸ q)
        · rw [← he] at q
          exact q.neD h2 (cells_sane g t e y2)
    · rcases (h c x2).1 with q | q <;> (rw [q] at hc; cases hc)
  · rcases cellAt_snoc.mp x with x | ⟨rfl, x2⟩
    · exact R.gown i c x
    · exact (h c x2).1.imp id .inl
  · rcases cellAt_snoc.mp x with x | ⟨rfl, x2⟩
    · exact R.gfrz i c x hf nt
    · exact .inr (.inr ((h c x2).2.2.2 hf))
end
end Lin
namespace Lin
open PySem PyProof.Rows L2
abbrev ClzT := (Nat → Option Bool) × (Nat → List (Str × D) → Addr → Sg → R Fl)
inductive HdsT (X : Cx) (g : Gc) (nm : Str) (Mz : List Nat) : List ExceptHandler → List ClzT → Prop
  | nil : HdsT X g nm Mz [] []
  | cons {x : Str} {c : Nat} {mt : Nat → Option Bool} {fh : Nat → List (Str × D) → Addr → Sg → R Fl} {b₀ : Stmt} {suite : List Stmt} {np pos' : Pos} {hds : List ExceptHandler} {l : List ClzT} {Mh : List Nat} (hM : ∀ r ∈ Mh, r ∈ Mz) (hc : Names X x (.ref (g.cl c)))
      (hmt : ∀ c' b, mt c' = some b → PySem.W.exmOne X.K (.ref (g.cl c')) (.ref (g.cl c)) = some b)
      (hsu : ∀ (a : Addr) (oe : Obj) (c' : Nat) (d : Option Addr) (pn : List (Addr × Obj)) (fT : List (Str × T)), mt c' = some true → Zc (.ref (g.cl c')) d oe → (∃ vs, oe.data = .fields vs) → (d = none → fT = []) → QSs (X.suite a ((a, oe) :: pn)) (gPinT g d fT) W0 Mh (b₀ :: suite) (fh c' (erF fT) a))
      (r : HdsT X g nm Mz hds l) : HdsT X g nm Mz (.ExceptHandler (some (.Name x np)) (some nm) (b₀ :: suite) pos' :: hds) ((mt, fh) :: l)
section
variable {X : Cx} {g : Gc} {W : WX} {Mb Mz : List Nat} {x nm : Str} {c i : Nat} {body : List Stmt} {h₀ : ExceptHandler} {hds : List ExceptHandler} {pos : Pos} {fb : Sg → R Fl} {l : List ClzT}
end
/-! ### in the suite: e.f -/
section
variable {X : Cx} {g : Gc} {W : WX} {M M1 : List Nat} {e : Expr} {pos p p2 : Pos} {fa : Sg → R D} {x : Str} {c : Nat} {a : Addr} {oe : Obj} {pn : List (Addr × Obj)} {d : Option Addr} {fT : List (Str × T)}
end
/-! ### plain -/
section
variable {E : EX} {S : Sg} {Q : D → Sg → Prop} {QF : Fl → Sg → Prop} {f : Sg → R Fl} {fa : Sg → R D}
end
end Lin
end
section
set_option maxHeartbeats 2000000
namespace Lin
open PySem PySem.Spec PyProof.Rows L2 LamX
/-! ### sorted: a list of tuples of ints, a dict whose keys are such tuples; any number of them -/
/-! the kit's comparison -/
section
variable {prog : Program} {w : World} {A : Around} {s : Shared}
end
/-! as rules of the layer -/
section
variable {X : Cx}
end
/-! ### meaning, lists -/
section
variable {g : Gc} {n : Nat} {Γ : Gh} {A : List (Option T)} {σ : L2.St} {H : Hp}
end
/-! ### dicts -/
section
variable {X : Cx}
end
/-! ### its meaning -/
section
variable {g : Gc} {n : Nat} {Γ : Gh} {A : List (Option T)} {σ : L2.St} {H : Hp}
end
end Lin
end
section
set_option maxHeartbeats 4000000
/-! lambdas whose errors hold frozen values: what is frozen comes back as a caller's -/
namespace Lin
open PySem PySem.Spec PyProof.Rows L2 LamX
def nsc : Sh → Bool
  | .scr => false
  | _ => true
mutual
def noScr : D → Bool
  | .im _ => true
  | .nd _ s ds => nsc s && noScrL ds
def noScrL : List D → Bool
  | [] => true
  | d :: r => noScr d && noScrL r
end
def okX (d : D) : Bool := ofD d && noScr d
section
variable {g : Gc} {caps : List (Option T)} {cc : Addr} {q : Str} {Γ : Gh} {n nm : Nat} {A : List (Option T)} {σ σm : L2.St} {H : Hp} {t : T}
end
section
variable {g : Gc} {caps : List (Option T)} {cc : Addr} {q : Str} {n nm : Nat} {σm : L2.St} {W : WX} {M1 Mb : List Nat}
end
section
variable {X : Cx} {g : Gc} {W : WX} {M1 Mb Mc : List Nat}
end
section
variable {X : Cx} {g : Gc} {W : WX} {M1 Mb : List Nat}
end
section
variable {E : EX} {S : Sg} {Q : D → Sg → Prop} {fb : Sg → R D} {fr : Sg → R (List D)}
end
end Lin
end
section
namespace Lin
open PySem PySem.Spec PyProof.Rows L2
/-! ### {k: v, l: w}, k and l tuples of ints and texts -/
section
variable {g : Gc} {n : Nat} {W : WX} {M1 : List Nat}
end
section
variable {X : Cx} {g : Gc} {W : WX} {M1 : List Nat} {pos : Pos} {fr : Sg → R (List D)}
end
section
variable {α : Type} {E : EX} {fr : Sg → R (List D)} {S : Sg} {Q : D → Sg → Prop}
end
end Lin
end
section
/-! d.update(e), the keys tuples of both, the values without parts; e a dict that nobody else holds -/
namespace Lin
open PySem PySem.Spec PyProof.Rows L2 LamX
def updK (kvs ms : List (List Key × V)) : List (List Key × V) := ms.foldl (fun acc p => putK acc p.1 p.2) kvs
theorem KT.upd {H : Hp} {ms : List (List Key × V)} {ys : List (List Key × Addr × Value)} (t : KT H ms ys) : ∀ {kvs : List (List Key × V)} {xs : List (List Key × Addr × Value)}, KT H kvs xs → KT H (updK kvs ms) (storedAllH xs ys) := by
  induction t with
  | nil => intro kvs xs r; exact r
  | @cons p q ps qs h t ih =>
    intro kvs xs r
    show KT H (updK (putK kvs p.1 p.2) ps) (storedAllH (storedH xs q.1 q.2.1 q.2.2) qs)
    rw [← h.1]
    exact ih (r.put p.1 h.2.1 h.2.2)
section
variable {g : Gc} {n : Nat} {W : WX} {M1 M2 : List Nat}
end
/-! what it means -/
section
variable {g : Gc}
end
section
variable {Mz : List Nat} {X : Cx} {g : Gc} {W : WX} {M1 M2 : List Nat} {o e : Expr} {pos apos : Pos} {fr : Sg → R (List D)}
end
end Lin
end
section
/-! [e for k in d if ..], d an own dict of values without parts: it is away while they run, and stands in its slot again behind it -/
namespace Lin
open PySem PySem.Spec PyProof.Rows L2 LamX
section
variable {g : Gc} {n : Nat} {W : WX} {Γ : Gh} {A A' B : List (Option T)} {σ σ0 : L2.St} {H H0 : Hp}
end
section
variable {X : Cx} {g : Gc} {W : WX} {Mz : List Nat} {tg a : Expr} {pos : Pos} {fe : Sg → R D} {ft : Sg → R Bool}
end
section
variable {E : EX} {fe : Sg → R D} {ft : Sg → R Bool} {S : Sg} {Q : D → Sg → Prop}
end
end Lin
end
section
/-! x.m(..) and x[i] = v with the receiver x, a slot, by reference; x[i] of an instance -/
namespace Lin
open PySem L2
section
variable {g : Gc} {n : Nat} {W : WX} {Γ : Gh} {A : List (Option T)} {σ : L2.St} {H : Hp} {M2 : List Nat}
end
/-! ### in the text -/
section
variable {X : Cx} {k : Nat} {f C : Addr} {fd : FuncData} {ps : List Str} {sp : Sp} {E : L2.St → XK} {x m : Str} {p pos apos pos' : Pos} {e o i v : Expr} {es : List Expr} {ta tb tv : TE} {t : TA}
/-- x[i], x an instance -/
structure SpecG (K : PySem.W.Frag) (C : Addr) (m : Str) (f : Addr) : Prop where
  at_ : PySem.W.findIn K (.ref C) m = some (some (.ref f))
  fn : PySem.W.isFn K (.ref f) = true
  fi : PySem.W.fnIn K f = true
/-- x[i] = v, x an instance -/
structure SpecS (K : PySem.W.Frag) (C : Addr) (f : Addr) : Prop where
  at_ : PySem.W.findIn K (.ref C) "__setitem__" = some (some (.ref f))
  fn : PySem.W.isFn K (.ref f) = true
  seq : PySem.W.noSeq K C = true
end
/-! ### the permuted call -/
/-! ### what gen prints -/
section
variable {Mz : List Nat} {X : Cx} {g : Gc} {W : WX} {M1 M2 M3 : List Nat} {a b c e o i v : Expr} {es : List Expr} {pos apos pos' p : Pos} {fa fb fv : Sg → R D} {fr : Sg → R (List D)} {rs : List (Option Nat)} {y m : Str} {ps : List Str} {k : Nat} {sem : FSem} {cn : Nat}
end
/-! ### plain rules -/
section
variable {E : EX} {S : Sg} {QL : List D → Sg → Prop} {fr : Sg → R (List D)}
end
end Lin
end
section
/-! dicts whose keys are ints or texts, the values without parts: d.pop(k, x), d.clear(), d.update(e), dict(d) -/
namespace Lin
open PySem PySem.Spec PyProof.Rows L2 LamX
/-! pop -/
section
variable {g : Gc}
/-! clear -/
end
/-! update -/
section
variable {g : Gc}
end
section
variable {Mz : List Nat} {X : Cx} {g : Gc} {W : WX} {M1 M2 : List Nat} {o e e2 : Expr} {pos apos : Pos} {fr : Sg → R (List D)}
end
/-! dict(d) -/
section
variable {g : Gc} {n : Nat}
end
end Lin
end
section
/-! {**d, k: v}, the keys ints or texts: the library's level -/
namespace PySem
open Sem (wp)
section
variable {prog : Program} {w : World} {K : Type} [DecidableEq K] {knd : KeyKind prog w K} {A : Around} {E : Value → Shared → Prop} {s : Shared}
end
end PySem
namespace Lin
open PySem PySem.Spec PyProof.Rows L2 LamX
end Lin
end
section
/-! {**d, k: v}: what it means -/
namespace Lin
open PySem PySem.Spec PyProof.Rows L2 LamX
section
variable {g : Gc} {n : Nat} {W : WX} {M1 M2 : List Nat}
end
section
variable {Mz : List Nat} {X : Cx} {g : Gc} {W : WX} {M1 M2 : List Nat} {de ke ve : Expr} {pos : Pos} {fa : Sg → R D} {fr : Sg → R (List D)}
end
section
variable {E : EX} {S : Sg} {Q : D → Sg → Prop} {fa : Sg → R D} {fr : Sg → R (List D)}
end
end Lin
end
section
set_option maxHeartbeats 4000000
/-! lambdas whose results and errors hold frozen values: these stay frozen -/
namespace Lin
open PySem PySem.Spec PyProof.Rows L2 LamX
section
variable {g : Gc} {caps : List (Option T)} {cc : Addr} {q : Str} {Γ Γ' : Gh} {n nm : Nat} {A : List (Option T)} {σ σm : L2.St} {H H' : Hp} {t : T} {p1 p2 : Gh → Prop}
theorem Rel.toPh (R : Rel (gPh g p1) Γ n A σ H) (h : p2 Γ) : Rel (gPh g p2) Γ n A σ H :=
  ⟨R.len, R.slen, R.val, fun i c x => R.hold i c (cellAt_ph.mpr (cellAt_ph.mp x)), fun i c r x => R.lab i c r (cellAt_ph.mpr (cellAt_ph.mp x)), fun i u e => by have := R.nd i u e; rw [cells_ph] at this ⊢; exact this,
    fun i j c d x y => R.sep i j c d (cellAt_ph.mpr (cellAt_ph.mp x)) (cellAt_ph.mpr (cellAt_ph.mp y)), R.frame, fun i c x => R.gown i c (cellAt_ph.mpr (cellAt_ph.mp x)), fun i c x => R.gfrz i c (cellAt_ph.mpr (cellAt_ph.mp x)), h, R.tab, R.lck⟩
end
section
variable {g : Gc} {caps : List (Option T)} {cc : Addr} {q : Str} {n nm : Nat} {σm : L2.St} {W : WX} {M1 Mb : List Nat}
end
/-! ### a body whose arguments are all by value; what else is frozen -/
section
variable {g : Gc} {H H' : Hp}
end
/-! ### the slots, borrowed one after the other -/
section
variable {g : Gc} {Γ : Gh} {n : Nat} {σ : L2.St} {H : Hp}
end
section
variable {X : Cx} {g : Gc} {W : WX} {M1 Mb Mc : List Nat}
end
section
variable {X : Cx} {g : Gc} {W : WX} {M1 Mb : List Nat}
end
section
variable {E : EX} {S : Sg} {Q : D → Sg → Prop} {fb : Sg → R D} {fr : Sg → R (List D)}
end
end Lin
end
section
set_option maxHeartbeats 4000000
/-! function objects (of lambdas) under names and in lists -/
namespace Lin
open PySem PySem.Spec PyProof.Rows L2 LamX
section
variable {f cc : Addr} {q : Str} {params : Arguments} {body : Expr} {scope : Scope} {cl : List (Str × Addr)}
end
section
variable {X : Cx} {pins : List (Addr × Obj)} {σ : L2.St} {H : Hp} {s : Shared}
/-! ### several lambdas, one after the other -/
abbrev LTx := Arguments × Expr × Scope
end
/-! ### a(e), a a parameter that holds such a function -/
section
variable {X : Cx} {pins : List (Addr × Obj)} {σ : L2.St} {H HZ : Hp} {s s1 : Shared} {y : Str}
end
section
variable {g : Gc} {caps : List (Option T)} {cc f : Addr} {q : Str} {F : HO} {n nm : Nat} {σm : L2.St} {W : WX} {M1 Mb : List Nat}
end
/-! ### what is known of the functions that stand somewhere -/
abbrev Kfs := List (Addr × (Sg → R D))
section
variable {X : Cx} {g : Gc} {W : WX} {M1 Mb Mc : List Nat}
end
end Lin
end
section
set_option maxHeartbeats 4000000
/-! function objects: where they are made -/
namespace Lin
open PySem PySem.Spec PyProof.Rows L2 LamX
section
variable {X : Cx} {g : Gc} {W : WX} {M1 : List Nat}
end
/-! ### the relation, as a function is made -/
section
variable {X : Cx} {g : Gc} {k n : Nat} {τ : Kfs} {Γ : Gh} {A : List (Option T)} {σ : L2.St} {H H1 : Hp} {f cc : Addr} {l : LTx} {fb : Sg → R D}
end
def pz : List Addr → List (Sg → R D) → Kfs → Kfs
  | f :: fs, b :: bs, τ => pz fs bs ((f, b) :: τ)
  | _, _, τ => τ
def okF (fs : List Addr) (τ : Kfs) : Prop := fs.Nodup ∧ ∀ f ∈ fs, f ∉ τ.map Prod.fst
/-! ### all addresses do alike -/
noncomputable def uniN (k : Nat) (τ : Kfs) (F : List Addr → R Fl) : R Fl := open Classical in if h : ∃ r, ∀ fs : List Addr, fs.length = k → okF fs τ → F fs = r then h.choose else .bad
def mxF : Kfs → Nat
  | [] => 0
  | (f, _) :: r => f + 1 + mxF r
theorem mx_ar1 (a f m : Nat) (e : a = f) : a < f + 1 + m := by omega
theorem mx_ar2 (a f m : Nat) (e : a < m) : a < f + 1 + m := by omega
theorem mx_ar3 (a b m : Nat) (h : a ≠ b) : a + m ≠ b + m := by omega
theorem mx_ar4 (j m f : Nat) (e : j + m = f) (h : f < m) : False := by omega
theorem mxF_lt : ∀ {τ : Kfs} {a : Addr}, a ∈ τ.map Prod.fst → (show Nat from a) < mxF τ
  | (f, b) :: r, a, h => by
    rw [List.map_cons] at h
    unfold mxF
    rcases List.mem_cons.mp h with e | h
    · exact mx_ar1 a f _ e
    · exact mx_ar2 a f _ (mxF_lt h)
theorem okF_ex (k : Nat) (τ : Kfs) : ∃ fs : List Addr, fs.length = k ∧ okF fs τ := by
  refine ⟨(List.range k).map (fun j : Nat => (j + mxF τ : Nat)), by simp, ?_, fun f hf hm => ?_⟩
  · exact List.Pairwise.map (R := (· ≠ ·)) _ (fun a b h => mx_ar3 a b _ h) List.nodup_range
  · obtain ⟨j, _, e⟩ := List.mem_map.mp hf
    exact mx_ar4 j (mxF τ) f e (mxF_lt hm)
theorem uniN_eq {k : Nat} {τ : Kfs} {F : List Addr → R Fl} {r : R Fl} (h : ∀ fs : List Addr, fs.length = k → okF fs τ → F fs = r) : uniN k τ F = r := by
  have hx : ∃ r, ∀ fs : List Addr, fs.length = k → okF fs τ → F fs = r := ⟨r, h⟩
  unfold uniN
  rw [dif_pos hx]
  obtain ⟨fs, h1, h2⟩ := okF_ex k τ
  exact (hx.choose_spec fs h1 h2).symm.trans (h fs h1 h2)
theorem uniN_of {k : Nat} {τ : Kfs} {F : List Addr → R Fl} (h : uniN k τ F ≠ .bad) {fs : List Addr} (h1 : fs.length = k) (h2 : okF fs τ) : F fs = uniN k τ F := by
  unfold uniN at h ⊢
  by_cases hx : ∃ r, ∀ fs : List Addr, fs.length = k → okF fs τ → F fs = r
  · rw [dif_pos hx] at h ⊢; exact hx.choose_spec fs h1 h2
  · rw [dif_neg hx] at h; exact absurd rfl h
/-! ### slots are given up -/
def fgS : List Nat → Sg → Sg
  | [], S => S
  | i :: r, S => fgS r (S.set i none)
def fgR (is : List Nat) : R Fl → R Fl
  | .ok fl S => .ok fl (fgS is S)
  | .exc c d S => .exc c d (fgS is S)
  | .bad => .bad
def fgA : List Nat → List (Option T) → List (Option T)
  | [], A => A
  | i :: r, A => fgA r (A.set i none)
theorem fgA_ers {n : Nat} : ∀ (is : List Nat) (A : List (Option T)), (∀ i ∈ is, i < n) → ers n (fgA is A) = fgS is (ers n A)
  | [], A, _ => rfl
  | i :: r, A, h => by
    rw [fgA, fgA_ers r _ (fun j hj => h j (List.mem_cons_of_mem _ hj)), ers_set (h i List.mem_cons_self)]
    rfl
theorem fgA_next {n : Nat} {A : List (Option T)} : ∀ (is : List Nat) (B : List (Option T)), (∀ i ∈ is, i < n) → Next n A B → Next n A (fgA is B)
  | [], B, _, x => x
  | i :: r, B, h, x => fgA_next r _ (fun j hj => h j (List.mem_cons_of_mem _ hj)) (next_set (h i List.mem_cons_self) _ x)
theorem fgA_app (t : Option T) : ∀ (is : List Nat) (A : List (Option T)), (∀ i ∈ is, i < A.length) → fgA is (A ++ [t]) = fgA is A ++ [t]
  | [], A, _ => rfl
  | i :: r, A, h => by
    rw [fgA, fgA, List.set_append_left _ _ (h i List.mem_cons_self)]
    exact fgA_app t r _ (fun j hj => by rw [List.length_set]; exact h j (List.mem_cons_of_mem _ hj))
theorem fgA_rel {g : Gc} {Γ : Gh} {n : Nat} {σ : L2.St} {H : Hp} : ∀ (is : List Nat) (A : List (Option T)), Rel g Γ n A σ H → Rel g Γ n (fgA is A) σ H
  | [], A, R => R
  | i :: r, A, R => fgA_rel r _ (R.less (by rw [List.length_set]; exact R.len) fun j t e => by
    by_cases hj : j = i
    · subst hj
      by_cases hl : j < A.length
      · rw [List.getElem?_set_self hl] at e; cases e
      · rw [List.getElem?_eq_none (by rw [List.length_set]; omega)] at e; cases e
    · rwa [List.getElem?_set_ne (Ne.symm hj)] at e)
section
variable {g g' : Gc} {n : Nat} {W : WX} {M : List Nat} {Γ Γ' : Gh} {A : List (Option T)} {σ : L2.St} {Dn : Ends} {is : List Nat}
theorem post_out (hc : g'.cl = g.cl) (out : ∀ (n : Nat) (A : List (Option T)) (σ : L2.St) (H : Hp), Rel g' Γ' n A σ H → Rel g Γ n A σ H) (hn : n ≤ A.length) (hi : ∀ i ∈ is, i < n) : ∀ {r : R Fl}, PostS g n W M Γ A σ Dn (fgR is r) → PostS g' n W M Γ' A σ Dn r := by
  have st : ∀ {A' : List (Option T)} {σ' : L2.St}, NextS n M A A' σ σ' → NextS n M A (fgA is A') σ σ' := fun x => ⟨fgA_next is _ hi x.toNext, x.keep⟩
  have ap : ∀ {A' : List (Option T)} {σ' : L2.St} {t : Option T}, NextS n M A A' σ σ' → fgA is (A' ++ [t]) = fgA is A' ++ [t] := fun {A' σ' t} x => fgA_app t is A' fun i h => by have := hi i h; rw [x.len]; omega
  intro r h
  cases r with
  | bad => exact h
  | exc c d S =>
    intro A' t σ' H' R x e1 e2
    have := h (fgA is A') t σ' H' (by rw [← ap x]; exact fgA_rel is _ (out _ _ _ _ R)) (st x) (by rw [fgA_ers is _ hi, e1]) e2
    rw [hc]; exact this
  | ok fl S =>
    cases fl with
    | nx => exact fun A' σ' H' R x e1 => h (fgA is A') σ' H' (fgA_rel is _ (out _ _ _ _ R)) (st x) (by rw [fgA_ers is _ hi, e1])
    | brk => exact fun A' σ' H' R x e1 => h (fgA is A') σ' H' (fgA_rel is _ (out _ _ _ _ R)) (st x) (by rw [fgA_ers is _ hi, e1])
    | cnt => exact fun A' σ' H' R x e1 => h (fgA is A') σ' H' (fgA_rel is _ (out _ _ _ _ R)) (st x) (by rw [fgA_ers is _ hi, e1])
    | ret d => exact fun A' t σ' H' R x e1 e2 => h (fgA is A') t σ' H' (by rw [← ap x]; exact fgA_rel is _ (out _ _ _ _ R)) (st x) (by rw [fgA_ers is _ hi, e1]) e2
theorem clean_ph {p : Gh → Prop} {M : List Nat} : Clean (gPh g p) n M A ↔ Clean g n M A := by
  unfold Clean
  simp only [cellAt_ph]
end
end Lin
end
section
set_option maxHeartbeats 4000000
/-! function objects: the statements that make them, and what stands behind -/
namespace Lin
open PySem PySem.Spec PyProof.Rows L2 LamX
section
variable {X : Cx} {g : Gc} {W : WX} {k n : Nat} {M1 M2 Mb : List Nat}
/-! ### known functions as values -/
def imF (fs : List Addr) : List D := fs.map fun f => .im (.ref f)
def conF (fs : List Addr) : Sg → R (List D) := fun S => .ok (imF fs) S
theorem rel_ims {Γ : Gh} {σ : L2.St} {H : Hp} : ∀ (fs : List Addr) {A : List (Option T)}, n ≤ A.length → Rel g Γ n A σ H → Rel g Γ n (A ++ (fs.map fun f => T.im (.ref f)).map some) σ H
  | [], A, _, R => by simpa using R
  | f :: fs, A, hn, R => by
    have R1 : Rel g Γ n (A ++ [some (.im (.ref f))]) σ H := Rel.imm (B := []) (by simpa using R) hn _
    have := rel_ims fs (by simp; omega) R1
    simpa using this
theorem mean_con (fs : List Addr) : MeanA g n W [] (fun _ H Q => Q (fs.map V.ref) H) (conF fs) := by
  intro Γ A σ H Q R cl h
  have h := h A (fs.map fun f => T.im (.ref f)) H (rel_ims fs R.len R) (.refl _ _) rfl (by unfold imF; rw [List.map_map]; rfl)
  rw [List.map_map] at h
  exact h
/-! ### x = [lambda.., ..]; rest -/
/-! ### x.append(lambda..); rest -/
end
/-! ### the plain rules -/
section
variable {E : EX} {S : Sg} {Q : D → Sg → Prop} {QF : Fl → Sg → Prop} {fr : Sg → R (List D)}
/-- what all functions do alike -/
theorem ok_uniN {k : Nat} {τ : Kfs} {F : List Addr → R Fl} {r : R Fl} (h : ∀ fs : List Addr, fs.length = k → okF fs τ → F fs = r) (q : OkE E r QF) : OkE E (uniN k τ F) QF := by
  rw [uniN_eq h]; exact q
end
end Lin
end
section
set_option maxHeartbeats 4000000
/-! errors as values: made, asked, read -/
namespace Lin
open PySem PySem.Spec PySem.Calls PyProof.Rows L2
/-! ### what is known of an error that nobody raised -/
def ExtA (H H' : Hp) : Prop := ∀ b o, H b = some o → H' b = some o
theorem ExtA.refl (H : Hp) : ExtA H H := fun _ _ e => e
theorem ExtA.trans {H H1 H2 : Hp} (a : ExtA H H1) (b : ExtA H1 H2) : ExtA H H2 := fun c o e => b c o (a c o e)
theorem ExtA.upd {H : Hp} {a : Addr} {o : HO} (n : H a = none) : ExtA H (upd H a o) := fun b u e => by rw [upd_ne (ne_of_none e n)]; exact e
theorem ExtA.none {H H' : Hp} {a : Addr} (e : ExtA H H') (n : H' a = Option.none) : H a = Option.none := by
  cases q : H a with
  | none => rfl
  | some u => rw [e a u q] at n; cases n
/-- an error of the class C, with its field -/
def XIs (H : Hp) (a C : Addr) : Option (Str × V) → Prop
  | none => H a = some (exo a C none)
  | some p => ∃ dx, H a = some (exo a C (some dx)) ∧ H dx = some (exd dx [p])
section
variable {H H' : Hp} {a C : Addr} {fv : Option (Str × V)}
theorem XIs.ext (x : XIs H a C fv) (e : ExtA H H') : XIs H' a C fv := by
  cases fv with
  | none => exact e _ _ x
  | some p => obtain ⟨dx, h1, h2⟩ := x; exact ⟨dx, e _ _ h1, e _ _ h2⟩
theorem XIs.some (x : XIs H a C fv) : ∃ o, H a = Option.some o := by
  cases fv with
  | none => exact ⟨_, x⟩
  | some p => obtain ⟨dx, h1, _⟩ := x; exact ⟨_, h1⟩
end
/-- a new one -/
def XNew (H H2 : Hp) (a C : Addr) : Option (PySem.Str × V) → Prop
  | none => H a = none ∧ H2 a = some (exo a C none)
  | some p => ∃ dx, H a = none ∧ H dx = none ∧ H2 a = some (exo a C (some dx)) ∧ H2 dx = some (exd dx [p])
section
variable {H H0 H2 H3 : Hp} {a C : Addr} {fv : Option (PySem.Str × V)}
theorem XNew.is (x : XNew H H2 a C fv) : XIs H2 a C fv := by
  cases fv with
  | none => exact x.2
  | some p => obtain ⟨dx, _, _, h1, h2⟩ := x; exact ⟨dx, h1, h2⟩
theorem XNew.ext (x : XNew H H2 a C fv) (e0 : ExtA H0 H) (e : ExtA H2 H3) : XNew H0 H3 a C fv := by
  cases fv with
  | none => exact ⟨e0.none x.1, e _ _ x.2⟩
  | some p => obtain ⟨dx, n1, n2, h1, h2⟩ := x; exact ⟨dx, e0.none n1, e0.none n2, e _ _ h1, e _ _ h2⟩
theorem XNew.fresh (x : XNew H H2 a C fv) : H a = Option.none := by
  cases fv with
  | none => exact x.1
  | some p => obtain ⟨dx, n1, _⟩ := x; exact n1
end
/-! ### rules -/
section
variable {X : Cx} {x f : PySem.Str} {C fI : Addr} {fd : FuncData} {par : PySem.Str} {e o : Expr} {te to : TE} {p pos : Pos}
/-- C(), C without own __init__ -/
theorem pe_xc0 (T : Ex0 X.K C) (gC : X.mg x = some (.ref C)) (hg : Gl X x := by rfl) (hdb : (x == ("__debug__" : Str)) = false := by decide) :
    PE X (.Call (.Name x p) [] [] pos) (fun _ H Q => ∀ a H2, ExtA H H2 → XNew H H2 a C none → Q (.ref a) H2) := by
  refine ⟨fun pins s σ H Q I h => ?_⟩
  refine wpAny_Call_Name_kw (ld_glob I hg gC ?_ hdb)
  refine PySem.W.callWith_K0 I.kIn T.kp ?_
  obtain ⟨bm, N, nm, qn, bs, hdct, sn, sub, ab, col, dd, k0, k1, k2, k3, k5, mN, hC, hN, hni, Tl⟩ := exc_obj I.kIn T.ex
  refine wpAny_call_exc_subT PySem.F.excBase_ValueError Tl hC hN hni (fun h' a hm => ?_) (Nat.zero_le _)
  have hn : H a = none := I.hok.gone hm.new
  obtain ⟨t, ht, _, _⟩ := hm.there
  exact ⟨.ref a, upd H a (exo a C none), I.laidN hm.keeps hm.new hn (exo_ok ht), rfl, h a _ (ExtA.upd hn) ⟨hn, upd_same⟩⟩
/-- the promise of an __init__ that keeps one value -/
def spXH (K : PySem.W.Frag) (f : Str) (Pv : V → Hp → Prop) : Sp := fun vs H Q _ => ∃ (a C : Addr) (v : V), vs = [.ref a, v] ∧ OexC K C ∧ PySem.W.findIn K (.ref C) f = some none ∧ H a = some (exo a C none) ∧ Pv v H ∧
  ∀ dx, H dx = none → dx ≠ a → Q .non (upd (upd H dx (exd dx [(f, v)])) a (exo a C (some dx)))
/-- C(e), C's own __init__ keeping the value -/
theorem pe_xc1 {Pv : V → Hp → Prop} (hPv : ∀ v H H', ExtA H H' → Pv v H → Pv v H') (T : Ex1 X.K C f fI) (F1 : FnOk X.prog X.w X.K X.mg X.base (L2.CX X.prog X.w) 1 fI fd ["self", par] (spXH X.K f Pv)) (hb : Binds X.K fd ["self", par] []) (hm : X.mg x = some (.ref C)) (hr : Room 2 X.A)
    (hx : Passes (L2.CX X.prog X.w) X (fun _ _ _ => False)) (he : PE X e te) (hg : Gl X x := by rfl)
    (hdb : (x == ("__debug__" : Str)) = false := by decide) (hs : starEach [e] X.env = (false, eval e X.env) :: starEach [] X.env := by rfl) (hpl : (backTo pos (starEach [] X.env)).any (·.1) = false := by rfl) :
    PE X (.Call (.Name x p) [e] [] pos) (fun σ H Q => te σ H fun v H1 => Pv v H1 ∧ ∀ a H2, ExtA H1 H2 → XNew H1 H2 a C (some (f, v)) → Q (.ref a) H2) := by
  have ha : PA X [e] (tCons te tNil) := pa_cons he pa_nil hs
  refine ⟨fun pins s σ H Q I h => ?_⟩
  obtain ⟨nm, q, N, bs, bm, sn, sub, ab, col, dd, k0, k1, k2, k3, k5, hC, hbm⟩ := T.cl.cls
  refine wpAny_Call_Name_kw (ld_glob I hg hm ?_ hdb)
  refine PySem.W.callWith_K (h₀ := X.base) I.ok.mod.kin T.cl.kC (thn (ha.run pos pins s σ H (fun vs H1 => match vs with | [v] => Pv v H1 ∧ ∀ a H2, ExtA H1 H2 → XNew H1 H2 a C (some (f, v)) → Q (.ref a) H2 | _ => False) I h) fun us s1 ⟨vs, H1, I1, r1, q1⟩ => ⟨I1.kIn, ?_⟩) hs hpl
  show wpAny _ _ (call (.ref C) us) _ _ _
  obtain ⟨v, rfl, hv, q1⟩ : ∃ v, vs = [v] ∧ Pv v H1 ∧ ∀ a H2, ExtA H1 H2 → XNew H1 H2 a C (some (f, v)) → Q (.ref a) H2 := by
    cases vs with
    | nil => exact q1.elim
    | cons v r => cases r with
      | nil => exact ⟨v, rfl, q1⟩
      | cons _ _ => exact q1.elim
  obtain ⟨hp, g, dr, tk, os⟩ := s1
  have hsz : hp.objs.size ≤ hp.objs.size + 1 := Nat.le_succ _
  have hn : H1 (hp.objs.size + 1) = none := I1.hok.fresh hsz
  have kk : ∀ b o, hp.get? b = some o → ((hp.push (PySem.W.kdv_tup us)).push (PySem.HandSPX.excO C hp.objs.size)).get? b = some o := fun b o e => Heap.get?_push_of_some _ (Heap.get?_push_of_some _ e)
  have hget : ((hp.push (PySem.W.kdv_tup us)).push (PySem.HandSPX.excO C hp.objs.size)).get? (hp.objs.size + 1) = some (PySem.HandSPX.excO C hp.objs.size) := by heap_get
  have I2 : Inv X pins σ (upd H1 (hp.objs.size + 1) (exo (hp.objs.size + 1) C none)) ⟨(hp.push (PySem.W.kdv_tup us)).push (PySem.HandSPX.excO C hp.objs.size), g, dr, tk, os⟩ :=
    I1.laid (t' := tk) (a := hp.objs.size + 1) (o := exo (hp.objs.size + 1) C none) (h' := (hp.push (PySem.W.kdv_tup us)).push (PySem.HandSPX.excO C hp.objs.size)) kk hsz (exo_ok hget)
  have hq : spXH X.K f Pv (.ref (hp.objs.size + 1) :: [v]) (upd H1 (hp.objs.size + 1) (exo (hp.objs.size + 1) C none)) (fun w H2 => w = .non ∧ Q (.ref (hp.objs.size + 1)) H2) (fun _ _ _ => False) := by
    refine ⟨_, C, v, rfl, T.cl, T.no, upd_same, hPv _ _ _ (ExtA.upd hn) hv, fun dx n1 n2 => ?_⟩
    have nd : H1 dx = none := by rw [upd_ne n2] at n1; exact n1
    refine ⟨rfl, q1 _ _ (fun b o eb => ?_) ⟨dx, hn, nd, upd_same, by rw [upd_ne n2, upd_same]⟩⟩
    have hba := ne_of_none eb hn
    rw [upd_ne hba, upd_ne (ne_of_none eb nd), upd_ne hba]; exact eb
  have r2 : Vals (V.ref (hp.objs.size + 1) :: [v]) (Value.ref (hp.objs.size + 1) :: us) := .cons rfl r1
  have lus : us.length = 1 := (Paired.length r1).symm
  have hl : (Value.ref (hp.objs.size + 1) :: us ++ []).length = (["self", par] : List PySem.Str).length := by simp [lus]
  have hus : us.length ≤ sizeLine := by rw [lus, sizeLine_eq]; omega
  refine wpAny_call (PySem.HandSPX.call_own F.excBase_ValueError (fun Y => PySem.HandSPX.refsVE_contains Y bm hbm) (I1.kIn _ _ hC) (PySem.W.looks_findIn I1.kIn T.ini) (fun self => PySem.W.bind_fn I1.kIn self T.fn) hus
    (codeAny_mono (F1.run _ X.stack _ _ ⟨Value.ref (hp.objs.size + 1) :: us, []⟩ (Value.ref (hp.objs.size + 1) :: us) _ _ (fun _ _ _ => False) (hr.make C us []) (I2.env0.make C us []) (by have := hb _ (Value.ref (hp.objs.size + 1) :: us) I2.kIn hl; rw [List.append_nil] at this; exact this) r2 hq) fun r s' hq' => ?_))
  cases r with
  | error er => exact hx pins σ _ _ er s' I2 hq'
  | ok fl =>
    cases fl with
    | ret u =>
      obtain ⟨w, H2, os2, bare2, un2, hok2, rv, ev, q2⟩ := hq'
      subst ev
      obtain ⟨h2, g2, d2, t2, os'⟩ := s'
      exact ⟨rv, ⟨.ref (hp.objs.size + 1), H2, I2.call' (ch := []) os2 un2 hok2 bare2 (fun b z => absurd z (by simp)), rfl, q2⟩⟩
    | next => exact False.elim hq'
    | brk => exact False.elim hq'
    | cont => exact False.elim hq'
/-- isinstance(e, c), e an error that nobody raised -/
def rIsO (K : PySem.W.Frag) : List V → Hp → VK → Prop := fun xs H Q => ∃ (a D : Addr) (fv : Option (Str × V)) (c : V) (cv : Value) (b : Bool), xs = [.ref a, c] ∧ XIs H a D fv ∧ ExcC K D ∧ (∀ u, RelV c u → u = cv) ∧ PySem.W.kitOne K (.ref D) cv = some b ∧ Q (.bl b) H
theorem call_isO : CallR X (.builtin "isinstance") (rIsO X.K) := by
  intro pins s σ H xs us Q I r h
  obtain ⟨a, D, fv, c, cv, b, rfl, hX, T, hcv, e, q⟩ := h
  cases r with
  | cons rx rr =>
    cases rr with
    | cons rt rr =>
      cases rr
      cases rx
      have ec := hcv _ rt
      subst ec
      have J : ∃ oe od, PySem.W.InstAt s.heap a oe D od := by
        cases fv with
        | none =>
          obtain ⟨t1, ho⟩ := exo_at I.hok hX
          exact ⟨_, none, ho, rfl, rfl, trivial⟩
        | some p =>
          obtain ⟨dx, h1, h2⟩ := hX
          obtain ⟨t1, ho⟩ := exo_at I.hok h1
          obtain ⟨u, hu⟩ := objOk_get (I.hok dx _ h2)
          exact ⟨_, some u, ho, rfl, rfl, hu⟩
      obtain ⟨oe, od, J⟩ := J
      exact PySem.W.kia_one (kit_exc T) I.kIn J e (fun z => nomatch z) fun tk => ⟨.bl b, H, I.kept (t' := tk) fun _ _ z => z, rfl, q⟩
/-- e.f, e an error that nobody raised -/
def tXat (K : PySem.W.Frag) (f : Str) (te : TE) : TE := fun σ H Q => te σ H fun x H1 => ∃ (a D : Addr) (v : V), x = .ref a ∧ XIs H1 a D (some (f, v)) ∧ XfC K D ∧ PySem.W.findIn K (.ref D) f = some none ∧ Q v H1
theorem pe_xat (he : PE X e te) (hb : attributeBase e f X.env (eval e X.env) = eval e X.env := by rfl) : PE X (.Attribute e f pos) (tXat X.K f te) := by
  refine ⟨fun pins s σ H Q I h => ?_⟩
  refine attr_of hb (thn (he.run pins s σ H _ I h) fun u s1 hh => ?_)
  obtain ⟨x, H1, I1, rx, a, D, v, ex, ⟨dx, h1, h2⟩, T, hno, q⟩ := hh
  subst ex
  obtain rfl : u = Value.ref a := rx
  obtain ⟨t1, ho⟩ := exo_at I1.hok h1
  obtain ⟨mA, hns, hr⟩ := exd_at I1.hok h2
  obtain ⟨od, hod, hl⟩ := lookIn_ns hns
  obtain ⟨u, hu, ru⟩ := RelO.some_of (v := v) (o := mA f) (by
    have := hr f
    rw [lookup_put, if_pos rfl] at this
    exact this)
  have J : PySem.W.InstAt s1.heap a _ D (some od) := ⟨ho, rfl, rfl, hod⟩
  exact HandSPX.exc_get I1.kIn J T.ga T.gg T.exC (PySem.W.findObj_own T.hdC hno rfl (by rw [hl, hu])) (handed_of ru) ⟨v, H1, I1.tok _, ru, q⟩
end
end Lin
end
section
set_option maxHeartbeats 4000000
/-! defs that make, ask and read errors: their promises -/
namespace Lin
open PySem PySem.Spec PySem.Calls PyProof.Rows L2
/-! ### values that an error's text may show -/
def goodI (i : Int) : Bool := decide (i.natAbs.log2 < 1920) && decide ((Str.empty ++ (toString i : Str)).length ≤ 100)
def GoodV (v : V) (H : Hp) : Prop := (∃ i : Int, v = .int i ∧ goodI i = true) ∨ (∃ y : PySem.Str, v = .str y ∧ (Str.empty ++ y).length ≤ 100 ∧ y.length ≤ 100) ∨ v = .non ∨ ∃ a, v = .ref a ∧ H a = some (.tup [.int 0, .int 1])
theorem GoodV.ext {v : V} {H H' : Hp} (e : ExtA H H') (g : GoodV v H) : GoodV v H' := by
  rcases g with g | g | g | ⟨a, h, q⟩
  · exact .inl g
  · exact .inr (.inl g)
  · exact .inr (.inr (.inl g))
  · exact .inr (.inr (.inr ⟨a, h, e _ _ q⟩))
section
variable {X : Cx} {e : Expr} {te : TE} {pos : Pos} {k : Nat}
def tFmtX (te : TE) : TE := fun σ H Q => te σ H fun x H1 => (∃ i : Int, x = .int i ∧ i.natAbs.log2 < 1920 ∧ Q (.str (toString i)) H1) ∨ (∃ y : PySem.Str, x = .str y ∧ y.length ≤ sizeLine ∧ Q (.str y) H1) ∨ (x = .non ∧ Q (.str "None") H1) ∨
  ∃ a, x = .ref a ∧ H1 a = some (.tup [.int 0, .int 1]) ∧ ∀ m : PySem.Str, m.length ≤ 100 → Q (.str m) H1
theorem txt01 : (tupleText [(toString (0 : Int) : PySem.Str), (toString (1 : Int) : PySem.Str)]).length ≤ 20 := by decide +kernel
theorem pe_fmtX (hr : Room k X.A) (he : PE X e te) : PE X (.FormattedValue e (-1) none pos) (tFmtX te) := by
  refine ⟨fun pins s σ H Q I h => ?_⟩
  refine wpAny_FormattedValue_plain (thn (he.run pins s σ H _ I h) fun v s1 ⟨x, H1, I1, r1, q⟩ => ?_)
  rcases q with ⟨i, rfl, hz, q⟩ | ⟨y, rfl, hz, q⟩ | ⟨rfl, q⟩ | ⟨a, rfl, ha, q⟩
  · obtain ⟨t, rfl⟩ := r1
    exact wpAny_formatField_int hz ⟨.str (toString i), H1, I1.tok _, ⟨_, rfl⟩, q⟩
  · obtain ⟨t, rfl⟩ := r1
    exact wpAny_formatField_str ⟨.str y, H1, I1, ⟨t, rfl⟩, q⟩ ⟨.str y, H1, I1.tok _, ⟨_, rfl⟩, q⟩ hz
  · obtain rfl : v = Value.none := r1
    exact wpAny_formatField_none ⟨.str "None", H1, I1.tok _, ⟨_, rfl⟩, q⟩
  · obtain rfl : v = Value.ref a := r1
    obtain ⟨its, rv, ⟨o, ho, hcl, n, hd⟩, _⟩ := I1.tuple (xs := [.int 0, .int 1]) (Or.inl (Rd.of ha))
    cases rv with
    | cons r0 rv =>
      cases rv with
      | cons r1 rv =>
        cases rv
        obtain ⟨t0, rfl⟩ := r0
        obtain ⟨t1, rfl⟩ := r1
        have hu := hr.units
        have hl := txt01
        refine fmt_tuple (ts := [(toString (0 : Int) : PySem.Str), (toString (1 : Int) : PySem.Str)]) (by omega) ho hcl hd (.cons (ReprIs.int t0 (by decide)) (.cons (ReprIs.int t1 (by decide)) .nil)) (by rw [sizeLine_eq]; omega) fun m u tk hm => ⟨.str m, H1, I1.tok _, ⟨u, rfl⟩, q m (by omega)⟩
end
def tFmX (i : Nat) (m : PySem.Str) : TE := fun σ H Q => tJs [tFmtX (tVar i), tC (.str m)] Str.empty σ H fun out H1 => Q (.str out) H1
theorem empty_len (m : PySem.Str) : (Str.empty ++ m).length = m.length := by
  rw [strLen_append]
  have : Str.empty.length = 0 := by decide
  omega
theorem fmX_ok {i : Nat} {m : PySem.Str} (hm : m.length ≤ 1000) {σ : L2.St} {H : Hp} {Q : VK} {v : V} (h : σ[i]? = some (some v)) (hv : GoodV v H) (hq : ∀ u, Q u H) : tFmX i m σ H Q := by
  refine ⟨v, h, ?_⟩
  have fin : ∀ y : PySem.Str, (Str.empty ++ y).length ≤ 100 → ∃ z : PySem.Str, (V.str y) = .str z ∧ (Str.empty ++ z).length ≤ sizeLine ∧ tJs [tC (.str m)] (Str.empty ++ z) σ H fun out H1 => Q (.str out) H1 := fun y hy => by
    refine ⟨y, rfl, by rw [sizeLine_eq]; omega, m, rfl, ?_, hq _⟩
    rw [strLen_append, sizeLine_eq]; omega
  rcases hv with ⟨j, rfl, hj⟩ | ⟨y, rfl, hy, hy2⟩ | rfl | ⟨a, rfl, ha⟩
  · unfold goodI at hj
    rw [Bool.and_eq_true] at hj
    exact .inl ⟨j, rfl, of_decide_eq_true hj.1, fin _ (of_decide_eq_true hj.2)⟩
  · exact .inr (.inl ⟨y, rfl, by rw [sizeLine_eq]; omega, fin _ hy⟩)
  · exact .inr (.inr (.inl ⟨rfl, fin _ (by decide)⟩))
  · exact .inr (.inr (.inr ⟨a, rfl, ha, fun z hz => fin _ (by rw [empty_len]; exact hz)⟩))
section
variable {P : Program} {w : World} {K : PySem.W.Frag} {mg : PySem.Str → Option Value} {base : Heap}
theorem exinitH_ok {x qual par f bx : PySem.Str} {st : Stmt} {fA B : Addr} {fd : FuncData} {Pv : V → Hp → Prop} (F : Fun K x qual st fA fd) (S : FnScope ["self", par] ["self", par] (defScope st)) (T : BaseC K mg bx B)
    (hb : ∀ (cdv : Value) (A : Around) (outer : List Env) (s : Shared) (H : Hp) (E : XK), Room 0 (A.deeper (PyProof.Rows.envOfC qual (defScope st) s.heap.objs.size fA cdv)) →
      ∃ tm : TE, (∀ σ H' Q v, σ[1]? = some (some v) → Pv v H' → (∀ u, Q u H') → tm σ H' Q) ∧ PSs (cxOf (L2.CX P w) P w K mg base ["self", par] qual (defScope st) fA cdv A outer s H E) (defBody st)
        (tSeq (tDrop (tVeI K (tCons (tVar 0) (tCons tm tNil)))) (tOst K f (tVar 0) (tVar 1)))) :
    FnOk P w K mg base (L2.CX P w) 1 fA fd ["self", par] (spXH K f Pv) := by
  refine F.okX (k := 0) S (fun vs H Q E h => ?_) fun cdv A outer s H vs Q E hr h => ?_
  · obtain ⟨a, C, v, rfl, _⟩ := h; rfl
  · obtain ⟨a, C, v, rfl, hC, hno, ha, hv, hq⟩ := h
    obtain ⟨tm, h1, h2⟩ := hb cdv A outer s H E hr
    refine ⟨_, h2, ?_⟩
    refine ⟨.ref a, rfl, h1 _ _ _ v rfl hv fun u => ?_⟩
    refine ⟨a, C, [u], rfl, by simp, hC, ha, ?_⟩
    refine ⟨v, rfl, .ref a, rfl, a, C, rfl, hC, hno, .inl ⟨ha, fun dx n1 n2 => hq dx n1 n2⟩⟩
end
/-- the __init__ of such a class, as its rule -/
def DxH (P : Program) (w : World) (K : PySem.W.Frag) (mg : PySem.Str → Option Value) (base : Heap) (C : Addr) (x f : PySem.Str) : Prop :=
  ∃ fI fd par, FnOk P w K mg base (L2.CX P w) 1 fI fd ["self", par] (spXH K f GoodV) ∧ Ex1 K C f fI ∧ mg x = some (.ref C) ∧ Binds K fd ["self", par] []
/-! ### lists of new errors -/
abbrev XSp := Addr × Option PySem.Str
def XsMk (v : V) : List XSp → Hp → (List Addr → Hp → Prop) → Prop
  | [], H, k => k [] H
  | c :: r, H, k => ∀ a H2, ExtA H H2 → XNew H H2 a c.1 (c.2.map fun f => (f, v)) → XsMk v r H2 fun as H3 => k (a :: as) H3
def tXs (i : Nat) (cs : List XSp) : TA := fun σ H Q => ∃ v, σ[i]? = some (some v) ∧ GoodV v H ∧ XsMk v cs H fun as H1 => Q (as.map V.ref) H1
def XIss (H : Hp) (v : V) : List Addr → List XSp → Prop
  | [], [] => True
  | a :: as, c :: cs => XIs H a c.1 (c.2.map fun f => (f, v)) ∧ XIss H v as cs
  | _, _ => False
theorem XIss.ext {H H' : Hp} {v : V} (e : ExtA H H') : ∀ {as : List Addr} {cs : List XSp}, XIss H v as cs → XIss H' v as cs
  | [], [], _ => trivial
  | _ :: _, _ :: _, h => ⟨h.1.ext e, XIss.ext e h.2⟩
  | [], _ :: _, h => h.elim
  | _ :: _, [], h => h.elim
theorem XIss.app {H : Hp} {v : V} : ∀ {as bs : List Addr} {cs ds : List XSp}, XIss H v as cs → XIss H v bs ds → XIss H v (as ++ bs) (cs ++ ds)
  | [], _, [], _, _, h => h
  | _ :: _, _, _ :: _, _, h, h' => ⟨h.1, XIss.app h.2 h'⟩
  | [], _, _ :: _, _, h, _ => h.elim
  | _ :: _, _, [], _, h, _ => h.elim
theorem XIss.len {H : Hp} {v : V} : ∀ {as : List Addr} {cs : List XSp}, XIss H v as cs → as.length = cs.length
  | [], [], _ => rfl
  | _ :: _, _ :: _, h => congrArg (· + 1) (XIss.len h.2)
  | [], _ :: _, h => h.elim
  | _ :: _, [], h => h.elim
theorem XIss.some {H : Hp} {v : V} : ∀ {as : List Addr} {cs : List XSp}, XIss H v as cs → ∀ a ∈ as, ∃ o, H a = Option.some o
  | [], [], _, a, ha => nomatch ha
  | b :: as, c :: cs, h, a, ha => by
    rcases List.mem_cons.mp ha with rfl | ha
    · exact h.1.some
    · exact XIss.some h.2 a ha
  | [], _ :: _, h, _, _ => h.elim
  | _ :: _, [], h, _, _ => h.elim
def XNews (H H1 : Hp) (v : V) : List Addr → List XSp → Prop
  | [], [] => True
  | a :: as, c :: cs => XNew H H1 a c.1 (c.2.map fun f => (f, v)) ∧ XNews H H1 v as cs
  | _, _ => False
theorem XNews.ext {H H0 H1 H2 : Hp} {v : V} (e0 : ExtA H0 H) (e : ExtA H1 H2) : ∀ {as : List Addr} {cs : List XSp}, XNews H H1 v as cs → XNews H0 H2 v as cs
  | [], [], _ => trivial
  | _ :: _, _ :: _, h => ⟨h.1.ext e0 e, XNews.ext e0 e h.2⟩
  | [], _ :: _, h => h.elim
  | _ :: _, [], h => h.elim
theorem XNews.app {H H1 : Hp} {v : V} : ∀ {as bs : List Addr} {cs ds : List XSp}, XNews H H1 v as cs → XNews H H1 v bs ds → XNews H H1 v (as ++ bs) (cs ++ ds)
  | [], _, [], _, _, h => h
  | _ :: _, _, _ :: _, _, h, h' => ⟨h.1, XNews.app h.2 h'⟩
  | [], _, _ :: _, _, h, _ => h.elim
  | _ :: _, _, [], _, h, _ => h.elim
theorem XNews.is {H H1 : Hp} {v : V} : ∀ {as : List Addr} {cs : List XSp}, XNews H H1 v as cs → XIss H1 v as cs
  | [], [], _ => trivial
  | _ :: _, _ :: _, h => ⟨h.1.is, XNews.is h.2⟩
  | [], _ :: _, h => h.elim
  | _ :: _, [], h => h.elim
theorem XNews.fresh {H H1 : Hp} {v : V} : ∀ {as : List Addr} {cs : List XSp}, XNews H H1 v as cs → ∀ a ∈ as, H a = none
  | [], [], _, a, ha => nomatch ha
  | b :: as, c :: cs, h, a, ha => by
    rcases List.mem_cons.mp ha with rfl | ha
    · exact h.1.fresh
    · exact XNews.fresh h.2 a ha
  | [], _ :: _, h, _, _ => h.elim
  | _ :: _, [], h, _, _ => h.elim
theorem XNews.len {H H1 : Hp} {v : V} {as : List Addr} {cs : List XSp} (h : XNews H H1 v as cs) : as.length = cs.length := h.is.len
theorem XsMk_of {v : V} : ∀ {cs : List XSp} {H : Hp} {k : List Addr → Hp → Prop}, (∀ as H1, ExtA H H1 → as.Nodup → XNews H H1 v as cs → k as H1) → XsMk v cs H k
  | [], H, k, h => h [] H (.refl H) List.nodup_nil trivial
  | c :: cs, H, k, h => fun a H2 e x => XsMk_of fun as H1 e1 n1 x1 => h (a :: as) H1 (e.trans e1) (List.nodup_cons.mpr ⟨fun hm => by
        obtain ⟨o, q⟩ := x.is.some
        rw [x1.fresh a hm] at q
        exact (nomatch q), n1⟩) ⟨x.ext (.refl H) e1, x1.ext e (.refl H1)⟩
theorem _root_.L2.PA.imp {X : Cx} {es : List Expr} {t t' : TA} (h : PA X es t) (i : ∀ σ H Q, t' σ H Q → t σ H Q) : PA X es t' := ⟨fun pos pins s σ H Q I q => h.run pos pins s σ H Q I (i _ _ _ q)⟩
section
variable {X : Cx} {x y f : PySem.Str} {C : Addr} {i : Nat} {cs : List XSp} {es : List Expr} {p p2 pos : Pos}
theorem pa_xnil : PA X [] (tXs i []) := pa_nil.imp fun σ H Q ⟨v, _, _, h⟩ => h
theorem pa_x0 (T : Ex0 X.K C) (gC : X.mg x = some (.ref C)) (hr : PA X es (tXs i cs)) (hg : Gl X x := by rfl) (hdb : (x == ("__debug__" : PySem.Str)) = false := by decide)
    (hs : starEach (.Call (.Name x p) [] [] pos :: es) X.env = (false, eval (.Call (.Name x p) [] [] pos) X.env) :: starEach es X.env := by rfl) : PA X (.Call (.Name x p) [] [] pos :: es) (tXs i ((C, none) :: cs)) :=
  (pa_cons (pe_xc0 T gC hg hdb) hr hs).imp fun σ H Q ⟨v, h1, h2, h3⟩ a H2 e xi => ⟨v, h1, h2.ext e, h3 a H2 e xi⟩
theorem pa_x1 (T : DxH X.prog X.w X.K X.mg X.base C x f) (hrm : Room 2 X.A) (hx : Passes (L2.CX X.prog X.w) X (fun _ _ _ => False)) (hr : PA X es (tXs i cs)) (hN : X.N[i]? = some y := by rfl) (hv : Vis X.env.scope y := by first | exact Or.inl rfl | exact Or.inr (Or.inl rfl) | exact Or.inr (Or.inr rfl)) (hg : Gl X x := by rfl)
    (hdb : (x == ("__debug__" : PySem.Str)) = false := by decide) (hd : (y == ("__debug__" : PySem.Str)) = false := by decide) (hcd : (y == ("__classdict__" : PySem.Str)) = false := by decide)
    (hs0 : starEach [.Name y p2] X.env = (false, eval (.Name y p2) X.env) :: starEach [] X.env := by rfl) (hpl : (backTo pos (starEach [] X.env)).any (·.1) = false := by rfl)
    (hs : starEach (.Call (.Name x p) [.Name y p2] [] pos :: es) X.env = (false, eval (.Call (.Name x p) [.Name y p2] [] pos) X.env) :: starEach es X.env := by rfl) : PA X (.Call (.Name x p) [.Name y p2] [] pos :: es) (tXs i ((C, some f) :: cs)) := by
  obtain ⟨fI, fd, par, h1, h2, h3, h4⟩ := T
  exact (pa_cons (pe_xc1 (fun v H H' e g => g.ext e) h2 h1 h4 h3 hrm hx (pe_var hN hv hd hcd) hg hdb hs0 hpl) hr hs).imp fun σ H Q ⟨v, q1, q2, q3⟩ => ⟨v, q1, q2, fun a H2 e xi => ⟨v, q1, q2.ext e, q3 a H2 e xi⟩⟩
end
/-! ### found = [..]; found = found + [..]; ..; return found -/
def tXch : List (List XSp) → TS
  | [] => tRet (tVar 1)
  | c :: r => tSeq (tAsg (tOp rCat (tVar 1) (tLst (tXs 0 c))) (gName 1)) (tXch r)
def spErr (cs : List XSp) : Sp := fun vs H Q _ => ∃ v, vs = [v] ∧ GoodV v H ∧ ∀ (as : List Addr) (H1 : Hp), ExtA H H1 → as.Nodup → XNews H H1 v as cs → ∀ l, H1 l = none → Q (.ref l) (upd H1 l (.lst (as.map V.ref)))
theorem len_ok {n : Nat} (h : n ≤ 1000) : n ≤ sizeLine := by rw [sizeLine_eq]; omega
theorem xch_ok {v : V} {H0 : Hp} {D : Ends} {Q : VK} {call : List XSp} (hc : call.length ≤ 1000) (hQ : D.rt = Q)
    (hq : ∀ (as : List Addr) (H1 : Hp), ExtA H0 H1 → as.Nodup → XNews H0 H1 v as call → ∀ l, H1 l = none → Q (.ref l) (upd H1 l (.lst (as.map V.ref)))) :
    ∀ (css : List (List XSp)) (done : List XSp) (as : List Addr) (Hb : Hp) (l : Addr), done ++ css.flatten = call → GoodV v H0 → ExtA H0 Hb → as.Nodup → XNews H0 Hb v as done → Hb l = none →
      tXch css D [some v, some (.ref l)] (upd Hb l (.lst (as.map V.ref)))
  | [], done, as, Hb, l, hd, hv, e, nd, xs, hl => by
    rw [List.flatten_nil, List.append_nil] at hd
    subst hd
    refine ⟨.ref l, rfl, ?_⟩
    rw [hQ]
    exact hq as Hb e nd xs l hl
  | c :: r, done, as, Hb, l, hd, hv, e, nd, xs, hl => by
    have e1 : ExtA H0 (upd Hb l (.lst (as.map V.ref))) := e.trans (ExtA.upd hl)
    have hlen : (done ++ c).length ≤ 1000 := by
      have := congrArg List.length hd
      simp at this ⊢; omega
    refine ⟨.ref l, rfl, v, rfl, hv.ext e1, XsMk_of fun as2 H2 e2 n2 x2 => ⟨len_ok (by have := x2.len; simp at hlen ⊢; omega), fun p hp => ?_⟩⟩
    have e3 : ExtA (upd Hb l (.lst (as.map V.ref))) (upd H2 p (.lst (as2.map V.ref))) := e2.trans (ExtA.upd hp)
    refine ⟨l, p, as.map V.ref, as2.map V.ref, rfl, rfl, e3 _ _ upd_same, upd_same, len_ok (by have := x2.len; have := xs.len; simp at hlen ⊢; omega), fun q hq2 => ?_⟩
    rw [← List.map_append]
    refine xch_ok hc hQ hq r (done ++ c) (as ++ as2) _ q (by rw [List.append_assoc]; simpa using hd) hv (e1.trans e3) ?_ ?_ hq2
    · refine List.nodup_append.mpr ⟨nd, n2, fun a ha b hb z => ?_⟩
      subst z
      obtain ⟨o, q1⟩ := xs.is.some a ha
      have := x2.fresh a hb
      rw [ExtA.upd hl a o q1] at this
      cases this
    · exact (xs.ext (.refl H0) ((ExtA.upd hl).trans e3)).app (x2.ext e1 (ExtA.upd hp))
theorem xerr_ok {v : V} {H : Hp} {D : Ends} {Q : VK} {E : XK} {c0 : List XSp} {css : List (List XSp)} (hc : (c0 ++ css.flatten).length ≤ 1000) (hQ : D.rt = Q) (h : spErr (c0 ++ css.flatten) [v] H Q E) :
    tSeq (tAsg (tLst (tXs 0 c0)) (gName 1)) (tXch css) D [some v, none] H := by
  obtain ⟨v', e0, hv, hq⟩ := h
  cases e0
  refine ⟨v, rfl, hv, XsMk_of fun as H1 e1 n1 x1 => ⟨len_ok (by have := x1.len; simp at hc ⊢; omega), fun l hl => ?_⟩⟩
  exact xch_ok hc hQ hq css c0 as H1 l rfl hv e1 n1 x1 hl
/-! ### [isinstance(e, C), ..] -/
def KitL (K : PySem.W.Frag) (C : Addr) : List Addr → List Bool → Prop
  | [], [] => True
  | D :: Ds, b :: bs => PySem.W.kitOne K (.ref C) (.ref D) = some b ∧ KitL K C Ds bs
  | _, _ => False
def tIs (K : PySem.W.Frag) (i : Nat) (Ds : List Addr) : TA := fun σ H Q => ∃ a C fv bs, σ[i]? = some (some (.ref a)) ∧ XIs H a C fv ∧ ExcC K C ∧ KitL K C Ds bs ∧ Q (bs.map V.bl) H
section
variable {X : Cx} {x y f : PySem.Str} {D : Addr} {i : Nat} {Ds : List Addr} {es : List Expr} {p p1 p2 pos : Pos}
theorem pa_isnil : PA X [] (tIs X.K i []) := pa_nil.imp fun σ H Q ⟨a, C, fv, bs, _, _, _, h, q⟩ => by
  cases bs with
  | nil => exact q
  | cons b r => exact h.elim
theorem pa_is (hr : PA X es (tIs X.K i Ds)) (gD : X.mg x = some (.ref D)) (hm : X.mg "isinstance" = none) (hN : X.N[i]? = some y := by rfl) (hv : Vis X.env.scope y := by first | exact Or.inl rfl | exact Or.inr (Or.inl rfl) | exact Or.inr (Or.inr rfl)) (hg : Gl X x := by rfl) (hgi : Gl X "isinstance" := by rfl)
    (hdb : (x == ("__debug__" : PySem.Str)) = false := by decide) (hd : (y == ("__debug__" : PySem.Str)) = false := by decide) (hcd : (y == ("__classdict__" : PySem.Str)) = false := by decide)
    (hs1 : starEach [.Name x p2] X.env = (false, eval (.Name x p2) X.env) :: starEach [] X.env := by rfl) (hs2 : starEach [.Name y p1, .Name x p2] X.env = (false, eval (.Name y p1) X.env) :: starEach [.Name x p2] X.env := by rfl)
    (hpl : (backTo pos (starEach [.Name x p2] X.env)).any (·.1) = false := by rfl)
    (hs : starEach (.Call (.Name "isinstance" p) [.Name y p1, .Name x p2] [] pos :: es) X.env = (false, eval (.Call (.Name "isinstance" p) [.Name y p1, .Name x p2] [] pos) X.env) :: starEach es X.env := by rfl) :
    PA X (.Call (.Name "isinstance" p) [.Name y p1, .Name x p2] [] pos :: es) (tIs X.K i (D :: Ds)) := by
  refine (pa_cons (pe_callB call_isO hgi hm PyProof.Rows.Boot.«isinstance» (pa_cons (pe_var hN hv hd hcd) (pa_cons (pe_glob hg gD (v := .ref D) rfl hdb) pa_nil hs1) hs2) (by decide) (by decide) hs2 hpl) hr hs).imp fun σ H Q ⟨a, C, fv, bs, h1, h2, h3, h4, h5⟩ => ?_
  cases bs with
  | nil => exact h4.elim
  | cons b r => exact ⟨_, h1, a, C, fv, .ref D, .ref D, b, rfl, h2, h3, fun u hu => hu, h4.1, a, C, fv, r, h1, h2, h3, h4.2, h5⟩
end
def tIch (K : PySem.W.Frag) : List (List Addr) → TS
  | [] => tRet (tVar 1)
  | c :: r => tSeq (tAsg (tOp rCat (tVar 1) (tLst (tIs K 0 c))) (gName 1)) (tIch K r)
def spKnd (K : PySem.W.Frag) (Ds : List Addr) : Sp := fun vs H Q _ => ∃ a C fv bs, vs = [.ref a] ∧ XIs H a C fv ∧ ExcC K C ∧ KitL K C Ds bs ∧ ∀ H1, ExtA H H1 → ∀ l, H1 l = none → Q (.ref l) (upd H1 l (.lst (bs.map V.bl)))
theorem KitL.len {K : PySem.W.Frag} {C : Addr} : ∀ {Ds : List Addr} {bs : List Bool}, KitL K C Ds bs → bs.length = Ds.length
  | [], [], _ => rfl
  | _ :: _, _ :: _, h => congrArg (· + 1) (KitL.len h.2)
  | [], _ :: _, h => h.elim
  | _ :: _, [], h => h.elim
theorem KitL.split {K : PySem.W.Frag} {C : Addr} : ∀ {Ds Es : List Addr} {bs : List Bool}, KitL K C (Ds ++ Es) bs → ∃ b1 b2, bs = b1 ++ b2 ∧ KitL K C Ds b1 ∧ KitL K C Es b2
  | [], _, bs, h => ⟨[], bs, rfl, trivial, h⟩
  | D :: Ds, _, b :: bs, h => by
    obtain ⟨b1, b2, rfl, h1, h2⟩ := KitL.split h.2
    exact ⟨b :: b1, b2, rfl, ⟨h.1, h1⟩, h2⟩
  | _ :: _, _, [], h => h.elim
theorem ich_ok {K : PySem.W.Frag} {a C : Addr} {fv : Option (PySem.Str × V)} {H0 : Hp} {D : Ends} {Q : VK} {ball : List Bool} (hc : ball.length ≤ 1000) (hQ : D.rt = Q) (hX : XIs H0 a C fv) (hE : ExcC K C)
    (hq : ∀ H1, ExtA H0 H1 → ∀ l, H1 l = none → Q (.ref l) (upd H1 l (.lst (ball.map V.bl)))) :
    ∀ (css : List (List Addr)) (b1 b2 : List Bool) (Hb : Hp) (l : Addr), b1 ++ b2 = ball → KitL K C css.flatten b2 → ExtA H0 Hb → Hb l = none → tIch K css D [some (.ref a), some (.ref l)] (upd Hb l (.lst (b1.map V.bl)))
  | [], b1, b2, Hb, l, hd, hk, e, hl => by
    have : b2 = [] := by
      have := hk.len
      simpa using this
    subst this
    rw [List.append_nil] at hd
    subst hd
    refine ⟨.ref l, rfl, ?_⟩
    rw [hQ]
    exact hq Hb e l hl
  | c :: r, b1, b2, Hb, l, hd, hk, e, hl => by
    rw [List.flatten_cons] at hk
    obtain ⟨c1, c2, rfl, k1, k2⟩ := hk.split
    have e1 : ExtA H0 (upd Hb l (.lst (b1.map V.bl))) := e.trans (ExtA.upd hl)
    have hlen := congrArg List.length hd
    simp at hlen
    refine ⟨.ref l, rfl, a, C, fv, c1, rfl, hX.ext e1, hE, k1, len_ok (by simp; omega), fun p hp => ?_⟩
    have e3 : ExtA (upd Hb l (.lst (b1.map V.bl))) (upd (upd Hb l (.lst (b1.map V.bl))) p (.lst (c1.map V.bl))) := ExtA.upd hp
    refine ⟨l, p, b1.map V.bl, c1.map V.bl, rfl, rfl, e3 _ _ upd_same, upd_same, len_ok (by simp; omega), fun q hq2 => ?_⟩
    rw [← List.map_append]
    exact ich_ok hc hQ hX hE hq r (b1 ++ c1) c2 _ q (by rw [List.append_assoc]; exact hd) k2 (e1.trans e3) hq2
theorem xknd_ok {K : PySem.W.Frag} {v : V} {H : Hp} {D : Ends} {Q : VK} {E : XK} {c0 : List Addr} {css : List (List Addr)} (hc : (c0 ++ css.flatten).length ≤ 1000) (hQ : D.rt = Q) (h : spKnd K (c0 ++ css.flatten) [v] H Q E) :
    tSeq (tAsg (tLst (tIs K 0 c0)) (gName 1)) (tIch K css) D [some v, none] H := by
  obtain ⟨a, C, fv, bs, e0, hX, hE, hk, hq⟩ := h
  cases e0
  have hl := hk.len
  obtain ⟨b1, b2, rfl, k1, k2⟩ := hk.split
  refine ⟨a, C, fv, b1, rfl, hX, hE, k1, len_ok (by have := k1.len; simp at hc ⊢; omega), fun l hl2 => ?_⟩
  exact ich_ok (by rw [hl]; exact hc) hQ hX hE hq css b1 b2 H l rfl k2 (.refl H) hl2
/-! ### [es[j].f, ..] -/
def PrtL (K : PySem.W.Frag) (H : Hp) (as : List Addr) (v : V) (js : List (Nat × Addr × PySem.Str)) : Prop := ∀ q ∈ js, ∃ a, as[q.1]? = some a ∧ XIs H a q.2.1 (some (q.2.2, v)) ∧ XfC K q.2.1 ∧ PySem.W.findIn K (.ref q.2.1) q.2.2 = some none
theorem PrtL.ext {K : PySem.W.Frag} {H H' : Hp} {as : List Addr} {v : V} {js : List (Nat × Addr × PySem.Str)} (h : PrtL K H as v js) (e : ExtA H H') : PrtL K H' as v js := fun q hq => by
  obtain ⟨a, h1, h2, h3⟩ := h q hq
  exact ⟨a, h1, h2.ext e, h3⟩
def tAt (K : PySem.W.Frag) (i : Nat) (js : List (Nat × Addr × PySem.Str)) : TA := fun σ H Q => ∃ l as v, σ[i]? = some (some (.ref l)) ∧ H l = some (.lst (as.map V.ref)) ∧ PrtL K H as v js ∧ Q (js.map fun _ => v) H
section
variable {X : Cx} {y f : PySem.Str} {C : Addr} {i j : Nat} {js : List (Nat × Addr × PySem.Str)} {es : List Expr} {p p1 p2 pos : Pos}
theorem pa_atnil : PA X [] (tAt X.K i []) := pa_nil.imp fun σ H Q ⟨l, as, v, _, _, _, q⟩ => q
theorem pa_at {jj} (hr : PA X es (tAt X.K i js)) (hN : X.N[i]? = some y := by rfl) (hv : Vis X.env.scope y := by first | exact Or.inl rfl | exact Or.inr (Or.inl rfl) | exact Or.inr (Or.inr rfl)) (hd : (y == ("__debug__" : PySem.Str)) = false := by decide) (hcd : (y == ("__classdict__" : PySem.Str)) = false := by decide)
    (hpi : PlainIx (.Constant (.int (j : Int)) jj p2) := by exact fun _ _ => rfl)
    (hb : attributeBase (.Subscript (.Name y p) (.Constant (.int (j : Int)) jj p2) p1) f X.env (eval (.Subscript (.Name y p) (.Constant (.int (j : Int)) jj p2) p1) X.env) = eval (.Subscript (.Name y p) (.Constant (.int (j : Int)) jj p2) p1) X.env := by rfl)
    (hs : starEach (.Attribute (.Subscript (.Name y p) (.Constant (.int (j : Int)) jj p2) p1) f pos :: es) X.env = (false, eval (.Attribute (.Subscript (.Name y p) (.Constant (.int (j : Int)) jj p2) p1) f pos) X.env) :: starEach es X.env := by rfl) :
    PA X (.Attribute (.Subscript (.Name y p) (.Constant (.int (j : Int)) jj p2) p1) f pos :: es) (tAt X.K i ((j, C, f) :: js)) := by
  refine (pa_cons (pe_xat (pe_ix ix_list (pe_var hN hv hd hcd) pe_int hpi) hb) hr hs).imp fun σ H Q ⟨l, as, v, h1, h2, h3, h4⟩ => ?_
  obtain ⟨a, q1, q2, q3, q4⟩ := h3 _ List.mem_cons_self
  have hj : j < as.length := (List.getElem?_eq_some_iff.mp q1).1
  refine ⟨_, h1, l, as.map V.ref, j, .ref a, rfl, rfl, Or.inl (Rd.of h2), ?_, a, C, v, rfl, q2, q3, q4, l, as, v, h1, h2, fun q hq => h3 q (List.mem_cons_of_mem _ hq), h4⟩
  unfold atI ixN
  rw [if_pos (Int.natCast_nonneg j), List.length_map, if_pos (by omega)]
  simp [q1]
end
def spPrt (K : PySem.W.Frag) (js : List (Nat × Addr × PySem.Str)) : Sp := fun vs H Q _ => ∃ l as v, vs = [.ref l] ∧ H l = some (.lst (as.map V.ref)) ∧ PrtL K H as v js ∧ ∀ H1, ExtA H H1 → ∀ p, H1 p = none → Q (.ref p) (upd H1 p (.lst (js.map fun _ => v)))
theorem xprt_ok {K : PySem.W.Frag} {v : V} {H : Hp} {D : Ends} {Q : VK} {E : XK} {j1 j2 : List (Nat × Addr × PySem.Str)} (hc : (j1 ++ j2).length ≤ 1000) (hQ : D.rt = Q) (h : spPrt K (j1 ++ j2) [v] H Q E) :
    tSeq (tAsg (tLst (tAt K 0 j1)) (gName 1)) (tRet (tOp rCat (tVar 1) (tLst (tAt K 0 j2)))) D [some v, none] H := by
  obtain ⟨l, as, v', e0, hl, hP, hq⟩ := h
  cases e0
  simp at hc
  refine ⟨l, as, v', rfl, hl, fun q hq => hP q (List.mem_append_left _ hq), len_ok (by simp; omega), fun p1 n1 => ?_⟩
  have e1 := ExtA.upd (o := .lst (j1.map fun _ => v')) n1
  refine ⟨.ref p1, rfl, l, as, v', rfl, e1 _ _ hl, PrtL.ext (fun q hq => hP q (List.mem_append_right _ hq)) e1, len_ok (by simp; omega), fun p2 n2 => ?_⟩
  have e2 := ExtA.upd (o := .lst (j2.map fun _ => v')) n2
  refine ⟨p1, p2, _, _, rfl, rfl, e2 _ _ upd_same, upd_same, len_ok (by simp; omega), fun p3 n3 => ?_⟩
  rw [hQ, ← List.map_append]
  exact hq _ (e1.trans e2) p3 n3
end Lin
end
section
set_option maxHeartbeats 4000000
/-! errors as values: what is known of them behind the def that made them -/
namespace Lin
open PySem PySem.Spec PyProof.Rows L2 LamX
mutual
theorem cells_tup (g : Gc) : ∀ (t : T) (c : Cell), c ∈ t.cells g → HTup c.2.2 → c.1 = .frz
  | .im _, c, h, _ => by simp [T.cells] at h
  | .nd a k s dx ts, c, h, ht => by
    rw [T.cells] at h
    rcases List.mem_cons.mp h with rfl | h
    · cases s with
      | tup => rfl
      | scr => rfl
      | _ => exact ht.elim
    · exact cellsL_tup g ts c h ht
theorem cellsL_tup (g : Gc) : ∀ (ts : List T) (c : Cell), c ∈ cellsL g ts → HTup c.2.2 → c.1 = .frz
  | [], c, h, _ => by simp [cellsL] at h
  | t :: r, c, h, ht => by
    rw [cellsL] at h
    rcases List.mem_append.mp h with h | h
    · exact cells_tup g t c h ht
    · exact cellsL_tup g r c h ht
end
theorem cellAt_tup {g : Gc} {A : List (Option T)} {i : Nat} {c : Cell} (h : CellAt g A i c) (ht : HTup c.2.2) : c.1 = .frz := by
  obtain ⟨t, _, hc⟩ := h
  exact cells_tup g t c hc ht
section
variable {g : Gc} {n : Nat} {Γ : Gh} {A : List (Option T)} {σ : L2.St} {H H1 : Hp} {t : T} {zs : List Addr} {p : Gh → Prop}
/-- frozen tuples that are known stand among the temporary ones -/
theorem Rel.frzT (R : Rel g Γ n A σ H) (hn : n ≤ A.length) (hc : ∀ c ∈ t.cells g, c.1 = .frz ∧ HTup c.2.2 ∧ H c.2.1 = some c.2.2) : Rel g Γ n (A ++ [some t]) σ H := by
  have noT : ∀ {c : Cell}, c ∈ t.cells g → c.1 ≠ .own := fun h z => by rw [(hc _ h).1] at z; cases z
  refine ⟨by rw [List.length_append]; omega, R.slen, fun i u hi e => R.val i u hi (by rwa [List.getElem?_append_left (by omega)] at e), fun i c h => ?_, fun i c r h e => ?_, fun i u e => ?_, fun i j c d h1 h2 e1 e2 => ?_, R.frame, fun i c h => ?_, fun i c h e nt => ?_, R.pin, R.tab, R.lck⟩
  · rcases cellAt_snoc.mp h with h | ⟨_, h⟩
    · exact R.hold i c h
    · exact .inl (hc c h).2.2
  · rcases cellAt_snoc.mp h with h | ⟨_, h⟩
    · exact R.lab i c r h e
    · rw [(hc c h).1] at e; cases e
  · by_cases hi : i < A.length
    · rw [List.getElem?_append_left hi] at e
      exact R.nd i u e
    · by_cases hi2 : i = A.length
      · subst hi2
        simp at e
        subst e
        rw [owns_none fun c hcc => noT hcc]
        exact List.nodup_nil
      · rw [List.getElem?_append_right (by omega)] at e
        cases hh : i - A.length with
        | zero => omega
        | succ m => rw [hh] at e; simp at e
  · rcases cellAt_snoc.mp h1 with h1 | ⟨_, h1⟩
    · rcases cellAt_snoc.mp h2 with h2 | ⟨_, h2⟩
      · exact R.sep i j c d h1 h2 e1 e2
      · exfalso
        obtain ⟨_, q2, q3⟩ := hc d h2
        rcases R.hold i c h1 with z | ⟨z, _⟩
        · rw [e2, z] at q3
          have := cellAt_tup h1 (by rw [Option.some.inj q3]; exact q2)
          rw [this] at e1; cases e1
        · exact z e1
    · exact absurd e1 (noT h1)
  · rcases cellAt_snoc.mp h with h | ⟨_, h⟩
    · exact R.gown i c h
    · exact .inl (hc c h).1
  · rcases cellAt_snoc.mp h with h | ⟨_, h⟩
    · exact R.gfrz i c h e nt
    · exact absurd (hc c h).2.1 nt
theorem Rel.frzTs (m : Nat) (R : Rel g Γ n A σ H) (hn : n ≤ A.length) (hc : ∀ c ∈ t.cells g, c.1 = .frz ∧ HTup c.2.2 ∧ H c.2.1 = some c.2.2) : Rel g Γ n (A ++ List.replicate m (some t)) σ H := by
  induction m generalizing A with
  | zero => simpa using R
  | succ m ih =>
    have := ih (R.frzT hn hc) (by simp; omega)
    rw [List.append_assoc] at this
    exact this
/-! ### what stands at zs is known from now on -/
def ghZ (Γ : Gh) (H1 : Hp) (zs : List Addr) : Gh := ⟨fun b => if b ∈ zs then H1 b else Γ.H0 b, fun b => Γ.W b ∧ b ∉ zs, Γ.F, Γ.L⟩
theorem rel_know (R : Rel g Γ n A σ H1) (hz : ∀ z ∈ zs, ∃ o, H1 z = some o ∧ ∀ ps, o ≠ .tbl ps) (hc : ∀ i c, CellAt g A i c → c.2.1 ∈ zs → HTup c.2.2) (hp : p (ghZ Γ H1 zs)) (hq : ∀ Γ', g.ph Γ') :
    Rel (gPh g p) (ghZ Γ H1 zs) n A σ H1 ∧ ∀ (n : Nat) (A : List (Option T)) (σ : L2.St) (H2 : Hp), Rel (gPh g p) (ghZ Γ H1 zs) n A σ H2 → Rel g Γ n A σ H2 := by
  have at1 : ∀ {b}, b ∈ zs → (ghZ Γ H1 zs).H0 b = H1 b := fun h => by unfold ghZ; exact if_pos h
  have at0 : ∀ {b}, b ∉ zs → (ghZ Γ H1 zs).H0 b = Γ.H0 b := fun h => by unfold ghZ; exact if_neg h
  constructor
  · have R2 : Rel g (ghZ Γ H1 zs) n A σ H1 := by
      refine ⟨R.len, R.slen, R.val, R.hold, R.lab, R.nd, R.sep, fun a o q1 q3 q2 => ?_, fun i c x => ?_, fun i c x kf nt => ?_, hq _, R.tab, R.lck⟩
      · by_cases hb : a ∈ zs
        · rw [at1 hb] at q1; exact q1
        · rw [at0 hb] at q1
          exact R.frame a o q1 q3 fun z => q2 ⟨z, hb⟩
      · by_cases hb : c.2.1 ∈ zs
        · exact .inl (cellAt_tup x (hc i c x hb))
        · rcases R.gown i c x with z | z | z | z
          · exact .inl z
          · exact .inr (.inl z)
          · exact .inr (.inr (.inl ⟨z, hb⟩))
          · exact .inr (.inr (.inr (by unfold Nw at z ⊢; rw [at0 hb]; exact z)))
      · have hb : c.2.1 ∉ zs := fun z => nt (hc i c x z)
        rcases R.gfrz i c x kf nt with z | z | z
        · exact .inl ⟨z, hb⟩
        · exact .inr (.inl (by unfold Nw at z ⊢; rw [at0 hb]; exact z))
        · exact .inr (.inr z)
    exact (show Rel (gPh g g.ph) (ghZ Γ H1 zs) n A σ H1 from R2).toPh hp
  · intro n' A' σ' H2 R'
    have Rg' : Rel g (ghZ Γ H1 zs) n' A' σ' H2 := R'.ph (hq _)
    have nw : ∀ {a}, Nw (ghZ Γ H1 zs).H0 a → Nw Γ.H0 a := fun {a} z => by
      by_cases hb : a ∈ zs
      · exfalso
        obtain ⟨o, e, k⟩ := hz a hb
        unfold Nw at z
        rw [at1 hb, e] at z
        rcases z with z | ⟨ps, z⟩
        · cases z
        · exact k ps (Option.some.inj z)
      · unfold Nw at z ⊢
        rw [at0 hb] at z; exact z
    refine ⟨Rg'.len, Rg'.slen, Rg'.val, Rg'.hold, Rg'.lab, Rg'.nd, Rg'.sep, fun a o q1 q3 q2 => ?_, fun i c x => ?_, fun i c x kf nt => ?_, hq _, Rg'.tab, Rg'.lck⟩
    · refine Rg'.frame a o ?_ q3 fun w => q2 w.1
      by_cases hb : a ∈ zs
      · rw [at1 hb]; exact R.frame a o q1 q3 q2
      · rw [at0 hb]; exact q1
    · rcases Rg'.gown i c x with z | z | z | z
      · exact .inl z
      · exact .inr (.inl z)
      · exact .inr (.inr (.inl z.1))
      · exact .inr (.inr (.inr (nw z)))
    · rcases Rg'.gfrz i c x kf nt with z | z | z
      · exact .inl z.1
      · exact .inr (.inl (nw z))
      · exact .inr (.inr z)
end
end Lin
end
section
set_option maxHeartbeats 4000000
/-! errors as values: the rules -/
namespace Lin
open PySem PySem.Spec PyProof.Rows L2 LamX
/-! ### a value that all errors of a list hold -/
def goodD : D → Bool
  | .im (.int i) => goodI i
  | .im (.str y) => decide ((Str.empty ++ y).length ≤ 100) && decide (y.length ≤ 100)
  | .im .non => true
  | .nd _ .tup [.im (.int 0), .im (.int 1)] => true
  | _ => false
theorem exd_tbl {e : Addr} {fs : List (PySem.Str × V)} {ps : Array Value} : exd e fs ≠ .tbl ps := fun z => by
  have z' : HO.ext _ = HO.tbl ps := z
  cases z'
theorem goodD_of {g : Gc} {H : Hp} {t : T} (h : goodD t.er = true) (hd : ∀ c ∈ t.cells g, Hd H c) : GoodV t.root H ∧ ∀ c ∈ t.cells g, c.1 = .frz ∧ HTup c.2.2 ∧ H c.2.1 = some c.2.2 := by
  cases t with
  | im v =>
    refine ⟨?_, fun c hc => by simp [T.cells] at hc⟩
    rw [T.er] at h
    cases v with
    | int i => exact .inl ⟨i, rfl, h⟩
    | str y =>
      have h : (decide ((Str.empty ++ y).length ≤ 100) && decide (y.length ≤ 100)) = true := h
      rw [Bool.and_eq_true] at h
      exact .inr (.inl ⟨y, rfl, of_decide_eq_true h.1, of_decide_eq_true h.2⟩)
    | non => exact .inr (.inr (.inl rfl))
    | _ => cases h
  | nd a k s dx ts =>
    rw [T.er] at h
    unfold goodD at h
    split at h
    · rename_i e; cases e
    · rename_i e; cases e
    · rename_i e; cases e
    · rename_i e
      injection e with e1 e2 e3
      subst e2
      rw [erL_eq] at e3
      obtain ⟨t0, t1, rfl, q0, q1⟩ := er_two e3
      obtain rfl := er_im q0
      obtain rfl := er_im q1
      have hcell := hd (.frz, a, .tup [.int 0, .int 1]) (by rw [T.cells]; exact List.mem_cons_self)
      have hH : H a = some (.tup [.int 0, .int 1]) := by
        rcases hcell with z | ⟨_, z, _⟩
        · exact z
        · exact z.elim
      refine ⟨.inr (.inr (.inr ⟨a, rfl, hH⟩)), fun c hc => ?_⟩
      rw [T.cells] at hc
      rcases List.mem_cons.mp hc with rfl | hc
      · exact ⟨rfl, trivial, hH⟩
      · simp [cellsL, T.cells] at hc
    · cases h
/-! ### what is known -/
def KnX (g : Gc) (cs : List XSp) (as : List Addr) (t : T) (Γ : Gh) : Prop := as.Nodup ∧ as.length = cs.length ∧ ∃ zs : List Addr, (∀ z ∈ zs, ∃ o, Γ.H0 z = some o ∧ (∀ ps, o ≠ .tbl ps) ∧ ¬ Γ.W z) ∧
  ∀ H : Hp, (∀ z ∈ zs, H z = Γ.H0 z) → XIss H t.root as cs ∧ ∀ c ∈ t.cells g, c.1 = .frz ∧ HTup c.2.2 ∧ H c.2.1 = some c.2.2
def gX (g : Gc) (cs : List XSp) (as : List Addr) (t : T) : Gc := gPh g (KnX g cs as t)
section
variable {g : Gc} {cs : List XSp} {as : List Addr} {t : T} {Γ : Gh} {n : Nat} {A : List (Option T)} {σ : L2.St} {H H1 : Hp} {v : V}
theorem Rel.knX (R : Rel (gX g cs as t) Γ n A σ H) : as.Nodup ∧ as.length = cs.length ∧ XIss H t.root as cs ∧ ∀ c ∈ t.cells g, c.1 = .frz ∧ HTup c.2.2 ∧ H c.2.1 = some c.2.2 := by
  obtain ⟨h1, h2, zs, h3, h4⟩ := R.pin
  exact ⟨h1, h2, h4 H fun z hz => by
    obtain ⟨o, e, k, w⟩ := h3 z hz
    rw [e]; exact R.frame z o e k w⟩
theorem XNews.zs {v : V} : ∀ {as : List Addr} {cs : List XSp}, XNews H H1 v as cs → ∃ zs : List Addr, (∀ z ∈ zs, H z = none ∧ ∃ o, H1 z = some o ∧ ∀ ps, o ≠ .tbl ps) ∧ ∀ H' : Hp, (∀ z ∈ zs, H' z = H1 z) → XIss H' v as cs
  | [], [], _ => ⟨[], fun z hz => (nomatch hz), fun _ _ => trivial⟩
  | a :: as, (C, none) :: cs, h => by
    obtain ⟨zs, h1, h2⟩ := XNews.zs h.2
    refine ⟨a :: zs, fun z hz => ?_, fun H' q => ⟨?_, h2 H' fun z hz => q z (List.mem_cons_of_mem _ hz)⟩⟩
    · rcases List.mem_cons.mp hz with rfl | hz
      · exact ⟨h.1.1, _, h.1.2, fun ps => exo_tbl⟩
      · exact h1 z hz
    · exact (q a List.mem_cons_self).trans h.1.2
  | a :: as, (C, some f) :: cs, h => by
    obtain ⟨zs, h1, h2⟩ := XNews.zs h.2
    obtain ⟨dx, n1, n2, e1, e2⟩ := h.1
    refine ⟨a :: dx :: zs, fun z hz => ?_, fun H' q => ⟨⟨dx, (q a List.mem_cons_self).trans e1, (q dx (List.mem_cons_of_mem _ List.mem_cons_self)).trans e2⟩, h2 H' fun z hz => q z (List.mem_cons_of_mem _ (List.mem_cons_of_mem _ hz))⟩⟩
    rcases List.mem_cons.mp hz with rfl | hz
    · exact ⟨n1, _, e1, fun ps => exo_tbl⟩
    · rcases List.mem_cons.mp hz with rfl | hz
      · exact ⟨n2, _, e2, fun ps => exd_tbl⟩
      · exact h1 z hz
  | [], _ :: _, h => h.elim
  | _ :: _, [], h => h.elim
theorem rel_mkX (hph : ∀ Γ, g.ph Γ) (R : Rel g Γ n A σ H) (e : ExtA H H1) (nd : as.Nodup) (xn : XNews H H1 t.root as cs) (hc : ∀ c ∈ t.cells g, c.1 = .frz ∧ HTup c.2.2 ∧ H c.2.1 = some c.2.2) :
    ∃ Γ', Rel (gX g cs as t) Γ' n A σ H1 ∧ ∀ (n : Nat) (A : List (Option T)) (σ : L2.St) (H2 : Hp), Rel (gX g cs as t) Γ' n A σ H2 → Rel g Γ n A σ H2 := by
  have R1 : Rel g Γ n A σ H1 := R.growN (fun b o q _ => e b o q) (R.tab.ext e)
  obtain ⟨zs, hz, hzs⟩ := xn.zs
  have hz1 : ∀ z ∈ zs ++ (t.cells g).map (·.2.1), ∃ o, H1 z = some o ∧ ∀ ps, o ≠ .tbl ps := fun z hm => by
    rcases List.mem_append.mp hm with hm | hm
    · exact (hz z hm).2
    · obtain ⟨c, hcc, rfl⟩ := List.mem_map.mp hm
      obtain ⟨_, q1, q2⟩ := hc c hcc
      exact ⟨_, e _ _ q2, fun ps z => by rw [z] at q1; exact q1⟩
  refine ⟨ghZ Γ H1 (zs ++ (t.cells g).map (·.2.1)), rel_know (p := KnX g cs as t) R1 hz1 (fun i c x hm => ?_) ⟨nd, xn.len, zs ++ (t.cells g).map (·.2.1), fun z hm => ?_, fun H' ag => ?_⟩ hph⟩
  · rcases List.mem_append.mp hm with hm | hm
    · exact ((R.hold i c x).none (hz _ hm).1).elim
    · obtain ⟨c0, hcc, e0⟩ := List.mem_map.mp hm
      obtain ⟨_, q1, q2⟩ := hc c0 hcc
      rw [e0] at q2
      rcases R.hold i c x with z | ⟨_, _, o, z⟩
      · rw [z] at q2
        rw [Option.some.inj q2]; exact q1
      · rw [z] at q2
        have := Option.some.inj q2
        rw [← this] at q1; exact q1.elim
  · obtain ⟨o, q1, q2⟩ := hz1 z hm
    exact ⟨o, by unfold ghZ; dsimp only; rw [if_pos hm]; exact q1, q2, fun w => w.2 hm⟩
  · have ag1 : ∀ z ∈ zs ++ (t.cells g).map (·.2.1), H' z = H1 z := fun z hm => by
      rw [ag z hm]
      unfold ghZ; dsimp only; rw [if_pos hm]
    refine ⟨hzs H' fun z hm => ag1 z (List.mem_append_left _ hm), fun c hcc => ?_⟩
    obtain ⟨q0, q1, q2⟩ := hc c hcc
    exact ⟨q0, q1, (ag1 _ (List.mem_append_right _ (List.mem_map.mpr ⟨c, hcc, rfl⟩))).trans (e _ _ q2)⟩
end
/-! ### x = errors(y); rest -/
def DEr (P : Program) (w : World) (K : PySem.W.Frag) (mg : PySem.Str → Option Value) (base : Heap) (x : PySem.Str) (k : Nat) (sp : Sp) : Prop :=
  ∃ f fd pn, FnOk P w K mg base (L2.CX P w) k f fd [pn] sp ∧ mg x = some (.ref f) ∧ PySem.W.keepIn K (.ref f) = true ∧ Binds K fd [pn] []
noncomputable def cMkX (is : List Nat) (m ip i : Nat) (f2 : List Addr → D → Sg → R Fl) : Sg → R Fl := fun S => match S[ip]? with
  | some (some d) => if goodD d = true then uniN m [] fun as => fgR is (cSeq (cAsg (gSet false i) (cMany (conF as) dLst)) (f2 as d) S) else .bad
  | _ => .bad
section
variable {X : Cx} {g : Gc} {W : WX} {k m : Nat} {M1 M2 : List Nat} {cs : List XSp}
def tAnyX (X : Cx) (g : Gc) (cs : List XSp) (W : WX) (M : List Nat) (f2 : List Addr → D → Sg → R Fl) : TS := fun Dn σ H => ∃ (as : List Addr) (t : T), tS (gX g cs as t) X.N.length W M (f2 as t.er) Dn σ H
theorem pss_anyX {f2 : List Addr → D → Sg → R Fl} {rest : List Stmt} (h2 : ∀ as t, QSs X (gX g cs as t) W M2 rest (f2 as t.er)) : PSs X rest (tAnyX X g cs W M2 f2) :=
  ⟨fun pins s σ H Dn I ⟨as, t, h⟩ => (h2 as t).run pins s σ H Dn I h⟩
theorem mean_anyX {f2 : List Addr → D → Sg → R Fl} (as : List Addr) (t : T) : MeanS (gX g cs as t) X.N.length W M2 (tAnyX X g cs W M2 f2) (f2 as t.er) := fun Γ A σ H Dn r c p => ⟨as, t, Γ, A, r, c, p⟩
theorem sds_mkX (is : List Nat) (ip i : Nat) {x y z : PySem.Str} {p p1 p2 pos pos' : Pos} {rest : List Stmt} {f2 : List Addr → D → Sg → R Fl} {Mz : List Nat}
    (hph : ∀ Γ, g.ph Γ) (cx : CxE X W) (F : DEr X.prog X.w X.K X.mg X.base x k (spErr cs)) (hr : Room k X.A) (hm : cs.length = m) (h2 : ∀ as t, QSs X (gX g cs as t) W M2 rest (f2 as t.er))
    (his : (is.all fun j => decide (j < X.N.length)) = true := by rfl) (hi : X.N[i]? = some y := by rfl) (hx : Loc X.env.scope y := by first | exact Or.inl rfl | exact Or.inr rfl)
    (hN : X.N[ip]? = some z := by rfl) (hv : Vis X.env.scope z := by first | exact Or.inl rfl | exact Or.inr (Or.inl rfl) | exact Or.inr (Or.inr rfl)) (hd : (z == ("__debug__" : PySem.Str)) = false := by decide) (hcd : (z == ("__classdict__" : PySem.Str)) = false := by decide)
    (hg : Gl X x := by rfl) (hdb : (x == ("__debug__" : PySem.Str)) = false := by decide)
    (he : starEach [.Name z p1] X.env = (false, eval (.Name z p1) X.env) :: starEach [] X.env := by rfl) (hpl : (backTo p2 (starEach [] X.env)).any (·.1) = false := by rfl)
    (hs : swapsWith (.Call (.Name x p) [.Name z p1] [] p2) (some (.Name y pos')) pos.line X.env = pure false := by rfl)
    (hf : X.fn y = true ∨ X.env.scope.names.lookup y = some .local := by first | exact .inl rfl | exact .inr rfl) (hMz : Mz = (([] ++ [i].map (X.N.length + ·)) ++ M2) := by rfl) :
    QSs X g W Mz (.Assign [.Name y pos'] (.Call (.Name x p) [.Name z p1] [] p2) pos :: rest) (cMkX is m ip i f2) := by
  subst hMz
  obtain ⟨f, fd, pn, h1, h3, h4, h5⟩ := F
  refine qSs (pss_cons (ps_set cx.nd hi hx (pe_callS (E := fun _ _ _ _ => False) h1 hr hg h3 h4 h5 (fun σ pins H s e s' I c => passL pins σ H s e s' I c) (pa_cons (pe_var hN hv hd hcd) pa_nil he) hdb he hpl) hs hf) (pss_anyX h2)) ?_
  intro Γ A σ H Dn R cl h
  have hlt : ∀ j ∈ is, j < X.N.length := fun j hj => of_decide_eq_true (List.all_eq_true.mp his j hj)
  unfold cMkX at h
  split at h
  · rename_i d eS
    split at h
    · rename_i hgd
      obtain ⟨t, e1, e2, hin⟩ := ers_some eS
      subst e2
      have hv0 := R.val ip t hin e1
      obtain ⟨good, cells⟩ := goodD_of hgd (fun c hc => R.hold ip c ⟨t, e1, hc⟩)
      refine ⟨t.root, hv0, t.root, rfl, good, fun as H1 e nd xn l hl => ?_⟩
      obtain ⟨Γ', RK, out⟩ := rel_mkX hph R e nd xn cells
      have hne : uniN m [] (fun as => fgR is (cSeq (cAsg (gSet false i) (cMany (conF as) dLst)) (f2 as t.er) (ers X.N.length A))) ≠ .bad := fun z => by rw [z] at h; exact h
      rw [← uniN_of hne (xn.len.trans hm) ⟨nd, fun f _ => by simp⟩] at h
      have mm := mean_seq (mean_asg (W := W) (mean_lst (mean_con (g := gX g cs as t) (n := X.N.length) as)) (meang_name (z := false) (List.getElem?_eq_some_iff.mp hi).1)) (mean_anyX (X := X) (g := g) (cs := cs) (W := W) (f2 := f2) (M2 := M2) as t)
      have q := mm Γ' A σ H1 Dn RK (clean_ph.mpr cl) (post_out (g := g) (g' := gX g cs as t) (Γ := Γ) rfl out R.len hlt h)
      exact q.2 l hl
    · exact h.elim
  · exact h.elim
/-! ### defs that ask the errors -/
theorem sd_callX {sp : Sp} {op : List D → Option D} {x : PySem.Str} {p pos : Pos} {e : Expr} {es : List Expr} {fr : Sg → R (List D)} (F : DEr X.prog X.w X.K X.mg X.base x k sp) (hr : Room k X.A) (hcam : CaM g X.N.length (fun xs H Q => sp xs H Q (fun _ _ _ => False)) op) (ha : QA X g W M1 (e :: es) fr)
    (hg : Gl X x := by rfl) (hdb : (x == ("__debug__" : PySem.Str)) = false := by decide) (he : starEach (e :: es) X.env = (false, eval e X.env) :: starEach es X.env := by rfl) (hpl : (backTo pos (starEach es X.env)).any (·.1) = false := by rfl) :
    QE X g W M1 (.Call (.Name x p) (e :: es) [] pos) (cMany fr op) := by
  obtain ⟨f, fd, pn, h1, h3, h4, h5⟩ := F
  exact qE (pe_callS (E := fun _ _ _ _ => False) h1 hr hg h3 h4 h5 (fun σ pins H s e s' I c => passL pins σ H s e s' I c) ha hdb he hpl) (mean_many mn_A hcam)
end
def rowOf : List Addr → List (List Bool) → Addr → Option (List Bool)
  | a :: as, b :: bs, x => if x = a then some b else rowOf as bs x
  | _, _, _ => none
def blL (bs : List Bool) : D := .nd .own .lst (bs.map fun b => .im (.bl b))
def dKn (as : List Addr) (B : List (List Bool)) : List D → Option D
  | [.im (.ref a)] => (rowOf as B a).map blL
  | _ => none
def KitR (K : PySem.W.Frag) (Ds : List Addr) : List XSp → List (List Bool) → Prop
  | [], [] => True
  | c :: cs, b :: B => ExcC K c.1 ∧ KitL K c.1 Ds b ∧ KitR K Ds cs B
  | _, _ => False
theorem kit_row {K : PySem.W.Frag} {Ds : List Addr} {H : Hp} {v : V} {a : Addr} {b : List Bool} : ∀ {as : List Addr} {cs : List XSp} {B : List (List Bool)}, XIss H v as cs → KitR K Ds cs B → rowOf as B a = some b → ∃ C fv, XIs H a C fv ∧ ExcC K C ∧ KitL K C Ds b
  | [], _, _, _, _, h => by unfold rowOf at h; cases h
  | _ :: _, [], _, x, _, _ => x.elim
  | _ :: _, _ :: _, [], _, k, _ => k.elim
  | a0 :: as, c :: cs, r :: B, x, k, h => by
    unfold rowOf at h
    split at h
    · rename_i e
      cases h
      subst e
      exact ⟨_, _, x.1, k.1, k.2.1⟩
    · exact kit_row x.2 k.2.2 h
section
variable {g : Gc} {cs : List XSp} {as : List Addr} {t : T} {Γ : Gh} {n : Nat} {A : List (Option T)} {σ : L2.St} {H H1 : Hp} {v : V} {K : PySem.W.Frag} {E : XK}
theorem rel_newL {l : Addr} {vs : List V} (R : Rel g Γ n A σ H) (hn : n ≤ A.length) (e : ExtA H H1) (hl : H1 l = none) : Rel g Γ n (A ++ [some (.nd l .own .lst 0 (vs.map T.im))]) σ (upd H1 l (.lst vs)) := by
  have R1 : Rel g Γ n A σ H1 := R.growN (fun b o q _ => e b o q) (R.tab.ext e)
  have := Rel.node (A := A) (B := []) (p := l) (ts := vs.map T.im) (by rw [List.append_nil]; exact R1) hn hl .lst 0 (fun c hc => by rw [cells_ims] at hc; cases hc) (by rw [cells_ims]; exact List.nil_sublist _)
  have er : (vs.map T.im).map T.root = vs := by rw [List.map_map]; exact List.map_id _
  rw [er] at this
  exact this
theorem ims_er (vs : List V) : erL (vs.map T.im) = vs.map D.im := by
  rw [erL_eq, List.map_map]; rfl
theorem cam_knd {Ds : List Addr} {B : List (List Bool)} (hk : KitR K Ds cs B) : CaM (gX g cs as t) n (fun xs H Q => spKnd K Ds xs H Q E) (dKn as B) := by
  intro Γ A ts σ H Q d R hn eo hq
  unfold dKn at eo
  split at eo
  · rename_i a ea
    cases er : rowOf as B a with
    | none => rw [er] at eo; cases eo
    | some b =>
      rw [er] at eo
      cases eo
      obtain ⟨t0, rfl, q0⟩ := er_one ea
      obtain rfl := er_im q0
      obtain ⟨_, _, xs, _⟩ := R.knX
      obtain ⟨C, fv, h1, h2, h3⟩ := kit_row xs hk er
      refine ⟨a, C, fv, b, rfl, h1, h2, h3, fun H1 e l hl => ?_⟩
      exact hq (.nd l .own .lst 0 ((b.map V.bl).map T.im)) _ (rel_newL (R.drop hn) hn e hl) (by rw [T.er, ims_er, List.map_map]; rfl)
  · cases eo
/-! ### fields -/
def eqF : List D → List Addr → Bool
  | [], [] => true
  | .im (.ref a) :: r, b :: s => decide (a = b) && eqF r s
  | _, _ => false
theorem eqF_of : ∀ {ts : List T} {as : List Addr}, eqF (ts.map T.er) as = true → ts.map T.root = as.map V.ref
  | [], [], _ => rfl
  | t :: ts, a :: as, h => by
    rw [List.map_cons] at h
    cases t with
    | nd b k s dx us => rw [T.er] at h; cases h
    | im v =>
      rw [T.er] at h
      cases v with
      | ref b =>
        have h : (decide (b = a) && eqF (ts.map T.er) as) = true := h
        rw [Bool.and_eq_true] at h
        rw [List.map_cons, List.map_cons, eqF_of h.2, of_decide_eq_true h.1]; rfl
      | _ => cases h
  | [], _ :: _, h => by cases h
  | t :: ts, [], h => by
    rw [List.map_cons] at h
    cases t with
    | nd b k s dx us => rw [T.er] at h; cases h
    | im v =>
      rw [T.er] at h
      cases v <;> cases h
def dPt (as : List Addr) (m : Nat) (d : D) : List D → Option D
  | [.nd _ .lst ds] => if eqF ds as = true then some (.nd .own .lst (List.replicate m d)) else none
  | _ => none
def PrtR (K : PySem.W.Frag) (cs : List XSp) (js : List (Nat × Addr × PySem.Str)) : Prop := ∀ q ∈ js, cs[q.1]? = some (q.2.1, some q.2.2) ∧ XfC K q.2.1 ∧ PySem.W.findIn K (.ref q.2.1) q.2.2 = some none
theorem xiss_at {H : Hp} {v : V} {C : Addr} {f : PySem.Str} : ∀ {as : List Addr} {cs : List XSp} {j : Nat}, XIss H v as cs → cs[j]? = some (C, some f) → ∃ a, as[j]? = some a ∧ XIs H a C (some (f, v))
  | [], [], j, _, e => by simp at e
  | a :: as, c :: cs, 0, h, e => by
    simp at e
    subst e
    exact ⟨a, rfl, h.1⟩
  | a :: as, c :: cs, j + 1, h, e => by
    simp at e
    obtain ⟨b, h1, h2⟩ := xiss_at h.2 e
    exact ⟨b, by simpa using h1, h2⟩
  | [], _ :: _, _, h, _ => h.elim
  | _ :: _, [], _, h, _ => h.elim
theorem cam_prt {js : List (Nat × Addr × PySem.Str)} {m : Nat} (hk : PrtR K cs js) (hm : js.length = m) : CaM (gX g cs as t) n (fun xs H Q => spPrt K js xs H Q E) (dPt as m t.er) := by
  intro Γ A ts σ H Q d R hn eo hq
  subst hm
  unfold dPt at eo
  split at eo
  · rename_i k ds ea
    split at eo
    · rename_i hF
      cases eo
      obtain ⟨t0, rfl, q0⟩ := er_one ea
      · obtain ⟨l, dx, us, rfl, hu⟩ := er_nd q0
        obtain ⟨_, _, xs, cells⟩ := R.knX
        have hF : eqF (us.map T.er) as = true := by rw [hu]; exact hF
        have hl0 : H l = some (.lst (as.map V.ref)) := by
          have := R.hold A.length (kz .lst k, l, Lin.ho (gX g cs as t) .lst dx (us.map T.root)) ⟨.nd l k .lst dx us, by simp, by rw [T.cells]; exact List.mem_cons_self⟩
          rcases this with z | ⟨_, z, _⟩
          · rw [eqF_of hF] at z; exact z
          · exact z.elim
        refine ⟨l, as, t.root, rfl, hl0, fun q hq1 => ?_, fun H1 e p hp => ?_⟩
        · obtain ⟨c1, c2, c3⟩ := hk q hq1
          obtain ⟨a, h1, h2⟩ := xiss_at xs c1
          exact ⟨a, h1, h2, c2, c3⟩
        · have R0 : Rel (gX g cs as t) Γ n A σ H := R.drop hn
          have R1 : Rel (gX g cs as t) Γ n A σ H1 := R0.growN (fun b o q _ => e b o q) (R0.tab.ext e)
          have hc1 : ∀ c ∈ t.cells (gX g cs as t), c.1 = .frz ∧ HTup c.2.2 ∧ H1 c.2.1 = some c.2.2 := fun c hc => by
            have hc : c ∈ t.cells g := by rw [gX, cells_ph] at hc; exact hc
            obtain ⟨a1, a2, a3⟩ := cells c hc
            exact ⟨a1, a2, e _ _ a3⟩
          have R2 := R1.frzTs js.length hn hc1
          have inL : ∀ (m : Nat) c, c ∈ cellsL (gX g cs as t) (List.replicate m t) → c ∈ t.cells (gX g cs as t) := fun m => by
            induction m with
            | zero => intro c hc; simp [cellsL] at hc
            | succ m ih =>
              intro c hc
              rw [List.replicate_succ, cellsL] at hc
              exact (List.mem_append.mp hc).elim id (ih c)
          have own0 : ownsC (cellsL (gX g cs as t) (List.replicate js.length t)) = [] := owns_none fun c hc z => by
            rw [(hc1 c (inL _ c hc)).1] at z; cases z
          have R3 := R2.node (p := p) (ts := List.replicate js.length t) hn hp .lst 0 (fun c hc => ?_) (by rw [own0]; exact List.nil_sublist _)
          · have er : (List.replicate js.length t).map T.root = js.map fun _ => t.root := by
              rw [List.map_replicate]
              exact (List.map_const').symm
            rw [er] at R3
            exact hq _ _ R3 (by rw [T.er, erL_eq]; simp)
          · have hj : 0 < js.length := by
              cases hh : js.length with
              | zero => rw [hh] at hc; simp [cellsL] at hc
              | succ m => omega
            exact ⟨0, t, by rw [List.getElem?_replicate, if_pos hj], inL _ c hc⟩
    · cases eo
  · cases eo
/-! ### isinstance(e, base) -/
def dXIn (as : List Addr) : D → Option D
  | .im (.ref a) => if as.contains a then some (.im (.bl true)) else none
  | _ => none
theorem XIss.mem {H : Hp} {v : V} {a : Addr} {p : Addr → Prop} : ∀ {as : List Addr} {cs : List XSp}, XIss H v as cs → a ∈ as → (∀ c ∈ cs, p c.1) → ∃ C fv, XIs H a C fv ∧ p C
  | [], _, _, h, _ => nomatch h
  | _ :: _, [], x, _, _ => x.elim
  | b :: as, c :: cs, x, h, hp => by
    rcases List.mem_cons.mp h with rfl | h
    · exact ⟨_, _, x.1, hp c List.mem_cons_self⟩
    · exact XIss.mem x.2 h fun d hd => hp d (List.mem_cons_of_mem _ hd)
theorem unm_xin {c : V} {cv : Value} (hcv : ∀ u, RelV c u → u = cv) (hk : ∀ q ∈ cs, ExcC K q.1 ∧ PySem.W.kitOne K (.ref q.1) cv = some true) : UnM (gX g cs as t) n (fun v H Q => rIsO K [v, c] H Q) (dXIn as) := by
  intro Γ A ta σ H Q d R hn eo hq
  unfold dXIn at eo
  split at eo
  · rename_i a ea
    split at eo
    · rename_i hm
      cases eo
      have := er_im ea
      subst this
      obtain ⟨_, _, xs, _⟩ := R.knX
      obtain ⟨C, fv, h1, h2, h3⟩ := xs.mem (p := fun C => ExcC K C ∧ PySem.W.kitOne K (.ref C) cv = some true) (List.contains_iff_mem.mp hm) hk
      refine ⟨a, C, fv, c, cv, true, rfl, h1, h2, hcv, h3, ?_⟩
      exact hq (.im (.bl true)) H ((show Rel (gX g cs as t) Γ n (A ++ []) σ H by rw [List.append_nil]; exact R.drop hn).imm hn (.bl true)) rfl
    · cases eo
  · cases eo
end
section
variable {X : Cx} {g : Gc} {W : WX} {k : Nat} {M1 : List Nat} {cs : List XSp} {as : List Addr} {t : T}
theorem sd_isXC {x : PySem.Str} {c : V} {cv : Value} {e : Expr} {fe : Sg → R D} {p p2 pos : Pos} (he : QE X (gX g cs as t) W M1 e fe) (hc : PE X (.Name x p2) (tC c)) (hcv : ∀ u, RelV c u → u = cv) (hk : ∀ q ∈ cs, ExcC X.K q.1 ∧ PySem.W.kitOne X.K (.ref q.1) cv = some true) (hm : X.mg "isinstance" = none)
    (hgi : Gl X "isinstance" := by rfl) (hs1 : starEach [.Name x p2] X.env = (false, eval (.Name x p2) X.env) :: starEach [] X.env := by rfl) (hs2 : starEach [e, .Name x p2] X.env = (false, eval e X.env) :: starEach [.Name x p2] X.env := by rfl)
    (hpl : (backTo pos (starEach [.Name x p2] X.env)).any (·.1) = false := by rfl) : QE X (gX g cs as t) W M1 (.Call (.Name "isinstance" p) [e, .Name x p2] [] pos) (cOne fe (dXIn as)) :=
  qE (pe_callB call_isO hgi hm PyProof.Rows.Boot.«isinstance» (pa_cons he (pa_cons hc pa_nil hs1) hs2) (by decide) (by decide) hs2 hpl) (mean_one (r := fun v H Q => rIsO X.K [v, c] H Q) mn_E (unm_xin hcv hk))
/-- kinds(C()) -/
theorem sd_kn0 {Ds : List Addr} {row : List Bool} {C : Addr} {x y : PySem.Str} {p p1 p2 pos : Pos} (F : DEr X.prog X.w X.K X.mg X.base x k (spKnd X.K Ds)) (hr : Room k X.A) (T0 : Ex0 X.K C) (gC : X.mg y = some (.ref C)) (hE : ExcC X.K C) (hK : KitL X.K C Ds row)
    (hg : Gl X x := by rfl) (hg2 : Gl X y := by rfl) (hdb : (x == ("__debug__" : PySem.Str)) = false := by decide) (hdb2 : (y == ("__debug__" : PySem.Str)) = false := by decide)
    (he : starEach [.Call (.Name y p1) [] [] p2] X.env = (false, eval (.Call (.Name y p1) [] [] p2) X.env) :: starEach [] X.env := by rfl) (hpl : (backTo pos (starEach [] X.env)).any (·.1) = false := by rfl) :
    QE X g W [] (.Call (.Name x p) [.Call (.Name y p1) [] [] p2] [] pos) (fun S => .ok (blL row) S) := by
  obtain ⟨f, fd, pn, h1, h3, h4, h5⟩ := F
  refine qE (pe_callS (E := fun _ _ _ _ => False) h1 hr hg h3 h4 h5 (fun σ pins H s e s' I c => passL pins σ H s e s' I c) (pa_cons (pe_xc0 T0 gC hg2 hdb2) pa_nil he) hdb he hpl) ?_
  intro Γ A σ H Q R cl h
  refine fun a H2 e xn => ⟨a, C, none, row, rfl, xn.is, hE, hK, fun H1 e1 l hl => ?_⟩
  exact h A (.nd l .own .lst 0 ((row.map V.bl).map T.im)) _ (rel_newL R R.len (e.trans e1) hl) (.refl _ _) rfl (by rw [T.er, ims_er, List.map_map]; rfl)
end
theorem kitOne_ofB {K : PySem.W.Frag} {C B : Addr} {b : Bool} (h1 : PySem.W.hasDictIn K B = true) (h2 : PySem.W.typeIn K (.ref B) = some (.type "type")) (h3 : PySem.W.subIn K (.ref C) (.ref B) = some b) (h4 : PySem.W.subIn K (.ref B) (.ref B) = some true) : PySem.W.kitOne K (.ref C) (.ref B) = some b := by
  obtain ⟨cd, hc, _⟩ := PySem.W.any_some h1
  unfold PySem.W.kitOne
  split
  · rename_i e
    have e := Value.ref.inj (beq_iff_eq.mp e)
    subst e
    rw [h3] at h4; exact h4.symm
  · unfold PySem.W.kitCls
    simp [hc, h2, h3]
theorem kitOne_ofT {K : PySem.W.Frag} {C : Addr} {T : String} (h1 : PySem.W.kitMeta T = true) (h : PySem.W.subIn K (.ref C) (.type T) = some true) : PySem.W.kitOne K (.ref C) (.type T) = some true := by
  unfold PySem.W.kitOne
  split
  · rfl
  · unfold PySem.W.kitCls
    simp [h1, h]
end Lin
end
section
namespace Law
open PySem L2 Lin
noncomputable def b__law_bag (scA : Option Addr) (scN : List Int) : Sg → R Fl := cRet (cMany (cCons [] (cMany (cCons [] (cVar 0) (cNil)) (bListS scA scN)) (cCons [] (cLit (.int 0)) (cCons [] (cLit (.int 0)) (cCons [] (cLit (.int 17)) (cCons [] (cLit (.int 0)) (cNil)))))) dLst)
noncomputable def m__law_bag (scA : Option Addr) (scN : List Int) : FSem := semOf 1 [false] (b__law_bag scA scN)
def csE (cl : Nat → Addr) : List XSp := [(cl 100, none), (cl 101, none), (cl 102, none), (cl 103, none), (cl 104, none), (cl 105, none), (cl 106, none), (cl 107, none), (cl 108, none), (cl 109, none), (cl 110, some "at"), (cl 111, some "claims"), (cl 112, some "count"), (cl 113, some "years"), (cl 114, some "place"), (cl 115, some "year"), (cl 116, some "year"), (cl 117, some "name"), (cl 118, some "name"), (cl 119, some "name")]
def csD (cl : Nat → Addr) : List Addr := [cl 100, cl 101, cl 102, cl 103, cl 104, cl 105, cl 106, cl 107, cl 108, cl 109, cl 110, cl 111, cl 112, cl 113, cl 114, cl 115, cl 116, cl 117, cl 118, cl 119]
def rowsB : List (List Bool) := [[true, false, false, false, false, false, false, false, false, false, false, false, false, false, false, false, false, false, false, false], [false, true, false, false, false, false, false, false, false, false, false, false, false, false, false, false, false, false, false, false], [false, false, true, false, false, false, false, false, false, false, false, false, false, false, false, false, false, false, false, false], [false, false, false, true, false, false, false, false, false, false, false, false, false, false, false, false, false, false, false, false], [false, false, false, false, true, false, false, false, false, false, false, false, false, false, false, false, false, false, false, false], [false, false, false, false, false, true, false, false, false, false, false, false, false, false, false, false, false, false, false, false], [false, false, false, false, false, false, true, false, false, false, false, false, false, false, false, false, false, false, false, false], [false, false, false, false, false, false, false, true, false, false, false, false, false, false, false, false, false, false, false, false], [false, false, false, false, false, false, false, false, true, false, false, false, false, false, false, false, false, false, false, false], [false, false, false, false, false, false, false, false, false, true, false, false, false, false, false, false, false, false, false, false], [false, false, false, false, false, false, false, false, false, false, true, false, false, false, false, false, false, false, false, false], [false, false, false, false, false, false, false, false, false, false, false, true, false, false, false, false, false, false, false, false], [false, false, false, false, false, false, false, false, false, false, false, false, true, false, false, false, false, false, false, false], [false, false, false, false, false, false, false, false, false, false, false, false, false, true, false, false, false, false, false, false], [false, false, false, false, false, false, false, false, false, false, false, false, false, false, true, false, false, false, false, false], [false, false, false, false, false, false, false, false, false, false, false, false, false, false, false, true, false, false, false, false], [false, false, false, false, false, false, false, false, false, false, false, false, false, false, false, false, true, false, false, false], [false, false, false, false, false, false, false, false, false, false, false, false, false, false, false, false, false, true, false, false], [false, false, false, false, false, false, false, false, false, false, false, false, false, false, false, false, false, false, true, false], [false, false, false, false, false, false, false, false, false, false, false, false, false, false, false, false, false, false, false, true]]
def rowB : List Bool := [false, false, false, false, false, false, false, false, false, false, false, false, false, false, false, false, false, false, false, false]
noncomputable def b__law_draw : Sg → R Fl := cSeq (cSetAt 0 [] (cTwo [] (cTwo [] (cVar 0) (cLit (.int 4)) oIx) (cLit (.int 1)) oAdd) (pVar 0) (cLit (.int 4)) oSet) (cSeq (cIf (cAnd (cTest (cTwo [] (cTwo [] (cVar 0) (cLit (.int 2)) oIx) (cLit (.int 0)) oEq) dBool) (cTest (cTwo [] (cTwo [] (cVar 0) (cLit (.int 1)) oIx) (cMany (cCons [] (cTwo [] (cVar 0) (cLit (.int 0)) oIx) (cNil)) (bLen)) oLt) dBool)) (cSeq (cAsg (gSet true 2) (cTwo [] (cTwo [] (cVar 0) (cLit (.int 0)) oIx) (cTwo [] (cVar 0) (cLit (.int 1)) oIx) oIx)) (cSeq (cSetAt 0 [] (cTwo [] (cTwo [] (cVar 0) (cLit (.int 1)) oIx) (cLit (.int 1)) oAdd) (pVar 0) (cLit (.int 1)) oSet) (cSeq (cSetAt 0 [] (cTwo [] (cTwo [] (cTwo [] (cLit (.int 2)) (cMany (cCons [] (cVar 2) (cNil)) (bAbs)) oMul) (cMany (cCons [] (cTwo [] (cVar 2) (cLit (.int 0)) oLt) (cNil)) (immV vToInt)) oAdd) (cMany (cCons [] (cTwo [] (cMany (cCons [] (cVar 2) (cNil)) (bAbs)) (cTwo [] (cLit (.int 10)) (cLit (.int 18)) oPow) oGe) (cNil)) (immV vToInt)) oMul) (pVar 0) (cLit (.int 2)) oSet) (cSetAt 0 [] (cTwo [] (cMany (cCons [] (cTwo [] (cTwo [] (cTwo [] (cTwo [] (cVar 0) (cLit (.int 3)) oIx) (cLit (.int 48271)) oMul) (cTwo [] (cVar 2) (cLit (.int 69621)) oMul) oAdd) (cLit (.int 11)) oAdd) (cNil)) (immV vToInt)) (cLit (.int 2147483647)) oMod) (pVar 0) (cLit (.int 3)) oSet)))) (cNext)) (cSeq (cAsg (gSet true 3) (cTwo [] (cMany (cCons [] (cTwo [] (cVar 0) (cLit (.int 2)) oIx) (cNil)) (immV vToInt)) (cVar 1) oMod)) (cSeq (cIf (cTest (cTwo [] (cTwo [] (cVar 0) (cLit (.int 2)) oIx) (cLit (.int 0)) oGt) dBool) (cSeq (cSetAt 0 [] (cTwo [] (cTwo [] (cVar 0) (cLit (.int 2)) oIx) (cVar 1) oDiv) (pVar 0) (cLit (.int 2)) oSet) (cRet (cVar 3))) (cNext)) (cSeq (cAsg (gSet true 4) (cTwo [] (cMany (cCons [] (cTwo [] (cTwo [] (cVar 0) (cLit (.int 3)) oIx) (cTwo [] (cTwo [] (cVar 0) (cLit (.int 4)) oIx) (cLit (.int 40692)) oMul) oAdd) (cNil)) (immV vToInt)) (cLit (.int 2147483647)) oMod)) (cSeq (cAsg (gSet true 4) (cTwo [] (cMany (cCons [] (cTwo [] (cTwo [] (cTwo [] (cVar 4) (cLit (.int 3)) oPow) (cTwo [] (cTwo [] (cVar 0) (cLit (.int 4)) oIx) (cLit (.int 16807)) oMul) oAdd) (cLit (.int 7)) oAdd) (cNil)) (immV vToInt)) (cLit (.int 2147483629)) oMod)) (cRet (cTwo [] (cTwo [] (cTwo [] (cMany (cCons [] (cTwo [] (cVar 4) (cLit (.int 2)) oPow) (cNil)) (immV vToInt)) (cLit (.int 2147483587)) oMod) (cLit (.int 8)) oDiv) (cVar 1) oMod)))))))
noncomputable def m__law_draw : FSem := semOf 5 [true, false] (b__law_draw)
noncomputable def b__law_mixed : Sg → R Fl := cSeq (cAsg (gSet false 2) (cMany (cCons [] (cVar 1) (cNil)) (bList))) (cSeq (cAsg (gSet false 3) (cMany (cNil) dLst)) (cSeq (cFor [0, 2, 3] (gSet true 4) (iRng1F (cCons [] (cMany (cCons [] (cVar 1) (cNil)) (bLen)) (cNil))) (cExpr (cMutM isLst 3 [0, 2] (pVar 3) (cCons [] (cMutM isLst 2 [0] (pVar 2) (cCons [] (cCall [some 0, none] (cRefs 0 (cCons [] (cMany (cCons [] (cVar 2) (cNil)) (bLen)) (cNil))) m__law_draw) (cNil)) mPopAt) (cNil)) mAppend))) (cRet (cMv 3))))
noncomputable def m__law_mixed : FSem := semOf 5 [true, false] (b__law_mixed)
def csJ (cl : Nat → Addr) : List (Nat × Addr × PySem.Str) := [(10, cl 110, "at"), (11, cl 111, "claims"), (12, cl 112, "count"), (13, cl 113, "years"), (14, cl 114, "place"), (15, cl 115, "year"), (16, cl 116, "year"), (17, cl 117, "name"), (18, cl 118, "name"), (19, cl 119, "name")]
noncomputable def b_law (scA : Option Addr) (scN : List Int) : Sg → R Fl := cSeq (cAsg (gSet false 1) (cCall [none] (cCons [] (cVar 0) (cNil)) (m__law_bag scA scN))) (cSeq (cFor [1, 1, 10, 11, 1, 12, 6] (gSet true 2) (iRng1F (cCons [] (cLit (.int 3)) (cNil))) (cSeq (cAsg (gSet true 3) (cTwo [1] (cMany (cCons [1] (cLit (.int 0)) (cCons [1] (cOne (cLit (.int 7)) dNeg) (cCons [1] (cTwo [] (cLit (.int 10)) (cLit (.int 29)) oPow) (cCons [1] (cLit (.str "abc")) (cCons [1] (cLit (.str "")) (cCons [1] (cLit .non) (cCons [1] (cMany (cCons [] (cLit (.int 0)) (cCons [] (cLit (.int 1)) (cNil))) dTup) (cCons [] (cCall [some 1, none] (cRefs 1 (cCons [] (cLit (.int 1000)) (cNil))) m__law_draw) (cNil))))))))) dLst) (cCall [some 1, none] (cRefs 1 (cCons [] (cLit (.int 8)) (cNil))) m__law_draw) oIx)) (cMkX [4] 20 3 4 (fun asX dX => cSeq (cFor [6] (gSet true 5) (iSeq (cCall [some 1, none] (cRefs 1 (cCons [] (cOne (cMany (cCons [] (cVar 4) (cNil)) (bLen)) dRg1) (cNil))) m__law_mixed) .lst) (cSeq (cIf (cTest (cTwo [6] (cMany (cCons [] (cTwo [] (cVar 4) (cVar 5) oIx) (cNil)) (dKn asX rowsB)) (cLc [6] [] (gSet true 6) (iRng1F (cCons [] (cLit (.int 20)) (cNil))) (cYes) (cTwo [] (cVar 6) (cVar 5) oEq)) oNe) dBool) (cRet (cLit (.bl false))) (cNext)) (cIf (cOr (cNot (cTest (cOne (cTwo [] (cVar 4) (cVar 5) oIx) (dXIn asX)) dTru)) (cNot (cTest (cOne (cTwo [] (cVar 4) (cVar 5) oIx) (dXIn asX)) dTru))) (cRet (cLit (.bl false))) (cNext)))) (cIf (cTest (cTwo [] (cMany (cCons [] (cVar 4) (cNil)) (dPt asX 10 dX)) (cTwo [] (cMany (cCons [] (cVar 3) (cNil)) dLst) (cLit (.int 10)) dRep) oNe) dBool) (cRet (cLit (.bl false))) (cNext)))))) (cRet (cOne (cMany (cCons [] ((fun S => .ok (blL rowB) S)) (cNil)) (immV vAny)) dNot)))
noncomputable def m_law (scA : Option Addr) (scN : List Int) : FSem := semOf 7 [false] (b_law scA scN)
end Law
end
section
open Lin
local macro_rules | `(tactic| simp_arith [$ts,*]) => do
  let ids ← ("kz_lst kz_tup kz_dic kz_dtu kz_obj kz_xd kz_scr ownLst_en intD_I ok_var cap_nil cap_none cap_some own_im rdum_nil rdum_none rdum_cons backT_nil backT_val backT_tmp backT_ref ok_mv ok_lit ok_two ok_one ok_test ok_nil ok_cons ok_many ok_and ok_or ok_not ok_next ok_seq okF_nx okF_ret okF_brk okF_cnt ok_if ok_ret ok_expr ok_asg so_gset ok_mutE ok_setE ok_call ok_refs ok_for ok_iseqE ok_rg1 ok_yes imV_im ok_lc okC_fin okC_finx raiV_t so_some if_true if_false ite_true ite_false reduceIte Bool.false_eq_true Bool.true_eq_false and_self true_and and_true false_and and_false or_false false_or not_true_eq_false not_false_eq_true ne_eq reduceCtorEq Bool.not_true Bool.not_false Bool.and_true Bool.true_and Bool.and_false Bool.false_and Bool.or_true Bool.true_or Bool.or_false Bool.false_or Bool.not_eq_true' Bool.not_eq_false' Bool.not_not decide_true decide_false decide_eq_true_eq decide_not decide_eq_false_iff_not List.getElem?_nil List.getElem?_cons_zero List.getElem?_cons_succ List.set_cons_zero List.set_cons_succ List.map_cons List.map_nil List.cons_append List.nil_append List.length_cons List.length_nil List.zip_cons_cons List.zip_nil_right List.all_cons List.all_nil List.filterMap_cons List.filterMap_nil List.replicate List.not_mem_nil List.mem_cons Option.isNone_none Option.isNone_some Option.map_some Option.map_none id_eq Nat.reduceAdd Nat.reduceSub Nat.reduceEqDiff Nat.zero_ne_one Kd.bor.injEq List.foldr_cons List.foldr_nil clean_nil clean_cons clean_non mk_im bor_im kill_im kill_none of_im fzIf_im fzIf_t fzIf_f en_mk bo_own bo_frz bo_par bo_bor fz_own fz_frz fz_par' fz_bor' pa_own pa_frz pa_par pa_bor re_own re_frz re_par re_bor bor_en kill_en kill_opt of_en en_im len_en len_enT ix_en ix_enT0 ix_enT1 list_en tru_en seq_en not_B neg_I eq_LN ne_LN eq_LLN ne_LLN it_en add_I lt_I gt_I ge_I eq_I ne_I dbool_B dtru_B toInt_I toInt_B abs_I shOk_L xfD_some isXD_a all_clean dLst_s dTup_s en_L0 Nat.reduceLT Nat.reduceLeDiff Int.reduceLT Int.reduceLE Int.reduceEq Nat.lt_add_left_iff_pos Nat.zero_add bor_nd kill_d of_nd mk_nd List.any_cons List.any_nil beq_self_eq_true en_LNp en_LNo en_LNb argsD backS setAll usOf wipeS".splitOn " ").toArray.mapM fun n => `(Lean.Parser.Tactic.simpLemma| $(Lean.mkIdent n.toName):ident)
  let all : Array (Lean.TSyntax [`Lean.Parser.Tactic.simpStar, `Lean.Parser.Tactic.simpErase, `Lean.Parser.Tactic.simpLemma]) := ids.map (fun x => ⟨x.raw⟩) ++ ts.getElems.map (fun x => ⟨x.raw⟩)
  `(tactic| simp only [$all,*])
namespace Law
open PySem L2 Lin
def bagD (cs : List Int) (p cur mix cnt : Int) : D := .nd .own .lst [iL .own cs, I p, I cur, I mix, I cnt]
section
variable (cs : List Int) (p cur mix cnt : Int)
theorem bag_kinds : (bagD cs p cur mix cnt).kinds = [.own, .own] := by
  unfold bagD
  simp [D.kinds, kindsL, kinds_iL]
theorem bag_bor (r : Nat) : hasBor r (bagD cs p cur mix cnt) = false := bor_raw (by rw [bag_kinds]; simp)
theorem bag_kill (r : Nat) : killD r (some (bagD cs p cur mix cnt)) = some (bagD cs p cur mix cnt) := kill_d (bag_bor cs p cur mix cnt r)
theorem bag_of : ofD (bagD cs p cur mix cnt) = true := of_raw (by rw [bag_kinds]; simp)
theorem bag_0 (i : Nat) : oIx ((bagD cs p cur mix cnt).mk (kBo i)) (I 0) = some (iL (.bor i) cs) := by
  unfold bagD; simp [D.mk, mkDL, iL_mk, kBo, oIx, dIx, atI, ixN]
theorem bag_1 (i : Nat) : oIx ((bagD cs p cur mix cnt).mk (kBo i)) (I 1) = some (I p) := by
  unfold bagD; simp [D.mk, mkDL, iL_mk, kBo, oIx, dIx, atI, ixN]
theorem bag_2 (i : Nat) : oIx ((bagD cs p cur mix cnt).mk (kBo i)) (I 2) = some (I cur) := by
  unfold bagD; simp [D.mk, mkDL, iL_mk, kBo, oIx, dIx, atI, ixN]
theorem bag_3 (i : Nat) : oIx ((bagD cs p cur mix cnt).mk (kBo i)) (I 3) = some (I mix) := by
  unfold bagD; simp [D.mk, mkDL, iL_mk, kBo, oIx, dIx, atI, ixN]
theorem bag_4 (i : Nat) : oIx ((bagD cs p cur mix cnt).mk (kBo i)) (I 4) = some (I cnt) := by
  unfold bagD; simp [D.mk, mkDL, iL_mk, kBo, oIx, dIx, atI, ixN]
variable (v : Int) (K : D → Prop)
theorem bag_s1 : Lin.SetAt oSet (bagD cs p cur mix cnt) (I 1) (I v) K = K (bagD cs v cur mix cnt) := by
  simp [bagD, Lin.SetAt, oSet, sLst, ixN, so_some]
theorem bag_s2 : Lin.SetAt oSet (bagD cs p cur mix cnt) (I 2) (I v) K = K (bagD cs p v mix cnt) := by
  simp [bagD, Lin.SetAt, oSet, sLst, ixN, so_some]
theorem bag_s3 : Lin.SetAt oSet (bagD cs p cur mix cnt) (I 3) (I v) K = K (bagD cs p cur v cnt) := by
  simp [bagD, Lin.SetAt, oSet, sLst, ixN, so_some]
theorem bag_s4 : Lin.SetAt oSet (bagD cs p cur mix cnt) (I 4) (I v) K = K (bagD cs p cur mix v) := by
  simp [bagD, Lin.SetAt, oSet, sLst, ixN, so_some]
end
theorem mul1 {a b : Int} (h : b = 0 ∨ b = 1) : oMul (I a) (I b) = some (I (a * b)) := mul_r (by omega) (by omega)
theorem draw_ok (cs : List Int) (p cur mix cnt n : Int) (hp : 0 ≤ p) (hc : 0 ≤ cur) (hn : 0 < n) (hn2 : n < 1000000000000000000000000000000) :
    OkCE NoC (m__law_draw [bagD cs p cur mix cnt, I n]) fun d ms => ∃ v p' cur' mix' cnt', d = I v ∧ ms = [bagD cs p' cur' mix' cnt'] ∧ 0 ≤ p' ∧ 0 ≤ cur' ∧ 0 ≤ v ∧ v < n := by
  unfold m__law_draw b__law_draw
  rw [okC_sem]
  refine seq_cut (A := fun S => S = [some (bagD cs p cur mix (cnt + 1)), some (I n), none, none, none]) ?_ ?_
  · simp_arith [bag_4, bag_s4, bag_kill]
  rintro _ rfl
  refine seq_cut (A := fun S => ∃ p cur mix cnt, ∃ o : Option Int, S = [some (bagD cs p cur mix cnt), some (I n), o.map (fun i => I i), none, none] ∧ 0 ≤ p ∧ 0 ≤ cur) ?_ ?_
  · simp_arith [bag_2, bag_1, bag_0, len_iL]
    by_cases h0 : cur = 0
    · by_cases h1 : p < (cs.length : Int)
      · obtain ⟨x, hx⟩ : ∃ x, cs[p.toNat]? = some x := ⟨cs[p.toNat]'(by omega), List.getElem?_eq_getElem _⟩
        subst h0
        have hx01 : ∀ c : Prop, ∀ _ : Decidable c, (if c then (1 : Int) else 0) = 0 ∨ (if c then (1 : Int) else 0) = 1 := fun c _ => by split <;> simp
        simp_arith [h1, bag_2, bag_1, bag_0, bag_3, ix_iL hp hx, bag_s1, bag_s2, bag_s3, bag_kill, mul_l (a := 2) (by decide) (by decide), pow_I (a := 10) (b := 18) (by decide) (by decide) (by decide), mul1 (hx01 _ _), mul_r (b := 48271) (by decide) (by decide), mul_r (b := 69621) (by decide) (by decide), mod_I (b := 2147483647) (by decide)]
        refine ⟨_, _, _, _, some x, rfl, by omega, Int.mul_nonneg (Int.add_nonneg (Int.mul_nonneg (by decide) (by split <;> omega)) (by split <;> omega)) (by split <;> omega)⟩
      · simp_arith [h0, h1]
        exact ⟨p, 0, mix, cnt + 1, none, by subst h0; rfl, hp, by omega⟩
    · simp_arith [h0]
      exact ⟨p, cur, mix, cnt + 1, none, rfl, hp, hc⟩
  · rintro S ⟨p, cur, mix, cnt, o, rfl, hp, hc⟩
    have ko : ∀ r, killD r (o.map fun i => I i) = o.map fun i => I i := fun r => by cases o <;> rfl
    simp_arith [bag_2, mod_I hn]
    by_cases h0 : 0 < cur
    · simp_arith [h0, bag_2, div_I hn hn2, bag_s2, bag_kill, ko, bag_of]
      have h1 := Int.ediv_nonneg hc (show 0 ≤ n by omega)
      have h2 := Int.emod_nonneg cur (show n ≠ 0 by omega)
      have h3 := Int.emod_lt_of_pos cur hn
      exact ⟨_, _, _, _, _, rfl, rfl, hp, h1, h2, h3⟩
    · have b1 : ∀ z : Int, (z % 2147483647).natAbs < 18446744073709551616 := fun z => by omega
      have b2 : ∀ z : Int, (z % 2147483629).natAbs < 18446744073709551616 := fun z => by omega
      simp_arith [h0, bag_3, bag_4, mul_r (b := 40692) (by decide) (by decide), mod_I (b := 2147483647) (by decide), pow_I (b := 3) (by decide) (by decide) (b1 _), mul_r (b := 16807) (by decide) (by decide), mod_I (b := 2147483629) (by decide), pow_I (b := 2) (by decide) (by decide) (b2 _), mod_I (b := 2147483587) (by decide), div_I (b := 8) (by decide) (by decide), mod_I hn, bag_of]
      exact ⟨_, _, _, _, _, rfl, rfl, hp, hc, Int.emod_nonneg _ (by omega), Int.emod_lt_of_pos _ hn⟩
/-- the bag -/
structure Bag where
  cs : List Int
  p : Int
  cur : Int
  mix : Int
  cnt : Int
  hp : 0 ≤ p
  hc : 0 ≤ cur
def bg (b : Bag) : D := bagD b.cs b.p b.cur b.mix b.cnt
theorem bg_bor (b : Bag) (r : Nat) : hasBor r (bg b) = false := bag_bor ..
theorem bg_kill (b : Bag) (r : Nat) : killD r (some (bg b)) = some (bg b) := bag_kill ..
theorem bg_of (b : Bag) : ofD (bg b) = true := bag_of ..
theorem draw_ex (b : Bag) (n : Int) : ∃ q : Nat × Bag, 0 < n → n < 1000000000000000000000000000000 → m__law_draw [bg b, I n] = .ok (I (q.1 : Int)) [bg q.2] ∧ (q.1 : Int) < n := by
  by_cases hn : 0 < n ∧ n < 1000000000000000000000000000000
  · obtain ⟨d, ms, e, v, p', cur', mix', cnt', rfl, rfl, h1, h2, h3, h4⟩ := (draw_ok b.cs b.p b.cur b.mix b.cnt n b.hp b.hc hn.1 hn.2).get
    refine ⟨(v.toNat, ⟨b.cs, p', cur', mix', cnt', h1, h2⟩), fun _ _ => ⟨?_, by show ((v.toNat : Nat) : Int) < n; omega⟩⟩
    show m__law_draw [bg b, I n] = .ok (I ((v.toNat : Nat) : Int)) _
    rw [Int.toNat_of_nonneg h3]
    exact e
  · exact ⟨(0, b), fun h1 h2 => absurd ⟨h1, h2⟩ hn⟩
noncomputable def dv (b : Bag) (n : Int) : Nat := (draw_ex b n).choose.1
noncomputable def db (b : Bag) (n : Int) : Bag := (draw_ex b n).choose.2
theorem dv_lt {b : Bag} {n : Int} (h1 : 0 < n) (h2 : n < 1000000000000000000000000000000) : (dv b n : Int) < n := ((draw_ex b n).choose_spec h1 h2).2
theorem dv_ltN {b : Bag} {n : Nat} (h1 : 0 < n) (h2 : n < 1000000000000000000000000000000) : dv b (n : Int) < n := by have := dv_lt (b := b) (n := (n : Int)) (by omega) (by omega); omega
theorem okC_draw {Ec : EC} {b : Bag} {n : Int} {Q : D → List D → Prop} (h1 : 0 < n) (h2 : n < 1000000000000000000000000000000) : OkCE Ec (m__law_draw [bg b, I n]) Q = Q (I (dv b n : Int)) [bg (db b n)] := okC_of ((draw_ex b n).choose_spec h1 h2).1
end Law
open Lin
namespace Law
open PySem L2 Lin
theorem mixed_ex {α : Type} (b : Bag) (k : Kd) (hk : k = .frz ∨ k = .par) (f : α → P) (xs : List α) (hl : xs.length < 1000000) : ∃ q : List α × Bag, m__law_mixed [bg b, en k .frz (pL f xs)] = .ok (en .own .frz (pL f q.1)) [bg q.2] ∧ q.1.Perm xs := by
  have kk : ∀ i, kBo i k = k := fun i => by rcases hk with rfl | rfl <;> rfl
  have kb : ∀ r, (k = .bor r) = False := fun r => by rcases hk with rfl | rfl <;> simp
  have h : OkCE NoC (m__law_mixed [bg b, en k .frz (pL f xs)]) fun d ms => ∃ ys b', d = en .own .frz (pL f ys) ∧ ms = [bg b'] ∧ ys.Perm xs := by
    unfold m__law_mixed b__law_mixed
    rw [okC_sem]
    refine seq_cut (A := fun S => S = [some (bg b), some (en k .frz (pL f xs)), some (en .own .frz (pL f xs)), none, none]) ?_ ?_
    · simp_arith [kk]
    rintro _ rfl
    refine seq_cut (A := fun S => S = [some (bg b), some (en k .frz (pL f xs)), some (en .own .frz (pL f xs)), some (en .own .frz (pL f [])), none]) ?_ ?_
    · simp_arith []
    rintro _ rfl
    refine seq_cut (A := fun S => ∃ b' found, ∃ o : Option Nat, S = [some (bg b'), some (en k .frz (pL f xs)), some (en .own .frz (pL f [])), some (en .own .frz (pL f found)), o.map fun i : Nat => I i] ∧ found.Perm xs) ?_ ?_
    · simp_arith [kk, rg1_eq hl]
      refine for_inv (Inv := fun i S => ∃ b', ∃ left found, ∃ o : Option Nat, S = [some (bg b'), some (en k .frz (pL f xs)), some (en .own .frz (pL f left)), some (en .own .frz (pL f found)), o.map fun i : Nat => I i] ∧ (found ++ left).Perm xs ∧ left.length + i = xs.length) ?_ ?_ ?_
      · rintro i y S hy ⟨b', left, found, o, rfl, hp, hlen⟩
        have hi : i < xs.length := by
          have := (List.getElem?_eq_some_iff.mp hy).1; simpa using this
        have h0 : (0 : Int) < (left.length : Int) := by omega
        have h1 : (left.length : Int) < 1000000000000000000000000000000 := by omega
        have hd : dv b' (left.length : Int) < left.length := dv_ltN (by omega) (by omega)
        have hf := hp.length_eq
        rw [List.length_append] at hf
        simp_arith [kb, bg_kill, bg_bor, bg_of, okC_draw h0 h1, mut_popAt (List.getElem?_eq_getElem hd) (by omega), mut_app (g := f) (show found.length < 1000000 by omega)]
        refine ⟨_, _, _, some y, rfl, ?_, ?_⟩
        · refine List.Perm.trans ?_ hp
          rw [List.append_assoc]
          refine List.Perm.append_left _ ?_
          generalize dv b' (left.length : Int) = j at hd
          have e3 : left = left.take j ++ left[j] :: left.drop (j + 1) := by rw [List.getElem_cons_drop, List.take_append_drop]
          rw [List.eraseIdx_eq_take_drop_succ]
          have q3 := (List.perm_middle (a := left[j]) (l₁ := left.take j) (l₂ := left.drop (j + 1))).symm
          rw [← e3] at q3
          exact q3
        · rw [List.length_eraseIdx, if_pos hd]; omega
      · rintro S ⟨b', left, found, o, rfl, hp, hlen⟩
        rw [List.length_range] at hlen
        have : left = [] := List.length_eq_zero_iff.mp (by omega)
        subst this
        rw [List.append_nil] at hp
        exact ⟨b', found, _, rfl, hp⟩
      · exact ⟨b, xs, [], none, rfl, by simp, by simp⟩
    · rintro S ⟨b', found, o, rfl, hp⟩
      simp_arith [bg_of, bg_kill, kb]
      exact ⟨found, b', rfl, rfl, hp⟩
  obtain ⟨d, ms, e, ys, b', rfl, rfl, hp⟩ := h.get
  exact ⟨(ys, b'), e, hp⟩
end Law
open Lin
namespace Law
open PySem L2 Lin
def b0 (ns : List Int) : Bag := ⟨ns, 0, 0, 17, 0, by decide, by decide⟩
theorem bag_ok (sa : Option Addr) (ns : List Int) (d : D) (hd : d = .nd .frz .scr [] ∨ ∃ b, sa = some b ∧ d = .im (.ref b)) : m__law_bag sa ns [d] = .ok (bg (b0 ns)) [] := by
  refine of_okC ?_
  unfold m__law_bag b__law_bag
  have e : bListS sa ns [d.mk (kBo 0)] = some (iL .own ns) := by
    rcases hd with rfl | ⟨b, rfl, rfl⟩
    · rfl
    · simp [bListS, D.mk, intsD, iL]
  have o : ofD (iL .own ns) = true := of_iL ns
  have q : (iL .own ns).mk (kRet [false]) = iL .own ns := by rw [iL_mk]; rfl
  simp_arith [okC_sem, e, o, q]
  rfl
theorem scr_par (sa : Option Addr) (d : D) (hd : d = .nd .frz .scr [] ∨ ∃ b, sa = some b ∧ d = .im (.ref b)) : (d.mk (kBo 0)).mk kPar = d ∧ ∀ r, killD r (some d) = some d := by
  rcases hd with rfl | ⟨b, rfl, rfl⟩
  · exact ⟨rfl, fun _ => rfl⟩
  · exact ⟨rfl, fun _ => rfl⟩
end Law
open Lin
namespace Law
open PySem L2 Lin
theorem fg_eq {x : R Fl} {is : List Nat} {fl : Fl} {SF : Sg} (h : OkE NoX x fun r S => r = fl ∧ fgS is S = SF) : fgR is x = .ok fl SF := by
  rw [ok_def] at h
  cases x with
  | bad => exact h.elim
  | exc c d S => exact h.elim
  | ok r S =>
    obtain ⟨rfl, rfl⟩ := h
    rfl
theorem ok_con {E : EX} {fs : List Addr} {S : Sg} {Q : List D → Sg → Prop} : OkE E (conF fs S) Q = Q (imF fs) S := by
  unfold conF
  rw [ok_ok]
theorem pow29 : oPow (I 10) (I 29) = some (I 100000000000000000000000000000) := by
  rw [pow_I (by decide) (by decide) (by decide)]; rfl
theorem good_n {n : Nat} (h : n < 1000) : goodI (n : Int) = true := by
  have : (List.range 1000).all (fun n => goodI (n : Int)) = true := by decide +kernel
  exact List.all_eq_true.mp this n (by simpa using h)
def optN (o : Option Nat) : Option D := o.map fun i : Nat => I i
theorem optN_kill (o : Option Nat) (r : Nat) : killD r (optN o) = optN o := by cases o <;> rfl
/-- what the errors keep -/
structure PartOk (p : P) : Prop where
  good : goodD (en .frz .frz p) = true
  self : oNe (.nd .own .lst (List.replicate 10 (en .frz .frz p))) (.nd .own .lst (List.replicate 10 [en .frz .frz p]).flatten) = some (B false)
theorem self_int (i : Int) : oNe (.nd .own .lst (List.replicate 10 (I i))) (.nd .own .lst (List.replicate 10 [I i]).flatten) = some (B false) := by
  simp [List.replicate, oNe, eqD, toPy, toPyL, SeqAt.shaped, PyData.eqv, PyData.canLay0, PyData.depth, PyData.canLayAll0, PyData.depthAll, PyData.eqvAll]
theorem self_tup : oNe (.nd .own .lst (List.replicate 10 (en .frz .frz (pT [pN 0, pN 1])))) (.nd .own .lst (List.replicate 10 [en .frz .frz (pT [pN 0, pN 1])]).flatten) = some (B false) := by
  have : eqD (.nd .own .lst (List.replicate 10 (en .frz .frz (pT [pN 0, pN 1])))) (.nd .own .lst (List.replicate 10 [en .frz .frz (pT [pN 0, pN 1])]).flatten) = some true := by
    rw [en_pT]
    decide +kernel
  unfold oNe
  rw [this]; rfl
theorem part_ok {n j : Nat} (hn : n < 1000) (hj : j < 8) : ∃ p : P, PartOk p ∧ ∃ d0, oIx (.nd .own .lst [I 0, I (-7), I 100000000000000000000000000000, .im (.str "abc"), .im (.str ""), .im .non, .nd .own .tup [I 0, I 1], I (n : Int)]) (I (j : Int)) = some d0 ∧ fzIf true d0 = en .frz .frz p := by
  match j, hj with
  | 0, _ => exact ⟨.im (.int 0), ⟨by decide +kernel, self_int 0⟩, _, ix_lst (by omega) rfl, rfl⟩
  | 1, _ => exact ⟨.im (.int (-7)), ⟨by decide +kernel, self_int _⟩, _, ix_lst (by omega) rfl, rfl⟩
  | 2, _ => exact ⟨.im (.int 100000000000000000000000000000), ⟨by decide +kernel, self_int _⟩, _, ix_lst (by omega) rfl, rfl⟩
  | 3, _ => exact ⟨.im (.str "abc"), ⟨by decide +kernel, by
      have : eqD (.nd .own .lst (List.replicate 10 (.im (.str "abc")))) (.nd .own .lst (List.replicate 10 [.im (.str "abc")]).flatten) = some true := by decide +kernel
      show oNe (.nd .own .lst (List.replicate 10 (.im (.str "abc")))) (.nd .own .lst (List.replicate 10 [.im (.str "abc")]).flatten) = some (B false)
      unfold oNe; rw [this]; rfl⟩, _, ix_lst (by omega) rfl, rfl⟩
  | 4, _ => exact ⟨.im (.str ""), ⟨by decide +kernel, by
      have : eqD (.nd .own .lst (List.replicate 10 (.im (.str "")))) (.nd .own .lst (List.replicate 10 [.im (.str "")]).flatten) = some true := by decide +kernel
      show oNe (.nd .own .lst (List.replicate 10 (.im (.str "")))) (.nd .own .lst (List.replicate 10 [.im (.str "")]).flatten) = some (B false)
      unfold oNe; rw [this]; rfl⟩, _, ix_lst (by omega) rfl, rfl⟩
  | 5, _ => exact ⟨.im .non, ⟨by decide +kernel, by
      have : eqD (.nd .own .lst (List.replicate 10 (.im .non))) (.nd .own .lst (List.replicate 10 [.im .non]).flatten) = some true := by decide +kernel
      show oNe (.nd .own .lst (List.replicate 10 (.im .non))) (.nd .own .lst (List.replicate 10 [.im .non]).flatten) = some (B false)
      unfold oNe; rw [this]; rfl⟩, _, ix_lst (by omega) rfl, rfl⟩
  | 6, _ => exact ⟨pT [pN 0, pN 1], ⟨by rw [en_pT]; decide +kernel, self_tup⟩, _, ix_lst (by omega) rfl, by rw [en_pT]; rfl⟩
  | 7, _ => exact ⟨.im (.int n), ⟨good_n hn, self_int _⟩, _, ix_lst (by omega) rfl, rfl⟩
theorem rowOf_at : ∀ {as : List Addr} {B : List (List Bool)} {j : Nat} {a : Addr} {b : List Bool}, as.Nodup → as[j]? = some a → B[j]? = some b → rowOf as B a = some b
  | [], _, j, a, b, _, h, _ => by simp at h
  | _ :: _, [], j, a, b, _, _, h => by simp at h
  | x :: as, y :: B, 0, a, b, nd, h1, h2 => by
    simp at h1 h2
    subst h1; subst h2
    unfold rowOf; rw [if_pos rfl]
  | x :: as, y :: B, j + 1, a, b, nd, h1, h2 => by
    simp at h1 h2
    have hx : a ≠ x := fun z => (List.nodup_cons.mp nd).1 (by rw [← z]; exact List.mem_of_getElem? h1)
    unfold rowOf; rw [if_neg hx]
    exact rowOf_at (List.nodup_cons.mp nd).2 h1 h2
theorem blL_bor (bs : List Bool) (r : Nat) : hasBor r (blL bs) = false := bor_raw (by
  unfold blL
  rw [D.kinds, kindsL_eq]
  intro h
  rcases List.mem_cons.mp h with h | h
  · cases h
  · obtain ⟨d, hd, h⟩ := List.mem_flatMap.mp h
    obtain ⟨b, _, rfl⟩ := List.mem_map.mp hd
    simp [D.kinds] at h)
def refP (a : Addr) : P := .im (.ref a)
theorem eqF_self (as : List Addr) : eqF (as.map fun a => D.im (.ref a)) as = true := by
  induction as with
  | nil => rfl
  | cons a as ih => rw [List.map_cons]; unfold eqF; rw [ih]; simp
theorem row_eq {j : Nat} (h : j < 20) : ∃ r, rowsB[j]? = some r ∧ oNe (blL r) (.nd .own .lst (((List.range 20).map fun k : Nat => decide ((k : Int) = (j : Int))).map fun b => B b)) = some (B false) := by
  have key : (List.range 20).all (fun j => decide (rowsB[j]? = some (rowsB.getD j [])) && decide (eqD (blL (rowsB.getD j [])) (.nd .own .lst (((List.range 20).map fun k : Nat => decide ((k : Int) = (j : Int))).map fun b => B b)) = some true)) = true := by decide +kernel
  have := List.all_eq_true.mp key j (by simpa using h)
  rw [Bool.and_eq_true] at this
  refine ⟨_, of_decide_eq_true this.1, ?_⟩
  unfold oNe
  rw [of_decide_eq_true this.2]; rfl
theorem imF_en (as : List Addr) : D.nd .own .lst (imF as) = en .own .frz (pL refP as) := by
  rw [en_pL]; rfl
theorem law_pure (sa : Option Addr) (ns : List Int) (d : D) (hl : ns.length ≤ 63) (hb : ∀ z ∈ ns, Builtin.Int.intBits z ≤ 1048576) (hd : d = .nd .frz .scr [] ∨ ∃ b, sa = some b ∧ d = .im (.ref b)) : m_law sa ns [d] = .ok (.im (.bl true)) [] := by
  obtain ⟨hd1, hd2⟩ := scr_par sa d hd
  refine of_okC ?_
  unfold m_law b_law
  rw [okC_sem]
  refine seq_cut (A := fun S => S = [some d, some (bg (b0 ns)), none, none, none, none, none]) ?_ ?_
  · simp_arith [hd1, okC_of (bag_ok sa ns d hd)]
  rintro _ rfl
  generalize b0 ns = b
  have hdk : ∀ (k : Nat), killD k (some d) = some d := hd2
  refine seq_cut (A := fun S => ∃ b' o2 o3 o5, S = [some d, some (bg b'), o2, o3, none, o5, none]) ?_ ?_
  · have r3 : rg1 [I 3] = some (.im .non, (List.range 3).map fun k : Nat => I (k : Int)) := rg1_eq (n := 3) (by decide)
    simp_arith [r3]
    refine for_inv (Inv := fun i S => ∃ b' o2 o5, ∃ o3 : Option P, S = [some d, some (bg b'), o2, o3.map (en .frz .frz), none, optN o5, none]) ?_ ?_ ?_
    · rintro i y S hy ⟨b', o2, o5, o3, rfl⟩
      rw [so_gset]
      refine seq_cut (A := fun S => ∃ b'', ∃ p : P, PartOk p ∧ S = [some d, some (bg b''), some (I y), some (en .frz .frz p), none, optN o5, none]) ?_ ?_
      · have hn : dv b' 1000 < 1000 := dv_ltN (n := 1000) (by decide) (by decide)
        have hj : dv (db b' 1000) 8 < 8 := dv_ltN (n := 8) (by decide) (by decide)
        obtain ⟨p, hp, d0, e1, e2⟩ := part_ok hn hj
        simp_arith [pow29, bg_kill, bg_bor, bg_of, hd2, okC_draw (b := b') (n := 1000) (by decide) (by decide), okC_draw (b := db b' 1000) (n := 8) (by decide) (by decide)]
        simp_arith [e1, e2, optN_kill]
        exact ⟨_, p, hp, rfl⟩
      · rintro _ ⟨b'', p, hp, rfl⟩
        unfold cMkX
        simp_arith [hp.good]
        obtain ⟨⟨ys, bz⟩, e, hperm⟩ := mixed_ex b'' .par (.inr rfl) pN (List.range 20) (by simp)
        dsimp only at e hperm
        refine ok_uniN (r := .ok .nx [some d, some (bg bz), some (I y), some (en .frz .frz p), none, optN (ys.getLast?), none]) (fun as hl hok => ?_) ?_
        · have nd := hok.1
          refine fg_eq ?_
          refine seq_cut (A := fun S => S = [some d, some (bg b''), some (I y), some (en .frz .frz p), some (en .own .frz (pL refP as)), optN o5, none]) ?_ ?_
          · have hL : dLst (imF as) = some (en .own .frz (pL refP as)) := by
              have hs : (imF as).length ≤ sizeLine := by
                rw [show (imF as).length = as.length from List.length_map _, hl, sizeLine_eq]; omega
              unfold dLst
              rw [if_pos hs, imF_en]
            simp_arith [ok_con, hL]
          rintro _ rfl
          refine seq_cut (A := fun S => S = [some d, some (bg bz), some (I y), some (en .frz .frz p), some (en .own .frz (pL refP as)), optN (ys.getLast?), none]) ?_ ?_
          · have r20 : dRg1 (I ((20 : Nat) : Int)) = some (en .own .frz (pL pN (List.range 20))) := rg1_N (n := 20) (by omega)
            have hlen := hperm.length_eq
            rw [List.length_range] at hlen
            simp_arith [hl, r20, bg_kill, bg_bor, bg_of, hd2, optN_kill, okC_of e]
            refine for_inv (ys := ys) (Inv := fun i S => ∃ o, S = [some d, some (bg bz), some (I y), some (en .frz .frz p), some (en .own .frz (pL refP as)), optN o, none] ∧ (0 < i → o = ys[i - 1]?)) ?_ ?_ ?_
            · rintro i x S hx ⟨o, rfl, ho⟩
              have hx20 : x < 20 := by simpa using hperm.mem_iff.mp (List.mem_of_getElem? hx)
              have hxa : x < as.length := by omega
              have e0 : ∀ k, oIx (en k .frz (pL refP as)) (I (x : Int)) = some (.im (.ref as[x])) := fun k => ix_en hxa
              obtain ⟨r, hr, hne⟩ := row_eq hx20
              have ek : dKn as rowsB [.im (.ref as[x])] = some (blL r) := by
                show (rowOf as rowsB as[x]).map blL = _
                rw [rowOf_at nd (List.getElem?_eq_getElem hxa) hr]; rfl
              have ein : dXIn as (.im (.ref as[x])) = some (B true) := by
                show (if as.contains as[x] = true then some (B true) else none) = _
                rw [if_pos (List.contains_iff_mem.mpr (List.getElem_mem hxa))]
              rw [so_gset]
              have rr : rg1 [I 20] = some (.im .non, (List.range 20).map fun k : Nat => I (k : Int)) := rg1_eq (n := 20) (by decide)
              simp_arith [e0, ek, ein, rr]
              rw [if_pos (blL_bor r 6)]
              refine lc_map (h := fun b => B b) (w := fun k : Nat => decide ((k : Int) = (x : Int))) (by simp) rfl (fun _ _ => rfl) ?_ ?_
              · intro k hk
                simp_arith []
              · simp_arith [hne, e0, ein, optN_kill]
                exact ⟨some x, rfl, fun _ => by simp [hx]⟩
            · rintro S ⟨o, rfl, ho⟩
              rw [ho (by omega), ← List.getLast?_eq_getElem?]
              exact rfl
            · exact ⟨o5, rfl, fun h => absurd h (by omega)⟩
          rintro _ rfl
          have edp : dPt as 10 (en .frz .frz p) [en (.bor 4) .frz (pL refP as)] = some (.nd .own .lst (List.replicate 10 (en .frz .frz p))) := by
            rw [en_pL]
            show (if eqF (as.map fun a => D.im (.ref a)) as = true then _ else none) = _
            rw [if_pos (eqF_self as)]
          have erep : dRep (.nd .own .lst [en .frz .frz p]) (I 10) = some (.nd .own .lst (List.replicate 10 [en .frz .frz p]).flatten) := by
            show (if (0 : Int) ≤ 10 ∧ (10 : Int) < 2 ^ 63 ∧ 1 * (10 : Int).toNat ≤ sizeLine then some (D.nd .own .lst (List.replicate (10 : Int).toNat (mkDL kFz [en .frz .frz p])).flatten) else none) = _
            rw [if_pos ⟨by decide, by decide, by rw [sizeLine_eq]; decide⟩, mkDL, mkDL, en_mk]
            rfl
          have hs := hp.self
          simp only [List.reduceReplicate] at hs
          simp_arith [edp, erep, hs]
          rfl
        · rw [ok_ok]
          exact ⟨bz, _, _, some p, rfl⟩
    · rintro S ⟨b', o2, o5, o3, rfl⟩
      exact ⟨b', o2, _, _, rfl⟩
    · exact ⟨b, none, none, none, rfl⟩
  · rintro _ ⟨b', o2, o3, o5, rfl⟩
    have hv : immV vAny [blL rowB] = some (B false) := by rfl
    simp_arith [ok_ok, hv]
end Law
end
section
set_option maxHeartbeats 0
namespace Law
open PySem L2 Lin
def top (i : Nat) : Stmt := PySem.Challenge.pw_claimclasses_k14_errors_with_their_parts.main.body.getD i (.Pass ⟨0, 0, 0, 0⟩)
structure Txt (K : PySem.W.Frag) (mg : Str → Option Value) (cl : Nat → Addr) : Prop where
  b_ValueError : mg "ValueError" = none
  b_abs : mg "abs" = none
  b_any : mg "any" = none
  b_int : mg "int" = none
  b_isinstance : mg "isinstance" = none
  b_len : mg "len" = none
  b_list : mg "list" = none
  b_range : mg "range" = none
  base : BaseC K mg "ClaimError" (baseA mg)
  g_BadPremiums : mg "BadPremiums" = some (.ref (cl 100))
  e0_BadPremiums : Ex0 K (cl 100)
  g_BadTable : mg "BadTable" = some (.ref (cl 101))
  e0_BadTable : Ex0 K (cl 101)
  g_BadSteps : mg "BadSteps" = some (.ref (cl 102))
  e0_BadSteps : Ex0 K (cl 102)
  g_BadOrder : mg "BadOrder" = some (.ref (cl 103))
  e0_BadOrder : Ex0 K (cl 103)
  g_BadRows : mg "BadRows" = some (.ref (cl 104))
  e0_BadRows : Ex0 K (cl 104)
  g_BadDamages : mg "BadDamages" = some (.ref (cl 105))
  e0_BadDamages : Ex0 K (cl 105)
  g_BadHouses : mg "BadHouses" = some (.ref (cl 106))
  e0_BadHouses : Ex0 K (cl 106)
  g_BadWays : mg "BadWays" = some (.ref (cl 107))
  e0_BadWays : Ex0 K (cl 107)
  g_BadPlan : mg "BadPlan" = some (.ref (cl 108))
  e0_BadPlan : Ex0 K (cl 108)
  g_NothingToUndo : mg "NothingToUndo" = some (.ref (cl 109))
  e0_NothingToUndo : Ex0 K (cl 109)
  g_NoClass : mg "NoClass" = some (.ref (cl 110))
  g_BadClaims : mg "BadClaims" = some (.ref (cl 111))
  g_TooMany : mg "TooMany" = some (.ref (cl 112))
  g_BadYears : mg "BadYears" = some (.ref (cl 113))
  g_NoPlace : mg "NoPlace" = some (.ref (cl 114))
  g_Billed : mg "Billed" = some (.ref (cl 115))
  g_NotBilled : mg "NotBilled" = some (.ref (cl 116))
  g_BadName : mg "BadName" = some (.ref (cl 117))
  g_NameTaken : mg "NameTaken" = some (.ref (cl 118))
  g_NoPolicy : mg "NoPolicy" = some (.ref (cl 119))
  kitR : KitR K (csD cl) (csE cl) rowsB
  prtR : PrtR K (csE cl) (csJ cl)
  bseR : ∀ q ∈ csE cl, ExcC K q.1 ∧ PySem.W.kitOne K (.ref q.1) (.ref (baseA mg)) = some true
  vleR : ∀ q ∈ csE cl, ExcC K q.1 ∧ PySem.W.kitOne K (.ref q.1) (.type "ValueError") = some true
  e0B : Ex0 K (baseA mg)
  xcB : ExcC K (baseA mg)
  kB : KitL K (baseA mg) (csD cl) rowB
section
variable {P : Program} {w : World} {K : PySem.W.Frag} {mg : Str → Option Value} {base : Heap} {g : Gc}
abbrev s_xNoClass : Stmt := (inClass (top 4) 0)
theorem sc_xNoClass : FnScope ["self", "at"] ["self", "at"] (defScope s_xNoClass) := ⟨rfl, rfl, rfl, by decide +kernel, rfl, by decide +kernel, by decide +kernel⟩
theorem ok_xNoClass {f : Addr} {fd : FuncData} (F : Fun K "__init__" "NoClass.__init__" s_xNoClass f fd) (tx : Txt K mg g.cl) : FnOk P w K mg base (L2.CX P w) 1 f fd ["self", "at"] (spXH K "at" GoodV) :=
  exinitH_ok F sc_xNoClass tx.base fun cdv A outer s H E hr => ⟨tC (.str "no such class"), fun _ _ _ _ _ _ q => q _, pss_cons (ps_expr (pe_baseInit tx.base rfl (pa_cons (pe_var (i := 0) rfl (Or.inl rfl) (by decide) (by decide)) (pa_cons pe_str pa_nil)) (by decide) (by rfl) (by rfl) (by rfl))) (pss_one (ps_ost (pe_var (i := 0) rfl (Or.inl rfl) (by decide) (by decide)) (pe_var (i := 1) rfl (Or.inl rfl) (by decide) (by decide))))⟩
abbrev s_xBadClaims : Stmt := (inClass (top 5) 0)
theorem sc_xBadClaims : FnScope ["self", "claims"] ["self", "claims"] (defScope s_xBadClaims) := ⟨rfl, rfl, rfl, by decide +kernel, rfl, by decide +kernel, by decide +kernel⟩
theorem ok_xBadClaims {f : Addr} {fd : FuncData} (F : Fun K "__init__" "BadClaims.__init__" s_xBadClaims f fd) (tx : Txt K mg g.cl) : FnOk P w K mg base (L2.CX P w) 1 f fd ["self", "claims"] (spXH K "claims" GoodV) :=
  exinitH_ok F sc_xBadClaims tx.base fun cdv A outer s H E hr => ⟨tC (.str "not a number of claims"), fun _ _ _ _ _ _ q => q _, pss_cons (ps_expr (pe_baseInit tx.base rfl (pa_cons (pe_var (i := 0) rfl (Or.inl rfl) (by decide) (by decide)) (pa_cons pe_str pa_nil)) (by decide) (by rfl) (by rfl) (by rfl))) (pss_one (ps_ost (pe_var (i := 0) rfl (Or.inl rfl) (by decide) (by decide)) (pe_var (i := 1) rfl (Or.inl rfl) (by decide) (by decide))))⟩
abbrev s_xTooMany : Stmt := (inClass (top 7) 0)
theorem sc_xTooMany : FnScope ["self", "count"] ["self", "count"] (defScope s_xTooMany) := ⟨rfl, rfl, rfl, by decide +kernel, rfl, by decide +kernel, by decide +kernel⟩
theorem ok_xTooMany {f : Addr} {fd : FuncData} (F : Fun K "__init__" "TooMany.__init__" s_xTooMany f fd) (tx : Txt K mg g.cl) : FnOk P w K mg base (L2.CX P w) 1 f fd ["self", "count"] (spXH K "count" GoodV) :=
  exinitH_ok F sc_xTooMany tx.base fun cdv A outer s H E hr => ⟨tFmX 1 " classes are too many", fun _ _ _ _ h0 h1 q => fmX_ok (by decide) h0 h1 q, pss_cons (ps_expr (pe_baseInit tx.base rfl (pa_cons (pe_var (i := 0) rfl (Or.inl rfl) (by decide) (by decide)) (pa_cons (pe_joined (.cons (pe_fmtX hr (pe_var (i := 1) rfl (Or.inl rfl) (by decide) (by decide))) (.cons pe_str .nil))) pa_nil)) (by decide) (by rfl) (by rfl) (by rfl))) (pss_one (ps_ost (pe_var (i := 0) rfl (Or.inl rfl) (by decide) (by decide)) (pe_var (i := 1) rfl (Or.inl rfl) (by decide) (by decide))))⟩
abbrev s_xBadYears : Stmt := (inClass (top 9) 0)
theorem sc_xBadYears : FnScope ["self", "years"] ["self", "years"] (defScope s_xBadYears) := ⟨rfl, rfl, rfl, by decide +kernel, rfl, by decide +kernel, by decide +kernel⟩
theorem ok_xBadYears {f : Addr} {fd : FuncData} (F : Fun K "__init__" "BadYears.__init__" s_xBadYears f fd) (tx : Txt K mg g.cl) : FnOk P w K mg base (L2.CX P w) 1 f fd ["self", "years"] (spXH K "years" GoodV) :=
  exinitH_ok F sc_xBadYears tx.base fun cdv A outer s H E hr => ⟨tC (.str "not a number of years"), fun _ _ _ _ _ _ q => q _, pss_cons (ps_expr (pe_baseInit tx.base rfl (pa_cons (pe_var (i := 0) rfl (Or.inl rfl) (by decide) (by decide)) (pa_cons pe_str pa_nil)) (by decide) (by rfl) (by rfl) (by rfl))) (pss_one (ps_ost (pe_var (i := 0) rfl (Or.inl rfl) (by decide) (by decide)) (pe_var (i := 1) rfl (Or.inl rfl) (by decide) (by decide))))⟩
abbrev s_xNoPlace : Stmt := (inClass (top 13) 0)
theorem sc_xNoPlace : FnScope ["self", "place"] ["self", "place"] (defScope s_xNoPlace) := ⟨rfl, rfl, rfl, by decide +kernel, rfl, by decide +kernel, by decide +kernel⟩
theorem ok_xNoPlace {f : Addr} {fd : FuncData} (F : Fun K "__init__" "NoPlace.__init__" s_xNoPlace f fd) (tx : Txt K mg g.cl) : FnOk P w K mg base (L2.CX P w) 1 f fd ["self", "place"] (spXH K "place" GoodV) :=
  exinitH_ok F sc_xNoPlace tx.base fun cdv A outer s H E hr => ⟨tC (.str "no such place"), fun _ _ _ _ _ _ q => q _, pss_cons (ps_expr (pe_baseInit tx.base rfl (pa_cons (pe_var (i := 0) rfl (Or.inl rfl) (by decide) (by decide)) (pa_cons pe_str pa_nil)) (by decide) (by rfl) (by rfl) (by rfl))) (pss_one (ps_ost (pe_var (i := 0) rfl (Or.inl rfl) (by decide) (by decide)) (pe_var (i := 1) rfl (Or.inl rfl) (by decide) (by decide))))⟩
abbrev s_xBilled : Stmt := (inClass (top 16) 0)
theorem sc_xBilled : FnScope ["self", "year"] ["self", "year"] (defScope s_xBilled) := ⟨rfl, rfl, rfl, by decide +kernel, rfl, by decide +kernel, by decide +kernel⟩
theorem ok_xBilled {f : Addr} {fd : FuncData} (F : Fun K "__init__" "Billed.__init__" s_xBilled f fd) (tx : Txt K mg g.cl) : FnOk P w K mg base (L2.CX P w) 1 f fd ["self", "year"] (spXH K "year" GoodV) :=
  exinitH_ok F sc_xBilled tx.base fun cdv A outer s H E hr => ⟨tC (.str "not later than the last billed year"), fun _ _ _ _ _ _ q => q _, pss_cons (ps_expr (pe_baseInit tx.base rfl (pa_cons (pe_var (i := 0) rfl (Or.inl rfl) (by decide) (by decide)) (pa_cons pe_str pa_nil)) (by decide) (by rfl) (by rfl) (by rfl))) (pss_one (ps_ost (pe_var (i := 0) rfl (Or.inl rfl) (by decide) (by decide)) (pe_var (i := 1) rfl (Or.inl rfl) (by decide) (by decide))))⟩
abbrev s_xNotBilled : Stmt := (inClass (top 17) 0)
theorem sc_xNotBilled : FnScope ["self", "year"] ["self", "year"] (defScope s_xNotBilled) := ⟨rfl, rfl, rfl, by decide +kernel, rfl, by decide +kernel, by decide +kernel⟩
theorem ok_xNotBilled {f : Addr} {fd : FuncData} (F : Fun K "__init__" "NotBilled.__init__" s_xNotBilled f fd) (tx : Txt K mg g.cl) : FnOk P w K mg base (L2.CX P w) 1 f fd ["self", "year"] (spXH K "year" GoodV) :=
  exinitH_ok F sc_xNotBilled tx.base fun cdv A outer s H E hr => ⟨tC (.str "no bill was made with this year"), fun _ _ _ _ _ _ q => q _, pss_cons (ps_expr (pe_baseInit tx.base rfl (pa_cons (pe_var (i := 0) rfl (Or.inl rfl) (by decide) (by decide)) (pa_cons pe_str pa_nil)) (by decide) (by rfl) (by rfl) (by rfl))) (pss_one (ps_ost (pe_var (i := 0) rfl (Or.inl rfl) (by decide) (by decide)) (pe_var (i := 1) rfl (Or.inl rfl) (by decide) (by decide))))⟩
abbrev s_xBadName : Stmt := (inClass (top 20) 0)
theorem sc_xBadName : FnScope ["self", "name"] ["self", "name"] (defScope s_xBadName) := ⟨rfl, rfl, rfl, by decide +kernel, rfl, by decide +kernel, by decide +kernel⟩
theorem ok_xBadName {f : Addr} {fd : FuncData} (F : Fun K "__init__" "BadName.__init__" s_xBadName f fd) (tx : Txt K mg g.cl) : FnOk P w K mg base (L2.CX P w) 1 f fd ["self", "name"] (spXH K "name" GoodV) :=
  exinitH_ok F sc_xBadName tx.base fun cdv A outer s H E hr => ⟨tC (.str "not a name"), fun _ _ _ _ _ _ q => q _, pss_cons (ps_expr (pe_baseInit tx.base rfl (pa_cons (pe_var (i := 0) rfl (Or.inl rfl) (by decide) (by decide)) (pa_cons pe_str pa_nil)) (by decide) (by rfl) (by rfl) (by rfl))) (pss_one (ps_ost (pe_var (i := 0) rfl (Or.inl rfl) (by decide) (by decide)) (pe_var (i := 1) rfl (Or.inl rfl) (by decide) (by decide))))⟩
abbrev s_xNameTaken : Stmt := (inClass (top 19) 0)
theorem sc_xNameTaken : FnScope ["self", "name"] ["self", "name"] (defScope s_xNameTaken) := ⟨rfl, rfl, rfl, by decide +kernel, rfl, by decide +kernel, by decide +kernel⟩
theorem ok_xNameTaken {f : Addr} {fd : FuncData} (F : Fun K "__init__" "NameTaken.__init__" s_xNameTaken f fd) (tx : Txt K mg g.cl) : FnOk P w K mg base (L2.CX P w) 1 f fd ["self", "name"] (spXH K "name" GoodV) :=
  exinitH_ok F sc_xNameTaken tx.base fun cdv A outer s H E hr => ⟨tC (.str "a policy has this name"), fun _ _ _ _ _ _ q => q _, pss_cons (ps_expr (pe_baseInit tx.base rfl (pa_cons (pe_var (i := 0) rfl (Or.inl rfl) (by decide) (by decide)) (pa_cons pe_str pa_nil)) (by decide) (by rfl) (by rfl) (by rfl))) (pss_one (ps_ost (pe_var (i := 0) rfl (Or.inl rfl) (by decide) (by decide)) (pe_var (i := 1) rfl (Or.inl rfl) (by decide) (by decide))))⟩
abbrev s_xNoPolicy : Stmt := (inClass (top 18) 0)
theorem sc_xNoPolicy : FnScope ["self", "name"] ["self", "name"] (defScope s_xNoPolicy) := ⟨rfl, rfl, rfl, by decide +kernel, rfl, by decide +kernel, by decide +kernel⟩
theorem ok_xNoPolicy {f : Addr} {fd : FuncData} (F : Fun K "__init__" "NoPolicy.__init__" s_xNoPolicy f fd) (tx : Txt K mg g.cl) : FnOk P w K mg base (L2.CX P w) 1 f fd ["self", "name"] (spXH K "name" GoodV) :=
  exinitH_ok F sc_xNoPolicy tx.base fun cdv A outer s H E hr => ⟨tC (.str "no policy with this name"), fun _ _ _ _ _ _ q => q _, pss_cons (ps_expr (pe_baseInit tx.base rfl (pa_cons (pe_var (i := 0) rfl (Or.inl rfl) (by decide) (by decide)) (pa_cons pe_str pa_nil)) (by decide) (by rfl) (by rfl) (by rfl))) (pss_one (ps_ost (pe_var (i := 0) rfl (Or.inl rfl) (by decide) (by decide)) (pe_var (i := 1) rfl (Or.inl rfl) (by decide) (by decide))))⟩
abbrev s__law_bag : Stmt := (top 23)
theorem sc__law_bag : FnScope ["_law_script"] ["_law_script"] (defScope s__law_bag) := ⟨rfl, rfl, rfl, by decide +kernel, rfl, by decide +kernel, by decide +kernel⟩
theorem ok__law_bag {f : Addr} {fd : FuncData} (F : Fun K "_law_bag" "_law_bag" s__law_bag f fd) (tx : Txt K mg g.cl) (hph : ∀ Γ, g.ph Γ) {scA : Option Addr} {scN : List Int} (hS : ScrOk K g scA scN)  : FnOk P w K mg base (L2.CX P w) 1 f fd ["_law_script"] (spOf g [false] (m__law_bag scA scN)) :=
  def_ok hph (k := 0) [] F sc__law_bag [false] rfl (keep_of rfl) fun cdv A outer s H E hr cx => show QSs _ g _ _ (defBody s__law_bag) (b__law_bag scA scN) from
    (sdb_one (sds_ret (sd_lst (sda_cons (sd_callTy (bu_listS hS) (sda_cons (sd_var 0) sda_nil) tx.b_list) (sda_cons sd_int (sda_cons sd_int (sda_cons sd_int (sda_cons sd_int sda_nil))))))))
abbrev s__law_errors : Stmt := (top 27)
theorem sc__law_errors : FnScope ["_law_part", "_law_found"] ["_law_part"] (defScope s__law_errors) := ⟨rfl, rfl, rfl, by decide +kernel, rfl, by decide +kernel, by decide +kernel⟩
theorem ok__law_errors {f : Addr} {fd : FuncData} (F : Fun K "_law_errors" "_law_errors" s__law_errors f fd) (tx : Txt K mg g.cl) (hph : ∀ Γ, g.ph Γ) (h_xBadClaims : DxH P w K mg base (g.cl 111) "BadClaims" "claims") (h_xBadName : DxH P w K mg base (g.cl 117) "BadName" "name") (h_xBadYears : DxH P w K mg base (g.cl 113) "BadYears" "years") (h_xBilled : DxH P w K mg base (g.cl 115) "Billed" "year") (h_xNameTaken : DxH P w K mg base (g.cl 118) "NameTaken" "name") (h_xNoClass : DxH P w K mg base (g.cl 110) "NoClass" "at") (h_xNoPlace : DxH P w K mg base (g.cl 114) "NoPlace" "place") (h_xNoPolicy : DxH P w K mg base (g.cl 119) "NoPolicy" "name") (h_xNotBilled : DxH P w K mg base (g.cl 116) "NotBilled" "year") (h_xTooMany : DxH P w K mg base (g.cl 112) "TooMany" "count") : FnOk P w K mg base (L2.CX P w) 3 f fd ["_law_part"] (spErr (csE g.cl)) := by
  refine F.okX (k := 2) sc__law_errors (fun vs H Q E h => by obtain ⟨v, rfl, _⟩ := h; rfl) fun cdv A outer s H vs Q E hr h => ?_
  obtain ⟨v, rfl⟩ : ∃ v, vs = [v] := by obtain ⟨v, rfl, _⟩ := h; exact ⟨_, rfl⟩
  exact ⟨_, (pss_cons (ps_set (i := 1) sc__law_errors.nd rfl (Or.inl rfl) (pe_lst (pa_x0 tx.e0_BadPremiums tx.g_BadPremiums (pa_x0 tx.e0_BadTable tx.g_BadTable (pa_x0 tx.e0_BadSteps tx.g_BadSteps (pa_x0 tx.e0_BadOrder tx.g_BadOrder (pa_x0 tx.e0_BadRows tx.g_BadRows (pa_x0 tx.e0_BadDamages tx.g_BadDamages (pa_x0 tx.e0_BadHouses tx.g_BadHouses (pa_x0 tx.e0_BadWays tx.g_BadWays pa_xnil)))))))))) (pss_cons (ps_set (i := 1) sc__law_errors.nd rfl (Or.inl rfl) (pe_op op_cat (pe_var (i := 1) rfl (Or.inl rfl) (by decide) (by decide)) (pe_lst (pa_x0 tx.e0_BadPlan tx.g_BadPlan (pa_x0 tx.e0_NothingToUndo tx.g_NothingToUndo (pa_x1 h_xNoClass hr passL (pa_x1 h_xBadClaims hr passL (pa_x1 h_xTooMany hr passL (pa_x1 h_xBadYears hr passL pa_xnil))))))))) (pss_cons (ps_set (i := 1) sc__law_errors.nd rfl (Or.inl rfl) (pe_op op_cat (pe_var (i := 1) rfl (Or.inl rfl) (by decide) (by decide)) (pe_lst (pa_x1 h_xNoPlace hr passL (pa_x1 h_xBilled hr passL (pa_x1 h_xNotBilled hr passL (pa_x1 h_xBadName hr passL (pa_x1 h_xNameTaken hr passL (pa_x1 h_xNoPolicy hr passL pa_xnil))))))))) (pss_one (ps_ret (pe_var (i := 1) rfl (Or.inl rfl) (by decide) (by decide))))))), xerr_ok (c0 := [(g.cl 100, none), (g.cl 101, none), (g.cl 102, none), (g.cl 103, none), (g.cl 104, none), (g.cl 105, none), (g.cl 106, none), (g.cl 107, none)]) (css := [[(g.cl 108, none), (g.cl 109, none), (g.cl 110, some "at"), (g.cl 111, some "claims"), (g.cl 112, some "count"), (g.cl 113, some "years")], [(g.cl 114, some "place"), (g.cl 115, some "year"), (g.cl 116, some "year"), (g.cl 117, some "name"), (g.cl 118, some "name"), (g.cl 119, some "name")]]) (E := E) (by simp) rfl h⟩
abbrev s__law_draw : Stmt := (top 24)
theorem sc__law_draw : FnScope ["_law_bag_here", "_law_size", "_law_cell", "_law_digit", "_law_mixed_here"] ["_law_bag_here", "_law_size"] (defScope s__law_draw) := ⟨rfl, rfl, rfl, by decide +kernel, rfl, by decide +kernel, by decide +kernel⟩
theorem ok__law_draw {f : Addr} {fd : FuncData} (F : Fun K "_law_draw" "_law_draw" s__law_draw f fd) (tx : Txt K mg g.cl) (hph : ∀ Γ, g.ph Γ)  : FnOk P w K mg base (L2.CX P w) 1 f fd ["_law_bag_here", "_law_size"] (spOf g [true, false] (m__law_draw)) :=
  def_ok hph (k := 0) [0, 7, 0, 0, 0, 8, 0, 9, 9] F sc__law_draw [true, false] rfl (keep_of rfl) fun cdv A outer s H E hr cx => show QSs _ g _ _ (defBody s__law_draw) (b__law_draw) from
    (sdb_cons (sds_setAt cx.toCxE (sd_op bm_add (sd_ix cx.toCxE (sd_var 0) sd_int) sd_int) (sdp_var 0) sd_int) (sdb_cons (sds_if (sdt_w (sdw_and (sdt_cmp (cm_eq cx.toCxE) (sd_ix cx.toCxE (sd_var 0) sd_int) sd_int) (sdw_and1 (sdt_cmp cm_lt (sd_ix cx.toCxE (sd_var 0) sd_int) (sd_callB (bu_len) (sda_cons (sd_ix cx.toCxE (sd_var 0) sd_int) sda_nil) tx.b_len))))) (sdb_cons (sds_set true 2 cx.nd (sd_ix cx.toCxE (sd_ix cx.toCxE (sd_var 0) sd_int) (sd_ix cx.toCxE (sd_var 0) sd_int))) (sdb_cons (sds_setAt cx.toCxE (sd_op bm_add (sd_ix cx.toCxE (sd_var 0) sd_int) sd_int) (sdp_var 0) sd_int) (sdb_cons (sds_setAt cx.toCxE (sd_op bm_mul (sd_op bm_add (sd_op bm_mul sd_int (sd_callB (bu_abs) (sda_cons (sd_var 2) sda_nil) tx.b_abs)) (sd_callTy (bu_int) (sda_cons (sd_cmp cm_lt (sd_var 2) sd_int) sda_nil) tx.b_int)) (sd_callTy (bu_int) (sda_cons (sd_cmp cm_ge (sd_callB (bu_abs) (sda_cons (sd_var 2) sda_nil) tx.b_abs) (sd_op bm_pow sd_int sd_int)) sda_nil) tx.b_int)) (sdp_var 0) sd_int) (sdb_one (sds_setAt cx.toCxE (sd_op bm_mod (sd_callTy (bu_int) (sda_cons (sd_op bm_add (sd_op bm_add (sd_op bm_mul (sd_ix cx.toCxE (sd_var 0) sd_int) sd_int) (sd_op bm_mul (sd_var 2) sd_int)) sd_int) sda_nil) tx.b_int) sd_int) (sdp_var 0) sd_int))))) sdb_nil) (sdb_cons (sds_set true 3 cx.nd (sd_op bm_mod (sd_callTy (bu_int) (sda_cons (sd_ix cx.toCxE (sd_var 0) sd_int) sda_nil) tx.b_int) (sd_var 1))) (sdb_cons (sds_if (sdt_cmp cm_gt (sd_ix cx.toCxE (sd_var 0) sd_int) sd_int) (sdb_cons (sds_setAt cx.toCxE (sd_op bm_fdiv (sd_ix cx.toCxE (sd_var 0) sd_int) (sd_var 1)) (sdp_var 0) sd_int) (sdb_one (sds_ret (sd_var 3)))) sdb_nil) (sdb_cons (sds_set true 4 cx.nd (sd_op bm_mod (sd_callTy (bu_int) (sda_cons (sd_op bm_add (sd_ix cx.toCxE (sd_var 0) sd_int) (sd_op bm_mul (sd_ix cx.toCxE (sd_var 0) sd_int) sd_int)) sda_nil) tx.b_int) sd_int)) (sdb_cons (sds_set true 4 cx.nd (sd_op bm_mod (sd_callTy (bu_int) (sda_cons (sd_op bm_add (sd_op bm_add (sd_op bm_pow (sd_var 4) sd_int) (sd_op bm_mul (sd_ix cx.toCxE (sd_var 0) sd_int) sd_int)) sd_int) sda_nil) tx.b_int) sd_int)) (sdb_one (sds_ret (sd_op bm_mod (sd_op bm_fdiv (sd_op bm_mod (sd_callTy (bu_int) (sda_cons (sd_op bm_pow (sd_var 4) sd_int) sda_nil) tx.b_int) sd_int) sd_int) (sd_var 1))))))))))
abbrev s__law_mixed : Stmt := (top 25)
theorem sc__law_mixed : FnScope ["_law_bag_here", "_law_items", "_law_left", "_law_found", "_law_k"] ["_law_bag_here", "_law_items"] (defScope s__law_mixed) := ⟨rfl, rfl, rfl, by decide +kernel, rfl, by decide +kernel, by decide +kernel⟩
theorem ok__law_mixed {f : Addr} {fd : FuncData} (F : Fun K "_law_mixed" "_law_mixed" s__law_mixed f fd) (tx : Txt K mg g.cl) (hph : ∀ Γ, g.ph Γ) (h__law_draw : Df P w K mg base g "_law_draw" ["_law_bag_here", "_law_size"] 1 [true, false] m__law_draw) : FnOk P w K mg base (L2.CX P w) 2 f fd ["_law_bag_here", "_law_items"] (spOf g [true, false] (m__law_mixed)) :=
  def_ok hph (k := 1) [7, 8, 9, 0, 2, 3, 3] F sc__law_mixed [true, false] rfl (keep_of rfl) fun cdv A outer s H E hr cx => show QSs _ g _ _ (defBody s__law_mixed) (b__law_mixed) from
    (sdb_cons (sds_set false 2 cx.nd (sd_callTy (bu_list cx.toCxE) (sda_cons (sd_var 1) sda_nil) tx.b_list)) (sdb_cons (sds_set false 3 cx.nd (sd_lst sda_nil)) (sdb_cons (sds_for cx (sdi_rng1 (sda_cons (sd_callB (bu_len) (sda_cons (sd_var 1) sda_nil) tx.b_len) sda_nil) tx.b_range) (sdg_name true 4 cx.nd) (sdb_one (sds_expr (sd_append (sdp_var 3) (sda_cons (sd_popAt (sdp_var 2) (sda_cons (sd_call (rs := [some 0, none]) cx.toCxE h__law_draw (hr.mono (by decide)) (sdc_ref 0 (sdc_val (sd_callB (bu_len) (sda_cons (sd_var 2) sda_nil) tx.b_len) sdc_nil))) sda_nil)) sda_nil))))) (sdb_one (sds_ret (sd_mv 3))))))
abbrev s__law_parts : Stmt := (top 28)
theorem sc__law_parts : FnScope ["_law_errors_here", "_law_found"] ["_law_errors_here"] (defScope s__law_parts) := ⟨rfl, rfl, rfl, by decide +kernel, rfl, by decide +kernel, by decide +kernel⟩
theorem ok__law_parts {f : Addr} {fd : FuncData} (F : Fun K "_law_parts" "_law_parts" s__law_parts f fd) (tx : Txt K mg g.cl) (hph : ∀ Γ, g.ph Γ)  : FnOk P w K mg base (L2.CX P w) 1 f fd ["_law_errors_here"] (spPrt K (csJ g.cl)) := by
  refine F.okX (k := 0) sc__law_parts (fun vs H Q E h => by obtain ⟨l, as, v, rfl, _⟩ := h; rfl) fun cdv A outer s H vs Q E hr h => ?_
  obtain ⟨v, rfl⟩ : ∃ v, vs = [v] := by obtain ⟨l, as, v, rfl, _⟩ := h; exact ⟨_, rfl⟩
  exact ⟨_, (pss_cons (ps_set (i := 1) sc__law_parts.nd rfl (Or.inl rfl) (pe_lst (pa_at (C := g.cl 110) (j := 10) (pa_at (C := g.cl 111) (j := 11) (pa_at (C := g.cl 112) (j := 12) (pa_at (C := g.cl 113) (j := 13) (pa_at (C := g.cl 114) (j := 14) pa_atnil))))))) (pss_one (ps_ret (pe_op op_cat (pe_var (i := 1) rfl (Or.inl rfl) (by decide) (by decide)) (pe_lst (pa_at (C := g.cl 115) (j := 15) (pa_at (C := g.cl 116) (j := 16) (pa_at (C := g.cl 117) (j := 17) (pa_at (C := g.cl 118) (j := 18) (pa_at (C := g.cl 119) (j := 19) pa_atnil)))))))))), xprt_ok (j1 := [(10, g.cl 110, "at"), (11, g.cl 111, "claims"), (12, g.cl 112, "count"), (13, g.cl 113, "years"), (14, g.cl 114, "place")]) (j2 := [(15, g.cl 115, "year"), (16, g.cl 116, "year"), (17, g.cl 117, "name"), (18, g.cl 118, "name"), (19, g.cl 119, "name")]) (E := E) (by simp) rfl h⟩
abbrev s__law_kinds : Stmt := (top 26)
theorem sc__law_kinds : FnScope ["_law_error", "_law_found"] ["_law_error"] (defScope s__law_kinds) := ⟨rfl, rfl, rfl, by decide +kernel, rfl, by decide +kernel, by decide +kernel⟩
theorem ok__law_kinds {f : Addr} {fd : FuncData} (F : Fun K "_law_kinds" "_law_kinds" s__law_kinds f fd) (tx : Txt K mg g.cl) (hph : ∀ Γ, g.ph Γ)  : FnOk P w K mg base (L2.CX P w) 1 f fd ["_law_error"] (spKnd K (csD g.cl)) := by
  refine F.okX (k := 0) sc__law_kinds (fun vs H Q E h => by obtain ⟨a, C, fv, bs, rfl, _⟩ := h; rfl) fun cdv A outer s H vs Q E hr h => ?_
  obtain ⟨v, rfl⟩ : ∃ v, vs = [v] := by obtain ⟨a, C, fv, bs, rfl, _⟩ := h; exact ⟨_, rfl⟩
  exact ⟨_, (pss_cons (ps_set (i := 1) sc__law_kinds.nd rfl (Or.inl rfl) (pe_lst (pa_is (pa_is (pa_is pa_isnil tx.g_BadSteps tx.b_isinstance) tx.g_BadTable tx.b_isinstance) tx.g_BadPremiums tx.b_isinstance))) (pss_cons (ps_set (i := 1) sc__law_kinds.nd rfl (Or.inl rfl) (pe_op op_cat (pe_var (i := 1) rfl (Or.inl rfl) (by decide) (by decide)) (pe_lst (pa_is (pa_is (pa_is pa_isnil tx.g_BadDamages tx.b_isinstance) tx.g_BadRows tx.b_isinstance) tx.g_BadOrder tx.b_isinstance)))) (pss_cons (ps_set (i := 1) sc__law_kinds.nd rfl (Or.inl rfl) (pe_op op_cat (pe_var (i := 1) rfl (Or.inl rfl) (by decide) (by decide)) (pe_lst (pa_is (pa_is (pa_is pa_isnil tx.g_BadPlan tx.b_isinstance) tx.g_BadWays tx.b_isinstance) tx.g_BadHouses tx.b_isinstance)))) (pss_cons (ps_set (i := 1) sc__law_kinds.nd rfl (Or.inl rfl) (pe_op op_cat (pe_var (i := 1) rfl (Or.inl rfl) (by decide) (by decide)) (pe_lst (pa_is (pa_is (pa_is pa_isnil tx.g_BadClaims tx.b_isinstance) tx.g_NoClass tx.b_isinstance) tx.g_NothingToUndo tx.b_isinstance)))) (pss_cons (ps_set (i := 1) sc__law_kinds.nd rfl (Or.inl rfl) (pe_op op_cat (pe_var (i := 1) rfl (Or.inl rfl) (by decide) (by decide)) (pe_lst (pa_is (pa_is (pa_is pa_isnil tx.g_NoPlace tx.b_isinstance) tx.g_BadYears tx.b_isinstance) tx.g_TooMany tx.b_isinstance)))) (pss_cons (ps_set (i := 1) sc__law_kinds.nd rfl (Or.inl rfl) (pe_op op_cat (pe_var (i := 1) rfl (Or.inl rfl) (by decide) (by decide)) (pe_lst (pa_is (pa_is (pa_is pa_isnil tx.g_BadName tx.b_isinstance) tx.g_NotBilled tx.b_isinstance) tx.g_Billed tx.b_isinstance)))) (pss_cons (ps_set (i := 1) sc__law_kinds.nd rfl (Or.inl rfl) (pe_op op_cat (pe_var (i := 1) rfl (Or.inl rfl) (by decide) (by decide)) (pe_lst (pa_is (pa_is pa_isnil tx.g_NoPolicy tx.b_isinstance) tx.g_NameTaken tx.b_isinstance)))) (pss_one (ps_ret (pe_var (i := 1) rfl (Or.inl rfl) (by decide) (by decide))))))))))), xknd_ok (c0 := [g.cl 100, g.cl 101, g.cl 102]) (css := [[g.cl 103, g.cl 104, g.cl 105], [g.cl 106, g.cl 107, g.cl 108], [g.cl 109, g.cl 110, g.cl 111], [g.cl 112, g.cl 113, g.cl 114], [g.cl 115, g.cl 116, g.cl 117], [g.cl 118, g.cl 119]]) (E := E) (by simp) rfl h⟩
abbrev s_law : Stmt := (top 29)
theorem sc_law : FnScope ["_law_script", "_law_bag_here", "_law_turn", "_law_part", "_law_errors_here", "_law_spot", "_law_k"] ["_law_script"] (defScope s_law) := ⟨rfl, rfl, rfl, by decide +kernel, rfl, by decide +kernel, by decide +kernel⟩
theorem ok_law {f : Addr} {fd : FuncData} (F : Fun K "law" "law" s_law f fd) (tx : Txt K mg g.cl) (hph : ∀ Γ, g.ph Γ) {scA : Option Addr} {scN : List Int} (h__law_bag : Df P w K mg base g "_law_bag" ["_law_script"] 1 [false] (m__law_bag scA scN)) (h__law_errors : DEr P w K mg base "_law_errors" 3 (spErr (csE g.cl))) (h__law_mixed : Df P w K mg base g "_law_mixed" ["_law_bag_here", "_law_items"] 2 [true, false] m__law_mixed) (h__law_draw : Df P w K mg base g "_law_draw" ["_law_bag_here", "_law_size"] 1 [true, false] m__law_draw) (h__law_parts : DEr P w K mg base "_law_parts" 1 (spPrt K (csJ g.cl))) (h__law_kinds : DEr P w K mg base "_law_kinds" 1 (spKnd K (csD g.cl))) : FnOk P w K mg base (L2.CX P w) 4 f fd ["_law_script"] (spOf g [false] (m_law scA scN)) :=
  def_ok hph (k := 3) [8, 9, 1, 1, 10, 11, 1, 12, 6] F sc_law [false] rfl (keep_of rfl) fun cdv A outer s H E hr cx => show QSs _ g _ _ (defBody s_law) (b_law scA scN) from
    (sdb_cons (sds_set false 1 cx.nd (sd_call (rs := [none]) cx.toCxE h__law_bag (hr.mono (by decide)) (sdc_val (sd_var 0) sdc_nil))) (sdb_cons (sds_for cx (sdi_rng1 (sda_cons sd_int sda_nil) tx.b_range) (sdg_name true 2 cx.nd) (sdb_cons (sds_set true 3 cx.nd (sd_ix cx.toCxE (sd_lst (sda_cons sd_int (sda_cons (sd_neg sd_int) (sda_cons (sd_op bm_pow sd_int sd_int) (sda_cons sd_str (sda_cons sd_str (sda_cons sd_non (sda_cons (sd_tup (sda_cons sd_int (sda_cons sd_int sda_nil))) (sda_cons (sd_call (rs := [some 1, none]) cx.toCxE h__law_draw (hr.mono (by decide)) (sdc_ref 1 (sdc_val sd_int sdc_nil))) sda_nil))))))))) (sd_call (rs := [some 1, none]) cx.toCxE h__law_draw (hr.mono (by decide)) (sdc_ref 1 (sdc_val sd_int sdc_nil))))) (sds_mkX [4] 3 4 hph cx.toCxE h__law_errors (hr.mono (by decide)) rfl (fun asX tX => (sdb_cons (sds_for cx (sdi_list (sd_call (rs := [some 1, none]) cx.toCxE (h__law_mixed.ph _) (hr.mono (by decide)) (sdc_ref 1 (sdc_val (sd_lstRg1 cx.toCxE (sd_callB (bu_len) (sda_cons (sd_var 4) sda_nil) tx.b_len) tx.b_list tx.b_range) sdc_nil)))) (sdg_name true 5 cx.nd) (sdb_cons (sds_if (sdt_cmp (cm_ne cx.toCxE) (sd_callX h__law_kinds (hr.mono (by decide)) (cam_knd tx.kitR) (sda_cons (sd_ix cx.toCxE (sd_var 4) (sd_var 5)) sda_nil)) (sd_lc [("_law_k", 6)] cx.toCxE (sdi_rng1 (sda_cons sd_int sda_nil) tx.b_range) (blkOk_by rfl) (fun _ _ _ _ _ cx1 => (sdg_name true 6 cx1.nd)) (fun _ _ _ _ _ cx1 => sdts_nil) (fun _ _ _ _ _ cx1 => (sd_cmp (cm_eq cx1) (sd_var 6) (sd_var 5))))) (sdb_one (sds_ret sd_bl)) sdb_nil) (sdb_one (sds_if (sdt_w (sdw_or (sdt_not (sdt_val (sd_isXC (sd_ix cx.toCxE (sd_var 4) (sd_var 5)) (pe_glob (v := .ref (baseA mg)) rfl tx.base.gl rfl) (fun _ h => h) tx.bseR tx.b_isinstance))) (sdw_or1 (sdt_not (sdt_val (sd_isXC (sd_ix cx.toCxE (sd_var 4) (sd_var 5)) (pe_bltn (v := .ty "ValueError") rfl tx.b_ValueError PyProof.Rows.Boot.«ValueError» rfl) (fun _ h => h) tx.vleR tx.b_isinstance)))))) (sdb_one (sds_ret sd_bl)) sdb_nil)))) (sdb_one (sds_if (sdt_cmp (cm_ne cx.toCxE) (sd_callX h__law_parts (hr.mono (by decide)) (cam_prt tx.prtR rfl) (sda_cons (sd_var 4) sda_nil)) (sd_op bm_rep (sd_lst (sda_cons (sd_var 3) sda_nil)) sd_int)) (sdb_one (sds_ret sd_bl)) sdb_nil))))))) (sdb_one (sds_ret (sd_not (sd_callB (bu_any cx.toCxE) (sda_cons (sd_kn0 h__law_kinds (hr.mono (by decide)) tx.e0B tx.base.gl tx.xcB tx.kB) sda_nil) tx.b_any))))))
end
end Law
end
section
namespace Law
open PySem L2 Lin
set_option maxHeartbeats 0 in
theorem all_mk {l : PySem.W.OpenLaw} {w : World} {K : PySem.W.Frag} {h : Heap} {mg : Str → Option Value} {fa  f0 f1 f2 f3 f4 f5 f6 f110 f111 f112 f113 f114 f115 f116 f117 f118 f119 : Addr} (X : K.In h) (G : h.Ns mainGlobals mg) (hfa : mg "law" = some (.ref fa)) {od0 an0 od1 an1 od2 an2 od3 an3 od4 an4 od5 an5 od6 an6 od110 an110 od111 an111 od112 an112 od113 an113 od114 an114 od115 an115 od116 an116 od117 an117 od118 an118 od119 an119 : Option Addr} {sl0 sl1 sl2 sl3 sl4 sl5 sl6 sl110 sl111 sl112 sl113 sl114 sl115 sl116 sl117 sl118 sl119 : Array (Option Value)} {oc0 kV0 dc0 pm0 cd0 ct0 oc1 kV1 dc1 pm1 cd1 ct1 oc2 kV2 dc2 pm2 cd2 ct2 oc3 kV3 dc3 pm3 cd3 ct3 oc4 kV4 dc4 pm4 cd4 ct4 oc5 kV5 dc5 pm5 cd5 ct5 oc6 kV6 dc6 pm6 cd6 ct6 oc110 kV110 dc110 pm110 cd110 ct110 oc111 kV111 dc111 pm111 cd111 ct111 oc112 kV112 dc112 pm112 cd112 ct112 oc113 kV113 dc113 pm113 cd113 ct113 oc114 kV114 dc114 pm114 cd114 ct114 oc115 kV115 dc115 pm115 cd115 ct115 oc116 kV116 dc116 pm116 cd116 ct116 oc117 kV117 dc117 pm117 cd117 ct117 oc118 kV118 dc118 pm118 cd118 ct118 oc119 kV119 dc119 pm119 cd119 ct119 : Value} {CB : Addr} {C100 C101 C102 C103 C104 C105 C106 C107 C108 C109 C110 C111 C112 C113 C114 C115 C116 C117 C118 C119 : Addr} {nm110 qn110 : Str} {nn110 : Addr} {bs110 bm110 : List Value} {sn110 : List Str} {sub110 : _} {ab110 : _} {col110 : _} {xd110 : _} {ka110 kb110 kc110 kd110 ke110 : _} {nm111 qn111 : Str} {nn111 : Addr} {bs111 bm111 : List Value} {sn111 : List Str} {sub111 : _} {ab111 : _} {col111 : _} {xd111 : _} {ka111 kb111 kc111 kd111 ke111 : _} {nm112 qn112 : Str} {nn112 : Addr} {bs112 bm112 : List Value} {sn112 : List Str} {sub112 : _} {ab112 : _} {col112 : _} {xd112 : _} {ka112 kb112 kc112 kd112 ke112 : _} {nm113 qn113 : Str} {nn113 : Addr} {bs113 bm113 : List Value} {sn113 : List Str} {sub113 : _} {ab113 : _} {col113 : _} {xd113 : _} {ka113 kb113 kc113 kd113 ke113 : _} {nm114 qn114 : Str} {nn114 : Addr} {bs114 bm114 : List Value} {sn114 : List Str} {sub114 : _} {ab114 : _} {col114 : _} {xd114 : _} {ka114 kb114 kc114 kd114 ke114 : _} {nm115 qn115 : Str} {nn115 : Addr} {bs115 bm115 : List Value} {sn115 : List Str} {sub115 : _} {ab115 : _} {col115 : _} {xd115 : _} {ka115 kb115 kc115 kd115 ke115 : _} {nm116 qn116 : Str} {nn116 : Addr} {bs116 bm116 : List Value} {sn116 : List Str} {sub116 : _} {ab116 : _} {col116 : _} {xd116 : _} {ka116 kb116 kc116 kd116 ke116 : _} {nm117 qn117 : Str} {nn117 : Addr} {bs117 bm117 : List Value} {sn117 : List Str} {sub117 : _} {ab117 : _} {col117 : _} {xd117 : _} {ka117 kb117 kc117 kd117 ke117 : _} {nm118 qn118 : Str} {nn118 : Addr} {bs118 bm118 : List Value} {sn118 : List Str} {sub118 : _} {ab118 : _} {col118 : _} {xd118 : _} {ka118 kb118 kc118 kd118 ke118 : _} {nm119 qn119 : Str} {nn119 : Addr} {bs119 bm119 : List Value} {sn119 : List Str} {sub119 : _} {ab119 : _} {col119 : _} {xd119 : _} {ka119 kb119 kc119 kd119 ke119 : _}
    (a0 : PySem.W.nsIn K mainGlobals "_law_bag" = some (some (.ref f0)))
    (l0 : K.lookup f0 = some ⟨oc0, od0, .func (PySem.W.fnOf "_law_bag" "_law_bag" (defArgs s__law_bag) (defBody s__law_bag) (defScope s__law_bag) .none kV0 dc0 pm0 an0 cd0 ct0), sl0⟩)
    (c0 : PySem.W.codeIn K cd0 "_law_bag" = true)
    (k0 : PySem.W.keepIn K (.ref f0) = true)
    (a1 : PySem.W.nsIn K mainGlobals "_law_errors" = some (some (.ref f1)))
    (l1 : K.lookup f1 = some ⟨oc1, od1, .func (PySem.W.fnOf "_law_errors" "_law_errors" (defArgs s__law_errors) (defBody s__law_errors) (defScope s__law_errors) .none kV1 dc1 pm1 an1 cd1 ct1), sl1⟩)
    (c1 : PySem.W.codeIn K cd1 "_law_errors" = true)
    (k1 : PySem.W.keepIn K (.ref f1) = true)
    (a2 : PySem.W.nsIn K mainGlobals "_law_draw" = some (some (.ref f2)))
    (l2 : K.lookup f2 = some ⟨oc2, od2, .func (PySem.W.fnOf "_law_draw" "_law_draw" (defArgs s__law_draw) (defBody s__law_draw) (defScope s__law_draw) .none kV2 dc2 pm2 an2 cd2 ct2), sl2⟩)
    (c2 : PySem.W.codeIn K cd2 "_law_draw" = true)
    (k2 : PySem.W.keepIn K (.ref f2) = true)
    (a3 : PySem.W.nsIn K mainGlobals "_law_mixed" = some (some (.ref f3)))
    (l3 : K.lookup f3 = some ⟨oc3, od3, .func (PySem.W.fnOf "_law_mixed" "_law_mixed" (defArgs s__law_mixed) (defBody s__law_mixed) (defScope s__law_mixed) .none kV3 dc3 pm3 an3 cd3 ct3), sl3⟩)
    (c3 : PySem.W.codeIn K cd3 "_law_mixed" = true)
    (k3 : PySem.W.keepIn K (.ref f3) = true)
    (a4 : PySem.W.nsIn K mainGlobals "_law_parts" = some (some (.ref f4)))
    (l4 : K.lookup f4 = some ⟨oc4, od4, .func (PySem.W.fnOf "_law_parts" "_law_parts" (defArgs s__law_parts) (defBody s__law_parts) (defScope s__law_parts) .none kV4 dc4 pm4 an4 cd4 ct4), sl4⟩)
    (c4 : PySem.W.codeIn K cd4 "_law_parts" = true)
    (k4 : PySem.W.keepIn K (.ref f4) = true)
    (a5 : PySem.W.nsIn K mainGlobals "_law_kinds" = some (some (.ref f5)))
    (l5 : K.lookup f5 = some ⟨oc5, od5, .func (PySem.W.fnOf "_law_kinds" "_law_kinds" (defArgs s__law_kinds) (defBody s__law_kinds) (defScope s__law_kinds) .none kV5 dc5 pm5 an5 cd5 ct5), sl5⟩)
    (c5 : PySem.W.codeIn K cd5 "_law_kinds" = true)
    (k5 : PySem.W.keepIn K (.ref f5) = true)
    (a6 : PySem.W.nsIn K mainGlobals "law" = some (some (.ref f6)))
    (l6 : K.lookup f6 = some ⟨oc6, od6, .func (PySem.W.fnOf "law" "law" (defArgs s_law) (defBody s_law) (defScope s_law) .none kV6 dc6 pm6 an6 cd6 ct6), sl6⟩)
    (c6 : PySem.W.codeIn K cd6 "law" = true)
    (k6 : PySem.W.keepIn K (.ref f6) = true)
    (b_ValueError : PySem.W.nsIn K mainGlobals "ValueError" = some none)
    (b_abs : PySem.W.nsIn K mainGlobals "abs" = some none)
    (b_any : PySem.W.nsIn K mainGlobals "any" = some none)
    (b_int : PySem.W.nsIn K mainGlobals "int" = some none)
    (b_isinstance : PySem.W.nsIn K mainGlobals "isinstance" = some none)
    (b_len : PySem.W.nsIn K mainGlobals "len" = some none)
    (b_list : PySem.W.nsIn K mainGlobals "list" = some none)
    (b_range : PySem.W.nsIn K mainGlobals "range" = some none)
    (aB : PySem.W.nsIn K mainGlobals "ClaimError" = some (some (.ref CB)))
    (gB : PySem.W.specialIn K (.ref CB) "__getattribute__" = some (some (.builtin "type.__getattribute__")))
    (rB : PySem.W.readsIn K CB (.type "type") = true)
    (fB : PySem.W.findCls K (.ref CB) (.type "type") "__init__" = some (.val (.builtin "ValueError.__init__")))
    (hdB : PySem.W.hasDictIn K CB = true)
    (tyB : PySem.W.typeIn K (.ref CB) = some (.type "type"))
    (aC100 : PySem.W.nsIn K mainGlobals "BadPremiums" = some (some (.ref C100)))
    (aC101 : PySem.W.nsIn K mainGlobals "BadTable" = some (some (.ref C101)))
    (aC102 : PySem.W.nsIn K mainGlobals "BadSteps" = some (some (.ref C102)))
    (aC103 : PySem.W.nsIn K mainGlobals "BadOrder" = some (some (.ref C103)))
    (aC104 : PySem.W.nsIn K mainGlobals "BadRows" = some (some (.ref C104)))
    (aC105 : PySem.W.nsIn K mainGlobals "BadDamages" = some (some (.ref C105)))
    (aC106 : PySem.W.nsIn K mainGlobals "BadHouses" = some (some (.ref C106)))
    (aC107 : PySem.W.nsIn K mainGlobals "BadWays" = some (some (.ref C107)))
    (aC108 : PySem.W.nsIn K mainGlobals "BadPlan" = some (some (.ref C108)))
    (aC109 : PySem.W.nsIn K mainGlobals "NothingToUndo" = some (some (.ref C109)))
    (aC110 : PySem.W.nsIn K mainGlobals "NoClass" = some (some (.ref C110)))
    (aC111 : PySem.W.nsIn K mainGlobals "BadClaims" = some (some (.ref C111)))
    (aC112 : PySem.W.nsIn K mainGlobals "TooMany" = some (some (.ref C112)))
    (aC113 : PySem.W.nsIn K mainGlobals "BadYears" = some (some (.ref C113)))
    (aC114 : PySem.W.nsIn K mainGlobals "NoPlace" = some (some (.ref C114)))
    (aC115 : PySem.W.nsIn K mainGlobals "Billed" = some (some (.ref C115)))
    (aC116 : PySem.W.nsIn K mainGlobals "NotBilled" = some (some (.ref C116)))
    (aC117 : PySem.W.nsIn K mainGlobals "BadName" = some (some (.ref C117)))
    (aC118 : PySem.W.nsIn K mainGlobals "NameTaken" = some (some (.ref C118)))
    (aC119 : PySem.W.nsIn K mainGlobals "NoPolicy" = some (some (.ref C119)))
    (xs100 : PySem.W.subIn K (.ref C100) (.type "BaseException") = some true)
    (xt100 : PySem.W.typeIn K (.ref C100) = some (.type "type"))
    (xp100 : PySem.W.keepIn K (.ref C100) = true)
    (xe100 : PySem.W.excIn K C100 veB "ValueError.__new__" = true)
    (yg100 : PySem.W.findIn K (.ref C100) "__getattribute__" = some (some (.builtin "BaseException.__getattribute__")))
    (yk100 : PySem.W.findIn K (.ref C100) "__getattr__" = some none)
    (yd100 : PySem.W.hasDictIn K C100 = true)
    (ya100 : PySem.W.findIn K (.ref C100) "__class__" = some (some (.builtin "object.__class__")))
    (ym100 : PySem.W.mroIn K C100 (.type "object") = some true)
    (yo100 : PySem.W.subIn K (.ref C100) (.ref CB) = some true)
    (yv100 : PySem.W.subIn K (.ref C100) (.type "ValueError") = some true)
    (x100_100 : PySem.W.subIn K (.ref C100) (.ref C100) = some true)
    (x100_101 : PySem.W.subIn K (.ref C100) (.ref C101) = some false)
    (x100_102 : PySem.W.subIn K (.ref C100) (.ref C102) = some false)
    (x100_103 : PySem.W.subIn K (.ref C100) (.ref C103) = some false)
    (x100_104 : PySem.W.subIn K (.ref C100) (.ref C104) = some false)
    (x100_105 : PySem.W.subIn K (.ref C100) (.ref C105) = some false)
    (x100_106 : PySem.W.subIn K (.ref C100) (.ref C106) = some false)
    (x100_107 : PySem.W.subIn K (.ref C100) (.ref C107) = some false)
    (x100_108 : PySem.W.subIn K (.ref C100) (.ref C108) = some false)
    (x100_109 : PySem.W.subIn K (.ref C100) (.ref C109) = some false)
    (x100_110 : PySem.W.subIn K (.ref C100) (.ref C110) = some false)
    (x100_111 : PySem.W.subIn K (.ref C100) (.ref C111) = some false)
    (x100_112 : PySem.W.subIn K (.ref C100) (.ref C112) = some false)
    (x100_113 : PySem.W.subIn K (.ref C100) (.ref C113) = some false)
    (x100_114 : PySem.W.subIn K (.ref C100) (.ref C114) = some false)
    (x100_115 : PySem.W.subIn K (.ref C100) (.ref C115) = some false)
    (x100_116 : PySem.W.subIn K (.ref C100) (.ref C116) = some false)
    (x100_117 : PySem.W.subIn K (.ref C100) (.ref C117) = some false)
    (x100_118 : PySem.W.subIn K (.ref C100) (.ref C118) = some false)
    (x100_119 : PySem.W.subIn K (.ref C100) (.ref C119) = some false)
    (xs101 : PySem.W.subIn K (.ref C101) (.type "BaseException") = some true)
    (xt101 : PySem.W.typeIn K (.ref C101) = some (.type "type"))
    (xp101 : PySem.W.keepIn K (.ref C101) = true)
    (xe101 : PySem.W.excIn K C101 veB "ValueError.__new__" = true)
    (yg101 : PySem.W.findIn K (.ref C101) "__getattribute__" = some (some (.builtin "BaseException.__getattribute__")))
    (yk101 : PySem.W.findIn K (.ref C101) "__getattr__" = some none)
    (yd101 : PySem.W.hasDictIn K C101 = true)
    (ya101 : PySem.W.findIn K (.ref C101) "__class__" = some (some (.builtin "object.__class__")))
    (ym101 : PySem.W.mroIn K C101 (.type "object") = some true)
    (yo101 : PySem.W.subIn K (.ref C101) (.ref CB) = some true)
    (yv101 : PySem.W.subIn K (.ref C101) (.type "ValueError") = some true)
    (x101_100 : PySem.W.subIn K (.ref C101) (.ref C100) = some false)
    (x101_101 : PySem.W.subIn K (.ref C101) (.ref C101) = some true)
    (x101_102 : PySem.W.subIn K (.ref C101) (.ref C102) = some false)
    (x101_103 : PySem.W.subIn K (.ref C101) (.ref C103) = some false)
    (x101_104 : PySem.W.subIn K (.ref C101) (.ref C104) = some false)
    (x101_105 : PySem.W.subIn K (.ref C101) (.ref C105) = some false)
    (x101_106 : PySem.W.subIn K (.ref C101) (.ref C106) = some false)
    (x101_107 : PySem.W.subIn K (.ref C101) (.ref C107) = some false)
    (x101_108 : PySem.W.subIn K (.ref C101) (.ref C108) = some false)
    (x101_109 : PySem.W.subIn K (.ref C101) (.ref C109) = some false)
    (x101_110 : PySem.W.subIn K (.ref C101) (.ref C110) = some false)
    (x101_111 : PySem.W.subIn K (.ref C101) (.ref C111) = some false)
    (x101_112 : PySem.W.subIn K (.ref C101) (.ref C112) = some false)
    (x101_113 : PySem.W.subIn K (.ref C101) (.ref C113) = some false)
    (x101_114 : PySem.W.subIn K (.ref C101) (.ref C114) = some false)
    (x101_115 : PySem.W.subIn K (.ref C101) (.ref C115) = some false)
    (x101_116 : PySem.W.subIn K (.ref C101) (.ref C116) = some false)
    (x101_117 : PySem.W.subIn K (.ref C101) (.ref C117) = some false)
    (x101_118 : PySem.W.subIn K (.ref C101) (.ref C118) = some false)
    (x101_119 : PySem.W.subIn K (.ref C101) (.ref C119) = some false)
    (xs102 : PySem.W.subIn K (.ref C102) (.type "BaseException") = some true)
    (xt102 : PySem.W.typeIn K (.ref C102) = some (.type "type"))
    (xp102 : PySem.W.keepIn K (.ref C102) = true)
    (xe102 : PySem.W.excIn K C102 veB "ValueError.__new__" = true)
    (yg102 : PySem.W.findIn K (.ref C102) "__getattribute__" = some (some (.builtin "BaseException.__getattribute__")))
    (yk102 : PySem.W.findIn K (.ref C102) "__getattr__" = some none)
    (yd102 : PySem.W.hasDictIn K C102 = true)
    (ya102 : PySem.W.findIn K (.ref C102) "__class__" = some (some (.builtin "object.__class__")))
    (ym102 : PySem.W.mroIn K C102 (.type "object") = some true)
    (yo102 : PySem.W.subIn K (.ref C102) (.ref CB) = some true)
    (yv102 : PySem.W.subIn K (.ref C102) (.type "ValueError") = some true)
    (x102_100 : PySem.W.subIn K (.ref C102) (.ref C100) = some false)
    (x102_101 : PySem.W.subIn K (.ref C102) (.ref C101) = some false)
    (x102_102 : PySem.W.subIn K (.ref C102) (.ref C102) = some true)
    (x102_103 : PySem.W.subIn K (.ref C102) (.ref C103) = some false)
    (x102_104 : PySem.W.subIn K (.ref C102) (.ref C104) = some false)
    (x102_105 : PySem.W.subIn K (.ref C102) (.ref C105) = some false)
    (x102_106 : PySem.W.subIn K (.ref C102) (.ref C106) = some false)
    (x102_107 : PySem.W.subIn K (.ref C102) (.ref C107) = some false)
    (x102_108 : PySem.W.subIn K (.ref C102) (.ref C108) = some false)
    (x102_109 : PySem.W.subIn K (.ref C102) (.ref C109) = some false)
    (x102_110 : PySem.W.subIn K (.ref C102) (.ref C110) = some false)
    (x102_111 : PySem.W.subIn K (.ref C102) (.ref C111) = some false)
    (x102_112 : PySem.W.subIn K (.ref C102) (.ref C112) = some false)
    (x102_113 : PySem.W.subIn K (.ref C102) (.ref C113) = some false)
    (x102_114 : PySem.W.subIn K (.ref C102) (.ref C114) = some false)
    (x102_115 : PySem.W.subIn K (.ref C102) (.ref C115) = some false)
    (x102_116 : PySem.W.subIn K (.ref C102) (.ref C116) = some false)
    (x102_117 : PySem.W.subIn K (.ref C102) (.ref C117) = some false)
    (x102_118 : PySem.W.subIn K (.ref C102) (.ref C118) = some false)
    (x102_119 : PySem.W.subIn K (.ref C102) (.ref C119) = some false)
    (xs103 : PySem.W.subIn K (.ref C103) (.type "BaseException") = some true)
    (xt103 : PySem.W.typeIn K (.ref C103) = some (.type "type"))
    (xp103 : PySem.W.keepIn K (.ref C103) = true)
    (xe103 : PySem.W.excIn K C103 veB "ValueError.__new__" = true)
    (yg103 : PySem.W.findIn K (.ref C103) "__getattribute__" = some (some (.builtin "BaseException.__getattribute__")))
    (yk103 : PySem.W.findIn K (.ref C103) "__getattr__" = some none)
    (yd103 : PySem.W.hasDictIn K C103 = true)
    (ya103 : PySem.W.findIn K (.ref C103) "__class__" = some (some (.builtin "object.__class__")))
    (ym103 : PySem.W.mroIn K C103 (.type "object") = some true)
    (yo103 : PySem.W.subIn K (.ref C103) (.ref CB) = some true)
    (yv103 : PySem.W.subIn K (.ref C103) (.type "ValueError") = some true)
    (x103_100 : PySem.W.subIn K (.ref C103) (.ref C100) = some false)
    (x103_101 : PySem.W.subIn K (.ref C103) (.ref C101) = some false)
    (x103_102 : PySem.W.subIn K (.ref C103) (.ref C102) = some false)
    (x103_103 : PySem.W.subIn K (.ref C103) (.ref C103) = some true)
    (x103_104 : PySem.W.subIn K (.ref C103) (.ref C104) = some false)
    (x103_105 : PySem.W.subIn K (.ref C103) (.ref C105) = some false)
    (x103_106 : PySem.W.subIn K (.ref C103) (.ref C106) = some false)
    (x103_107 : PySem.W.subIn K (.ref C103) (.ref C107) = some false)
    (x103_108 : PySem.W.subIn K (.ref C103) (.ref C108) = some false)
    (x103_109 : PySem.W.subIn K (.ref C103) (.ref C109) = some false)
    (x103_110 : PySem.W.subIn K (.ref C103) (.ref C110) = some false)
    (x103_111 : PySem.W.subIn K (.ref C103) (.ref C111) = some false)
    (x103_112 : PySem.W.subIn K (.ref C103) (.ref C112) = some false)
    (x103_113 : PySem.W.subIn K (.ref C103) (.ref C113) = some false)
    (x103_114 : PySem.W.subIn K (.ref C103) (.ref C114) = some false)
    (x103_115 : PySem.W.subIn K (.ref C103) (.ref C115) = some false)
    (x103_116 : PySem.W.subIn K (.ref C103) (.ref C116) = some false)
    (x103_117 : PySem.W.subIn K (.ref C103) (.ref C117) = some false)
    (x103_118 : PySem.W.subIn K (.ref C103) (.ref C118) = some false)
    (x103_119 : PySem.W.subIn K (.ref C103) (.ref C119) = some false)
    (xs104 : PySem.W.subIn K (.ref C104) (.type "BaseException") = some true)
    (xt104 : PySem.W.typeIn K (.ref C104) = some (.type "type"))
    (xp104 : PySem.W.keepIn K (.ref C104) = true)
    (xe104 : PySem.W.excIn K C104 veB "ValueError.__new__" = true)
    (yg104 : PySem.W.findIn K (.ref C104) "__getattribute__" = some (some (.builtin "BaseException.__getattribute__")))
    (yk104 : PySem.W.findIn K (.ref C104) "__getattr__" = some none)
    (yd104 : PySem.W.hasDictIn K C104 = true)
    (ya104 : PySem.W.findIn K (.ref C104) "__class__" = some (some (.builtin "object.__class__")))
    (ym104 : PySem.W.mroIn K C104 (.type "object") = some true)
    (yo104 : PySem.W.subIn K (.ref C104) (.ref CB) = some true)
    (yv104 : PySem.W.subIn K (.ref C104) (.type "ValueError") = some true)
    (x104_100 : PySem.W.subIn K (.ref C104) (.ref C100) = some false)
    (x104_101 : PySem.W.subIn K (.ref C104) (.ref C101) = some false)
    (x104_102 : PySem.W.subIn K (.ref C104) (.ref C102) = some false)
    (x104_103 : PySem.W.subIn K (.ref C104) (.ref C103) = some false)
    (x104_104 : PySem.W.subIn K (.ref C104) (.ref C104) = some true)
    (x104_105 : PySem.W.subIn K (.ref C104) (.ref C105) = some false)
    (x104_106 : PySem.W.subIn K (.ref C104) (.ref C106) = some false)
    (x104_107 : PySem.W.subIn K (.ref C104) (.ref C107) = some false)
    (x104_108 : PySem.W.subIn K (.ref C104) (.ref C108) = some false)
    (x104_109 : PySem.W.subIn K (.ref C104) (.ref C109) = some false)
    (x104_110 : PySem.W.subIn K (.ref C104) (.ref C110) = some false)
    (x104_111 : PySem.W.subIn K (.ref C104) (.ref C111) = some false)
    (x104_112 : PySem.W.subIn K (.ref C104) (.ref C112) = some false)
    (x104_113 : PySem.W.subIn K (.ref C104) (.ref C113) = some false)
    (x104_114 : PySem.W.subIn K (.ref C104) (.ref C114) = some false)
    (x104_115 : PySem.W.subIn K (.ref C104) (.ref C115) = some false)
    (x104_116 : PySem.W.subIn K (.ref C104) (.ref C116) = some false)
    (x104_117 : PySem.W.subIn K (.ref C104) (.ref C117) = some false)
    (x104_118 : PySem.W.subIn K (.ref C104) (.ref C118) = some false)
    (x104_119 : PySem.W.subIn K (.ref C104) (.ref C119) = some false)
    (xs105 : PySem.W.subIn K (.ref C105) (.type "BaseException") = some true)
    (xt105 : PySem.W.typeIn K (.ref C105) = some (.type "type"))
    (xp105 : PySem.W.keepIn K (.ref C105) = true)
    (xe105 : PySem.W.excIn K C105 veB "ValueError.__new__" = true)
    (yg105 : PySem.W.findIn K (.ref C105) "__getattribute__" = some (some (.builtin "BaseException.__getattribute__")))
    (yk105 : PySem.W.findIn K (.ref C105) "__getattr__" = some none)
    (yd105 : PySem.W.hasDictIn K C105 = true)
    (ya105 : PySem.W.findIn K (.ref C105) "__class__" = some (some (.builtin "object.__class__")))
    (ym105 : PySem.W.mroIn K C105 (.type "object") = some true)
    (yo105 : PySem.W.subIn K (.ref C105) (.ref CB) = some true)
    (yv105 : PySem.W.subIn K (.ref C105) (.type "ValueError") = some true)
    (x105_100 : PySem.W.subIn K (.ref C105) (.ref C100) = some false)
    (x105_101 : PySem.W.subIn K (.ref C105) (.ref C101) = some false)
    (x105_102 : PySem.W.subIn K (.ref C105) (.ref C102) = some false)
    (x105_103 : PySem.W.subIn K (.ref C105) (.ref C103) = some false)
    (x105_104 : PySem.W.subIn K (.ref C105) (.ref C104) = some false)
    (x105_105 : PySem.W.subIn K (.ref C105) (.ref C105) = some true)
    (x105_106 : PySem.W.subIn K (.ref C105) (.ref C106) = some false)
    (x105_107 : PySem.W.subIn K (.ref C105) (.ref C107) = some false)
    (x105_108 : PySem.W.subIn K (.ref C105) (.ref C108) = some false)
    (x105_109 : PySem.W.subIn K (.ref C105) (.ref C109) = some false)
    (x105_110 : PySem.W.subIn K (.ref C105) (.ref C110) = some false)
    (x105_111 : PySem.W.subIn K (.ref C105) (.ref C111) = some false)
    (x105_112 : PySem.W.subIn K (.ref C105) (.ref C112) = some false)
    (x105_113 : PySem.W.subIn K (.ref C105) (.ref C113) = some false)
    (x105_114 : PySem.W.subIn K (.ref C105) (.ref C114) = some false)
    (x105_115 : PySem.W.subIn K (.ref C105) (.ref C115) = some false)
    (x105_116 : PySem.W.subIn K (.ref C105) (.ref C116) = some false)
    (x105_117 : PySem.W.subIn K (.ref C105) (.ref C117) = some false)
    (x105_118 : PySem.W.subIn K (.ref C105) (.ref C118) = some false)
    (x105_119 : PySem.W.subIn K (.ref C105) (.ref C119) = some false)
    (xs106 : PySem.W.subIn K (.ref C106) (.type "BaseException") = some true)
    (xt106 : PySem.W.typeIn K (.ref C106) = some (.type "type"))
    (xp106 : PySem.W.keepIn K (.ref C106) = true)
    (xe106 : PySem.W.excIn K C106 veB "ValueError.__new__" = true)
    (yg106 : PySem.W.findIn K (.ref C106) "__getattribute__" = some (some (.builtin "BaseException.__getattribute__")))
    (yk106 : PySem.W.findIn K (.ref C106) "__getattr__" = some none)
    (yd106 : PySem.W.hasDictIn K C106 = true)
    (ya106 : PySem.W.findIn K (.ref C106) "__class__" = some (some (.builtin "object.__class__")))
    (ym106 : PySem.W.mroIn K C106 (.type "object") = some true)
    (yo106 : PySem.W.subIn K (.ref C106) (.ref CB) = some true)
    (yv106 : PySem.W.subIn K (.ref C106) (.type "ValueError") = some true)
    (x106_100 : PySem.W.subIn K (.ref C106) (.ref C100) = some false)
    (x106_101 : PySem.W.subIn K (.ref C106) (.ref C101) = some false)
    (x106_102 : PySem.W.subIn K (.ref C106) (.ref C102) = some false)
    (x106_103 : PySem.W.subIn K (.ref C106) (.ref C103) = some false)
    (x106_104 : PySem.W.subIn K (.ref C106) (.ref C104) = some false)
    (x106_105 : PySem.W.subIn K (.ref C106) (.ref C105) = some false)
    (x106_106 : PySem.W.subIn K (.ref C106) (.ref C106) = some true)
    (x106_107 : PySem.W.subIn K (.ref C106) (.ref C107) = some false)
    (x106_108 : PySem.W.subIn K (.ref C106) (.ref C108) = some false)
    (x106_109 : PySem.W.subIn K (.ref C106) (.ref C109) = some false)
    (x106_110 : PySem.W.subIn K (.ref C106) (.ref C110) = some false)
    (x106_111 : PySem.W.subIn K (.ref C106) (.ref C111) = some false)
    (x106_112 : PySem.W.subIn K (.ref C106) (.ref C112) = some false)
    (x106_113 : PySem.W.subIn K (.ref C106) (.ref C113) = some false)
    (x106_114 : PySem.W.subIn K (.ref C106) (.ref C114) = some false)
    (x106_115 : PySem.W.subIn K (.ref C106) (.ref C115) = some false)
    (x106_116 : PySem.W.subIn K (.ref C106) (.ref C116) = some false)
    (x106_117 : PySem.W.subIn K (.ref C106) (.ref C117) = some false)
    (x106_118 : PySem.W.subIn K (.ref C106) (.ref C118) = some false)
    (x106_119 : PySem.W.subIn K (.ref C106) (.ref C119) = some false)
    (xs107 : PySem.W.subIn K (.ref C107) (.type "BaseException") = some true)
    (xt107 : PySem.W.typeIn K (.ref C107) = some (.type "type"))
    (xp107 : PySem.W.keepIn K (.ref C107) = true)
    (xe107 : PySem.W.excIn K C107 veB "ValueError.__new__" = true)
    (yg107 : PySem.W.findIn K (.ref C107) "__getattribute__" = some (some (.builtin "BaseException.__getattribute__")))
    (yk107 : PySem.W.findIn K (.ref C107) "__getattr__" = some none)
    (yd107 : PySem.W.hasDictIn K C107 = true)
    (ya107 : PySem.W.findIn K (.ref C107) "__class__" = some (some (.builtin "object.__class__")))
    (ym107 : PySem.W.mroIn K C107 (.type "object") = some true)
    (yo107 : PySem.W.subIn K (.ref C107) (.ref CB) = some true)
    (yv107 : PySem.W.subIn K (.ref C107) (.type "ValueError") = some true)
    (x107_100 : PySem.W.subIn K (.ref C107) (.ref C100) = some false)
    (x107_101 : PySem.W.subIn K (.ref C107) (.ref C101) = some false)
    (x107_102 : PySem.W.subIn K (.ref C107) (.ref C102) = some false)
    (x107_103 : PySem.W.subIn K (.ref C107) (.ref C103) = some false)
    (x107_104 : PySem.W.subIn K (.ref C107) (.ref C104) = some false)
    (x107_105 : PySem.W.subIn K (.ref C107) (.ref C105) = some false)
    (x107_106 : PySem.W.subIn K (.ref C107) (.ref C106) = some false)
    (x107_107 : PySem.W.subIn K (.ref C107) (.ref C107) = some true)
    (x107_108 : PySem.W.subIn K (.ref C107) (.ref C108) = some false)
    (x107_109 : PySem.W.subIn K (.ref C107) (.ref C109) = some false)
    (x107_110 : PySem.W.subIn K (.ref C107) (.ref C110) = some false)
    (x107_111 : PySem.W.subIn K (.ref C107) (.ref C111) = some false)
    (x107_112 : PySem.W.subIn K (.ref C107) (.ref C112) = some false)
    (x107_113 : PySem.W.subIn K (.ref C107) (.ref C113) = some false)
    (x107_114 : PySem.W.subIn K (.ref C107) (.ref C114) = some false)
    (x107_115 : PySem.W.subIn K (.ref C107) (.ref C115) = some false)
    (x107_116 : PySem.W.subIn K (.ref C107) (.ref C116) = some false)
    (x107_117 : PySem.W.subIn K (.ref C107) (.ref C117) = some false)
    (x107_118 : PySem.W.subIn K (.ref C107) (.ref C118) = some false)
    (x107_119 : PySem.W.subIn K (.ref C107) (.ref C119) = some false)
    (xs108 : PySem.W.subIn K (.ref C108) (.type "BaseException") = some true)
    (xt108 : PySem.W.typeIn K (.ref C108) = some (.type "type"))
    (xp108 : PySem.W.keepIn K (.ref C108) = true)
    (xe108 : PySem.W.excIn K C108 veB "ValueError.__new__" = true)
    (yg108 : PySem.W.findIn K (.ref C108) "__getattribute__" = some (some (.builtin "BaseException.__getattribute__")))
    (yk108 : PySem.W.findIn K (.ref C108) "__getattr__" = some none)
    (yd108 : PySem.W.hasDictIn K C108 = true)
    (ya108 : PySem.W.findIn K (.ref C108) "__class__" = some (some (.builtin "object.__class__")))
    (ym108 : PySem.W.mroIn K C108 (.type "object") = some true)
    (yo108 : PySem.W.subIn K (.ref C108) (.ref CB) = some true)
    (yv108 : PySem.W.subIn K (.ref C108) (.type "ValueError") = some true)
    (x108_100 : PySem.W.subIn K (.ref C108) (.ref C100) = some false)
    (x108_101 : PySem.W.subIn K (.ref C108) (.ref C101) = some false)
    (x108_102 : PySem.W.subIn K (.ref C108) (.ref C102) = some false)
    (x108_103 : PySem.W.subIn K (.ref C108) (.ref C103) = some false)
    (x108_104 : PySem.W.subIn K (.ref C108) (.ref C104) = some false)
    (x108_105 : PySem.W.subIn K (.ref C108) (.ref C105) = some false)
    (x108_106 : PySem.W.subIn K (.ref C108) (.ref C106) = some false)
    (x108_107 : PySem.W.subIn K (.ref C108) (.ref C107) = some false)
    (x108_108 : PySem.W.subIn K (.ref C108) (.ref C108) = some true)
    (x108_109 : PySem.W.subIn K (.ref C108) (.ref C109) = some false)
    (x108_110 : PySem.W.subIn K (.ref C108) (.ref C110) = some false)
    (x108_111 : PySem.W.subIn K (.ref C108) (.ref C111) = some false)
    (x108_112 : PySem.W.subIn K (.ref C108) (.ref C112) = some false)
    (x108_113 : PySem.W.subIn K (.ref C108) (.ref C113) = some false)
    (x108_114 : PySem.W.subIn K (.ref C108) (.ref C114) = some false)
    (x108_115 : PySem.W.subIn K (.ref C108) (.ref C115) = some false)
    (x108_116 : PySem.W.subIn K (.ref C108) (.ref C116) = some false)
    (x108_117 : PySem.W.subIn K (.ref C108) (.ref C117) = some false)
    (x108_118 : PySem.W.subIn K (.ref C108) (.ref C118) = some false)
    (x108_119 : PySem.W.subIn K (.ref C108) (.ref C119) = some false)
    (xs109 : PySem.W.subIn K (.ref C109) (.type "BaseException") = some true)
    (xt109 : PySem.W.typeIn K (.ref C109) = some (.type "type"))
    (xp109 : PySem.W.keepIn K (.ref C109) = true)
    (xe109 : PySem.W.excIn K C109 veB "ValueError.__new__" = true)
    (yg109 : PySem.W.findIn K (.ref C109) "__getattribute__" = some (some (.builtin "BaseException.__getattribute__")))
    (yk109 : PySem.W.findIn K (.ref C109) "__getattr__" = some none)
    (yd109 : PySem.W.hasDictIn K C109 = true)
    (ya109 : PySem.W.findIn K (.ref C109) "__class__" = some (some (.builtin "object.__class__")))
    (ym109 : PySem.W.mroIn K C109 (.type "object") = some true)
    (yo109 : PySem.W.subIn K (.ref C109) (.ref CB) = some true)
    (yv109 : PySem.W.subIn K (.ref C109) (.type "ValueError") = some true)
    (x109_100 : PySem.W.subIn K (.ref C109) (.ref C100) = some false)
    (x109_101 : PySem.W.subIn K (.ref C109) (.ref C101) = some false)
    (x109_102 : PySem.W.subIn K (.ref C109) (.ref C102) = some false)
    (x109_103 : PySem.W.subIn K (.ref C109) (.ref C103) = some false)
    (x109_104 : PySem.W.subIn K (.ref C109) (.ref C104) = some false)
    (x109_105 : PySem.W.subIn K (.ref C109) (.ref C105) = some false)
    (x109_106 : PySem.W.subIn K (.ref C109) (.ref C106) = some false)
    (x109_107 : PySem.W.subIn K (.ref C109) (.ref C107) = some false)
    (x109_108 : PySem.W.subIn K (.ref C109) (.ref C108) = some false)
    (x109_109 : PySem.W.subIn K (.ref C109) (.ref C109) = some true)
    (x109_110 : PySem.W.subIn K (.ref C109) (.ref C110) = some false)
    (x109_111 : PySem.W.subIn K (.ref C109) (.ref C111) = some false)
    (x109_112 : PySem.W.subIn K (.ref C109) (.ref C112) = some false)
    (x109_113 : PySem.W.subIn K (.ref C109) (.ref C113) = some false)
    (x109_114 : PySem.W.subIn K (.ref C109) (.ref C114) = some false)
    (x109_115 : PySem.W.subIn K (.ref C109) (.ref C115) = some false)
    (x109_116 : PySem.W.subIn K (.ref C109) (.ref C116) = some false)
    (x109_117 : PySem.W.subIn K (.ref C109) (.ref C117) = some false)
    (x109_118 : PySem.W.subIn K (.ref C109) (.ref C118) = some false)
    (x109_119 : PySem.W.subIn K (.ref C109) (.ref C119) = some false)
    (xs110 : PySem.W.subIn K (.ref C110) (.type "BaseException") = some true)
    (xt110 : PySem.W.typeIn K (.ref C110) = some (.type "type"))
    (xp110 : PySem.W.keepIn K (.ref C110) = true)
    (xl110 : K.lookup C110 = some (excClassObj nm110 qn110 C110 nn110 bs110 bm110 true sn110 sub110 ab110 col110 xd110 ka110 kb110 kc110 kd110 ke110 "ValueError.__new__"))
    (xv110 : PySem.HandSPX.refsVE bm110 = true)
    (xa110 : PySem.W.findIn K (.ref C110) "__setattr__" = some (some (.builtin "object.__setattr__")))
    (xi110 : PySem.W.findIn K (.ref C110) "__init__" = some (some (.ref f110)))
    (xf110 : PySem.W.typeIn K (.ref f110) = some (.type "function"))
    (xo110 : PySem.W.findIn K (.ref C110) "at" = some none)
    (l110 : K.lookup f110 = some ⟨oc110, od110, .func (PySem.W.fnOf "__init__" "NoClass.__init__" (defArgs s_xNoClass) (defBody s_xNoClass) (defScope s_xNoClass) .none kV110 dc110 pm110 an110 cd110 ct110), sl110⟩)
    (c110 : PySem.W.codeIn K cd110 "NoClass.__init__" = true)
    (k110 : PySem.W.keepIn K (.ref f110) = true)
    (yg110 : PySem.W.findIn K (.ref C110) "__getattribute__" = some (some (.builtin "BaseException.__getattribute__")))
    (yk110 : PySem.W.findIn K (.ref C110) "__getattr__" = some none)
    (yd110 : PySem.W.hasDictIn K C110 = true)
    (ya110 : PySem.W.findIn K (.ref C110) "__class__" = some (some (.builtin "object.__class__")))
    (ym110 : PySem.W.mroIn K C110 (.type "object") = some true)
    (yo110 : PySem.W.subIn K (.ref C110) (.ref CB) = some true)
    (yv110 : PySem.W.subIn K (.ref C110) (.type "ValueError") = some true)
    (x110_100 : PySem.W.subIn K (.ref C110) (.ref C100) = some false)
    (x110_101 : PySem.W.subIn K (.ref C110) (.ref C101) = some false)
    (x110_102 : PySem.W.subIn K (.ref C110) (.ref C102) = some false)
    (x110_103 : PySem.W.subIn K (.ref C110) (.ref C103) = some false)
    (x110_104 : PySem.W.subIn K (.ref C110) (.ref C104) = some false)
    (x110_105 : PySem.W.subIn K (.ref C110) (.ref C105) = some false)
    (x110_106 : PySem.W.subIn K (.ref C110) (.ref C106) = some false)
    (x110_107 : PySem.W.subIn K (.ref C110) (.ref C107) = some false)
    (x110_108 : PySem.W.subIn K (.ref C110) (.ref C108) = some false)
    (x110_109 : PySem.W.subIn K (.ref C110) (.ref C109) = some false)
    (x110_110 : PySem.W.subIn K (.ref C110) (.ref C110) = some true)
    (x110_111 : PySem.W.subIn K (.ref C110) (.ref C111) = some false)
    (x110_112 : PySem.W.subIn K (.ref C110) (.ref C112) = some false)
    (x110_113 : PySem.W.subIn K (.ref C110) (.ref C113) = some false)
    (x110_114 : PySem.W.subIn K (.ref C110) (.ref C114) = some false)
    (x110_115 : PySem.W.subIn K (.ref C110) (.ref C115) = some false)
    (x110_116 : PySem.W.subIn K (.ref C110) (.ref C116) = some false)
    (x110_117 : PySem.W.subIn K (.ref C110) (.ref C117) = some false)
    (x110_118 : PySem.W.subIn K (.ref C110) (.ref C118) = some false)
    (x110_119 : PySem.W.subIn K (.ref C110) (.ref C119) = some false)
    (xs111 : PySem.W.subIn K (.ref C111) (.type "BaseException") = some true)
    (xt111 : PySem.W.typeIn K (.ref C111) = some (.type "type"))
    (xp111 : PySem.W.keepIn K (.ref C111) = true)
    (xl111 : K.lookup C111 = some (excClassObj nm111 qn111 C111 nn111 bs111 bm111 true sn111 sub111 ab111 col111 xd111 ka111 kb111 kc111 kd111 ke111 "ValueError.__new__"))
    (xv111 : PySem.HandSPX.refsVE bm111 = true)
    (xa111 : PySem.W.findIn K (.ref C111) "__setattr__" = some (some (.builtin "object.__setattr__")))
    (xi111 : PySem.W.findIn K (.ref C111) "__init__" = some (some (.ref f111)))
    (xf111 : PySem.W.typeIn K (.ref f111) = some (.type "function"))
    (xo111 : PySem.W.findIn K (.ref C111) "claims" = some none)
    (l111 : K.lookup f111 = some ⟨oc111, od111, .func (PySem.W.fnOf "__init__" "BadClaims.__init__" (defArgs s_xBadClaims) (defBody s_xBadClaims) (defScope s_xBadClaims) .none kV111 dc111 pm111 an111 cd111 ct111), sl111⟩)
    (c111 : PySem.W.codeIn K cd111 "BadClaims.__init__" = true)
    (k111 : PySem.W.keepIn K (.ref f111) = true)
    (yg111 : PySem.W.findIn K (.ref C111) "__getattribute__" = some (some (.builtin "BaseException.__getattribute__")))
    (yk111 : PySem.W.findIn K (.ref C111) "__getattr__" = some none)
    (yd111 : PySem.W.hasDictIn K C111 = true)
    (ya111 : PySem.W.findIn K (.ref C111) "__class__" = some (some (.builtin "object.__class__")))
    (ym111 : PySem.W.mroIn K C111 (.type "object") = some true)
    (yo111 : PySem.W.subIn K (.ref C111) (.ref CB) = some true)
    (yv111 : PySem.W.subIn K (.ref C111) (.type "ValueError") = some true)
    (x111_100 : PySem.W.subIn K (.ref C111) (.ref C100) = some false)
    (x111_101 : PySem.W.subIn K (.ref C111) (.ref C101) = some false)
    (x111_102 : PySem.W.subIn K (.ref C111) (.ref C102) = some false)
    (x111_103 : PySem.W.subIn K (.ref C111) (.ref C103) = some false)
    (x111_104 : PySem.W.subIn K (.ref C111) (.ref C104) = some false)
    (x111_105 : PySem.W.subIn K (.ref C111) (.ref C105) = some false)
    (x111_106 : PySem.W.subIn K (.ref C111) (.ref C106) = some false)
    (x111_107 : PySem.W.subIn K (.ref C111) (.ref C107) = some false)
    (x111_108 : PySem.W.subIn K (.ref C111) (.ref C108) = some false)
    (x111_109 : PySem.W.subIn K (.ref C111) (.ref C109) = some false)
    (x111_110 : PySem.W.subIn K (.ref C111) (.ref C110) = some false)
    (x111_111 : PySem.W.subIn K (.ref C111) (.ref C111) = some true)
    (x111_112 : PySem.W.subIn K (.ref C111) (.ref C112) = some false)
    (x111_113 : PySem.W.subIn K (.ref C111) (.ref C113) = some false)
    (x111_114 : PySem.W.subIn K (.ref C111) (.ref C114) = some false)
    (x111_115 : PySem.W.subIn K (.ref C111) (.ref C115) = some false)
    (x111_116 : PySem.W.subIn K (.ref C111) (.ref C116) = some false)
    (x111_117 : PySem.W.subIn K (.ref C111) (.ref C117) = some false)
    (x111_118 : PySem.W.subIn K (.ref C111) (.ref C118) = some false)
    (x111_119 : PySem.W.subIn K (.ref C111) (.ref C119) = some false)
    (xs112 : PySem.W.subIn K (.ref C112) (.type "BaseException") = some true)
    (xt112 : PySem.W.typeIn K (.ref C112) = some (.type "type"))
    (xp112 : PySem.W.keepIn K (.ref C112) = true)
    (xl112 : K.lookup C112 = some (excClassObj nm112 qn112 C112 nn112 bs112 bm112 true sn112 sub112 ab112 col112 xd112 ka112 kb112 kc112 kd112 ke112 "ValueError.__new__"))
    (xv112 : PySem.HandSPX.refsVE bm112 = true)
    (xa112 : PySem.W.findIn K (.ref C112) "__setattr__" = some (some (.builtin "object.__setattr__")))
    (xi112 : PySem.W.findIn K (.ref C112) "__init__" = some (some (.ref f112)))
    (xf112 : PySem.W.typeIn K (.ref f112) = some (.type "function"))
    (xo112 : PySem.W.findIn K (.ref C112) "count" = some none)
    (l112 : K.lookup f112 = some ⟨oc112, od112, .func (PySem.W.fnOf "__init__" "TooMany.__init__" (defArgs s_xTooMany) (defBody s_xTooMany) (defScope s_xTooMany) .none kV112 dc112 pm112 an112 cd112 ct112), sl112⟩)
    (c112 : PySem.W.codeIn K cd112 "TooMany.__init__" = true)
    (k112 : PySem.W.keepIn K (.ref f112) = true)
    (yg112 : PySem.W.findIn K (.ref C112) "__getattribute__" = some (some (.builtin "BaseException.__getattribute__")))
    (yk112 : PySem.W.findIn K (.ref C112) "__getattr__" = some none)
    (yd112 : PySem.W.hasDictIn K C112 = true)
    (ya112 : PySem.W.findIn K (.ref C112) "__class__" = some (some (.builtin "object.__class__")))
    (ym112 : PySem.W.mroIn K C112 (.type "object") = some true)
    (yo112 : PySem.W.subIn K (.ref C112) (.ref CB) = some true)
    (yv112 : PySem.W.subIn K (.ref C112) (.type "ValueError") = some true)
    (x112_100 : PySem.W.subIn K (.ref C112) (.ref C100) = some false)
    (x112_101 : PySem.W.subIn K (.ref C112) (.ref C101) = some false)
    (x112_102 : PySem.W.subIn K (.ref C112) (.ref C102) = some false)
    (x112_103 : PySem.W.subIn K (.ref C112) (.ref C103) = some false)
    (x112_104 : PySem.W.subIn K (.ref C112) (.ref C104) = some false)
    (x112_105 : PySem.W.subIn K (.ref C112) (.ref C105) = some false)
    (x112_106 : PySem.W.subIn K (.ref C112) (.ref C106) = some false)
    (x112_107 : PySem.W.subIn K (.ref C112) (.ref C107) = some false)
    (x112_108 : PySem.W.subIn K (.ref C112) (.ref C108) = some false)
    (x112_109 : PySem.W.subIn K (.ref C112) (.ref C109) = some false)
    (x112_110 : PySem.W.subIn K (.ref C112) (.ref C110) = some false)
    (x112_111 : PySem.W.subIn K (.ref C112) (.ref C111) = some false)
    (x112_112 : PySem.W.subIn K (.ref C112) (.ref C112) = some true)
    (x112_113 : PySem.W.subIn K (.ref C112) (.ref C113) = some false)
    (x112_114 : PySem.W.subIn K (.ref C112) (.ref C114) = some false)
    (x112_115 : PySem.W.subIn K (.ref C112) (.ref C115) = some false)
    (x112_116 : PySem.W.subIn K (.ref C112) (.ref C116) = some false)
    (x112_117 : PySem.W.subIn K (.ref C112) (.ref C117) = some false)
    (x112_118 : PySem.W.subIn K (.ref C112) (.ref C118) = some false)
    (x112_119 : PySem.W.subIn K (.ref C112) (.ref C119) = some false)
    (xs113 : PySem.W.subIn K (.ref C113) (.type "BaseException") = some true)
    (xt113 : PySem.W.typeIn K (.ref C113) = some (.type "type"))
    (xp113 : PySem.W.keepIn K (.ref C113) = true)
    (xl113 : K.lookup C113 = some (excClassObj nm113 qn113 C113 nn113 bs113 bm113 true sn113 sub113 ab113 col113 xd113 ka113 kb113 kc113 kd113 ke113 "ValueError.__new__"))
    (xv113 : PySem.HandSPX.refsVE bm113 = true)
    (xa113 : PySem.W.findIn K (.ref C113) "__setattr__" = some (some (.builtin "object.__setattr__")))
    (xi113 : PySem.W.findIn K (.ref C113) "__init__" = some (some (.ref f113)))
    (xf113 : PySem.W.typeIn K (.ref f113) = some (.type "function"))
    (xo113 : PySem.W.findIn K (.ref C113) "years" = some none)
    (l113 : K.lookup f113 = some ⟨oc113, od113, .func (PySem.W.fnOf "__init__" "BadYears.__init__" (defArgs s_xBadYears) (defBody s_xBadYears) (defScope s_xBadYears) .none kV113 dc113 pm113 an113 cd113 ct113), sl113⟩)
    (c113 : PySem.W.codeIn K cd113 "BadYears.__init__" = true)
    (k113 : PySem.W.keepIn K (.ref f113) = true)
    (yg113 : PySem.W.findIn K (.ref C113) "__getattribute__" = some (some (.builtin "BaseException.__getattribute__")))
    (yk113 : PySem.W.findIn K (.ref C113) "__getattr__" = some none)
    (yd113 : PySem.W.hasDictIn K C113 = true)
    (ya113 : PySem.W.findIn K (.ref C113) "__class__" = some (some (.builtin "object.__class__")))
    (ym113 : PySem.W.mroIn K C113 (.type "object") = some true)
    (yo113 : PySem.W.subIn K (.ref C113) (.ref CB) = some true)
    (yv113 : PySem.W.subIn K (.ref C113) (.type "ValueError") = some true)
    (x113_100 : PySem.W.subIn K (.ref C113) (.ref C100) = some false)
    (x113_101 : PySem.W.subIn K (.ref C113) (.ref C101) = some false)
    (x113_102 : PySem.W.subIn K (.ref C113) (.ref C102) = some false)
    (x113_103 : PySem.W.subIn K (.ref C113) (.ref C103) = some false)
    (x113_104 : PySem.W.subIn K (.ref C113) (.ref C104) = some false)
    (x113_105 : PySem.W.subIn K (.ref C113) (.ref C105) = some false)
    (x113_106 : PySem.W.subIn K (.ref C113) (.ref C106) = some false)
    (x113_107 : PySem.W.subIn K (.ref C113) (.ref C107) = some false)
    (x113_108 : PySem.W.subIn K (.ref C113) (.ref C108) = some false)
    (x113_109 : PySem.W.subIn K (.ref C113) (.ref C109) = some false)
    (x113_110 : PySem.W.subIn K (.ref C113) (.ref C110) = some false)
    (x113_111 : PySem.W.subIn K (.ref C113) (.ref C111) = some false)
    (x113_112 : PySem.W.subIn K (.ref C113) (.ref C112) = some false)
    (x113_113 : PySem.W.subIn K (.ref C113) (.ref C113) = some true)
    (x113_114 : PySem.W.subIn K (.ref C113) (.ref C114) = some false)
    (x113_115 : PySem.W.subIn K (.ref C113) (.ref C115) = some false)
    (x113_116 : PySem.W.subIn K (.ref C113) (.ref C116) = some false)
    (x113_117 : PySem.W.subIn K (.ref C113) (.ref C117) = some false)
    (x113_118 : PySem.W.subIn K (.ref C113) (.ref C118) = some false)
    (x113_119 : PySem.W.subIn K (.ref C113) (.ref C119) = some false)
    (xs114 : PySem.W.subIn K (.ref C114) (.type "BaseException") = some true)
    (xt114 : PySem.W.typeIn K (.ref C114) = some (.type "type"))
    (xp114 : PySem.W.keepIn K (.ref C114) = true)
    (xl114 : K.lookup C114 = some (excClassObj nm114 qn114 C114 nn114 bs114 bm114 true sn114 sub114 ab114 col114 xd114 ka114 kb114 kc114 kd114 ke114 "ValueError.__new__"))
    (xv114 : PySem.HandSPX.refsVE bm114 = true)
    (xa114 : PySem.W.findIn K (.ref C114) "__setattr__" = some (some (.builtin "object.__setattr__")))
    (xi114 : PySem.W.findIn K (.ref C114) "__init__" = some (some (.ref f114)))
    (xf114 : PySem.W.typeIn K (.ref f114) = some (.type "function"))
    (xo114 : PySem.W.findIn K (.ref C114) "place" = some none)
    (l114 : K.lookup f114 = some ⟨oc114, od114, .func (PySem.W.fnOf "__init__" "NoPlace.__init__" (defArgs s_xNoPlace) (defBody s_xNoPlace) (defScope s_xNoPlace) .none kV114 dc114 pm114 an114 cd114 ct114), sl114⟩)
    (c114 : PySem.W.codeIn K cd114 "NoPlace.__init__" = true)
    (k114 : PySem.W.keepIn K (.ref f114) = true)
    (yg114 : PySem.W.findIn K (.ref C114) "__getattribute__" = some (some (.builtin "BaseException.__getattribute__")))
    (yk114 : PySem.W.findIn K (.ref C114) "__getattr__" = some none)
    (yd114 : PySem.W.hasDictIn K C114 = true)
    (ya114 : PySem.W.findIn K (.ref C114) "__class__" = some (some (.builtin "object.__class__")))
    (ym114 : PySem.W.mroIn K C114 (.type "object") = some true)
    (yo114 : PySem.W.subIn K (.ref C114) (.ref CB) = some true)
    (yv114 : PySem.W.subIn K (.ref C114) (.type "ValueError") = some true)
    (x114_100 : PySem.W.subIn K (.ref C114) (.ref C100) = some false)
    (x114_101 : PySem.W.subIn K (.ref C114) (.ref C101) = some false)
    (x114_102 : PySem.W.subIn K (.ref C114) (.ref C102) = some false)
    (x114_103 : PySem.W.subIn K (.ref C114) (.ref C103) = some false)
    (x114_104 : PySem.W.subIn K (.ref C114) (.ref C104) = some false)
    (x114_105 : PySem.W.subIn K (.ref C114) (.ref C105) = some false)
    (x114_106 : PySem.W.subIn K (.ref C114) (.ref C106) = some false)
    (x114_107 : PySem.W.subIn K (.ref C114) (.ref C107) = some false)
    (x114_108 : PySem.W.subIn K (.ref C114) (.ref C108) = some false)
    (x114_109 : PySem.W.subIn K (.ref C114) (.ref C109) = some false)
    (x114_110 : PySem.W.subIn K (.ref C114) (.ref C110) = some false)
    (x114_111 : PySem.W.subIn K (.ref C114) (.ref C111) = some false)
    (x114_112 : PySem.W.subIn K (.ref C114) (.ref C112) = some false)
    (x114_113 : PySem.W.subIn K (.ref C114) (.ref C113) = some false)
    (x114_114 : PySem.W.subIn K (.ref C114) (.ref C114) = some true)
    (x114_115 : PySem.W.subIn K (.ref C114) (.ref C115) = some false)
    (x114_116 : PySem.W.subIn K (.ref C114) (.ref C116) = some false)
    (x114_117 : PySem.W.subIn K (.ref C114) (.ref C117) = some false)
    (x114_118 : PySem.W.subIn K (.ref C114) (.ref C118) = some false)
    (x114_119 : PySem.W.subIn K (.ref C114) (.ref C119) = some false)
    (xs115 : PySem.W.subIn K (.ref C115) (.type "BaseException") = some true)
    (xt115 : PySem.W.typeIn K (.ref C115) = some (.type "type"))
    (xp115 : PySem.W.keepIn K (.ref C115) = true)
    (xl115 : K.lookup C115 = some (excClassObj nm115 qn115 C115 nn115 bs115 bm115 true sn115 sub115 ab115 col115 xd115 ka115 kb115 kc115 kd115 ke115 "ValueError.__new__"))
    (xv115 : PySem.HandSPX.refsVE bm115 = true)
    (xa115 : PySem.W.findIn K (.ref C115) "__setattr__" = some (some (.builtin "object.__setattr__")))
    (xi115 : PySem.W.findIn K (.ref C115) "__init__" = some (some (.ref f115)))
    (xf115 : PySem.W.typeIn K (.ref f115) = some (.type "function"))
    (xo115 : PySem.W.findIn K (.ref C115) "year" = some none)
    (l115 : K.lookup f115 = some ⟨oc115, od115, .func (PySem.W.fnOf "__init__" "Billed.__init__" (defArgs s_xBilled) (defBody s_xBilled) (defScope s_xBilled) .none kV115 dc115 pm115 an115 cd115 ct115), sl115⟩)
    (c115 : PySem.W.codeIn K cd115 "Billed.__init__" = true)
    (k115 : PySem.W.keepIn K (.ref f115) = true)
    (yg115 : PySem.W.findIn K (.ref C115) "__getattribute__" = some (some (.builtin "BaseException.__getattribute__")))
    (yk115 : PySem.W.findIn K (.ref C115) "__getattr__" = some none)
    (yd115 : PySem.W.hasDictIn K C115 = true)
    (ya115 : PySem.W.findIn K (.ref C115) "__class__" = some (some (.builtin "object.__class__")))
    (ym115 : PySem.W.mroIn K C115 (.type "object") = some true)
    (yo115 : PySem.W.subIn K (.ref C115) (.ref CB) = some true)
    (yv115 : PySem.W.subIn K (.ref C115) (.type "ValueError") = some true)
    (x115_100 : PySem.W.subIn K (.ref C115) (.ref C100) = some false)
    (x115_101 : PySem.W.subIn K (.ref C115) (.ref C101) = some false)
    (x115_102 : PySem.W.subIn K (.ref C115) (.ref C102) = some false)
    (x115_103 : PySem.W.subIn K (.ref C115) (.ref C103) = some false)
    (x115_104 : PySem.W.subIn K (.ref C115) (.ref C104) = some false)
    (x115_105 : PySem.W.subIn K (.ref C115) (.ref C105) = some false)
    (x115_106 : PySem.W.subIn K (.ref C115) (.ref C106) = some false)
    (x115_107 : PySem.W.subIn K (.ref C115) (.ref C107) = some false)
    (x115_108 : PySem.W.subIn K (.ref C115) (.ref C108) = some false)
    (x115_109 : PySem.W.subIn K (.ref C115) (.ref C109) = some false)
    (x115_110 : PySem.W.subIn K (.ref C115) (.ref C110) = some false)
    (x115_111 : PySem.W.subIn K (.ref C115) (.ref C111) = some false)
    (x115_112 : PySem.W.subIn K (.ref C115) (.ref C112) = some false)
    (x115_113 : PySem.W.subIn K (.ref C115) (.ref C113) = some false)
    (x115_114 : PySem.W.subIn K (.ref C115) (.ref C114) = some false)
    (x115_115 : PySem.W.subIn K (.ref C115) (.ref C115) = some true)
    (x115_116 : PySem.W.subIn K (.ref C115) (.ref C116) = some false)
    (x115_117 : PySem.W.subIn K (.ref C115) (.ref C117) = some false)
    (x115_118 : PySem.W.subIn K (.ref C115) (.ref C118) = some false)
    (x115_119 : PySem.W.subIn K (.ref C115) (.ref C119) = some false)
    (xs116 : PySem.W.subIn K (.ref C116) (.type "BaseException") = some true)
    (xt116 : PySem.W.typeIn K (.ref C116) = some (.type "type"))
    (xp116 : PySem.W.keepIn K (.ref C116) = true)
    (xl116 : K.lookup C116 = some (excClassObj nm116 qn116 C116 nn116 bs116 bm116 true sn116 sub116 ab116 col116 xd116 ka116 kb116 kc116 kd116 ke116 "ValueError.__new__"))
    (xv116 : PySem.HandSPX.refsVE bm116 = true)
    (xa116 : PySem.W.findIn K (.ref C116) "__setattr__" = some (some (.builtin "object.__setattr__")))
    (xi116 : PySem.W.findIn K (.ref C116) "__init__" = some (some (.ref f116)))
    (xf116 : PySem.W.typeIn K (.ref f116) = some (.type "function"))
    (xo116 : PySem.W.findIn K (.ref C116) "year" = some none)
    (l116 : K.lookup f116 = some ⟨oc116, od116, .func (PySem.W.fnOf "__init__" "NotBilled.__init__" (defArgs s_xNotBilled) (defBody s_xNotBilled) (defScope s_xNotBilled) .none kV116 dc116 pm116 an116 cd116 ct116), sl116⟩)
    (c116 : PySem.W.codeIn K cd116 "NotBilled.__init__" = true)
    (k116 : PySem.W.keepIn K (.ref f116) = true)
    (yg116 : PySem.W.findIn K (.ref C116) "__getattribute__" = some (some (.builtin "BaseException.__getattribute__")))
    (yk116 : PySem.W.findIn K (.ref C116) "__getattr__" = some none)
    (yd116 : PySem.W.hasDictIn K C116 = true)
    (ya116 : PySem.W.findIn K (.ref C116) "__class__" = some (some (.builtin "object.__class__")))
    (ym116 : PySem.W.mroIn K C116 (.type "object") = some true)
    (yo116 : PySem.W.subIn K (.ref C116) (.ref CB) = some true)
    (yv116 : PySem.W.subIn K (.ref C116) (.type "ValueError") = some true)
    (x116_100 : PySem.W.subIn K (.ref C116) (.ref C100) = some false)
    (x116_101 : PySem.W.subIn K (.ref C116) (.ref C101) = some false)
    (x116_102 : PySem.W.subIn K (.ref C116) (.ref C102) = some false)
    (x116_103 : PySem.W.subIn K (.ref C116) (.ref C103) = some false)
    (x116_104 : PySem.W.subIn K (.ref C116) (.ref C104) = some false)
    (x116_105 : PySem.W.subIn K (.ref C116) (.ref C105) = some false)
    (x116_106 : PySem.W.subIn K (.ref C116) (.ref C106) = some false)
    (x116_107 : PySem.W.subIn K (.ref C116) (.ref C107) = some false)
    (x116_108 : PySem.W.subIn K (.ref C116) (.ref C108) = some false)
    (x116_109 : PySem.W.subIn K (.ref C116) (.ref C109) = some false)
    (x116_110 : PySem.W.subIn K (.ref C116) (.ref C110) = some false)
    (x116_111 : PySem.W.subIn K (.ref C116) (.ref C111) = some false)
    (x116_112 : PySem.W.subIn K (.ref C116) (.ref C112) = some false)
    (x116_113 : PySem.W.subIn K (.ref C116) (.ref C113) = some false)
    (x116_114 : PySem.W.subIn K (.ref C116) (.ref C114) = some false)
    (x116_115 : PySem.W.subIn K (.ref C116) (.ref C115) = some false)
    (x116_116 : PySem.W.subIn K (.ref C116) (.ref C116) = some true)
    (x116_117 : PySem.W.subIn K (.ref C116) (.ref C117) = some false)
    (x116_118 : PySem.W.subIn K (.ref C116) (.ref C118) = some false)
    (x116_119 : PySem.W.subIn K (.ref C116) (.ref C119) = some false)
    (xs117 : PySem.W.subIn K (.ref C117) (.type "BaseException") = some true)
    (xt117 : PySem.W.typeIn K (.ref C117) = some (.type "type"))
    (xp117 : PySem.W.keepIn K (.ref C117) = true)
    (xl117 : K.lookup C117 = some (excClassObj nm117 qn117 C117 nn117 bs117 bm117 true sn117 sub117 ab117 col117 xd117 ka117 kb117 kc117 kd117 ke117 "ValueError.__new__"))
    (xv117 : PySem.HandSPX.refsVE bm117 = true)
    (xa117 : PySem.W.findIn K (.ref C117) "__setattr__" = some (some (.builtin "object.__setattr__")))
    (xi117 : PySem.W.findIn K (.ref C117) "__init__" = some (some (.ref f117)))
    (xf117 : PySem.W.typeIn K (.ref f117) = some (.type "function"))
    (xo117 : PySem.W.findIn K (.ref C117) "name" = some none)
    (l117 : K.lookup f117 = some ⟨oc117, od117, .func (PySem.W.fnOf "__init__" "BadName.__init__" (defArgs s_xBadName) (defBody s_xBadName) (defScope s_xBadName) .none kV117 dc117 pm117 an117 cd117 ct117), sl117⟩)
    (c117 : PySem.W.codeIn K cd117 "BadName.__init__" = true)
    (k117 : PySem.W.keepIn K (.ref f117) = true)
    (yg117 : PySem.W.findIn K (.ref C117) "__getattribute__" = some (some (.builtin "BaseException.__getattribute__")))
    (yk117 : PySem.W.findIn K (.ref C117) "__getattr__" = some none)
    (yd117 : PySem.W.hasDictIn K C117 = true)
    (ya117 : PySem.W.findIn K (.ref C117) "__class__" = some (some (.builtin "object.__class__")))
    (ym117 : PySem.W.mroIn K C117 (.type "object") = some true)
    (yo117 : PySem.W.subIn K (.ref C117) (.ref CB) = some true)
    (yv117 : PySem.W.subIn K (.ref C117) (.type "ValueError") = some true)
    (x117_100 : PySem.W.subIn K (.ref C117) (.ref C100) = some false)
    (x117_101 : PySem.W.subIn K (.ref C117) (.ref C101) = some false)
    (x117_102 : PySem.W.subIn K (.ref C117) (.ref C102) = some false)
    (x117_103 : PySem.W.subIn K (.ref C117) (.ref C103) = some false)
    (x117_104 : PySem.W.subIn K (.ref C117) (.ref C104) = some false)
    (x117_105 : PySem.W.subIn K (.ref C117) (.ref C105) = some false)
    (x117_106 : PySem.W.subIn K (.ref C117) (.ref C106) = some false)
    (x117_107 : PySem.W.subIn K (.ref C117) (.ref C107) = some false)
    (x117_108 : PySem.W.subIn K (.ref C117) (.ref C108) = some false)
    (x117_109 : PySem.W.subIn K (.ref C117) (.ref C109) = some false)
    (x117_110 : PySem.W.subIn K (.ref C117) (.ref C110) = some false)
    (x117_111 : PySem.W.subIn K (.ref C117) (.ref C111) = some false)
    (x117_112 : PySem.W.subIn K (.ref C117) (.ref C112) = some false)
    (x117_113 : PySem.W.subIn K (.ref C117) (.ref C113) = some false)
    (x117_114 : PySem.W.subIn K (.ref C117) (.ref C114) = some false)
    (x117_115 : PySem.W.subIn K (.ref C117) (.ref C115) = some false)
    (x117_116 : PySem.W.subIn K (.ref C117) (.ref C116) = some false)
    (x117_117 : PySem.W.subIn K (.ref C117) (.ref C117) = some true)
    (x117_118 : PySem.W.subIn K (.ref C117) (.ref C118) = some false)
    (x117_119 : PySem.W.subIn K (.ref C117) (.ref C119) = some false)
    (xs118 : PySem.W.subIn K (.ref C118) (.type "BaseException") = some true)
    (xt118 : PySem.W.typeIn K (.ref C118) = some (.type "type"))
    (xp118 : PySem.W.keepIn K (.ref C118) = true)
    (xl118 : K.lookup C118 = some (excClassObj nm118 qn118 C118 nn118 bs118 bm118 true sn118 sub118 ab118 col118 xd118 ka118 kb118 kc118 kd118 ke118 "ValueError.__new__"))
    (xv118 : PySem.HandSPX.refsVE bm118 = true)
    (xa118 : PySem.W.findIn K (.ref C118) "__setattr__" = some (some (.builtin "object.__setattr__")))
    (xi118 : PySem.W.findIn K (.ref C118) "__init__" = some (some (.ref f118)))
    (xf118 : PySem.W.typeIn K (.ref f118) = some (.type "function"))
    (xo118 : PySem.W.findIn K (.ref C118) "name" = some none)
    (l118 : K.lookup f118 = some ⟨oc118, od118, .func (PySem.W.fnOf "__init__" "NameTaken.__init__" (defArgs s_xNameTaken) (defBody s_xNameTaken) (defScope s_xNameTaken) .none kV118 dc118 pm118 an118 cd118 ct118), sl118⟩)
    (c118 : PySem.W.codeIn K cd118 "NameTaken.__init__" = true)
    (k118 : PySem.W.keepIn K (.ref f118) = true)
    (yg118 : PySem.W.findIn K (.ref C118) "__getattribute__" = some (some (.builtin "BaseException.__getattribute__")))
    (yk118 : PySem.W.findIn K (.ref C118) "__getattr__" = some none)
    (yd118 : PySem.W.hasDictIn K C118 = true)
    (ya118 : PySem.W.findIn K (.ref C118) "__class__" = some (some (.builtin "object.__class__")))
    (ym118 : PySem.W.mroIn K C118 (.type "object") = some true)
    (yo118 : PySem.W.subIn K (.ref C118) (.ref CB) = some true)
    (yv118 : PySem.W.subIn K (.ref C118) (.type "ValueError") = some true)
    (x118_100 : PySem.W.subIn K (.ref C118) (.ref C100) = some false)
    (x118_101 : PySem.W.subIn K (.ref C118) (.ref C101) = some false)
    (x118_102 : PySem.W.subIn K (.ref C118) (.ref C102) = some false)
    (x118_103 : PySem.W.subIn K (.ref C118) (.ref C103) = some false)
    (x118_104 : PySem.W.subIn K (.ref C118) (.ref C104) = some false)
    (x118_105 : PySem.W.subIn K (.ref C118) (.ref C105) = some false)
    (x118_106 : PySem.W.subIn K (.ref C118) (.ref C106) = some false)
    (x118_107 : PySem.W.subIn K (.ref C118) (.ref C107) = some false)
    (x118_108 : PySem.W.subIn K (.ref C118) (.ref C108) = some false)
    (x118_109 : PySem.W.subIn K (.ref C118) (.ref C109) = some false)
    (x118_110 : PySem.W.subIn K (.ref C118) (.ref C110) = some false)
    (x118_111 : PySem.W.subIn K (.ref C118) (.ref C111) = some false)
    (x118_112 : PySem.W.subIn K (.ref C118) (.ref C112) = some false)
    (x118_113 : PySem.W.subIn K (.ref C118) (.ref C113) = some false)
    (x118_114 : PySem.W.subIn K (.ref C118) (.ref C114) = some false)
    (x118_115 : PySem.W.subIn K (.ref C118) (.ref C115) = some false)
    (x118_116 : PySem.W.subIn K (.ref C118) (.ref C116) = some false)
    (x118_117 : PySem.W.subIn K (.ref C118) (.ref C117) = some false)
    (x118_118 : PySem.W.subIn K (.ref C118) (.ref C118) = some true)
    (x118_119 : PySem.W.subIn K (.ref C118) (.ref C119) = some false)
    (xs119 : PySem.W.subIn K (.ref C119) (.type "BaseException") = some true)
    (xt119 : PySem.W.typeIn K (.ref C119) = some (.type "type"))
    (xp119 : PySem.W.keepIn K (.ref C119) = true)
    (xl119 : K.lookup C119 = some (excClassObj nm119 qn119 C119 nn119 bs119 bm119 true sn119 sub119 ab119 col119 xd119 ka119 kb119 kc119 kd119 ke119 "ValueError.__new__"))
    (xv119 : PySem.HandSPX.refsVE bm119 = true)
    (xa119 : PySem.W.findIn K (.ref C119) "__setattr__" = some (some (.builtin "object.__setattr__")))
    (xi119 : PySem.W.findIn K (.ref C119) "__init__" = some (some (.ref f119)))
    (xf119 : PySem.W.typeIn K (.ref f119) = some (.type "function"))
    (xo119 : PySem.W.findIn K (.ref C119) "name" = some none)
    (l119 : K.lookup f119 = some ⟨oc119, od119, .func (PySem.W.fnOf "__init__" "NoPolicy.__init__" (defArgs s_xNoPolicy) (defBody s_xNoPolicy) (defScope s_xNoPolicy) .none kV119 dc119 pm119 an119 cd119 ct119), sl119⟩)
    (c119 : PySem.W.codeIn K cd119 "NoPolicy.__init__" = true)
    (k119 : PySem.W.keepIn K (.ref f119) = true)
    (yg119 : PySem.W.findIn K (.ref C119) "__getattribute__" = some (some (.builtin "BaseException.__getattribute__")))
    (yk119 : PySem.W.findIn K (.ref C119) "__getattr__" = some none)
    (yd119 : PySem.W.hasDictIn K C119 = true)
    (ya119 : PySem.W.findIn K (.ref C119) "__class__" = some (some (.builtin "object.__class__")))
    (ym119 : PySem.W.mroIn K C119 (.type "object") = some true)
    (yo119 : PySem.W.subIn K (.ref C119) (.ref CB) = some true)
    (yv119 : PySem.W.subIn K (.ref C119) (.type "ValueError") = some true)
    (x119_100 : PySem.W.subIn K (.ref C119) (.ref C100) = some false)
    (x119_101 : PySem.W.subIn K (.ref C119) (.ref C101) = some false)
    (x119_102 : PySem.W.subIn K (.ref C119) (.ref C102) = some false)
    (x119_103 : PySem.W.subIn K (.ref C119) (.ref C103) = some false)
    (x119_104 : PySem.W.subIn K (.ref C119) (.ref C104) = some false)
    (x119_105 : PySem.W.subIn K (.ref C119) (.ref C105) = some false)
    (x119_106 : PySem.W.subIn K (.ref C119) (.ref C106) = some false)
    (x119_107 : PySem.W.subIn K (.ref C119) (.ref C107) = some false)
    (x119_108 : PySem.W.subIn K (.ref C119) (.ref C108) = some false)
    (x119_109 : PySem.W.subIn K (.ref C119) (.ref C109) = some false)
    (x119_110 : PySem.W.subIn K (.ref C119) (.ref C110) = some false)
    (x119_111 : PySem.W.subIn K (.ref C119) (.ref C111) = some false)
    (x119_112 : PySem.W.subIn K (.ref C119) (.ref C112) = some false)
    (x119_113 : PySem.W.subIn K (.ref C119) (.ref C113) = some false)
    (x119_114 : PySem.W.subIn K (.ref C119) (.ref C114) = some false)
    (x119_115 : PySem.W.subIn K (.ref C119) (.ref C115) = some false)
    (x119_116 : PySem.W.subIn K (.ref C119) (.ref C116) = some false)
    (x119_117 : PySem.W.subIn K (.ref C119) (.ref C117) = some false)
    (x119_118 : PySem.W.subIn K (.ref C119) (.ref C118) = some false)
    (x119_119 : PySem.W.subIn K (.ref C119) (.ref C119) = some true)
    (yn : PySem.W.specialIn K (.builtin "object.__class__") "__get__" = some (some (.builtin "getset_descriptor.__get__")))
    (yt : PySem.W.takesIn K (.builtin "object.__class__") = some true)
    (xeB : PySem.W.excIn K CB veB "ValueError.__new__" = true)
    (xpB : PySem.W.keepIn K (.ref CB) = true)
    (xsB : PySem.W.subIn K (.ref CB) (.type "BaseException") = some true)
    (ygB : PySem.W.findIn K (.ref CB) "__getattribute__" = some (some (.builtin "BaseException.__getattribute__")))
    (ykB : PySem.W.findIn K (.ref CB) "__getattr__" = some none)
    (yaB : PySem.W.findIn K (.ref CB) "__class__" = some (some (.builtin "object.__class__")))
    (ymB : PySem.W.mroIn K CB (.type "object") = some true)
    (xB_100 : PySem.W.subIn K (.ref CB) (.ref C100) = some false)
    (xB_101 : PySem.W.subIn K (.ref CB) (.ref C101) = some false)
    (xB_102 : PySem.W.subIn K (.ref CB) (.ref C102) = some false)
    (xB_103 : PySem.W.subIn K (.ref CB) (.ref C103) = some false)
    (xB_104 : PySem.W.subIn K (.ref CB) (.ref C104) = some false)
    (xB_105 : PySem.W.subIn K (.ref CB) (.ref C105) = some false)
    (xB_106 : PySem.W.subIn K (.ref CB) (.ref C106) = some false)
    (xB_107 : PySem.W.subIn K (.ref CB) (.ref C107) = some false)
    (xB_108 : PySem.W.subIn K (.ref CB) (.ref C108) = some false)
    (xB_109 : PySem.W.subIn K (.ref CB) (.ref C109) = some false)
    (xB_110 : PySem.W.subIn K (.ref CB) (.ref C110) = some false)
    (xB_111 : PySem.W.subIn K (.ref CB) (.ref C111) = some false)
    (xB_112 : PySem.W.subIn K (.ref CB) (.ref C112) = some false)
    (xB_113 : PySem.W.subIn K (.ref CB) (.ref C113) = some false)
    (xB_114 : PySem.W.subIn K (.ref CB) (.ref C114) = some false)
    (xB_115 : PySem.W.subIn K (.ref CB) (.ref C115) = some false)
    (xB_116 : PySem.W.subIn K (.ref CB) (.ref C116) = some false)
    (xB_117 : PySem.W.subIn K (.ref CB) (.ref C117) = some false)
    (xB_118 : PySem.W.subIn K (.ref CB) (.ref C118) = some false)
    (xB_119 : PySem.W.subIn K (.ref CB) (.ref C119) = some false) :
    ∃ fd : FuncData, (∀ (s : Shared) (v : Value), BindsTo s fd ⟨[v], []⟩ [("_law_script", v)]) ∧ ∀ base : Heap, K.In base → base.Ns mainGlobals mg → FnOk l.prog w K mg base (L2.CX l.prog w) 4 fa fd ["_law_script"] (spScr K []) := by
  have e := hfa.symm.trans (PySem.W.mg_of X G a6)
  cases e
  have F0 := fun_mk (st := s__law_bag) l0 c0 k0
  have B0 := F0.binds (ps := ["_law_script"]) fun _ _ _ _ _ _ us hl => match us, hl with | [_], _ => rfl
  have F1 := fun_mk (st := s__law_errors) l1 c1 k1
  have B1 := F1.binds (ps := ["_law_part"]) fun _ _ _ _ _ _ us hl => match us, hl with | [_], _ => rfl
  have F2 := fun_mk (st := s__law_draw) l2 c2 k2
  have B2 := F2.binds (ps := ["_law_bag_here", "_law_size"]) fun _ _ _ _ _ _ us hl => match us, hl with | [_, _], _ => rfl
  have F3 := fun_mk (st := s__law_mixed) l3 c3 k3
  have B3 := F3.binds (ps := ["_law_bag_here", "_law_items"]) fun _ _ _ _ _ _ us hl => match us, hl with | [_, _], _ => rfl
  have F4 := fun_mk (st := s__law_parts) l4 c4 k4
  have B4 := F4.binds (ps := ["_law_errors_here"]) fun _ _ _ _ _ _ us hl => match us, hl with | [_], _ => rfl
  have F5 := fun_mk (st := s__law_kinds) l5 c5 k5
  have B5 := F5.binds (ps := ["_law_error"]) fun _ _ _ _ _ _ us hl => match us, hl with | [_], _ => rfl
  have F6 := fun_mk (st := s_law) l6 c6 k6
  have B6 := F6.binds (ps := ["_law_script"]) fun _ _ _ _ _ _ us hl => match us, hl with | [_], _ => rfl
  have F110 := fun_mk (st := s_xNoClass) l110 c110 k110
  have B110 := F110.binds (ps := ["self", "at"]) fun _ _ _ _ _ _ us hl => match us, hl with | [_, _], _ => rfl
  have F111 := fun_mk (st := s_xBadClaims) l111 c111 k111
  have B111 := F111.binds (ps := ["self", "claims"]) fun _ _ _ _ _ _ us hl => match us, hl with | [_, _], _ => rfl
  have F112 := fun_mk (st := s_xTooMany) l112 c112 k112
  have B112 := F112.binds (ps := ["self", "count"]) fun _ _ _ _ _ _ us hl => match us, hl with | [_, _], _ => rfl
  have F113 := fun_mk (st := s_xBadYears) l113 c113 k113
  have B113 := F113.binds (ps := ["self", "years"]) fun _ _ _ _ _ _ us hl => match us, hl with | [_, _], _ => rfl
  have F114 := fun_mk (st := s_xNoPlace) l114 c114 k114
  have B114 := F114.binds (ps := ["self", "place"]) fun _ _ _ _ _ _ us hl => match us, hl with | [_, _], _ => rfl
  have F115 := fun_mk (st := s_xBilled) l115 c115 k115
  have B115 := F115.binds (ps := ["self", "year"]) fun _ _ _ _ _ _ us hl => match us, hl with | [_, _], _ => rfl
  have F116 := fun_mk (st := s_xNotBilled) l116 c116 k116
  have B116 := F116.binds (ps := ["self", "year"]) fun _ _ _ _ _ _ us hl => match us, hl with | [_, _], _ => rfl
  have F117 := fun_mk (st := s_xBadName) l117 c117 k117
  have B117 := F117.binds (ps := ["self", "name"]) fun _ _ _ _ _ _ us hl => match us, hl with | [_, _], _ => rfl
  have F118 := fun_mk (st := s_xNameTaken) l118 c118 k118
  have B118 := F118.binds (ps := ["self", "name"]) fun _ _ _ _ _ _ us hl => match us, hl with | [_, _], _ => rfl
  have F119 := fun_mk (st := s_xNoPolicy) l119 c119 k119
  have B119 := F119.binds (ps := ["self", "name"]) fun _ _ _ _ _ _ us hl => match us, hl with | [_, _], _ => rfl
  refine ⟨PySem.W.fnOf "law" "law" (defArgs s_law) (defBody s_law) (defScope s_law) .none kV6 dc6 pm6 an6 cd6 ct6, fun s v => .of_eq rfl, fun base _ _ => law_fin (fun i => match i with | 100 => C100 | 101 => C101 | 102 => C102 | 103 => C103 | 104 => C104 | 105 => C105 | 106 => C106 | 107 => C107 | 108 => C108 | 109 => C109 | 110 => C110 | 111 => C111 | 112 => C112 | 113 => C113 | 114 => C114 | 115 => C115 | 116 => C116 | 117 => C117 | 118 => C118 | 119 => C119 | _ => 0) [] (m := m_law) (fun scr hs sa ns hS => ?_) law_pure⟩
  have tx : Txt K mg (fun i => match i with | 100 => C100 | 101 => C101 | 102 => C102 | 103 => C103 | 104 => C104 | 105 => C105 | 106 => C106 | 107 => C107 | 108 => C108 | 109 => C109 | 110 => C110 | 111 => C111 | 112 => C112 | 113 => C113 | 114 => C114 | 115 => C115 | 116 => C116 | 117 => C117 | 118 => C118 | 119 => C119 | _ => 0) := ⟨PySem.W.mg_none_of X G b_ValueError, PySem.W.mg_none_of X G b_abs, PySem.W.mg_none_of X G b_any, PySem.W.mg_none_of X G b_int, PySem.W.mg_none_of X G b_isinstance, PySem.W.mg_none_of X G b_len, PySem.W.mg_none_of X G b_list, PySem.W.mg_none_of X G b_range, baseC_of (PySem.W.mg_of X G aB) gB rB fB, PySem.W.mg_of X G aC100, ⟨xe100, xp100, xs100, xt100⟩, PySem.W.mg_of X G aC101, ⟨xe101, xp101, xs101, xt101⟩, PySem.W.mg_of X G aC102, ⟨xe102, xp102, xs102, xt102⟩, PySem.W.mg_of X G aC103, ⟨xe103, xp103, xs103, xt103⟩, PySem.W.mg_of X G aC104, ⟨xe104, xp104, xs104, xt104⟩, PySem.W.mg_of X G aC105, ⟨xe105, xp105, xs105, xt105⟩, PySem.W.mg_of X G aC106, ⟨xe106, xp106, xs106, xt106⟩, PySem.W.mg_of X G aC107, ⟨xe107, xp107, xs107, xt107⟩, PySem.W.mg_of X G aC108, ⟨xe108, xp108, xs108, xt108⟩, PySem.W.mg_of X G aC109, ⟨xe109, xp109, xs109, xt109⟩, PySem.W.mg_of X G aC110, PySem.W.mg_of X G aC111, PySem.W.mg_of X G aC112, PySem.W.mg_of X G aC113, PySem.W.mg_of X G aC114, PySem.W.mg_of X G aC115, PySem.W.mg_of X G aC116, PySem.W.mg_of X G aC117, PySem.W.mg_of X G aC118, PySem.W.mg_of X G aC119, ⟨⟨yg100, yk100, xs100, yd100, ya100, yn, yt, ym100⟩, ⟨kitOne_ofB yd100 xt100 x100_100 x100_100, kitOne_ofB yd101 xt101 x100_101 x101_101, kitOne_ofB yd102 xt102 x100_102 x102_102, kitOne_ofB yd103 xt103 x100_103 x103_103, kitOne_ofB yd104 xt104 x100_104 x104_104, kitOne_ofB yd105 xt105 x100_105 x105_105, kitOne_ofB yd106 xt106 x100_106 x106_106, kitOne_ofB yd107 xt107 x100_107 x107_107, kitOne_ofB yd108 xt108 x100_108 x108_108, kitOne_ofB yd109 xt109 x100_109 x109_109, kitOne_ofB yd110 xt110 x100_110 x110_110, kitOne_ofB yd111 xt111 x100_111 x111_111, kitOne_ofB yd112 xt112 x100_112 x112_112, kitOne_ofB yd113 xt113 x100_113 x113_113, kitOne_ofB yd114 xt114 x100_114 x114_114, kitOne_ofB yd115 xt115 x100_115 x115_115, kitOne_ofB yd116 xt116 x100_116 x116_116, kitOne_ofB yd117 xt117 x100_117 x117_117, kitOne_ofB yd118 xt118 x100_118 x118_118, kitOne_ofB yd119 xt119 x100_119 x119_119, trivial⟩, ⟨yg101, yk101, xs101, yd101, ya101, yn, yt, ym101⟩, ⟨kitOne_ofB yd100 xt100 x101_100 x100_100, kitOne_ofB yd101 xt101 x101_101 x101_101, kitOne_ofB yd102 xt102 x101_102 x102_102, kitOne_ofB yd103 xt103 x101_103 x103_103, kitOne_ofB yd104 xt104 x101_104 x104_104, kitOne_ofB yd105 xt105 x101_105 x105_105, kitOne_ofB yd106 xt106 x101_106 x106_106, kitOne_ofB yd107 xt107 x101_107 x107_107, kitOne_ofB yd108 xt108 x101_108 x108_108, kitOne_ofB yd109 xt109 x101_109 x109_109, kitOne_ofB yd110 xt110 x101_110 x110_110, kitOne_ofB yd111 xt111 x101_111 x111_111, kitOne_ofB yd112 xt112 x101_112 x112_112, kitOne_ofB yd113 xt113 x101_113 x113_113, kitOne_ofB yd114 xt114 x101_114 x114_114, kitOne_ofB yd115 xt115 x101_115 x115_115, kitOne_ofB yd116 xt116 x101_116 x116_116, kitOne_ofB yd117 xt117 x101_117 x117_117, kitOne_ofB yd118 xt118 x101_118 x118_118, kitOne_ofB yd119 xt119 x101_119 x119_119, trivial⟩, ⟨yg102, yk102, xs102, yd102, ya102, yn, yt, ym102⟩, ⟨kitOne_ofB yd100 xt100 x102_100 x100_100, kitOne_ofB yd101 xt101 x102_101 x101_101, kitOne_ofB yd102 xt102 x102_102 x102_102, kitOne_ofB yd103 xt103 x102_103 x103_103, kitOne_ofB yd104 xt104 x102_104 x104_104, kitOne_ofB yd105 xt105 x102_105 x105_105, kitOne_ofB yd106 xt106 x102_106 x106_106, kitOne_ofB yd107 xt107 x102_107 x107_107, kitOne_ofB yd108 xt108 x102_108 x108_108, kitOne_ofB yd109 xt109 x102_109 x109_109, kitOne_ofB yd110 xt110 x102_110 x110_110, kitOne_ofB yd111 xt111 x102_111 x111_111, kitOne_ofB yd112 xt112 x102_112 x112_112, kitOne_ofB yd113 xt113 x102_113 x113_113, kitOne_ofB yd114 xt114 x102_114 x114_114, kitOne_ofB yd115 xt115 x102_115 x115_115, kitOne_ofB yd116 xt116 x102_116 x116_116, kitOne_ofB yd117 xt117 x102_117 x117_117, kitOne_ofB yd118 xt118 x102_118 x118_118, kitOne_ofB yd119 xt119 x102_119 x119_119, trivial⟩, ⟨yg103, yk103, xs103, yd103, ya103, yn, yt, ym103⟩, ⟨kitOne_ofB yd100 xt100 x103_100 x100_100, kitOne_ofB yd101 xt101 x103_101 x101_101, kitOne_ofB yd102 xt102 x103_102 x102_102, kitOne_ofB yd103 xt103 x103_103 x103_103, kitOne_ofB yd104 xt104 x103_104 x104_104, kitOne_ofB yd105 xt105 x103_105 x105_105, kitOne_ofB yd106 xt106 x103_106 x106_106, kitOne_ofB yd107 xt107 x103_107 x107_107, kitOne_ofB yd108 xt108 x103_108 x108_108, kitOne_ofB yd109 xt109 x103_109 x109_109, kitOne_ofB yd110 xt110 x103_110 x110_110, kitOne_ofB yd111 xt111 x103_111 x111_111, kitOne_ofB yd112 xt112 x103_112 x112_112, kitOne_ofB yd113 xt113 x103_113 x113_113, kitOne_ofB yd114 xt114 x103_114 x114_114, kitOne_ofB yd115 xt115 x103_115 x115_115, kitOne_ofB yd116 xt116 x103_116 x116_116, kitOne_ofB yd117 xt117 x103_117 x117_117, kitOne_ofB yd118 xt118 x103_118 x118_118, kitOne_ofB yd119 xt119 x103_119 x119_119, trivial⟩, ⟨yg104, yk104, xs104, yd104, ya104, yn, yt, ym104⟩, ⟨kitOne_ofB yd100 xt100 x104_100 x100_100, kitOne_ofB yd101 xt101 x104_101 x101_101, kitOne_ofB yd102 xt102 x104_102 x102_102, kitOne_ofB yd103 xt103 x104_103 x103_103, kitOne_ofB yd104 xt104 x104_104 x104_104, kitOne_ofB yd105 xt105 x104_105 x105_105, kitOne_ofB yd106 xt106 x104_106 x106_106, kitOne_ofB yd107 xt107 x104_107 x107_107, kitOne_ofB yd108 xt108 x104_108 x108_108, kitOne_ofB yd109 xt109 x104_109 x109_109, kitOne_ofB yd110 xt110 x104_110 x110_110, kitOne_ofB yd111 xt111 x104_111 x111_111, kitOne_ofB yd112 xt112 x104_112 x112_112, kitOne_ofB yd113 xt113 x104_113 x113_113, kitOne_ofB yd114 xt114 x104_114 x114_114, kitOne_ofB yd115 xt115 x104_115 x115_115, kitOne_ofB yd116 xt116 x104_116 x116_116, kitOne_ofB yd117 xt117 x104_117 x117_117, kitOne_ofB yd118 xt118 x104_118 x118_118, kitOne_ofB yd119 xt119 x104_119 x119_119, trivial⟩, ⟨yg105, yk105, xs105, yd105, ya105, yn, yt, ym105⟩, ⟨kitOne_ofB yd100 xt100 x105_100 x100_100, kitOne_ofB yd101 xt101 x105_101 x101_101, kitOne_ofB yd102 xt102 x105_102 x102_102, kitOne_ofB yd103 xt103 x105_103 x103_103, kitOne_ofB yd104 xt104 x105_104 x104_104, kitOne_ofB yd105 xt105 x105_105 x105_105, kitOne_ofB yd106 xt106 x105_106 x106_106, kitOne_ofB yd107 xt107 x105_107 x107_107, kitOne_ofB yd108 xt108 x105_108 x108_108, kitOne_ofB yd109 xt109 x105_109 x109_109, kitOne_ofB yd110 xt110 x105_110 x110_110, kitOne_ofB yd111 xt111 x105_111 x111_111, kitOne_ofB yd112 xt112 x105_112 x112_112, kitOne_ofB yd113 xt113 x105_113 x113_113, kitOne_ofB yd114 xt114 x105_114 x114_114, kitOne_ofB yd115 xt115 x105_115 x115_115, kitOne_ofB yd116 xt116 x105_116 x116_116, kitOne_ofB yd117 xt117 x105_117 x117_117, kitOne_ofB yd118 xt118 x105_118 x118_118, kitOne_ofB yd119 xt119 x105_119 x119_119, trivial⟩, ⟨yg106, yk106, xs106, yd106, ya106, yn, yt, ym106⟩, ⟨kitOne_ofB yd100 xt100 x106_100 x100_100, kitOne_ofB yd101 xt101 x106_101 x101_101, kitOne_ofB yd102 xt102 x106_102 x102_102, kitOne_ofB yd103 xt103 x106_103 x103_103, kitOne_ofB yd104 xt104 x106_104 x104_104, kitOne_ofB yd105 xt105 x106_105 x105_105, kitOne_ofB yd106 xt106 x106_106 x106_106, kitOne_ofB yd107 xt107 x106_107 x107_107, kitOne_ofB yd108 xt108 x106_108 x108_108, kitOne_ofB yd109 xt109 x106_109 x109_109, kitOne_ofB yd110 xt110 x106_110 x110_110, kitOne_ofB yd111 xt111 x106_111 x111_111, kitOne_ofB yd112 xt112 x106_112 x112_112, kitOne_ofB yd113 xt113 x106_113 x113_113, kitOne_ofB yd114 xt114 x106_114 x114_114, kitOne_ofB yd115 xt115 x106_115 x115_115, kitOne_ofB yd116 xt116 x106_116 x116_116, kitOne_ofB yd117 xt117 x106_117 x117_117, kitOne_ofB yd118 xt118 x106_118 x118_118, kitOne_ofB yd119 xt119 x106_119 x119_119, trivial⟩, ⟨yg107, yk107, xs107, yd107, ya107, yn, yt, ym107⟩, ⟨kitOne_ofB yd100 xt100 x107_100 x100_100, kitOne_ofB yd101 xt101 x107_101 x101_101, kitOne_ofB yd102 xt102 x107_102 x102_102, kitOne_ofB yd103 xt103 x107_103 x103_103, kitOne_ofB yd104 xt104 x107_104 x104_104, kitOne_ofB yd105 xt105 x107_105 x105_105, kitOne_ofB yd106 xt106 x107_106 x106_106, kitOne_ofB yd107 xt107 x107_107 x107_107, kitOne_ofB yd108 xt108 x107_108 x108_108, kitOne_ofB yd109 xt109 x107_109 x109_109, kitOne_ofB yd110 xt110 x107_110 x110_110, kitOne_ofB yd111 xt111 x107_111 x111_111, kitOne_ofB yd112 xt112 x107_112 x112_112, kitOne_ofB yd113 xt113 x107_113 x113_113, kitOne_ofB yd114 xt114 x107_114 x114_114, kitOne_ofB yd115 xt115 x107_115 x115_115, kitOne_ofB yd116 xt116 x107_116 x116_116, kitOne_ofB yd117 xt117 x107_117 x117_117, kitOne_ofB yd118 xt118 x107_118 x118_118, kitOne_ofB yd119 xt119 x107_119 x119_119, trivial⟩, ⟨yg108, yk108, xs108, yd108, ya108, yn, yt, ym108⟩, ⟨kitOne_ofB yd100 xt100 x108_100 x100_100, kitOne_ofB yd101 xt101 x108_101 x101_101, kitOne_ofB yd102 xt102 x108_102 x102_102, kitOne_ofB yd103 xt103 x108_103 x103_103, kitOne_ofB yd104 xt104 x108_104 x104_104, kitOne_ofB yd105 xt105 x108_105 x105_105, kitOne_ofB yd106 xt106 x108_106 x106_106, kitOne_ofB yd107 xt107 x108_107 x107_107, kitOne_ofB yd108 xt108 x108_108 x108_108, kitOne_ofB yd109 xt109 x108_109 x109_109, kitOne_ofB yd110 xt110 x108_110 x110_110, kitOne_ofB yd111 xt111 x108_111 x111_111, kitOne_ofB yd112 xt112 x108_112 x112_112, kitOne_ofB yd113 xt113 x108_113 x113_113, kitOne_ofB yd114 xt114 x108_114 x114_114, kitOne_ofB yd115 xt115 x108_115 x115_115, kitOne_ofB yd116 xt116 x108_116 x116_116, kitOne_ofB yd117 xt117 x108_117 x117_117, kitOne_ofB yd118 xt118 x108_118 x118_118, kitOne_ofB yd119 xt119 x108_119 x119_119, trivial⟩, ⟨yg109, yk109, xs109, yd109, ya109, yn, yt, ym109⟩, ⟨kitOne_ofB yd100 xt100 x109_100 x100_100, kitOne_ofB yd101 xt101 x109_101 x101_101, kitOne_ofB yd102 xt102 x109_102 x102_102, kitOne_ofB yd103 xt103 x109_103 x103_103, kitOne_ofB yd104 xt104 x109_104 x104_104, kitOne_ofB yd105 xt105 x109_105 x105_105, kitOne_ofB yd106 xt106 x109_106 x106_106, kitOne_ofB yd107 xt107 x109_107 x107_107, kitOne_ofB yd108 xt108 x109_108 x108_108, kitOne_ofB yd109 xt109 x109_109 x109_109, kitOne_ofB yd110 xt110 x109_110 x110_110, kitOne_ofB yd111 xt111 x109_111 x111_111, kitOne_ofB yd112 xt112 x109_112 x112_112, kitOne_ofB yd113 xt113 x109_113 x113_113, kitOne_ofB yd114 xt114 x109_114 x114_114, kitOne_ofB yd115 xt115 x109_115 x115_115, kitOne_ofB yd116 xt116 x109_116 x116_116, kitOne_ofB yd117 xt117 x109_117 x117_117, kitOne_ofB yd118 xt118 x109_118 x118_118, kitOne_ofB yd119 xt119 x109_119 x119_119, trivial⟩, ⟨yg110, yk110, xs110, yd110, ya110, yn, yt, ym110⟩, ⟨kitOne_ofB yd100 xt100 x110_100 x100_100, kitOne_ofB yd101 xt101 x110_101 x101_101, kitOne_ofB yd102 xt102 x110_102 x102_102, kitOne_ofB yd103 xt103 x110_103 x103_103, kitOne_ofB yd104 xt104 x110_104 x104_104, kitOne_ofB yd105 xt105 x110_105 x105_105, kitOne_ofB yd106 xt106 x110_106 x106_106, kitOne_ofB yd107 xt107 x110_107 x107_107, kitOne_ofB yd108 xt108 x110_108 x108_108, kitOne_ofB yd109 xt109 x110_109 x109_109, kitOne_ofB yd110 xt110 x110_110 x110_110, kitOne_ofB yd111 xt111 x110_111 x111_111, kitOne_ofB yd112 xt112 x110_112 x112_112, kitOne_ofB yd113 xt113 x110_113 x113_113, kitOne_ofB yd114 xt114 x110_114 x114_114, kitOne_ofB yd115 xt115 x110_115 x115_115, kitOne_ofB yd116 xt116 x110_116 x116_116, kitOne_ofB yd117 xt117 x110_117 x117_117, kitOne_ofB yd118 xt118 x110_118 x118_118, kitOne_ofB yd119 xt119 x110_119 x119_119, trivial⟩, ⟨yg111, yk111, xs111, yd111, ya111, yn, yt, ym111⟩, ⟨kitOne_ofB yd100 xt100 x111_100 x100_100, kitOne_ofB yd101 xt101 x111_101 x101_101, kitOne_ofB yd102 xt102 x111_102 x102_102, kitOne_ofB yd103 xt103 x111_103 x103_103, kitOne_ofB yd104 xt104 x111_104 x104_104, kitOne_ofB yd105 xt105 x111_105 x105_105, kitOne_ofB yd106 xt106 x111_106 x106_106, kitOne_ofB yd107 xt107 x111_107 x107_107, kitOne_ofB yd108 xt108 x111_108 x108_108, kitOne_ofB yd109 xt109 x111_109 x109_109, kitOne_ofB yd110 xt110 x111_110 x110_110, kitOne_ofB yd111 xt111 x111_111 x111_111, kitOne_ofB yd112 xt112 x111_112 x112_112, kitOne_ofB yd113 xt113 x111_113 x113_113, kitOne_ofB yd114 xt114 x111_114 x114_114, kitOne_ofB yd115 xt115 x111_115 x115_115, kitOne_ofB yd116 xt116 x111_116 x116_116, kitOne_ofB yd117 xt117 x111_117 x117_117, kitOne_ofB yd118 xt118 x111_118 x118_118, kitOne_ofB yd119 xt119 x111_119 x119_119, trivial⟩, ⟨yg112, yk112, xs112, yd112, ya112, yn, yt, ym112⟩, ⟨kitOne_ofB yd100 xt100 x112_100 x100_100, kitOne_ofB yd101 xt101 x112_101 x101_101, kitOne_ofB yd102 xt102 x112_102 x102_102, kitOne_ofB yd103 xt103 x112_103 x103_103, kitOne_ofB yd104 xt104 x112_104 x104_104, kitOne_ofB yd105 xt105 x112_105 x105_105, kitOne_ofB yd106 xt106 x112_106 x106_106, kitOne_ofB yd107 xt107 x112_107 x107_107, kitOne_ofB yd108 xt108 x112_108 x108_108, kitOne_ofB yd109 xt109 x112_109 x109_109, kitOne_ofB yd110 xt110 x112_110 x110_110, kitOne_ofB yd111 xt111 x112_111 x111_111, kitOne_ofB yd112 xt112 x112_112 x112_112, kitOne_ofB yd113 xt113 x112_113 x113_113, kitOne_ofB yd114 xt114 x112_114 x114_114, kitOne_ofB yd115 xt115 x112_115 x115_115, kitOne_ofB yd116 xt116 x112_116 x116_116, kitOne_ofB yd117 xt117 x112_117 x117_117, kitOne_ofB yd118 xt118 x112_118 x118_118, kitOne_ofB yd119 xt119 x112_119 x119_119, trivial⟩, ⟨yg113, yk113, xs113, yd113, ya113, yn, yt, ym113⟩, ⟨kitOne_ofB yd100 xt100 x113_100 x100_100, kitOne_ofB yd101 xt101 x113_101 x101_101, kitOne_ofB yd102 xt102 x113_102 x102_102, kitOne_ofB yd103 xt103 x113_103 x103_103, kitOne_ofB yd104 xt104 x113_104 x104_104, kitOne_ofB yd105 xt105 x113_105 x105_105, kitOne_ofB yd106 xt106 x113_106 x106_106, kitOne_ofB yd107 xt107 x113_107 x107_107, kitOne_ofB yd108 xt108 x113_108 x108_108, kitOne_ofB yd109 xt109 x113_109 x109_109, kitOne_ofB yd110 xt110 x113_110 x110_110, kitOne_ofB yd111 xt111 x113_111 x111_111, kitOne_ofB yd112 xt112 x113_112 x112_112, kitOne_ofB yd113 xt113 x113_113 x113_113, kitOne_ofB yd114 xt114 x113_114 x114_114, kitOne_ofB yd115 xt115 x113_115 x115_115, kitOne_ofB yd116 xt116 x113_116 x116_116, kitOne_ofB yd117 xt117 x113_117 x117_117, kitOne_ofB yd118 xt118 x113_118 x118_118, kitOne_ofB yd119 xt119 x113_119 x119_119, trivial⟩, ⟨yg114, yk114, xs114, yd114, ya114, yn, yt, ym114⟩, ⟨kitOne_ofB yd100 xt100 x114_100 x100_100, kitOne_ofB yd101 xt101 x114_101 x101_101, kitOne_ofB yd102 xt102 x114_102 x102_102, kitOne_ofB yd103 xt103 x114_103 x103_103, kitOne_ofB yd104 xt104 x114_104 x104_104, kitOne_ofB yd105 xt105 x114_105 x105_105, kitOne_ofB yd106 xt106 x114_106 x106_106, kitOne_ofB yd107 xt107 x114_107 x107_107, kitOne_ofB yd108 xt108 x114_108 x108_108, kitOne_ofB yd109 xt109 x114_109 x109_109, kitOne_ofB yd110 xt110 x114_110 x110_110, kitOne_ofB yd111 xt111 x114_111 x111_111, kitOne_ofB yd112 xt112 x114_112 x112_112, kitOne_ofB yd113 xt113 x114_113 x113_113, kitOne_ofB yd114 xt114 x114_114 x114_114, kitOne_ofB yd115 xt115 x114_115 x115_115, kitOne_ofB yd116 xt116 x114_116 x116_116, kitOne_ofB yd117 xt117 x114_117 x117_117, kitOne_ofB yd118 xt118 x114_118 x118_118, kitOne_ofB yd119 xt119 x114_119 x119_119, trivial⟩, ⟨yg115, yk115, xs115, yd115, ya115, yn, yt, ym115⟩, ⟨kitOne_ofB yd100 xt100 x115_100 x100_100, kitOne_ofB yd101 xt101 x115_101 x101_101, kitOne_ofB yd102 xt102 x115_102 x102_102, kitOne_ofB yd103 xt103 x115_103 x103_103, kitOne_ofB yd104 xt104 x115_104 x104_104, kitOne_ofB yd105 xt105 x115_105 x105_105, kitOne_ofB yd106 xt106 x115_106 x106_106, kitOne_ofB yd107 xt107 x115_107 x107_107, kitOne_ofB yd108 xt108 x115_108 x108_108, kitOne_ofB yd109 xt109 x115_109 x109_109, kitOne_ofB yd110 xt110 x115_110 x110_110, kitOne_ofB yd111 xt111 x115_111 x111_111, kitOne_ofB yd112 xt112 x115_112 x112_112, kitOne_ofB yd113 xt113 x115_113 x113_113, kitOne_ofB yd114 xt114 x115_114 x114_114, kitOne_ofB yd115 xt115 x115_115 x115_115, kitOne_ofB yd116 xt116 x115_116 x116_116, kitOne_ofB yd117 xt117 x115_117 x117_117, kitOne_ofB yd118 xt118 x115_118 x118_118, kitOne_ofB yd119 xt119 x115_119 x119_119, trivial⟩, ⟨yg116, yk116, xs116, yd116, ya116, yn, yt, ym116⟩, ⟨kitOne_ofB yd100 xt100 x116_100 x100_100, kitOne_ofB yd101 xt101 x116_101 x101_101, kitOne_ofB yd102 xt102 x116_102 x102_102, kitOne_ofB yd103 xt103 x116_103 x103_103, kitOne_ofB yd104 xt104 x116_104 x104_104, kitOne_ofB yd105 xt105 x116_105 x105_105, kitOne_ofB yd106 xt106 x116_106 x106_106, kitOne_ofB yd107 xt107 x116_107 x107_107, kitOne_ofB yd108 xt108 x116_108 x108_108, kitOne_ofB yd109 xt109 x116_109 x109_109, kitOne_ofB yd110 xt110 x116_110 x110_110, kitOne_ofB yd111 xt111 x116_111 x111_111, kitOne_ofB yd112 xt112 x116_112 x112_112, kitOne_ofB yd113 xt113 x116_113 x113_113, kitOne_ofB yd114 xt114 x116_114 x114_114, kitOne_ofB yd115 xt115 x116_115 x115_115, kitOne_ofB yd116 xt116 x116_116 x116_116, kitOne_ofB yd117 xt117 x116_117 x117_117, kitOne_ofB yd118 xt118 x116_118 x118_118, kitOne_ofB yd119 xt119 x116_119 x119_119, trivial⟩, ⟨yg117, yk117, xs117, yd117, ya117, yn, yt, ym117⟩, ⟨kitOne_ofB yd100 xt100 x117_100 x100_100, kitOne_ofB yd101 xt101 x117_101 x101_101, kitOne_ofB yd102 xt102 x117_102 x102_102, kitOne_ofB yd103 xt103 x117_103 x103_103, kitOne_ofB yd104 xt104 x117_104 x104_104, kitOne_ofB yd105 xt105 x117_105 x105_105, kitOne_ofB yd106 xt106 x117_106 x106_106, kitOne_ofB yd107 xt107 x117_107 x107_107, kitOne_ofB yd108 xt108 x117_108 x108_108, kitOne_ofB yd109 xt109 x117_109 x109_109, kitOne_ofB yd110 xt110 x117_110 x110_110, kitOne_ofB yd111 xt111 x117_111 x111_111, kitOne_ofB yd112 xt112 x117_112 x112_112, kitOne_ofB yd113 xt113 x117_113 x113_113, kitOne_ofB yd114 xt114 x117_114 x114_114, kitOne_ofB yd115 xt115 x117_115 x115_115, kitOne_ofB yd116 xt116 x117_116 x116_116, kitOne_ofB yd117 xt117 x117_117 x117_117, kitOne_ofB yd118 xt118 x117_118 x118_118, kitOne_ofB yd119 xt119 x117_119 x119_119, trivial⟩, ⟨yg118, yk118, xs118, yd118, ya118, yn, yt, ym118⟩, ⟨kitOne_ofB yd100 xt100 x118_100 x100_100, kitOne_ofB yd101 xt101 x118_101 x101_101, kitOne_ofB yd102 xt102 x118_102 x102_102, kitOne_ofB yd103 xt103 x118_103 x103_103, kitOne_ofB yd104 xt104 x118_104 x104_104, kitOne_ofB yd105 xt105 x118_105 x105_105, kitOne_ofB yd106 xt106 x118_106 x106_106, kitOne_ofB yd107 xt107 x118_107 x107_107, kitOne_ofB yd108 xt108 x118_108 x108_108, kitOne_ofB yd109 xt109 x118_109 x109_109, kitOne_ofB yd110 xt110 x118_110 x110_110, kitOne_ofB yd111 xt111 x118_111 x111_111, kitOne_ofB yd112 xt112 x118_112 x112_112, kitOne_ofB yd113 xt113 x118_113 x113_113, kitOne_ofB yd114 xt114 x118_114 x114_114, kitOne_ofB yd115 xt115 x118_115 x115_115, kitOne_ofB yd116 xt116 x118_116 x116_116, kitOne_ofB yd117 xt117 x118_117 x117_117, kitOne_ofB yd118 xt118 x118_118 x118_118, kitOne_ofB yd119 xt119 x118_119 x119_119, trivial⟩, ⟨yg119, yk119, xs119, yd119, ya119, yn, yt, ym119⟩, ⟨kitOne_ofB yd100 xt100 x119_100 x100_100, kitOne_ofB yd101 xt101 x119_101 x101_101, kitOne_ofB yd102 xt102 x119_102 x102_102, kitOne_ofB yd103 xt103 x119_103 x103_103, kitOne_ofB yd104 xt104 x119_104 x104_104, kitOne_ofB yd105 xt105 x119_105 x105_105, kitOne_ofB yd106 xt106 x119_106 x106_106, kitOne_ofB yd107 xt107 x119_107 x107_107, kitOne_ofB yd108 xt108 x119_108 x108_108, kitOne_ofB yd109 xt109 x119_109 x109_109, kitOne_ofB yd110 xt110 x119_110 x110_110, kitOne_ofB yd111 xt111 x119_111 x111_111, kitOne_ofB yd112 xt112 x119_112 x112_112, kitOne_ofB yd113 xt113 x119_113 x113_113, kitOne_ofB yd114 xt114 x119_114 x114_114, kitOne_ofB yd115 xt115 x119_115 x115_115, kitOne_ofB yd116 xt116 x119_116 x116_116, kitOne_ofB yd117 xt117 x119_117 x117_117, kitOne_ofB yd118 xt118 x119_118 x118_118, kitOne_ofB yd119 xt119 x119_119 x119_119, trivial⟩, trivial⟩, (List.forall_mem_cons.2 ⟨⟨rfl, ⟨yg110, yk110, xs110, yd110⟩, xo110⟩, (List.forall_mem_cons.2 ⟨⟨rfl, ⟨yg111, yk111, xs111, yd111⟩, xo111⟩, (List.forall_mem_cons.2 ⟨⟨rfl, ⟨yg112, yk112, xs112, yd112⟩, xo112⟩, (List.forall_mem_cons.2 ⟨⟨rfl, ⟨yg113, yk113, xs113, yd113⟩, xo113⟩, (List.forall_mem_cons.2 ⟨⟨rfl, ⟨yg114, yk114, xs114, yd114⟩, xo114⟩, (List.forall_mem_cons.2 ⟨⟨rfl, ⟨yg115, yk115, xs115, yd115⟩, xo115⟩, (List.forall_mem_cons.2 ⟨⟨rfl, ⟨yg116, yk116, xs116, yd116⟩, xo116⟩, (List.forall_mem_cons.2 ⟨⟨rfl, ⟨yg117, yk117, xs117, yd117⟩, xo117⟩, (List.forall_mem_cons.2 ⟨⟨rfl, ⟨yg118, yk118, xs118, yd118⟩, xo118⟩, (List.forall_mem_cons.2 ⟨⟨rfl, ⟨yg119, yk119, xs119, yd119⟩, xo119⟩, (fun _ h => nomatch h)⟩)⟩)⟩)⟩)⟩)⟩)⟩)⟩)⟩)⟩), by rw [baseA_of (PySem.W.mg_of X G aB)]; exact (List.forall_mem_cons.2 ⟨⟨⟨yg100, yk100, xs100, yd100, ya100, yn, yt, ym100⟩, kitOne_of hdB tyB yo100⟩, (List.forall_mem_cons.2 ⟨⟨⟨yg101, yk101, xs101, yd101, ya101, yn, yt, ym101⟩, kitOne_of hdB tyB yo101⟩, (List.forall_mem_cons.2 ⟨⟨⟨yg102, yk102, xs102, yd102, ya102, yn, yt, ym102⟩, kitOne_of hdB tyB yo102⟩, (List.forall_mem_cons.2 ⟨⟨⟨yg103, yk103, xs103, yd103, ya103, yn, yt, ym103⟩, kitOne_of hdB tyB yo103⟩, (List.forall_mem_cons.2 ⟨⟨⟨yg104, yk104, xs104, yd104, ya104, yn, yt, ym104⟩, kitOne_of hdB tyB yo104⟩, (List.forall_mem_cons.2 ⟨⟨⟨yg105, yk105, xs105, yd105, ya105, yn, yt, ym105⟩, kitOne_of hdB tyB yo105⟩, (List.forall_mem_cons.2 ⟨⟨⟨yg106, yk106, xs106, yd106, ya106, yn, yt, ym106⟩, kitOne_of hdB tyB yo106⟩, (List.forall_mem_cons.2 ⟨⟨⟨yg107, yk107, xs107, yd107, ya107, yn, yt, ym107⟩, kitOne_of hdB tyB yo107⟩, (List.forall_mem_cons.2 ⟨⟨⟨yg108, yk108, xs108, yd108, ya108, yn, yt, ym108⟩, kitOne_of hdB tyB yo108⟩, (List.forall_mem_cons.2 ⟨⟨⟨yg109, yk109, xs109, yd109, ya109, yn, yt, ym109⟩, kitOne_of hdB tyB yo109⟩, (List.forall_mem_cons.2 ⟨⟨⟨yg110, yk110, xs110, yd110, ya110, yn, yt, ym110⟩, kitOne_of hdB tyB yo110⟩, (List.forall_mem_cons.2 ⟨⟨⟨yg111, yk111, xs111, yd111, ya111, yn, yt, ym111⟩, kitOne_of hdB tyB yo111⟩, (List.forall_mem_cons.2 ⟨⟨⟨yg112, yk112, xs112, yd112, ya112, yn, yt, ym112⟩, kitOne_of hdB tyB yo112⟩, (List.forall_mem_cons.2 ⟨⟨⟨yg113, yk113, xs113, yd113, ya113, yn, yt, ym113⟩, kitOne_of hdB tyB yo113⟩, (List.forall_mem_cons.2 ⟨⟨⟨yg114, yk114, xs114, yd114, ya114, yn, yt, ym114⟩, kitOne_of hdB tyB yo114⟩, (List.forall_mem_cons.2 ⟨⟨⟨yg115, yk115, xs115, yd115, ya115, yn, yt, ym115⟩, kitOne_of hdB tyB yo115⟩, (List.forall_mem_cons.2 ⟨⟨⟨yg116, yk116, xs116, yd116, ya116, yn, yt, ym116⟩, kitOne_of hdB tyB yo116⟩, (List.forall_mem_cons.2 ⟨⟨⟨yg117, yk117, xs117, yd117, ya117, yn, yt, ym117⟩, kitOne_of hdB tyB yo117⟩, (List.forall_mem_cons.2 ⟨⟨⟨yg118, yk118, xs118, yd118, ya118, yn, yt, ym118⟩, kitOne_of hdB tyB yo118⟩, (List.forall_mem_cons.2 ⟨⟨⟨yg119, yk119, xs119, yd119, ya119, yn, yt, ym119⟩, kitOne_of hdB tyB yo119⟩, (fun _ h => nomatch h)⟩)⟩)⟩)⟩)⟩)⟩)⟩)⟩)⟩)⟩)⟩)⟩)⟩)⟩)⟩)⟩)⟩)⟩)⟩)⟩), (List.forall_mem_cons.2 ⟨⟨⟨yg100, yk100, xs100, yd100, ya100, yn, yt, ym100⟩, kitOne_ofT (by decide +kernel) yv100⟩, (List.forall_mem_cons.2 ⟨⟨⟨yg101, yk101, xs101, yd101, ya101, yn, yt, ym101⟩, kitOne_ofT (by decide +kernel) yv101⟩, (List.forall_mem_cons.2 ⟨⟨⟨yg102, yk102, xs102, yd102, ya102, yn, yt, ym102⟩, kitOne_ofT (by decide +kernel) yv102⟩, (List.forall_mem_cons.2 ⟨⟨⟨yg103, yk103, xs103, yd103, ya103, yn, yt, ym103⟩, kitOne_ofT (by decide +kernel) yv103⟩, (List.forall_mem_cons.2 ⟨⟨⟨yg104, yk104, xs104, yd104, ya104, yn, yt, ym104⟩, kitOne_ofT (by decide +kernel) yv104⟩, (List.forall_mem_cons.2 ⟨⟨⟨yg105, yk105, xs105, yd105, ya105, yn, yt, ym105⟩, kitOne_ofT (by decide +kernel) yv105⟩, (List.forall_mem_cons.2 ⟨⟨⟨yg106, yk106, xs106, yd106, ya106, yn, yt, ym106⟩, kitOne_ofT (by decide +kernel) yv106⟩, (List.forall_mem_cons.2 ⟨⟨⟨yg107, yk107, xs107, yd107, ya107, yn, yt, ym107⟩, kitOne_ofT (by decide +kernel) yv107⟩, (List.forall_mem_cons.2 ⟨⟨⟨yg108, yk108, xs108, yd108, ya108, yn, yt, ym108⟩, kitOne_ofT (by decide +kernel) yv108⟩, (List.forall_mem_cons.2 ⟨⟨⟨yg109, yk109, xs109, yd109, ya109, yn, yt, ym109⟩, kitOne_ofT (by decide +kernel) yv109⟩, (List.forall_mem_cons.2 ⟨⟨⟨yg110, yk110, xs110, yd110, ya110, yn, yt, ym110⟩, kitOne_ofT (by decide +kernel) yv110⟩, (List.forall_mem_cons.2 ⟨⟨⟨yg111, yk111, xs111, yd111, ya111, yn, yt, ym111⟩, kitOne_ofT (by decide +kernel) yv111⟩, (List.forall_mem_cons.2 ⟨⟨⟨yg112, yk112, xs112, yd112, ya112, yn, yt, ym112⟩, kitOne_ofT (by decide +kernel) yv112⟩, (List.forall_mem_cons.2 ⟨⟨⟨yg113, yk113, xs113, yd113, ya113, yn, yt, ym113⟩, kitOne_ofT (by decide +kernel) yv113⟩, (List.forall_mem_cons.2 ⟨⟨⟨yg114, yk114, xs114, yd114, ya114, yn, yt, ym114⟩, kitOne_ofT (by decide +kernel) yv114⟩, (List.forall_mem_cons.2 ⟨⟨⟨yg115, yk115, xs115, yd115, ya115, yn, yt, ym115⟩, kitOne_ofT (by decide +kernel) yv115⟩, (List.forall_mem_cons.2 ⟨⟨⟨yg116, yk116, xs116, yd116, ya116, yn, yt, ym116⟩, kitOne_ofT (by decide +kernel) yv116⟩, (List.forall_mem_cons.2 ⟨⟨⟨yg117, yk117, xs117, yd117, ya117, yn, yt, ym117⟩, kitOne_ofT (by decide +kernel) yv117⟩, (List.forall_mem_cons.2 ⟨⟨⟨yg118, yk118, xs118, yd118, ya118, yn, yt, ym118⟩, kitOne_ofT (by decide +kernel) yv118⟩, (List.forall_mem_cons.2 ⟨⟨⟨yg119, yk119, xs119, yd119, ya119, yn, yt, ym119⟩, kitOne_ofT (by decide +kernel) yv119⟩, (fun _ h => nomatch h)⟩)⟩)⟩)⟩)⟩)⟩)⟩)⟩)⟩)⟩)⟩)⟩)⟩)⟩)⟩)⟩)⟩)⟩)⟩)⟩), by rw [baseA_of (PySem.W.mg_of X G aB)]; exact ⟨xeB, xpB, xsB, tyB⟩, by rw [baseA_of (PySem.W.mg_of X G aB)]; exact ⟨ygB, ykB, xsB, hdB, yaB, yn, yt, ymB⟩, by rw [baseA_of (PySem.W.mg_of X G aB)]; exact ⟨kitOne_ofB yd100 xt100 xB_100 x100_100, kitOne_ofB yd101 xt101 xB_101 x101_101, kitOne_ofB yd102 xt102 xB_102 x102_102, kitOne_ofB yd103 xt103 xB_103 x103_103, kitOne_ofB yd104 xt104 xB_104 x104_104, kitOne_ofB yd105 xt105 xB_105 x105_105, kitOne_ofB yd106 xt106 xB_106 x106_106, kitOne_ofB yd107 xt107 xB_107 x107_107, kitOne_ofB yd108 xt108 xB_108 x108_108, kitOne_ofB yd109 xt109 xB_109 x109_109, kitOne_ofB yd110 xt110 xB_110 x110_110, kitOne_ofB yd111 xt111 xB_111 x111_111, kitOne_ofB yd112 xt112 xB_112 x112_112, kitOne_ofB yd113 xt113 xB_113 x113_113, kitOne_ofB yd114 xt114 xB_114 x114_114, kitOne_ofB yd115 xt115 xB_115 x115_115, kitOne_ofB yd116 xt116 xB_116 x116_116, kitOne_ofB yd117 xt117 xB_117 x117_117, kitOne_ofB yd118 xt118 xB_118 x118_118, kitOne_ofB yd119 xt119 xB_119 x119_119, trivial⟩⟩
  have O110 := ok_xNoClass (P := l.prog) (w := w) (base := base) (g := ⟨fun i => match i with | 100 => C100 | 101 => C101 | 102 => C102 | 103 => C103 | 104 => C104 | 105 => C105 | 106 => C106 | 107 => C107 | 108 => C108 | 109 => C109 | 110 => C110 | 111 => C111 | 112 => C112 | 113 => C113 | 114 => C114 | 115 => C115 | 116 => C116 | 117 => C117 | 118 => C118 | 119 => C119 | _ => 0, scr, fun _ => True, [], hs⟩) F110 tx
  have X110 : DxH l.prog w K mg base C110 "NoClass" "at" := ⟨_, _, _, O110, ⟨⟨⟨_, _, _, _, _, _, _, _, _, _, _, _, _, _, _, xl110, xv110⟩, xa110, xs110, xt110, xp110⟩, xi110, xf110, xo110⟩, PySem.W.mg_of X G aC110, B110⟩
  have O111 := ok_xBadClaims (P := l.prog) (w := w) (base := base) (g := ⟨fun i => match i with | 100 => C100 | 101 => C101 | 102 => C102 | 103 => C103 | 104 => C104 | 105 => C105 | 106 => C106 | 107 => C107 | 108 => C108 | 109 => C109 | 110 => C110 | 111 => C111 | 112 => C112 | 113 => C113 | 114 => C114 | 115 => C115 | 116 => C116 | 117 => C117 | 118 => C118 | 119 => C119 | _ => 0, scr, fun _ => True, [], hs⟩) F111 tx
  have X111 : DxH l.prog w K mg base C111 "BadClaims" "claims" := ⟨_, _, _, O111, ⟨⟨⟨_, _, _, _, _, _, _, _, _, _, _, _, _, _, _, xl111, xv111⟩, xa111, xs111, xt111, xp111⟩, xi111, xf111, xo111⟩, PySem.W.mg_of X G aC111, B111⟩
  have O112 := ok_xTooMany (P := l.prog) (w := w) (base := base) (g := ⟨fun i => match i with | 100 => C100 | 101 => C101 | 102 => C102 | 103 => C103 | 104 => C104 | 105 => C105 | 106 => C106 | 107 => C107 | 108 => C108 | 109 => C109 | 110 => C110 | 111 => C111 | 112 => C112 | 113 => C113 | 114 => C114 | 115 => C115 | 116 => C116 | 117 => C117 | 118 => C118 | 119 => C119 | _ => 0, scr, fun _ => True, [], hs⟩) F112 tx
  have X112 : DxH l.prog w K mg base C112 "TooMany" "count" := ⟨_, _, _, O112, ⟨⟨⟨_, _, _, _, _, _, _, _, _, _, _, _, _, _, _, xl112, xv112⟩, xa112, xs112, xt112, xp112⟩, xi112, xf112, xo112⟩, PySem.W.mg_of X G aC112, B112⟩
  have O113 := ok_xBadYears (P := l.prog) (w := w) (base := base) (g := ⟨fun i => match i with | 100 => C100 | 101 => C101 | 102 => C102 | 103 => C103 | 104 => C104 | 105 => C105 | 106 => C106 | 107 => C107 | 108 => C108 | 109 => C109 | 110 => C110 | 111 => C111 | 112 => C112 | 113 => C113 | 114 => C114 | 115 => C115 | 116 => C116 | 117 => C117 | 118 => C118 | 119 => C119 | _ => 0, scr, fun _ => True, [], hs⟩) F113 tx
  have X113 : DxH l.prog w K mg base C113 "BadYears" "years" := ⟨_, _, _, O113, ⟨⟨⟨_, _, _, _, _, _, _, _, _, _, _, _, _, _, _, xl113, xv113⟩, xa113, xs113, xt113, xp113⟩, xi113, xf113, xo113⟩, PySem.W.mg_of X G aC113, B113⟩
  have O114 := ok_xNoPlace (P := l.prog) (w := w) (base := base) (g := ⟨fun i => match i with | 100 => C100 | 101 => C101 | 102 => C102 | 103 => C103 | 104 => C104 | 105 => C105 | 106 => C106 | 107 => C107 | 108 => C108 | 109 => C109 | 110 => C110 | 111 => C111 | 112 => C112 | 113 => C113 | 114 => C114 | 115 => C115 | 116 => C116 | 117 => C117 | 118 => C118 | 119 => C119 | _ => 0, scr, fun _ => True, [], hs⟩) F114 tx
  have X114 : DxH l.prog w K mg base C114 "NoPlace" "place" := ⟨_, _, _, O114, ⟨⟨⟨_, _, _, _, _, _, _, _, _, _, _, _, _, _, _, xl114, xv114⟩, xa114, xs114, xt114, xp114⟩, xi114, xf114, xo114⟩, PySem.W.mg_of X G aC114, B114⟩
  have O115 := ok_xBilled (P := l.prog) (w := w) (base := base) (g := ⟨fun i => match i with | 100 => C100 | 101 => C101 | 102 => C102 | 103 => C103 | 104 => C104 | 105 => C105 | 106 => C106 | 107 => C107 | 108 => C108 | 109 => C109 | 110 => C110 | 111 => C111 | 112 => C112 | 113 => C113 | 114 => C114 | 115 => C115 | 116 => C116 | 117 => C117 | 118 => C118 | 119 => C119 | _ => 0, scr, fun _ => True, [], hs⟩) F115 tx
  have X115 : DxH l.prog w K mg base C115 "Billed" "year" := ⟨_, _, _, O115, ⟨⟨⟨_, _, _, _, _, _, _, _, _, _, _, _, _, _, _, xl115, xv115⟩, xa115, xs115, xt115, xp115⟩, xi115, xf115, xo115⟩, PySem.W.mg_of X G aC115, B115⟩
  have O116 := ok_xNotBilled (P := l.prog) (w := w) (base := base) (g := ⟨fun i => match i with | 100 => C100 | 101 => C101 | 102 => C102 | 103 => C103 | 104 => C104 | 105 => C105 | 106 => C106 | 107 => C107 | 108 => C108 | 109 => C109 | 110 => C110 | 111 => C111 | 112 => C112 | 113 => C113 | 114 => C114 | 115 => C115 | 116 => C116 | 117 => C117 | 118 => C118 | 119 => C119 | _ => 0, scr, fun _ => True, [], hs⟩) F116 tx
  have X116 : DxH l.prog w K mg base C116 "NotBilled" "year" := ⟨_, _, _, O116, ⟨⟨⟨_, _, _, _, _, _, _, _, _, _, _, _, _, _, _, xl116, xv116⟩, xa116, xs116, xt116, xp116⟩, xi116, xf116, xo116⟩, PySem.W.mg_of X G aC116, B116⟩
  have O117 := ok_xBadName (P := l.prog) (w := w) (base := base) (g := ⟨fun i => match i with | 100 => C100 | 101 => C101 | 102 => C102 | 103 => C103 | 104 => C104 | 105 => C105 | 106 => C106 | 107 => C107 | 108 => C108 | 109 => C109 | 110 => C110 | 111 => C111 | 112 => C112 | 113 => C113 | 114 => C114 | 115 => C115 | 116 => C116 | 117 => C117 | 118 => C118 | 119 => C119 | _ => 0, scr, fun _ => True, [], hs⟩) F117 tx
  have X117 : DxH l.prog w K mg base C117 "BadName" "name" := ⟨_, _, _, O117, ⟨⟨⟨_, _, _, _, _, _, _, _, _, _, _, _, _, _, _, xl117, xv117⟩, xa117, xs117, xt117, xp117⟩, xi117, xf117, xo117⟩, PySem.W.mg_of X G aC117, B117⟩
  have O118 := ok_xNameTaken (P := l.prog) (w := w) (base := base) (g := ⟨fun i => match i with | 100 => C100 | 101 => C101 | 102 => C102 | 103 => C103 | 104 => C104 | 105 => C105 | 106 => C106 | 107 => C107 | 108 => C108 | 109 => C109 | 110 => C110 | 111 => C111 | 112 => C112 | 113 => C113 | 114 => C114 | 115 => C115 | 116 => C116 | 117 => C117 | 118 => C118 | 119 => C119 | _ => 0, scr, fun _ => True, [], hs⟩) F118 tx
  have X118 : DxH l.prog w K mg base C118 "NameTaken" "name" := ⟨_, _, _, O118, ⟨⟨⟨_, _, _, _, _, _, _, _, _, _, _, _, _, _, _, xl118, xv118⟩, xa118, xs118, xt118, xp118⟩, xi118, xf118, xo118⟩, PySem.W.mg_of X G aC118, B118⟩
  have O119 := ok_xNoPolicy (P := l.prog) (w := w) (base := base) (g := ⟨fun i => match i with | 100 => C100 | 101 => C101 | 102 => C102 | 103 => C103 | 104 => C104 | 105 => C105 | 106 => C106 | 107 => C107 | 108 => C108 | 109 => C109 | 110 => C110 | 111 => C111 | 112 => C112 | 113 => C113 | 114 => C114 | 115 => C115 | 116 => C116 | 117 => C117 | 118 => C118 | 119 => C119 | _ => 0, scr, fun _ => True, [], hs⟩) F119 tx
  have X119 : DxH l.prog w K mg base C119 "NoPolicy" "name" := ⟨_, _, _, O119, ⟨⟨⟨_, _, _, _, _, _, _, _, _, _, _, _, _, _, _, xl119, xv119⟩, xa119, xs119, xt119, xp119⟩, xi119, xf119, xo119⟩, PySem.W.mg_of X G aC119, B119⟩
  have O0 := ok__law_bag (P := l.prog) (w := w) (base := base) (g := ⟨fun i => match i with | 100 => C100 | 101 => C101 | 102 => C102 | 103 => C103 | 104 => C104 | 105 => C105 | 106 => C106 | 107 => C107 | 108 => C108 | 109 => C109 | 110 => C110 | 111 => C111 | 112 => C112 | 113 => C113 | 114 => C114 | 115 => C115 | 116 => C116 | 117 => C117 | 118 => C118 | 119 => C119 | _ => 0, scr, fun _ => True, [], hs⟩) F0 tx (fun _ => trivial) hS 
  have O1 := ok__law_errors (P := l.prog) (w := w) (base := base) (g := ⟨fun i => match i with | 100 => C100 | 101 => C101 | 102 => C102 | 103 => C103 | 104 => C104 | 105 => C105 | 106 => C106 | 107 => C107 | 108 => C108 | 109 => C109 | 110 => C110 | 111 => C111 | 112 => C112 | 113 => C113 | 114 => C114 | 115 => C115 | 116 => C116 | 117 => C117 | 118 => C118 | 119 => C119 | _ => 0, scr, fun _ => True, [], hs⟩) F1 tx (fun _ => trivial) X111 X117 X113 X115 X118 X110 X114 X119 X116 X112
  have O2 := ok__law_draw (P := l.prog) (w := w) (base := base) (g := ⟨fun i => match i with | 100 => C100 | 101 => C101 | 102 => C102 | 103 => C103 | 104 => C104 | 105 => C105 | 106 => C106 | 107 => C107 | 108 => C108 | 109 => C109 | 110 => C110 | 111 => C111 | 112 => C112 | 113 => C113 | 114 => C114 | 115 => C115 | 116 => C116 | 117 => C117 | 118 => C118 | 119 => C119 | _ => 0, scr, fun _ => True, [], hs⟩) F2 tx (fun _ => trivial) 
  have O3 := ok__law_mixed (P := l.prog) (w := w) (base := base) (g := ⟨fun i => match i with | 100 => C100 | 101 => C101 | 102 => C102 | 103 => C103 | 104 => C104 | 105 => C105 | 106 => C106 | 107 => C107 | 108 => C108 | 109 => C109 | 110 => C110 | 111 => C111 | 112 => C112 | 113 => C113 | 114 => C114 | 115 => C115 | 116 => C116 | 117 => C117 | 118 => C118 | 119 => C119 | _ => 0, scr, fun _ => True, [], hs⟩) F3 tx (fun _ => trivial) ⟨_, _, O2, PySem.W.mg_of X G a2, k2, B2⟩
  have O4 := ok__law_parts (P := l.prog) (w := w) (base := base) (g := ⟨fun i => match i with | 100 => C100 | 101 => C101 | 102 => C102 | 103 => C103 | 104 => C104 | 105 => C105 | 106 => C106 | 107 => C107 | 108 => C108 | 109 => C109 | 110 => C110 | 111 => C111 | 112 => C112 | 113 => C113 | 114 => C114 | 115 => C115 | 116 => C116 | 117 => C117 | 118 => C118 | 119 => C119 | _ => 0, scr, fun _ => True, [], hs⟩) F4 tx (fun _ => trivial) 
  have O5 := ok__law_kinds (P := l.prog) (w := w) (base := base) (g := ⟨fun i => match i with | 100 => C100 | 101 => C101 | 102 => C102 | 103 => C103 | 104 => C104 | 105 => C105 | 106 => C106 | 107 => C107 | 108 => C108 | 109 => C109 | 110 => C110 | 111 => C111 | 112 => C112 | 113 => C113 | 114 => C114 | 115 => C115 | 116 => C116 | 117 => C117 | 118 => C118 | 119 => C119 | _ => 0, scr, fun _ => True, [], hs⟩) F5 tx (fun _ => trivial) 
  have O6 := ok_law (P := l.prog) (w := w) (base := base) (g := ⟨fun i => match i with | 100 => C100 | 101 => C101 | 102 => C102 | 103 => C103 | 104 => C104 | 105 => C105 | 106 => C106 | 107 => C107 | 108 => C108 | 109 => C109 | 110 => C110 | 111 => C111 | 112 => C112 | 113 => C113 | 114 => C114 | 115 => C115 | 116 => C116 | 117 => C117 | 118 => C118 | 119 => C119 | _ => 0, scr, fun _ => True, [], hs⟩) F6 tx (fun _ => trivial) ⟨_, _, O0, PySem.W.mg_of X G a0, k0, B0⟩ ⟨_, _, _, O1, PySem.W.mg_of X G a1, k1, B1⟩ ⟨_, _, O3, PySem.W.mg_of X G a3, k3, B3⟩ ⟨_, _, O2, PySem.W.mg_of X G a2, k2, B2⟩ ⟨_, _, _, O4, PySem.W.mg_of X G a4, k4, B4⟩ ⟨_, _, _, O5, PySem.W.mg_of X G a5, k5, B5⟩
  exact O6
end Law
open PySem PySem.W PyProof.Rows
set_option maxRecDepth 100000 in
set_option maxHeartbeats 0 in
theorem PySem.Challenge.cw_claimclasses_k14_errors_with_their_parts_holds : PySem.Challenge.rw_claimclasses_k14_errors_with_their_parts.Holds := by
  w_on; o_law; k_head; (case hw => w_witness2)
  k_fill
  refine Lin.law_walk (l := PySem.Challenge.rw_claimclasses_k14_errors_with_their_parts) (k := 4) (x := "_law_script") rfl rfl ⟨rfl, by decide, by decide⟩ (fun w h Y => PySem.W.kIn_of Y) ?F
  case F =>
    intro w mg fa h KX G hmg
    refine' Law.all_mk KX G hmg ?a0 ?l0 ?c0 ?k0 ?a1 ?l1 ?c1 ?k1 ?a2 ?l2 ?c2 ?k2 ?a3 ?l3 ?c3 ?k3 ?a4 ?l4 ?c4 ?k4 ?a5 ?l5 ?c5 ?k5 ?a6 ?l6 ?c6 ?k6 ?b_ValueError ?b_abs ?b_any ?b_int ?b_isinstance ?b_len ?b_list ?b_range ?aB ?gB ?rB ?fB ?hdB ?tyB ?aC100 ?aC101 ?aC102 ?aC103 ?aC104 ?aC105 ?aC106 ?aC107 ?aC108 ?aC109 ?aC110 ?aC111 ?aC112 ?aC113 ?aC114 ?aC115 ?aC116 ?aC117 ?aC118 ?aC119 ?xs100 ?xt100 ?xp100 ?xe100 ?yg100 ?yk100 ?yd100 ?ya100 ?ym100 ?yo100 ?yv100 ?x100_100 ?x100_101 ?x100_102 ?x100_103 ?x100_104 ?x100_105 ?x100_106 ?x100_107 ?x100_108 ?x100_109 ?x100_110 ?x100_111 ?x100_112 ?x100_113 ?x100_114 ?x100_115 ?x100_116 ?x100_117 ?x100_118 ?x100_119 ?xs101 ?xt101 ?xp101 ?xe101 ?yg101 ?yk101 ?yd101 ?ya101 ?ym101 ?yo101 ?yv101 ?x101_100 ?x101_101 ?x101_102 ?x101_103 ?x101_104 ?x101_105 ?x101_106 ?x101_107 ?x101_108 ?x101_109 ?x101_110 ?x101_111 ?x101_112 ?x101_113 ?x101_114 ?x101_115 ?x101_116 ?x101_117 ?x101_118 ?x101_119 ?xs102 ?xt102 ?xp102 ?xe102 ?yg102 ?yk102 ?yd102 ?ya102 ?ym102 ?yo102 ?yv102 ?x102_100 ?x102_101 ?x102_102 ?x102_103 ?x102_104 ?x102_105 ?x102_106 ?x102_107 ?x102_108 ?x102_109 ?x102_110 ?x102_111 ?x102_112 ?x102_113 ?x102_114 ?x102_115 ?x102_116 ?x102_117 ?x102_118 ?x102_119 ?xs103 ?xt103 ?xp103 ?xe103 ?yg103 ?yk103 ?yd103 ?ya103 ?ym103 ?yo103 ?yv103 ?x103_100 ?x103_101 ?x103_102 ?x103_103 ?x103_104 ?x103_105 ?x103_106 ?x103_107 ?x103_108 ?x103_109 ?x103_110 ?x103_111 ?x103_112 ?x103_113 ?x103_114 ?x103_115 ?x103_116 ?x103_117 ?x103_118 ?x103_119 ?xs104 ?xt104 ?xp104 ?xe104 ?yg104 ?yk104 ?yd104 ?ya104 ?ym104 ?yo104 ?yv104 ?x104_100 ?x104_101 ?x104_102 ?x104_103 ?x104_104 ?x104_105 ?x104_106 ?x104_107 ?x104_108 ?x104_109 ?x104_110 ?x104_111 ?x104_112 ?x104_113 ?x104_114 ?x104_115 ?x104_116 ?x104_117 ?x104_118 ?x104_119 ?xs105 ?xt105 ?xp105 ?xe105 ?yg105 ?yk105 ?yd105 ?ya105 ?ym105 ?yo105 ?yv105 ?x105_100 ?x105_101 ?x105_102 ?x105_103 ?x105_104 ?x105_105 ?x105_106 ?x105_107 ?x105_108 ?x105_109 ?x105_110 ?x105_111 ?x105_112 ?x105_113 ?x105_114 ?x105_115 ?x105_116 ?x105_117 ?x105_118 ?x105_119 ?xs106 ?xt106 ?xp106 ?xe106 ?yg106 ?yk106 ?yd106 ?ya106 ?ym106 ?yo106 ?yv106 ?x106_100 ?x106_101 ?x106_102 ?x106_103 ?x106_104 ?x106_105 ?x106_106 ?x106_107 ?x106_108 ?x106_109 ?x106_110 ?x106_111 ?x106_112 ?x106_113 ?x106_114 ?x106_115 ?x106_116 ?x106_117 ?x106_118 ?x106_119 ?xs107 ?xt107 ?xp107 ?xe107 ?yg107 ?yk107 ?yd107 ?ya107 ?ym107 ?yo107 ?yv107 ?x107_100 ?x107_101 ?x107_102 ?x107_103 ?x107_104 ?x107_105 ?x107_106 ?x107_107 ?x107_108 ?x107_109 ?x107_110 ?x107_111 ?x107_112 ?x107_113 ?x107_114 ?x107_115 ?x107_116 ?x107_117 ?x107_118 ?x107_119 ?xs108 ?xt108 ?xp108 ?xe108 ?yg108 ?yk108 ?yd108 ?ya108 ?ym108 ?yo108 ?yv108 ?x108_100 ?x108_101 ?x108_102 ?x108_103 ?x108_104 ?x108_105 ?x108_106 ?x108_107 ?x108_108 ?x108_109 ?x108_110 ?x108_111 ?x108_112 ?x108_113 ?x108_114 ?x108_115 ?x108_116 ?x108_117 ?x108_118 ?x108_119 ?xs109 ?xt109 ?xp109 ?xe109 ?yg109 ?yk109 ?yd109 ?ya109 ?ym109 ?yo109 ?yv109 ?x109_100 ?x109_101 ?x109_102 ?x109_103 ?x109_104 ?x109_105 ?x109_106 ?x109_107 ?x109_108 ?x109_109 ?x109_110 ?x109_111 ?x109_112 ?x109_113 ?x109_114 ?x109_115 ?x109_116 ?x109_117 ?x109_118 ?x109_119 ?xs110 ?xt110 ?xp110 ?xl110 ?xv110 ?xa110 ?xi110 ?xf110 ?xo110 ?l110 ?c110 ?k110 ?yg110 ?yk110 ?yd110 ?ya110 ?ym110 ?yo110 ?yv110 ?x110_100 ?x110_101 ?x110_102 ?x110_103 ?x110_104 ?x110_105 ?x110_106 ?x110_107 ?x110_108 ?x110_109 ?x110_110 ?x110_111 ?x110_112 ?x110_113 ?x110_114 ?x110_115 ?x110_116 ?x110_117 ?x110_118 ?x110_119 ?xs111 ?xt111 ?xp111 ?xl111 ?xv111 ?xa111 ?xi111 ?xf111 ?xo111 ?l111 ?c111 ?k111 ?yg111 ?yk111 ?yd111 ?ya111 ?ym111 ?yo111 ?yv111 ?x111_100 ?x111_101 ?x111_102 ?x111_103 ?x111_104 ?x111_105 ?x111_106 ?x111_107 ?x111_108 ?x111_109 ?x111_110 ?x111_111 ?x111_112 ?x111_113 ?x111_114 ?x111_115 ?x111_116 ?x111_117 ?x111_118 ?x111_119 ?xs112 ?xt112 ?xp112 ?xl112 ?xv112 ?xa112 ?xi112 ?xf112 ?xo112 ?l112 ?c112 ?k112 ?yg112 ?yk112 ?yd112 ?ya112 ?ym112 ?yo112 ?yv112 ?x112_100 ?x112_101 ?x112_102 ?x112_103 ?x112_104 ?x112_105 ?x112_106 ?x112_107 ?x112_108 ?x112_109 ?x112_110 ?x112_111 ?x112_112 ?x112_113 ?x112_114 ?x112_115 ?x112_116 ?x112_117 ?x112_118 ?x112_119 ?xs113 ?xt113 ?xp113 ?xl113 ?xv113 ?xa113 ?xi113 ?xf113 ?xo113 ?l113 ?c113 ?k113 ?yg113 ?yk113 ?yd113 ?ya113 ?ym113 ?yo113 ?yv113 ?x113_100 ?x113_101 ?x113_102 ?x113_103 ?x113_104 ?x113_105 ?x113_106 ?x113_107 ?x113_108 ?x113_109 ?x113_110 ?x113_111 ?x113_112 ?x113_113 ?x113_114 ?x113_115 ?x113_116 ?x113_117 ?x113_118 ?x113_119 ?xs114 ?xt114 ?xp114 ?xl114 ?xv114 ?xa114 ?xi114 ?xf114 ?xo114 ?l114 ?c114 ?k114 ?yg114 ?yk114 ?yd114 ?ya114 ?ym114 ?yo114 ?yv114 ?x114_100 ?x114_101 ?x114_102 ?x114_103 ?x114_104 ?x114_105 ?x114_106 ?x114_107 ?x114_108 ?x114_109 ?x114_110 ?x114_111 ?x114_112 ?x114_113 ?x114_114 ?x114_115 ?x114_116 ?x114_117 ?x114_118 ?x114_119 ?xs115 ?xt115 ?xp115 ?xl115 ?xv115 ?xa115 ?xi115 ?xf115 ?xo115 ?l115 ?c115 ?k115 ?yg115 ?yk115 ?yd115 ?ya115 ?ym115 ?yo115 ?yv115 ?x115_100 ?x115_101 ?x115_102 ?x115_103 ?x115_104 ?x115_105 ?x115_106 ?x115_107 ?x115_108 ?x115_109 ?x115_110 ?x115_111 ?x115_112 ?x115_113 ?x115_114 ?x115_115 ?x115_116 ?x115_117 ?x115_118 ?x115_119 ?xs116 ?xt116 ?xp116 ?xl116 ?xv116 ?xa116 ?xi116 ?xf116 ?xo116 ?l116 ?c116 ?k116 ?yg116 ?yk116 ?yd116 ?ya116 ?ym116 ?yo116 ?yv116 ?x116_100 ?x116_101 ?x116_102 ?x116_103 ?x116_104 ?x116_105 ?x116_106 ?x116_107 ?x116_108 ?x116_109 ?x116_110 ?x116_111 ?x116_112 ?x116_113 ?x116_114 ?x116_115 ?x116_116 ?x116_117 ?x116_118 ?x116_119 ?xs117 ?xt117 ?xp117 ?xl117 ?xv117 ?xa117 ?xi117 ?xf117 ?xo117 ?l117 ?c117 ?k117 ?yg117 ?yk117 ?yd117 ?ya117 ?ym117 ?yo117 ?yv117 ?x117_100 ?x117_101 ?x117_102 ?x117_103 ?x117_104 ?x117_105 ?x117_106 ?x117_107 ?x117_108 ?x117_109 ?x117_110 ?x117_111 ?x117_112 ?x117_113 ?x117_114 ?x117_115 ?x117_116 ?x117_117 ?x117_118 ?x117_119 ?xs118 ?xt118 ?xp118 ?xl118 ?xv118 ?xa118 ?xi118 ?xf118 ?xo118 ?l118 ?c118 ?k118 ?yg118 ?yk118 ?yd118 ?ya118 ?ym118 ?yo118 ?yv118 ?x118_100 ?x118_101 ?x118_102 ?x118_103 ?x118_104 ?x118_105 ?x118_106 ?x118_107 ?x118_108 ?x118_109 ?x118_110 ?x118_111 ?x118_112 ?x118_113 ?x118_114 ?x118_115 ?x118_116 ?x118_117 ?x118_118 ?x118_119 ?xs119 ?xt119 ?xp119 ?xl119 ?xv119 ?xa119 ?xi119 ?xf119 ?xo119 ?l119 ?c119 ?k119 ?yg119 ?yk119 ?yd119 ?ya119 ?ym119 ?yo119 ?yv119 ?x119_100 ?x119_101 ?x119_102 ?x119_103 ?x119_104 ?x119_105 ?x119_106 ?x119_107 ?x119_108 ?x119_109 ?x119_110 ?x119_111 ?x119_112 ?x119_113 ?x119_114 ?x119_115 ?x119_116 ?x119_117 ?x119_118 ?x119_119 ?yn ?yt ?xeB ?xpB ?xsB ?ygB ?ykB ?yaB ?ymB ?xB_100 ?xB_101 ?xB_102 ?xB_103 ?xB_104 ?xB_105 ?xB_106 ?xB_107 ?xB_108 ?xB_109 ?xB_110 ?xB_111 ?xB_112 ?xB_113 ?xB_114 ?xB_115 ?xB_116 ?xB_117 ?xB_118 ?xB_119
    (case a0 => k_is)
    (case l0 => k_is)
    (case c0 => k_is)
    (case k0 => k_is)
    (case a1 => k_is)
    (case l1 => k_is)
    (case c1 => k_is)
    (case k1 => k_is)
    (case a2 => k_is)
    (case l2 => k_is)
    (case c2 => k_is)
    (case k2 => k_is)
    (case a3 => k_is)
    (case l3 => k_is)
    (case c3 => k_is)
    (case k3 => k_is)
    (case a4 => k_is)
    (case l4 => k_is)
    (case c4 => k_is)
    (case k4 => k_is)
    (case a5 => k_is)
    (case l5 => k_is)
    (case c5 => k_is)
    (case k5 => k_is)
    (case a6 => k_is)
    (case l6 => k_is)
    (case c6 => k_is)
    (case k6 => k_is)
    (case b_ValueError => k_is)
    (case b_abs => k_is)
    (case b_any => k_is)
    (case b_int => k_is)
    (case b_isinstance => k_is)
    (case b_len => k_is)
    (case b_list => k_is)
    (case b_range => k_is)
    (case aB => k_is)
    (case gB => k_is)
    (case rB => k_is)
    (case fB => k_is)
    (case hdB => k_is)
    (case tyB => k_is)
    (case aC100 => k_is)
    (case aC101 => k_is)
    (case aC102 => k_is)
    (case aC103 => k_is)
    (case aC104 => k_is)
    (case aC105 => k_is)
    (case aC106 => k_is)
    (case aC107 => k_is)
    (case aC108 => k_is)
    (case aC109 => k_is)
    (case aC110 => k_is)
    (case aC111 => k_is)
    (case aC112 => k_is)
    (case aC113 => k_is)
    (case aC114 => k_is)
    (case aC115 => k_is)
    (case aC116 => k_is)
    (case aC117 => k_is)
    (case aC118 => k_is)
    (case aC119 => k_is)
    (case xs100 => k_is)
    (case xt100 => k_is)
    (case xp100 => k_is)
    (case xe100 => k_exc)
    (case yg100 => k_is)
    (case yk100 => k_is)
    (case yd100 => k_is)
    (case ya100 => k_is)
    (case ym100 => k_is)
    (case yo100 => k_is)
    (case yv100 => k_is)
    (case x100_100 => first | k_is | rfl)
    (case x100_101 => first | k_is | rfl)
    (case x100_102 => first | k_is | rfl)
    (case x100_103 => first | k_is | rfl)
    (case x100_104 => first | k_is | rfl)
    (case x100_105 => first | k_is | rfl)
    (case x100_106 => first | k_is | rfl)
    (case x100_107 => first | k_is | rfl)
    (case x100_108 => first | k_is | rfl)
    (case x100_109 => first | k_is | rfl)
    (case x100_110 => first | k_is | rfl)
    (case x100_111 => first | k_is | rfl)
    (case x100_112 => first | k_is | rfl)
    (case x100_113 => first | k_is | rfl)
    (case x100_114 => first | k_is | rfl)
    (case x100_115 => first | k_is | rfl)
    (case x100_116 => first | k_is | rfl)
    (case x100_117 => first | k_is | rfl)
    (case x100_118 => first | k_is | rfl)
    (case x100_119 => first | k_is | rfl)
    (case xs101 => k_is)
    (case xt101 => k_is)
    (case xp101 => k_is)
    (case xe101 => k_exc)
    (case yg101 => k_is)
    (case yk101 => k_is)
    (case yd101 => k_is)
    (case ya101 => k_is)
    (case ym101 => k_is)
    (case yo101 => k_is)
    (case yv101 => k_is)
    (case x101_100 => first | k_is | rfl)
    (case x101_101 => first | k_is | rfl)
    (case x101_102 => first | k_is | rfl)
    (case x101_103 => first | k_is | rfl)
    (case x101_104 => first | k_is | rfl)
    (case x101_105 => first | k_is | rfl)
    (case x101_106 => first | k_is | rfl)
    (case x101_107 => first | k_is | rfl)
    (case x101_108 => first | k_is | rfl)
    (case x101_109 => first | k_is | rfl)
    (case x101_110 => first | k_is | rfl)
    (case x101_111 => first | k_is | rfl)
    (case x101_112 => first | k_is | rfl)
    (case x101_113 => first | k_is | rfl)
    (case x101_114 => first | k_is | rfl)
    (case x101_115 => first | k_is | rfl)
    (case x101_116 => first | k_is | rfl)
    (case x101_117 => first | k_is | rfl)
    (case x101_118 => first | k_is | rfl)
    (case x101_119 => first | k_is | rfl)
    (case xs102 => k_is)
    (case xt102 => k_is)
    (case xp102 => k_is)
    (case xe102 => k_exc)
    (case yg102 => k_is)
    (case yk102 => k_is)
    (case yd102 => k_is)
    (case ya102 => k_is)
    (case ym102 => k_is)
    (case yo102 => k_is)
    (case yv102 => k_is)
    (case x102_100 => first | k_is | rfl)
    (case x102_101 => first | k_is | rfl)
    (case x102_102 => first | k_is | rfl)
    (case x102_103 => first | k_is | rfl)
    (case x102_104 => first | k_is | rfl)
    (case x102_105 => first | k_is | rfl)
    (case x102_106 => first | k_is | rfl)
    (case x102_107 => first | k_is | rfl)
    (case x102_108 => first | k_is | rfl)
    (case x102_109 => first | k_is | rfl)
    (case x102_110 => first | k_is | rfl)
    (case x102_111 => first | k_is | rfl)
    (case x102_112 => first | k_is | rfl)
    (case x102_113 => first | k_is | rfl)
    (case x102_114 => first | k_is | rfl)
    (case x102_115 => first | k_is | rfl)
    (case x102_116 => first | k_is | rfl)
    (case x102_117 => first | k_is | rfl)
    (case x102_118 => first | k_is | rfl)
    (case x102_119 => first | k_is | rfl)
    (case xs103 => k_is)
    (case xt103 => k_is)
    (case xp103 => k_is)
    (case xe103 => k_exc)
    (case yg103 => k_is)
    (case yk103 => k_is)
    (case yd103 => k_is)
    (case ya103 => k_is)
    (case ym103 => k_is)
    (case yo103 => k_is)
    (case yv103 => k_is)
    (case x103_100 => first | k_is | rfl)
    (case x103_101 => first | k_is | rfl)
    (case x103_102 => first | k_is | rfl)
    (case x103_103 => first | k_is | rfl)
    (case x103_104 => first | k_is | rfl)
    (case x103_105 => first | k_is | rfl)
    (case x103_106 => first | k_is | rfl)
    (case x103_107 => first | k_is | rfl)
    (case x103_108 => first | k_is | rfl)
    (case x103_109 => first | k_is | rfl)
    (case x103_110 => first | k_is | rfl)
    (case x103_111 => first | k_is | rfl)
    (case x103_112 => first | k_is | rfl)
    (case x103_113 => first | k_is | rfl)
    (case x103_114 => first | k_is | rfl)
    (case x103_115 => first | k_is | rfl)
    (case x103_116 => first | k_is | rfl)
    (case x103_117 => first | k_is | rfl)
    (case x103_118 => first | k_is | rfl)
    (case x103_119 => first | k_is | rfl)
    (case xs104 => k_is)
    (case xt104 => k_is)
    (case xp104 => k_is)
    (case xe104 => k_exc)
    (case yg104 => k_is)
    (case yk104 => k_is)
    (case yd104 => k_is)
    (case ya104 => k_is)
    (case ym104 => k_is)
    (case yo104 => k_is)
    (case yv104 => k_is)
    (case x104_100 => first | k_is | rfl)
    (case x104_101 => first | k_is | rfl)
    (case x104_102 => first | k_is | rfl)
    (case x104_103 => first | k_is | rfl)
    (case x104_104 => first | k_is | rfl)
    (case x104_105 => first | k_is | rfl)
    (case x104_106 => first | k_is | rfl)
    (case x104_107 => first | k_is | rfl)
    (case x104_108 => first | k_is | rfl)
    (case x104_109 => first | k_is | rfl)
    (case x104_110 => first | k_is | rfl)
    (case x104_111 => first | k_is | rfl)
    (case x104_112 => first | k_is | rfl)
    (case x104_113 => first | k_is | rfl)
    (case x104_114 => first | k_is | rfl)
    (case x104_115 => first | k_is | rfl)
    (case x104_116 => first | k_is | rfl)
    (case x104_117 => first | k_is | rfl)
    (case x104_118 => first | k_is | rfl)
    (case x104_119 => first | k_is | rfl)
    (case xs105 => k_is)
    (case xt105 => k_is)
    (case xp105 => k_is)
    (case xe105 => k_exc)
    (case yg105 => k_is)
    (case yk105 => k_is)
    (case yd105 => k_is)
    (case ya105 => k_is)
    (case ym105 => k_is)
    (case yo105 => k_is)
    (case yv105 => k_is)
    (case x105_100 => first | k_is | rfl)
    (case x105_101 => first | k_is | rfl)
    (case x105_102 => first | k_is | rfl)
    (case x105_103 => first | k_is | rfl)
    (case x105_104 => first | k_is | rfl)
    (case x105_105 => first | k_is | rfl)
    (case x105_106 => first | k_is | rfl)
    (case x105_107 => first | k_is | rfl)
    (case x105_108 => first | k_is | rfl)
    (case x105_109 => first | k_is | rfl)
    (case x105_110 => first | k_is | rfl)
    (case x105_111 => first | k_is | rfl)
    (case x105_112 => first | k_is | rfl)
    (case x105_113 => first | k_is | rfl)
    (case x105_114 => first | k_is | rfl)
    (case x105_115 => first | k_is | rfl)
    (case x105_116 => first | k_is | rfl)
    (case x105_117 => first | k_is | rfl)
    (case x105_118 => first | k_is | rfl)
    (case x105_119 => first | k_is | rfl)
    (case xs106 => k_is)
    (case xt106 => k_is)
    (case xp106 => k_is)
    (case xe106 => k_exc)
    (case yg106 => k_is)
    (case yk106 => k_is)
    (case yd106 => k_is)
    (case ya106 => k_is)
    (case ym106 => k_is)
    (case yo106 => k_is)
    (case yv106 => k_is)
    (case x106_100 => first | k_is | rfl)
    (case x106_101 => first | k_is | rfl)
    (case x106_102 => first | k_is | rfl)
    (case x106_103 => first | k_is | rfl)
    (case x106_104 => first | k_is | rfl)
    (case x106_105 => first | k_is | rfl)
    (case x106_106 => first | k_is | rfl)
    (case x106_107 => first | k_is | rfl)
    (case x106_108 => first | k_is | rfl)
    (case x106_109 => first | k_is | rfl)
    (case x106_110 => first | k_is | rfl)
    (case x106_111 => first | k_is | rfl)
    (case x106_112 => first | k_is | rfl)
    (case x106_113 => first | k_is | rfl)
    (case x106_114 => first | k_is | rfl)
    (case x106_115 => first | k_is | rfl)
    (case x106_116 => first | k_is | rfl)
    (case x106_117 => first | k_is | rfl)
    (case x106_118 => first | k_is | rfl)
    (case x106_119 => first | k_is | rfl)
    (case xs107 => k_is)
    (case xt107 => k_is)
    (case xp107 => k_is)
    (case xe107 => k_exc)
    (case yg107 => k_is)
    (case yk107 => k_is)
    (case yd107 => k_is)
    (case ya107 => k_is)
    (case ym107 => k_is)
    (case yo107 => k_is)
    (case yv107 => k_is)
    (case x107_100 => first | k_is | rfl)
    (case x107_101 => first | k_is | rfl)
    (case x107_102 => first | k_is | rfl)
    (case x107_103 => first | k_is | rfl)
    (case x107_104 => first | k_is | rfl)
    (case x107_105 => first | k_is | rfl)
    (case x107_106 => first | k_is | rfl)
    (case x107_107 => first | k_is | rfl)
    (case x107_108 => first | k_is | rfl)
    (case x107_109 => first | k_is | rfl)
    (case x107_110 => first | k_is | rfl)
    (case x107_111 => first | k_is | rfl)
    (case x107_112 => first | k_is | rfl)
    (case x107_113 => first | k_is | rfl)
    (case x107_114 => first | k_is | rfl)
    (case x107_115 => first | k_is | rfl)
    (case x107_116 => first | k_is | rfl)
    (case x107_117 => first | k_is | rfl)
    (case x107_118 => first | k_is | rfl)
    (case x107_119 => first | k_is | rfl)
    (case xs108 => k_is)
    (case xt108 => k_is)
    (case xp108 => k_is)
    (case xe108 => k_exc)
    (case yg108 => k_is)
    (case yk108 => k_is)
    (case yd108 => k_is)
    (case ya108 => k_is)
    (case ym108 => k_is)
    (case yo108 => k_is)
    (case yv108 => k_is)
    (case x108_100 => first | k_is | rfl)
    (case x108_101 => first | k_is | rfl)
    (case x108_102 => first | k_is | rfl)
    (case x108_103 => first | k_is | rfl)
    (case x108_104 => first | k_is | rfl)
    (case x108_105 => first | k_is | rfl)
    (case x108_106 => first | k_is | rfl)
    (case x108_107 => first | k_is | rfl)
    (case x108_108 => first | k_is | rfl)
    (case x108_109 => first | k_is | rfl)
    (case x108_110 => first | k_is | rfl)
    (case x108_111 => first | k_is | rfl)
    (case x108_112 => first | k_is | rfl)
    (case x108_113 => first | k_is | rfl)
    (case x108_114 => first | k_is | rfl)
    (case x108_115 => first | k_is | rfl)
    (case x108_116 => first | k_is | rfl)
    (case x108_117 => first | k_is | rfl)
    (case x108_118 => first | k_is | rfl)
    (case x108_119 => first | k_is | rfl)
    (case xs109 => k_is)
    (case xt109 => k_is)
    (case xp109 => k_is)
    (case xe109 => k_exc)
    (case yg109 => k_is)
    (case yk109 => k_is)
    (case yd109 => k_is)
    (case ya109 => k_is)
    (case ym109 => k_is)
    (case yo109 => k_is)
    (case yv109 => k_is)
    (case x109_100 => first | k_is | rfl)
    (case x109_101 => first | k_is | rfl)
    (case x109_102 => first | k_is | rfl)
    (case x109_103 => first | k_is | rfl)
    (case x109_104 => first | k_is | rfl)
    (case x109_105 => first | k_is | rfl)
    (case x109_106 => first | k_is | rfl)
    (case x109_107 => first | k_is | rfl)
    (case x109_108 => first | k_is | rfl)
    (case x109_109 => first | k_is | rfl)
    (case x109_110 => first | k_is | rfl)
    (case x109_111 => first | k_is | rfl)
    (case x109_112 => first | k_is | rfl)
    (case x109_113 => first | k_is | rfl)
    (case x109_114 => first | k_is | rfl)
    (case x109_115 => first | k_is | rfl)
    (case x109_116 => first | k_is | rfl)
    (case x109_117 => first | k_is | rfl)
    (case x109_118 => first | k_is | rfl)
    (case x109_119 => first | k_is | rfl)
    (case xs110 => k_is)
    (case xt110 => k_is)
    (case xp110 => k_is)
    (case xl110 => k_is)
    (case xv110 => decide +kernel)
    (case xa110 => k_is)
    (case xi110 => k_is)
    (case xf110 => k_is)
    (case xo110 => k_is)
    (case l110 => k_is)
    (case c110 => k_is)
    (case k110 => k_is)
    (case yg110 => k_is)
    (case yk110 => k_is)
    (case yd110 => k_is)
    (case ya110 => k_is)
    (case ym110 => k_is)
    (case yo110 => k_is)
    (case yv110 => k_is)
    (case x110_100 => first | k_is | rfl)
    (case x110_101 => first | k_is | rfl)
    (case x110_102 => first | k_is | rfl)
    (case x110_103 => first | k_is | rfl)
    (case x110_104 => first | k_is | rfl)
    (case x110_105 => first | k_is | rfl)
    (case x110_106 => first | k_is | rfl)
    (case x110_107 => first | k_is | rfl)
    (case x110_108 => first | k_is | rfl)
    (case x110_109 => first | k_is | rfl)
    (case x110_110 => first | k_is | rfl)
    (case x110_111 => first | k_is | rfl)
    (case x110_112 => first | k_is | rfl)
    (case x110_113 => first | k_is | rfl)
    (case x110_114 => first | k_is | rfl)
    (case x110_115 => first | k_is | rfl)
    (case x110_116 => first | k_is | rfl)
    (case x110_117 => first | k_is | rfl)
    (case x110_118 => first | k_is | rfl)
    (case x110_119 => first | k_is | rfl)
    (case xs111 => k_is)
    (case xt111 => k_is)
    (case xp111 => k_is)
    (case xl111 => k_is)
    (case xv111 => decide +kernel)
    (case xa111 => k_is)
    (case xi111 => k_is)
    (case xf111 => k_is)
    (case xo111 => k_is)
    (case l111 => k_is)
    (case c111 => k_is)
    (case k111 => k_is)
    (case yg111 => k_is)
    (case yk111 => k_is)
    (case yd111 => k_is)
    (case ya111 => k_is)
    (case ym111 => k_is)
    (case yo111 => k_is)
    (case yv111 => k_is)
    (case x111_100 => first | k_is | rfl)
    (case x111_101 => first | k_is | rfl)
    (case x111_102 => first | k_is | rfl)
    (case x111_103 => first | k_is | rfl)
    (case x111_104 => first | k_is | rfl)
    (case x111_105 => first | k_is | rfl)
    (case x111_106 => first | k_is | rfl)
    (case x111_107 => first | k_is | rfl)
    (case x111_108 => first | k_is | rfl)
    (case x111_109 => first | k_is | rfl)
    (case x111_110 => first | k_is | rfl)
    (case x111_111 => first | k_is | rfl)
    (case x111_112 => first | k_is | rfl)
    (case x111_113 => first | k_is | rfl)
    (case x111_114 => first | k_is | rfl)
    (case x111_115 => first | k_is | rfl)
    (case x111_116 => first | k_is | rfl)
    (case x111_117 => first | k_is | rfl)
    (case x111_118 => first | k_is | rfl)
    (case x111_119 => first | k_is | rfl)
    (case xs112 => k_is)
    (case xt112 => k_is)
    (case xp112 => k_is)
    (case xl112 => k_is)
    (case xv112 => decide +kernel)
    (case xa112 => k_is)
    (case xi112 => k_is)
    (case xf112 => k_is)
    (case xo112 => k_is)
    (case l112 => k_is)
    (case c112 => k_is)
    (case k112 => k_is)
    (case yg112 => k_is)
    (case yk112 => k_is)
    (case yd112 => k_is)
    (case ya112 => k_is)
    (case ym112 => k_is)
    (case yo112 => k_is)
    (case yv112 => k_is)
    (case x112_100 => first | k_is | rfl)
    (case x112_101 => first | k_is | rfl)
    (case x112_102 => first | k_is | rfl)
    (case x112_103 => first | k_is | rfl)
    (case x112_104 => first | k_is | rfl)
    (case x112_105 => first | k_is | rfl)
    (case x112_106 => first | k_is | rfl)
    (case x112_107 => first | k_is | rfl)
    (case x112_108 => first | k_is | rfl)
    (case x112_109 => first | k_is | rfl)
    (case x112_110 => first | k_is | rfl)
    (case x112_111 => first | k_is | rfl)
    (case x112_112 => first | k_is | rfl)
    (case x112_113 => first | k_is | rfl)
    (case x112_114 => first | k_is | rfl)
    (case x112_115 => first | k_is | rfl)
    (case x112_116 => first | k_is | rfl)
    (case x112_117 => first | k_is | rfl)
    (case x112_118 => first | k_is | rfl)
    (case x112_119 => first | k_is | rfl)
    (case xs113 => k_is)
    (case xt113 => k_is)
    (case xp113 => k_is)
    (case xl113 => k_is)
    (case xv113 => decide +kernel)
    (case xa113 => k_is)
    (case xi113 => k_is)
    (case xf113 => k_is)
    (case xo113 => k_is)
    (case l113 => k_is)
    (case c113 => k_is)
    (case k113 => k_is)
    (case yg113 => k_is)
    (case yk113 => k_is)
    (case yd113 => k_is)
    (case ya113 => k_is)
    (case ym113 => k_is)
    (case yo113 => k_is)
    (case yv113 => k_is)
    (case x113_100 => first | k_is | rfl)
    (case x113_101 => first | k_is | rfl)
    (case x113_102 => first | k_is | rfl)
    (case x113_103 => first | k_is | rfl)
    (case x113_104 => first | k_is | rfl)
    (case x113_105 => first | k_is | rfl)
    (case x113_106 => first | k_is | rfl)
    (case x113_107 => first | k_is | rfl)
    (case x113_108 => first | k_is | rfl)
    (case x113_109 => first | k_is | rfl)
    (case x113_110 => first | k_is | rfl)
    (case x113_111 => first | k_is | rfl)
    (case x113_112 => first | k_is | rfl)
    (case x113_113 => first | k_is | rfl)
    (case x113_114 => first | k_is | rfl)
    (case x113_115 => first | k_is | rfl)
    (case x113_116 => first | k_is | rfl)
    (case x113_117 => first | k_is | rfl)
    (case x113_118 => first | k_is | rfl)
    (case x113_119 => first | k_is | rfl)
    (case xs114 => k_is)
    (case xt114 => k_is)
    (case xp114 => k_is)
    (case xl114 => k_is)
    (case xv114 => decide +kernel)
    (case xa114 => k_is)
    (case xi114 => k_is)
    (case xf114 => k_is)
    (case xo114 => k_is)
    (case l114 => k_is)
    (case c114 => k_is)
    (case k114 => k_is)
    (case yg114 => k_is)
    (case yk114 => k_is)
    (case yd114 => k_is)
    (case ya114 => k_is)
    (case ym114 => k_is)
    (case yo114 => k_is)
    (case yv114 => k_is)
    (case x114_100 => first | k_is | rfl)
    (case x114_101 => first | k_is | rfl)
    (case x114_102 => first | k_is | rfl)
    (case x114_103 => first | k_is | rfl)
    (case x114_104 => first | k_is | rfl)
    (case x114_105 => first | k_is | rfl)
    (case x114_106 => first | k_is | rfl)
    (case x114_107 => first | k_is | rfl)
    (case x114_108 => first | k_is | rfl)
    (case x114_109 => first | k_is | rfl)
    (case x114_110 => first | k_is | rfl)
    (case x114_111 => first | k_is | rfl)
    (case x114_112 => first | k_is | rfl)
    (case x114_113 => first | k_is | rfl)
    (case x114_114 => first | k_is | rfl)
    (case x114_115 => first | k_is | rfl)
    (case x114_116 => first | k_is | rfl)
    (case x114_117 => first | k_is | rfl)
    (case x114_118 => first | k_is | rfl)
    (case x114_119 => first | k_is | rfl)
    (case xs115 => k_is)
    (case xt115 => k_is)
    (case xp115 => k_is)
    (case xl115 => k_is)
    (case xv115 => decide +kernel)
    (case xa115 => k_is)
    (case xi115 => k_is)
    (case xf115 => k_is)
    (case xo115 => k_is)
    (case l115 => k_is)
    (case c115 => k_is)
    (case k115 => k_is)
    (case yg115 => k_is)
    (case yk115 => k_is)
    (case yd115 => k_is)
    (case ya115 => k_is)
    (case ym115 => k_is)
    (case yo115 => k_is)
    (case yv115 => k_is)
    (case x115_100 => first | k_is | rfl)
    (case x115_101 => first | k_is | rfl)
    (case x115_102 => first | k_is | rfl)
    (case x115_103 => first | k_is | rfl)
    (case x115_104 => first | k_is | rfl)
    (case x115_105 => first | k_is | rfl)
    (case x115_106 => first | k_is | rfl)
    (case x115_107 => first | k_is | rfl)
    (case x115_108 => first | k_is | rfl)
    (case x115_109 => first | k_is | rfl)
    (case x115_110 => first | k_is | rfl)
    (case x115_111 => first | k_is | rfl)
    (case x115_112 => first | k_is | rfl)
    (case x115_113 => first | k_is | rfl)
    (case x115_114 => first | k_is | rfl)
    (case x115_115 => first | k_is | rfl)
    (case x115_116 => first | k_is | rfl)
    (case x115_117 => first | k_is | rfl)
    (case x115_118 => first | k_is | rfl)
    (case x115_119 => first | k_is | rfl)
    (case xs116 => k_is)
    (case xt116 => k_is)
    (case xp116 => k_is)
    (case xl116 => k_is)
    (case xv116 => decide +kernel)
    (case xa116 => k_is)
    (case xi116 => k_is)
    (case xf116 => k_is)
    (case xo116 => k_is)
    (case l116 => k_is)
    (case c116 => k_is)
    (case k116 => k_is)
    (case yg116 => k_is)
    (case yk116 => k_is)
    (case yd116 => k_is)
    (case ya116 => k_is)
    (case ym116 => k_is)
    (case yo116 => k_is)
    (case yv116 => k_is)
    (case x116_100 => first | k_is | rfl)
    (case x116_101 => first | k_is | rfl)
    (case x116_102 => first | k_is | rfl)
    (case x116_103 => first | k_is | rfl)
    (case x116_104 => first | k_is | rfl)
    (case x116_105 => first | k_is | rfl)
    (case x116_106 => first | k_is | rfl)
    (case x116_107 => first | k_is | rfl)
    (case x116_108 => first | k_is | rfl)
    (case x116_109 => first | k_is | rfl)
    (case x116_110 => first | k_is | rfl)
    (case x116_111 => first | k_is | rfl)
    (case x116_112 => first | k_is | rfl)
    (case x116_113 => first | k_is | rfl)
    (case x116_114 => first | k_is | rfl)
    (case x116_115 => first | k_is | rfl)
    (case x116_116 => first | k_is | rfl)
    (case x116_117 => first | k_is | rfl)
    (case x116_118 => first | k_is | rfl)
    (case x116_119 => first | k_is | rfl)
    (case xs117 => k_is)
    (case xt117 => k_is)
    (case xp117 => k_is)
    (case xl117 => k_is)
    (case xv117 => decide +kernel)
    (case xa117 => k_is)
    (case xi117 => k_is)
    (case xf117 => k_is)
    (case xo117 => k_is)
    (case l117 => k_is)
    (case c117 => k_is)
    (case k117 => k_is)
    (case yg117 => k_is)
    (case yk117 => k_is)
    (case yd117 => k_is)
    (case ya117 => k_is)
    (case ym117 => k_is)
    (case yo117 => k_is)
    (case yv117 => k_is)
    (case x117_100 => first | k_is | rfl)
    (case x117_101 => first | k_is | rfl)
    (case x117_102 => first | k_is | rfl)
    (case x117_103 => first | k_is | rfl)
    (case x117_104 => first | k_is | rfl)
    (case x117_105 => first | k_is | rfl)
    (case x117_106 => first | k_is | rfl)
    (case x117_107 => first | k_is | rfl)
    (case x117_108 => first | k_is | rfl)
    (case x117_109 => first | k_is | rfl)
    (case x117_110 => first | k_is | rfl)
    (case x117_111 => first | k_is | rfl)
    (case x117_112 => first | k_is | rfl)
    (case x117_113 => first | k_is | rfl)
    (case x117_114 => first | k_is | rfl)
    (case x117_115 => first | k_is | rfl)
    (case x117_116 => first | k_is | rfl)
    (case x117_117 => first | k_is | rfl)
    (case x117_118 => first | k_is | rfl)
    (case x117_119 => first | k_is | rfl)
    (case xs118 => k_is)
    (case xt118 => k_is)
    (case xp118 => k_is)
    (case xl118 => k_is)
    (case xv118 => decide +kernel)
    (case xa118 => k_is)
    (case xi118 => k_is)
    (case xf118 => k_is)
    (case xo118 => k_is)
    (case l118 => k_is)
    (case c118 => k_is)
    (case k118 => k_is)
    (case yg118 => k_is)
    (case yk118 => k_is)
    (case yd118 => k_is)
    (case ya118 => k_is)
    (case ym118 => k_is)
    (case yo118 => k_is)
    (case yv118 => k_is)
    (case x118_100 => first | k_is | rfl)
    (case x118_101 => first | k_is | rfl)
    (case x118_102 => first | k_is | rfl)
    (case x118_103 => first | k_is | rfl)
    (case x118_104 => first | k_is | rfl)
    (case x118_105 => first | k_is | rfl)
    (case x118_106 => first | k_is | rfl)
    (case x118_107 => first | k_is | rfl)
    (case x118_108 => first | k_is | rfl)
    (case x118_109 => first | k_is | rfl)
    (case x118_110 => first | k_is | rfl)
    (case x118_111 => first | k_is | rfl)
    (case x118_112 => first | k_is | rfl)
    (case x118_113 => first | k_is | rfl)
    (case x118_114 => first | k_is | rfl)
    (case x118_115 => first | k_is | rfl)
    (case x118_116 => first | k_is | rfl)
    (case x118_117 => first | k_is | rfl)
    (case x118_118 => first | k_is | rfl)
    (case x118_119 => first | k_is | rfl)
    (case xs119 => k_is)
    (case xt119 => k_is)
    (case xp119 => k_is)
    (case xl119 => k_is)
    (case xv119 => decide +kernel)
    (case xa119 => k_is)
    (case xi119 => k_is)
    (case xf119 => k_is)
    (case xo119 => k_is)
    (case l119 => k_is)
    (case c119 => k_is)
    (case k119 => k_is)
    (case yg119 => k_is)
    (case yk119 => k_is)
    (case yd119 => k_is)
    (case ya119 => k_is)
    (case ym119 => k_is)
    (case yo119 => k_is)
    (case yv119 => k_is)
    (case x119_100 => first | k_is | rfl)
    (case x119_101 => first | k_is | rfl)
    (case x119_102 => first | k_is | rfl)
    (case x119_103 => first | k_is | rfl)
    (case x119_104 => first | k_is | rfl)
    (case x119_105 => first | k_is | rfl)
    (case x119_106 => first | k_is | rfl)
    (case x119_107 => first | k_is | rfl)
    (case x119_108 => first | k_is | rfl)
    (case x119_109 => first | k_is | rfl)
    (case x119_110 => first | k_is | rfl)
    (case x119_111 => first | k_is | rfl)
    (case x119_112 => first | k_is | rfl)
    (case x119_113 => first | k_is | rfl)
    (case x119_114 => first | k_is | rfl)
    (case x119_115 => first | k_is | rfl)
    (case x119_116 => first | k_is | rfl)
    (case x119_117 => first | k_is | rfl)
    (case x119_118 => first | k_is | rfl)
    (case x119_119 => first | k_is | rfl)
    (case yn => k_is)
    (case yt => k_is)
    (case xeB => k_exc)
    (case xpB => k_is)
    (case xsB => k_is)
    (case ygB => k_is)
    (case ykB => k_is)
    (case yaB => k_is)
    (case ymB => k_is)
    (case xB_100 => first | k_is | rfl)
    (case xB_101 => first | k_is | rfl)
    (case xB_102 => first | k_is | rfl)
    (case xB_103 => first | k_is | rfl)
    (case xB_104 => first | k_is | rfl)
    (case xB_105 => first | k_is | rfl)
    (case xB_106 => first | k_is | rfl)
    (case xB_107 => first | k_is | rfl)
    (case xB_108 => first | k_is | rfl)
    (case xB_109 => first | k_is | rfl)
    (case xB_110 => first | k_is | rfl)
    (case xB_111 => first | k_is | rfl)
    (case xB_112 => first | k_is | rfl)
    (case xB_113 => first | k_is | rfl)
    (case xB_114 => first | k_is | rfl)
    (case xB_115 => first | k_is | rfl)
    (case xB_116 => first | k_is | rfl)
    (case xB_117 => first | k_is | rfl)
    (case xB_118 => first | k_is | rfl)
    (case xB_119 => first | k_is | rfl)
end
