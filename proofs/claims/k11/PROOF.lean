import PyProof.Rows.All
import Wide.All
import OpenK.AllK
import Wide.FinOn
import HandS.ForMost
import HandS.Lambda
import HandS.EndTab
import HandS.ForExc
import HandS.Wide
import HandS.Property
import HandS.Star
import HandS.IsInst
import HandS.SortInts
import HandS.Flow
import HandS.More
import HandS.Conv
import HandS.Dict
import HandS.ExcOwn
import HandS.Words
import HandS.EndBits
import HandS.Style
import HandS.ExcInit
import HandS.ExcField
import HandS.ExcIs
import KE.KIsAll
import KE.KTryMore
import HandS.FStr
import HandS.SetFor
import HandS.Strs
import PyProof.Rows.TupDisplay
import HandS.CallSlots
import HandS.Deep
import HandS.TupLe
import KE.KOpsOwn
import HandS.Iter
import HandS.DictComp
import HandS.Nested
import HandS.SortRule
import HandS.TupSets
import KE.KEqDict
import PyProof.DictFindH
import HandS.TupLen
import KE.KDictCopyH
import HandS.TryOnly
import KE.KDictOf
import HandS.SortKw
import HandS.SortOrd
import KE.KSortTupAny
import HandS.Finally
import PySem.Challenge.RW_claimclasses_k11_scales_and_rows
set_option Elab.async false
set_option linter.all false
set_option maxRecDepth 100000
set_option autoImplicit false
section
namespace Lin
open PySem L2

/-! ### data with ownership marks, and the same with addresses -/
inductive Kd where
  | frz | own | bor (r : Nat) | par
  deriving DecidableEq
inductive Sh where
  | lst | tup | dic (ks : List Key) | dtu (ks : List (List Key)) | obj (c : Nat) (ns : List Str) | xd (ns : List Str) | scr
  deriving DecidableEq
inductive D where
  | im (v : V)
  | nd (k : Kd) (s : Sh) (ds : List D)
inductive T where
  | im (v : V)
  | nd (a : Addr) (k : Kd) (s : Sh) (dx : Addr) (ts : List T)
structure Gh where
  H0 : Hp
  W : Addr → Prop
  F : Addr → Prop
  L : Addr → Option (Obj × HO) := fun _ => none
/-- a dict -/
def IsD : HO → Prop
  | .dK _ => True
  | .dT _ => True
  | _ => False
/-- neither a table of code objects nor a code object, nor a dict that is locked -/
def Sane (o : HO) : Prop := (∀ ps, o ≠ .tbl ps) ∧ (∀ c q, o ≠ LamX.CodeO c q) ∧ ∀ b u, o = .frz b u → ¬ IsD u
structure Gc where
  cl : Nat → Addr
  scr : HO
  ph : Gh → Prop
  T : List (Addr × Str)
  sane : Sane scr
def ho (g : Gc) (s : Sh) (dx : Addr) (vs : List V) : HO := match s with
  | .lst => .lst vs
  | .tup => .tup vs
  | .dic ks => .dK (ks.zip vs)
  | .dtu ks => .dT (ks.zip vs)
  | .obj c ns => .ins (g.cl c) dx (ns.zip vs)
  | .xd ns => .xd (ns.zip vs)
  | .scr => g.scr
theorem ho_sane (g : Gc) (s : Sh) (dx : Addr) (vs : List V) : Sane (ho g s dx vs) := by
  cases s with
  | scr => exact g.sane
  | _ => exact ⟨(fun ps z => nomatch z), (fun c q z => by unfold LamX.CodeO ho at z; cases z), fun b u z => nomatch z⟩
/-- new, or a table -/
def Nw (H : Hp) (a : Addr) : Prop := H a = none ∨ ∃ ps, H a = some (.tbl ps)
theorem Nw.ne {H : Hp} {a : Addr} {o : HO} (h : Nw H a) (e : H a = some o) (hs : Sane o) : False := by
  rcases h with h | ⟨ps, h⟩
  · rw [h] at e; cases e
  · rw [h] at e; cases e; exact hs.1 ps rfl
theorem tabs_but {T : List (Addr × Str)} {H H' : Hp} {a : Addr} {o : HO} (t : LamX.Tabs T H) (e : H a = some o) (hs : Sane o) (hH : ∀ b o, b ≠ a → H b = some o → H' b = some o) : LamX.Tabs T H' := fun p hp => by
  obtain ⟨ps, h1, h2, h3⟩ := t p hp
  have n1 : p.1 ≠ a := fun z => by rw [z, e] at h1; cases h1; exact hs.1 ps rfl
  refine ⟨ps, hH _ _ n1 h1, h2, fun pos cv hc => ?_⟩
  obtain ⟨c, e1, e2⟩ := h3 pos cv hc
  have n2 : c ≠ a := fun z => by
    have e3 := e2
    rw [z, e] at e3
    exact hs.2.1 _ _ (Option.some.inj e3)
  exact ⟨c, e1, hH _ _ n2 e2⟩
theorem tabs_ext {T : List (Addr × Str)} {H H' : Hp} (t : LamX.Tabs T H) (h : ∀ a o, H a = some o → H' a = some o) : LamX.Tabs T H' := t.ext h
def T.root : T → V
  | .im v => v
  | .nd a _ _ _ _ => .ref a
abbrev Cell := Kd × Addr × HO
/-- a tuple is never owned -/
def kz (s : Sh) (k : Kd) : Kd := match s with
  | .tup => .frz
  | .scr => .frz
  | _ => k
def HTup : HO → Prop
  | .tup _ => True
  | _ => False
theorem kz_f {f : Kd → Kd} (hf : f .frz = .frz) (s : Sh) (k : Kd) : kz s (f k) = f (kz s k) := by cases s <;> simp [kz, hf]
theorem kz_own {s : Sh} {k : Kd} (h : kz s k = .own) : k = .own ∧ s ≠ .tup ∧ s ≠ .scr := by cases s <;> simp_all [kz]
mutual
def T.cells (g : Gc) : T → List Cell
  | .im _ => []
  | .nd a k s dx ts => (kz s k, a, ho g s dx (ts.map T.root)) :: cellsL g ts
def cellsL (g : Gc) : List T → List Cell
  | [] => []
  | t :: r => t.cells g ++ cellsL g r
end
mutual
theorem cells_sane (g : Gc) : ∀ (t : T) (c : Cell), c ∈ t.cells g → Sane c.2.2
  | .im _, c, h => by simp [T.cells] at h
  | .nd a k s dx ts, c, h => by
    rw [T.cells] at h
    rcases List.mem_cons.mp h with rfl | h
    · exact ho_sane g s dx _
    · exact cellsL_sane g ts c h
theorem cellsL_sane (g : Gc) : ∀ (ts : List T) (c : Cell), c ∈ cellsL g ts → Sane c.2.2
  | [], c, h => by simp [cellsL] at h
  | t :: r, c, h => by
    rw [cellsL] at h
    rcases List.mem_append.mp h with h | h
    · exact cells_sane g t c h
    · exact cellsL_sane g r c h
end
mutual
def T.er : T → D
  | .im v => .im v
  | .nd _ k s _ ts => .nd k s (erL ts)
def erL : List T → List D
  | [] => []
  | t :: r => t.er :: erL r
end
mutual
def T.mk (f : Kd → Kd) : T → T
  | .im v => .im v
  | .nd a k s dx ts => .nd a (f k) s dx (mkL f ts)
def mkL (f : Kd → Kd) : List T → List T
  | [] => []
  | t :: r => t.mk f :: mkL f r
end
mutual
def D.mk (f : Kd → Kd) : D → D
  | .im v => .im v
  | .nd k s ds => .nd (f k) s (mkDL f ds)
def mkDL (f : Kd → Kd) : List D → List D
  | [] => []
  | t :: r => t.mk f :: mkDL f r
end
mutual
def D.kinds : D → List Kd
  | .im _ => []
  | .nd k _ ds => k :: kindsL ds
def kindsL : List D → List Kd
  | [] => []
  | t :: r => t.kinds ++ kindsL r
end
mutual
def D.kins : D → List Kd
  | .im _ => []
  | .nd k s ds => kz s k :: kinsL ds
def kinsL : List D → List Kd
  | [] => []
  | t :: r => t.kins ++ kinsL r
end
theorem erL_eq (ts : List T) : erL ts = ts.map T.er := by
  induction ts with
  | nil => rfl
  | cons t r ih => simp [erL, ih]
theorem cellsL_eq (g : Gc) (ts : List T) : cellsL g ts = ts.flatMap (T.cells g) := by
  induction ts with
  | nil => rfl
  | cons t r ih => simp [cellsL, ih]
theorem cellsL_append (g : Gc) (a b : List T) : cellsL g (a ++ b) = cellsL g a ++ cellsL g b := by simp [cellsL_eq]
theorem mkL_eq (f : Kd → Kd) (ts : List T) : mkL f ts = ts.map (T.mk f) := by
  induction ts with
  | nil => rfl
  | cons t r ih => simp [mkL, ih]
theorem mkDL_eq (f : Kd → Kd) (ts : List D) : mkDL f ts = ts.map (D.mk f) := by
  induction ts with
  | nil => rfl
  | cons t r ih => simp [mkDL, ih]
theorem kindsL_eq (ts : List D) : kindsL ts = ts.flatMap D.kinds := by
  induction ts with
  | nil => rfl
  | cons t r ih => simp [kindsL, ih]
theorem kinsL_eq (ts : List D) : kinsL ts = ts.flatMap D.kins := by
  induction ts with
  | nil => rfl
  | cons t r ih => simp [kinsL, ih]
mutual
/-- a mark that counts is one that stands there, or none -/
theorem kins_sub : ∀ (d : D) (k : Kd), k ∈ d.kins → k = .frz ∨ k ∈ d.kinds
  | .im _, k, h => by simp [D.kins] at h
  | .nd k' s ds, k, h => by
    rw [D.kins] at h
    rcases List.mem_cons.mp h with h | h
    · cases s <;> first | exact .inl h | exact .inr (by rw [D.kinds, h]; exact List.mem_cons_self)
    · exact (kinsL_sub ds k h).imp id fun z => by rw [D.kinds]; exact List.mem_cons_of_mem _ z
theorem kinsL_sub : ∀ (ds : List D) (k : Kd), k ∈ kinsL ds → k = .frz ∨ k ∈ kindsL ds
  | [], k, h => by simp [kinsL] at h
  | d :: r, k, h => by
    rw [kinsL] at h
    rcases List.mem_append.mp h with h | h
    · exact (kins_sub d k h).imp id fun z => by rw [kindsL]; exact List.mem_append_left _ z
    · exact (kinsL_sub r k h).imp id fun z => by rw [kindsL]; exact List.mem_append_right _ z
end
theorem root_mk (f : Kd → Kd) (t : T) : (t.mk f).root = t.root := by cases t <;> rfl
theorem roots_mk (f : Kd → Kd) (ts : List T) : (mkL f ts).map T.root = ts.map T.root := by simp [mkL_eq, root_mk]
mutual
theorem cells_mk (g : Gc) (f : Kd → Kd) (hf : f .frz = .frz := by rfl) : ∀ t : T, (t.mk f).cells g = (t.cells g).map fun c => (f c.1, c.2)
  | .im _ => rfl
  | .nd a k s dx ts => by
    simp only [T.mk, T.cells, List.map_cons, roots_mk]
    rw [cellsL_mk g f hf ts, kz_f hf]
theorem cellsL_mk (g : Gc) (f : Kd → Kd) (hf : f .frz = .frz := by rfl) : ∀ ts : List T, cellsL g (mkL f ts) = (cellsL g ts).map fun c => (f c.1, c.2)
  | [] => rfl
  | t :: r => by
    simp only [mkL, cellsL, List.map_append]
    rw [cells_mk g f hf t, cellsL_mk g f hf r]
end
mutual
theorem er_mk (f : Kd → Kd) : ∀ t : T, (t.mk f).er = t.er.mk f
  | .im _ => rfl
  | .nd a k s dx ts => by
    simp only [T.mk, T.er, D.mk]
    rw [erL_mk f ts]
theorem erL_mk (f : Kd → Kd) : ∀ ts : List T, erL (mkL f ts) = mkDL f (erL ts)
  | [] => rfl
  | t :: r => by
    simp only [mkL, erL, mkDL]
    rw [er_mk f t, erL_mk f r]
end
mutual
theorem kinds_er (g : Gc) : ∀ t : T, t.er.kins = (t.cells g).map (·.1)
  | .im _ => rfl
  | .nd a k s dx ts => by
    simp only [T.er, D.kins, T.cells, List.map_cons]
    rw [kindsL_er g ts]
theorem kindsL_er (g : Gc) : ∀ ts : List T, kinsL (erL ts) = (cellsL g ts).map (·.1)
  | [] => rfl
  | t :: r => by
    simp only [erL, kinsL, cellsL, List.map_append]
    rw [kinds_er g t, kindsL_er g r]
end
mutual
theorem own_ntup (g : Gc) : ∀ (t : T) (c : Cell), c ∈ t.cells g → c.1 = .own → ¬ HTup c.2.2
  | .im _, c, h, _ => by simp [T.cells] at h
  | .nd a k s dx ts, c, h, e => by
    rw [T.cells] at h
    rcases List.mem_cons.mp h with rfl | h
    · obtain ⟨_, h1, h2⟩ := kz_own e
      cases s <;> simp_all [ho, HTup]
    · exact own_ntupL g ts c h e
theorem own_ntupL (g : Gc) : ∀ (ts : List T) (c : Cell), c ∈ cellsL g ts → c.1 = .own → ¬ HTup c.2.2
  | [], c, h, _ => by simp [cellsL] at h
  | t :: r, c, h, e => by
    rw [cellsL] at h
    rcases List.mem_append.mp h with h | h
    · exact own_ntup g t c h e
    · exact own_ntupL g r c h e
end
/-- a new cell -/
def NewC (c : Cell) : Prop := c.1 = .own ∨ (c.1 = .frz ∧ HTup c.2.2)
theorem NewC.nbor {c : Cell} {r : Nat} (h : NewC c) (e : c.1 = .bor r) : False := by
  rcases h with h | ⟨h, _⟩ <;> (rw [h] at e; cases e)
theorem newC_node (g : Gc) (a dx : Addr) (s : Sh) (vs : List V) (hs : s ≠ .scr) : NewC (kz s .own, a, ho g s dx vs) := by
  cases s <;> simp_all [NewC, kz, ho, HTup]
def ownsC (cs : List Cell) : List Addr := cs.filterMap fun c => if c.1 = .own then some c.2.1 else none
theorem mem_ownsC {cs : List Cell} {a : Addr} : a ∈ ownsC cs ↔ ∃ c ∈ cs, c.1 = .own ∧ c.2.1 = a := by
  unfold ownsC
  simp only [List.mem_filterMap]
  constructor
  · rintro ⟨c, hc, h⟩
    split at h
    · exact ⟨c, hc, by assumption, by simpa using h⟩
    · cases h
  · rintro ⟨c, hc, h1, h2⟩
    exact ⟨c, hc, by rw [if_pos h1, h2]⟩
theorem ownsC_append (a b : List Cell) : ownsC (a ++ b) = ownsC a ++ ownsC b := by simp [ownsC]

/-! ### the relation between slots and temps of the evaluator and the heap -/
def CellAt (g : Gc) (A : List (Option T)) (i : Nat) (c : Cell) : Prop := ∃ t, A[i]? = some (some t) ∧ c ∈ t.cells g
/-- what a cell has in the heap; a dict that nobody owns may be locked -/
def Hd (H : Hp) (c : Cell) : Prop := H c.2.1 = some c.2.2 ∨ (c.1 ≠ .own ∧ IsD c.2.2 ∧ ∃ o, H c.2.1 = some (.frz o c.2.2))
theorem Hd.ext {H H' : Hp} {c : Cell} (h : Hd H c) (k : ∀ o, H c.2.1 = some o → H' c.2.1 = some o) : Hd H' c :=
  h.elim (fun e => .inl (k _ e)) fun ⟨e1, e2, o, e3⟩ => .inr ⟨e1, e2, o, k _ e3⟩
theorem Hd.own {H : Hp} {c : Cell} (h : Hd H c) (e : c.1 = .own) : H c.2.1 = some c.2.2 := h.elim id fun z => absurd e z.1
theorem Hd.flat {H : Hp} {c : Cell} (h : Hd H c) (e : ¬ IsD c.2.2) : H c.2.1 = some c.2.2 := h.elim id fun z => absurd z.2.1 e
theorem Hd.to {H : Hp} {c d : Cell} (h : Hd H c) (e : c.2 = d.2) (k : d.1 = .own → c.1 = .own) : Hd H d := by
  obtain ⟨k1, a, o⟩ := c
  obtain ⟨k2, a2, o2⟩ := d
  cases e
  exact h.elim .inl fun z => .inr ⟨fun q => z.1 (k q), z.2⟩
theorem Hd.some {H : Hp} {c : Cell} (h : Hd H c) : ∃ o, H c.2.1 = some o := h.elim (fun e => ⟨_, e⟩) fun z => ⟨_, z.2.2.choose_spec⟩
theorem Hd.none {H : Hp} {c : Cell} (h : Hd H c) (e : H c.2.1 = none) : False := by
  obtain ⟨o, q⟩ := h.some
  rw [e] at q; cases q
/-- the object that stands there is sane, or a locked dict -/
theorem Hd.ntab {H : Hp} {c : Cell} (h : Hd H c) (s : Sane c.2.2) : ∃ o, H c.2.1 = Option.some o ∧ (∀ ps, o ≠ .tbl ps) ∧ ∀ c q, o ≠ LamX.CodeO c q := by
  rcases h with e | ⟨_, _, o, e⟩
  · exact ⟨_, e, s.1, s.2.1⟩
  · exact ⟨_, e, (fun ps z => nomatch z), (fun c q z => by unfold LamX.CodeO at z; cases z)⟩
theorem Nw.neD {H : Hp} {c : Cell} (h : Nw H c.2.1) (e : Hd H c) (s : Sane c.2.2) : False := by
  obtain ⟨o, e, k, _⟩ := e.ntab s
  rcases h with h | ⟨ps, h⟩
  · rw [h] at e; cases e
  · rw [h] at e; cases e; exact k ps rfl
theorem Hd.extN {H H' : Hp} {c : Cell} (h : Hd H c) (s : Sane c.2.2) (k : ∀ o, H c.2.1 = Option.some o → (∀ ps, o ≠ .tbl ps) → H' c.2.1 = Option.some o) : Hd H' c := by
  obtain ⟨o, e, n, _⟩ := h.ntab s
  refine h.ext fun o' e' => k o' e' ?_
  rw [e] at e'; cases e'; exact n
theorem Hd.rd {H : Hp} {k : Kd} {a : Addr} {o : HO} (h : Hd H (k, a, o)) : L2.Rd H a o := h.elim .inl fun z => .inr z.2.2
structure Rel (g : Gc) (Γ : Gh) (n : Nat) (A : List (Option T)) (σ : St) (H : Hp) : Prop where
  len : n ≤ A.length
  slen : σ.length = n
  val : ∀ (i : Nat) (t : T), i < n → A[i]? = some (some t) → σ[i]? = some (some t.root)
  hold : ∀ i c, CellAt g A i c → Hd H c
  lab : ∀ i c r, CellAt g A i c → c.1 = .bor r → r < n
  nd : ∀ (i : Nat) (t : T), A[i]? = some (some t) → (ownsC (t.cells g)).Nodup
  sep : ∀ i j c d, CellAt g A i c → CellAt g A j d → c.1 = .own → d.2.1 = c.2.1 → (i = j ∧ d.1 = .own) ∨ (i ≠ j ∧ d.1 = .bor i)
  frame : ∀ a o, Γ.H0 a = some o → (∀ ps, o ≠ .tbl ps) → ¬ Γ.W a → H a = some o
  gown : ∀ i c, CellAt g A i c → c.1 = .frz ∨ c.1 = .par ∨ Γ.W c.2.1 ∨ Nw Γ.H0 c.2.1
  gfrz : ∀ i c, CellAt g A i c → c.1 = .frz → ¬ HTup c.2.2 → Γ.W c.2.1 ∨ Nw Γ.H0 c.2.1 ∨ Γ.F c.2.1
  pin : g.ph Γ
  tab : LamX.Tabs g.T H
  lck : ∀ a p, Γ.L a = some p → H a = some (.frz p.1 p.2) ∧ IsD p.2

section
variable {g : Gc} {Γ : Gh} {n : Nat} {A B : List (Option T)} {σ : St} {H H' : Hp} {t : T}
theorem cellAt_left {i : Nat} {c : Cell} (h : CellAt g A i c) : CellAt g (A ++ B) i c := by
  obtain ⟨t, e, hc⟩ := h
  exact ⟨t, by rw [List.getElem?_append_left (List.getElem?_eq_some_iff.mp e).1]; exact e, hc⟩
theorem CellAt.lt {i : Nat} {c : Cell} (h : CellAt g A i c) : i < A.length := by
  obtain ⟨t, e, _⟩ := h
  exact (List.getElem?_eq_some_iff.mp e).1
theorem cellAt_snoc {i : Nat} {c : Cell} : CellAt g (A ++ [some t]) i c ↔ CellAt g A i c ∨ (i = A.length ∧ c ∈ t.cells g) := by
  constructor
  · rintro ⟨u, e, hc⟩
    by_cases hi : i < A.length
    · rw [List.getElem?_append_left hi] at e
      exact .inl ⟨u, e, hc⟩
    · by_cases hi2 : i = A.length
      · subst hi2
        simp at e
        subst e
        exact .inr ⟨rfl, hc⟩
      · rw [List.getElem?_append_right (by omega)] at e
        have : i - A.length ≠ 0 := by omega
        cases hh : i - A.length with
        | zero => exact absurd hh this
        | succ m => rw [hh] at e; simp at e
  · rintro (h | ⟨rfl, hc⟩)
    · exact cellAt_left h
    · exact ⟨t, by simp, hc⟩
theorem cellAt_append {i : Nat} {c : Cell} : CellAt g (A ++ B) i c ↔ CellAt g A i c ∨ (A.length ≤ i ∧ CellAt g B (i - A.length) c) := by
  constructor
  · rintro ⟨u, e, hc⟩
    by_cases hi : i < A.length
    · rw [List.getElem?_append_left hi] at e
      exact .inl ⟨u, e, hc⟩
    · rw [List.getElem?_append_right (by omega)] at e
      exact .inr ⟨by omega, u, e, hc⟩
  · rintro (h | ⟨hi, u, e, hc⟩)
    · exact cellAt_left h
    · exact ⟨u, by rw [List.getElem?_append_right hi]; exact e, hc⟩
theorem cellAt_set {i j : Nat} {o : Option T} {c : Cell} (hj : j < A.length) : CellAt g (A.set j o) i c ↔ (i = j ∧ ∃ t, o = some t ∧ c ∈ t.cells g) ∨ (i ≠ j ∧ CellAt g A i c) := by
  constructor
  · rintro ⟨u, e, hc⟩
    by_cases hi : i = j
    · subst hi
      rw [List.getElem?_set_self hj] at e
      exact .inl ⟨rfl, u, by simpa using e, hc⟩
    · rw [List.getElem?_set_ne (Ne.symm hi)] at e
      exact .inr ⟨hi, u, e, hc⟩
  · rintro (⟨rfl, u, rfl, hc⟩ | ⟨hi, u, e, hc⟩)
    · exact ⟨u, by rw [List.getElem?_set_self hj], hc⟩
    · exact ⟨u, by rw [List.getElem?_set_ne (Ne.symm hi)]; exact e, hc⟩

theorem Rel.fresh (R : Rel g Γ n A σ H) {p : Addr} (h : H p = none) : Γ.W p ∨ Nw Γ.H0 p := by
  by_cases hw : Γ.W p
  · exact .inl hw
  · cases e : Γ.H0 p with
    | none => exact .inr (.inl e)
    | some o =>
      by_cases ht : ∃ ps, o = .tbl ps
      · obtain ⟨ps, rfl⟩ := ht
        exact .inr (.inr ⟨ps, e⟩)
      · rw [R.frame p o e (fun ps z => ht ⟨ps, z⟩) hw] at h; cases h
theorem Rel.freshN (R : Rel g Γ n A σ H) {p : Addr} (h : Nw H p) : Γ.W p ∨ Nw Γ.H0 p := by
  rcases h with h | ⟨ps, h⟩
  · exact R.fresh h
  · by_cases hw : Γ.W p
    · exact .inl hw
    · cases e : Γ.H0 p with
      | none => exact .inr (.inl e)
      | some o =>
        by_cases ht : ∃ ps, o = .tbl ps
        · obtain ⟨ps, rfl⟩ := ht
          exact .inr (.inr ⟨ps, e⟩)
        · have := R.frame p o e (fun ps z => ht ⟨ps, z⟩) hw
          rw [h] at this
          cases this
          exact absurd ⟨ps, rfl⟩ ht
theorem cellAt_sane {i : Nat} {c : Cell} (h : CellAt g A i c) : Sane c.2.2 := by
  obtain ⟨t, _, hc⟩ := h
  exact cells_sane g t c hc
theorem cellAt_ntup {i : Nat} {c : Cell} (h : CellAt g A i c) (k : c.1 = .own) : ¬ HTup c.2.2 := by
  obtain ⟨t, _, hc⟩ := h
  exact own_ntup g t c hc k
theorem mem_ntup {t : T} {us : List T} {c : Cell} (h : c ∈ t.cells g ++ cellsL g us) (k : c.1 = .own) : ¬ HTup c.2.2 := by
  rcases List.mem_append.mp h with h | h
  · exact own_ntup g t c h k
  · exact own_ntupL g us c h k
theorem Hd.tup {d : Cell} (h : Hd H d) (z : HTup d.2.2) : H d.2.1 = Option.some d.2.2 := h.flat fun q => by
  cases e : d.2.2 <;> rw [e] at z q <;> first | exact z | exact q
/-- an own cell is not where a tuple stands -/
theorem Hd.clash {c d : Cell} (h1 : Hd H c) (k : c.1 = .own) (n : ¬ HTup c.2.2) (h2 : Hd H d) (e : d.2.1 = c.2.1) (z : HTup d.2.2) : False := by
  have e1 := h1.own k
  have e2 := h2.tup z
  rw [e, e1] at e2
  rw [← Option.some.inj e2] at z
  exact n z
/-- fewer trees -/
theorem Rel.less (R : Rel g Γ n A σ H) {A' : List (Option T)} (hn : n ≤ A'.length) (h : ∀ (i : Nat) t, A'[i]? = some (some t) → A[i]? = some (some t)) : Rel g Γ n A' σ H := by
  have hc : ∀ {i c}, CellAt g A' i c → CellAt g A i c := fun ⟨t, e, m⟩ => ⟨t, h _ _ e, m⟩
  exact ⟨hn, R.slen, fun i t hi e => R.val i t hi (h i t e), fun i c x => R.hold i c (hc x), fun i c r x => R.lab i c r (hc x), fun i t e => R.nd i t (h i t e), fun i j c d x y => R.sep i j c d (hc x) (hc y), R.frame, fun i c x => R.gown i c (hc x), fun i c x => R.gfrz i c (hc x), R.pin, R.tab, R.lck⟩
theorem Rel.drop (R : Rel g Γ n (A ++ B) σ H) (hn : n ≤ A.length) : Rel g Γ n A σ H :=
  R.less hn fun i t e => by rw [List.getElem?_append_left (List.getElem?_eq_some_iff.mp e).1]; exact e
def ownsO (g : Gc) (o : Option T) : List Addr := match o with
  | none => []
  | some t => ownsC (t.cells g)
theorem Rel.ndB (R : Rel g Γ n (A ++ B) σ H) (hn : n ≤ A.length) : (B.flatMap (ownsO g)).Nodup := by
  suffices h : ∀ (B' : List (Option T)) (k : Nat), (∀ (i : Nat) t, B'[i]? = some (some t) → (A ++ B)[k + i]? = some (some t)) → n ≤ k → (B'.flatMap (ownsO g)).Nodup by
    exact h B A.length (fun i t e => by rw [List.getElem?_append_right (by omega)]; simpa using e) hn
  intro B'
  induction B' with
  | nil => intro _ _ _; simp
  | cons o r ih =>
    intro k h hk
    rw [List.flatMap_cons, List.nodup_append]
    refine ⟨?_, ih (k + 1) (fun i t e => by have := h (i + 1) t (by simpa using e); rw [show k + 1 + i = k + (i + 1) by omega]; exact this) (by omega), ?_⟩
    · cases o with
      | none => exact List.nodup_nil
      | some t => exact R.nd k t (by simpa using h 0 t (by simp))
    · intro a ha b hb hab
      subst hab
      cases o with
      | none => cases ha
      | some t =>
        obtain ⟨c, hc, k1, k2⟩ := mem_ownsC.mp (show a ∈ ownsC (t.cells g) from ha)
        obtain ⟨o', ho', hb⟩ := List.mem_flatMap.mp hb
        cases o' with
        | none => cases hb
        | some u =>
          obtain ⟨d, hd, k3, k4⟩ := mem_ownsC.mp (show a ∈ ownsC (u.cells g) from hb)
          obtain ⟨j, hj, ej⟩ := List.getElem_of_mem ho'
          have e1 := h 0 t (by simp)
          have e2 := h (j + 1) u (by simp [ej, List.getElem?_eq_getElem hj])
          rcases R.sep (k + 0) (k + (j + 1)) c d ⟨t, e1, hc⟩ ⟨u, e2, hd⟩ k1 (by rw [k4, k2]) with ⟨q, _⟩ | ⟨_, q⟩
          · omega
          · rw [k3] at q; cases q
/-- temps B are used up; the new temp's cells are theirs or new -/
theorem Rel.subst (R : Rel g Γ n (A ++ B) σ H) (hn : n ≤ A.length) (hH : ∀ a o, H a = some o → H' a = some o)
    (hc : ∀ c ∈ t.cells g, (NewC c ∧ H c.2.1 = none ∧ H' c.2.1 = some c.2.2) ∨ ∃ i, CellAt g B i c)
    (ho : ∃ fr : List Addr, (∀ a ∈ fr, H a = none) ∧ fr.Nodup ∧ List.Sublist (ownsC (t.cells g)) (fr ++ B.flatMap (ownsO g))) : Rel g Γ n (A ++ [some t]) σ H' := by
  have hA : ∀ {i c}, CellAt g A i c → CellAt g (A ++ B) i c := fun x => cellAt_left x
  have hB : ∀ {i c}, CellAt g B i c → CellAt g (A ++ B) (A.length + i) c := fun x => cellAt_append.mpr (.inr ⟨by omega, by rw [Nat.add_sub_cancel_left]; exact x⟩)
  have held : ∀ {i c}, CellAt g (A ++ B) i c → ∃ o, H c.2.1 = some o := fun x => (R.hold _ _ x).some
  have labB : ∀ {i c r}, CellAt g (A ++ B) i c → c.1 = .bor r → A.length ≤ r → False := fun x e h => by have := R.lab _ _ _ x e; omega
  refine ⟨by simp; omega, R.slen, ?_, ?_, ?_, ?_, ?_, ?_, ?_, ?_, R.pin, tabs_ext R.tab hH, fun a p e => ⟨hH _ _ (R.lck a p e).1, (R.lck a p e).2⟩⟩
  · intro i u hi e
    rw [List.getElem?_append_left (by omega)] at e
    exact R.val i u hi (by rw [List.getElem?_append_left (by omega)]; exact e)
  · intro i c x
    rcases cellAt_snoc.mp x with x | ⟨rfl, zx⟩
    · exact (R.hold i c (hA x)).ext fun o => hH _ o
    · rcases hc c zx with ⟨_, _, h⟩ | ⟨j, y⟩
      · exact .inl h
      · exact (R.hold _ c (hB y)).ext fun o => hH _ o
  · intro i c r x e
    rcases cellAt_snoc.mp x with x | ⟨rfl, zx⟩
    · exact R.lab i c r (hA x) e
    · rcases hc c zx with ⟨h, _, _⟩ | ⟨j, y⟩
      · exact (h.nbor e).elim
      · exact R.lab _ c r (hB y) e
  · intro i u e
    by_cases hi : i < A.length
    · rw [List.getElem?_append_left hi] at e
      exact R.nd i u (by rw [List.getElem?_append_left hi]; exact e)
    · have : u = t := by
        rw [List.getElem?_append_right (by omega)] at e
        cases hh : i - A.length with
        | zero => rw [hh] at e; simpa using e.symm
        | succ m => rw [hh] at e; simp at e
      subst this
      obtain ⟨fr, h1, h2, h3⟩ := ho
      refine h3.nodup (List.nodup_append.mpr ⟨h2, R.ndB hn, fun a ha b hb e => ?_⟩)
      subst e
      obtain ⟨o', ho', hb⟩ := List.mem_flatMap.mp hb
      cases o' with
      | none => cases hb
      | some w =>
        obtain ⟨d, hd, _, k4⟩ := mem_ownsC.mp (show a ∈ ownsC (w.cells g) from hb)
        obtain ⟨j, hj, ej⟩ := List.getElem_of_mem ho'
        obtain ⟨o, q⟩ := held (hB ⟨w, by rw [List.getElem?_eq_getElem hj, ej], hd⟩)
        rw [k4, h1 a ha] at q; cases q
  · intro i j c d x y hown hadr
    rcases cellAt_snoc.mp x with x | ⟨rfl, zx⟩
    · rcases cellAt_snoc.mp y with y | ⟨rfl, zy⟩
      · exact R.sep i j c d (hA x) (hA y) hown hadr
      · have hi := x.lt
        rcases hc d zy with ⟨_, h, _⟩ | ⟨j', y'⟩
        · obtain ⟨o, q⟩ := held (hA x)
          rw [hadr, q] at h; cases h
        · rcases R.sep i _ c d (hA x) (hB y') hown hadr with ⟨e, _⟩ | ⟨_, e⟩
          · omega
          · exact .inr ⟨by omega, e⟩
    · rcases hc c zx with ⟨_, h, k0⟩ | ⟨i', x'⟩
      · rcases cellAt_snoc.mp y with y | ⟨rfl, zy⟩
        · obtain ⟨o, q⟩ := held (hA y)
          rw [hadr, h] at q; cases q
        · rcases hc d zy with ⟨h', _, k'⟩ | ⟨j', y'⟩
          · rcases h' with h' | ⟨_, h'⟩
            · exact .inl ⟨rfl, h'⟩
            · rw [hadr, k0] at k'
              rw [← Option.some.inj k'] at h'
              exact absurd h' (own_ntup g t c zx hown)
          · obtain ⟨o, q⟩ := held (hB y')
            rw [hadr, h] at q; cases q
      · rcases cellAt_snoc.mp y with y | ⟨rfl, zy⟩
        · have hj := y.lt
          rcases R.sep _ j c d (hB x') (hA y) hown hadr with ⟨e, _⟩ | ⟨_, e⟩
          · omega
          · exact (labB (hA y) e (by omega)).elim
        · rcases hc d zy with ⟨_, h', _⟩ | ⟨j', y'⟩
          · obtain ⟨o, q⟩ := held (hB x')
            rw [← hadr, h'] at q; cases q
          · rcases R.sep _ _ c d (hB x') (hB y') hown hadr with ⟨_, e⟩ | ⟨_, e⟩
            · exact .inl ⟨rfl, e⟩
            · exact (labB (hB y') e (by omega)).elim
  · exact fun a o h1 h3 h2 => hH _ _ (R.frame a o h1 h3 h2)
  · intro i c x
    rcases cellAt_snoc.mp x with x | ⟨rfl, zx⟩
    · exact R.gown i c (hA x)
    · rcases hc c zx with ⟨_, h, _⟩ | ⟨j, y⟩
      · exact .inr (.inr (R.fresh h))
      · exact R.gown _ c (hB y)
  · intro i c x hf nt
    rcases cellAt_snoc.mp x with x | ⟨rfl, zx⟩
    · exact R.gfrz i c (hA x) hf nt
    · rcases hc c zx with ⟨h | ⟨_, h⟩, _, _⟩ | ⟨j, y⟩
      · rw [h] at hf; cases hf
      · exact absurd h nt
      · exact R.gfrz _ c (hB y) hf nt
/-- an immediate temp -/
theorem Rel.imm (R : Rel g Γ n (A ++ B) σ H) (hn : n ≤ A.length) (v : V) : Rel g Γ n (A ++ [some (.im v)]) σ H :=
  R.subst hn (fun _ _ h => h) (fun c hc => by simp [T.cells] at hc) ⟨[], by simp, by simp, by simp [T.cells, ownsC]⟩
end
end Lin
end
section
namespace Lin
open PySem L2
/-! ### marks changed -/
def kBo (i : Nat) : Kd → Kd := fun k => if k = .own then .bor i else k
def kFz : Kd → Kd := fun k => if k = .own then .frz else k
section
variable {g : Gc} {Γ : Gh} {n : Nat} {A B : List (Option T)} {σ : L2.St} {H H' : Hp} {t : T}
theorem cells_kBo {i : Nat} {c : Cell} (h : c ∈ (t.mk (kBo i)).cells g) : ∃ d ∈ t.cells g, d.2 = c.2 ∧ ((d.1 = .own ∧ c.1 = .bor i) ∨ (d.1 ≠ .own ∧ c.1 = d.1)) := by
  rw [cells_mk g _ (by first | rfl | decide)] at h
  obtain ⟨d, hd, rfl⟩ := List.mem_map.mp h
  refine ⟨d, hd, rfl, ?_⟩
  by_cases e : d.1 = .own
  · exact .inl ⟨e, by simp [kBo, e]⟩
  · exact .inr ⟨e, by simp [kBo, e]⟩
theorem cells_kFz {c : Cell} (h : c ∈ (t.mk kFz).cells g) : ∃ d ∈ t.cells g, d.2 = c.2 ∧ ((d.1 = .own ∧ c.1 = .frz) ∨ (d.1 ≠ .own ∧ c.1 = d.1)) := by
  rw [cells_mk g _ (by first | rfl | decide)] at h
  obtain ⟨d, hd, rfl⟩ := List.mem_map.mp h
  refine ⟨d, hd, rfl, ?_⟩
  by_cases e : d.1 = .own
  · exact .inl ⟨e, by simp [kFz, e]⟩
  · exact .inr ⟨e, by simp [kFz, e]⟩
theorem owns_none {cs : List Cell} (h : ∀ c ∈ cs, c.1 ≠ .own) : ownsC cs = [] := by
  unfold ownsC
  rw [List.filterMap_eq_nil_iff]
  intro c hc
  rw [if_neg (h c hc)]
theorem kBo_ne {i : Nat} {c : Cell} (h : c ∈ (t.mk (kBo i)).cells g) : c.1 ≠ .own := by
  obtain ⟨d, _, _, ⟨_, e⟩ | ⟨e1, e2⟩⟩ := cells_kBo h
  · rw [e]; intro z; cases z
  · rw [e2]; exact e1
theorem kFz_ne {c : Cell} (h : c ∈ (t.mk kFz).cells g) : c.1 ≠ .own := by
  obtain ⟨d, _, _, ⟨_, e⟩ | ⟨e1, e2⟩⟩ := cells_kFz h
  · rw [e]; intro z; cases z
  · rw [e2]; exact e1
/-- a slot is read -/
theorem Rel.var (R : Rel g Γ n A σ H) {i : Nat} (hi : i < n) (e : A[i]? = some (some t)) : Rel g Γ n (A ++ [some (t.mk (kBo i))]) σ H := by
  have at_ : ∀ {c}, c ∈ t.cells g → CellAt g A i c := fun h => ⟨t, e, h⟩
  refine ⟨by simp; have := R.len; omega, R.slen, ?_, ?_, ?_, ?_, ?_, R.frame, ?_, ?_, R.pin, R.tab, R.lck⟩
  · intro j u hj q
    rw [List.getElem?_append_left (by have := R.len; omega)] at q
    exact R.val j u hj q
  · intro j c x
    rcases cellAt_snoc.mp x with x | ⟨rfl, x'⟩
    · exact R.hold j c x
    · obtain ⟨d, hd, e2, e3⟩ := cells_kBo x'
      exact (R.hold i d (at_ hd)).to e2 fun k => by rcases e3 with ⟨e3, _⟩ | ⟨_, e3⟩ <;> simp_all
  · intro j c r x k
    rcases cellAt_snoc.mp x with x | ⟨rfl, x'⟩
    · exact R.lab j c r x k
    · obtain ⟨d, hd, e2, ⟨_, e3⟩ | ⟨_, e3⟩⟩ := cells_kBo x'
      · rw [e3] at k; cases k; exact hi
      · exact R.lab i d r (at_ hd) (e3 ▸ k)
  · intro j u q
    by_cases hj : j < A.length
    · rw [List.getElem?_append_left hj] at q
      exact R.nd j u q
    · have : u = t.mk (kBo i) := by
        rw [List.getElem?_append_right (by omega)] at q
        cases hh : j - A.length with
        | zero => rw [hh] at q; simpa using q.symm
        | succ m => rw [hh] at q; simp at q
      subst this
      rw [owns_none (fun c hc => kBo_ne hc)]
      exact List.nodup_nil
  · intro j l c d x y hown hadr
    rcases cellAt_snoc.mp x with x | ⟨rfl, x'⟩
    · rcases cellAt_snoc.mp y with y | ⟨rfl, y'⟩
      · exact R.sep j l c d x y hown hadr
      · have hj := x.lt
        obtain ⟨d0, hd, e2, q⟩ := cells_kBo y'
        rcases R.sep j i c d0 x (at_ hd) hown (by rw [e2]; exact hadr) with ⟨rfl, e3⟩ | ⟨e4, e3⟩
        · rcases q with ⟨_, q⟩ | ⟨q1, _⟩
          · exact .inr ⟨by omega, q⟩
          · exact absurd e3 q1
        · rcases q with ⟨q1, _⟩ | ⟨_, q2⟩
          · rw [e3] at q1; cases q1
          · exact .inr ⟨by omega, q2.trans e3⟩
    · exact absurd hown (kBo_ne x')
  · intro j c x
    rcases cellAt_snoc.mp x with x | ⟨rfl, x'⟩
    · exact R.gown j c x
    · obtain ⟨d, hd, e2, ⟨e4, e3⟩ | ⟨e4, e3⟩⟩ := cells_kBo x'
      · rcases R.gown i d (at_ hd) with z | z | z
        · rw [e4] at z; cases z
        · rw [e4] at z; cases z
        · rw [← e2]; exact .inr (.inr z)
      · have := R.gown i d (at_ hd)
        rw [e3, ← e2]; exact this
  · intro j c x k
    rcases cellAt_snoc.mp x with x | ⟨rfl, x'⟩
    · exact R.gfrz j c x k
    · obtain ⟨d, hd, e2, ⟨e4, e3⟩ | ⟨e4, e3⟩⟩ := cells_kBo x'
      · rw [e3] at k; cases k
      · rw [← e2]; exact R.gfrz i d (at_ hd) (e3 ▸ k)
theorem snoc_get {j : Nat} {u : T} (q : (A ++ [some t])[j]? = some (some u)) : (j < A.length ∧ A[j]? = some (some u)) ∨ (j = A.length ∧ u = t) := by
  by_cases hj : j < A.length
  · rw [List.getElem?_append_left hj] at q
    exact .inl ⟨hj, q⟩
  · rw [List.getElem?_append_right (by omega)] at q
    cases hh : j - A.length with
    | zero => rw [hh] at q; exact .inr ⟨by omega, by simpa using q.symm⟩
    | succ m => rw [hh] at q; simp at q
/-- the last temp is frozen -/
theorem Rel.freeze (R : Rel g Γ n (A ++ [some t]) σ H) (hn : n ≤ A.length) : Rel g Γ n (A ++ [some (t.mk kFz)]) σ H := by
  have at_ : ∀ {c}, c ∈ t.cells g → CellAt g (A ++ [some t]) A.length c := fun h => cellAt_snoc.mpr (.inr ⟨rfl, h⟩)
  have inA : ∀ {j c}, CellAt g A j c → CellAt g (A ++ [some t]) j c := fun h => cellAt_left h
  refine ⟨by simp; omega, R.slen, ?_, ?_, ?_, ?_, ?_, R.frame, ?_, ?_, R.pin, R.tab, R.lck⟩
  · intro j u hj q
    rcases snoc_get q with ⟨_, q⟩ | ⟨rfl, _⟩
    · exact R.val j u hj (by rw [List.getElem?_append_left (by omega)]; exact q)
    · omega
  · intro j c x
    rcases cellAt_snoc.mp x with x | ⟨rfl, x'⟩
    · exact R.hold j c (inA x)
    · obtain ⟨d, hd, e2, e3⟩ := cells_kFz x'
      exact (R.hold _ d (at_ hd)).to e2 fun k => by rcases e3 with ⟨e3, _⟩ | ⟨_, e3⟩ <;> simp_all
  · intro j c r x k
    rcases cellAt_snoc.mp x with x | ⟨rfl, x'⟩
    · exact R.lab j c r (inA x) k
    · obtain ⟨d, hd, e2, ⟨_, e3⟩ | ⟨_, e3⟩⟩ := cells_kFz x'
      · rw [e3] at k; cases k
      · exact R.lab _ d r (at_ hd) (e3 ▸ k)
  · intro j u q
    rcases snoc_get q with ⟨hj, q⟩ | ⟨rfl, rfl⟩
    · exact R.nd j u (by rw [List.getElem?_append_left hj]; exact q)
    · rw [owns_none (fun c hc => kFz_ne hc)]
      exact List.nodup_nil
  · intro j l c d x y hown hadr
    rcases cellAt_snoc.mp x with x | ⟨rfl, x'⟩
    · rcases cellAt_snoc.mp y with y | ⟨rfl, y'⟩
      · exact R.sep j l c d (inA x) (inA y) hown hadr
      · have hj := x.lt
        obtain ⟨d0, hd, e2, q⟩ := cells_kFz y'
        rcases R.sep j _ c d0 (inA x) (at_ hd) hown (by rw [e2]; exact hadr) with ⟨z, e3⟩ | ⟨e4, e3⟩
        · omega
        · rcases q with ⟨q1, _⟩ | ⟨_, q2⟩
          · rw [e3] at q1; cases q1
          · exact .inr ⟨by omega, q2.trans e3⟩
    · exact absurd hown (kFz_ne x')
  · intro j c x
    rcases cellAt_snoc.mp x with x | ⟨rfl, x'⟩
    · exact R.gown j c (inA x)
    · obtain ⟨d, hd, e2, ⟨e4, e3⟩ | ⟨e4, e3⟩⟩ := cells_kFz x'
      · exact .inl e3
      · have := R.gown _ d (at_ hd)
        rw [e3, ← e2]; exact this
  · intro j c x k
    rcases cellAt_snoc.mp x with x | ⟨rfl, x'⟩
    · exact R.gfrz j c (inA x) k
    · obtain ⟨d, hd, e2, ⟨e4, e3⟩ | ⟨e4, e3⟩⟩ := cells_kFz x'
      · rcases R.gown _ d (at_ hd) with z | z | z
        · rw [e4] at z; cases z
        · rw [e4] at z; cases z
        · exact fun _ => by rw [← e2]; exact z.elim .inl (fun z => .inr (.inl z))
      · rw [← e2]; exact R.gfrz _ d (at_ hd) (e3 ▸ k)
/-- the last temp goes into a slot -/
theorem Rel.assign (R : Rel g Γ n (A ++ [some t]) σ H) (hn : n ≤ A.length) {i : Nat} (hi : i < n) : Rel g Γ n (A.set i (some t)) (σ.set i (some t.root)) H := by
  have at_ : ∀ {c}, c ∈ t.cells g → CellAt g (A ++ [some t]) A.length c := fun h => cellAt_snoc.mpr (.inr ⟨rfl, h⟩)
  have inA : ∀ {j c}, CellAt g A j c → CellAt g (A ++ [some t]) j c := fun h => cellAt_left h
  have hiA : i < A.length := by omega
  have key : ∀ {j c}, CellAt g (A.set i (some t)) j c → ∃ k, CellAt g (A ++ [some t]) k c ∧ ((k = A.length ∧ j = i) ∨ (k = j ∧ j ≠ i ∧ j < A.length)) := fun {j c} h => by
    rcases (cellAt_set hiA).mp h with ⟨rfl, u, e, hc⟩ | ⟨hj, x⟩
    · cases e
      exact ⟨_, at_ hc, .inl ⟨rfl, rfl⟩⟩
    · exact ⟨j, inA x, .inr ⟨rfl, hj, x.lt⟩⟩
  refine ⟨by simp; omega, by simp [R.slen], ?_, ?_, ?_, ?_, ?_, R.frame, ?_, ?_, R.pin, R.tab, R.lck⟩
  · intro j u hj q
    by_cases h : j = i
    · subst h
      rw [List.getElem?_set_self hiA] at q
      have : t = u := by simpa using q
      subst this
      rw [List.getElem?_set_self (by have := R.slen; omega)]
    · rw [List.getElem?_set_ne (Ne.symm h)] at q
      rw [List.getElem?_set_ne (Ne.symm h)]
      exact R.val j u hj (by rw [List.getElem?_append_left (by omega)]; exact q)
  · intro j c x
    obtain ⟨k, y, _⟩ := key x
    exact R.hold k c y
  · intro j c r x q
    obtain ⟨k, y, _⟩ := key x
    exact R.lab k c r y q
  · intro j u q
    by_cases h : j = i
    · subst h
      rw [List.getElem?_set_self hiA] at q
      have : t = u := by simpa using q
      subst this
      exact R.nd A.length t (by simp)
    · rw [List.getElem?_set_ne (Ne.symm h)] at q
      exact R.nd j u (by rw [List.getElem?_append_left (List.getElem?_eq_some_iff.mp q).1]; exact q)
  · intro j l c d x y hown hadr
    obtain ⟨k1, x, h1⟩ := key x
    obtain ⟨k2, y, h2⟩ := key y
    rcases R.sep k1 k2 c d x y hown hadr with ⟨e, q⟩ | ⟨e, q⟩
    · exact .inl ⟨by omega, q⟩
    · have hl := R.lab _ _ _ y q
      exact .inr ⟨by omega, by rcases h1 with ⟨h1, _⟩ | ⟨h1, _⟩; omega; rw [← h1]; exact q⟩
  · intro j c x
    obtain ⟨k, y, _⟩ := key x
    exact R.gown k c y
  · intro j c x q
    obtain ⟨k, y, _⟩ := key x
    exact R.gfrz k c y q
end
/-! ### slots that borrow from slot r are given up -/
def hasBor (r : Nat) (d : D) : Bool := d.kins.contains (.bor r)
def killT (r : Nat) : Option T → Option T
  | some t => if hasBor r t.er then none else some t
  | none => none
def killD (r : Nat) : Option D → Option D
  | some d => if hasBor r d then none else some d
  | none => none
def kill (n r : Nat) (A : List (Option T)) : List (Option T) := (A.take n).map (killT r) ++ A.drop n
section
variable {g : Gc} {Γ : Gh} {n : Nat} {A B : List (Option T)} {σ : L2.St} {H H' : Hp} {t : T}
theorem hasBor_iff {r : Nat} : hasBor r t.er = true ↔ ∃ c ∈ t.cells g, c.1 = .bor r := by
  unfold hasBor
  rw [kinds_er g, List.contains_iff_mem, List.mem_map]
theorem killT_some {r : Nat} {o : Option T} (h : killT r o = some t) : o = some t ∧ hasBor r t.er = false := by
  cases o with
  | none => cases h
  | some u =>
    have h' : (if hasBor r u.er = true then none else some u) = some t := h
    by_cases e : hasBor r u.er = true
    · rw [if_pos e] at h'; cases h'
    · rw [if_neg e] at h'; cases h'
      exact ⟨rfl, by simpa using e⟩
theorem kill_get {r i : Nat} (h : (kill n r A)[i]? = some (some t)) : A[i]? = some (some t) ∧ (i < n → hasBor r t.er = false) := by
  unfold kill at h
  by_cases hi : i < (A.take n).length
  · rw [List.getElem?_append_left (by simpa using hi), List.getElem?_map] at h
    have hi' : i < n := by simp at hi; omega
    rw [List.getElem?_take_of_lt hi'] at h
    cases e : A[i]? with
    | none => rw [e] at h; cases h
    | some o =>
      rw [e] at h
      obtain ⟨rfl, q⟩ := killT_some (Option.some.inj h)
      exact ⟨rfl, fun _ => q⟩
  · have hi' : n ≤ i ∨ A.length ≤ i := by simp at hi; omega
    rw [List.getElem?_append_right (by simpa using hi)] at h
    rw [List.getElem?_drop] at h
    simp only [List.length_map, List.length_take] at h
    rcases hi' with hn | hA
    · by_cases hA : A.length ≤ n
      · rw [List.getElem?_eq_none (by omega)] at h; cases h
      · rw [show n + (i - min n A.length) = i by omega] at h
        exact ⟨h, fun z => by omega⟩
    · rw [List.getElem?_eq_none (by omega)] at h; cases h
theorem kill_length {r : Nat} : (kill n r A).length = A.length := by
  unfold kill
  simp
  omega
theorem Rel.kill (R : Rel g Γ n A σ H) (r : Nat) : Rel g Γ n (kill n r A) σ H :=
  R.less (by rw [kill_length]; exact R.len) fun i t e => (kill_get e).1
theorem kill_append {r : Nat} (h : n ≤ A.length) : Lin.kill n r (A ++ B) = Lin.kill n r A ++ B := by
  unfold Lin.kill
  rw [List.take_append_of_le_length h, List.drop_append_of_le_length h, List.append_assoc]
end
end Lin
end
section
namespace Lin
open PySem L2
/-! ### paths into a tree -/
def T.at : T → List Nat → Option T
  | t, [] => some t
  | .im _, _ :: _ => none
  | .nd _ _ _ _ ts, i :: p => match ts[i]? with
    | some u => u.at p
    | none => none
def T.put : T → List Nat → T → T
  | _, [], x => x
  | .im v, _ :: _, _ => .im v
  | .nd a k s dx ts, i :: p, x => match ts[i]? with
    | some u => .nd a k s dx (ts.set i (u.put p x))
    | none => .nd a k s dx ts
def D.at : D → List Nat → Option D
  | t, [] => some t
  | .im _, _ :: _ => none
  | .nd _ _ ts, i :: p => match ts[i]? with
    | some u => u.at p
    | none => none
def D.put : D → List Nat → D → D
  | _, [], x => x
  | .im v, _ :: _, _ => .im v
  | .nd k s ts, i :: p, x => match ts[i]? with
    | some u => .nd k s (ts.set i (u.put p x))
    | none => .nd k s ts
theorem er_at : ∀ (p : List Nat) (t : T), t.er.at p = (t.at p).map T.er
  | [], t => by cases t <;> rfl
  | i :: p, .im _ => rfl
  | i :: p, .nd a k s dx ts => by
    simp only [T.er, D.at, T.at, erL_eq, List.getElem?_map]
    cases ts[i]? with
    | none => rfl
    | some u => exact er_at p u
theorem er_put : ∀ (p : List Nat) (t x : T), (t.put p x).er = t.er.put p x.er
  | [], t, x => by cases t <;> rfl
  | i :: p, .im _, x => rfl
  | i :: p, .nd a k s dx ts, x => by
    simp only [T.er, D.put, T.put, erL_eq, List.getElem?_map]
    cases ts[i]? with
    | none => simp [T.er, erL_eq]
    | some u =>
      simp only [Option.map_some, T.er, erL_eq, List.map_set]
      rw [er_put p u x]
theorem root_put : ∀ (p : List Nat) (t x s : T), t.at p = some s → x.root = s.root → (t.put p x).root = t.root
  | [], t, x, s, h, e => by
    have : t = s := by simpa [T.at] using h
    subst this
    exact e
  | i :: p, .im _, x, s, h, e => rfl
  | i :: p, .nd a k sh dx ts, x, s, h, e => by
    simp only [T.put]
    cases ts[i]? with
    | none => rfl
    | some u => rfl
theorem cells_put (g : Gc) : ∀ (p : List Nat) (t x s : T), t.at p = some s → x.root = s.root → ∃ pre post, t.cells g = pre ++ s.cells g ++ post ∧ (t.put p x).cells g = pre ++ x.cells g ++ post
  | [], t, x, s, h, e => by
    have : t = s := by simpa [T.at] using h
    subst this
    exact ⟨[], [], by simp, by simp [T.put]⟩
  | i :: p, .im _, x, s, h, e => by simp [T.at] at h
  | i :: p, .nd a k sh dx ts, x, s, h, e => by
    simp only [T.at] at h
    cases q : ts[i]? with
    | none => rw [q] at h; cases h
    | some u =>
      rw [q] at h
      obtain ⟨pre, post, h1, h2⟩ := cells_put g p u x s h e
      obtain ⟨hi, hu⟩ := List.getElem?_eq_some_iff.mp q
      have e1 : ts = ts.take i ++ u :: ts.drop (i + 1) := by
        rw [← hu, List.getElem_cons_drop, List.take_append_drop]
      have e2 : ts.set i (u.put p x) = ts.take i ++ u.put p x :: ts.drop (i + 1) := List.set_eq_take_append_cons_drop.trans (by rw [if_pos hi])
      have er : (ts.set i (u.put p x)).map T.root = ts.map T.root := by
        rw [List.map_set, root_put p u x s h e]
        apply List.ext_getElem?
        intro j
        by_cases hj : j = i
        · subst hj
          rw [List.getElem?_set_self (by simpa using hi), List.getElem?_map, q]; rfl
        · rw [List.getElem?_set_ne (Ne.symm hj)]
      refine ⟨(kz sh k, a, ho g sh dx (ts.map T.root)) :: cellsL g (ts.take i) ++ pre, post ++ cellsL g (ts.drop (i + 1)), ?_, ?_⟩
      · rw [T.cells]
        conv => lhs; rw [e1, cellsL_append, cellsL, h1]
        rw [← e1]
        simp
      · simp only [T.put, q]
        rw [T.cells, er]
        rw [e2, cellsL_append, cellsL, h2]
        simp
section
variable {g : Gc} {Γ : Gh} {n : Nat} {A B U : List (Option T)} {σ : L2.St} {H H' : Hp} {t t' : T}
/-- slot r's tree is changed at its own address a; B are used up; U are the temps that come out (at most one) -/
theorem Rel.mut {r : Nat} {a : Addr} {U : Option T} (R : Rel g Γ n (A ++ B) σ H) (hn : n ≤ A.length) (e : A[r]? = some (some t)) (nb : ∀ i c, CellAt g (A ++ B) i c → c.1 ≠ .bor r)
    (ha : ∃ c ∈ t.cells g, c.1 = .own ∧ c.2.1 = a) (hroot : t'.root = t.root) (hH : ∀ b o, b ≠ a → H b = some o → H' b = some o)
    (hc : ∀ c, (c ∈ t'.cells g ∨ ∃ u, U = some u ∧ c ∈ u.cells g) → (c.2.1 = a ∧ c.1 = .own ∧ H' a = some c.2.2) ∨ (c.2.1 ≠ a ∧ (c ∈ t.cells g ∨ ∃ i, CellAt g B i c)) ∨ (c.1 = .own ∧ H c.2.1 = none ∧ H' c.2.1 = some c.2.2))
    (hnd : (ownsC (t'.cells g) ++ ownsO g U).Nodup) :
    Rel g Γ n (A.set r (some t') ++ [U]) σ H' := by
  obtain ⟨ca, hca, oca, eca⟩ := ha
  have hrA : r < A.length := (List.getElem?_eq_some_iff.mp e).1
  have atT : ∀ {c}, c ∈ t.cells g → CellAt g (A ++ B) r c := fun h => cellAt_left ⟨t, e, h⟩
  have atA : ∀ {i c}, CellAt g A i c → CellAt g (A ++ B) i c := fun h => cellAt_left h
  have atB : ∀ {i c}, CellAt g B i c → CellAt g (A ++ B) (A.length + i) c := fun x => cellAt_append.mpr (.inr ⟨by omega, by rw [Nat.add_sub_cancel_left]; exact x⟩)
  have hA' : (A.set r (some t')).length = A.length := by simp
  -- cells elsewhere are not at a
  have naA : ∀ {i c}, CellAt g A i c → i ≠ r → c.2.1 ≠ a := fun {i c} x hi q => by
    rcases R.sep r i ca c (atT hca) (atA x) oca (q.trans eca.symm) with ⟨z, _⟩ | ⟨_, z⟩
    · exact hi z.symm
    · exact nb i c (atA x) z
  have split : ∀ {i c}, CellAt g (A.set r (some t') ++ [U]) i c → (i ≠ r ∧ i < A.length ∧ CellAt g A i c ∧ c.2.1 ≠ a) ∨ ((i = r ∨ i = A.length) ∧
      ((i = r ∧ c ∈ t'.cells g) ∨ (i = A.length ∧ ∃ u, U = some u ∧ c ∈ u.cells g))) := fun {i c} x => by
    rcases cellAt_append.mp x with x | ⟨hi, u, eu, hu⟩
    · rcases (cellAt_set hrA).mp x with ⟨rfl, u, eu, hu⟩ | ⟨hi, x⟩
      · cases eu
        exact .inr ⟨.inl rfl, .inl ⟨rfl, hu⟩⟩
      · exact .inl ⟨hi, x.lt, x, naA x hi⟩
    · rw [hA'] at eu hi
      cases hh : i - A.length with
      | zero =>
        rw [hh] at eu
        have : i = A.length := by omega
        exact .inr ⟨.inr this, .inr ⟨this, u, by simpa using eu, hu⟩⟩
      | succ m => rw [hh] at eu; simp at eu
  have new : ∀ {i c}, ((i = r ∧ c ∈ t'.cells g) ∨ (i = A.length ∧ ∃ u, U = some u ∧ c ∈ u.cells g)) →
      (c.2.1 = a ∧ c.1 = .own ∧ H' a = some c.2.2) ∨ (c.2.1 ≠ a ∧ ∃ k, CellAt g (A ++ B) k c ∧ (k = r ∨ A.length ≤ k)) ∨ (c.1 = .own ∧ H c.2.1 = none ∧ H' c.2.1 = some c.2.2) := fun {i c} x => by
    rcases hc c (x.elim (fun z => .inl z.2) fun z => .inr z.2) with z | ⟨z, y⟩ | z
    · exact .inl z
    · refine .inr (.inl ⟨z, ?_⟩)
      rcases y with y | ⟨k, y⟩
      · exact ⟨r, atT y, .inl rfl⟩
      · exact ⟨_, atB y, .inr (by omega)⟩
    · exact .inr (.inr z)
  have labB : ∀ {i c r}, CellAt g (A ++ B) i c → c.1 = .bor r → A.length ≤ r → False := fun x e h => by have := R.lab _ _ _ x e; omega
  have hHa : ∀ {c : Cell}, c.2.1 ≠ a → ∀ {k}, CellAt g (A ++ B) k c → Hd H' c := fun {c} h {k} x => (R.hold k _ x).ext fun o => hH _ o h
  have ha0 : H a = some ca.2.2 := by have := (R.hold r ca (atT hca)).own oca; rw [eca] at this; exact this
  refine ⟨by simp; omega, R.slen, ?_, ?_, ?_, ?_, ?_, ?_, ?_, ?_, R.pin, tabs_but R.tab ha0 (cells_sane g t ca hca) hH, fun b p eb => ?_⟩
  rotate_right
  · obtain ⟨e1, e2⟩ := R.lck b p eb
    refine ⟨hH b _ (fun z => ?_) e1, e2⟩
    rw [z, ha0] at e1
    exact (cells_sane g t ca hca).2.2 _ _ (Option.some.inj e1) e2
  · intro i u hi q
    rw [List.getElem?_append_left (by rw [hA']; omega)] at q
    by_cases h : i = r
    · subst h
      rw [List.getElem?_set_self hrA] at q
      have : t' = u := by simpa using q
      subst this
      rw [hroot]
      exact R.val i t hi (by rw [List.getElem?_append_left (by omega)]; exact e)
    · rw [List.getElem?_set_ne (Ne.symm h)] at q
      exact R.val i u hi (by rw [List.getElem?_append_left (by omega)]; exact q)
  · intro i c x
    rcases split x with ⟨_, _, x, h⟩ | ⟨_, x⟩
    · exact hHa h (atA x)
    · rcases new x with ⟨z1, _, z3⟩ | ⟨z1, k, y, _⟩ | ⟨_, _, z⟩
      · exact .inl (by rw [z1]; exact z3)
      · exact hHa z1 y
      · exact .inl z
  · intro i c r' x q
    rcases split x with ⟨_, _, x, h⟩ | ⟨_, x⟩
    · exact R.lab i c r' (atA x) q
    · rcases new x with ⟨_, z, _⟩ | ⟨z1, k, y, _⟩ | ⟨z, _⟩
      · rw [z] at q; cases q
      · exact R.lab k c r' y q
      · rw [z] at q; cases q
  · intro i u q
    obtain ⟨n1, n2, _⟩ := List.nodup_append.mp hnd
    by_cases h : i < A.length
    · rw [List.getElem?_append_left (by rw [hA']; exact h)] at q
      by_cases h : i = r
      · subst h
        rw [List.getElem?_set_self hrA] at q
        have : t' = u := by simpa using q
        subst this
        exact n1
      · rw [List.getElem?_set_ne (Ne.symm h)] at q
        exact R.nd i u (by rw [List.getElem?_append_left (by omega)]; exact q)
    · rw [List.getElem?_append_right (by rw [hA']; omega), hA'] at q
      cases hh : i - A.length with
      | zero =>
        rw [hh] at q
        have q : U = some u := by simpa using q
        rw [q] at n2
        exact n2
      | succ m => rw [hh] at q; simp at q
  · intro i j c d x y hown hadr
    rcases split x with ⟨hi, hi2, x, h⟩ | ⟨hi, x⟩
    · rcases split y with ⟨hj, hj2, y, h'⟩ | ⟨hj, y⟩
      · exact R.sep i j c d (atA x) (atA y) hown hadr
      · rcases new y with ⟨z, _⟩ | ⟨z1, k, y', hk⟩ | ⟨_, z, _⟩
        · exact absurd (hadr.symm.trans z) h
        · rcases R.sep i k c d (atA x) y' hown hadr with ⟨q, _⟩ | ⟨_, q⟩
          · omega
          · exact .inr ⟨by omega, q⟩
        · rw [hadr] at z; exact ((R.hold i c (atA x)).none z).elim
    · rcases split y with ⟨hj, hj2, y, h'⟩ | ⟨hj, y⟩
      · rcases new x with ⟨z, _⟩ | ⟨z1, k, x', hk⟩ | ⟨_, z, _⟩
        · exact absurd (hadr.trans z) h'
        · rcases R.sep k j c d x' (atA y) hown hadr with ⟨q, _⟩ | ⟨_, q⟩
          · omega
          · rcases hk with hk | hk
            · exact absurd (hk ▸ q) (nb j d (atA y))
            · exact (labB (atA y) q hk).elim
        · rw [← hadr] at z; exact ((R.hold j d (atA y)).none z).elim
      · -- both are new: own ones stand in one list
        have dis : ∀ {c d : Cell}, c ∈ t'.cells g → (∃ u, U = some u ∧ d ∈ u.cells g) → c.1 = .own → d.1 = .own → d.2.1 = c.2.1 → False := fun {c d} h1 ⟨u, h2, h3⟩ o1 o2 q => by
          obtain ⟨_, _, n3⟩ := List.nodup_append.mp hnd
          exact n3 _ (mem_ownsC.mpr ⟨c, h1, o1, rfl⟩) _ (by rw [h2]; exact mem_ownsC.mpr ⟨d, h3, o2, rfl⟩) q.symm
        have downs : d.1 = .own := by
          rcases new x with ⟨z, _⟩ | ⟨z1, k, x', hk⟩ | ⟨_, z, _⟩
          · rcases new y with ⟨_, z', _⟩ | ⟨z1, k, y', hk⟩ | ⟨z', _⟩
            · exact z'
            · exact absurd (hadr.trans z) z1
            · exact z'
          · rcases new y with ⟨_, z', _⟩ | ⟨z1', k', y', hk'⟩ | ⟨z', _⟩
            · exact z'
            · rcases R.sep k k' c d x' y' hown hadr with ⟨_, q⟩ | ⟨_, q⟩
              · exact q
              · rcases hk with hk | hk
                · exact absurd (hk ▸ q) (nb k' d y')
                · exact (labB y' q hk).elim
            · exact z'
          · rcases new y with ⟨_, z', _⟩ | ⟨z1', k', y', hk'⟩ | ⟨z', _⟩
            · exact z'
            · rw [← hadr] at z; exact ((R.hold k' d y').none z).elim
            · exact z'
        refine .inl ⟨?_, downs⟩
        rcases x with ⟨ex, x2⟩ | ⟨ex, x2⟩
        · rcases y with ⟨ey, y2⟩ | ⟨ey, y2⟩
          · rw [ex, ey]
          · exact (dis x2 y2 hown downs hadr).elim
        · rcases y with ⟨ey, y2⟩ | ⟨ey, y2⟩
          · exact (dis y2 x2 downs hown hadr.symm).elim
          · rw [ex, ey]
  · intro b o h1 h3 h2
    by_cases hb : b = a
    · subst hb
      rcases R.gown r ca (atT hca) with z | z | z | z
      · rw [oca] at z; cases z
      · rw [oca] at z; cases z
      · rw [eca] at z; exact absurd z h2
      · rw [eca] at z
        rcases z with z | ⟨ps, z⟩
        · rw [h1] at z; cases z
        · rw [h1] at z; cases z; exact (h3 ps rfl).elim
    · exact hH b o hb (R.frame b o h1 h3 h2)
  · intro i c x
    rcases split x with ⟨_, _, x, h⟩ | ⟨_, x⟩
    · exact R.gown i c (atA x)
    · rcases new x with ⟨z, _⟩ | ⟨z1, k, y, _⟩ | ⟨_, z, _⟩
      · have := R.gown r ca (atT hca)
        rw [oca, eca, ← z] at this
        rcases this with q | q | q
        · cases q
        · cases q
        · exact .inr (.inr q)
      · exact R.gown k c y
      · exact .inr (.inr (R.fresh z))
  · intro i c x q
    rcases split x with ⟨_, _, x, h⟩ | ⟨_, x⟩
    · exact R.gfrz i c (atA x) q
    · rcases new x with ⟨_, z, _⟩ | ⟨z1, k, y, _⟩ | ⟨z, _⟩
      · rw [z] at q; cases q
      · exact R.gfrz k c y q
      · rw [z] at q; cases q
/-- a slot's tree is moved out (nothing borrows from it) -/
theorem Rel.move {r : Nat} (R : Rel g Γ n A σ H) (hr : r < n) (e : A[r]? = some (some t)) (nb : ∀ i c, CellAt g A i c → c.1 ≠ .bor r) : Rel g Γ n (A.set r none ++ [some t]) σ H := by
  have hrA : r < A.length := by have := R.len; omega
  have key : ∀ {i c}, CellAt g (A.set r none ++ [some t]) i c → ∃ k, CellAt g A k c ∧ ((k = r ∧ i = A.length) ∨ (k = i ∧ i ≠ r ∧ i < A.length)) := fun {i c} x => by
    rcases cellAt_snoc.mp x with x | ⟨ei, x2⟩
    · rcases (cellAt_set hrA).mp x with ⟨_, u, q, _⟩ | ⟨hi, x⟩
      · cases q
      · exact ⟨i, x, .inr ⟨rfl, hi, x.lt⟩⟩
    · exact ⟨r, ⟨t, e, x2⟩, .inl ⟨rfl, by simpa using ei⟩⟩
  refine ⟨by simp; have := R.len; omega, R.slen, ?_, fun i c x => ?_, fun i c r' x q => ?_, ?_, ?_, R.frame, fun i c x => ?_, fun i c x q => ?_, R.pin, R.tab, R.lck⟩
  · intro i u hi q
    have hiA : i < A.length := by have := R.len; omega
    rw [List.getElem?_append_left (by simpa using hiA)] at q
    by_cases h : i = r
    · subst h
      rw [List.getElem?_set_self hrA] at q; cases q
    · rw [List.getElem?_set_ne (Ne.symm h)] at q
      exact R.val i u hi q
  · obtain ⟨k, y, _⟩ := key x
    exact R.hold k c y
  · obtain ⟨k, y, _⟩ := key x
    exact R.lab k c r' y q
  · intro i u q
    rcases snoc_get q with ⟨hi, q⟩ | ⟨rfl, rfl⟩
    · by_cases h : i = r
      · subst h
        rw [List.getElem?_set_self hrA] at q; cases q
      · rw [List.getElem?_set_ne (Ne.symm h)] at q
        exact R.nd i u q
    · exact R.nd r u e
  · intro i j c d x y hown hadr
    obtain ⟨k1, x, h1⟩ := key x
    obtain ⟨k2, y, h2⟩ := key y
    rcases R.sep k1 k2 c d x y hown hadr with ⟨q, z⟩ | ⟨q, z⟩
    · exact .inl ⟨by omega, z⟩
    · refine .inr ⟨by omega, ?_⟩
      rcases h1 with ⟨h0, h1⟩ | ⟨h1, _⟩
      · exact absurd (h0 ▸ z) (nb k2 d y)
      · rw [← h1]; exact z
  · obtain ⟨k, y, _⟩ := key x
    exact R.gown k c y
  · obtain ⟨k, y, _⟩ := key x
    exact R.gfrz k c y q
end
end Lin
end
section
namespace Lin
open PySem L2
/-! ### the evaluator's results -/
abbrev Sg := List (Option D)
inductive R (α : Type) where
  | ok (a : α) (S : Sg)
  | exc (c : Nat) (d : D) (S : Sg)
  | bad
def R.bind {α β : Type} (x : R α) (f : α → Sg → R β) : R β := match x with
  | .ok a S => f a S
  | .exc c d S => .exc c d S
  | .bad => .bad
/-- a pure step that may fail -/
def R.lift {α : Type} (o : Option α) (S : Sg) : R α := match o with
  | some a => .ok a S
  | none => .bad
def ers (n : Nat) (A : List (Option T)) : Sg := (A.take n).map (Option.map T.er)
def cleanD (M : List Nat) (d : D) : Bool := M.all fun r => !hasBor r d
def dictOf : T → Option Addr
  | .im _ => none
  | .nd a _ _ _ _ => some a
section
variable (g : Gc) (n : Nat)
def Clean (M : List Nat) (A : List (Option T)) : Prop := ∀ r ∈ M, ∀ i c, n ≤ i → CellAt g A i c → c.1 ≠ .bor r
/-- the slots have changed (in their trees), the temps have not -/
structure Next (A A' : List (Option T)) : Prop where
  len : A'.length = A.length
  tmp : A'.drop n = A.drop n
/-- .. and of the slots those alone that M names (or a slot has been given up) -/
structure NextM (M : List Nat) (A A' : List (Option T)) : Prop extends Next n A A' where
  slot : ∀ i, i < n → i ∉ M → A'[i]? = A[i]? ∨ A'[i]? = some none
/-- .. and the names' values but M's are as they were -/
structure NextS (M : List Nat) (A A' : List (Option T)) (σ σ' : L2.St) : Prop extends Next n A A' where
  keep : ∀ j : Nat, n + j ∉ M → σ'[j]? = σ[j]?
variable (W : WX)
def PostX (Γ : Gh) (A : List (Option T)) (c : Nat) (d : D) (S : Sg) (σ : L2.St) : Prop :=
  ∀ A' t H', Rel g Γ n (A' ++ [some t]) σ H' → Next n A A' → ers n A' = S → t.er = d → W (.ref (g.cl c)) (dictOf t) σ H'
def PostE (M : List Nat) (Γ : Gh) (A : List (Option T)) (σ : L2.St) (Q : VK) : R D → Prop
  | .ok d S => ∀ A' t H', Rel g Γ n (A' ++ [some t]) σ H' → NextM n M A A' → ers n A' = S → t.er = d → Q t.root H'
  | .exc c d S => PostX g n W Γ A c d S σ
  | .bad => False
def PostA (M : List Nat) (Γ : Gh) (A : List (Option T)) (σ : L2.St) (Q : List V → Hp → Prop) : R (List D) → Prop
  | .ok ds S => ∀ A' (ts : List T) H', Rel g Γ n (A' ++ ts.map some) σ H' → NextM n M A A' → ers n A' = S → ts.map T.er = ds → Q (ts.map T.root) H'
  | .exc c d S => PostX g n W Γ A c d S σ
  | .bad => False
def PostT (M : List Nat) (Γ : Gh) (A : List (Option T)) (σ : L2.St) (Q : Bool → Hp → Prop) : R Bool → Prop
  | .ok b S => ∀ A' H', Rel g Γ n A' σ H' → NextM n M A A' → ers n A' = S → Q b H'
  | .exc c d S => PostX g n W Γ A c d S σ
  | .bad => False
inductive Fl where
  | nx | brk | cnt | ret (d : D)
def PostXS (M : List Nat) (Γ : Gh) (A : List (Option T)) (σ : L2.St) (c : Nat) (d : D) (S : Sg) : Prop :=
  ∀ A' t σ' H', Rel g Γ n (A' ++ [some t]) σ' H' → NextS n M A A' σ σ' → ers n A' = S → t.er = d → W (.ref (g.cl c)) (dictOf t) σ' H'
def PostS (M : List Nat) (Γ : Gh) (A : List (Option T)) (σ : L2.St) (D : Ends) : R Fl → Prop
  | .ok .nx S => ∀ A' σ' H', Rel g Γ n A' σ' H' → NextS n M A A' σ σ' → ers n A' = S → D.nx σ' H'
  | .ok .brk S => ∀ A' σ' H', Rel g Γ n A' σ' H' → NextS n M A A' σ σ' → ers n A' = S → D.bk σ' H'
  | .ok .cnt S => ∀ A' σ' H', Rel g Γ n A' σ' H' → NextS n M A A' σ σ' → ers n A' = S → D.ct σ' H'
  | .ok (.ret d) S => ∀ A' t σ' H', Rel g Γ n (A' ++ [some t]) σ' H' → NextS n M A A' σ σ' → ers n A' = S → t.er = d → D.rt t.root H'
  | .exc c d S => PostXS g n W M Γ A σ c d S
  | .bad => False
def MeanE (M : List Nat) (te : TE) (f : Sg → R D) : Prop := ∀ Γ A σ H Q, Rel g Γ n A σ H → Clean g n M A → PostE g n W M Γ A σ Q (f (ers n A)) → te σ H Q
def MeanA (M : List Nat) (ta : TA) (f : Sg → R (List D)) : Prop := ∀ Γ A σ H Q, Rel g Γ n A σ H → Clean g n M A → PostA g n W M Γ A σ Q (f (ers n A)) → ta σ H Q
def MeanT (M : List Nat) (tt : TT) (f : Sg → R Bool) : Prop := ∀ Γ A σ H Q, Rel g Γ n A σ H → Clean g n M A → PostT g n W M Γ A σ Q (f (ers n A)) → tt σ H Q
def MeanS (M : List Nat) (ts : TS) (f : Sg → R Fl) : Prop := ∀ Γ A σ H Dn, Rel g Γ n A σ H → Clean g n M A → PostS g n W M Γ A σ Dn (f (ers n A)) → ts Dn σ H
end
section
variable {g : Gc} {n : Nat} {W : WX} {Γ : Gh} {A A' A'' B : List (Option T)} {σ : L2.St} {H H' : Hp} {t : T} {M M1 M2 : List Nat}
theorem Next.refl (A : List (Option T)) : Next n A A := ⟨rfl, rfl⟩
theorem Next.trans (a : Next n A A') (b : Next n A' A'') : Next n A A'' := ⟨b.len.trans a.len, b.tmp.trans a.tmp⟩
theorem NextM.refl (M : List Nat) (A : List (Option T)) : NextM n M A A := ⟨.refl _, fun _ _ _ => .inl rfl⟩
theorem NextM.trans (a : NextM n M1 A A') (b : NextM n M2 A' A'') : NextM n (M1 ++ M2) A A'' := ⟨a.toNext.trans b.toNext, fun i hi hm => by
  rw [List.mem_append, not_or] at hm
  rcases b.slot i hi hm.2 with e | e
  · rw [e]; exact a.slot i hi hm.1
  · exact .inr e⟩
theorem NextM.mono (a : NextM n M1 A A') (h : ∀ r ∈ M1, r ∈ M) : NextM n M A A' := ⟨a.toNext, fun i hi hm => a.slot i hi fun z => hm (h i z)⟩
theorem Next.toS (a : Next n A A') (M : List Nat) (σ : L2.St) : NextS n M A A' σ σ := ⟨a, fun _ _ => rfl⟩
theorem NextS.refl (M : List Nat) (A : List (Option T)) (σ : L2.St) : NextS n M A A σ σ := ⟨.refl _, fun _ _ => rfl⟩
theorem NextS.trans {σ1 σ2 : L2.St} (a : NextS n M1 A A' σ σ1) (b : NextS n M2 A' A'' σ1 σ2) : NextS n (M1 ++ M2) A A'' σ σ2 := ⟨a.toNext.trans b.toNext, fun j hj => by
  rw [List.mem_append, not_or] at hj
  rw [b.keep j hj.2, a.keep j hj.1]⟩
theorem NextS.mono {σ1 : L2.St} (a : NextS n M1 A A' σ σ1) (h : ∀ r ∈ M1, r ∈ M) : NextS n M A A' σ σ1 := ⟨a.toNext, fun j hj => a.keep j fun z => hj (h _ z)⟩
theorem Next.left (a : Next n (A ++ B) A') (h : n ≤ A.length) : Next n A (A'.take A.length) ∧ A' = A'.take A.length ++ B := by
  have hl := a.len
  have ht := a.tmp
  rw [List.length_append] at hl
  have e : A' = A'.take A.length ++ A'.drop A.length := (List.take_append_drop _ _).symm
  have e2 : A'.drop A.length = B := by
    have := congrArg (List.drop (A.length - n)) ht
    rw [List.drop_drop, List.drop_drop, show n + (A.length - n) = A.length by omega, List.drop_left] at this
    exact this
  refine ⟨⟨by rw [List.length_take]; omega, ?_⟩, by rw [← e2]; exact e⟩
  have h3 : (A'.take A.length).drop n = (A'.drop n).take (A.length - n) := by rw [List.drop_take]
  rw [h3, ht, List.drop_append_of_le_length h, List.take_append_of_le_length (by rw [List.length_drop]; omega)]
  apply List.take_of_length_le
  rw [List.length_drop]; omega
theorem NextM.left (a : NextM n M (A ++ B) A') (h : n ≤ A.length) : NextM n M A (A'.take A.length) ∧ A' = A'.take A.length ++ B := by
  obtain ⟨y, z⟩ := a.toNext.left h
  refine ⟨⟨y, fun i hi hm => ?_⟩, z⟩
  have q := a.slot i hi hm
  rw [List.getElem?_append_left (by omega)] at q
  rw [List.getElem?_take_of_lt (by omega)]
  exact q
theorem Next.app (a : Next n A A') (h : n ≤ A.length) (B : List (Option T)) : Next n (A ++ B) (A' ++ B) :=
  ⟨by rw [List.length_append, List.length_append, a.len], by rw [List.drop_append_of_le_length h, List.drop_append_of_le_length (by rw [a.len]; exact h), a.tmp]⟩
theorem ers_append (h : n ≤ A.length) (B : List (Option T)) : ers n (A ++ B) = ers n A := by
  unfold ers
  rw [List.take_append_of_le_length h]
theorem ers_get {i : Nat} (hi : i < n) : (ers n A)[i]? = A[i]?.map (Option.map T.er) := by
  unfold ers
  rw [List.getElem?_map, List.getElem?_take_of_lt hi]
theorem ers_some {i : Nat} {d : D} (h : (ers n A)[i]? = some (some d)) : ∃ t, A[i]? = some (some t) ∧ t.er = d ∧ i < n := by
  have hi : i < n := by
    by_cases hi : i < n
    · exact hi
    · rw [List.getElem?_eq_none (by unfold ers; simp; omega)] at h; cases h
  rw [ers_get hi] at h
  cases e : A[i]? with
  | none => rw [e] at h; cases h
  | some o =>
    cases o with
    | none => rw [e] at h; cases h
    | some t => rw [e] at h; exact ⟨t, rfl, by simpa using h, hi⟩
theorem ers_set {i : Nat} (hi : i < n) (o : Option T) : ers n (A.set i o) = (ers n A).set i (o.map T.er) := by
  unfold ers
  rw [List.take_set, List.map_set]
theorem ers_kill {r : Nat} (h : n ≤ A.length) : ers n (kill n r A) = (ers n A).map (killD r) := by
  unfold ers kill
  rw [List.take_append_of_le_length (by simp; omega), List.take_of_length_le (by simp; omega), List.map_map, List.map_map]
  apply List.map_congr_left
  intro o _
  cases o with
  | none => rfl
  | some t =>
    show Option.map T.er (if hasBor r t.er then none else some t) = (if hasBor r t.er then none else some t.er)
    by_cases e : hasBor r t.er = true
    · rw [if_pos e, if_pos e]; rfl
    · rw [if_neg e, if_neg e]; rfl
theorem Clean.mono (c : Clean g n M A) (h : ∀ r ∈ M1, r ∈ M) : Clean g n M1 A := fun r hr => c r (h r hr)
theorem Clean.left (c : Clean g n (M1 ++ M2) A) : Clean g n M1 A := c.mono fun r h => List.mem_append_left _ h
theorem Clean.right (c : Clean g n (M1 ++ M2) A) : Clean g n M2 A := c.mono fun r h => List.mem_append_right _ h
theorem Clean.next (c : Clean g n M A) (x : Next n A A') (h : n ≤ A.length) : Clean g n M A' := fun r hr i cl hi ⟨t, e, hc⟩ => by
  refine c r hr i cl hi ⟨t, ?_, hc⟩
  have : A'[i]? = A[i]? := by
    have e1 : A'[i]? = (A'.drop n)[i - n]? := by rw [List.getElem?_drop]; congr 1; omega
    have e2 : A[i]? = (A.drop n)[i - n]? := by rw [List.getElem?_drop]; congr 1; omega
    rw [e1, e2, x.tmp]
  rw [← this]; exact e
theorem cleanD_iff : cleanD M t.er = true ↔ ∀ r ∈ M, ∀ c ∈ t.cells g, c.1 ≠ .bor r := by
  unfold cleanD
  rw [List.all_eq_true]
  constructor
  · intro h r hr c hc e
    have q := h r hr
    have : hasBor r t.er = true := (hasBor_iff (g := g)).mpr ⟨c, hc, e⟩
    rw [this] at q; cases q
  · intro h r hr
    cases q : hasBor r t.er with
    | false => rfl
    | true =>
      obtain ⟨c, hc, e⟩ := (hasBor_iff (g := g)).mp q
      exact absurd e (h r hr c hc)
theorem Clean.snoc (c : Clean g n M A) (h : cleanD M t.er = true) : Clean g n M (A ++ [some t]) := fun r hr i cl hi x => by
  rcases cellAt_snoc.mp x with x | ⟨_, x⟩
  · exact c r hr i cl hi x
  · exact cleanD_iff.mp h r hr cl x
theorem Clean.nil : Clean g n [] A := fun r hr => nomatch hr
theorem Rel.nA (R : Rel g Γ n A σ H) : n ≤ A.length := R.len
/-- what is wanted behind the first part of a thing -/
theorem PostX.of {c : Nat} {d : D} {S : Sg} (h : PostX g n W Γ A c d S σ) (x : Next n A A') : PostX g n W Γ A' c d S σ := fun A2 t H' R y => h A2 t H' R (x.trans y)
end
/-! ### expressions -/
/-- e is read as te, which means f; M: the slots that it may change -/
structure SdE (X : Cx) (g : Gc) (W : WX) (M : List Nat) (e : Expr) (te : TE) (f : Sg → R D) : Prop where
  pe : PE X e te
  mn : MeanE g X.N.length W M te f
structure SdT (X : Cx) (g : Gc) (W : WX) (M : List Nat) (e : Expr) (tt : TT) (f : Sg → R Bool) : Prop where
  pt : PT X e tt
  mn : MeanT g X.N.length W M tt f
structure SdA (X : Cx) (g : Gc) (W : WX) (M : List Nat) (es : List Expr) (ta : TA) (f : Sg → R (List D)) : Prop where
  pa : PA X es ta
  mn : MeanA g X.N.length W M ta f
structure SdS (X : Cx) (g : Gc) (W : WX) (M : List Nat) (st : Stmt) (ts : TS) (f : Sg → R Fl) : Prop where
  ps : PS X st ts
  mn : MeanS g X.N.length W M ts f
structure SdSs (X : Cx) (g : Gc) (W : WX) (M : List Nat) (st : List Stmt) (ts : TS) (f : Sg → R Fl) : Prop where
  ps : PSs X st ts
  mn : MeanS g X.N.length W M ts f
def cVar (i : Nat) : Sg → R D := fun S => match S[i]? with
  | some (some d) => .ok (d.mk (kBo i)) S
  | _ => .bad
def cMv (i : Nat) : Sg → R D := fun S => match S[i]? with
  | some (some d) => if hasBor i d then .bad else .ok d ((S.map (killD i)).set i none)
  | _ => .bad
def cLit (v : V) : Sg → R D := fun S => .ok (.im v) S
section
variable {g : Gc} {n : Nat} {W : WX} {Γ : Gh} {A A' A'' B : List (Option T)} {σ : L2.St} {H H' : Hp} {t : T} {M M1 M2 : List Nat}
theorem kill_slot {r j : Nat} (h : n ≤ A.length) (hj : j < n) : (kill n r A)[j]? = A[j]? ∨ (kill n r A)[j]? = some none := by
  unfold kill
  rw [List.getElem?_append_left (by simp; omega), List.getElem?_map, List.getElem?_take_of_lt hj]
  cases e : A[j]? with
  | none => exact absurd (List.getElem?_eq_none_iff.mp e) (by omega)
  | some o =>
    cases o with
    | none => exact .inr rfl
    | some t =>
      show some (if hasBor r t.er then none else some t) = _ ∨ _
      by_cases q : hasBor r t.er = true
      · rw [if_pos q]; exact .inr (by show some (if hasBor r t.er then none else some t) = _; rw [if_pos q])
      · rw [if_neg q]; exact .inl rfl
theorem mean_var (i : Nat) : MeanE g n W [] (tVar i) (cVar i) := by
  intro Γ A σ H Q R _ h
  unfold cVar at h
  split at h
  · rename_i d e
    obtain ⟨t, e1, e2, hi⟩ := ers_some e
    exact ⟨_, R.val i t hi e1, by
      have := h A (t.mk (kBo i)) H (R.var hi e1) (.refl _ _) rfl (by rw [er_mk, e2])
      rw [root_mk] at this
      exact this⟩
  · exact h.elim
theorem mean_mv (i : Nat) : MeanE g n W [i] (tVar i) (cMv i) := by
  intro Γ A σ H Q R cl h
  unfold cMv at h
  split at h
  · rename_i d e
    obtain ⟨t, e1, e2, hi⟩ := ers_some e
    by_cases hb : hasBor i d = true
    · rw [if_pos hb] at h; exact h.elim
    · rw [if_neg hb] at h
      refine ⟨_, R.val i t hi e1, ?_⟩
      have hb' : hasBor i t.er = false := by rw [e2]; simpa using hb
      have e3 : (kill n i A)[i]? = some (some t) := by
        unfold kill
        rw [List.getElem?_append_left (by simp; have := R.len; omega), List.getElem?_map, List.getElem?_take_of_lt hi, e1]
        show some (if hasBor i t.er then none else some t) = _
        rw [hb']; rfl
      have nb : ∀ j c, CellAt g (kill n i A) j c → c.1 ≠ .bor i := fun j c ⟨u, eu, hc⟩ q => by
        obtain ⟨k1, k2⟩ := kill_get eu
        by_cases hj : j < n
        · have := k2 hj
          rw [(hasBor_iff (g := g)).mpr ⟨c, hc, q⟩] at this; cases this
        · exact cl i (by simp) j c (by omega) ⟨u, k1, hc⟩ q
      have R2 := (R.kill i).move hi e3 nb
      refine h ((kill n i A).set i none) t H R2 ⟨⟨by simp [kill_length], ?_⟩, fun j hj hm => ?_⟩ ?_ e2
      rotate_left
      · have : j ≠ i := by simpa using hm
        rw [List.getElem?_set_ne (Ne.symm this)]
        exact kill_slot R.len hj
      rotate_right
      · rw [List.drop_set_of_lt hi]
        unfold kill
        rw [List.drop_append_of_le_length (by simp; have := R.len; omega), List.drop_of_length_le (by simp; omega), List.nil_append]
      · rw [ers_set hi, ers_kill R.len]; rfl
  · exact h.elim
theorem mean_lit (v : V) : MeanE g n W [] (tC v) (cLit v) := by
  intro Γ A σ H Q R _ h
  exact h A (.im v) H ((show Rel g Γ n (A ++ []) σ H by rw [List.append_nil]; exact R).imm R.len v) (.refl _ _) rfl rfl
end
/-! ### two parts, one after the other -/
def cTwo (M2 : List Nat) (fa fb : Sg → R D) (op : D → D → Option D) : Sg → R D := fun S => (fa S).bind fun da S1 => if cleanD M2 da then (fb S1).bind fun db S2 => R.lift (op da db) S2 else .bad
/-- an operation on two temps -/
def OpM (g : Gc) (n : Nat) (r : R2) (op : D → D → Option D) : Prop := ∀ Γ A ta tb σ H Q d, Rel g Γ n (A ++ [some ta] ++ [some tb]) σ H → n ≤ A.length → op ta.er tb.er = some d →
  (∀ t H', Rel g Γ n (A ++ [some t]) σ H' → t.er = d → Q t.root H') → r ta.root tb.root H Q
section
variable {g : Gc} {n : Nat} {W : WX} {Γ : Gh} {A A' A'' B : List (Option T)} {σ : L2.St} {H H' : Hp} {t : T} {M M1 M2 : List Nat}
theorem mean_two {ta tb : TE} {fa fb : Sg → R D} {r : R2} {op : D → D → Option D} (ha : MeanE g n W M1 ta fa) (hb : MeanE g n W M2 tb fb) (ho : OpM g n r op) : MeanE g n W (M1 ++ M2) (tOp r ta tb) (cTwo M2 fa fb op) := by
  intro Γ A σ H Q R cl h
  refine ha Γ A σ H _ R cl.left ?_
  unfold cTwo at h
  cases ea : fa (ers n A) with
  | bad => rw [ea] at h; exact h.elim
  | exc c d S => rw [ea] at h; exact h
  | ok da S1 =>
    rw [ea] at h
    dsimp only [Lin.R.bind] at h
    intro A1 t1 H1 R1 x1 e1 d1
    by_cases hc : cleanD M2 da = true
    · rw [if_pos hc] at h
      have n1 : n ≤ A1.length := by rw [x1.len]; exact R.len
      refine hb Γ (A1 ++ [some t1]) σ H1 _ R1 ((cl.right.next x1.toNext R.len).snoc (by rw [d1]; exact hc)) ?_
      rw [ers_append n1, e1]
      cases eb : fb S1 with
      | bad => rw [eb] at h; exact h.elim
      | exc c d S =>
        rw [eb] at h
        intro A2 t2 H2 R2 x2 e2 d2
        obtain ⟨y, z⟩ := x2.left n1
        have n3 : n ≤ (A2.take A1.length).length := by rw [y.len]; exact n1
        refine h (A2.take A1.length) t2 H2 ?_ (x1.toNext.trans y) ?_ d2
        · rw [z, List.append_assoc] at R2
          refine R2.subst (t := t2) n3 (fun _ _ q => q) (fun c hc => .inr ⟨1, ⟨t2, by simp, hc⟩⟩) ⟨[], by simp, by simp, ?_⟩
          simp [ownsO]
        · rw [z, ers_append n3] at e2; exact e2
      | ok db S2 =>
        rw [eb] at h
        dsimp only [Lin.R.bind] at h
        intro A2 t2 H2 R2 x2 e2 d2
        obtain ⟨y, z⟩ := x2.left n1
        have n3 : n ≤ (A2.take A1.length).length := by rw [y.len]; exact n1
        cases eo : op da db with
        | none => rw [eo] at h; exact h.elim
        | some d =>
          rw [eo] at h
          rw [z] at R2
          refine ho Γ (A2.take A1.length) t1 t2 σ H2 Q d R2 n3 (by rw [d1, d2]; exact eo) fun t H' R' et => ?_
          exact h _ t H' R' (x1.trans y) (by rw [z, ers_append n3] at e2; exact e2) et
    · rw [if_neg hc] at h; exact h.elim
end
end Lin
end
section
namespace Lin
open PySem L2
/-! ### one part; several parts -/
def cOne (fa : Sg → R D) (op : D → Option D) : Sg → R D := fun S => (fa S).bind fun da S1 => R.lift (op da) S1
def cTest (fa : Sg → R D) (op : D → Option Bool) : Sg → R Bool := fun S => (fa S).bind fun da S1 => R.lift (op da) S1
def cNil : Sg → R (List D) := fun S => .ok [] S
def cCons (M2 : List Nat) (fa : Sg → R D) (fr : Sg → R (List D)) : Sg → R (List D) := fun S => (fa S).bind fun da S1 => if cleanD M2 da then (fr S1).bind fun ds S2 => .ok (da :: ds) S2 else .bad
def cMany (fr : Sg → R (List D)) (op : List D → Option D) : Sg → R D := fun S => (fr S).bind fun ds S1 => R.lift (op ds) S1
def UnM (g : Gc) (n : Nat) (r : V → Hp → VK → Prop) (op : D → Option D) : Prop := ∀ Γ A ta σ H Q d, Rel g Γ n (A ++ [some ta]) σ H → n ≤ A.length → op ta.er = some d →
  (∀ t H', Rel g Γ n (A ++ [some t]) σ H' → t.er = d → Q t.root H') → r ta.root H Q
def TsM (g : Gc) (n : Nat) (r : V → Hp → (Bool → Hp → Prop) → Prop) (op : D → Option Bool) : Prop := ∀ Γ A ta σ H Q b, Rel g Γ n (A ++ [some ta]) σ H → n ≤ A.length → op ta.er = some b → Q b H → r ta.root H Q
def CaM (g : Gc) (n : Nat) (r : List V → Hp → VK → Prop) (op : List D → Option D) : Prop := ∀ Γ A (ts : List T) σ H Q d, Rel g Γ n (A ++ ts.map some) σ H → n ≤ A.length → op (ts.map T.er) = some d →
  (∀ t H', Rel g Γ n (A ++ [some t]) σ H' → t.er = d → Q t.root H') → r (ts.map T.root) H Q
section
variable {g : Gc} {n : Nat} {W : WX} {Γ : Gh} {A A' A'' B : List (Option T)} {σ : L2.St} {H H' : Hp} {t : T} {M M1 M2 : List Nat}
theorem mean_one {ta : TE} {fa : Sg → R D} {r : V → Hp → VK → Prop} {op : D → Option D} (ha : MeanE g n W M1 ta fa) (ho : UnM g n r op) : MeanE g n W M1 (tUn r ta) (cOne fa op) := by
  intro Γ A σ H Q Rr cl h
  refine ha Γ A σ H _ Rr cl ?_
  unfold cOne at h
  cases ea : fa (ers n A) with
  | bad => rw [ea] at h; exact h.elim
  | exc c d S => rw [ea] at h; exact h
  | ok da S1 =>
    rw [ea] at h
    dsimp only [Lin.R.bind] at h
    intro A1 t1 H1 R1 x1 e1 d1
    cases eo : op da with
    | none => rw [eo] at h; exact h.elim
    | some d =>
      rw [eo] at h
      exact ho Γ A1 t1 σ H1 Q d R1 (by rw [x1.len]; exact Rr.len) (by rw [d1]; exact eo) fun t H' R' et => h A1 t H' R' x1 e1 et
theorem mean_test {ta : TE} {fa : Sg → R D} {r : V → Hp → (Bool → Hp → Prop) → Prop} {op : D → Option Bool} (ha : MeanE g n W M1 ta fa) (ho : TsM g n r op) : MeanT g n W M1 (fun σ H Q => ta σ H fun x H1 => r x H1 Q) (cTest fa op) := by
  intro Γ A σ H Q Rr cl h
  refine ha Γ A σ H _ Rr cl ?_
  unfold cTest at h
  cases ea : fa (ers n A) with
  | bad => rw [ea] at h; exact h.elim
  | exc c d S => rw [ea] at h; exact h
  | ok da S1 =>
    rw [ea] at h
    dsimp only [Lin.R.bind] at h
    intro A1 t1 H1 R1 x1 e1 d1
    cases eo : op da with
    | none => rw [eo] at h; exact h.elim
    | some b =>
      rw [eo] at h
      have n1 : n ≤ A1.length := by rw [x1.len]; exact Rr.len
      exact ho Γ A1 t1 σ H1 Q b R1 n1 (by rw [d1]; exact eo) (h A1 H1 (R1.drop n1) x1 e1)
theorem mean_nil : MeanA g n W [] tNil cNil := by
  intro Γ A σ H Q Rr cl h
  have := h A [] H (by simpa using Rr) (.refl _ _) rfl rfl
  exact this
theorem mean_cons {ta : TE} {tr : TA} {fa : Sg → R D} {fr : Sg → R (List D)} (ha : MeanE g n W M1 ta fa) (hr : MeanA g n W M2 tr fr) : MeanA g n W (M1 ++ M2) (tCons ta tr) (cCons M2 fa fr) := by
  intro Γ A σ H Q Rr cl h
  refine ha Γ A σ H _ Rr cl.left ?_
  unfold cCons at h
  cases ea : fa (ers n A) with
  | bad => rw [ea] at h; exact h.elim
  | exc c d S => rw [ea] at h; exact h
  | ok da S1 =>
    rw [ea] at h
    dsimp only [Lin.R.bind] at h
    intro A1 t1 H1 R1 x1 e1 d1
    by_cases hc : cleanD M2 da = true
    · rw [if_pos hc] at h
      have n1 : n ≤ A1.length := by rw [x1.len]; exact Rr.len
      refine hr Γ (A1 ++ [some t1]) σ H1 _ R1 ((cl.right.next x1.toNext Rr.len).snoc (by rw [d1]; exact hc)) ?_
      rw [ers_append n1, e1]
      cases eb : fr S1 with
      | bad => rw [eb] at h; exact h.elim
      | exc c d S =>
        rw [eb] at h
        intro A2 t2 H2 R2 x2 e2 d2
        obtain ⟨y, z⟩ := x2.left n1
        have n3 : n ≤ (A2.take A1.length).length := by rw [y.len]; exact n1
        refine h (A2.take A1.length) t2 H2 ?_ (x1.toNext.trans y) ?_ d2
        · rw [z, List.append_assoc] at R2
          refine R2.subst (t := t2) n3 (fun _ _ q => q) (fun c hc => .inr ⟨1, ⟨t2, by simp, hc⟩⟩) ⟨[], by simp, by simp, ?_⟩
          simp [ownsO]
        · rw [z, ers_append n3] at e2; exact e2
      | ok ds S2 =>
        rw [eb] at h
        dsimp only [Lin.R.bind] at h
        intro A2 ts H2 R2 x2 e2 d2
        obtain ⟨y, z⟩ := x2.left n1
        have n3 : n ≤ (A2.take A1.length).length := by rw [y.len]; exact n1
        rw [z, List.append_assoc] at R2
        have := h (A2.take A1.length) (t1 :: ts) H2 (by simpa using R2) (x1.trans y) (by rw [z, ers_append n3] at e2; exact e2) (by simp [d1, d2])
        exact this
    · rw [if_neg hc] at h; exact h.elim
theorem mean_many {ta : TA} {fr : Sg → R (List D)} {r : List V → Hp → VK → Prop} {op : List D → Option D} (ha : MeanA g n W M1 ta fr) (ho : CaM g n r op) : MeanE g n W M1 (tCB r ta) (cMany fr op) := by
  intro Γ A σ H Q Rr cl h
  refine ha Γ A σ H _ Rr cl ?_
  unfold cMany at h
  cases ea : fr (ers n A) with
  | bad => rw [ea] at h; exact h.elim
  | exc c d S => rw [ea] at h; exact h
  | ok ds S1 =>
    rw [ea] at h
    dsimp only [Lin.R.bind] at h
    intro A1 ts H1 R1 x1 e1 d1
    cases eo : op ds with
    | none => rw [eo] at h; exact h.elim
    | some d =>
      rw [eo] at h
      exact ho Γ A1 ts σ H1 Q d R1 (by rw [x1.len]; exact Rr.len) (by rw [d1]; exact eo) fun t H' R' et => h A1 t H' R' x1 e1 et
theorem Rel.top1 {a : Addr} {k : Kd} {s : Sh} {dx : Addr} {ts : List T} (Rr : Rel g Γ n (A ++ [some (.nd a k s dx ts)]) σ H) : Hd H (kz s k, a, ho g s dx (ts.map T.root)) :=
  Rr.hold A.length (kz s k, a, ho g s dx (ts.map T.root)) ⟨.nd a k s dx ts, by simp, by rw [T.cells]; exact List.mem_cons_self⟩
theorem Rel.top2 {o : Option T} {a : Addr} {k : Kd} {s : Sh} {dx : Addr} {ts : List T} (Rr : Rel g Γ n (A ++ [some (.nd a k s dx ts)] ++ [o]) σ H) : Hd H (kz s k, a, ho g s dx (ts.map T.root)) :=
  Rr.hold A.length (kz s k, a, ho g s dx (ts.map T.root)) ⟨.nd a k s dx ts, by simp, by rw [T.cells]; exact List.mem_cons_self⟩
/-! ### new nodes -/
theorem Rel.node {p : Addr} {ts : List T} (Rr : Rel g Γ n (A ++ B) σ H) (hn : n ≤ A.length) (hp : H p = none) (s : Sh) (dx : Addr) (hc : ∀ c ∈ cellsL g ts, ∃ i, CellAt g B i c)
    (hs : (ownsC (cellsL g ts)).Sublist (B.flatMap (ownsO g))) (hsc : s ≠ .scr := by intro z; cases z) : Rel g Γ n (A ++ [some (.nd p .own s dx ts)]) σ (upd H p (ho g s dx (ts.map T.root))) := by
  refine Rr.subst hn (fun a o e => by rw [upd_ne (ne_of_none e hp)]; exact e) (fun c h => ?_) ⟨[p], by simpa using hp, by simp, ?_⟩
  · rw [T.cells] at h
    rcases List.mem_cons.mp h with rfl | h
    · exact .inl ⟨newC_node g p dx s _ hsc, hp, upd_same⟩
    · exact .inr (hc c h)
  · rw [T.cells]
    have e : ownsC ((kz s .own, p, ho g s dx (ts.map T.root)) :: cellsL g ts) = (if kz s .own = .own then [p] else []) ++ ownsC (cellsL g ts) := by
      by_cases z : kz s .own = .own <;> simp [ownsC, z]
    rw [e]
    refine List.Sublist.append ?_ hs
    split
    · exact List.Sublist.refl _
    · exact List.nil_sublist _
theorem flat_owns (ts : List T) : (ts.map some).flatMap (ownsO g) = ownsC (cellsL g ts) := by
  induction ts with
  | nil => rfl
  | cons t r ih => simp only [List.map_cons, List.flatMap_cons, cellsL, ownsC_append, ih]; rfl
theorem cellAt_map {ts : List T} {c : Cell} : (∃ i, CellAt g (ts.map some) i c) ↔ c ∈ cellsL g ts := by
  rw [cellsL_eq, List.mem_flatMap]
  constructor
  · rintro ⟨i, t, e, hc⟩
    rw [List.getElem?_map] at e
    cases q : ts[i]? with
    | none => rw [q] at e; cases e
    | some u =>
      rw [q] at e
      have : u = t := by simpa using e
      subst this
      exact ⟨u, List.mem_of_getElem? q, hc⟩
  · rintro ⟨t, ht, hc⟩
    obtain ⟨i, hi, e⟩ := List.getElem_of_mem ht
    exact ⟨i, t, by rw [List.getElem?_map, List.getElem?_eq_getElem hi, e]; rfl, hc⟩
theorem Rel.alloc {p : Addr} {ts : List T} (Rr : Rel g Γ n (A ++ ts.map some) σ H) (hn : n ≤ A.length) (hp : H p = none) (s : Sh) (dx : Addr) (hsc : s ≠ .scr := by intro z; cases z) :
    Rel g Γ n (A ++ [some (.nd p .own s dx ts)]) σ (upd H p (ho g s dx (ts.map T.root))) :=
  Rr.node hn hp s dx (fun c hc => cellAt_map.mpr hc) (by rw [flat_owns]; exact List.Sublist.refl _) hsc
/-- one of the temps' parts, as it is -/
theorem Rel.part (Rr : Rel g Γ n (A ++ B) σ H) (hn : n ≤ A.length) (hc : ∀ c ∈ t.cells g, ∃ i, CellAt g B i c) (hs : (ownsC (t.cells g)).Sublist (B.flatMap (ownsO g))) : Rel g Γ n (A ++ [some t]) σ H :=
  Rr.subst hn (fun _ _ q => q) (fun c h => .inr (hc c h)) ⟨[], by simp, by simp, by simpa using hs⟩
theorem cells_sublist {ts us : List T} (h : ts.Sublist us) : (cellsL g ts).Sublist (cellsL g us) := by
  induction h with
  | slnil => exact List.Sublist.refl _
  | cons t _ ih => exact ih.trans (by rw [cellsL]; exact List.sublist_append_right _ _)
  | cons_cons t _ ih => rw [cellsL, cellsL]; exact List.Sublist.append (List.Sublist.refl _) ih
theorem owns_sublist {a b : List Cell} (h : a.Sublist b) : (ownsC a).Sublist (ownsC b) := h.filterMap _
theorem child_sub {a : Addr} {k : Kd} {s : Sh} {dx : Addr} {ts : List T} : (cellsL g ts).Sublist ((T.nd a k s dx ts).cells g) := by rw [T.cells]; exact List.sublist_cons_self _ _
theorem at_sub {ts : List T} {i : Nat} {u : T} (h : ts[i]? = some u) : (u.cells g).Sublist (cellsL g ts) := by
  have : [u].Sublist ts := by rw [List.singleton_sublist]; exact List.mem_of_getElem? h
  have := cells_sublist (g := g) this
  simpa [cellsL] using this
/-- temps whose cells all come from the one temp t -/
theorem Rel.sub1 {u : T} (Rr : Rel g Γ n (A ++ [some t]) σ H) (hn : n ≤ A.length) (h : (u.cells g).Sublist (t.cells g)) : Rel g Γ n (A ++ [some u]) σ H :=
  Rr.part hn (fun c hc => ⟨0, t, rfl, h.subset hc⟩) (by simpa [ownsO] using owns_sublist h)
theorem Rel.node1 {p : Addr} {ts : List T} (Rr : Rel g Γ n (A ++ [some t]) σ H) (hn : n ≤ A.length) (hp : H p = none) (s : Sh) (dx : Addr) (h : (cellsL g ts).Sublist (t.cells g)) (hsc : s ≠ .scr := by intro z; cases z) :
    Rel g Γ n (A ++ [some (.nd p .own s dx ts)]) σ (upd H p (ho g s dx (ts.map T.root))) :=
  Rr.node hn hp s dx (fun c hc => ⟨0, t, rfl, h.subset hc⟩) (by simpa [ownsO] using owns_sublist h) hsc
end
/-! ### ints -/
def dI2 (f : Int → Int → Option V) (a b : D) : Option D := match a, b with
  | .im (.int i), .im (.int j) => (f i j).map .im
  | _, _ => none
theorem er_im {t : T} {v : V} (h : t.er = .im v) : t = .im v := by
  cases t with
  | im w => simp [T.er] at h; rw [h]
  | nd a k s dx ts => simp [T.er] at h
theorem er_nd {t : T} {k : Kd} {s : Sh} {ds : List D} (h : t.er = .nd k s ds) : ∃ a dx ts, t = .nd a k s dx ts ∧ ts.map T.er = ds := by
  cases t with
  | im w => simp [T.er] at h
  | nd a k' s' dx ts =>
    simp only [T.er, D.nd.injEq] at h
    obtain ⟨rfl, rfl, h⟩ := h
    exact ⟨a, dx, ts, rfl, by rw [← erL_eq]; exact h⟩
section
variable {g : Gc} {n : Nat}
theorem dI2_some {f : Int → Int → Option V} {a b : D} {d : D} (h : dI2 f a b = some d) : ∃ i j v, a = .im (.int i) ∧ b = .im (.int j) ∧ f i j = some v ∧ d = .im v := by
  unfold dI2 at h
  split at h
  · rename_i i j
    cases e : f i j with
    | none => rw [e] at h; cases h
    | some v => rw [e] at h; exact ⟨i, j, v, rfl, rfl, e, by simpa using h.symm⟩
  · cases h
theorem opm_int {C : Int → Int → Prop} {gg : Int → Int → V} {f : Int → Int → Option V} (h : ∀ i j v, f i j = some v → C i j ∧ v = gg i j) : OpM g n (rI C gg) (dI2 f) := by
  intro Γ A ta tb σ H Q d Rr hn eo hq
  obtain ⟨i, j, v, e1, e2, e3, rfl⟩ := dI2_some eo
  obtain ⟨hc, rfl⟩ := h i j v e3
  rw [er_im e1, er_im e2]
  refine ⟨i, j, rfl, rfl, hc, ?_⟩
  rw [List.append_assoc] at Rr
  exact hq (.im (gg i j)) H (Rr.imm hn _) rfl
theorem opm_int0 {gg : Int → Int → V} : OpM g n (rI0 gg) (dI2 fun i j => some (gg i j)) := by
  intro Γ A ta tb σ H Q d Rr hn eo hq
  obtain ⟨i, j, v, e1, e2, e3, rfl⟩ := dI2_some eo
  cases e3
  rw [er_im e1, er_im e2]
  refine ⟨i, j, rfl, rfl, ?_⟩
  rw [List.append_assoc] at Rr
  exact hq (.im (gg i j)) H (Rr.imm hn _) rfl
theorem OpM.or {r1 r2 : R2} {o1 o2 : D → D → Option D} (h1 : OpM g n r1 o1) (h2 : OpM g n r2 o2) : OpM g n (fun x y H Q => r1 x y H Q ∨ r2 x y H Q) (fun a b => (o1 a b).or (o2 a b)) := by
  intro Γ A ta tb σ H Q d Rr hn eo hq
  dsimp only at eo
  cases e : o1 ta.er tb.er with
  | some d' =>
    rw [e] at eo
    have : d' = d := by simpa using eo
    subst this
    exact .inl (h1 Γ A ta tb σ H Q _ Rr hn e hq)
  | none =>
    rw [e] at eo
    exact .inr (h2 Γ A ta tb σ H Q _ Rr hn (by simpa using eo) hq)
/-! ### lists, tuples -/
def dCat (a b : D) : Option D := match a, b with
  | .nd _ .lst xs, .nd _ .lst ys => if xs.length + ys.length ≤ sizeLine then some (.nd .own .lst (xs ++ ys)) else none
  | _, _ => none
theorem opm_cat : OpM g n rCat dCat := by
  intro Γ A ta tb σ H Q d Rr hn eo hq
  unfold dCat at eo
  split at eo
  · rename_i k xs k' ys e1 e2
    split at eo
    · rename_i hz
      obtain ⟨a, dx, ts, rfl, h1⟩ := er_nd e1
      obtain ⟨b, dy, us, rfl, h2⟩ := er_nd e2
      cases eo
      have c1 : H a = some (.lst (ts.map T.root)) := Rr.top2.flat id
      have c2 : H b = some (.lst (us.map T.root)) := Rr.top1.flat id
      refine ⟨a, b, _, _, rfl, rfl, c1, c2, by simpa [← h1, ← h2] using hz, fun p hp => ?_⟩
      rw [List.append_assoc] at Rr
      have R2 := Rr.node (p := p) (ts := ts ++ us) hn hp .lst 0 (fun c hc => ?_) ?_
      · rw [← List.map_append]
        exact hq _ _ R2 (by simp [T.er, erL_eq, h1, h2])
      · rw [cellsL_append] at hc
        rcases List.mem_append.mp hc with h | h
        · exact ⟨0, _, rfl, child_sub.subset h⟩
        · exact ⟨1, _, rfl, child_sub.subset h⟩
      · rw [cellsL_append, ownsC_append]
        simp only [List.cons_append, List.nil_append, List.flatMap_cons, List.flatMap_nil, List.append_nil, ownsO]
        exact List.Sublist.append (owns_sublist child_sub) (owns_sublist child_sub)
    · cases eo
  · cases eo
def dIx (a b : D) : Option D := match a, b with
  | .nd _ .lst xs, .im (.int i) => atI xs i
  | .nd _ .tup xs, .im (.int i) => atI xs i
  | _, _ => none
theorem atI_map {α β : Type} (f : α → β) (xs : List α) (i : Int) : atI (xs.map f) i = (atI xs i).map f := by
  unfold atI
  rw [List.length_map]
  cases ixN xs.length i with
  | none => rfl
  | some j => simp
theorem atI_some {α : Type} {xs : List α} {i : Int} {x : α} (h : atI xs i = some x) : ∃ j, ixN xs.length i = some j ∧ xs[j]? = some x := by
  unfold atI at h
  cases e : ixN xs.length i with
  | none => rw [e] at h; cases h
  | some j => rw [e] at h; exact ⟨j, rfl, h⟩
theorem opm_ix {K : PySem.W.Frag} : OpM g n (fun x y H Q => rIxL K x y H Q ∨ rIxT K x y H Q) dIx := by
  intro Γ A ta tb σ H Q d Rr hn eo hq
  rw [List.append_assoc] at Rr
  have go : ∀ {a : Addr} {k : Kd} {s : Sh} {dx : Addr} {ts : List T} {i : Int}, ta = .nd a k s dx ts → atI (ts.map T.er) i = some d → ∃ u, atI (ts.map T.root) i = some u.root ∧ Q (T.root u) H := fun {a k s dx ts i} e h => by
    rw [atI_map] at h
    cases q : atI ts i with
    | none => rw [q] at h; cases h
    | some u =>
      rw [q] at h
      obtain ⟨j, _, hj⟩ := atI_some q
      refine ⟨u, by rw [atI_map, q]; rfl, hq u H ?_ (by simpa using h)⟩
      have hs : (u.cells g).Sublist (ta.cells g) := by rw [e]; exact (at_sub hj).trans child_sub
      exact Rr.part hn (fun c hc => ⟨0, ta, rfl, hs.subset hc⟩) (by
        simp only [List.cons_append, List.nil_append, List.flatMap_cons, List.flatMap_nil, List.append_nil, ownsO]
        exact (owns_sublist hs).trans (List.sublist_append_left _ _))
  have hold : ∀ {a : Addr} {k : Kd} {s : Sh} {dx : Addr} {ts : List T}, ta = .nd a k s dx ts → Hd H (kz s k, a, ho g s dx (ts.map T.root)) := fun {a k s dx ts} e =>
    Rr.hold A.length (kz s k, a, ho g s dx (ts.map T.root)) ⟨ta, by simp, by rw [e, T.cells]; exact List.mem_cons_self⟩
  unfold dIx at eo
  split at eo
  · rename_i k xs i e1 e2
    obtain ⟨a, dx, ts, h0, h1⟩ := er_nd e1
    obtain ⟨u, hu, hQ⟩ := go h0 (by rw [h1]; exact eo)
    refine .inl ⟨a, _, i, _, by rw [h0]; rfl, by rw [er_im e2]; rfl, SqL.of ((hold h0).flat id), hu, hQ⟩
  · rename_i k xs i e1 e2
    obtain ⟨a, dx, ts, h0, h1⟩ := er_nd e1
    obtain ⟨u, hu, hQ⟩ := go h0 (by rw [h1]; exact eo)
    refine .inr ⟨a, _, i, _, by rw [h0]; rfl, by rw [er_im e2]; rfl, SqT.of ((hold h0).flat id), hu, hQ⟩
  · cases eo
/-! ### displays -/
def dLst (ds : List D) : Option D := if ds.length ≤ sizeLine then some (.nd .own .lst ds) else none
def dTup (ds : List D) : Option D := if ds.length ≤ sizeLine then some (.nd .own .tup ds) else none
theorem mean_lst {W : WX} {M : List Nat} {ta : TA} {fr : Sg → R (List D)} (ha : MeanA g n W M ta fr) : MeanE g n W M (tLst ta) (cMany fr dLst) :=
  mean_many (r := fun xs H1 Q => xs.length ≤ sizeLine ∧ ∀ p, H1 p = none → Q (.ref p) (upd H1 p (.lst xs))) ha fun Γ A ts σ H Q d Rr hn eo hq => by
    unfold dLst at eo
    split at eo
    · rename_i hz
      cases eo
      refine ⟨by simpa using hz, fun p hp => hq (.nd p .own .lst 0 ts) _ (Rr.alloc hn hp .lst 0) (by simp [T.er, erL_eq])⟩
    · cases eo
theorem mean_tup {W : WX} {M : List Nat} {ta : TA} {fr : Sg → R (List D)} (ha : MeanA g n W M ta fr) : MeanE g n W M (tTup ta) (cMany fr dTup) :=
  mean_many (r := fun xs H1 Q => xs.length ≤ sizeLine ∧ ∀ p, H1 p = none → Q (.ref p) (upd H1 p (.tup xs))) ha fun Γ A ts σ H Q d Rr hn eo hq => by
    unfold dTup at eo
    split at eo
    · rename_i hz
      cases eo
      refine ⟨by simpa using hz, fun p hp => hq (.nd p .own .tup 0 ts) _ (Rr.alloc hn hp .tup 0) (by simp [T.er, erL_eq])⟩
    · cases eo
/-! ### equality -/
mutual
def toPy : D → Option PyData
  | .im .non => some .none
  | .im (.bl b) => some (.bool b)
  | .im (.int i) => some (.int i)
  | .im (.str x) => some (.str x)
  | .im _ => none
  | .nd _ .lst ds => (toPyL ds).map .list
  | .nd _ .tup ds => (toPyL ds).map .tuple
  | .nd _ _ _ => none
def toPyL : List D → Option (List PyData)
  | [] => some []
  | d :: r => match toPy d, toPyL r with
    | some x, some xs => some (x :: xs)
    | _, _ => none
end
mutual
theorem dp_of {K : PySem.W.Frag} {H : Hp} : ∀ (t : T) (x : PyData), (∀ c ∈ t.cells g, Hd H c) → toPy t.er = some x → Dp K H t.root x
  | .im v, x, _, e => by
    cases v <;> simp [T.er, toPy] at e <;> subst e
    · exact .non
    · exact .bl _
    · exact .int _
    · exact .str _
  | .nd a k s dx ts, x, h, e => by
    have h0 := h (kz s k, a, ho g s dx (ts.map T.root)) (by rw [T.cells]; exact List.mem_cons_self)
    have hr : ∀ c ∈ cellsL g ts, Hd H c := fun c hc => h c (by rw [T.cells]; exact List.mem_cons_of_mem _ hc)
    cases s with
    | lst =>
      simp only [T.er, toPy] at e
      cases q : toPyL (erL ts) with
      | none => rw [q] at e; cases e
      | some xs =>
        rw [q] at e
        have e' : PyData.list xs = x := by simpa using e
        subst e'
        exact .lst (SqL.of (h0.flat id)) (dps_of ts xs hr q)
    | tup =>
      simp only [T.er, toPy] at e
      cases q : toPyL (erL ts) with
      | none => rw [q] at e; cases e
      | some xs =>
        rw [q] at e
        have e' : PyData.tuple xs = x := by simpa using e
        subst e'
        exact .tup (SqT.of (h0.flat id)) (dps_of ts xs hr q)
    | _ => simp [T.er, toPy] at e
theorem dps_of {K : PySem.W.Frag} {H : Hp} : ∀ (ts : List T) (xs : List PyData), (∀ c ∈ cellsL g ts, Hd H c) → toPyL (erL ts) = some xs → DpAll K H (ts.map T.root) xs
  | [], xs, _, e => by
    simp [erL, toPyL] at e
    subst e
    exact .nil
  | t :: r, xs, h, e => by
    simp only [erL, toPyL] at e
    cases q1 : toPy t.er with
    | none => rw [q1] at e; simp at e
    | some x =>
      cases q2 : toPyL (erL r) with
      | none => rw [q1, q2] at e; simp at e
      | some ys =>
        rw [q1, q2] at e
        have e' : x :: ys = xs := by simpa using e
        subst e'
        exact .cons (dp_of t x (fun c hc => h c (by rw [cellsL]; exact List.mem_append_left _ hc)) q1) (dps_of r ys (fun c hc => h c (by rw [cellsL]; exact List.mem_append_right _ hc)) q2)
end
def eqD (a b : D) : Option Bool := match toPy a, toPy b with
  | some x, some y => if SeqAt.shaped x && SeqAt.shaped y then some (PyData.eqv x y) else none
  | _, _ => none
theorem eqD_some {a b : D} {k : Bool} (h : eqD a b = some k) : ∃ x y, toPy a = some x ∧ toPy b = some y ∧ SeqAt.shaped x = true ∧ SeqAt.shaped y = true ∧ k = PyData.eqv x y := by
  unfold eqD at h
  split at h
  · rename_i x y e1 e2
    split at h
    · rename_i hs
      rw [Bool.and_eq_true] at hs
      exact ⟨x, y, e1, e2, hs.1, hs.2, by simpa using h.symm⟩
    · cases h
  · cases h
theorem opm_eq {K : PySem.W.Frag} : OpM g n (rEqD K) (fun a b => (eqD a b).map fun k => .im (.bl k)) := by
  intro Γ A ta tb σ H Q d Rr hn eo hq
  dsimp only at eo
  cases e : eqD ta.er tb.er with
  | none => rw [e] at eo; cases eo
  | some k =>
    rw [e] at eo
    have eo : D.im (.bl k) = d := by simpa using eo
    obtain ⟨x, y, h1, h2, h3, h4, h5⟩ := eqD_some e
    refine ⟨x, y, dp_of (g := g) ta x (fun c hc => Rr.hold A.length c ⟨ta, by simp, hc⟩) h1, dp_of (g := g) tb y (fun c hc => Rr.hold (A.length + 1) c ⟨tb, by simp, hc⟩) h2, h3, h4, ?_⟩
    rw [← h5]
    rw [List.append_assoc] at Rr
    exact hq (.im (.bl k)) H (Rr.imm hn _) eo
theorem opm_ne {K : PySem.W.Frag} : OpM g n (rNeD K) (fun a b => (eqD a b).map fun k => .im (.bl (!k))) := by
  intro Γ A ta tb σ H Q d Rr hn eo hq
  dsimp only at eo
  cases e : eqD ta.er tb.er with
  | none => rw [e] at eo; cases eo
  | some k =>
    rw [e] at eo
    have eo : D.im (.bl (!k)) = d := by simpa using eo
    obtain ⟨x, y, h1, h2, h3, h4, h5⟩ := eqD_some e
    refine ⟨x, y, dp_of (g := g) ta x (fun c hc => Rr.hold A.length c ⟨ta, by simp, hc⟩) h1, dp_of (g := g) tb y (fun c hc => Rr.hold (A.length + 1) c ⟨tb, by simp, hc⟩) h2, h3, h4, ?_⟩
    rw [← h5]
    rw [List.append_assoc] at Rr
    exact hq (.im (.bl (!k))) H (Rr.imm hn _) eo
end
end Lin
end
section
namespace Lin
open PySem L2
section
variable {g : Gc} {n : Nat} {W : WX} {Γ : Gh} {A A' A'' B : List (Option T)} {σ : L2.St} {H H' : Hp} {t : T} {M M1 M2 : List Nat}
/-- a temp in the middle is dropped -/
theorem Rel.mid {o : Option T} (Rr : Rel g Γ n (A ++ [o] ++ [some t]) σ H) (hn : n ≤ A.length) : Rel g Γ n (A ++ [some t]) σ H := by
  rw [List.append_assoc] at Rr
  exact Rr.part hn (fun c hc => ⟨1, t, rfl, hc⟩) (by simp [ownsO])
/-- a temp that is part of what stands already, without own marks -/
theorem Rel.dup {u : T} (Rr : Rel g Γ n A σ H) (h : ∀ c ∈ u.cells g, c.1 ≠ .own ∧ ∃ i, CellAt g A i c) : Rel g Γ n (A ++ [some u]) σ H := by
  refine ⟨by simp; have := Rr.len; omega, Rr.slen, ?_, ?_, ?_, ?_, ?_, Rr.frame, ?_, ?_, Rr.pin, Rr.tab, Rr.lck⟩
  · intro j w hj q
    rcases snoc_get q with ⟨_, q⟩ | ⟨e, _⟩
    · exact Rr.val j w hj q
    · have := Rr.len; omega
  · intro j c x
    rcases cellAt_snoc.mp x with x | ⟨_, x⟩
    · exact Rr.hold j c x
    · obtain ⟨_, i, y⟩ := h c x
      exact Rr.hold i c y
  · intro j c r x k
    rcases cellAt_snoc.mp x with x | ⟨_, x⟩
    · exact Rr.lab j c r x k
    · obtain ⟨_, i, y⟩ := h c x
      exact Rr.lab i c r y k
  · intro j w q
    rcases snoc_get q with ⟨_, q⟩ | ⟨_, e⟩
    · exact Rr.nd j w q
    · rw [e, owns_none fun c hc => (h c hc).1]; exact List.nodup_nil
  · intro j l c d x y hown hadr
    rcases cellAt_snoc.mp x with x | ⟨_, x⟩
    · rcases cellAt_snoc.mp y with y | ⟨e, y⟩
      · exact Rr.sep j l c d x y hown hadr
      · obtain ⟨no, i, y'⟩ := h d y
        have := x.lt
        rcases Rr.sep j i c d x y' hown hadr with ⟨_, q⟩ | ⟨_, q⟩
        · exact absurd q no
        · exact .inr ⟨by omega, q⟩
    · exact absurd hown (h c x).1
  · intro j c x
    rcases cellAt_snoc.mp x with x | ⟨_, x⟩
    · exact Rr.gown j c x
    · obtain ⟨_, i, y⟩ := h c x
      exact Rr.gown i c y
  · intro j c x k
    rcases cellAt_snoc.mp x with x | ⟨_, x⟩
    · exact Rr.gfrz j c x k
    · obtain ⟨_, i, y⟩ := h c x
      exact Rr.gfrz i c y k
/-- slots' values where no tree is known do not matter -/
theorem Rel.reslot {σ' : L2.St} (Rr : Rel g Γ n A σ H) (hl : σ'.length = σ.length) (h : ∀ (i : Nat) t, A[i]? = some (some t) → i < n → σ'[i]? = σ[i]?) : Rel g Γ n A σ' H :=
  ⟨Rr.len, by rw [hl]; exact Rr.slen, fun i t hi e => by rw [h i t e hi]; exact Rr.val i t hi e, Rr.hold, Rr.lab, Rr.nd, Rr.sep, Rr.frame, Rr.gown, Rr.gfrz, Rr.pin, Rr.tab, Rr.lck⟩
end
/-! ### tests -/
def cAnd (fa fb : Sg → R Bool) : Sg → R Bool := fun S => (fa S).bind fun b S1 => if b = true then fb S1 else .ok false S1
def cOr (fa fb : Sg → R Bool) : Sg → R Bool := fun S => (fa S).bind fun b S1 => if b = true then .ok true S1 else fb S1
def cNot (fa : Sg → R Bool) : Sg → R Bool := fun S => (fa S).bind fun b S1 => .ok (!b) S1
def cAndV (fa fb : Sg → R D) : Sg → R D := fun S => (fa S).bind fun d S1 => match d with
  | .im (.bl true) => fb S1
  | .im (.bl false) => .ok (.im (.bl false)) S1
  | _ => .bad
def dNot (d : D) : Option D := match d with
  | .im (.bl b) => some (.im (.bl (!b)))
  | _ => none
def dBool (d : D) : Option Bool := match d with
  | .im (.bl b) => some b
  | _ => none
def dTru (d : D) : Option Bool := match d with
  | .im .non => some false
  | .im (.bl b) => some b
  | .im (.int i) => some (i != 0)
  | .im (.str x) => if x.length ≤ sizeLine then some ((x.length : Int) != 0) else none
  | .nd _ .lst ds => some (!ds.isEmpty)
  | .nd _ .tup ds => some (!ds.isEmpty)
  | _ => none
section
variable {g : Gc} {n : Nat} {W : WX} {Γ : Gh} {A A' A'' B : List (Option T)} {σ : L2.St} {H H' : Hp} {t : T} {M M1 M2 M3 : List Nat}
theorem mean_and {ta tb : TT} {fa fb : Sg → R Bool} (ha : MeanT g n W M1 ta fa) (hb : MeanT g n W M2 tb fb) : MeanT g n W (M1 ++ M2) (tAnd ta tb) (cAnd fa fb) := by
  intro Γ A σ H Q Rr cl h
  refine ha Γ A σ H _ Rr cl.left ?_
  unfold cAnd at h
  cases ea : fa (ers n A) with
  | bad => rw [ea] at h; exact h.elim
  | exc c d S => rw [ea] at h; exact h
  | ok b S1 =>
    rw [ea] at h
    dsimp only [Lin.R.bind] at h
    intro A1 H1 R1 x1 e1
    cases b with
    | true =>
      rw [if_pos rfl] at h ⊢
      refine hb Γ A1 σ H1 _ R1 (cl.right.next x1.toNext Rr.len) ?_
      rw [e1]
      cases eb : fb S1 with
      | bad => rw [eb] at h; exact h.elim
      | exc c d S => rw [eb] at h; exact PostX.of h x1.toNext
      | ok b' S2 => rw [eb] at h; exact fun A2 H2 R2 x2 e2 => h A2 H2 R2 (x1.trans x2) e2
    | false =>
      rw [if_neg Bool.false_ne_true] at h ⊢
      exact h A1 H1 R1 (x1.mono fun r hr => List.mem_append_left _ hr) e1
theorem mean_or {ta tb : TT} {fa fb : Sg → R Bool} (ha : MeanT g n W M1 ta fa) (hb : MeanT g n W M2 tb fb) : MeanT g n W (M1 ++ M2) (tOr ta tb) (cOr fa fb) := by
  intro Γ A σ H Q Rr cl h
  refine ha Γ A σ H _ Rr cl.left ?_
  unfold cOr at h
  cases ea : fa (ers n A) with
  | bad => rw [ea] at h; exact h.elim
  | exc c d S => rw [ea] at h; exact h
  | ok b S1 =>
    rw [ea] at h
    dsimp only [Lin.R.bind] at h
    intro A1 H1 R1 x1 e1
    cases b with
    | false =>
      rw [if_neg Bool.false_ne_true] at h ⊢
      refine hb Γ A1 σ H1 _ R1 (cl.right.next x1.toNext Rr.len) ?_
      rw [e1]
      cases eb : fb S1 with
      | bad => rw [eb] at h; exact h.elim
      | exc c d S => rw [eb] at h; exact PostX.of h x1.toNext
      | ok b' S2 => rw [eb] at h; exact fun A2 H2 R2 x2 e2 => h A2 H2 R2 (x1.trans x2) e2
    | true =>
      rw [if_pos rfl] at h ⊢
      exact h A1 H1 R1 (x1.mono fun r hr => List.mem_append_left _ hr) e1
theorem mean_not {ta : TT} {fa : Sg → R Bool} (ha : MeanT g n W M1 ta fa) : MeanT g n W M1 (tNot ta) (cNot fa) := by
  intro Γ A σ H Q Rr cl h
  refine ha Γ A σ H _ Rr cl ?_
  unfold cNot at h
  cases ea : fa (ers n A) with
  | bad => rw [ea] at h; exact h.elim
  | exc c d S => rw [ea] at h; exact h
  | ok b S1 => rw [ea] at h; exact h
theorem mean_andV {ta tb : TE} {fa fb : Sg → R D} (ha : MeanE g n W M1 ta fa) (hb : MeanE g n W M2 tb fb) : MeanE g n W (M1 ++ M2) (tAndV ta tb) (cAndV fa fb) := by
  intro Γ A σ H Q Rr cl h
  refine ha Γ A σ H _ Rr cl.left ?_
  unfold cAndV at h
  cases ea : fa (ers n A) with
  | bad => rw [ea] at h; exact h.elim
  | exc c d S => rw [ea] at h; exact h
  | ok d S1 =>
    rw [ea] at h
    dsimp only [Lin.R.bind] at h
    intro A1 t1 H1 R1 x1 e1 d1
    have n1 : n ≤ A1.length := by rw [x1.len]; exact Rr.len
    split at h
    · rw [er_im d1]
      refine ⟨true, rfl, ?_⟩
      rw [if_pos rfl]
      refine hb Γ A1 σ H1 _ (R1.drop n1) (cl.right.next x1.toNext Rr.len) ?_
      rw [e1]
      cases eb : fb S1 with
      | bad => rw [eb] at h; exact h.elim
      | exc c d S => rw [eb] at h; exact PostX.of h x1.toNext
      | ok b' S2 => rw [eb] at h; exact fun A2 t2 H2 R2 x2 e2 d2 => h A2 t2 H2 R2 (x1.trans x2) e2 d2
    · rw [er_im d1]
      refine ⟨false, rfl, ?_⟩
      rw [if_neg Bool.false_ne_true]
      have := h A1 t1 H1 R1 (x1.mono fun r hr => List.mem_append_left _ hr) e1 d1
      rw [er_im d1] at this
      exact this
    · exact h.elim
theorem mean_notV {ta : TE} {fa : Sg → R D} (ha : MeanE g n W M1 ta fa) : MeanE g n W M1 (tNotV ta) (cOne fa dNot) :=
  mean_one (r := fun x H1 Q => ∃ c, x = .bl c ∧ Q (.bl (!c)) H1) ha fun Γ A ta σ H Q d Rr hn eo hq => by
    unfold dNot at eo
    split at eo
    · rename_i b e
      rw [er_im e]
      refine ⟨b, rfl, hq (.im (.bl (!b))) H (Rr.imm hn _) (Option.some.inj eo)⟩
    · cases eo
theorem tsm_bool : TsM g n (fun x H Q => ∃ k, x = .bl k ∧ Q k H) dBool := by
  intro Γ A ta σ H Q b Rr hn eo hq
  unfold dBool at eo
  split at eo
  · rename_i c e
    rw [er_im e]
    cases eo
    exact ⟨_, rfl, hq⟩
  · cases eo
theorem tsm_tru {K : PySem.W.Frag} : TsM g n (fun x H Q => ∃ k, TruV K x H k ∧ Q k H) dTru := by
  intro Γ A ta σ H Q b Rr hn eo hq
  unfold dTru at eo
  split at eo
  · rename_i e
    rw [er_im e]
    cases eo
    exact ⟨_, rfl, hq⟩
  · rename_i e
    rw [er_im e]
    cases eo
    exact ⟨_, rfl, hq⟩
  · rename_i e
    rw [er_im e]
    cases eo
    exact ⟨_, rfl, hq⟩
  · rename_i e
    rw [er_im e]
    split at eo
    · rename_i hz
      cases eo
      exact ⟨_, ⟨hz, rfl⟩, hq⟩
    · cases eo
  · rename_i k ds e
    obtain ⟨a, dx, ts, rfl, h1⟩ := er_nd e
    refine ⟨b, .inl ⟨_, SqL.of (Rr.top1.flat id), ?_⟩, hq⟩
    have eo : (!ds.isEmpty) = b := by simpa using eo
    rw [← eo, ← h1]
    simp
  · rename_i k ds e
    obtain ⟨a, dx, ts, rfl, h1⟩ := er_nd e
    refine ⟨b, .inr (.inl ⟨_, SqT.of (Rr.top1.flat id), ?_⟩), hq⟩
    have eo : (!ds.isEmpty) = b := by simpa using eo
    rw [← eo, ← h1]
    simp
  · cases eo
end
/-! ### statements -/
def cNext : Sg → R Fl := fun S => .ok .nx S
def cSeq (f h : Sg → R Fl) : Sg → R Fl := fun S => (f S).bind fun fl S1 => match fl with
  | .nx => h S1
  | fl => .ok fl S1
def cIf (fc : Sg → R Bool) (f h : Sg → R Fl) : Sg → R Fl := fun S => (fc S).bind fun b S1 => if b = true then f S1 else h S1
def cRet (f : Sg → R D) : Sg → R Fl := fun S => (f S).bind fun d S1 => .ok (.ret d) S1
def cExpr (f : Sg → R D) : Sg → R Fl := fun S => (f S).bind fun _ S1 => .ok .nx S1
def fzIf (z : Bool) (d : D) : D := if z = true then d.mk kFz else d
def cBad : Sg → R Fl := fun _ => .bad
section
variable {g : Gc} {n : Nat} {W : WX} {Γ : Gh} {A A' A'' B : List (Option T)} {σ : L2.St} {H H' : Hp} {t : T} {M M1 M2 M3 : List Nat}
theorem PostS.of {D : Ends} {r : R Fl} {σ1 : L2.St} (h : PostS g n W M Γ A σ D r) (x : NextS n M1 A A' σ σ1) (h1 : ∀ r ∈ M1, r ∈ M) (h2 : ∀ r ∈ M2, r ∈ M) : PostS g n W M2 Γ A' σ1 D r := by
  have mm : ∀ q ∈ M1 ++ M2, q ∈ M := fun q hq => (List.mem_append.mp hq).elim (h1 q) (h2 q)
  cases r with
  | bad => exact h
  | exc c d S => exact fun A2 t σ' H' R y => h A2 t σ' H' R ((x.trans y).mono mm)
  | ok fl S => cases fl with
    | nx => exact fun A2 σ' H' R y => h A2 σ' H' R ((x.trans y).mono mm)
    | brk => exact fun A2 σ' H' R y => h A2 σ' H' R ((x.trans y).mono mm)
    | cnt => exact fun A2 σ' H' R y => h A2 σ' H' R ((x.trans y).mono mm)
    | ret d => exact fun A2 t σ' H' R y => h A2 t σ' H' R ((x.trans y).mono mm)
theorem PostS.sub {D : Ends} {r : R Fl} (h : PostS g n W M Γ A σ D r) (h2 : ∀ r ∈ M2, r ∈ M) : PostS g n W M2 Γ A σ D r := PostS.of h (NextS.refl [] A σ) (fun _ z => nomatch z) h2
theorem mean_next : MeanS g n W [] tNext cNext := fun Γ A σ H D Rr _ h => h A σ H Rr (.refl _ _ _) rfl
theorem mean_never : MeanS g n W [] tNever cBad := fun Γ A σ H D Rr _ h => h
theorem mean_seq {t1 t2 : TS} {f1 f2 : Sg → R Fl} (h1 : MeanS g n W M1 t1 f1) (h2 : MeanS g n W M2 t2 f2) : MeanS g n W (M1 ++ M2) (tSeq t1 t2) (cSeq f1 f2) := by
  intro Γ A σ H D Rr cl h
  refine h1 Γ A σ H _ Rr cl.left ?_
  unfold cSeq at h
  have ml : ∀ r ∈ M1, r ∈ M1 ++ M2 := fun r hr => List.mem_append_left _ hr
  have mr : ∀ r ∈ M2, r ∈ M1 ++ M2 := fun r hr => List.mem_append_right _ hr
  cases ea : f1 (ers n A) with
  | bad => rw [ea] at h; exact h.elim
  | exc c d S => rw [ea] at h; exact fun A2 t σ' H' R y => h A2 t σ' H' R (y.mono ml)
  | ok fl S1 =>
    rw [ea] at h
    dsimp only [Lin.R.bind] at h
    cases fl with
    | nx =>
      intro A1 σ1 H1 R1 x1 e1
      refine h2 Γ A1 σ1 H1 D R1 (cl.right.next x1.toNext Rr.len) ?_
      rw [e1]
      exact PostS.of h x1 ml mr
    | brk => exact fun A2 σ' H' R y => h A2 σ' H' R (y.mono ml)
    | cnt => exact fun A2 σ' H' R y => h A2 σ' H' R (y.mono ml)
    | ret d => exact fun A2 t σ' H' R y => h A2 t σ' H' R (y.mono ml)
theorem mean_if {tc : TT} {t1 t2 : TS} {fc : Sg → R Bool} {f1 f2 : Sg → R Fl} (hc : MeanT g n W M1 tc fc) (h1 : MeanS g n W M2 t1 f1) (h2 : MeanS g n W M3 t2 f2) : MeanS g n W (M1 ++ (M2 ++ M3)) (tIfS tc t1 t2) (cIf fc f1 f2) := by
  intro Γ A σ H D Rr cl h
  refine hc Γ A σ H _ Rr cl.left ?_
  unfold cIf at h
  cases ea : fc (ers n A) with
  | bad => rw [ea] at h; exact h.elim
  | exc c d S => rw [ea] at h; exact fun A' t H' R x e => h A' t σ H' R (x.toS _ _) e
  | ok b S1 =>
    rw [ea] at h
    dsimp only [Lin.R.bind] at h
    intro A1 H1 R1 x1 e1
    replace x1 := x1.toNext
    cases b with
    | true =>
      rw [if_pos rfl] at h ⊢
      exact h1 Γ A1 σ H1 D R1 (cl.right.left.next x1 Rr.len) (by rw [e1]; exact PostS.of h (x1.toS [] σ) (fun _ z => nomatch z) fun r hr => List.mem_append_right _ (List.mem_append_left _ hr))
    | false =>
      rw [if_neg Bool.false_ne_true] at h ⊢
      exact h2 Γ A1 σ H1 D R1 (cl.right.right.next x1 Rr.len) (by rw [e1]; exact PostS.of h (x1.toS [] σ) (fun _ z => nomatch z) fun r hr => List.mem_append_right _ (List.mem_append_right _ hr))
theorem mean_ret {te : TE} {f : Sg → R D} (he : MeanE g n W M1 te f) : MeanS g n W M1 (tRet te) (cRet f) := by
  intro Γ A σ H D Rr cl h
  refine he Γ A σ H _ Rr cl ?_
  unfold cRet at h
  cases ea : f (ers n A) with
  | bad => rw [ea] at h; exact h.elim
  | exc c d S => rw [ea] at h; exact fun A' t H' R x e => h A' t σ H' R (x.toS _ _) e
  | ok d S1 =>
    rw [ea] at h
    exact fun A1 t1 H1 R1 x1 e1 d1 => h A1 t1 σ H1 R1 (x1.toNext.toS _ _) e1 d1
theorem mean_expr {te : TE} {f : Sg → R D} (he : MeanE g n W M1 te f) : MeanS g n W M1 (tDrop te) (cExpr f) := by
  intro Γ A σ H D Rr cl h
  refine he Γ A σ H _ Rr cl ?_
  unfold cExpr at h
  cases ea : f (ers n A) with
  | bad => rw [ea] at h; exact h.elim
  | exc c d S => rw [ea] at h; exact fun A' t H' R x e => h A' t σ H' R (x.toS _ _) e
  | ok d S1 =>
    rw [ea] at h
    exact fun A1 t1 H1 R1 x1 e1 d1 => h A1 σ H1 (R1.drop (by rw [x1.len]; exact Rr.len)) (x1.toNext.toS _ _) e1
theorem next_set {i : Nat} (hi : i < n) (o : Option T) (x : Next n A A') : Next n A (A'.set i o) := ⟨by rw [List.length_set]; exact x.len, by rw [List.drop_set_of_lt hi]; exact x.tmp⟩
theorem fz_er (z : Bool) (t : T) : (if z = true then t.mk kFz else t).er = fzIf z t.er := by
  unfold fzIf
  cases z with
  | true => rw [if_pos rfl, if_pos rfl, er_mk]
  | false => rw [if_neg Bool.false_ne_true, if_neg Bool.false_ne_true]
theorem Rel.fzIf (Rr : Rel g Γ n (A ++ [some t]) σ H) (hn : n ≤ A.length) (z : Bool) : Rel g Γ n (A ++ [some (if z = true then t.mk kFz else t)]) σ H := by
  cases z with
  | true => rw [if_pos rfl]; exact Rr.freeze hn
  | false => rw [if_neg Bool.false_ne_true]; exact Rr
theorem fz_root (z : Bool) (t : T) : (if z = true then t.mk kFz else t).root = t.root := by
  cases z with
  | true => rw [if_pos rfl, root_mk]
  | false => rw [if_neg Bool.false_ne_true]
/-- a target -/
def MeanG (g : Gc) (n : Nat) (xs : List Nat) (tg : TG) (f : D → Sg → Option Sg) : Prop := ∀ Γ A t σ H Q S', Rel g Γ n (A ++ [some t]) σ H → n ≤ A.length → f t.er (ers n A) = some S' →
  (∀ A' σ' H', Rel g Γ n A' σ' H' → NextM n xs A A' → ers n A' = S' → (∀ j : Nat, j ∉ xs → σ'[j]? = σ[j]?) → Q σ' H') → tg t.root σ H Q
def gSet (z : Bool) (i : Nat) : D → Sg → Option Sg := fun d S => some (S.set i (some (fzIf z d)))
theorem meang_name {z : Bool} {i : Nat} (hi : i < n) : MeanG g n [i] (gName i) (gSet z i) := by
  intro Γ A t σ H Q S' Rr hn e h
  unfold gSet at e
  have e : (ers n A).set i (some (Lin.fzIf z t.er)) = S' := by simpa using e
  have R2 := (Rr.fzIf hn z).assign hn hi
  rw [fz_root] at R2
  have ne : ∀ {j : Nat}, j ∉ [i] → i ≠ j := fun {j} hj z => hj (by simp [z])
  refine h _ _ _ R2 ⟨next_set hi _ (.refl _), fun j _ hj => .inl (List.getElem?_set_ne (ne hj))⟩ ?_ fun j hj => ?_
  · rw [ers_set hi, ← e]
    simp [fz_er]
  · have : j ≠ i := by simpa using hj
    rw [List.getElem?_set_ne (Ne.symm this)]
/-- target = value -/
def cAsg (tg : D → Sg → Option Sg) (f : Sg → R D) : Sg → R Fl := fun S => (f S).bind fun d S1 => match tg d S1 with
  | some S2 => .ok .nx S2
  | none => .bad
theorem mean_asg {xs : List Nat} {te : TE} {tg : TG} {f : Sg → R D} {fg : D → Sg → Option Sg} (he : MeanE g n W M1 te f) (hg : MeanG g n xs tg fg) : MeanS g n W (M1 ++ xs.map (n + ·)) (tAsg te tg) (cAsg fg f) := by
  intro Γ A σ H D Rr cl h
  refine he Γ A σ H _ Rr cl.left ?_
  unfold cAsg at h
  cases ea : f (ers n A) with
  | bad => rw [ea] at h; exact h.elim
  | exc c d S => rw [ea] at h; exact fun A' t H' R x e => h A' t σ H' R (x.toS _ _) e
  | ok d S1 =>
    rw [ea] at h
    dsimp only [Lin.R.bind] at h
    intro A1 t1 H1 R1 x1 e1 d1
    cases eg : fg d S1 with
    | none => rw [eg] at h; exact h.elim
    | some S2 =>
      rw [eg] at h
      refine hg Γ A1 t1 σ H1 _ S2 R1 (by rw [x1.len]; exact Rr.len) (by rw [d1, e1]; exact eg) fun A2 σ2 H2 R2 x2 e2 hk => ?_
      exact h A2 σ2 H2 R2 ⟨x1.toNext.trans x2.toNext, fun j hj => hk j fun z => hj (List.mem_append_right _ (List.mem_map.mpr ⟨j, z, rfl⟩))⟩ e2
/-! ### while -/
end
/-! ### what is walked -/
/-- J yields the trees us, one a turn, in every heap where t stands -/
structure Follows (J : It) (us : List T) (H : Hp) : Prop where
  go : ∀ (i : Nat) (u : T), us[i]? = some u → J.go i H ∧ ∀ x H', J.yld i H x H' → x = u.root ∧ H' = H
  stop : J.stop us.length H
section
variable (g : Gc) (n : Nat) (W : WX)
def PostI (M : List Nat) (Γ : Gh) (A : List (Option T)) (σ : L2.St) (Q : It → Hp → Prop) : R (D × List D) → Prop
  | .ok p S => ∀ A' (t : T) (us : List T) J H', Rel g Γ n (A' ++ [some t]) σ H' → NextM n M A A' → ers n A' = S → t.er = p.1 → us.map T.er = p.2 → (∀ u ∈ us, ∀ c ∈ u.cells g, c.1 ≠ .own ∧ c ∈ t.cells g) →
      (∀ Hx : Hp, (∀ c ∈ t.cells g, Hd Hx c) → Follows J us Hx) → Q J H'
  | .exc c d S => PostX g n W Γ A c d S σ
  | .bad => False
def MeanI (M : List Nat) (wi : TI) (f : Sg → R (D × List D)) : Prop := ∀ Γ A σ H Q, Rel g Γ n A σ H → Clean g n M A → PostI g n W M Γ A σ Q (f (ers n A)) → wi σ H Q
end
def iSeq (fa : Sg → R D) (s : Sh) : Sg → R (D × List D) := fun S => (fa S).bind fun d S1 => match d with
  | .nd k s' ds => if s' = s then .ok (D.mk kFz (.nd k s' ds), ds.map (D.mk kFz)) S1 else .bad
  | _ => .bad
def iRng (lo hi : Int) : D × List D := (.im .non, (List.range (hi - lo).toNat).map fun k : Nat => .im (.int (lo + (k : Int))))
def rngOk (i : Int) : Bool := decide (-(2 ^ 62) ≤ i) && decide (i < 2 ^ 62)
def iRng1F (fa : Sg → R (List D)) : Sg → R (D × List D) := fun S => (fa S).bind fun ds S1 => match ds with
  | [.im (.int hi)] => if rngOk hi then .ok (iRng 0 hi) S1 else .bad
  | _ => .bad
def iRng2F (fa : Sg → R (List D)) : Sg → R (D × List D) := fun S => (fa S).bind fun ds S1 => match ds with
  | [.im (.int lo), .im (.int hi)] => if rngOk lo && rngOk hi then .ok (iRng lo hi) S1 else .bad
  | _ => .bad
section
variable {g : Gc} {n : Nat} {W : WX} {Γ : Gh} {A A' A'' B : List (Option T)} {σ : L2.St} {H H' : Hp} {t : T} {M M1 M2 M3 : List Nat}
theorem cells_child_mk {a : Addr} {k : Kd} {s : Sh} {dx : Addr} {ts : List T} {u : T} (h : u ∈ ts.map (T.mk kFz)) {c : Cell} (hc : c ∈ u.cells g) : c.1 ≠ .own ∧ c ∈ ((T.nd a k s dx ts).mk kFz).cells g := by
  obtain ⟨v, hv, rfl⟩ := List.mem_map.mp h
  refine ⟨kFz_ne hc, ?_⟩
  rw [T.mk, T.cells, mkL_eq, cellsL_eq]
  exact List.mem_cons_of_mem _ (List.mem_flatMap.mpr ⟨_, List.mem_map_of_mem hv, hc⟩)
theorem meani_list {K : PySem.W.Frag} {ta : TE} {fa : Sg → R D} (ha : MeanE g n W M1 ta fa) : MeanI g n W M1 (iList K ta) (iSeq fa .lst) := by
  intro Γ A σ H Q Rr cl h
  refine ha Γ A σ H _ Rr cl ?_
  unfold iSeq at h
  cases ea : fa (ers n A) with
  | bad => rw [ea] at h; exact h.elim
  | exc c d S => rw [ea] at h; exact h
  | ok d S1 =>
    rw [ea] at h
    dsimp only [Lin.R.bind] at h
    intro A1 t1 H1 R1 x1 e1 d1
    have n1 : n ≤ A1.length := by rw [x1.len]; exact Rr.len
    split at h
    · rename_i k s' ds
      split at h
      · rename_i hs
        subst hs
        obtain ⟨a, dx, ts, rfl, h1⟩ := er_nd d1
        refine ⟨a, rfl, ⟨_, SqL.of (R1.top1.flat id)⟩, ?_⟩
        refine h A1 ((T.nd a k .lst dx ts).mk kFz) (ts.map (T.mk kFz)) (Itl K a) H1 (R1.freeze n1) x1 e1 (by rw [er_mk, d1]) (by rw [← h1]; simp [er_mk]) (fun u hu c hc => cells_child_mk hu hc) fun Hx hx => ?_
        have ha : Hx a = some (.lst (ts.map T.root)) := by
          have := hx ((kFz k), a, ho g .lst dx ((mkL kFz ts).map T.root)) (by rw [T.mk, T.cells]; exact List.mem_cons_self)
          rw [roots_mk] at this
          exact this.flat id
        have inj : ∀ xs, SqL K Hx a xs → xs = xs := fun _ _ => rfl
        refine ⟨fun i u hu => ?_, ⟨_, SqL.of ha, by simp⟩⟩
        rw [List.getElem?_map] at hu
        cases q : ts[i]? with
        | none => rw [q] at hu; cases hu
        | some v =>
          rw [q] at hu
          have hu : v.mk kFz = u := by simpa using hu
          have hv : (ts.map T.root)[i]? = some v.root := by rw [List.getElem?_map, q]; rfl
          refine ⟨⟨_, _, SqL.of ha, hv⟩, fun x H' y => ?_⟩
          obtain ⟨e, y⟩ := y
          refine ⟨?_, e⟩
          have := y _ (SqL.of ha)
          rw [hv] at this
          rw [← hu, root_mk]
          exact (Option.some.inj this).symm
      · exact h.elim
    · exact h.elim
theorem follows_rng (lo hi : Int) (Hx : Hp) : Follows (Itr lo (hi - lo).toNat) ((List.range (hi - lo).toNat).map fun k : Nat => T.im (.int (lo + (k : Int)))) Hx := by
  refine ⟨fun i u hu => ?_, by show _ ≤ _; simp⟩
  rw [List.getElem?_map] at hu
  cases q : (List.range (hi - lo).toNat)[i]? with
  | none => rw [q] at hu; cases hu
  | some k =>
    rw [q] at hu
    have hi' : i < (hi - lo).toNat := by have := (List.getElem?_eq_some_iff.mp q).1; simpa using this
    have hk : k = i := by
      rw [List.getElem?_range hi'] at q
      exact (Option.some.inj q).symm
    subst hk
    have hu : T.im (.int (lo + (k : Int))) = u := by simpa using hu
    refine ⟨hi', fun x H' y => ?_⟩
    obtain ⟨e, y⟩ := y
    exact ⟨by rw [← hu, y]; rfl, e⟩
theorem er_one {ts : List T} {x : D} (h : ts.map T.er = [x]) : ∃ t, ts = [t] ∧ t.er = x := by
  cases ts with
  | nil => cases h
  | cons t r =>
    cases r with
    | nil => exact ⟨t, rfl, by simpa using h⟩
    | cons _ _ => simp at h
theorem er_two {ts : List T} {x y : D} (h : ts.map T.er = [x, y]) : ∃ t u, ts = [t, u] ∧ t.er = x ∧ u.er = y := by
  cases ts with
  | nil => cases h
  | cons t r =>
    rw [List.map_cons, List.cons.injEq] at h
    obtain ⟨u, hu, eu⟩ := er_one h.2
    exact ⟨t, u, by rw [hu], h.1, eu⟩
theorem rngOk_iff {i : Int} (h : rngOk i = true) : -(2 ^ 62) ≤ i ∧ i < 2 ^ 62 := by
  unfold rngOk at h
  simpa using h
theorem meani_rng1 {ta : TA} {fa : Sg → R (List D)} (ha : MeanA g n W M1 ta fa) : MeanI g n W M1 (iRng1 ta) (iRng1F fa) := by
  intro Γ A σ H Q Rr cl h
  refine ha Γ A σ H _ Rr cl ?_
  unfold iRng1F at h
  cases ea : fa (ers n A) with
  | bad => rw [ea] at h; exact h.elim
  | exc c d S => rw [ea] at h; exact h
  | ok ds S1 =>
    rw [ea] at h
    dsimp only [Lin.R.bind] at h
    intro A1 ts H1 R1 x1 e1 d1
    have n1 : n ≤ A1.length := by rw [x1.len]; exact Rr.len
    split at h
    · rename_i hi
      split at h
      · rename_i ok
        obtain ⟨b1, b2⟩ := rngOk_iff ok
        · obtain ⟨t1, ht, d2⟩ := er_one d1
          subst ht
          rw [er_im d2]
          refine ⟨hi, rfl, b1, b2, ?_⟩
          refine h A1 (.im .non) ((List.range (hi - 0).toNat).map fun k : Nat => T.im (.int (0 + (k : Int)))) (Itr 0 hi.toNat) H1 (R1.imm n1 _) x1 e1 rfl ?_ ?_ fun Hx _ => (by have := follows_rng 0 hi Hx; rw [Int.sub_zero] at this ⊢; exact this)
          · simp [iRng, T.er]
          · intro u hu c hc
            obtain ⟨k, _, rfl⟩ := List.mem_map.mp hu
            simp [T.cells] at hc
      · exact h.elim
    · exact h.elim
theorem meani_rng2 {ta : TA} {fa : Sg → R (List D)} (ha : MeanA g n W M1 ta fa) : MeanI g n W M1 (iRng2 ta) (iRng2F fa) := by
  intro Γ A σ H Q Rr cl h
  refine ha Γ A σ H _ Rr cl ?_
  unfold iRng2F at h
  cases ea : fa (ers n A) with
  | bad => rw [ea] at h; exact h.elim
  | exc c d S => rw [ea] at h; exact h
  | ok ds S1 =>
    rw [ea] at h
    dsimp only [Lin.R.bind] at h
    intro A1 ts H1 R1 x1 e1 d1
    have n1 : n ≤ A1.length := by rw [x1.len]; exact Rr.len
    split at h
    · rename_i lo hi
      split at h
      · rename_i ok
        rw [Bool.and_eq_true] at ok
        obtain ⟨b1, b2⟩ := rngOk_iff ok.1
        obtain ⟨b3, b4⟩ := rngOk_iff ok.2
        · obtain ⟨t1, t2, ht, d2, d3⟩ := er_two d1
          subst ht
          rw [er_im d2, er_im d3]
          refine ⟨lo, hi, rfl, ⟨b1, b2, b3, b4⟩, ?_⟩
          refine h A1 (.im .non) ((List.range (hi - lo).toNat).map fun k : Nat => T.im (.int (lo + (k : Int)))) (Itr lo (hi - lo).toNat) H1 (R1.imm n1 _) x1 e1 rfl ?_ ?_ fun Hx _ => follows_rng lo hi Hx
          · simp [iRng, T.er]
          · intro u hu c hc
            obtain ⟨k, _, rfl⟩ := List.mem_map.mp hu
            simp [T.cells] at hc
      · exact h.elim
    · exact h.elim
/-! ### for -/
def forL (tg : D → Sg → Option Sg) (fb : Sg → R Fl) : List D → Sg → R Fl
  | [], S => .ok .nx S
  | d :: r, S => match tg d S with
    | none => .bad
    | some S0 => (fb S0).bind fun fl S1 => match fl with
      | .nx => forL tg fb r S1
      | .cnt => forL tg fb r S1
      | .brk => .ok .nx S1
      | .ret d => .ok (.ret d) S1
def cFor (Mb : List Nat) (tg : D → Sg → Option Sg) (fi : Sg → R (D × List D)) (fb : Sg → R Fl) : Sg → R Fl := fun S => (fi S).bind fun p S1 => if cleanD Mb p.1 then forL tg fb p.2 S1 else .bad
theorem mean_for {xs : List Nat} {wi : TI} {g1 : TG} {tb : TS} {fi : Sg → R (D × List D)} {tg : D → Sg → Option Sg} {fb : Sg → R Fl} (hi : MeanI g n W M1 wi fi) (hg : MeanG g n xs g1 tg) (hb : MeanS g n W M2 tb fb) :
    MeanS g n W (M1 ++ (xs.map (n + ·) ++ M2)) (tFor wi g1 tb) (cFor M2 tg fi fb) := by
  intro Γ A σ H D Rr cl h
  refine hi Γ A σ H _ Rr cl.left ?_
  unfold cFor at h
  cases ei : fi (ers n A) with
  | bad => rw [ei] at h; exact h.elim
  | exc c d S => rw [ei] at h; exact fun A' t H' R x e => h A' t σ H' R (x.toS _ _) e
  | ok p S0 =>
    rw [ei] at h
    dsimp only [Lin.R.bind] at h
    by_cases hc : cleanD M2 p.1 = true
    · rw [if_pos hc] at h
      intro A0 t us J H0 R0 x0 e0 d0 du hus hJ
      replace x0 := x0.toNext
      have n0 : n ≤ A0.length := by rw [x0.len]; exact Rr.len
      have mm : ∀ r ∈ (xs.map (n + ·) ++ M2) ++ (xs.map (n + ·) ++ M2), r ∈ xs.map (n + ·) ++ M2 := fun r hr => (List.mem_append.mp hr).elim id id
      have mr : ∀ r ∈ xs.map (n + ·) ++ M2, r ∈ M1 ++ (xs.map (n + ·) ++ M2) := fun r hr => List.mem_append_right _ hr
      refine ⟨fun i m σ' H' => m = us.length - i ∧ i ≤ us.length ∧ ∃ A', Rel g Γ n (A' ++ [some t]) σ' H' ∧ NextS n (xs.map (n + ·) ++ M2) A A' σ σ' ∧ forL tg fb (p.2.drop i) (ers n A') = forL tg fb p.2 S0,
        ⟨us.length, by simp, Nat.zero_le _, A0, R0, x0.toS _ _, by rw [e0, List.drop_zero]⟩, ?_⟩
      rintro i m σ1 H1 ⟨rfl, hi, A1, R1, x1, e1⟩
      have n1 : n ≤ A1.length := by rw [x1.len]; exact Rr.len
      have hold : ∀ c ∈ t.cells g, Hd H1 c := fun c hc => R1.hold A1.length c (cellAt_snoc.mpr (.inr ⟨rfl, hc⟩))
      have fol := hJ H1 hold
      rw [← e1] at h
      by_cases hlt : i < us.length
      · obtain ⟨go, yl⟩ := fol.go i us[i] (by simp [hlt])
        refine .inr ⟨go, fun σ' H' => ∃ A', Rel g Γ n (A' ++ [some t]) σ' H' ∧ NextS n (xs.map (n + ·) ++ M2) A A' σ σ' ∧ forL tg fb (p.2.drop (i + 1)) (ers n A') = forL tg fb p.2 S0,
          fun σ' H' ⟨A', r1, r2, r3⟩ => ⟨us.length - (i + 1), by omega, rfl, hlt, A', r1, r2, r3⟩, fun x H' y => ?_⟩
        obtain ⟨rfl, rfl⟩ := yl x H' y
        have hp : p.2.drop i = us[i].er :: p.2.drop (i + 1) := by
          have hl : i < p.2.length := by rw [← du, List.length_map]; exact hlt
          have : us[i].er = p.2[i] := by simp [← du]
          rw [this, List.getElem_cons_drop]
        rw [hp] at h e1
        rw [forL] at h e1
        -- the item as a temp
        have Rd : Rel g Γ n (A1 ++ [some t] ++ [some us[i]]) σ1 H' := R1.dup fun c hc => by
          obtain ⟨q1, q2⟩ := hus us[i] (List.getElem_mem hlt) c hc
          exact ⟨q1, A1.length, cellAt_snoc.mpr (.inr ⟨rfl, q2⟩)⟩
        have nA : n ≤ (A1 ++ [some t]).length := by rw [List.length_append]; omega
        cases et : tg us[i].er (ers n A1) with
        | none => rw [et] at h; exact h.elim
        | some S1 =>
          rw [et] at h e1
          dsimp only at h e1
          refine hg Γ (A1 ++ [some t]) us[i] σ1 H' _ S1 Rd nA (by rw [ers_append n1]; exact et) fun A2 σ2 H2 R2 x2 e2 hk => ?_
          replace x2 := x2.toNext
          obtain ⟨y2, z2⟩ := x2.left n1
          have n2 : n ≤ (A2.take A1.length).length := by rw [y2.len]; exact n1
          have cl2 : Clean g n M2 A2 := by
            rw [z2]
            exact ((cl.right.right.next x1.toNext Rr.len).next y2 n1).snoc (by rw [d0]; exact hc)
          refine hb Γ A2 σ2 H2 _ R2 cl2 ?_
          rw [e2]
          have out : ∀ {A3 : List (Option T)} {σ3 : L2.St}, NextS n M2 A2 A3 σ2 σ3 → NextS n (xs.map (n + ·) ++ M2) A (A3.take A1.length) σ σ3 ∧ A3 = A3.take A1.length ++ [some t] ∧ n ≤ (A3.take A1.length).length := fun {A3 σ3} x3 => by
            have x3' := x3.toNext
            rw [z2] at x3'
            obtain ⟨y3, z3⟩ := x3'.left n2
            have hl : (A2.take A1.length).length = A1.length := y2.len
            rw [hl] at y3 z3
            exact ⟨⟨(x1.toNext.trans y2).trans y3, fun j hj => by
              rw [List.mem_append, not_or] at hj
              rw [x3.keep j hj.2, hk j fun z => hj.1 (List.mem_map.mpr ⟨j, z, rfl⟩)]
              exact x1.keep j (by rw [List.mem_append, not_or]; exact hj)⟩, z3, by rw [y3.len]; exact n2⟩
          cases eb : fb S1 with
          | bad => rw [eb] at h; exact h.elim
          | exc c d S =>
            rw [eb] at h
            intro A3 t3 σ3 H3 R3 x3 e3 d3
            obtain ⟨q1, q2, q3⟩ := out x3
            rw [q2] at R3 e3
            exact h _ t3 σ3 H3 (R3.mid q3) (q1.mono mr) (by rw [ers_append q3] at e3; exact e3) d3
          | ok fl S2 =>
            rw [eb] at h e1
            dsimp only [Lin.R.bind] at h e1
            cases fl with
            | nx =>
              intro A3 σ3 H3 R3 x3 e3
              obtain ⟨q1, q2, q3⟩ := out x3
              rw [q2] at R3 e3
              exact ⟨_, R3, q1, by rw [ers_append q3] at e3; rw [e3, ← e1]⟩
            | cnt =>
              intro A3 σ3 H3 R3 x3 e3
              obtain ⟨q1, q2, q3⟩ := out x3
              rw [q2] at R3 e3
              exact ⟨_, R3, q1, by rw [ers_append q3] at e3; rw [e3, ← e1]⟩
            | brk =>
              intro A3 σ3 H3 R3 x3 e3
              obtain ⟨q1, q2, q3⟩ := out x3
              rw [q2] at R3 e3
              exact h _ σ3 H3 (R3.drop q3) (q1.mono mr) (by rw [ers_append q3] at e3; exact e3)
            | ret d =>
              intro A3 t3 σ3 H3 R3 x3 e3 d3
              obtain ⟨q1, q2, q3⟩ := out x3
              rw [q2] at R3 e3
              exact h _ t3 σ3 H3 (R3.mid q3) (q1.mono mr) (by rw [ers_append q3] at e3; exact e3) d3
      · have ei' : i = us.length := by omega
        subst ei'
        refine .inl ⟨fol.stop, ?_⟩
        rw [List.drop_of_length_le (by rw [← du, List.length_map]; exact Nat.le_refl _)] at h
        exact h A1 σ1 H1 (R1.drop n1) (x1.mono mr) rfl
    · rw [if_neg hc] at h; exact h.elim
end
end Lin
end
section
namespace Lin
open PySem L2
section
variable {g : Gc} {n : Nat} {W : WX} {Γ : Gh} {A A' A'' B : List (Option T)} {σ : L2.St} {H H' : Hp} {t : T} {M M1 M2 M3 : List Nat}
/-- an own address stands once in its tree -/
theorem Rel.only {i : Nat} (Rr : Rel g Γ n A σ H) (e : A[i]? = some (some t)) {l1 l2 : List Cell} {a : Addr} {o : HO} (h : t.cells g = l1 ++ (Kd.own, a, o) :: l2) : ∀ c ∈ l1 ++ l2, c.2.1 ≠ a := by
  intro c hc q
  have hct : c ∈ t.cells g := by
    rw [h]
    rcases List.mem_append.mp hc with z | z
    · exact List.mem_append_left _ z
    · exact List.mem_append_right _ (List.mem_cons_of_mem _ z)
  have hat : (Kd.own, a, o) ∈ t.cells g := by rw [h]; exact List.mem_append_right _ List.mem_cons_self
  rcases Rr.sep i i _ c ⟨t, e, hat⟩ ⟨t, e, hct⟩ rfl q with ⟨_, k⟩ | ⟨z, _⟩
  · have nd := Rr.nd i t e
    rw [h, ownsC_append] at nd
    have e2 : ownsC ((Kd.own, a, o) :: l2) = a :: ownsC l2 := by simp [ownsC]
    rw [e2] at nd
    obtain ⟨n1, n2, n3⟩ := List.nodup_append.mp nd
    rcases List.mem_append.mp hc with z | z
    · exact n3 a (mem_ownsC.mpr ⟨c, z, k, q⟩) a List.mem_cons_self rfl
    · exact (List.nodup_cons.mp n2).1 (mem_ownsC.mpr ⟨c, z, k, q⟩)
  · exact z rfl
theorem Rel.ndWith {r : Nat} (Rr : Rel g Γ n (A ++ B) σ H) (hn : n ≤ A.length) (e : A[r]? = some (some t)) : (ownsC (t.cells g) ++ B.flatMap (ownsO g)).Nodup := by
  have er : (A ++ B)[r]? = some (some t) := by rw [List.getElem?_append_left (List.getElem?_eq_some_iff.mp e).1]; exact e
  refine List.nodup_append.mpr ⟨Rr.nd r t er, Rr.ndB hn, fun a ha b hb q => ?_⟩
  subst q
  obtain ⟨c, hc, k1, k2⟩ := mem_ownsC.mp ha
  obtain ⟨o', ho', hb⟩ := List.mem_flatMap.mp hb
  cases o' with
  | none => cases hb
  | some u =>
    obtain ⟨d, hd, k3, k4⟩ := mem_ownsC.mp (show a ∈ ownsC (u.cells g) from hb)
    obtain ⟨j, hj, ej⟩ := List.getElem_of_mem ho'
    have hr := (List.getElem?_eq_some_iff.mp e).1
    rcases Rr.sep r (A.length + j) c d ⟨t, er, hc⟩ ⟨u, by rw [List.getElem?_append_right (by omega), Nat.add_sub_cancel_left, List.getElem?_eq_getElem hj, ej], hd⟩ k1 (by rw [k4, k2]) with ⟨z, _⟩ | ⟨_, z⟩
    · omega
    · rw [k3] at z; cases z
/-- no other cell of the temps B has an own address of the tree -/
theorem Rel.apart {r : Nat} (Rr : Rel g Γ n (A ++ B) σ H) (e : A[r]? = some (some t)) {a : Addr} {o : HO} (h : (Kd.own, a, o) ∈ t.cells g) (nb : ∀ i c, CellAt g B i c → c.1 ≠ .bor r) {i : Nat} {c : Cell} (hc : CellAt g B i c) : c.2.1 ≠ a := by
  intro q
  have er : (A ++ B)[r]? = some (some t) := by rw [List.getElem?_append_left (List.getElem?_eq_some_iff.mp e).1]; exact e
  have hr := (List.getElem?_eq_some_iff.mp e).1
  rcases Rr.sep r (A.length + i) _ c ⟨t, er, h⟩ (cellAt_append.mpr (.inr ⟨by omega, by rw [Nat.add_sub_cancel_left]; exact hc⟩)) rfl q with ⟨z, _⟩ | ⟨_, z⟩
  · omega
  · exact nb i c hc z
/-- at a path, an own node's content is changed: ts' and the result res are made of its children and of the temps us -/
theorem Rel.mutAt {r : Nat} {p : List Nat} {a dx : Addr} {s s' : Sh} {ts ts' us : List T} {res : T} {dropped : List Cell} (Rr : Rel g Γ n (A ++ us.map some) σ H) (hn : n ≤ A.length) (e : A[r]? = some (some t)) (nb : ∀ i c, CellAt g (A ++ us.map some) i c → c.1 ≠ .bor r)
    (hp : t.at p = some (.nd a .own s dx ts)) (ms : kz s .own = .own) (ms' : kz s' .own = .own) (hperm : (cellsL g ts' ++ res.cells g ++ dropped).Perm (cellsL g ts ++ cellsL g us)) :
    Rel g Γ n (A.set r (some (t.put p (.nd a .own s' dx ts'))) ++ [some res]) σ (upd H a (ho g s' dx (ts'.map T.root))) := by
  obtain ⟨pre, post, h1, h2⟩ := cells_put g p t (.nd a .own s' dx ts') (.nd a .own s dx ts) hp rfl
  have hrt : (t.put p (.nd a .own s' dx ts')).root = t.root := root_put p t _ _ hp rfl
  have hd : t.cells g = pre ++ (Kd.own, a, ho g s dx (ts.map T.root)) :: (cellsL g ts ++ post) := by rw [h1, T.cells, ms]; simp
  have hd' : (t.put p (.nd a .own s' dx ts')).cells g = pre ++ (Kd.own, a, ho g s' dx (ts'.map T.root)) :: (cellsL g ts' ++ post) := by rw [h2, T.cells, ms']; simp
  have er : (A ++ us.map some)[r]? = some (some t) := by rw [List.getElem?_append_left (List.getElem?_eq_some_iff.mp e).1]; exact e
  have only := Rr.only er hd
  have hat : (Kd.own, a, ho g s dx (ts.map T.root)) ∈ t.cells g := by rw [hd]; exact List.mem_append_right _ List.mem_cons_self
  have nbB : ∀ i c, CellAt g (us.map some) i c → c.1 ≠ .bor r := fun i c x => nb _ c (cellAt_append.mpr (.inr ⟨Nat.le_add_right A.length i, by rw [Nat.add_sub_cancel_left]; exact x⟩))
  have src : ∀ c, c ∈ cellsL g ts ++ cellsL g us → c.2.1 ≠ a ∧ (c ∈ t.cells g ∨ ∃ i, CellAt g (us.map some) i c) := fun c hc => by
    rcases List.mem_append.mp hc with z | z
    · exact ⟨only c (List.mem_append_right _ (List.mem_append_left _ z)), .inl (by rw [hd]; exact List.mem_append_right _ (List.mem_cons_of_mem _ (List.mem_append_left _ z)))⟩
    · obtain ⟨i, x⟩ := cellAt_map.mpr z
      exact ⟨Rr.apart e hat nbB x, .inr ⟨i, x⟩⟩
  have new : ∀ c, c ∈ cellsL g ts' ∨ c ∈ res.cells g → c ∈ cellsL g ts ++ cellsL g us := fun c hc => hperm.subset (by
    rcases hc with z | z
    · exact List.mem_append_left _ (List.mem_append_left _ z)
    · exact List.mem_append_left _ (List.mem_append_right _ z))
  refine Rr.mut (U := some res) hn e nb ⟨_, hat, rfl, rfl⟩ hrt (fun b o hb q => by rw [upd_ne hb]; exact q) (fun c hc => ?_) ?_
  · rcases hc with hc | ⟨u, hu, hc⟩
    · rw [hd'] at hc
      rcases List.mem_append.mp hc with z | z
      · exact .inr (.inl ⟨only c (List.mem_append_left _ z), .inl (by rw [hd]; exact List.mem_append_left _ z)⟩)
      · rcases List.mem_cons.mp z with rfl | z
        · exact .inl ⟨rfl, rfl, upd_same⟩
        · rcases List.mem_append.mp z with z | z
          · exact .inr (.inl (src c (new c (.inl z))))
          · exact .inr (.inl ⟨only c (List.mem_append_right _ (List.mem_append_right _ z)), .inl (by rw [hd]; exact List.mem_append_right _ (List.mem_cons_of_mem _ (List.mem_append_right _ z)))⟩)
    · cases hu
      exact .inr (.inl (src c (new c (.inr hc))))
  · have nd := Rr.ndWith hn e
    rw [flat_owns] at nd
    have hp2 : (ownsC (cellsL g ts' ++ res.cells g ++ dropped)).Perm (ownsC (cellsL g ts ++ cellsL g us)) := hperm.filterMap _
    rw [List.nodup_iff_count] at nd ⊢
    intro b
    have q1 := nd b
    have q2 := hp2.count_eq b
    rw [hd, hd'] at *
    simp only [ownsC_append, List.count_append, ownsO] at q1 q2 ⊢
    have e3 : ∀ (o : HO) (l : List Cell), List.count b (ownsC ((Kd.own, a, o) :: l)) = List.count b (ownsC l) + (if a == b then 1 else 0) := fun o l => by
      have : ownsC ((Kd.own, a, o) :: l) = a :: ownsC l := by simp [ownsC]
      rw [this, List.count_cons]
    rw [e3] at q1 ⊢
    simp only [ownsC_append, List.count_append] at q1 ⊢
    omega
end
/-! ### paths -/
section
variable (g : Gc) (n : Nat) (W : WX)
def PostP (r : Nat) (M : List Nat) (Γ : Gh) (A : List (Option T)) (σ : L2.St) (Q : VK) : R (List Nat) → Prop
  | .ok p S => ∀ A' H' (t u : T), Rel g Γ n A' σ H' → NextM n M A A' → ers n A' = S → A'[r]? = some (some t) → t.at p = some u → Q u.root H'
  | .exc c d S => PostX g n W Γ A c d S σ
  | .bad => False
def MeanP (r : Nat) (M : List Nat) (te : TE) (f : Sg → R (List Nat)) : Prop := ∀ Γ A σ H Q, Rel g Γ n A σ H → Clean g n M A → PostP g n W r M Γ A σ Q (f (ers n A)) → te σ H Q
end
def pVar (r : Nat) : Sg → R (List Nat) := fun S => match S[r]? with
  | some (some _) => .ok [] S
  | _ => .bad
def nodeAt (S : Sg) (r : Nat) (p : List Nat) : Option D := match S[r]? with
  | some (some d) => d.at p
  | _ => none
/-- the child's place -/
def ixPos (node di : D) : Option Nat := match node, di with
  | .nd _ .lst ds, .im (.int i) => ixN ds.length i
  | .nd _ .tup ds, .im (.int i) => ixN ds.length i
  | _, _ => none
def pIx (r : Nat) (M2 : List Nat) (fp : Sg → R (List Nat)) (fb : Sg → R D) : Sg → R (List Nat) := fun S => (fp S).bind fun p S1 => if r ∈ M2 then .bad else (fb S1).bind fun di S2 => match nodeAt S2 r p with
  | some node => match ixPos node di with
    | some j => .ok (p ++ [j]) S2
    | none => .bad
  | none => .bad
theorem at_append : ∀ (p q : List Nat) (t u : T), t.at p = some u → t.at (p ++ q) = u.at q
  | [], q, t, u, h => by
    have : t = u := by simpa [T.at] using h
    rw [this]; rfl
  | i :: p, q, .im _, u, h => by simp [T.at] at h
  | i :: p, q, .nd a k s dx ts, u, h => by
    simp only [T.at, List.cons_append] at h ⊢
    cases e : ts[i]? with
    | none => rw [e] at h; cases h
    | some v => rw [e] at h; exact at_append p q v u h
theorem nodeAt_some {n : Nat} {A : List (Option T)} {r : Nat} {p : List Nat} {d : D} (h : nodeAt (ers n A) r p = some d) : ∃ t u, A[r]? = some (some t) ∧ t.at p = some u ∧ u.er = d ∧ r < n := by
  unfold nodeAt at h
  split at h
  · rename_i d0 e
    obtain ⟨t, e1, e2, hr⟩ := ers_some e
    rw [← e2, er_at] at h
    cases q : t.at p with
    | none => rw [q] at h; cases h
    | some u => rw [q] at h; exact ⟨t, u, e1, q, by simpa using h, hr⟩
  · cases h
section
variable {g : Gc} {n : Nat} {W : WX} {Γ : Gh} {A A' A'' B : List (Option T)} {σ : L2.St} {H H' : Hp} {t : T} {M M1 M2 M3 : List Nat}
theorem cells_at {p : List Nat} {u : T} (h : t.at p = some u) : ∃ pre post, t.cells g = pre ++ u.cells g ++ post :=
  let ⟨pre, post, h1, _⟩ := cells_put g p t u u h rfl
  ⟨pre, post, h1⟩
theorem Rel.holdAt {r : Nat} {p : List Nat} {a dx : Addr} {k : Kd} {s : Sh} {ts : List T} (Rr : Rel g Γ n A σ H) (e : A[r]? = some (some t)) (h : t.at p = some (.nd a k s dx ts)) : Hd H (kz s k, a, ho g s dx (ts.map T.root)) := by
  obtain ⟨pre, post, q⟩ := cells_at (g := g) h
  exact Rr.hold r (kz s k, a, ho g s dx (ts.map T.root)) ⟨t, e, by rw [q, T.cells]; simp⟩
theorem meanp_var (r : Nat) : MeanP g n W r [] (tVar r) (pVar r) := by
  intro Γ A σ H Q Rr _ h
  unfold pVar at h
  split at h
  · rename_i d e
    obtain ⟨t, e1, e2, hi⟩ := ers_some e
    exact ⟨_, Rr.val r t hi e1, h A H t t Rr (.refl _ _) rfl e1 rfl⟩
  · exact h.elim
theorem meanp_ix {K : PySem.W.Frag} {r : Nat} {tp tb : TE} {fp : Sg → R (List Nat)} {fb : Sg → R D} (hp : MeanP g n W r M1 tp fp) (hb : MeanE g n W M2 tb fb) :
    MeanP g n W r (M1 ++ M2) (tOp (fun x y H Q => rIxL K x y H Q ∨ rIxT K x y H Q) tp tb) (pIx r M2 fp fb) := by
  intro Γ A σ H Q Rr cl h
  refine hp Γ A σ H _ Rr cl.left ?_
  unfold pIx at h
  cases ea : fp (ers n A) with
  | bad => rw [ea] at h; exact h.elim
  | exc c d S => rw [ea] at h; exact h
  | ok p S1 =>
    rw [ea] at h
    dsimp only [Lin.R.bind] at h
    by_cases hm : r ∈ M2
    · rw [if_pos hm] at h; exact h.elim
    · rw [if_neg hm] at h
      intro A1 H1 t u R1 x1 e1 et eu
      refine hb Γ A1 σ H1 _ R1 (cl.right.next x1.toNext Rr.len) ?_
      rw [e1]
      cases eb : fb S1 with
      | bad => rw [eb] at h; exact h.elim
      | exc c d S => rw [eb] at h; exact PostX.of h x1.toNext
      | ok di S2 =>
        rw [eb] at h
        dsimp only [Lin.R.bind] at h
        intro A2 ti H2 R2 x2 e2 d2
        have n2 : n ≤ A2.length := by rw [x2.len]; exact R1.len
        cases en : nodeAt S2 r p with
        | none => rw [en] at h; exact h.elim
        | some node =>
          rw [en] at h
          dsimp only at h
          cases ej : ixPos node di with
          | none => rw [ej] at h; exact h.elim
          | some j =>
            rw [ej] at h
            obtain ⟨t', u', et', eu', ed, hr⟩ := nodeAt_some (by rw [← e2] at en; exact en)
            have : t' = t := by
              rcases x2.slot r hr hm with q | q
              · rw [et', et] at q; simpa using q
              · rw [et'] at q; cases q
            subst this
            have : u' = u := by rw [eu] at eu'; exact (Option.some.inj eu').symm
            subst this
            have R2' := R2.drop n2
            have go : ∀ {a : Addr} {k : Kd} {s : Sh} {dx : Addr} {ts : List T} {i : Int}, u' = .nd a k s dx ts → ixN ts.length i = some j → atI (ts.map T.root) i = (ts[j]?).map T.root ∧ ∀ v, ts[j]? = some v → Q v.root H2 := fun {a k s dx ts i} eu2 hj => by
              refine ⟨?_, fun v hv => ?_⟩
              · unfold atI
                rw [List.length_map, hj]
                simp
              · refine h A2 H2 t' v R2' (x1.trans x2) e2 et' ?_
                rw [at_append p [j] t' u' eu, eu2]
                simp [T.at, hv]
            have ins : ∀ {ts : List T} {i : Int}, ixN ts.length i = some j → ∃ v, ts[j]? = some v := fun {ts i} hj => by
              obtain ⟨_, hlt, _⟩ := ixN_seq hj
              exact ⟨ts[j], List.getElem?_eq_getElem hlt⟩
            unfold ixPos at ej
            split at ej
            · rename_i k ds i
              obtain ⟨a, dx, ts, hu, hds⟩ := er_nd ed
              have hj : ixN ts.length i = some j := by rw [← hds, List.length_map] at ej; exact ej
              obtain ⟨v, hv⟩ := ins hj
              obtain ⟨q1, q2⟩ := go hu hj
              rw [hu, er_im d2]
              exact .inl ⟨a, _, i, v.root, rfl, rfl, SqL.of ((R2'.holdAt et' (by rw [eu, hu])).flat id), by rw [q1, hv]; rfl, q2 v hv⟩
            · rename_i k ds i
              obtain ⟨a, dx, ts, hu, hds⟩ := er_nd ed
              have hj : ixN ts.length i = some j := by rw [← hds, List.length_map] at ej; exact ej
              obtain ⟨v, hv⟩ := ins hj
              obtain ⟨q1, q2⟩ := go hu hj
              rw [hu, er_im d2]
              exact .inr ⟨a, _, i, v.root, rfl, rfl, SqT.of ((R2'.holdAt et' (by rw [eu, hu])).flat id), by rw [q1, hv]; rfl, q2 v hv⟩
            · cases ej
/-! ### a method that changes the node at a path -/
def nodeOk (okS : Sh → Bool) (S : Sg) (r : Nat) (p : List Nat) : Bool := match nodeAt S r p with
  | some (.nd _ s _) => okS s
  | _ => false
def cMutM (okS : Sh → Bool) (r : Nat) (M2 : List Nat) (fp : Sg → R (List Nat)) (fr : Sg → R (List D)) (op : Sh → List D → List D → Option (Sh × List D × D)) : Sg → R D := fun S => (fp S).bind fun p S1 => if r ∈ M2 ∨ nodeOk okS S1 r p = false then .bad else (fr S1).bind fun us S2 =>
  if us.all (fun d => !hasBor r d) then
    match nodeAt ((S2.map (killD r))) r p with
    | some (.nd .own s ds) => match op s ds us with
      | some (s', ds', res) => match (S2.map (killD r))[r]? with
        | some (some d) => .ok res ((S2.map (killD r)).set r (some (d.put p (.nd .own s' ds'))))
        | _ => .bad
      | none => .bad
    | _ => .bad
  else .bad
/-- what a method's rule must give: for an own node at a, its children ts, the arguments us -/
def MuM (g : Gc) (rr : V → List V → Hp → VK → Prop) (op : Sh → List D → List D → Option (Sh × List D × D)) : Prop :=
  ∀ (H : Hp) (a dx : Addr) (s : Sh) (ts us : List T) (s' : Sh) (ds' : List D) (dres : D), Hd H (kz s .own, a, ho g s dx (ts.map T.root)) → op s (ts.map T.er) (us.map T.er) = some (s', ds', dres) →
    ∃ (ts' : List T) (res : T) (dropped : List Cell), (kz s .own = .own ∧ kz s' .own = .own) ∧ ts'.map T.er = ds' ∧ res.er = dres ∧ (cellsL g ts' ++ res.cells g ++ dropped).Perm (cellsL g ts ++ cellsL g us) ∧
      ∀ Q : VK, Q res.root (upd H a (ho g s' dx (ts'.map T.root))) → rr (.ref a) (us.map T.root) H Q
theorem kill_clean {r : Nat} (cl : Clean g n [r] A) : ∀ i c, CellAt g (kill n r A) i c → c.1 ≠ .bor r := fun j c ⟨u, eu, hc⟩ q => by
  obtain ⟨k1, k2⟩ := kill_get eu
  by_cases hj : j < n
  · have := k2 hj
    rw [(hasBor_iff (g := g)).mpr ⟨c, hc, q⟩] at this; cases this
  · exact cl r (by simp) j c (by omega) ⟨u, k1, hc⟩ q
theorem nextM_kill {r : Nat} (h : n ≤ A.length) (x : NextM n M A' A) : NextM n M A' (kill n r A) := ⟨⟨by rw [kill_length]; exact x.len, by
    have : (kill n r A).drop n = A.drop n := by
      unfold kill
      rw [List.drop_append_of_le_length (by simp; omega), List.drop_of_length_le (by simp; omega), List.nil_append]
    rw [this]; exact x.tmp⟩, fun i hi hm => by
  rcases kill_slot (r := r) h hi with q | q
  · rw [q]; exact x.slot i hi hm
  · exact .inr q⟩
theorem mean_mutM {K : PySem.W.Frag} {Tn : String} {r : Nat} {tp : TE} {ta : TA} {fp : Sg → R (List Nat)} {fr : Sg → R (List D)} {rr : V → List V → Hp → VK → Prop} {op : Sh → List D → List D → Option (Sh × List D × D)} (hp : MeanP g n W r M1 tp fp) (ha : MeanA g n W M2 ta fr) (ho : MuM g rr op)
    {okS : Sh → Bool} (hty : ∀ (H : Hp) (k : Kd) (a dx : Addr) (s : Sh) (vs : List V), okS s = true → Hd H (kz s k, a, Lin.ho g s dx vs) → tyV K Tn (.ref a) H) :
    MeanE g n W (M1 ++ M2 ++ [r]) (fun σ H Q => tp σ H fun x H1 => tyV K Tn x H1 ∧ ta σ H1 fun xs H2 => rr x xs H2 Q) (cMutM okS r M2 fp fr op) := by
  intro Γ A σ H Q Rr cl h
  refine hp Γ A σ H _ Rr cl.left.left ?_
  unfold cMutM at h
  cases ea : fp (ers n A) with
  | bad => rw [ea] at h; exact h.elim
  | exc c d S => rw [ea] at h; exact h
  | ok p S1 =>
    rw [ea] at h
    dsimp only [Lin.R.bind] at h
    by_cases hm0 : r ∈ M2 ∨ nodeOk okS S1 r p = false
    · rw [if_pos hm0] at h; exact h.elim
    · rw [if_neg hm0] at h
      obtain ⟨hm, hok⟩ := not_or.mp hm0
      intro A1 H1 t u R1 x1 e1 et eu
      have n1 : n ≤ A1.length := R1.len
      have ty : tyV K Tn u.root H1 := by
        unfold nodeOk at hok
        split at hok
        · rename_i k s ds en
          obtain ⟨t', u', et', eu', ed, hr⟩ := nodeAt_some (by rw [← e1] at en; exact en)
          have : t' = t := by rw [et] at et'; simpa using et'.symm
          subst this
          have : u' = u := by rw [eu] at eu'; exact (Option.some.inj eu').symm
          subst this
          obtain ⟨a, dx, ts, hu, hds⟩ := er_nd ed
          subst hu
          exact hty H1 _ a dx s _ (by simpa using hok) (R1.holdAt et eu)
        · exact absurd rfl hok
      have cl1 := cl.next x1.toNext Rr.len
      -- the args, and then the node again
      have main : ∀ us S2, fr S1 = .ok us S2 → PostE g n W (M1 ++ M2 ++ [r]) Γ A σ Q (if us.all (fun d => !hasBor r d) then
          match nodeAt ((S2.map (killD r))) r p with
          | some (.nd .own s ds) => match op s ds us with
            | some (s', ds', res) => match (S2.map (killD r))[r]? with
              | some (some d) => .ok res ((S2.map (killD r)).set r (some (d.put p (.nd .own s' ds'))))
              | _ => .bad
            | none => .bad
          | _ => .bad
        else .bad) → ∀ (A2 : List (Option T)) (ts2 : List T) (H2 : Hp), Rel g Γ n (A2 ++ ts2.map some) σ H2 → NextM n M2 A1 A2 → ers n A2 = S2 → ts2.map T.er = us → rr u.root (ts2.map T.root) H2 Q := fun us S2 eb h A2 ts2 H2 R2 x2 e2 d2 => by
        have n2 : n ≤ A2.length := by rw [x2.len]; exact n1
        by_cases hb : us.all (fun d => !hasBor r d) = true
        · rw [if_pos hb] at h
          rw [← e2, ← ers_kill n2] at h
          split at h
          · rename_i s ds en
            obtain ⟨t', u', et', eu', ed, hr⟩ := nodeAt_some en
            have et2 := (kill_get et').1
            have : t' = t := by
              rcases x2.slot r hr hm with q | q
              · rw [et2, et] at q; simpa using q
              · rw [et2] at q; cases q
            subst this
            have : u' = u := by rw [eu] at eu'; exact (Option.some.inj eu').symm
            subst this
            obtain ⟨a, dx, ts, hu, hds⟩ := er_nd ed
            subst hu
            split at h
            · rename_i s' ds' res eo
              have R2k : Rel g Γ n (kill n r A2 ++ ts2.map some) σ H2 := by
                have := R2.kill r
                rw [kill_append n2] at this
                exact this
              have hH0 := R2k.holdAt (r := r) (t := t') (by rw [List.getElem?_append_left (by rw [kill_length]; omega)]; exact et') eu
              obtain ⟨ts', res', dropped, ⟨m1, m2⟩, k1, k2, k3, k4⟩ := ho H2 a dx s ts ts2 s' ds' res hH0 (by rw [hds, d2]; exact eo)
              have nbA : ∀ i c, CellAt g (kill n r A2 ++ ts2.map some) i c → c.1 ≠ .bor r := fun i c x => by
                rcases cellAt_append.mp x with x | ⟨_, x⟩
                · exact kill_clean (cl1.right.next x2.toNext n1) i c x
                · intro q
                  obtain ⟨v, hv, hc⟩ := x
                  rw [List.getElem?_map] at hv
                  cases q2 : ts2[i - (kill n r A2).length]? with
                  | none => rw [q2] at hv; cases hv
                  | some w =>
                    rw [q2] at hv
                    have : w = v := by simpa using hv
                    subst this
                    have hw : w.er ∈ us := by rw [← d2]; exact List.mem_map_of_mem (List.mem_of_getElem? q2)
                    have := List.all_eq_true.mp hb _ hw
                    rw [(hasBor_iff (g := g)).mpr ⟨c, hc, q⟩] at this
                    cases this
              have R3 := R2k.mutAt (s' := s') (ts' := ts') (res := res') (by rw [kill_length]; exact n2) et' nbA eu m1 m2 k3
              refine k4 Q ?_
              have ers1 : (ers n (kill n r A2))[r]? = some (some t'.er) := by rw [ers_get hr, et']; rfl
              rw [ers1] at h
              dsimp only at h
              refine h _ res' _ R3 ?_ ?_ k2
              · refine ⟨⟨?_, ?_⟩, fun i hi hmi => ?_⟩
                · rw [List.length_set, kill_length, x2.len, x1.len]
                · rw [List.drop_set_of_lt hr]
                  exact (nextM_kill (r := r) n2 (x1.trans x2)).tmp
                · rw [List.mem_append, not_or] at hmi
                  have : i ≠ r := by have := hmi.2; simpa using this
                  rw [List.getElem?_set_ne (Ne.symm this)]
                  exact (nextM_kill (r := r) n2 (x1.trans x2)).slot i hi hmi.1
              · rw [ers_set hr, Option.map_some, er_put]
                simp only [T.er, erL_eq, k1]
            · exact h.elim
          · exact h.elim
        · rw [if_neg hb] at h; exact h.elim
      cases eb : fr S1 with
      | bad => rw [eb] at h; exact h.elim
      | exc c d S =>
        rw [eb] at h
        exact ⟨ty, ha Γ A1 σ H1 _ R1 cl1.left.right (by rw [e1, eb]; exact PostX.of h x1.toNext)⟩
      | ok us S2 =>
        rw [eb] at h
        dsimp only [Lin.R.bind] at h
        exact ⟨ty, ha Γ A1 σ H1 _ R1 cl1.left.right (by rw [e1, eb]; exact fun A2 ts2 H2 R2 x2 e2 d2 => main us S2 eb h A2 ts2 H2 R2 x2 e2 d2)⟩
end
end Lin
end
section
namespace Lin
open PySem L2
/-! ### what a def means -/
inductive Rc where
  | ok (d : D) (ms : List D)
  | exc (c : Nat) (d : D) (ms : List D)
  | bad
/-- kinds of a result: own and frozen ones -/
def ofD (d : D) : Bool := d.kins.all fun k => k == .own || k == .frz
def kPar : Kd → Kd := fun k => if k = .frz then .frz else .par
structure CallOk (g : Gc) (H : Hp) (mr : List Bool) (ts : List T) : Prop where
  len : ts.length = mr.length
  hold : ∀ c ∈ cellsL g ts, Hd H c
  kind : ∀ (i : Nat) t, ts[i]? = some t → ∀ c ∈ t.cells g, c.1 = .frz ∨ (mr[i]? = some true ∧ c.1 = .own) ∨ (mr[i]? = some false ∧ c.1 = .par)
  nd : (ownsC (cellsL g ts)).Nodup
  sep : ∀ c ∈ cellsL g ts, ∀ d ∈ cellsL g ts, c.1 = .own → d.2.1 = c.2.1 → d.1 = .own
  tab : LamX.Tabs g.T H
/-- those by reference -/
def refs {α : Type} : List Bool → List α → List α
  | true :: mr, x :: xs => x :: refs mr xs
  | false :: mr, _ :: xs => refs mr xs
  | _, _ => []
structure BackOk (g : Gc) (H H' : Hp) (mr : List Bool) (ts : List T) (t : T) (us : List T) : Prop where
  frame : ∀ a o, H a = some o → (∀ ps, o ≠ .tbl ps) → a ∉ ownsC (cellsL g ts) → H' a = some o
  hold : ∀ c ∈ t.cells g ++ cellsL g us, Hd H' c
  kind : ∀ c ∈ t.cells g ++ cellsL g us, c.1 = .own ∨ c.1 = .frz
  nd : (ownsC (t.cells g ++ cellsL g us)).Nodup
  sep : ∀ c ∈ t.cells g ++ cellsL g us, ∀ d ∈ t.cells g ++ cellsL g us, c.1 = .own → d.2.1 = c.2.1 → d.1 = .own
  own : ∀ c ∈ t.cells g ++ cellsL g us, ¬ HTup c.2.2 → c.2.1 ∈ ownsC (cellsL g ts) ∨ Nw H c.2.1 ∨ (c.1 = .frz ∧ ∃ d ∈ cellsL g ts, d.1 = .frz ∧ d.2.1 = c.2.1 ∧ ¬ HTup d.2.2)
  root : us.map T.root = (refs mr ts).map T.root
  tab : LamX.Tabs g.T H'
abbrev FSem := List D → Rc
def spOf (g : Gc) (mr : List Bool) (sem : FSem) : Sp := fun vs H Q E => ∃ ts : List T, vs = ts.map T.root ∧ CallOk g H mr ts ∧
  match sem (ts.map T.er) with
  | .bad => False
  | .ok d ms => ∀ H' (t : T) (us : List T), BackOk g H H' mr ts t us → t.er = d → us.map T.er = ms → Q t.root H'
  | .exc c d ms => ∀ H' (t : T) (us : List T), BackOk g H H' mr ts t us → t.er = d → us.map T.er = ms → E (.ref (g.cl c)) (dictOf t) H'
/-! ### arguments of a call: by value or (a slot) by reference -/
section
variable (g : Gc) (n : Nat) (W : WX)
def PostC (rs : List (Option Nat)) (M : List Nat) (Γ : Gh) (A : List (Option T)) (σ : L2.St) (Q : List V → Hp → Prop) : R (List D) → Prop
  | .ok ds S => ∀ A' (ts : List T) H', Rel g Γ n (A' ++ ts.map some) σ H' → NextM n M A A' → ers n A' = S → ts.map T.er = ds →
      (∀ (i r : Nat), rs[i]? = some (some r) → ∃ t, ts[i]? = some t ∧ σ[r]? = some (some t.root) ∧ A'[r]? = some none ∧ r < n) → Q (ts.map T.root) H'
  | .exc c d S => PostX g n W Γ A c d S σ
  | .bad => False
def MeanC (rs : List (Option Nat)) (M : List Nat) (ta : TA) (f : Sg → R (List D)) : Prop := ∀ Γ A σ H Q, Rel g Γ n A σ H → Clean g n M A → PostC g n W rs M Γ A σ Q (f (ers n A)) → ta σ H Q
end
def cRefs (r : Nat) (fr : Sg → R (List D)) : Sg → R (List D) := fun S => (cMv r S).bind fun d S1 => if ofD d = true then (fr S1).bind fun ds S2 => .ok (d :: ds) S2 else .bad
theorem ofD_iff {g : Gc} {t : T} : ofD t.er = true ↔ ∀ c ∈ t.cells g, c.1 = .own ∨ c.1 = .frz := by
  unfold ofD
  rw [kinds_er g, List.all_eq_true]
  simp only [List.mem_map, forall_exists_index, and_imp, forall_apply_eq_imp_iff₂, Bool.or_eq_true, beq_iff_eq]
section
variable {g : Gc} {n : Nat} {W : WX} {Γ : Gh} {A A' A'' B : List (Option T)} {σ : L2.St} {H H' : Hp} {t : T} {M M1 M2 M3 : List Nat}
theorem meanc_nil : MeanC g n W [] [] tNil cNil := by
  intro Γ A σ H Q Rr cl h
  have := h A [] H (by simpa using Rr) (.refl _ _) rfl rfl (fun i r e => by simp at e)
  exact this
theorem meanc_val {rs : List (Option Nat)} {ta : TE} {tr : TA} {fa : Sg → R D} {fr : Sg → R (List D)} (ha : MeanE g n W M1 ta fa) (hr : MeanC g n W rs M2 tr fr) : MeanC g n W (none :: rs) (M1 ++ M2) (tCons ta tr) (cCons M2 fa fr) := by
  intro Γ A σ H Q Rr cl h
  refine ha Γ A σ H _ Rr cl.left ?_
  unfold cCons at h
  cases ea : fa (ers n A) with
  | bad => rw [ea] at h; exact h.elim
  | exc c d S => rw [ea] at h; exact h
  | ok da S1 =>
    rw [ea] at h
    dsimp only [Lin.R.bind] at h
    intro A1 t1 H1 R1 x1 e1 d1
    by_cases hc : cleanD M2 da = true
    · rw [if_pos hc] at h
      have n1 : n ≤ A1.length := by rw [x1.len]; exact Rr.len
      refine hr Γ (A1 ++ [some t1]) σ H1 _ R1 ((cl.right.next x1.toNext Rr.len).snoc (by rw [d1]; exact hc)) ?_
      rw [ers_append n1, e1]
      cases eb : fr S1 with
      | bad => rw [eb] at h; exact h.elim
      | exc c d S =>
        rw [eb] at h
        intro A2 t2 H2 R2 x2 e2 d2
        obtain ⟨y, z⟩ := x2.left n1
        have n3 : n ≤ (A2.take A1.length).length := by rw [y.len]; exact n1
        rw [z] at R2 e2
        exact h (A2.take A1.length) t2 H2 (R2.mid n3) (x1.toNext.trans y) (by rw [ers_append n3] at e2; exact e2) d2
      | ok ds S2 =>
        rw [eb] at h
        dsimp only [Lin.R.bind] at h
        intro A2 ts H2 R2 x2 e2 d2 hk
        obtain ⟨y, z⟩ := x2.left n1
        have n3 : n ≤ (A2.take A1.length).length := by rw [y.len]; exact n1
        rw [z, List.append_assoc] at R2
        have := h (A2.take A1.length) (t1 :: ts) H2 (by simpa using R2) (x1.trans y) (by rw [z, ers_append n3] at e2; exact e2) (by simp [d1, d2]) (fun i r e => by
          cases i with
          | zero => simp at e
          | succ i =>
            obtain ⟨u, h1, h2, h3, h4⟩ := hk i r (by simpa using e)
            refine ⟨u, by simpa using h1, h2, ?_, h4⟩
            rw [z, List.getElem?_append_left (by omega)] at h3
            exact h3)
        exact this
    · rw [if_neg hc] at h; exact h.elim
theorem meanc_ref {rs : List (Option Nat)} {r : Nat} {tr : TA} {fr : Sg → R (List D)} (hr : MeanC g n W rs M2 tr fr) (hm : r ∉ M2) : MeanC g n W (some r :: rs) ([r] ++ M2) (tCons (tVar r) tr) (cRefs r fr) := by
  intro Γ A σ H Q Rr cl h
  unfold cRefs at h
  show tVar r σ H _
  unfold cMv at h
  split at h
  · rename_i d e
    obtain ⟨t, e1, e2, hi⟩ := ers_some e
    by_cases hb : hasBor r d = true
    · rw [if_pos hb] at h; exact h.elim
    · rw [if_neg hb] at h
      dsimp only [Lin.R.bind] at h
      refine ⟨_, Rr.val r t hi e1, ?_⟩
      have hb' : hasBor r t.er = false := by rw [e2]; simpa using hb
      have e3 : (kill n r A)[r]? = some (some t) := by
        unfold kill
        rw [List.getElem?_append_left (by simp; have := Rr.len; omega), List.getElem?_map, List.getElem?_take_of_lt hi, e1]
        show some (if hasBor r t.er then none else some t) = _
        rw [hb']; rfl
      have R2 := (Rr.kill r).move hi e3 (kill_clean cl.left)
      have nK : n ≤ ((kill n r A).set r none).length := by rw [List.length_set, kill_length]; exact Rr.len
      have x1 : NextM n [r] A ((kill n r A).set r none) := by
        refine ⟨⟨by rw [List.length_set, kill_length], ?_⟩, fun j hj hm => ?_⟩
        · rw [List.drop_set_of_lt hi]
          exact (nextM_kill (r := r) (M := []) Rr.len (.refl _ _)).tmp
        · have : j ≠ r := by simpa using hm
          rw [List.getElem?_set_ne (Ne.symm this)]
          exact kill_slot Rr.len hj
      by_cases hof : ofD d = true
      · rw [if_pos hof] at h
        have hk := (ofD_iff (g := g)).mp (by rw [e2]; exact hof)
        have cl2 : Clean g n M2 ((kill n r A).set r none ++ [some t]) := fun q hq i c hi2 x => by
          rcases cellAt_snoc.mp x with x | ⟨_, x⟩
          · exact (cl.right.next x1.toNext Rr.len) q hq i c hi2 x
          · intro z
            rcases hk c x with y | y <;> (rw [y] at z; cases z)
        refine hr Γ _ σ H _ R2 cl2 ?_
        have eS : ers n ((kill n r A).set r none ++ [some t]) = ((ers n A).map (killD r)).set r none := by
          rw [ers_append nK, ers_set hi, ers_kill Rr.len]; rfl
        rw [eS]
        cases eb : fr (((ers n A).map (killD r)).set r none) with
        | bad => rw [eb] at h; exact h.elim
        | exc c d S =>
          rw [eb] at h
          intro A2 t2 H2 R3 x2 e5 d2
          obtain ⟨y, z⟩ := x2.left nK
          have n3 : n ≤ (A2.take ((kill n r A).set r none).length).length := by rw [y.len]; exact nK
          rw [z] at R3 e5
          exact h _ t2 H2 (R3.mid n3) (x1.toNext.trans y) (by rw [ers_append n3] at e5; exact e5) d2
        | ok ds S2 =>
          rw [eb] at h
          dsimp only [Lin.R.bind] at h
          intro A2 ts H2 R3 x2 e5 d2 hkk
          obtain ⟨y, z⟩ := x2.left nK
          have hl : ((kill n r A).set r none).length = A.length := by rw [List.length_set, kill_length]
          have n3 : n ≤ (A2.take ((kill n r A).set r none).length).length := by rw [y.len]; exact nK
          have hrA : r < A.length := by have := Rr.len; omega
          have slr : (A2.take ((kill n r A).set r none).length)[r]? = some none := by
            rcases y.slot r hi hm with q | q
            · rw [q, List.getElem?_set_self (by rw [kill_length]; exact hrA)]
            · exact q
          rw [z, List.append_assoc] at R3
          have := h (A2.take ((kill n r A).set r none).length) (t :: ts) H2 (by simpa using R3) (x1.trans y) (by rw [z, ers_append n3] at e5; exact e5) (by simp [e2, d2]) (fun i r' e => by
            cases i with
            | zero =>
              have : r = r' := by simpa using e
              subst this
              exact ⟨t, rfl, Rr.val r t hi e1, slr, hi⟩
            | succ i =>
              obtain ⟨u, h1, h2, h3, h4⟩ := hkk i r' (by simpa using e)
              refine ⟨u, by simpa using h1, h2, ?_, h4⟩
              rw [z, List.getElem?_append_left (by rw [y.len, hl]; have := Rr.len; omega)] at h3
              exact h3)
          exact this
      · rw [if_neg hof] at h; exact h.elim
  · exact h.elim
end
end Lin
end
section
namespace Lin
open PySem L2
def setAll {α : Type} : List α → List Nat → List α → List α
  | A, r :: rs, u :: us => setAll (A.set r u) rs us
  | A, _, _ => A
theorem setAll_length {α : Type} : ∀ (A : List α) (rs : List Nat) (us : List α), (setAll A rs us).length = A.length
  | A, [], us => by cases us <;> rfl
  | A, _ :: _, [] => rfl
  | A, r :: rs, u :: us => by rw [setAll, setAll_length, List.length_set]
theorem setAll_out {α : Type} : ∀ (A : List α) (rs : List Nat) (us : List α) (i : Nat), i ∉ rs → (setAll A rs us)[i]? = A[i]?
  | A, [], us, i, _ => by cases us <;> rfl
  | A, _ :: _, [], i, _ => rfl
  | A, r :: rs, u :: us, i, h => by
    rw [List.mem_cons, not_or] at h
    rw [setAll, setAll_out _ rs us i h.2, List.getElem?_set_ne (Ne.symm h.1)]
theorem setAll_in {α : Type} : ∀ (A : List α) (rs : List Nat) (us : List α) (k i : Nat) (u : α), rs.Nodup → rs[k]? = some i → us[k]? = some u → i < A.length → (setAll A rs us)[i]? = some u
  | A, [], us, k, i, u, _, h, _, _ => by simp at h
  | A, _ :: _, [], k, i, u, _, _, h, _ => by simp at h
  | A, r :: rs, v :: us, 0, i, u, nd, h1, h2, hi => by
    simp at h1 h2
    subst h1; subst h2
    rw [setAll, setAll_out _ rs us r (List.nodup_cons.mp nd).1, List.getElem?_set_self hi]
  | A, r :: rs, v :: us, k + 1, i, u, nd, h1, h2, hi => by
    rw [setAll]
    exact setAll_in _ rs us k i u (List.nodup_cons.mp nd).2 (by simpa using h1) (by simpa using h2) (by rw [List.length_set]; exact hi)
theorem setAll_map {α β : Type} (f : α → β) : ∀ (A : List α) (rs : List Nat) (us : List α), (setAll A rs us).map f = setAll (A.map f) rs (us.map f)
  | A, [], us => by cases us <;> rfl
  | A, _ :: _, [] => rfl
  | A, r :: rs, u :: us => by
    rw [setAll, setAll_map f _ rs us, List.map_set]
    rfl
theorem setAll_take {α : Type} {n : Nat} : ∀ (A : List α) (rs : List Nat) (us : List α), (∀ r ∈ rs, r < n) → (setAll A rs us).take n = setAll (A.take n) rs us
  | A, [], us, _ => by cases us <;> rfl
  | A, _ :: _, [], _ => rfl
  | A, r :: rs, u :: us, h => by
    rw [setAll, setAll_take _ rs us (fun q hq => h q (List.mem_cons_of_mem _ hq)), List.take_set]
    rfl
theorem setAll_drop {α : Type} {n : Nat} : ∀ (A : List α) (rs : List Nat) (us : List α), (∀ r ∈ rs, r < n) → (setAll A rs us).drop n = A.drop n
  | A, [], us, _ => by cases us <;> rfl
  | A, _ :: _, [], _ => rfl
  | A, r :: rs, u :: us, h => by
    rw [setAll, setAll_drop _ rs us (fun q hq => h q (List.mem_cons_of_mem _ hq)), List.drop_set_of_lt (h r List.mem_cons_self)]
theorem nodup_flat {α β : Type} {f : α → List β} : ∀ {L : List α} {i j : Nat} {a b : α} {x : β}, (L.flatMap f).Nodup → L[i]? = some a → L[j]? = some b → x ∈ f a → x ∈ f b → i = j
  | [], i, j, a, b, x, _, h, _, _, _ => by simp at h
  | y :: L, 0, 0, a, b, x, _, _, _, _, _ => rfl
  | y :: L, 0, j + 1, a, b, x, nd, h1, h2, ha, hb => by
    rw [List.flatMap_cons] at nd
    simp at h1; subst h1
    exact absurd rfl ((List.nodup_append.mp nd).2.2 x ha x (List.mem_flatMap.mpr ⟨b, List.mem_of_getElem? (by simpa using h2), hb⟩))
  | y :: L, i + 1, 0, a, b, x, nd, h1, h2, ha, hb => by
    rw [List.flatMap_cons] at nd
    simp at h2; subst h2
    exact absurd rfl ((List.nodup_append.mp nd).2.2 x hb x (List.mem_flatMap.mpr ⟨a, List.mem_of_getElem? (by simpa using h1), ha⟩))
  | y :: L, i + 1, j + 1, a, b, x, nd, h1, h2, ha, hb => by
    rw [List.flatMap_cons] at nd
    rw [nodup_flat (i := i) (j := j) (List.nodup_append.mp nd).2.1 (by simpa using h1) (by simpa using h2) ha hb]
theorem refs_get {α : Type} : ∀ (rs : List (Option Nat)) (ts : List α) (k r : Nat), (rs.filterMap id)[k]? = some r → ts.length = rs.length → ∃ (i : Nat) (t : α), rs[i]? = some (some r) ∧ ts[i]? = some t ∧ (refs (rs.map Option.isSome) ts)[k]? = some t
  | [], ts, k, r, h, _ => by simp at h
  | none :: rs, [], k, r, _, h => by simp at h
  | none :: rs, x :: ts, k, r, h, hl => by
    obtain ⟨i, t, h1, h2, h3⟩ := refs_get rs ts k r (by simpa using h) (by simpa using hl)
    exact ⟨i + 1, t, by simpa using h1, by simpa using h2, by simpa [refs] using h3⟩
  | some q :: rs, [], k, r, _, h => by simp at h
  | some q :: rs, x :: ts, 0, r, h, hl => by
    refine ⟨0, x, ?_, rfl, by simp [refs]⟩
    simpa using h
  | some q :: rs, x :: ts, k + 1, r, h, hl => by
    obtain ⟨i, t, h1, h2, h3⟩ := refs_get rs ts k r (by simpa using h) (by simpa using hl)
    exact ⟨i + 1, t, by simpa using h1, by simpa using h2, by simpa [refs] using h3⟩
theorem refs_length {α : Type} : ∀ (rs : List (Option Nat)) (ts : List α), ts.length = rs.length → (refs (rs.map Option.isSome) ts).length = (rs.filterMap id).length
  | [], [], _ => rfl
  | [], _ :: _, h => by simp at h
  | _ :: _, [], h => by simp at h
  | none :: rs, x :: ts, h => by simpa [refs] using refs_length rs ts (by simpa using h)
  | some q :: rs, x :: ts, h => by simpa [refs] using refs_length rs ts (by simpa using h)
/-- the arguments as the callee sees them -/
def argsT : List (Option Nat) → List T → List T
  | some _ :: rs, t :: ts => t :: argsT rs ts
  | none :: rs, t :: ts => t.mk kPar :: argsT rs ts
  | _, _ => []
def argsD : List (Option Nat) → List D → List D
  | some _ :: rs, t :: ts => t :: argsD rs ts
  | none :: rs, t :: ts => t.mk kPar :: argsD rs ts
  | _, _ => []
theorem argsT_er : ∀ (rs : List (Option Nat)) (ts : List T), (argsT rs ts).map T.er = argsD rs (ts.map T.er)
  | [], [] => rfl
  | [], _ :: _ => rfl
  | none :: _, [] => rfl
  | some _ :: _, [] => rfl
  | some _ :: rs, t :: ts => by simp [argsT, argsD, argsT_er rs ts]
  | none :: rs, t :: ts => by simp [argsT, argsD, argsT_er rs ts, er_mk]
theorem argsT_root : ∀ (rs : List (Option Nat)) (ts : List T), ts.length = rs.length → (argsT rs ts).map T.root = ts.map T.root
  | [], [], _ => rfl
  | [], _ :: _, h => by simp at h
  | none :: _, [], h => by simp at h
  | some _ :: _, [], h => by simp at h
  | some _ :: rs, t :: ts, h => by simp [argsT, argsT_root rs ts (by simpa using h)]
  | none :: rs, t :: ts, h => by simp [argsT, argsT_root rs ts (by simpa using h), root_mk]
theorem argsT_length : ∀ (rs : List (Option Nat)) (ts : List T), ts.length = rs.length → (argsT rs ts).length = rs.length
  | [], [], _ => rfl
  | [], _ :: _, h => by simp at h
  | none :: _, [], h => by simp at h
  | some _ :: _, [], h => by simp at h
  | some _ :: rs, t :: ts, h => by simp [argsT, argsT_length rs ts (by simpa using h)]
  | none :: rs, t :: ts, h => by simp [argsT, argsT_length rs ts (by simpa using h)]
theorem argsT_get : ∀ (rs : List (Option Nat)) (ts : List T) (i : Nat) (u : T), ts.length = rs.length → (argsT rs ts)[i]? = some u → ∃ t, ts[i]? = some t ∧ ((∃ r, rs[i]? = some (some r) ∧ u = t) ∨ (rs[i]? = some none ∧ u = t.mk kPar))
  | [], [], i, u, _, h => by simp [argsT] at h
  | [], _ :: _, i, u, h, _ => by simp at h
  | none :: _, [], i, u, h, _ => by simp at h
  | some _ :: _, [], i, u, h, _ => by simp at h
  | some r :: rs, t :: ts, 0, u, _, h => ⟨t, rfl, .inl ⟨r, rfl, by simpa [argsT] using h.symm⟩⟩
  | none :: rs, t :: ts, 0, u, _, h => ⟨t, rfl, .inr ⟨rfl, by simpa [argsT] using h.symm⟩⟩
  | some r :: rs, t :: ts, i + 1, u, hl, h => by
    obtain ⟨v, h1, h2⟩ := argsT_get rs ts i u (by simpa using hl) (by simpa [argsT] using h)
    exact ⟨v, by simpa using h1, by simpa using h2⟩
  | none :: rs, t :: ts, i + 1, u, hl, h => by
    obtain ⟨v, h1, h2⟩ := argsT_get rs ts i u (by simpa using hl) (by simpa [argsT] using h)
    exact ⟨v, by simpa using h1, by simpa using h2⟩
theorem kPar_own (k : Kd) : kPar k ≠ .own := by
  unfold kPar
  split <;> (intro h; cases h)
theorem argsT_owns (g : Gc) : ∀ (rs : List (Option Nat)) (ts : List T), ts.length = rs.length → (ownsC (cellsL g (argsT rs ts))).Sublist (ownsC (cellsL g ts))
  | [], [], _ => List.Sublist.refl _
  | [], _ :: _, h => by simp at h
  | none :: _, [], h => by simp at h
  | some _ :: _, [], h => by simp at h
  | some _ :: rs, t :: ts, h => by
    simp only [argsT, cellsL, ownsC_append]
    exact List.Sublist.append (List.Sublist.refl _) (argsT_owns g rs ts (by simpa using h))
  | none :: rs, t :: ts, h => by
    simp only [argsT, cellsL, ownsC_append]
    have : ownsC ((t.mk kPar).cells g) = [] := owns_none fun c hc => by
      rw [cells_mk g _ (by first | rfl | decide)] at hc
      obtain ⟨d, _, rfl⟩ := List.mem_map.mp hc
      exact kPar_own d.1
    rw [this, List.nil_append]
    exact (argsT_owns g rs ts (by simpa using h)).trans (List.sublist_append_right _ _)
theorem mem_cellsL {g : Gc} {ts : List T} {c : Cell} (h : c ∈ cellsL g ts) : ∃ (i : Nat) (t : T), ts[i]? = some t ∧ c ∈ t.cells g := by
  rw [cellsL_eq, List.mem_flatMap] at h
  obtain ⟨t, ht, hc⟩ := h
  obtain ⟨i, hi, e⟩ := List.getElem_of_mem ht
  exact ⟨i, t, by rw [List.getElem?_eq_getElem hi, e], hc⟩
theorem cellsL_mem {g : Gc} {ts : List T} {c : Cell} {i : Nat} {t : T} (h : ts[i]? = some t) (hc : c ∈ t.cells g) : c ∈ cellsL g ts := by
  rw [cellsL_eq, List.mem_flatMap]
  exact ⟨t, List.mem_of_getElem? h, hc⟩
/-- an own cell of the arguments is one of the temps' -/
theorem mem_args {g : Gc} {rs : List (Option Nat)} {ts : List T} (hl : ts.length = rs.length) {c : Cell} (hc : c ∈ cellsL g (argsT rs ts)) (k : c.1 = .own) : ∃ (i : Nat) (t : T) (d : Cell), ts[i]? = some t ∧ d ∈ t.cells g ∧ d = c := by
  obtain ⟨i, u, hu, hcu⟩ := mem_cellsL hc
  obtain ⟨t, ht, ⟨r, h1, rfl⟩ | ⟨h1, rfl⟩⟩ := argsT_get rs ts i u hl hu
  · exact ⟨i, u, c, ht, hcu, rfl⟩
  · rw [cells_mk g _ (by first | rfl | decide)] at hcu
    obtain ⟨d, hd, rfl⟩ := List.mem_map.mp hcu
    exact absurd k (kPar_own _)
section
variable {g : Gc} {n : Nat} {W : WX} {Γ : Gh} {A A' A'' B : List (Option T)} {σ : L2.St} {H H' : Hp} {t : T} {M M1 M2 M3 : List Nat}
theorem Rel.callOk {rs : List (Option Nat)} {ts : List T} (Rr : Rel g Γ n (A ++ ts.map some) σ H) (hn : n ≤ A.length) (hl : ts.length = rs.length) (hof : ∀ (i r : Nat) t, rs[i]? = some (some r) → ts[i]? = some t → ofD t.er = true) :
    CallOk g H (rs.map Option.isSome) (argsT rs ts) := by
  have atB : ∀ {i t c}, ts[i]? = some t → c ∈ t.cells g → CellAt g (A ++ ts.map some) (A.length + i) c := fun {i t c} h hc => cellAt_append.mpr (.inr ⟨by omega, t, by rw [Nat.add_sub_cancel_left, List.getElem?_map, h]; rfl, hc⟩)
  have src : ∀ c ∈ cellsL g (argsT rs ts), ∃ (i : Nat) (t : T) (d : Cell), ts[i]? = some t ∧ d ∈ t.cells g ∧ d.2 = c.2 ∧ (((∃ r, rs[i]? = some (some r)) ∧ c.1 = d.1) ∨ (rs[i]? = some none ∧ c.1 = kPar d.1)) := fun c hc => by
    obtain ⟨i, u, hu, hcu⟩ := mem_cellsL hc
    obtain ⟨t, ht, ⟨r, h1, rfl⟩ | ⟨h1, rfl⟩⟩ := argsT_get rs ts i u hl hu
    · exact ⟨i, u, c, ht, hcu, rfl, .inl ⟨⟨r, h1⟩, rfl⟩⟩
    · rw [cells_mk g _ (by first | rfl | decide)] at hcu
      obtain ⟨d, hd, rfl⟩ := List.mem_map.mp hcu
      exact ⟨i, t, d, ht, hd, rfl, .inr ⟨h1, rfl⟩⟩
  refine ⟨by rw [argsT_length rs ts hl, List.length_map], fun c hc => ?_, fun i u hu c hc => ?_, ?_, fun c hc d hd hown hadr => ?_, Rr.tab⟩
  · obtain ⟨i, t, d, ht, hd, e, q⟩ := src c hc
    refine (Rr.hold _ d (atB ht hd)).to e fun k => ?_
    rcases q with ⟨_, q⟩ | ⟨_, q⟩
    · rw [← q]; exact k
    · rw [q] at k; exact absurd k (kPar_own _)
  · obtain ⟨t, ht, ⟨r, h1, rfl⟩ | ⟨h1, rfl⟩⟩ := argsT_get rs ts i u hl hu
    · rcases (ofD_iff (g := g)).mp (hof i r u h1 ht) c hc with z | z
      · exact .inr (.inl ⟨by rw [List.getElem?_map, h1]; rfl, z⟩)
      · exact .inl z
    · rw [cells_mk g _ (by first | rfl | decide)] at hc
      obtain ⟨d, hd, rfl⟩ := List.mem_map.mp hc
      by_cases z : d.1 = .frz
      · exact .inl (by simp [kPar, z])
      · exact .inr (.inr ⟨by rw [List.getElem?_map, h1]; rfl, by simp [kPar, z]⟩)
  · have := Rr.ndB hn
    rw [flat_owns] at this
    exact (argsT_owns g rs ts hl).nodup this
  · obtain ⟨i, t, c', ht, hc', ec, hk⟩ := src c hc
    obtain ⟨j, u, d', hu, hd', ed, hk'⟩ := src d hd
    have oc : c'.1 = .own := by
      rcases hk with ⟨_, z⟩ | ⟨_, z⟩
      · rw [← z]; exact hown
      · exact absurd (z ▸ hown) (kPar_own _)
    rcases Rr.sep _ _ c' d' (atB ht hc') (atB hu hd') oc (by rw [ed, ec]; exact hadr) with ⟨e, z⟩ | ⟨_, z⟩
    · have : i = j := by omega
      subst this
      rcases hk' with ⟨_, z'⟩ | ⟨z1, _⟩
      · rw [z']; exact z
      · rcases hk with ⟨⟨r, z2⟩, _⟩ | ⟨_, z2⟩
        · rw [z1] at z2; cases z2
        · exact absurd (z2 ▸ hown) (kPar_own _)
    · have := Rr.lab _ _ _ (atB hu hd') z
      omega
/-- behind the call -/
theorem Rel.back {rs : List (Option Nat)} {ts us : List T} (Rr : Rel g Γ n (A ++ ts.map some) σ H) (hn : n ≤ A.length) (hl : ts.length = rs.length) (hnd : (rs.filterMap id).Nodup)
    (hk : ∀ (i r : Nat), rs[i]? = some (some r) → ∃ t, ts[i]? = some t ∧ σ[r]? = some (some t.root) ∧ A[r]? = some none ∧ r < n)
    (b : BackOk g H H' (rs.map Option.isSome) (argsT rs ts) t us) : Rel g Γ n (setAll A (rs.filterMap id) (us.map some) ++ [some t]) σ H' := by
  have atB : ∀ {i t c}, ts[i]? = some t → c ∈ t.cells g → CellAt g (A ++ ts.map some) (A.length + i) c := fun {i t c} h hc => cellAt_append.mpr (.inr ⟨by omega, t, by rw [Nat.add_sub_cancel_left, List.getElem?_map, h]; rfl, hc⟩)
  have atA : ∀ {i c}, CellAt g A i c → CellAt g (A ++ ts.map some) i c := fun h => cellAt_left h
  have slots : ∀ {i}, i ∈ rs.filterMap id → i < n := fun {i} h => by
    obtain ⟨o, ho, e⟩ := List.mem_filterMap.mp h
    have e : o = some i := e
    subst e
    obtain ⟨j, hj, ej⟩ := List.getElem_of_mem ho
    obtain ⟨_, _, _, _, q⟩ := hk j i (by rw [List.getElem?_eq_getElem hj, ej])
    exact q
  have ulen : us.length = (rs.filterMap id).length := by
    have := congrArg List.length b.root
    rw [List.length_map, List.length_map] at this
    rw [this]
    have q : (argsT rs ts).length = rs.length := argsT_length rs ts hl
    exact refs_length rs (argsT rs ts) q
  have src : ∀ c ∈ cellsL g (argsT rs ts), ∃ i d, CellAt g (A ++ ts.map some) (A.length + i) d ∧ d.2 = c.2 ∧ (c.1 = d.1 ∨ c.1 = kPar d.1) := fun c hc => by
    obtain ⟨i, u, hu, hcu⟩ := mem_cellsL hc
    obtain ⟨t, ht, ⟨r, h1, rfl⟩ | ⟨h1, rfl⟩⟩ := argsT_get rs ts i u hl hu
    · exact ⟨i, c, atB ht hcu, rfl, .inl rfl⟩
    · rw [cells_mk g _ (by first | rfl | decide)] at hcu
      obtain ⟨d, hd, rfl⟩ := List.mem_map.mp hcu
      exact ⟨i, d, atB ht hd, rfl, .inr rfl⟩
  have ownsrc : ∀ {a}, a ∈ ownsC (cellsL g (argsT rs ts)) → ∃ i d, CellAt g (A ++ ts.map some) (A.length + i) d ∧ d.1 = .own ∧ d.2.1 = a := fun {a} h => by
    obtain ⟨c, hc, k1, k2⟩ := mem_ownsC.mp h
    obtain ⟨i, d, x, e, z⟩ := src c hc
    refine ⟨i, d, x, ?_, by rw [e]; exact k2⟩
    rcases z with z | z
    · rw [← z]; exact k1
    · exact absurd (z ▸ k1) (kPar_own _)
  -- what stands in the slots is not changed by the call
  have notown : ∀ {i c}, CellAt g A i c → c.2.1 ∉ ownsC (cellsL g (argsT rs ts)) := fun {i c} x h => by
    obtain ⟨j, d, y, k, e⟩ := ownsrc h
    have := x.lt
    rcases Rr.sep _ i d c y (atA x) k e.symm with ⟨z, _⟩ | ⟨_, z⟩
    · omega
    · have := Rr.lab _ _ _ (atA x) z
      omega
  have split : ∀ {i c}, CellAt g (setAll A (rs.filterMap id) (us.map some) ++ [some t]) i c → (CellAt g A i c ∧ i ∉ rs.filterMap id) ∨ (∃ k u, (t :: us)[k]? = some u ∧ c ∈ u.cells g ∧ ((k = 0 ∧ i = A.length) ∨ ∃ k', k = k' + 1 ∧ (rs.filterMap id)[k']? = some i ∧ i < A.length)) := fun {i c} x => by
    rcases cellAt_snoc.mp x with x | ⟨e, x⟩
    · by_cases hi : i ∈ rs.filterMap id
      · obtain ⟨k, hk', ek⟩ := List.getElem_of_mem hi
        have hku : k < us.length := by omega
        obtain ⟨u, eu, hu⟩ := x
        have := setAll_in A (rs.filterMap id) (us.map some) k i (some us[k]) hnd (by rw [List.getElem?_eq_getElem hk', ek]) (by rw [List.getElem?_map, List.getElem?_eq_getElem hku]; rfl) (Nat.lt_of_lt_of_le (slots hi) hn)
        rw [this] at eu
        have : us[k] = u := by simpa using eu
        exact .inr ⟨k + 1, u, by simp [← this, List.getElem?_eq_getElem hku], hu, .inr ⟨k, rfl, by rw [List.getElem?_eq_getElem hk', ek], Nat.lt_of_lt_of_le (slots hi) hn⟩⟩
      · obtain ⟨u, eu, hu⟩ := x
        rw [setAll_out _ _ _ _ hi] at eu
        exact .inl ⟨⟨u, eu, hu⟩, hi⟩
    · exact .inr ⟨0, t, rfl, x, .inl ⟨rfl, by rw [e, setAll_length]⟩⟩
  have inb : ∀ {k : Nat} {u : T} {c : Cell}, (t :: us)[k]? = some u → c ∈ u.cells g → c ∈ t.cells g ++ cellsL g us := fun {k u c} h hc => by
    have : c ∈ cellsL g (t :: us) := cellsL_mem h hc
    simpa [cellsL] using this
  have flat : ((t :: us).flatMap fun u => ownsC (u.cells g)).Nodup := by
    have e : ((t :: us).flatMap fun u => ownsC (u.cells g)) = ownsC (t.cells g ++ cellsL g us) := by
      have : ∀ l : List T, (l.flatMap fun u => ownsC (u.cells g)) = ownsC (cellsL g l) := fun l => by
        induction l with
        | nil => rfl
        | cons x r ih => rw [List.flatMap_cons, cellsL, ownsC_append, ih]
      rw [this]; rfl
    rw [e]; exact b.nd
  have newA : ∀ {j : Nat} {c d : Cell}, CellAt g A j d → c ∈ t.cells g ++ cellsL g us → c.1 = .own → d.2.1 ≠ c.2.1 := fun {j c d} x hc k e => by
    rcases b.own c hc (mem_ntup hc k) with z | z | ⟨z, _⟩
    · exact notown x (by rw [e]; exact z)
    · exact Nw.neD (by rw [e]; exact z) (Rr.hold j d (atA x)) (cellAt_sane x)
    · rw [k] at z; cases z
  refine ⟨by rw [List.length_append, setAll_length]; simp; omega, Rr.slen, ?_, ?_, ?_, ?_, ?_, ?_, ?_, ?_, Rr.pin, b.tab, fun a p ea => ?_⟩
  rotate_right
  · obtain ⟨e1, e2⟩ := Rr.lck a p ea
    refine ⟨b.frame a _ e1 (fun ps z => nomatch z) fun z => ?_, e2⟩
    obtain ⟨c, hc, k1, k2⟩ := mem_ownsC.mp z
    obtain ⟨i, w, d, hd, q1, q2⟩ := mem_args hl hc k1
    have := (Rr.hold (A.length + i) d (cellAt_append.mpr (.inr ⟨by omega, w, by rw [Nat.add_sub_cancel_left, List.getElem?_map, hd]; rfl, q1⟩))).own (q2 ▸ k1)
    rw [q2, k2, e1] at this
    have hs := cells_sane g w d q1
    rw [q2] at hs
    exact hs.2.2 _ _ (Option.some.inj this).symm e2
  · intro i u hi e
    rw [List.getElem?_append_left (by rw [setAll_length]; omega)] at e
    by_cases hm : i ∈ rs.filterMap id
    · obtain ⟨k, hk', ek⟩ := List.getElem_of_mem hm
      have hki : (rs.filterMap id)[k]? = some i := by rw [List.getElem?_eq_getElem hk', ek]
      have hku : k < us.length := by omega
      have := setAll_in A (rs.filterMap id) (us.map some) k i (some us[k]) hnd hki (by rw [List.getElem?_map, List.getElem?_eq_getElem hku]; rfl) (by omega)
      rw [this] at e
      have eu : us[k] = u := by simpa using e
      obtain ⟨j, w, h1, h2, h3⟩ := refs_get rs (argsT rs ts) k i hki (argsT_length rs ts hl)
      obtain ⟨v, hv, hs, _⟩ := hk j i h1
      have hroot : u.root = w.root := by
        have := congrArg (fun l => l[k]?) b.root
        simp only [List.getElem?_map] at this
        rw [List.getElem?_eq_getElem hku, eu, h3] at this
        simpa using this
      obtain ⟨v', hv', ⟨r, _, z⟩ | ⟨z, _⟩⟩ := argsT_get rs ts j w hl h2
      · rw [hv] at hv'
        have : v = v' := by simpa using hv'
        subst this
        rw [hs, hroot, z]
      · rw [h1] at z; cases z
    · rw [setAll_out _ _ _ _ hm] at e
      exact Rr.val i u hi (by rw [List.getElem?_append_left (by omega)]; exact e)
  · intro i c x
    rcases split x with ⟨x, _⟩ | ⟨k, u, hu, hc, _⟩
    · exact (Rr.hold i c (atA x)).extN (cellAt_sane x) fun o e k => b.frame _ o e k (notown x)
    · exact b.hold c (inb hu hc)
  · intro i c r x q
    rcases split x with ⟨x, _⟩ | ⟨k, u, hu, hc, _⟩
    · exact Rr.lab i c r (atA x) q
    · rcases b.kind c (inb hu hc) with z | z <;> (rw [z] at q; cases q)
  · intro i u e
    rcases snoc_get e with ⟨hi, e⟩ | ⟨_, e⟩
    · by_cases hm : i ∈ rs.filterMap id
      · obtain ⟨k, hk', ek⟩ := List.getElem_of_mem hm
        have hku : k < us.length := by omega
        have := setAll_in A (rs.filterMap id) (us.map some) k i (some us[k]) hnd (by rw [List.getElem?_eq_getElem hk', ek]) (by rw [List.getElem?_map, List.getElem?_eq_getElem hku]; rfl) (by rw [setAll_length] at hi; exact hi)
        rw [this] at e
        have eu : us[k] = u := by simpa using e
        rw [← eu]
        have hs : (us[k].cells g).Sublist (t.cells g ++ cellsL g us) := (at_sub (List.getElem?_eq_getElem hku)).trans (List.sublist_append_right _ _)
        exact (owns_sublist hs).nodup b.nd
      · rw [setAll_out _ _ _ _ hm] at e
        exact Rr.nd i u (by rw [List.getElem?_append_left (List.getElem?_eq_some_iff.mp e).1]; exact e)
    · rw [e]
      exact (owns_sublist (List.sublist_append_left _ _)).nodup b.nd
  · intro i j c d x y hown hadr
    rcases split x with ⟨x, hxi⟩ | ⟨k, u, hu, hc, hpos⟩
    · rcases split y with ⟨y, hyj⟩ | ⟨l, v, hv, hd, hpos'⟩
      · exact Rr.sep i j c d (atA x) (atA y) hown hadr
      · exfalso
        by_cases ntd : HTup d.2.2
        · exact Hd.clash ((Rr.hold i c (atA x)).extN (cellAt_sane x) fun o e k => b.frame _ o e k (notown x)) hown (cellAt_ntup x hown) (b.hold d (inb hv hd)) hadr ntd
        rcases b.own d (inb hv hd) ntd with z | z | ⟨_, e, he, k1, k2, _⟩
        · exact notown x (by rw [← hadr]; exact z)
        · exact Nw.neD (by rw [← hadr]; exact z) (Rr.hold i c (atA x)) (cellAt_sane x)
        · obtain ⟨m, e', y', q1, q2⟩ := src e he
          have fr : e'.1 = .frz := by
            rcases q2 with q2 | q2
            · rw [← q2]; exact k1
            · have : kPar e'.1 = .frz := by rw [← q2]; exact k1
              unfold kPar at this
              by_cases z : e'.1 = .frz
              · exact z
              · rw [if_neg z] at this; cases this
          rcases Rr.sep i _ c e' (atA x) y' hown (by rw [q1, k2]; exact hadr) with ⟨z, _⟩ | ⟨_, z⟩
          · have := x.lt; omega
          · rw [fr] at z; cases z
    · rcases split y with ⟨y, hyj⟩ | ⟨l, v, hv, hd, hpos'⟩
      · exact absurd hadr (newA y (inb hu hc) hown)
      · have od := b.sep c (inb hu hc) d (inb hv hd) hown hadr
        have : k = l := nodup_flat flat hu hv (mem_ownsC.mpr ⟨c, hc, hown, rfl⟩) (mem_ownsC.mpr ⟨d, hd, od, hadr⟩)
        subst this
        refine .inl ⟨?_, od⟩
        rcases hpos with ⟨h0, h1⟩ | ⟨k', h0, h1, _⟩
        · rcases hpos' with ⟨_, h2⟩ | ⟨k'', h2, _⟩
          · rw [h1, h2]
          · omega
        · rcases hpos' with ⟨h2, _⟩ | ⟨k'', h2, h3, _⟩
          · omega
          · have : k' = k'' := by omega
            subst this
            rw [h1] at h3
            exact Option.some.inj h3
  · intro a o h1 h3 h2
    refine b.frame a o (Rr.frame a o h1 h3 h2) h3 fun hm => ?_
    obtain ⟨i, d, y, k, e⟩ := ownsrc hm
    rcases Rr.gown _ d y with z | z | z | z
    · rw [k] at z; cases z
    · rw [k] at z; cases z
    · rw [e] at z; exact h2 z
    · rw [e] at z
      rcases z with z | ⟨ps, z⟩
      · rw [h1] at z; cases z
      · rw [h1] at z; cases z; exact h3 ps rfl
  · intro i c x
    rcases split x with ⟨x, _⟩ | ⟨k, u, hu, hc, _⟩
    · exact Rr.gown i c (atA x)
    · by_cases ntc : HTup c.2.2
      · rcases b.kind c (inb hu hc) with q | q
        · exact absurd ntc (mem_ntup (inb hu hc) q)
        · exact .inl q
      rcases b.own c (inb hu hc) ntc with z | z | ⟨z, _⟩
      · obtain ⟨j, d, y, k1, e⟩ := ownsrc z
        have := Rr.gown _ d y
        rw [k1, e] at this
        rcases this with q | q | q
        · cases q
        · cases q
        · exact .inr (.inr q)
      · exact .inr (.inr (Rr.freshN z))
      · exact .inl z
  · intro i c x q nt
    rcases split x with ⟨x, _⟩ | ⟨k, u, hu, hc, _⟩
    · exact Rr.gfrz i c (atA x) q nt
    · rcases b.own c (inb hu hc) nt with z | z | ⟨_, e, he, k1, k2, nte⟩
      · obtain ⟨j, d, y, k1, e⟩ := ownsrc z
        have := Rr.gown _ d y
        rw [k1, e] at this
        rcases this with q | q | q
        · cases q
        · cases q
        · exact q.elim .inl fun z => .inr (.inl z)
      · exact (Rr.freshN z).elim .inl fun z => .inr (.inl z)
      · obtain ⟨m, e', y', q1, q2⟩ := src e he
        have fr : e'.1 = .frz := by
          rcases q2 with q2 | q2
          · rw [← q2]; exact k1
          · have : kPar e'.1 = .frz := by rw [← q2]; exact k1
            unfold kPar at this
            by_cases z : e'.1 = .frz
            · exact z
            · rw [if_neg z] at this; cases this
        have := Rr.gfrz _ e' y' fr (by rw [q1]; exact nte)
        rw [q1, k2] at this
        exact this
/-! ### the call -/
def backS (rs : List (Option Nat)) (ms : List D) (S : Sg) : Sg := setAll S (rs.filterMap id) (ms.map some)
def callR (rs : List (Option Nat)) (sem : FSem) (ds : List D) (S : Sg) : R D :=
  if ds.length = rs.length then match sem (argsD rs ds) with
    | .ok d ms => .ok d (backS rs ms S)
    | .exc c d ms => .exc c d (backS rs ms S)
    | .bad => .bad
  else .bad
def cCall (rs : List (Option Nat)) (fr : Sg → R (List D)) (sem : FSem) : Sg → R D := fun S => (fr S).bind fun ds S1 => if (List.zip rs ds).all (fun p => p.1.isNone || ofD p.2) then callR rs sem ds S1 else .bad
theorem call_core {rs : List (Option Nat)} {sem : FSem} {ts : List T} {Q : VK} {S1 : Sg} (Rr : Rel g Γ n (A' ++ ts.map some) σ H) (hn : n ≤ A'.length) (x : NextM n M A A') (hm : ∀ r ∈ rs.filterMap id, r ∈ M) (e : ers n A' = S1) (hnd : (rs.filterMap id).Nodup)
    (hof : ((List.zip rs (ts.map T.er)).all fun p => p.1.isNone || ofD p.2) = true)
    (hk : ∀ (i r : Nat), rs[i]? = some (some r) → ∃ t, ts[i]? = some t ∧ σ[r]? = some (some t.root) ∧ A'[r]? = some none ∧ r < n)
    (h : PostE g n W M Γ A σ Q (callR rs sem (ts.map T.er) S1)) : spOf g (rs.map Option.isSome) sem (ts.map T.root) H Q (WE W σ) := by
  unfold callR at h
  by_cases hl : (ts.map T.er).length = rs.length
  · rw [if_pos hl] at h
    have hl' : ts.length = rs.length := by simpa using hl
    have slots : ∀ r ∈ rs.filterMap id, r < n := fun r hr => by
      obtain ⟨o, ho, e⟩ := List.mem_filterMap.mp hr
      have e : o = some r := e
      subst e
      obtain ⟨j, hj, ej⟩ := List.getElem_of_mem ho
      obtain ⟨_, _, _, _, q⟩ := hk j r (by rw [List.getElem?_eq_getElem hj, ej])
      exact q
    have of2 : ∀ (i r : Nat) t, rs[i]? = some (some r) → ts[i]? = some t → ofD t.er = true := fun i r t h1 h2 => by
      have hz : (List.zip rs (ts.map T.er))[i]? = some (some r, t.er) := by
        rw [List.getElem?_zip_eq_some]
        exact ⟨h1, by rw [List.getElem?_map, h2]; rfl⟩
      have := List.all_eq_true.mp hof _ (List.mem_of_getElem? hz)
      simpa using this
    refine ⟨argsT rs ts, (argsT_root rs ts hl').symm, Rr.callOk hn hl' of2, ?_⟩
    rw [argsT_er]
    have nx : ∀ us : List T, us.length = us.length → NextM n M A (setAll A' (rs.filterMap id) (us.map some)) := fun us _ => by
      refine ⟨⟨by rw [setAll_length]; exact x.len, by rw [setAll_drop _ _ _ slots]; exact x.tmp⟩, fun i hi hmi => ?_⟩
      rw [setAll_out _ _ _ _ fun z => hmi (hm i z)]
      exact x.slot i hi hmi
    have es : ∀ us : List T, ers n (setAll A' (rs.filterMap id) (us.map some)) = backS rs (us.map T.er) S1 := fun us => by
      unfold ers backS
      rw [setAll_take _ _ _ slots, setAll_map, List.map_map]
      have : (List.take n A').map (Option.map T.er) = S1 := e
      rw [this, List.map_map]
      rfl
    cases q : sem (argsD rs (ts.map T.er)) with
    | bad => rw [q] at h; exact h
    | ok d ms =>
      rw [q] at h
      intro H' t us b et eu
      exact h _ t H' (Rr.back hn hl' hnd hk b) (nx us rfl) (by rw [es us, eu]) et
    | exc c d ms =>
      rw [q] at h
      intro H' t us b et eu
      exact h _ t H' (Rr.back hn hl' hnd hk b) (nx us rfl).toNext (by rw [es us, eu]) et
  · rw [if_neg hl] at h; exact h.elim
theorem mean_call {rs : List (Option Nat)} {ta : TA} {fr : Sg → R (List D)} {sem : FSem} (ha : MeanC g n W rs M1 ta fr) (hm : ∀ r ∈ rs.filterMap id, r ∈ M1) (hnd : (rs.filterMap id).Nodup) : MeanE g n W M1 (tCallS (spOf g (rs.map Option.isSome) sem) (WE W) ta) (cCall rs fr sem) := by
  intro Γ A σ H Q Rr cl h
  refine ha Γ A σ H _ Rr cl ?_
  unfold cCall at h
  cases ea : fr (ers n A) with
  | bad => rw [ea] at h; exact h.elim
  | exc c d S => rw [ea] at h; exact h
  | ok ds S1 =>
    rw [ea] at h
    dsimp only [Lin.R.bind] at h
    intro A1 ts H1 R1 x1 e1 d1 hk
    split at h
    · rename_i hof
      rw [← d1] at h hof
      exact call_core R1 (by rw [x1.len]; exact Rr.len) x1 hm e1 hnd hof hk h
    · exact h.elim
end
end Lin
end
section
namespace Lin
open PySem L2
/-! ### a def's body as the def's meaning -/
def kRet (mr : List Bool) : Kd → Kd
  | .bor r => if mr[r]? = some true then .bor r else .frz
  | k => k
def usOf {α : Type} : List Bool → List (Option α) → Option (List α)
  | [], _ => some []
  | true :: mr, some d :: S => (usOf mr S).map (d :: ·)
  | false :: mr, _ :: S => usOf mr S
  | _, _ => none
def fin (mr : List Bool) (d : D) (S : Sg) (k : D → List D → Rc) : Rc := match usOf mr S with
  | some ms => if ofD (d.mk (kRet mr)) && ms.all ofD then k (d.mk (kRet mr)) ms else .bad
  | none => .bad
def semOf (n : Nat) (mr : List Bool) (f : Sg → R Fl) : FSem := fun ds => match f (ds.map some ++ List.replicate (n - ds.length) none) with
  | .ok .nx S => fin mr (.im .non) S .ok
  | .ok (.ret d) S => fin mr d S .ok
  | .exc c d S => fin mr d S (.exc c)
  | _ => .bad
theorem usOf_map {α β : Type} (f : α → β) : ∀ (mr : List Bool) (S : List (Option α)), usOf mr (S.map (Option.map f)) = (usOf mr S).map (List.map f)
  | [], _ => rfl
  | true :: mr, [] => rfl
  | false :: mr, [] => rfl
  | true :: mr, none :: S => rfl
  | true :: mr, some d :: S => by
    simp only [List.map_cons, Option.map_some, usOf, usOf_map f mr S]
    cases usOf mr S <;> rfl
  | false :: mr, o :: S => by
    simp only [List.map_cons, usOf, usOf_map f mr S]
theorem usOf_take {α : Type} : ∀ (mr : List Bool) (S : List (Option α)) (n : Nat), mr.length ≤ n → usOf mr (S.take n) = usOf mr S
  | [], _, _, _ => rfl
  | true :: mr, [], n, _ => by simp
  | false :: mr, [], n, _ => by simp
  | true :: mr, none :: S, n + 1, h => by simp [usOf]
  | true :: mr, some d :: S, n + 1, h => by
    simp only [List.take_succ_cons, usOf]
    rw [usOf_take mr S n (by simpa using h)]
  | false :: mr, o :: S, n + 1, h => by
    simp only [List.take_succ_cons, usOf]
    rw [usOf_take mr S n (by simpa using h)]
section
variable {g : Gc} {Γ : Gh} {n : Nat} {A : List (Option T)} {σ : L2.St} {H : Hp} {t : T}
/-- the trees by reference: where they stand, and apart -/
theorem us_facts (Rr : Rel g Γ n A σ H) : ∀ (mr : List Bool) (B : List (Option T)) (k : Nat) (us : List T), (∀ i : Nat, B[i]? = A[k + i]?) → usOf mr B = some us →
    (us.flatMap fun u => ownsC (u.cells g)).Nodup ∧ ∀ u ∈ us, ∃ i, mr[i]? = some true ∧ A[k + i]? = some (some u)
  | [], B, k, us, _, h => by
    have : us = [] := by simpa [usOf] using h.symm
    subst this
    exact ⟨by simp, fun u hu => nomatch hu⟩
  | true :: mr, [], k, us, _, h => by simp [usOf] at h
  | false :: mr, [], k, us, _, h => by simp [usOf] at h
  | true :: mr, none :: B, k, us, _, h => by simp [usOf] at h
  | true :: mr, some d :: B, k, us, hB, h => by
    simp only [usOf] at h
    cases e : usOf mr B with
    | none => rw [e] at h; cases h
    | some vs =>
      rw [e] at h
      have h : d :: vs = us := by simpa using h
      subst h
      obtain ⟨n1, n2⟩ := us_facts Rr mr B (k + 1) vs (fun i => by have := hB (i + 1); rw [List.getElem?_cons_succ] at this; rw [this]; congr 1; omega) e
      have hd : A[k]? = some (some d) := by have := hB 0; simpa using this.symm
      refine ⟨?_, fun u hu => ?_⟩
      · rw [List.flatMap_cons, List.nodup_append]
        refine ⟨Rr.nd k d hd, n1, fun a ha b hb q => ?_⟩
        subst q
        obtain ⟨c, hc, k1, k2⟩ := mem_ownsC.mp ha
        obtain ⟨v, hv, hb⟩ := List.mem_flatMap.mp hb
        obtain ⟨i, _, hi⟩ := n2 v hv
        obtain ⟨c', hc', k3, k4⟩ := mem_ownsC.mp hb
        rcases Rr.sep k (k + 1 + i) c c' ⟨d, hd, hc⟩ ⟨v, hi, hc'⟩ k1 (by rw [k4, k2]) with ⟨z, _⟩ | ⟨_, z⟩
        · omega
        · rw [k3] at z; cases z
      · rcases List.mem_cons.mp hu with rfl | hu
        · exact ⟨0, rfl, hd⟩
        · obtain ⟨i, h1, h2⟩ := n2 u hu
          exact ⟨i + 1, by simpa using h1, by rw [show k + (i + 1) = k + 1 + i by omega]; exact h2⟩
  | false :: mr, o :: B, k, us, hB, h => by
    simp only [usOf] at h
    obtain ⟨n1, n2⟩ := us_facts Rr mr B (k + 1) us (fun i => by have := hB (i + 1); rw [List.getElem?_cons_succ] at this; rw [this]; congr 1; omega) h
    refine ⟨n1, fun u hu => ?_⟩
    obtain ⟨i, h1, h2⟩ := n2 u hu
    exact ⟨i + 1, by simpa using h1, by rw [show k + (i + 1) = k + 1 + i by omega]; exact h2⟩
theorem us_roots (P : Nat → T → T → Prop) : ∀ (mr : List Bool) (B : List (Option T)) (ts : List T) (k : Nat) (us : List T), usOf mr B = some us → ts.length = mr.length →
    (∀ (i : Nat) u t, mr[i]? = some true → B[i]? = some (some u) → ts[i]? = some t → u.root = t.root) → us.map T.root = (refs mr ts).map T.root
  | [], B, ts, k, us, h, _, _ => by
    have : us = [] := by simpa [usOf] using h.symm
    subst this
    cases ts <;> rfl
  | true :: mr, [], ts, k, us, h, _, _ => by simp [usOf] at h
  | false :: mr, [], ts, k, us, h, _, _ => by simp [usOf] at h
  | true :: mr, none :: B, ts, k, us, h, _, _ => by simp [usOf] at h
  | b :: mr, o :: B, [], k, us, h, hl, _ => by simp at hl
  | true :: mr, some d :: B, x :: ts, k, us, h, hl, hr => by
    simp only [usOf] at h
    cases e : usOf mr B with
    | none => rw [e] at h; cases h
    | some vs =>
      rw [e] at h
      have h : d :: vs = us := by simpa using h
      subst h
      simp only [refs, List.map_cons]
      rw [hr 0 d x rfl rfl rfl, us_roots P mr B ts (k + 1) vs e (by simpa using hl) fun i u t h1 h2 h3 => hr (i + 1) u t (by simpa using h1) (by simpa using h2) (by simpa using h3)]
  | false :: mr, o :: B, x :: ts, k, us, h, hl, hr => by
    simp only [usOf] at h
    simp only [refs]
    exact us_roots P mr B ts (k + 1) us h (by simpa using hl) fun i u t h1 h2 h3 => hr (i + 1) u t (by simpa using h1) (by simpa using h2) (by simpa using h3)
theorem dictOf_mk (f : Kd → Kd) (t : T) : dictOf (t.mk f) = dictOf t := by cases t <;> rfl
end
def ghost (g : Gc) (H : Hp) (ts : List T) : Gh := ⟨H, fun a => a ∈ ownsC (cellsL g ts), fun a => ∃ d ∈ cellsL g ts, d.1 = .frz ∧ d.2.1 = a ∧ ¬ HTup d.2.2, fun _ => none⟩
section
variable {g : Gc} {H H' : Hp} {mr : List Bool} {ts : List T}
theorem CallOk.rel {N : List Str} (hph : g.ph (ghost g H ts)) (c : CallOk g H mr ts) (hN : ts.length ≤ N.length) : Rel g (ghost g H ts) N.length (ts.map some ++ List.replicate (N.length - ts.length) none) (L2.start N (ts.map T.root)) H := by
  have get : ∀ {i : Nat} {t : T}, (ts.map some ++ List.replicate (N.length - ts.length) none)[i]? = some (some t) → ts[i]? = some t := fun {i t} h => by
    by_cases hi : i < ts.length
    · rw [List.getElem?_append_left (by simpa using hi), List.getElem?_map] at h
      cases e : ts[i]? with
      | none => rw [e] at h; cases h
      | some u => rw [e] at h; simpa using h
    · rw [List.getElem?_append_right (by simpa using hi), List.getElem?_replicate] at h
      split at h <;> cases h
  have cell : ∀ {i : Nat} {c : Cell}, CellAt g (ts.map some ++ List.replicate (N.length - ts.length) none) i c → ∃ t, ts[i]? = some t ∧ c ∈ t.cells g := fun ⟨t, e, h⟩ => ⟨t, get e, h⟩
  have flat : (ts.flatMap fun u => ownsC (u.cells g)).Nodup := by
    have : ∀ l : List T, (l.flatMap fun u => ownsC (u.cells g)) = ownsC (cellsL g l) := fun l => by
      induction l with
      | nil => rfl
      | cons x r ih => rw [List.flatMap_cons, cellsL, ownsC_append, ih]
    rw [this]; exact c.nd
  refine ⟨by simp; omega, by simp [L2.start]; omega, ?_, ?_, ?_, ?_, ?_, fun a o h _ _ => h, ?_, ?_, hph, c.tab, fun a p z => nomatch z⟩
  · intro i t hi e
    have ht := get e
    have hi2 : i < ts.length := (List.getElem?_eq_some_iff.mp ht).1
    unfold L2.start
    rw [List.getElem?_append_left (by simpa using hi2), List.getElem?_map, List.getElem?_map, ht]
    rfl
  · intro i cl x
    obtain ⟨t, ht, hc⟩ := cell x
    exact c.hold cl (cellsL_mem ht hc)
  · intro i cl r x q
    obtain ⟨t, ht, hc⟩ := cell x
    rcases c.kind i t ht cl hc with z | ⟨_, z⟩ | ⟨_, z⟩ <;> (rw [z] at q; cases q)
  · intro i t e
    exact (owns_sublist (at_sub (get e))).nodup c.nd
  · intro i j cl d x y hown hadr
    obtain ⟨t, ht, hc⟩ := cell x
    obtain ⟨u, hu, hd⟩ := cell y
    have od := c.sep cl (cellsL_mem ht hc) d (cellsL_mem hu hd) hown hadr
    exact .inl ⟨nodup_flat flat ht hu (mem_ownsC.mpr ⟨cl, hc, hown, rfl⟩) (mem_ownsC.mpr ⟨d, hd, od, hadr⟩), od⟩
  · intro i cl x
    obtain ⟨t, ht, hc⟩ := cell x
    rcases c.kind i t ht cl hc with z | ⟨_, z⟩ | ⟨_, z⟩
    · exact .inl z
    · exact .inr (.inr (.inl (mem_ownsC.mpr ⟨cl, cellsL_mem ht hc, z, rfl⟩)))
    · exact .inr (.inl z)
  · intro i cl x q nt
    obtain ⟨t, ht, hc⟩ := cell x
    exact .inr (.inr ⟨cl, cellsL_mem ht hc, q, rfl, nt⟩)
theorem back_of {n : Nat} {A A' : List (Option T)} {σ σ' : L2.St} {M : List Nat} {t : T} {us : List T} (c : CallOk g H mr ts) (hn : mr.length ≤ n) (Rr : Rel g (ghost g H ts) n (A' ++ [some t]) σ' H') (hA : n ≤ A'.length)
    (hσ : ∀ (i : Nat) u, ts[i]? = some u → mr[i]? = some true → σ'[i]? = some (some u.root)) (hu : usOf mr (A'.take n) = some us) (hof : ofD (t.mk (kRet mr)).er = true) (hofs : ∀ u ∈ us, ofD u.er = true) :
    BackOk g H H' mr ts (t.mk (kRet mr)) us := by
  have RA := Rr.drop hA
  have hu2 : usOf mr A' = some us := by rw [← usOf_take mr A' n hn]; exact hu
  obtain ⟨n1, n2⟩ := us_facts RA mr A' 0 us (fun i => by rw [Nat.zero_add]) hu2
  have slot : ∀ {i : Nat}, mr[i]? = some true → i < n := fun {i} h => Nat.lt_of_lt_of_le (List.getElem?_eq_some_iff.mp h).1 hn
  have atA : ∀ {i c}, CellAt g A' i c → CellAt g (A' ++ [some t]) i c := fun h => cellAt_left h
  have atT : ∀ {c}, c ∈ t.cells g → CellAt g (A' ++ [some t]) A'.length c := fun h => cellAt_snoc.mpr (.inr ⟨rfl, h⟩)
  -- where the cells of the result come from
  have src : ∀ c ∈ (t.mk (kRet mr)).cells g ++ cellsL g us, ∃ i d, CellAt g (A' ++ [some t]) i d ∧ d.2 = c.2 ∧ (c.1 = d.1 ∨ (c.1 = .frz ∧ ∃ r, d.1 = .bor r ∧ mr[r]? ≠ some true)) ∧ ((i = A'.length ∧ c ∈ (t.mk (kRet mr)).cells g) ∨ mr[i]? = some true) := fun c hc => by
    rcases List.mem_append.mp hc with hc | hc
    · have hc0 := hc
      rw [cells_mk g _ (by first | rfl | decide)] at hc
      obtain ⟨d, hd, rfl⟩ := List.mem_map.mp hc
      refine ⟨A'.length, d, atT hd, rfl, ?_, .inl ⟨rfl, hc0⟩⟩
      have of := (ofD_iff (g := g)).mp hof _ hc0
      dsimp only at of ⊢
      cases q : d.1 with
      | bor r =>
        rw [q] at of
        dsimp only [kRet] at of ⊢
        by_cases hm : mr[r]? = some true
        · rw [if_pos hm] at of
          rcases of with z | z <;> cases z
        · rw [if_neg hm]
          exact .inr ⟨rfl, r, rfl, hm⟩
      | frz => exact .inl rfl
      | own => exact .inl rfl
      | par => exact .inl rfl
    · rw [cellsL_eq, List.mem_flatMap] at hc
      obtain ⟨u, hu3, hcu⟩ := hc
      obtain ⟨i, h1, h2⟩ := n2 u hu3
      rw [Nat.zero_add] at h2
      exact ⟨i, c, atA ⟨u, h2, hcu⟩, rfl, .inl rfl, .inr h1⟩
  have kinds : ∀ c ∈ (t.mk (kRet mr)).cells g ++ cellsL g us, c.1 = .own ∨ c.1 = .frz := fun c hc => by
    rcases List.mem_append.mp hc with hc | hc
    · exact (ofD_iff (g := g)).mp hof c hc
    · rw [cellsL_eq, List.mem_flatMap] at hc
      obtain ⟨u, hu3, hcu⟩ := hc
      exact (ofD_iff (g := g)).mp (hofs u hu3) c hcu
  have own_of : ∀ {c d : Cell}, (c.1 = d.1 ∨ (c.1 = .frz ∧ ∃ r, d.1 = .bor r ∧ mr[r]? ≠ some true)) → c.1 = .own → d.1 = .own := fun {c d} h k => by
    rcases h with h | ⟨h, _⟩
    · rw [← h]; exact k
    · rw [k] at h; cases h
  have sepx : ∀ c ∈ (t.mk (kRet mr)).cells g ++ cellsL g us, ∀ d ∈ (t.mk (kRet mr)).cells g ++ cellsL g us, c.1 = .own → d.2.1 = c.2.1 → d.1 = .own := fun c hc d hd hown hadr => by
    obtain ⟨i, c', x, ex, kx, px⟩ := src c hc
    obtain ⟨j, d', y, ey, ky, py⟩ := src d hd
    rcases Rr.sep i j c' d' x y (own_of kx hown) (by rw [ex, ey]; exact hadr) with ⟨_, z⟩ | ⟨_, z⟩
    · rcases ky with ky | ⟨_, r, ky, _⟩
      · rw [ky]; exact z
      · rw [z] at ky; cases ky
    · exfalso
      rcases px with ⟨px, _⟩ | px
      · have := Rr.lab _ _ _ y z
        omega
      · rcases ky with ky | ⟨_, r, ky, hr⟩
        · rcases kinds d hd with q | q <;> (rw [ky, z] at q; cases q)
        · rw [z] at ky
          cases ky
          exact hr px
  refine ⟨fun a o h hs hm => Rr.frame a o h hs hm, fun c hc => ?_, kinds, ?_, sepx, fun c hc nt => ?_, ?_, Rr.tab⟩
  · obtain ⟨i, d, x, e, q, _⟩ := src c hc
    exact (Rr.hold i d x).to e (own_of q)
  · rw [ownsC_append, List.nodup_append]
    refine ⟨?_, ?_, fun a ha b hb q => ?_⟩
    · have e : ownsC ((t.mk (kRet mr)).cells g) = ownsC (t.cells g) := by
        rw [cells_mk g _ (by first | rfl | decide)]
        unfold ownsC
        rw [List.filterMap_map]
        congr 1
        funext c
        have : ∀ k, (kRet mr k = .own) ↔ k = .own := fun k => by
          cases k with
          | bor r =>
            dsimp only [kRet]
            split
            · exact ⟨(fun z => nomatch z), (fun z => nomatch z)⟩
            · exact ⟨(fun z => nomatch z), (fun z => nomatch z)⟩
          | _ => exact Iff.rfl
        by_cases z : c.1 = .own
        · simp [this, z]
        · simp [this, z]
      rw [e]
      exact Rr.nd A'.length t (by simp)
    · have : ∀ l : List T, (l.flatMap fun u => ownsC (u.cells g)) = ownsC (cellsL g l) := fun l => by
        induction l with
        | nil => rfl
        | cons x r ih => rw [List.flatMap_cons, cellsL, ownsC_append, ih]
      rw [← this]; exact n1
    · subst q
      obtain ⟨c, hc, k1, k2⟩ := mem_ownsC.mp ha
      obtain ⟨d, hd, k3, k4⟩ := mem_ownsC.mp hb
      rw [cells_mk g _ (by first | rfl | decide)] at hc
      obtain ⟨c', hc', rfl⟩ := List.mem_map.mp hc
      rw [cellsL_eq, List.mem_flatMap] at hd
      obtain ⟨u, hu3, hdu⟩ := hd
      obtain ⟨i, h1, h2⟩ := n2 u hu3
      rw [Nat.zero_add] at h2
      have hlt : i < A'.length := (List.getElem?_eq_some_iff.mp h2).1
      rcases Rr.sep i A'.length d c' (atA ⟨u, h2, hdu⟩) (atT hc') k3 (by rw [k4]; exact k2) with ⟨z, _⟩ | ⟨_, z⟩
      · omega
      · have k1 : kRet mr c'.1 = .own := k1
        rw [z] at k1
        dsimp only [kRet] at k1
        split at k1 <;> cases k1
  · obtain ⟨i, d, x, e, k, _⟩ := src c hc
    rcases kinds c hc with q | q
    · have od := own_of k q
      rcases Rr.gown i d x with z | z | z | z
      · rw [od] at z; cases z
      · rw [od] at z; cases z
      · rw [e] at z; exact .inl z
      · rw [e] at z; exact .inr (.inl z)
    · rcases k with k | ⟨_, r, k, _⟩
      · rcases Rr.gfrz i d x (by rw [← k]; exact q) (by rw [e]; exact nt) with z | z | z
        · rw [e] at z; exact .inl z
        · rw [e] at z; exact .inr (.inl z)
        · rw [e] at z; exact .inr (.inr ⟨q, z⟩)
      · rcases Rr.gown i d x with z | z | z | z
        · rw [k] at z; cases z
        · rw [k] at z; cases z
        · rw [e] at z; exact .inl z
        · rw [e] at z; exact .inr (.inl z)
  · refine us_roots (fun _ _ _ => True) mr A' ts 0 us hu2 c.len fun i u v h1 h2 h3 => ?_
    have q1 := RA.val i u (slot h1) h2
    rw [hσ i v h3 h1] at q1
    have : v.root = u.root := by simpa using q1
    exact this.symm
end
section
variable {P : Program} {w : World} {K : PySem.W.Frag} {mg : Str → Option Value} {base : Heap} {g : Gc}
/-- a body that starts with these arguments -/
theorem body_run {N : List Str} {mr : List Bool} {ts : List T} {H : Hp} {M : List Nat} {fb : Sg → R Fl} {t : TS} {E : XK} {Q : VK} (mn : MeanS g N.length (fun cls d _ H => E cls d H) M t fb) (hph : g.ph (ghost g H ts)) (c : CallOk g H mr ts) (hl : ts.length ≤ N.length) (hmn : mr.length ≤ N.length)
    (hM : ∀ i : Nat, mr[i]? = some true → N.length + i ∉ M)
    (h : match semOf N.length mr fb (ts.map T.er) with
      | .bad => False
      | .ok d ms => ∀ H' (t : T) (us : List T), BackOk g H H' mr ts t us → t.er = d → us.map T.er = ms → Q t.root H'
      | .exc cc d ms => ∀ H' (t : T) (us : List T), BackOk g H H' mr ts t us → t.er = d → us.map T.er = ms → E (.ref (g.cl cc)) (dictOf t) H') :
    t { nx := fun _ H' => Q .non H', rt := Q } (L2.start N (ts.map T.root)) H := by
  have R0 := CallOk.rel (N := N) hph c hl
  refine mn (ghost g H ts) _ _ H _ R0 (fun r _ i cl hi ⟨u, e, hc⟩ => ?_) ?_
  · rw [List.getElem?_eq_none (by show _ ≤ i; have hi : N.length ≤ i := hi; simp; omega)] at e
    cases e
  · have e0 : ers N.length (ts.map some ++ List.replicate (N.length - ts.length) none) = (ts.map T.er).map some ++ List.replicate (N.length - (ts.map T.er).length) none := by
      unfold ers
      rw [List.take_of_length_le (by simp; omega), List.map_append, List.map_map, List.map_replicate, List.length_map, List.map_map]
      rfl
    show PostS g N.length _ M _ _ _ _ (fb (ers N.length _))
    rw [e0]
    unfold semOf at h
    have hσ : ∀ {σ' : L2.St} {A' : List (Option T)}, NextS N.length M (ts.map some ++ List.replicate (N.length - ts.length) none) A' (L2.start N (ts.map T.root)) σ' → ∀ (i : Nat) u, ts[i]? = some u → mr[i]? = some true → σ'[i]? = some (some u.root) := fun {σ' A'} x i u hu hm => by
      rw [x.keep i (hM i hm)]
      have hi2 : i < ts.length := (List.getElem?_eq_some_iff.mp hu).1
      unfold L2.start
      rw [List.getElem?_append_left (by simpa using hi2), List.getElem?_map, List.getElem?_map, hu]
      rfl
    have done : ∀ {A' : List (Option T)} {t : T} {σ' : L2.St} {H' : Hp} {d : D} {S : Sg} {kk : D → List D → Rc}, Rel g (ghost g H ts) N.length (A' ++ [some t]) σ' H' → NextS N.length M (ts.map some ++ List.replicate (N.length - ts.length) none) A' (L2.start N (ts.map T.root)) σ' →
        ers N.length A' = S → t.er = d → fin mr d S kk ≠ .bad → ∃ us, BackOk g H H' mr ts (t.mk (kRet mr)) us ∧ fin mr d S kk = kk (t.mk (kRet mr)).er (us.map T.er) := fun {A' t σ' H' d S kk} R x e et hne => by
      have hA : N.length ≤ A'.length := by have := x.len; rw [this]; simp; omega
      unfold fin at hne ⊢
      rw [← e] at hne ⊢
      unfold ers at hne ⊢
      rw [usOf_map] at hne ⊢
      cases q : usOf mr (A'.take N.length) with
      | none => rw [q] at hne; exact absurd rfl hne
      | some us =>
        rw [q] at hne
        dsimp only [Option.map_some] at hne ⊢
        by_cases hof : (ofD (d.mk (kRet mr)) && (us.map T.er).all ofD) = true
        · rw [if_pos hof]
          rw [Bool.and_eq_true] at hof
          have h1 : ofD (t.mk (kRet mr)).er = true := by rw [er_mk, et]; exact hof.1
          have h2 : ∀ u ∈ us, ofD u.er = true := fun u hu => List.all_eq_true.mp hof.2 _ (List.mem_map_of_mem hu)
          exact ⟨us, back_of (A := []) (σ := []) (M := M) c hmn R hA (hσ x) q h1 h2, by rw [er_mk, et]⟩
        · rw [if_neg hof] at hne; exact absurd rfl hne
    cases q : fb ((ts.map T.er).map some ++ List.replicate (N.length - (ts.map T.er).length) none) with
    | bad => rw [q] at h; exact h.elim
    | exc cc d S =>
      rw [q] at h
      dsimp only at h
      intro A' t σ' H' R x e et
      have hne : fin mr d S (.exc cc) ≠ .bad := fun z => by rw [z] at h; exact h
      obtain ⟨us, b, e2⟩ := done R x e et hne
      rw [e2] at h
      have := h H' _ us b rfl rfl
      rw [dictOf_mk] at this
      exact this
    | ok fl S =>
      rw [q] at h
      cases fl with
      | nx =>
        dsimp only at h
        intro A' σ' H' R x e
        have hne : fin mr (.im .non) S .ok ≠ .bad := fun z => by rw [z] at h; exact h
        have hA : N.length ≤ A'.length := by have := x.len; rw [this]; simp; omega
        obtain ⟨us, b, e2⟩ := done (t := .im .non) (d := .im .non) ((show Rel g _ N.length (A' ++ []) σ' H' by rw [List.append_nil]; exact R).imm hA _) x e rfl hne
        rw [e2] at h
        exact h H' _ us b rfl rfl
      | brk => exact h.elim
      | cnt => exact h.elim
      | ret d =>
        dsimp only at h
        intro A' t σ' H' R x e et
        have hne : fin mr d S .ok ≠ .bad := fun z => by rw [z] at h; exact h
        obtain ⟨us, b, e2⟩ := done R x e et hne
        rw [e2] at h
        have := h H' _ us b rfl rfl
        rw [root_mk] at this
        exact this
/-- THE RULE for a def: its body's meaning is the def's -/
theorem fn_ok {x qual : Str} {st : Stmt} {f : Addr} {fd : FuncData} {N ps : List Str} {k : Nat} {M : List Nat} {fb : Sg → R Fl} (hph : ∀ Γ, g.ph Γ) (F : Fun K x qual st f fd) (S : FnScope N ps (defScope st)) (mr : List Bool) (hmr : mr.length = ps.length) (hM : ∀ i : Nat, mr[i]? = some true → N.length + i ∉ M)
    (hb : ∀ (cdv : Value) (A : Around) (outer : List Env) (s : Shared) (H : Hp) (E : XK), Room k (A.deeper (PyProof.Rows.envOfC qual (defScope st) s.heap.objs.size f cdv)) →
      ∃ t, SdSs (cxOf (L2.CX P w) P w K mg base N qual (defScope st) f cdv A outer s H E) g (fun cls d _ H => E cls d H) M (defBody st) t fb) :
    FnOk P w K mg base (L2.CX P w) (k + 1) f fd ps (spOf g mr (semOf N.length mr fb)) := by
  have hpl : ps.length ≤ N.length := by have := congrArg List.length S.pre; rw [List.length_take] at this; omega
  refine F.okX S (fun vs H Q E h => ?_) fun cdv A outer s H vs Q E hr h => ?_
  · obtain ⟨ts, rfl, c, _⟩ := h
    rw [List.length_map, c.len, hmr]
  · obtain ⟨ts, rfl, c, h⟩ := h
    obtain ⟨t, sd⟩ := hb cdv A outer s H E hr
    have hl : ts.length ≤ N.length := by rw [c.len, hmr]; exact hpl
    refine ⟨t, sd.ps, ?_⟩
    exact body_run sd.mn (hph _) c hl (by rw [hmr]; exact hpl) hM h
end
end Lin
end
section
namespace Lin
open PySem L2
/-! ### list comprehensions -/
def wipeS {α : Type} (xs : List Nat) (S : List (Option α)) : List (Option α) := xs.foldr (fun x s => s.set x none) S
theorem wipeS_length {α : Type} : ∀ (xs : List Nat) (S : List (Option α)), (wipeS xs S).length = S.length
  | [], S => rfl
  | x :: xs, S => by
    show ((wipeS xs S).set x none).length = _
    rw [List.length_set, wipeS_length]
theorem wipeS_some {α : Type} : ∀ (xs : List Nat) (S : List (Option α)) (i : Nat) (t : α), (wipeS xs S)[i]? = some (some t) → S[i]? = some (some t) ∧ i ∉ xs
  | [], S, i, t, h => ⟨h, by simp⟩
  | x :: xs, S, i, t, h => by
    have h : ((wipeS xs S).set x none)[i]? = some (some t) := h
    by_cases hi : i = x
    · subst hi
      by_cases hl : i < (wipeS xs S).length
      · rw [List.getElem?_set_self hl] at h; cases h
      · rw [List.getElem?_eq_none (by rw [List.length_set]; omega)] at h; cases h
    · rw [List.getElem?_set_ne (Ne.symm hi)] at h
      obtain ⟨h1, h2⟩ := wipeS_some xs S i t h
      exact ⟨h1, by simp [hi, h2]⟩
theorem wipeS_map {α β : Type} (f : α → β) : ∀ (xs : List Nat) (S : List (Option α)), (wipeS xs S).map (Option.map f) = wipeS xs (S.map (Option.map f))
  | [], S => rfl
  | x :: xs, S => by
    show ((wipeS xs S).set x none).map _ = (wipeS xs (S.map _)).set x none
    rw [List.map_set, wipeS_map f xs S]
    rfl
theorem wipeS_take {α : Type} {n : Nat} : ∀ (xs : List Nat) (S : List (Option α)), (wipeS xs S).take n = wipeS xs (S.take n)
  | [], S => rfl
  | x :: xs, S => by
    show ((wipeS xs S).set x none).take n = (wipeS xs (S.take n)).set x none
    rw [List.take_set, wipeS_take xs S]
theorem wipeS_drop {α : Type} {n : Nat} : ∀ (xs : List Nat) (S : List (Option α)), (∀ x ∈ xs, x < n) → (wipeS xs S).drop n = S.drop n
  | [], S, _ => rfl
  | x :: xs, S, h => by
    show ((wipeS xs S).set x none).drop n = _
    rw [List.drop_set_of_lt (h x List.mem_cons_self), wipeS_drop xs S fun y hy => h y (List.mem_cons_of_mem _ hy)]
theorem wipeS_append {α : Type} : ∀ (xs : List Nat) (S R : List (Option α)), (∀ x ∈ xs, x < S.length) → wipeS xs (S ++ R) = wipeS xs S ++ R
  | [], S, R, _ => rfl
  | x :: xs, S, R, h => by
    show (wipeS xs (S ++ R)).set x none = (wipeS xs S).set x none ++ R
    rw [wipeS_append xs S R fun y hy => h y (List.mem_cons_of_mem _ hy), List.set_append_left _ _ (by rw [wipeS_length]; exact h x List.mem_cons_self)]
theorem wipe_eq (σ : L2.St) : ∀ xs : List Nat, wipe σ xs = wipeS xs σ
  | [] => rfl
  | x :: xs => by
    show (wipe σ xs).set x none = (wipeS xs σ).set x none
    rw [wipe_eq σ xs]
theorem wipe_ext {σ σ' : L2.St} {xs : List Nat} (hl : σ'.length = σ.length) (h : ∀ j : Nat, j ∉ xs → σ'[j]? = σ[j]?) : wipe σ' xs = wipe σ xs := by
  rw [wipe_eq, wipe_eq]
  apply List.ext_getElem?
  intro j
  suffices hh : ∀ xs : List Nat, (∀ j : Nat, j ∉ xs → σ'[j]? = σ[j]?) → ∀ j : Nat, (wipeS xs σ')[j]? = (wipeS xs σ)[j]? ∨ True by
    have key : ∀ (ys : List Nat) (j : Nat), (j ∈ ys ∨ σ'[j]? = σ[j]?) → (wipeS ys σ')[j]? = (wipeS ys σ)[j]? := by
      intro ys
      induction ys with
      | nil => intro j hj; exact hj.elim (fun z => nomatch z) id
      | cons y ys ih =>
        intro j hj
        show ((wipeS ys σ').set y none)[j]? = ((wipeS ys σ).set y none)[j]?
        by_cases e : j = y
        · subst e
          by_cases hlt : j < σ.length
          · rw [List.getElem?_set_self (by rw [wipeS_length]; omega), List.getElem?_set_self (by rw [wipeS_length]; omega)]
          · rw [List.getElem?_eq_none (by rw [List.length_set, wipeS_length]; omega), List.getElem?_eq_none (by rw [List.length_set, wipeS_length]; omega)]
        · rw [List.getElem?_set_ne (Ne.symm e), List.getElem?_set_ne (Ne.symm e)]
          refine ih j (hj.elim (fun z => ?_) .inr)
          rcases List.mem_cons.mp z with z | z
          · exact absurd z e
          · exact .inl z
    by_cases hj : j ∈ xs
    · exact key xs j (.inl hj)
    · exact key xs j (.inr (h j hj))
  exact fun _ _ _ => .inr trivial
def lcL (xs : List Nat) (Me : List Nat) (tg : D → Sg → Option Sg) (ft : Sg → R Bool) (fe : Sg → R D) : List D → Sg → List D → R (List D)
  | [], S, acc => .ok acc S
  | d :: r, S, acc => match tg d S with
    | none => .bad
    | some S0 => match ft S0 with
      | .ok b S1 => if b = true then match fe S1 with
          | .ok y S2 => if acc.length < sizeLine ∧ cleanD Me y = true then lcL xs Me tg ft fe r (wipeS xs S2) (acc ++ [y]) else .bad
          | _ => .bad
        else lcL xs Me tg ft fe r (wipeS xs S1) acc
      | _ => .bad
def cLc (xs : List Nat) (Me : List Nat) (tg : D → Sg → Option Sg) (fi : Sg → R (D × List D)) (ft : Sg → R Bool) (fe : Sg → R D) : Sg → R D := fun S => (fi S).bind fun p S1 => if cleanD Me p.1 = true then
    match lcL xs Me tg ft fe p.2 (wipeS xs S1) [] with
    | .ok ds S2 => .ok (.nd .own .lst ds) S2
    | _ => .bad
  else .bad
section
variable {g : Gc} {n : Nat} {W : WX} {Γ : Gh} {A A' A'' B : List (Option T)} {σ : L2.St} {H H' : Hp} {t : T} {M M1 M2 M3 : List Nat}
theorem Rel.wipe {xs : List Nat} (Rr : Rel g Γ n A σ H) {σ' : L2.St} (hl : σ'.length = σ.length) (h : ∀ j : Nat, j ∉ xs → σ'[j]? = σ[j]?) : Rel g Γ n (wipeS xs A) σ' H :=
  (Rr.less (by rw [wipeS_length]; exact Rr.len) fun i t e => (wipeS_some xs A i t e).1).reslot hl fun i t e _ => h i (wipeS_some xs A i t e).2
theorem wipe_get {σ : L2.St} {xs : List Nat} {j : Nat} (h : j ∉ xs) : (L2.wipe σ xs)[j]? = σ[j]? := by
  induction xs with
  | nil => rfl
  | cons x xs ih =>
    rw [List.mem_cons, not_or] at h
    show ((L2.wipe σ xs).set x none)[j]? = _
    rw [List.getElem?_set_ne (Ne.symm h.1)]
    exact ih h.2
/-- a temp list takes one more item -/
theorem Rel.push {a dx : Addr} {ts : List T} {u : T} (Rr : Rel g Γ n (A ++ [some (.nd a .own .lst dx ts)] ++ [some u]) σ H) (hn : n ≤ A.length) : Rel g Γ n (A ++ [some (.nd a .own .lst dx (ts ++ [u]))]) σ (upd H a (.lst (ts.map T.root ++ [u.root]))) := by
  have hb : ∀ i c, CellAt g (A ++ [some (T.nd a .own .lst dx ts)] ++ [u].map some) i c → c.1 ≠ .bor A.length := fun i c x q => by have := Rr.lab i c _ x q; omega
  have e : (A ++ [some (T.nd a .own .lst dx ts)])[A.length]? = some (some (.nd a .own .lst dx ts)) := by simp
  have := (show Rel g Γ n (A ++ [some (T.nd a .own .lst dx ts)] ++ [u].map some) σ H from Rr).mutAt (r := A.length) (p := []) (s' := .lst) (ts' := ts ++ [u]) (res := .im .non) (dropped := []) (by simp; omega) e hb rfl rfl rfl (by
    simp [cellsL_append, cellsL, T.cells])
  have R2 := this.drop (A := (A ++ [some (T.nd a .own .lst dx ts)]).set A.length (some ((T.nd a .own .lst dx ts).put [] (.nd a .own .lst dx (ts ++ [u]))))) (by simp; omega)
  simp only [T.put, List.map_append, List.map_cons, List.map_nil, ho] at R2
  rw [List.set_append_right _ _ (Nat.le_refl _)] at R2
  simpa using R2
theorem nextM_wipe {xs : List Nat} (hx : ∀ x ∈ xs, x < n) (x : NextM n M A A') : NextM n (M ++ xs) A (wipeS xs A') := by
  refine ⟨⟨by rw [wipeS_length]; exact x.len, by rw [wipeS_drop xs A' hx]; exact x.tmp⟩, fun i hi hm => ?_⟩
  rw [List.mem_append, not_or] at hm
  have : (wipeS xs A')[i]? = A'[i]? := by
    clear x hx
    induction xs with
    | nil => rfl
    | cons y ys ih =>
      show ((wipeS ys A').set y none)[i]? = _
      have h2 := hm.2
      rw [List.mem_cons, not_or] at h2
      rw [List.getElem?_set_ne (Ne.symm h2.1)]
      exact ih ⟨hm.1, h2.2⟩
  rw [this]
  exact x.slot i hi hm.1
theorem mean_lc {xs : List Nat} {wi : TI} {g1 : TG} {tt : TT} {te : TE} {fi : Sg → R (D × List D)} {tg : D → Sg → Option Sg} {ft : Sg → R Bool} {fe : Sg → R D} (hx : ∀ x ∈ xs, x < n) (hi : MeanI g n W M1 wi fi) (hg : MeanG g n xs g1 tg)
    (ht : MeanT g n (fun _ _ _ _ => False) M2 tt ft) (he : MeanE g n (fun _ _ _ _ => False) M3 te fe) : MeanE g n W (M1 ++ (M2 ++ M3) ++ xs) (tLc wi g1 tt te xs) (cLc xs (M2 ++ M3) tg fi ft fe) := by
  intro Γ A σ H Q Rr cl h
  refine hi Γ A σ H _ Rr cl.left.left ?_
  unfold cLc at h
  cases ei : fi (ers n A) with
  | bad => rw [ei] at h; exact h.elim
  | exc c d S => rw [ei] at h; exact h
  | ok p S0 =>
    rw [ei] at h
    dsimp only [Lin.R.bind] at h
    by_cases hc : cleanD (M2 ++ M3) p.1 = true
    · rw [if_pos hc] at h
      intro A0 t us J H0 R0 x0 e0 d0 du hus hJ Dd hD
      have n0 : n ≤ A0.length := by rw [x0.len]; exact Rr.len
      have hx0 : ∀ x ∈ xs, x < A0.length := fun x hxx => Nat.lt_of_lt_of_le (hx x hxx) n0
      have sl := Rr.slen
      cases eL : lcL xs (M2 ++ M3) tg ft fe p.2 (wipeS xs S0) [] with
      | bad => rw [eL] at h; exact h.elim
      | exc c d S => rw [eL] at h; exact h.elim
      | ok ds S9 =>
        rw [eL] at h
        dsimp only at h
        have wl : (L2.wipe σ xs).length = σ.length := wipe_length σ xs
        -- the start
        have Rw : Rel g Γ n (wipeS xs A0 ++ [some t]) (L2.wipe σ xs) H0 := by
          have := R0.wipe (xs := xs) (σ' := L2.wipe σ xs) wl fun j hj => wipe_get hj
          rw [wipeS_append xs A0 _ hx0] at this
          exact this
        have nw : n ≤ (wipeS xs A0 ++ [some t]).length := by rw [List.length_append, wipeS_length]; omega
        have RD := (show Rel g Γ n (wipeS xs A0 ++ [some t] ++ []) (L2.wipe σ xs) H0 by rw [List.append_nil]; exact Rw).node (p := Dd) (ts := []) nw hD .lst 0 (fun c hc => by simp [cellsL] at hc) (by simp [cellsL, ownsC])
        refine ⟨fun i m H' => m = us.length - i ∧ i ≤ us.length ∧ ∃ A' ts, Rel g Γ n (A' ++ [some t] ++ [some (.nd Dd .own .lst 0 ts)]) (L2.wipe σ xs) H' ∧ NextM n (M1 ++ (M2 ++ M3) ++ xs) A A' ∧ (∀ u ∈ ts, cleanD (M2 ++ M3) u.er = true) ∧
            lcL xs (M2 ++ M3) tg ft fe (p.2.drop i) (ers n A') (ts.map T.er) = .ok ds S9,
          ⟨us.length, by simp, Nat.zero_le _, wipeS xs A0, [], RD, (nextM_wipe hx x0).mono fun r hr => by
            rcases List.mem_append.mp hr with z | z
            · exact List.mem_append_left _ (List.mem_append_left _ z)
            · exact List.mem_append_right _ z, fun u hu => (nomatch hu), by
            unfold ers
            rw [wipeS_take, wipeS_map]
            have : (List.take n A0).map (Option.map T.er) = S0 := e0
            rw [this, List.drop_zero]
            exact eL⟩, ?_⟩
        rintro i m H1 ⟨rfl, hi, A1, ts, R1, x1, cts, e1⟩
        have n1 : n ≤ A1.length := by rw [x1.len]; exact Rr.len
        have hx1 : ∀ x ∈ xs, x < A1.length := fun x hxx => Nat.lt_of_lt_of_le (hx x hxx) n1
        have hold : ∀ c ∈ t.cells g, Hd H1 c := fun c hc => R1.hold A1.length c (cellAt_left (cellAt_snoc.mpr (.inr ⟨rfl, hc⟩)))
        have fol := hJ H1 hold
        by_cases hlt : i < us.length
        · obtain ⟨go, yl⟩ := fol.go i us[i] (by simp [hlt])
          refine .inr ⟨go, fun H' => ∃ A' ts, Rel g Γ n (A' ++ [some t] ++ [some (.nd Dd .own .lst 0 ts)]) (L2.wipe σ xs) H' ∧ NextM n (M1 ++ (M2 ++ M3) ++ xs) A A' ∧ (∀ u ∈ ts, cleanD (M2 ++ M3) u.er = true) ∧
              lcL xs (M2 ++ M3) tg ft fe (p.2.drop (i + 1)) (ers n A') (ts.map T.er) = .ok ds S9, fun H' ⟨A', ts, r1, r2, r3, r4⟩ => ⟨us.length - (i + 1), by omega, rfl, hlt, A', ts, r1, r2, r3, r4⟩, fun x H' y => ?_⟩
          obtain ⟨rfl, rfl⟩ := yl x H' y
          have hp : p.2.drop i = us[i].er :: p.2.drop (i + 1) := by
            have hl : i < p.2.length := by rw [← du, List.length_map]; exact hlt
            have : us[i].er = p.2[i] := by simp [← du]
            rw [this, List.getElem_cons_drop]
          rw [hp, lcL] at e1
          -- the pending temps
          have nP : n ≤ (A1 ++ [some t] ++ [some (T.nd Dd .own .lst 0 ts)]).length := by simp; omega
          have Rd : Rel g Γ n (A1 ++ [some t] ++ [some (T.nd Dd .own .lst 0 ts)] ++ [some us[i]]) (L2.wipe σ xs) H' := R1.dup fun c hc => by
            obtain ⟨q1, q2⟩ := hus us[i] (List.getElem_mem hlt) c hc
            exact ⟨q1, A1.length, cellAt_left (cellAt_snoc.mpr (.inr ⟨rfl, q2⟩))⟩
          have ersP : ∀ {B : List (Option T)}, n ≤ B.length → ∀ o : Option T, ers n (B ++ [some t] ++ [o]) = ers n B := fun {B} hB o => by
            rw [ers_append (by simp; omega), ers_append hB]
          have clP : ∀ {B : List (Option T)}, NextM n (M1 ++ (M2 ++ M3) ++ xs) A B → Clean g n (M2 ++ M3) (B ++ [some t] ++ [some (T.nd Dd .own .lst 0 ts)]) := fun {B} xB => by
            refine ((cl.left.right.next xB.toNext Rr.len).snoc (by rw [d0]; exact hc)).snoc ?_
            refine (cleanD_iff (g := g)).mpr fun r hr c hcc => ?_
            rw [T.cells] at hcc
            rcases List.mem_cons.mp hcc with rfl | hcc
            · intro z; cases z
            · rw [cellsL_eq, List.mem_flatMap] at hcc
              obtain ⟨u, hu, hcu⟩ := hcc
              exact cleanD_iff.mp (cts u hu) r hr c hcu
          cases et : tg us[i].er (ers n A1) with
          | none => rw [et] at e1; cases e1
          | some S1 =>
            rw [et] at e1
            dsimp only at e1
            refine hg Γ _ us[i] _ H' _ S1 Rd nP (by rw [ersP n1]; exact et) fun A2 σ2 H2 R2 x2 e2 hk => ?_
            have l2 : σ2.length = σ.length := by rw [R2.slen, sl]
            have l2w : σ2.length = (L2.wipe σ xs).length := by rw [l2, wl]
            have wk : wipe σ2 xs = wipe σ xs := by
              refine wipe_ext l2 fun j hj => ?_
              rw [hk j hj, wipe_get hj]
            refine ⟨wk, ?_⟩
            -- split off the pending temps
            have out : ∀ {M5 : List Nat} {A3 B3 : List (Option T)}, n ≤ B3.length → NextM n M5 (B3 ++ [some t] ++ [some (T.nd Dd .own .lst 0 ts)]) A3 → NextM n M5 B3 (A3.take B3.length) ∧ A3 = A3.take B3.length ++ [some t] ++ [some (.nd Dd .own .lst 0 ts)] ∧ n ≤ (A3.take B3.length).length := fun {M5 A3 B3} hB x3 => by
              have x3' := x3
              rw [List.append_assoc] at x3'
              obtain ⟨y3, z3⟩ := x3'.left hB
              exact ⟨y3, by rw [List.append_assoc]; exact z3, by rw [y3.len]; exact hB⟩
            have inAll : ∀ {M5 : List Nat} {B3 B4 : List (Option T)}, NextM n (M1 ++ (M2 ++ M3) ++ xs) A B3 → NextM n M5 B3 B4 → (∀ r ∈ M5, r ∈ M1 ++ (M2 ++ M3) ++ xs) → NextM n (M1 ++ (M2 ++ M3) ++ xs) A B4 := fun a b hm => (a.trans b).mono fun r hr => (List.mem_append.mp hr).elim id (hm r)
            obtain ⟨y2, z2, n2⟩ := out n1 x2
            have x12 := inAll x1 y2 fun r hr => List.mem_append_right _ hr
            rw [z2] at R2 e2
            rw [ersP n2] at e2
            refine ht Γ _ σ2 H2 _ R2 ((clP x12).mono fun r hr => List.mem_append_left _ hr) ?_
            rw [ersP n2, e2]
            cases eft : ft S1 with
            | bad => rw [eft] at e1; cases e1
            | exc c d S => rw [eft] at e1; cases e1
            | ok b S2 =>
              rw [eft] at e1
              dsimp only at e1
              intro A3 H3 R3 x3 e3
              obtain ⟨y3, z3, n3⟩ := out n2 x3
              have x13 := inAll x12 y3 fun r hr => List.mem_append_left _ (List.mem_append_right _ (List.mem_append_left _ hr))
              rw [z3] at R3 e3
              rw [ersP n3] at e3
              have back : ∀ {B : List (Option T)} {us' : List T} {Hb : Hp}, n ≤ B.length → Rel g Γ n (B ++ [some t] ++ [some (T.nd Dd .own .lst 0 us')]) σ2 Hb → Rel g Γ n (wipeS xs B ++ [some t] ++ [some (T.nd Dd .own .lst 0 us')]) (L2.wipe σ xs) Hb := fun {B us' Hb} hB r => by
                have hxB : ∀ x ∈ xs, x < B.length := fun x hxx => Nat.lt_of_lt_of_le (hx x hxx) hB
                have := r.wipe (xs := xs) (σ' := L2.wipe σ xs) (by rw [wl, l2]) fun j hj => by rw [hk j hj]
                rw [List.append_assoc, wipeS_append xs B _ hxB, ← List.append_assoc] at this
                exact this
              have wnext : ∀ {B : List (Option T)}, NextM n (M1 ++ (M2 ++ M3) ++ xs) A B → NextM n (M1 ++ (M2 ++ M3) ++ xs) A (wipeS xs B) := fun {B} y => (nextM_wipe hx y).mono fun r hr => (List.mem_append.mp hr).elim id fun z => List.mem_append_right _ z
              have wers : ∀ {B : List (Option T)}, ers n (wipeS xs B) = wipeS xs (ers n B) := fun {B} => by
                unfold ers
                rw [wipeS_take, wipeS_map]
              cases b with
              | false =>
                rw [if_neg Bool.false_ne_true] at e1 ⊢
                exact ⟨_, ts, back n3 R3, wnext x13, cts, by rw [wers, e3]; exact e1⟩
              | true =>
                rw [if_pos rfl] at e1 ⊢
                refine he Γ _ σ2 H3 _ R3 ((clP x13).mono fun r hr => List.mem_append_right _ hr) ?_
                rw [ersP n3, e3]
                cases efe : fe S2 with
                | bad => rw [efe] at e1; cases e1
                | exc c d S => rw [efe] at e1; cases e1
                | ok yd S3 =>
                  rw [efe] at e1
                  dsimp only at e1
                  intro A4 ty H4 R4 x4 e4 d4
                  obtain ⟨y4, z4, n4⟩ := out n3 x4
                  have x14 := inAll x13 y4 fun r hr => List.mem_append_left _ (List.mem_append_right _ (List.mem_append_right _ hr))
                  rw [z4] at R4 e4
                  rw [ersP n4] at e4
                  by_cases hcond : (ts.map T.er).length < sizeLine ∧ cleanD (M2 ++ M3) yd = true
                  · rw [if_pos hcond] at e1
                    have hD4 : H4 Dd = some (.lst (ts.map T.root)) := (R4.top2.flat id)
                    refine ⟨_, hD4, by simpa using hcond.1, ?_⟩
                    have R5 := R4.push (by rw [List.length_append]; exact Nat.le_trans n4 (Nat.le_add_right _ _))
                    refine ⟨_, ts ++ [ty], back n4 R5, wnext x14, fun u hu => ?_, ?_⟩
                    · rcases List.mem_append.mp hu with z | z
                      · exact cts u z
                      · have : u = ty := by simpa using z
                        rw [this, d4]; exact hcond.2
                    · rw [wers, e4, List.map_append, List.map_cons, List.map_nil, d4]
                      exact e1
                  · rw [if_neg hcond] at e1; cases e1
        · have ei' : i = us.length := by omega
          subst ei'
          refine .inl ⟨fol.stop, ?_⟩
          rw [List.drop_of_length_le (by rw [← du, List.length_map]; exact Nat.le_refl _), lcL] at e1
          have e2 : ts.map T.er = ds ∧ ers n A1 = S9 := by
            cases e1
            exact ⟨rfl, rfl⟩
          have R2 : Rel g Γ n (A1 ++ [some (T.nd Dd .own .lst 0 ts)]) (L2.wipe σ xs) H1 := R1.mid n1
          have R3 : Rel g Γ n (A1 ++ [some (T.nd Dd .own .lst 0 ts)]) σ H1 := R2.reslot (by rw [wl]) fun i t e hi => by
            have := R2.val i t hi e
            rw [this]
            exact (wipe_some this).1
          exact h A1 (.nd Dd .own .lst 0 ts) H1 R3 x1 e2.2 (by simp [T.er, erL_eq, e2.1])
    · rw [if_neg hc] at h; exact h.elim
end
end Lin
end
section
namespace Lin
open PySem L2
/-! ### lists changed by their methods -/
def mAppend (s : Sh) (ds us : List D) : Option (Sh × List D × D) := match s, us with
  | .lst, [y] => if ds.length < sizeLine then some (.lst, ds ++ [y], .im .non) else none
  | _, _ => none
def mClear (s : Sh) (ds us : List D) : Option (Sh × List D × D) := match s, us with
  | .lst, [] => some (.lst, [], .im .non)
  | _, _ => none
def mPopAt (s : Sh) (ds us : List D) : Option (Sh × List D × D) := match s, us with
  | .lst, [.im (.int i)] => if -(2 ^ 63) ≤ i ∧ i < 2 ^ 63 then match seqIndex? i ds.length with
      | some k => match ds[k]? with
        | some y => some (.lst, ds.eraseIdx k, y)
        | none => none
      | none => none
    else none
  | _, _ => none
section
variable {g : Gc}
theorem er_nil {ts : List T} (h : ts.map T.er = []) : ts = [] := by simpa using h
theorem mum_append : MuM g rAppend mAppend := by
  intro H a dx s ts us s' ds' dres hH ho
  unfold mAppend at ho
  split at ho
  · rename_i y eu
    obtain ⟨u, rfl, hu⟩ := er_one eu
    split at ho
    · rename_i hz
      cases ho
      refine ⟨ts ++ [u], .im .non, [], ⟨rfl, rfl⟩, by simp [hu], rfl, by simp [cellsL_append, cellsL, T.cells], fun Q q => ?_⟩
      refine ⟨a, ts.map T.root, u.root, rfl, rfl, hH.flat id, by simpa using hz, ?_⟩
      have q' := q
      simp only [Lin.ho, List.map_append, List.map_cons, List.map_nil] at q'
      exact q'
    · cases ho
  · cases ho
theorem mum_clear : MuM g rClear mClear := by
  intro H a dx s ts us s' ds' dres hH ho
  unfold mClear at ho
  split at ho
  · rename_i eu
    have := er_nil eu
    subst this
    cases ho
    refine ⟨[], .im .non, cellsL g ts, ⟨rfl, rfl⟩, rfl, rfl, by simp [cellsL, T.cells], fun Q q => ?_⟩
    exact ⟨a, ts.map T.root, rfl, rfl, hH.flat id, q⟩
  · cases ho
theorem erase_perm {ts : List T} {k : Nat} {u : T} (h : ts[k]? = some u) : (cellsL g (ts.eraseIdx k) ++ u.cells g).Perm (cellsL g ts) := by
  obtain ⟨hk, e⟩ := List.getElem?_eq_some_iff.mp h
  have e1 : ts = ts.take k ++ u :: ts.drop (k + 1) := by rw [← e, List.getElem_cons_drop, List.take_append_drop]
  rw [List.eraseIdx_eq_take_drop_succ, cellsL_append]
  conv => rhs; rw [e1, cellsL_append, cellsL]
  rw [List.append_assoc]
  exact List.Perm.append_left _ List.perm_append_comm
theorem map_erase {α β : Type} (f : α → β) (l : List α) (k : Nat) : (l.eraseIdx k).map f = (l.map f).eraseIdx k := by
  simp [List.eraseIdx_eq_take_drop_succ, List.map_take, List.map_drop]
theorem mum_popAt : MuM g rPopAt mPopAt := by
  intro H a dx s ts us s' ds' dres hH ho
  unfold mPopAt at ho
  split at ho
  · rename_i i eu
    obtain ⟨u, rfl, hu⟩ := er_one eu
    split at ho
    · rename_i hb
      rw [List.length_map] at ho
      cases ek : seqIndex? i ts.length with
      | none => rw [ek] at ho; cases ho
      | some k =>
        rw [ek] at ho
        dsimp only at ho
        rw [List.getElem?_map] at ho
        cases ey : ts[k]? with
        | none => rw [ey] at ho; cases ho
        | some y =>
          rw [ey] at ho
          cases ho
          refine ⟨ts.eraseIdx k, y, [], ⟨rfl, rfl⟩, map_erase _ _ _, rfl, ?_, fun Q q => ?_⟩
          · rw [List.append_nil, er_im hu]
            simpa [cellsL, T.cells] using erase_perm (g := g) ey
          · rw [er_im hu]
            refine ⟨a, ts.map T.root, i, k, y.root, rfl, rfl, hH.flat id, hb.1, hb.2, by rw [List.length_map]; exact ek, by rw [List.getElem?_map, ey]; rfl, ?_⟩
            rw [← map_erase]
            exact q
    · cases ho
  · cases ho
def isLst (s : Sh) : Bool := match s with
  | .lst => true
  | _ => false
theorem lst_ty {K : PySem.W.Frag} {H : Hp} {k : Kd} {a dx : Addr} {s : Sh} {vs : List V} (h : isLst s = true) (e : Hd H (kz s k, a, ho g s dx vs)) : tyV K "list" (.ref a) H := by
  cases s with
  | lst => exact .inl ⟨rfl, _, SqL.of (e.flat id)⟩
  | _ => cases h
end
/-! ### path[i] = e; path.f = e -/
/-- the node's new content, from the value v at the place i -/
def cSetAt (r : Nat) (M2 : List Nat) (fe : Sg → R D) (fp : Sg → R (List Nat)) (fi : Sg → R D) (op : Sh → List D → D → D → Option (Sh × List D)) : Sg → R Fl := fun S => (fe S).bind fun v S1 => if cleanD M2 v = true ∧ hasBor r v = false then (fp S1).bind fun p S2 => if r ∈ M2 then .bad else
  (fi S2).bind fun i S3 => if hasBor r i = false then match nodeAt ((S3.map (killD r))) r p with
    | some (.nd .own s ds) => match op s ds i v with
      | some (s', ds') => match (S3.map (killD r))[r]? with
        | some (some d) => .ok .nx ((S3.map (killD r)).set r (some (d.put p (.nd .own s' ds'))))
        | _ => .bad
      | none => .bad
    | _ => .bad
  else .bad
  else .bad
def StM (g : Gc) (rs : V → V → V → Hp → (Hp → Prop) → Prop) (op : Sh → List D → D → D → Option (Sh × List D)) : Prop :=
  ∀ (H : Hp) (a dx : Addr) (s : Sh) (ts : List T) (i v : T) (s' : Sh) (ds' : List D), (∀ c ∈ i.cells g, Hd H c) → Hd H (kz s .own, a, ho g s dx (ts.map T.root)) → op s (ts.map T.er) i.er v.er = some (s', ds') →
    ∃ (ts' : List T) (dropped : List Cell), (kz s .own = .own ∧ kz s' .own = .own) ∧ ts'.map T.er = ds' ∧ (cellsL g ts' ++ dropped).Perm (cellsL g ts ++ cellsL g [v, i]) ∧ ∀ Q : Hp → Prop, Q (upd H a (ho g s' dx (ts'.map T.root))) → rs (.ref a) i.root v.root H Q
section
variable {g : Gc} {n : Nat} {W : WX} {Γ : Gh} {A A' A'' B : List (Option T)} {σ : L2.St} {H H' : Hp} {t : T} {M M1 M2 M3 M4 : List Nat}
theorem mean_setAt {r : Nat} {te tp ti : TE} {fe fi : Sg → R D} {fp : Sg → R (List Nat)} {rs : TSet} {op : Sh → List D → D → D → Option (Sh × List D)} (he : MeanE g n W M1 te fe) (hp : MeanP g n W r M2 tp fp) (hi : MeanE g n W M3 ti fi) (ho : StM g rs op) :
    MeanS g n W (M1 ++ (M2 ++ M3) ++ [r]) (tAsg te (gSub tp ti rs)) (cSetAt r (M2 ++ M3) fe fp fi op) := by
  intro Γ A σ H Dn Rr cl h
  refine he Γ A σ H _ Rr cl.left.left ?_
  unfold cSetAt at h
  cases ea : fe (ers n A) with
  | bad => rw [ea] at h; exact h.elim
  | exc c d S => rw [ea] at h; exact fun A' t H' R x e => h A' t σ H' R (x.toS _ _) e
  | ok v S1 =>
    rw [ea] at h
    dsimp only [Lin.R.bind] at h
    intro A1 tv H1 R1 x1 e1 d1
    have n1 : n ≤ A1.length := by rw [x1.len]; exact Rr.len
    by_cases hcv : cleanD (M2 ++ M3) v = true ∧ hasBor r v = false
    · rw [if_pos hcv] at h
      have cl1 := cl.next x1.toNext Rr.len
      have clv : Clean g n (M2 ++ M3) (A1 ++ [some tv]) := cl1.left.right.snoc (by rw [d1]; exact hcv.1)
      have nv : n ≤ (A1 ++ [some tv]).length := by rw [List.length_append]; omega
      refine hp Γ (A1 ++ [some tv]) σ H1 _ R1 clv.left ?_
      rw [ers_append n1, e1]
      cases eb : fp S1 with
      | bad => rw [eb] at h; exact h.elim
      | exc c d S =>
        rw [eb] at h
        intro A2 t2 H2 R2 x2 e2 d2
        obtain ⟨y, z⟩ := x2.left n1
        have n3 : n ≤ (A2.take A1.length).length := by rw [y.len]; exact n1
        rw [z] at R2 e2
        exact h _ t2 σ H2 (R2.mid n3) ((x1.toNext.trans y).toS _ _) (by rw [ers_append n3] at e2; exact e2) d2
      | ok p S2 =>
        rw [eb] at h
        dsimp only [Lin.R.bind] at h
        by_cases hm : r ∈ M2 ++ M3
        · rw [if_pos hm] at h; exact h.elim
        · rw [if_neg hm] at h
          rw [List.mem_append, not_or] at hm
          intro A2 H2 t u R2 x2 e2 et eu
          obtain ⟨y2, z2⟩ := x2.left n1
          have l2 : (A2.take A1.length).length = A1.length := y2.len
          have n2 : n ≤ (A2.take A1.length).length := by rw [l2]; exact n1
          have nA2 : n ≤ A2.length := by rw [x2.len]; exact nv
          refine hi Γ A2 σ H2 _ R2 ((clv.next x2.toNext nv).right) ?_
          rw [e2]
          cases ec : fi S2 with
          | bad => rw [ec] at h; exact h.elim
          | exc c d S =>
            rw [ec] at h
            intro A3 t3 H3 R3 x3 e3 d3
            have x23 := x2.toNext.trans x3
            obtain ⟨y, z⟩ := x23.left n1
            have n3 : n ≤ (A3.take A1.length).length := by rw [y.len]; exact n1
            rw [z] at R3 e3
            exact h _ t3 σ H3 (R3.mid n3) ((x1.toNext.trans y).toS _ _) (by rw [ers_append n3] at e3; exact e3) d3
          | ok i S3 =>
            rw [ec] at h
            dsimp only [Lin.R.bind] at h
            by_cases hbi : hasBor r i = false
            · rw [if_pos hbi] at h
              intro A3 ti H3 R3 x3 e3 d3
              have x23 : NextM n (M2 ++ M3) (A1 ++ [some tv]) A3 := x2.trans x3
              obtain ⟨y, z⟩ := x23.left n1
              have l3 : (A3.take A1.length).length = A1.length := y.len
              have n3 : n ≤ (A3.take A1.length).length := by rw [l3]; exact n1
              have e3' : ers n (A3.take A1.length) = S3 := by rw [z, ers_append n3] at e3; exact e3
              rw [← e3', ← ers_kill n3] at h
              split at h
              · rename_i s ds en
                obtain ⟨t', u', et', eu', ed, hr⟩ := nodeAt_some en
                have et2 := (kill_get et').1
                have hrA : r < A1.length := by omega
                have : t' = t := by
                  have q0 : A3[r]? = some (some t') := by
                    rw [z, List.getElem?_append_left (by rw [l3]; exact hrA)]; exact et2
                  rcases x3.slot r hr hm.2 with q | q
                  · rw [q0, et] at q; simpa using q
                  · rw [q0] at q; cases q
                subst this
                have : u' = u := by rw [eu] at eu'; exact (Option.some.inj eu').symm
                subst this
                obtain ⟨a, dx, ts, hu, hds⟩ := er_nd ed
                subst hu
                split at h
                · rename_i s' ds' eo
                  rw [z, List.append_assoc] at R3
                  have R3k : Rel g Γ n (kill n r (A3.take A1.length) ++ [tv, ti].map some) σ H3 := by
                    have := R3.kill r
                    rw [kill_append n3] at this
                    exact this
                  have hH := R3k.holdAt (r := r) (t := t') (by rw [List.getElem?_append_left (by rw [kill_length, l3]; exact hrA)]; exact et') eu
                  have hti : ∀ c ∈ ti.cells g, Hd H3 c := fun c hc => R3k.hold ((kill n r (A3.take A1.length)).length + 1) c (cellAt_append.mpr (.inr ⟨by omega, ti, by rw [show (kill n r (A3.take A1.length)).length + 1 - (kill n r (A3.take A1.length)).length = 1 by omega]; rfl, hc⟩))
                  obtain ⟨ts', dropped, ⟨m1, m2⟩, k1, k3, k4⟩ := ho H3 a dx s ts ti tv s' ds' hti hH (by rw [hds, d3, d1]; exact eo)
                  have nbA : ∀ i c, CellAt g (kill n r (A3.take A1.length) ++ [tv, ti].map some) i c → c.1 ≠ .bor r := fun j c x => by
                    rcases cellAt_append.mp x with x | ⟨_, x⟩
                    · exact kill_clean ((cl1.right).next y.toNext n1) j c x
                    · intro q
                      have hmem : c ∈ cellsL g [tv, ti] := cellAt_map.mp ⟨_, x⟩
                      simp only [cellsL, List.append_nil] at hmem
                      rcases List.mem_append.mp hmem with w | w
                      · have := (hasBor_iff (g := g)).mpr ⟨c, w, q⟩
                        rw [d1, hcv.2] at this; cases this
                      · have := (hasBor_iff (g := g)).mpr ⟨c, w, q⟩
                        rw [d3, hbi] at this; cases this
                  have R4 := R3k.mutAt (s' := s') (ts' := ts') (res := .im .non) (dropped := dropped) (by rw [kill_length]; exact n3) et' nbA eu m1 m2 (by simpa [T.cells] using k3)
                  refine k4 _ ?_
                  have ers1 : (ers n (kill n r (A3.take A1.length)))[r]? = some (some t'.er) := by rw [ers_get hr, et']; rfl
                  rw [ers1] at h
                  dsimp only at h
                  refine h _ σ _ (R4.drop (by rw [List.length_set, kill_length]; exact n3)) (Next.toS ⟨?_, ?_⟩ _ _) ?_
                  · rw [List.length_set, kill_length, l3, x1.len]
                  · rw [List.drop_set_of_lt hr]
                    exact (nextM_kill (r := r) n3 (x1.trans y)).tmp
                  · rw [ers_set hr, Option.map_some, er_put]
                    simp only [T.er, erL_eq, k1]
                · exact h.elim
              · exact h.elim
            · rw [if_neg hbi] at h; exact h.elim
    · rw [if_neg hcv] at h; exact h.elim
/-- lists -/
def sLst (s : Sh) (ds : List D) (i v : D) : Option (Sh × List D) := match s, i with
  | .lst, .im (.int k) => (ixN ds.length k).map fun j => (.lst, ds.set j v)
  | _, _ => none
theorem stm_lst : StM g rSetL sLst := by
  intro H a dx s ts i v s' ds' _ hH ho
  unfold sLst at ho
  split at ho
  · rename_i k ei
    rw [List.length_map] at ho
    cases ej : ixN ts.length k with
    | none => rw [ej] at ho; cases ho
    | some j =>
      rw [ej] at ho
      cases ho
      obtain ⟨_, hj, _⟩ := ixN_seq ej
      refine ⟨ts.set j v, (ts[j]).cells g ++ i.cells g, ⟨rfl, rfl⟩, by rw [List.map_set], ?_, fun Q q => ?_⟩
      · have e1 : ts = ts.take j ++ ts[j] :: ts.drop (j + 1) := by rw [List.getElem_cons_drop, List.take_append_drop]
        have e2 : ts.set j v = ts.take j ++ v :: ts.drop (j + 1) := List.set_eq_take_append_cons_drop.trans (by rw [if_pos hj])
        have e3 : cellsL g ts = cellsL g (ts.take j) ++ ((ts[j]).cells g ++ cellsL g (ts.drop (j + 1))) := by
          conv => lhs; rw [e1, cellsL_append, cellsL]
        rw [e2, e3, cellsL_append]
        simp only [cellsL, List.append_nil]
        classical
        refine List.perm_iff_count.mpr fun c => ?_
        simp only [List.count_append]
        omega
      · rw [er_im ei]
        refine ⟨a, ts.map T.root, k, j, rfl, rfl, hH.flat id, by rw [List.length_map]; exact ej, ?_⟩
        rw [← List.map_set]
        exact q
  · cases ho
end
end Lin
end
section
namespace Lin
open PySem L2
/-! ### fields -/
theorem lookup_map {α β : Type} (h : α → β) (f : Str) : ∀ (ns : List Str) (xs : List α), (ns.zip (xs.map h)).lookup f = ((ns.zip xs).lookup f).map h
  | [], _ => by simp
  | _ :: _, [] => by simp
  | n :: ns, x :: xs => by
    simp only [List.map_cons, List.zip_cons_cons, List.lookup_cons]
    cases f == n with
    | true => rfl
    | false => exact lookup_map h f ns xs
theorem lookup_mem {α : Type} (f : Str) : ∀ (ns : List Str) (xs : List α) (x : α), (ns.zip xs).lookup f = some x → ∃ i : Nat, xs[i]? = some x
  | [], _, x, h => by simp at h
  | _ :: _, [], x, h => by simp at h
  | n :: ns, y :: xs, x, h => by
    simp only [List.zip_cons_cons, List.lookup_cons] at h
    cases e : f == n with
    | true => rw [e] at h; exact ⟨0, by simpa using h⟩
    | false =>
      rw [e] at h
      obtain ⟨i, hi⟩ := lookup_mem f ns xs x h
      exact ⟨i + 1, by simpa using hi⟩
def dFld (c : Nat) (f : Str) (d : D) : Option D := match d with
  | .nd _ (.obj c' ns) ds => if c' = c then (ns.zip ds).lookup f else none
  | _ => none
def rFld (K : PySem.W.Frag) (f : Str) : V → Hp → VK → Prop := fun x H1 Q => ∃ a C dx fs v, x = .ref a ∧ H1 a = some (.ins C dx fs) ∧ Cls K C ∧ NoAttr K C f ∧ fs.lookup f = some v ∧ Q v H1
section
variable {g : Gc} {n : Nat} {W : WX} {Γ : Gh} {A A' A'' B : List (Option T)} {σ : L2.St} {H H' : Hp} {t : T} {M M1 M2 M3 M4 : List Nat}
theorem unm_fld {K : PySem.W.Frag} {c : Nat} {f : Str} (hc : Cls K (g.cl c)) (hf : NoAttr K (g.cl c) f) : UnM g n (rFld K f) (dFld c f) := by
  intro Γ A ta σ H Q d Rr hn eo hq
  unfold dFld at eo
  split at eo
  · rename_i k c' ns ds e
    split at eo
    · rename_i hcc
      subst hcc
      obtain ⟨a, dx, ts, rfl, h1⟩ := er_nd e
      rw [← h1, lookup_map] at eo
      cases q : (ns.zip ts).lookup f with
      | none => rw [q] at eo; cases eo
      | some u =>
        rw [q] at eo
        obtain ⟨i, hi⟩ := lookup_mem f ns ts u q
        refine ⟨a, g.cl c', dx, _, u.root, rfl, Rr.top1.flat id, hc, hf, by rw [lookup_map, q]; rfl, hq u H (Rr.sub1 hn ((at_sub hi).trans child_sub)) (by simpa using eo)⟩
    · cases eo
  · cases eo
/-! ### path.f = e -/
def putL {α : Type} (f : Str) : List Str → List α → α → List Str × List α
  | n :: ns, x :: xs, v => if n = f then (n :: ns, v :: xs) else (n :: (putL f ns xs v).1, x :: (putL f ns xs v).2)
  | _, _, v => ([f], [v])
theorem putL_map {α β : Type} (h : α → β) (f : Str) : ∀ (ns : List Str) (xs : List α) (v : α), (putL f ns (xs.map h) (h v)).1 = (putL f ns xs v).1 ∧ (putL f ns (xs.map h) (h v)).2 = (putL f ns xs v).2.map h
  | [], xs, v => by cases xs <;> simp [putL]
  | _ :: _, [], v => by simp [putL]
  | n :: ns, x :: xs, v => by
    obtain ⟨h1, h2⟩ := putL_map h f ns xs v
    simp only [List.map_cons, putL]
    by_cases e : n = f
    · rw [if_pos e, if_pos e]; exact ⟨rfl, rfl⟩
    · rw [if_neg e, if_neg e]; simp [h1, h2]
theorem putL_zip (f : Str) : ∀ (ns : List Str) (vs : List V) (v : V), ns.length = vs.length → putF f v (ns.zip vs) = (putL f ns vs v).1.zip (putL f ns vs v).2
  | [], [], v, _ => rfl
  | [], _ :: _, v, h => by simp at h
  | _ :: _, [], v, h => by simp at h
  | n :: ns, x :: vs, v, h => by
    have ih := putL_zip f ns vs v (by simpa using h)
    simp only [List.zip_cons_cons, putF, putL]
    by_cases e : n = f
    · rw [if_pos e, if_pos e]; rfl
    · rw [if_neg e, if_neg e, ih]; rfl
theorem putL_perm (f : Str) : ∀ (ns : List Str) (ts : List T) (v : T), ns.length = ts.length → ∃ dropped, (cellsL g (putL f ns ts v).2 ++ dropped).Perm (cellsL g ts ++ v.cells g)
  | [], [], v, _ => ⟨[], by simp [putL, cellsL]⟩
  | [], _ :: _, v, h => by simp at h
  | _ :: _, [], v, h => by simp at h
  | n :: ns, x :: ts, v, h => by
    obtain ⟨dr, p⟩ := putL_perm f ns ts v (by simpa using h)
    simp only [putL]
    by_cases e : n = f
    · rw [if_pos e]
      refine ⟨x.cells g, ?_⟩
      simp only [cellsL]
      classical
      refine List.perm_iff_count.mpr fun c => ?_
      simp only [List.count_append]
      omega
    · rw [if_neg e]
      refine ⟨dr, ?_⟩
      simp only [cellsL, List.append_assoc]
      exact p.append_left _
def sAttr (c : Nat) (f : Str) (s : Sh) (ds : List D) (i v : D) : Option (Sh × List D) := match s with
  | .obj c' ns => if c' = c ∧ ns.length = ds.length ∧ ns.length < 1000 then some (.obj c' (putL f ns ds v).1, (putL f ns ds v).2) else none
  | _ => none
def rAttr (K : PySem.W.Frag) (f : Str) : TSet := fun o _ v H Q => ∃ a C dx fs, o = .ref a ∧ H a = some (.ins C dx fs) ∧ Cls K C ∧ NoAttr K C f ∧ fs.length < 1000 ∧ Q (upd H a (.ins C dx (putF f v fs)))
theorem stm_attr {K : PySem.W.Frag} {c : Nat} {f : Str} (hc : Cls K (g.cl c)) (hf : NoAttr K (g.cl c) f) : StM g (rAttr K f) (sAttr c f) := by
  intro H a dx s ts i v s' ds' _ hH ho
  unfold sAttr at ho
  split at ho
  · rename_i c' ns
    split at ho
    · rename_i hh
      obtain ⟨rfl, hl, h1000⟩ := hh
      cases ho
      rw [List.length_map] at hl
      obtain ⟨dr, p⟩ := putL_perm (g := g) f ns ts v hl
      obtain ⟨m1, m2⟩ := putL_map T.er f ns ts v
      obtain ⟨k1, k2⟩ := putL_map T.root f ns ts v
      refine ⟨(putL f ns ts v).2, dr ++ i.cells g, ⟨rfl, rfl⟩, m2.symm, ?_, fun Q q => ?_⟩
      · simp only [cellsL, List.append_nil]
        rw [← List.append_assoc, ← List.append_assoc]
        exact p.append_right _
      · refine ⟨a, g.cl c', dx, _, rfl, hH.flat id, hc, hf, by simpa [hl] using (show ts.length < 1000 by omega), ?_⟩
        rw [putL_zip f ns _ _ (by rw [List.length_map]; exact hl), k1, k2]
        rw [m1] at q
        exact q
    · cases ho
  · cases ho
/-! ### C(..) -/
def tMakeS (C : Addr) (sp : Sp) (E : L2.St → XK) (t : TA) : TE := fun σ H Q => t σ H fun vs H1 => ∀ x dx, H1 x = none → H1 dx = none → dx ≠ x →
  sp (.ref x :: vs) (upd (upd H1 dx (.own x)) x (.ins C dx [])) (fun v H2 => v = .non ∧ Q (.ref x) H2) (E σ)
def cMk (c : Nat) (rs : List (Option Nat)) (fr : Sg → R (List D)) (sem : FSem) : Sg → R D := fun S => (fr S).bind fun ds S1 => if ds.length = rs.length ∧ ((List.zip rs ds).all fun p => p.1.isNone || ofD p.2) = true then
    match sem (.nd .own (.obj c []) [] :: argsD rs ds) with
    | .ok (.im .non) (d :: ms) => .ok d (backS rs ms S1)
    | .exc e d (_ :: ms) => .exc e d (backS rs ms S1)
    | _ => .bad
  else .bad
theorem back_mk {H1 : Hp} {x dx : Addr} {c : Nat} {mr : List Bool} {ats us : List T} {t self' : T} (hx : H1 x = none) (hdx : H1 dx = none) (ne : dx ≠ x) (ht : ∀ c ∈ t.cells g, c.1 = .own ∨ c.1 = .frz)
    (b : BackOk g (upd (upd H1 dx (.own x)) x (.ins (g.cl c) dx [])) H' (true :: mr) (T.nd x .own (.obj c []) dx [] :: ats) t (self' :: us)) :
    (t.cells g = [] → BackOk g H1 H' mr ats self' us) ∧ BackOk g H1 H' mr ats t us ∧ self'.root = .ref x := by
  have fr : ∀ a o, H1 a = some o → (upd (upd H1 dx (.own x)) x (.ins (g.cl c) dx [])) a = some o := fun a o h => by
    rw [upd_ne (ne_of_none h hx), upd_ne (ne_of_none h hdx)]; exact h
  have fn : ∀ a, Nw (upd (upd H1 dx (.own x)) x (.ins (g.cl c) dx [])) a → Nw H1 a := fun a h => by
    cases q : H1 a with
    | none => exact .inl q
    | some o =>
      rcases h with h | ⟨ps, h⟩
      · rw [fr a o q] at h; cases h
      · rw [fr a o q] at h; cases h; exact .inr ⟨ps, q⟩
  have owns : ∀ a, a ∈ ownsC (cellsL g (T.nd x .own (.obj c []) dx [] :: ats)) → a = x ∨ a ∈ ownsC (cellsL g ats) := fun a h => by
    rw [cellsL, ownsC_append] at h
    rcases List.mem_append.mp h with z | z
    · left
      rw [T.cells] at z
      simpa [ownsC, cellsL, kz, eq_comm] using z
    · exact .inr z
  have frame : ∀ a o, H1 a = some o → (∀ ps, o ≠ .tbl ps) → a ∉ ownsC (cellsL g ats) → H' a = some o := fun a o h hs hm => b.frame a o (fr a o h) hs fun z => by
    rcases owns a z with rfl | z
    · rw [hx] at h; cases h
    · exact hm z
  have own : ∀ c' : Cell, (c'.2.1 ∈ ownsC (cellsL g (T.nd x .own (.obj c []) dx [] :: ats)) ∨ Nw (upd (upd H1 dx (.own x)) x (.ins (g.cl c) dx [])) c'.2.1 ∨ (c'.1 = .frz ∧ ∃ d ∈ cellsL g (T.nd x .own (.obj c []) dx [] :: ats), d.1 = .frz ∧ d.2.1 = c'.2.1 ∧ ¬ HTup d.2.2)) →
      c'.2.1 ∈ ownsC (cellsL g ats) ∨ Nw H1 c'.2.1 ∨ (c'.1 = .frz ∧ ∃ d ∈ cellsL g ats, d.1 = .frz ∧ d.2.1 = c'.2.1 ∧ ¬ HTup d.2.2) := fun c' h => by
    rcases h with z | z | ⟨z, d, hd, k1, k2⟩
    · rcases owns _ z with z | z
      · rw [z]; exact .inr (.inl (.inl hx))
      · exact .inl z
    · exact .inr (.inl (fn _ z))
    · refine .inr (.inr ⟨z, d, ?_, k1, k2⟩)
      rw [cellsL, T.cells] at hd
      rcases List.mem_append.mp hd with y | y
      · simp only [cellsL, List.mem_singleton] at y
        rw [y] at k1; exact nomatch (show Kd.own = Kd.frz from k1)
      · exact y
  have root := b.root
  simp only [refs, List.map_cons, List.cons.injEq] at root
  have mem1 : ∀ c ∈ self'.cells g ++ cellsL g us, c ∈ t.cells g ++ cellsL g (self' :: us) := fun c h => by rw [cellsL]; exact List.mem_append_right _ h
  have mem2 : ∀ c ∈ t.cells g ++ cellsL g us, c ∈ t.cells g ++ cellsL g (self' :: us) := fun c h => by
    rw [cellsL]
    rcases List.mem_append.mp h with z | z
    · exact List.mem_append_left _ z
    · exact List.mem_append_right _ (List.mem_append_right _ z)
  refine ⟨fun _ => ⟨frame, fun c h => b.hold c (mem1 c h), fun c h => b.kind c (mem1 c h), ?_, fun c h d hd => b.sep c (mem1 c h) d (mem1 d hd), fun c h nt => own c (b.own c (mem1 c h) nt), root.2, b.tab⟩,
    ⟨frame, fun c h => b.hold c (mem2 c h), fun c h => b.kind c (mem2 c h), ?_, fun c h d hd => b.sep c (mem2 c h) d (mem2 d hd), fun c h nt => own c (b.own c (mem2 c h) nt), root.2, b.tab⟩, root.1⟩
  · refine (owns_sublist ?_).nodup b.nd
    rw [cellsL]
    exact List.sublist_append_right _ _
  · refine (owns_sublist ?_).nodup b.nd
    rw [cellsL]
    exact List.Sublist.append (List.Sublist.refl _) (List.sublist_append_right _ _)
theorem mean_mk {c : Nat} {rs : List (Option Nat)} {ta : TA} {fr : Sg → R (List D)} {sem : FSem} (ha : MeanC g n W rs M1 ta fr) (hm : ∀ r ∈ rs.filterMap id, r ∈ M1) (hnd : (rs.filterMap id).Nodup) :
    MeanE g n W M1 (tMakeS (g.cl c) (spOf g (true :: rs.map Option.isSome) sem) (WE W) ta) (cMk c rs fr sem) := by
  intro Γ A σ H Q Rr cl h
  refine ha Γ A σ H _ Rr cl ?_
  unfold cMk at h
  cases ea : fr (ers n A) with
  | bad => rw [ea] at h; exact h.elim
  | exc c d S => rw [ea] at h; exact h
  | ok ds S1 =>
    rw [ea] at h
    dsimp only [Lin.R.bind] at h
    intro A1 ts H1 R1 x1 e1 d1 hk x dx hx hdx ne
    split at h
    · rename_i hof
      have n1 : n ≤ A1.length := by rw [x1.len]; exact Rr.len
      rw [← d1] at h hof
      have hl' : ts.length = rs.length := by simpa using hof.1
      have slots : ∀ r ∈ rs.filterMap id, r < n := fun r hr => by
        obtain ⟨o, ho, e⟩ := List.mem_filterMap.mp hr
        have e : o = some r := e
        subst e
        obtain ⟨j, hj, ej⟩ := List.getElem_of_mem ho
        obtain ⟨_, _, _, _, q⟩ := hk j r (by rw [List.getElem?_eq_getElem hj, ej])
        exact q
      have of2 : ∀ (i r : Nat) t, rs[i]? = some (some r) → ts[i]? = some t → ofD t.er = true := fun i r t h1 h2 => by
        have hz : (List.zip rs (ts.map T.er))[i]? = some (some r, t.er) := by
          rw [List.getElem?_zip_eq_some]
          exact ⟨h1, by rw [List.getElem?_map, h2]; rfl⟩
        have := List.all_eq_true.mp hof.2 _ (List.mem_of_getElem? hz)
        simpa using this
      have co := R1.callOk n1 hl' of2
      have fr2 : ∀ a o, H1 a = some o → (upd (upd H1 dx (.own x)) x (.ins (g.cl c) dx [])) a = some o := fun a o h => by
        rw [upd_ne (ne_of_none h hx), upd_ne (ne_of_none h hdx)]; exact h
      have cells1 : cellsL g (T.nd x .own (.obj c []) dx [] :: argsT rs ts) = (Kd.own, x, HO.ins (g.cl c) dx []) :: cellsL g (argsT rs ts) := by
        rw [cellsL, T.cells]; rfl
      refine ⟨T.nd x .own (.obj c []) dx [] :: argsT rs ts, by rw [List.map_cons, argsT_root rs ts hl']; rfl, ?_, ?_⟩
      · refine ⟨by simp [co.len], fun cl hc => ?_, fun i u hu cl hc => ?_, ?_, fun cl hc d hd hown hadr => ?_, tabs_ext co.tab fr2⟩
        · rw [cells1] at hc
          rcases List.mem_cons.mp hc with rfl | hc
          · exact .inl upd_same
          · exact (co.hold cl hc).ext fun o => fr2 _ o
        · cases i with
          | zero =>
            have hu : T.nd x .own (.obj c []) dx [] = u := by simpa using hu
            subst hu
            rw [T.cells] at hc
            have : cl = (Kd.own, x, ho g (.obj c []) dx ([].map T.root)) := by simpa [cellsL, kz] using hc
            exact .inr (.inl ⟨rfl, by rw [this]⟩)
          | succ i =>
            have := co.kind i u (by simpa using hu) cl hc
            simpa using this
        · rw [cells1]
          have : ownsC ((Kd.own, x, HO.ins (g.cl c) dx []) :: cellsL g (argsT rs ts)) = x :: ownsC (cellsL g (argsT rs ts)) := by simp [ownsC]
          rw [this]
          refine List.nodup_cons.mpr ⟨fun hm => ?_, co.nd⟩
          obtain ⟨d, hd, _, k2⟩ := mem_ownsC.mp hm
          exact (co.hold d hd).none (by rw [k2]; exact hx)
        · rw [cells1] at hc hd
          rcases List.mem_cons.mp hc with rfl | hc
          · rcases List.mem_cons.mp hd with rfl | hd
            · rfl
            · exact ((co.hold d hd).none (by rw [hadr]; exact hx)).elim
          · rcases List.mem_cons.mp hd with rfl | hd
            · rfl
            · exact co.sep cl hc d hd hown hadr
      · rw [List.map_cons, argsT_er]
        have eself : (T.nd x .own (.obj c []) dx []).er = .nd .own (.obj c []) [] := by simp [T.er, erL]
        rw [eself]
        have nx : ∀ us : List T, NextM n M1 A (setAll A1 (rs.filterMap id) (us.map some)) := fun us => by
          refine ⟨⟨by rw [setAll_length]; exact x1.len, by rw [setAll_drop _ _ _ slots]; exact x1.tmp⟩, fun i hi hmi => ?_⟩
          rw [setAll_out _ _ _ _ fun z => hmi (hm i z)]
          exact x1.slot i hi hmi
        have es : ∀ us : List T, ers n (setAll A1 (rs.filterMap id) (us.map some)) = backS rs (us.map T.er) S1 := fun us => by
          unfold ers backS
          rw [setAll_take _ _ _ slots, setAll_map, List.map_map]
          have : (List.take n A1).map (Option.map T.er) = S1 := e1
          rw [this, List.map_map]
          rfl
        split at h
        · rename_i d ms q
          rw [q]
          intro H' t us b et eu
          cases us with
          | nil => simp at eu
          | cons self' us =>
            simp only [List.map_cons, List.cons.injEq] at eu
            have ht := er_im et
            subst ht
            obtain ⟨b1, _, hr⟩ := back_mk hx hdx ne (fun c hc => by simp [T.cells] at hc) b
            refine ⟨rfl, ?_⟩
            have := h _ self' H' (R1.back n1 hl' hnd hk (b1 (by simp [T.cells]))) (nx us) (by rw [es us, eu.2]) eu.1
            rw [hr] at this
            exact this
        · rename_i e d d' ms q
          rw [q]
          intro H' t us b et eu
          cases us with
          | nil => simp at eu
          | cons self' us =>
            simp only [List.map_cons, List.cons.injEq] at eu
            have hk1 : ∀ c ∈ t.cells g, c.1 = .own ∨ c.1 = .frz := fun c hc => b.kind c (List.mem_append_left _ hc)
            obtain ⟨_, b2, _⟩ := back_mk hx hdx ne hk1 b
            exact h _ t H' (R1.back n1 hl' hnd hk b2) (nx us).toNext (by rw [es us, eu.2]) et
        · exact h.elim
    · exact h.elim
/-! ### o.m(..): the receiver is looked at ahead of the arguments -/
def tChk (P : V → Hp → Prop) (ta : TE) (tr : TA) : TA := fun σ H Q => ta σ H fun x H1 => P x H1 ∧ tr σ H1 fun xs H2 => Q (x :: xs) H2
/-- an instance of the class c that has no attribute m of its own -/
def isObjD (c : Nat) (m : Str) (d : D) : Bool := match d with
  | .nd _ (.obj c' ns) _ => c' == c && !(ns.contains m)
  | _ => false
def rObj (C : Addr) (m : Str) : V → Hp → Prop := fun x H => ∃ a dx fs, x = .ref a ∧ H a = some (.ins C dx fs) ∧ fs.lookup m = none
theorem zip_lookup_none {α : Type} (m : Str) : ∀ (ns : List Str) (xs : List α), ns.contains m = false → (ns.zip xs).lookup m = none
  | [], _, _ => by simp
  | _ :: _, [], _ => by simp
  | n :: ns, x :: xs, h => by
    rw [List.contains_cons, Bool.or_eq_false_iff] at h
    simp only [List.zip_cons_cons, List.lookup_cons]
    rw [h.1]
    exact zip_lookup_none m ns xs h.2
theorem obj_of {c : Nat} {m : Str} (Rr : Rel g Γ n (A ++ [some t]) σ H) (h : isObjD c m t.er = true) : rObj (g.cl c) m t.root H := by
  unfold isObjD at h
  split at h
  · rename_i k c' ns ds e
    rw [Bool.and_eq_true] at h
    have hc : c' = c := by simpa using h.1
    subst hc
    obtain ⟨a, dx, ts, rfl, h1⟩ := er_nd e
    exact ⟨a, dx, _, rfl, Rr.top1.flat id, zip_lookup_none m ns _ (by simpa using h.2)⟩
  · cases h
def cConsK (P : D → Bool) (M2 : List Nat) (fa : Sg → R D) (fr : Sg → R (List D)) : Sg → R (List D) := fun S => (fa S).bind fun da S1 => if cleanD M2 da = true ∧ P da = true then (fr S1).bind fun ds S2 => .ok (da :: ds) S2 else .bad
theorem meanc_valK {rs : List (Option Nat)} {ta : TE} {tr : TA} {fa : Sg → R D} {fr : Sg → R (List D)} {P : V → Hp → Prop} {Pd : D → Bool} (hP : ∀ Γ A t σ H, Rel g Γ n (A ++ [some t]) σ H → Pd t.er = true → P t.root H) (ha : MeanE g n W M1 ta fa) (hr : MeanC g n W rs M2 tr fr) :
    MeanC g n W (none :: rs) (M1 ++ M2) (tChk P ta tr) (cConsK Pd M2 fa fr) := by
  intro Γ A σ H Q Rr cl h
  refine ha Γ A σ H _ Rr cl.left ?_
  unfold cConsK at h
  cases ea : fa (ers n A) with
  | bad => rw [ea] at h; exact h.elim
  | exc c d S => rw [ea] at h; exact h
  | ok da S1 =>
    rw [ea] at h
    dsimp only [Lin.R.bind] at h
    intro A1 t1 H1 R1 x1 e1 d1
    by_cases hc : cleanD M2 da = true ∧ Pd da = true
    · rw [if_pos hc] at h
      have n1 : n ≤ A1.length := by rw [x1.len]; exact Rr.len
      refine ⟨hP Γ A1 t1 σ H1 R1 (by rw [d1]; exact hc.2), hr Γ (A1 ++ [some t1]) σ H1 _ R1 ((cl.right.next x1.toNext Rr.len).snoc (by rw [d1]; exact hc.1)) ?_⟩
      rw [ers_append n1, e1]
      cases eb : fr S1 with
      | bad => rw [eb] at h; exact h.elim
      | exc c d S =>
        rw [eb] at h
        intro A2 t2 H2 R2 x2 e2 d2
        obtain ⟨y, z⟩ := x2.left n1
        have n3 : n ≤ (A2.take A1.length).length := by rw [y.len]; exact n1
        rw [z] at R2 e2
        exact h (A2.take A1.length) t2 H2 (R2.mid n3) (x1.toNext.trans y) (by rw [ers_append n3] at e2; exact e2) d2
      | ok ds S2 =>
        rw [eb] at h
        dsimp only [Lin.R.bind] at h
        intro A2 ts H2 R2 x2 e2 d2 hk
        obtain ⟨y, z⟩ := x2.left n1
        have n3 : n ≤ (A2.take A1.length).length := by rw [y.len]; exact n1
        rw [z, List.append_assoc] at R2
        have := h (A2.take A1.length) (t1 :: ts) H2 (by simpa using R2) (x1.trans y) (by rw [z, ers_append n3] at e2; exact e2) (by simp [d1, d2]) (fun i r e => by
          cases i with
          | zero => simp at e
          | succ i =>
            obtain ⟨u, h1, h2, h3, h4⟩ := hk i r (by simpa using e)
            refine ⟨u, by simpa using h1, h2, ?_, h4⟩
            rw [z, List.getElem?_append_left (by omega)] at h3
            exact h3)
        exact this
    · rw [if_neg hc] at h; exact h.elim
end
end Lin
end
section
namespace Lin
open PySem L2
/-! ### calls as values, in the text -/
section
variable {X : Cx} {k : Nat} {f C : Addr} {fd : FuncData} {ps : List Str} {sp : Sp} {E : L2.St → XK} {x m : Str} {p pos apos : Pos} {e o : Expr} {es : List Expr} {ta : TE} {t : TA}
theorem pe_methS {CX : CXT} {pl : Sem Bool} (he : PE X o ta) (c : Cls X.K C) (hm : Meth X.K C m f) (F : FnOk X.prog X.w X.K X.mg X.base CX k f fd ps sp) (hr : Room k X.A) (hb : Binds X.K fd ps []) (hx : ∀ σ, PassesAt CX X σ (E σ)) (ha : PA X (e :: es) t)
    (hst : starEach (e :: es) X.env = (false, eval e X.env) :: starEach es X.env := by rfl) (hpl : (backTo pos (starEach es X.env)).any (·.1) = false := by rfl)
    (ht : eval (.Call (.Attribute o m apos) (e :: es) [] pos) X.env = (do
      let ov ← eval o X.env
      standAt apos.atName
      let (f, first) ← holding [ov] (getMethod ov m pl)
      callWith pos f first (backTo pos (starEach (e :: es) X.env)) (backToKw pos (keywordEach [] X.env))) := by rfl) :
    PE X (.Call (.Attribute o m apos) (e :: es) [] pos) (tCallS sp E (tChk (rObj C m) ta t)) := by
  refine ⟨fun pins s σ H Q I h => ?_⟩
  refine PySem.W.methodCall_KW (pl := pl) (thn (he.run pins s σ H _ I h) fun u s1 ⟨x, H1, I1, rx, ⟨a, dx, fs, ex, ea, l⟩, q⟩ => ?_) ht
  subst ex
  obtain rfl : u = Value.ref a := rx
  refine getmeth_ok I1 ea c hm l ?_
  refine PySem.W.callWith_K (first := [.ref a]) (h₀ := X.base) I.ok.mod.kin hm.kp (thn (ha.run pos pins s1 σ H1 _ I1 q) fun us s2 ⟨vs, H2, I2, r, q2⟩ => ⟨I2.kIn, ?_⟩) hst hpl
  exact run_fnS (us := .ref a :: us) (vs := .ref a :: vs) F hr hb (hx σ) I2 (.cons rfl r) q2
theorem pe_meth0S {CX : CXT} {pl : Sem Bool} (he : PE X o ta) (c : Cls X.K C) (hm : Meth X.K C m f) (F : FnOk X.prog X.w X.K X.mg X.base CX k f fd ps sp) (hr : Room k X.A) (hb : Binds X.K fd ps []) (hx : ∀ σ, PassesAt CX X σ (E σ))
    (ht : eval (.Call (.Attribute o m apos) [] [] pos) X.env = (do
      let ov ← eval o X.env
      standAt apos.atName
      let (f, first) ← holding [ov] (getMethod ov m pl)
      callWith pos f first (backTo pos (starEach [] X.env)) (backToKw pos (keywordEach [] X.env))) := by rfl) :
    PE X (.Call (.Attribute o m apos) [] [] pos) (tCallS sp E (tChk (rObj C m) ta tNil)) := by
  refine ⟨fun pins s σ H Q I h => ?_⟩
  refine PySem.W.methodCall_KW (pl := pl) (thn (he.run pins s σ H _ I h) fun u s1 ⟨x, H1, I1, rx, ⟨a, dx, fs, ex, ea, l⟩, q⟩ => ?_) ht
  subst ex
  obtain rfl : u = Value.ref a := rx
  refine getmeth_ok I1 ea c hm l ?_
  exact PySem.W.callWith_K0 (first := [.ref a]) I1.kIn hm.kp (run_fnS (us := [.ref a]) (vs := [.ref a]) F hr hb (hx σ) I1 (.cons rfl .nil) q)
theorem run_makeS {CX : CXT} {pins : List (Addr × Obj)} {σ : L2.St} {H : Hp} {s : Shared} {Q : VK} {us : List Value} {vs : List V} (M : Mk X.K C f) (F : FnOk X.prog X.w X.K X.mg X.base CX k f fd ps sp) (hr : Room (k + 1) X.A) (hb : Binds X.K fd ps [])
    (hx : PassesAt CX X σ (E σ)) (I : Inv X pins σ H s) (r : Vals vs us)
    (h : ∀ x dx, H x = none → H dx = none → dx ≠ x → sp (.ref x :: vs) (upd (upd H dx (.own x)) x (.ins C dx [])) (fun v H2 => v = .non ∧ Q (.ref x) H2) (E σ)) :
    wpAny (model X.prog X.w) X.A (call (.ref C) us) (EP X pins σ Q) X.xe s := by
  have hq := h (s.heap.objs.size + 1) s.heap.objs.size (I.hok.fresh (Nat.le_succ _)) (I.hok.fresh (Nat.le_refl _)) (Nat.ne_of_lt (Nat.lt_succ_self _))
  have I2 := Inv.made (C := C) I
  have r2 : Vals (V.ref (s.heap.objs.size + 1) :: vs) (Value.ref (s.heap.objs.size + 1) :: us) := .cons rfl r
  have hl : (Value.ref (s.heap.objs.size + 1) :: us ++ []).length = ps.length := by
    have e := r2.length
    rw [F.len _ _ _ _ hq] at e
    rw [List.append_nil]
    exact e.symm
  have b := hb _ (Value.ref (s.heap.objs.size + 1) :: us) I2.kIn hl
  rw [List.append_nil] at b
  refine wpAny_call (make_map (f := f) I.kIn M.makes M.init (beq_iff_eq.mp M.fn) (codeAny_mono (F.run _ X.stack _ _ ⟨Value.ref (s.heap.objs.size + 1) :: us, []⟩ (Value.ref (s.heap.objs.size + 1) :: us) _ _ (E σ) (hr.make C us [])
    (I2.env0.make C us []) b r2 hq) fun r s' hq' => ?_))
  cases r with
  | error e => exact hx pins _ _ e s' I2 hq'
  | ok fl =>
    cases fl with
    | ret u =>
      obtain ⟨v, H', I3, rv, ev, q3⟩ := I2.after hq'
      subst ev
      exact ⟨rv, ⟨V.ref (s.heap.objs.size + 1), H', I3, rfl, q3⟩⟩
    | next => exact False.elim hq'
    | brk => exact False.elim hq'
    | cont => exact False.elim hq'
theorem pe_makeS {CX : CXT} (M : Mk X.K C f) (F : FnOk X.prog X.w X.K X.mg X.base CX k f fd ps sp) (hr : Room (k + 1) X.A) (hg : Gl X x) (hm : X.mg x = some (.ref C)) (hb : Binds X.K fd ps []) (hx : ∀ σ, PassesAt CX X σ (E σ))
    (ha : PA X (e :: es) t) (hdb : (x == ("__debug__" : Str)) = false := by decide) (he : starEach (e :: es) X.env = (false, eval e X.env) :: starEach es X.env := by rfl) (hpl : (backTo pos (starEach es X.env)).any (·.1) = false := by rfl) :
    PE X (.Call (.Name x p) (e :: es) [] pos) (tMakeS C sp E t) := by
  refine ⟨fun pins s σ H Q I h => ?_⟩
  refine wpAny_Call_Name_kw (ld_glob I hg hm ?_ hdb)
  refine PySem.W.callWith_K (h₀ := X.base) I.ok.mod.kin M.kp (thn (ha.run pos pins s σ H _ I h) fun us s1 ⟨vs, H1, I1, r, q⟩ => ⟨I1.kIn, ?_⟩) he hpl
  exact run_makeS M F hr hb (hx σ) I1 r q
/-- an instance of C -/
def rIns (C : Addr) : V → Hp → Prop := fun x H => ∃ a dx fs, x = .ref a ∧ H a = some (.ins C dx fs)
/-- x in o -/
structure Spec1 (K : PySem.W.Frag) (C : Addr) (m : Str) (f : Addr) : Prop where
  at_ : PySem.W.findIn K (.ref C) m = some (some (.ref f))
  fn : PySem.W.isFn K (.ref f) = true
def rInO (C : Addr) (sp : Sp) (neg : Bool) : R2 := fun x y H Q => rIns C y H ∧ sp [y, x] H (fun v H' => ∃ b, v = .bl b ∧ Q (.bl (if neg then !b else b)) H') E0
theorem op_inO (c : Spec1 X.K C "__contains__" f) (F : FnOk X.prog X.w X.K X.mg X.base (L2.CX X.prog X.w) k f fd ps sp) (hr : Room k X.A) (hb : Binds X.K fd ps []) : OpR X (compareOp .In) (rInO C sp false) := by
  intro pins s σ H x y v u Q I rx ry h
  obtain ⟨⟨a, dx, fs, rfl, ea⟩, q⟩ := h
  cases ry
  obtain ⟨mA, O, _⟩ := ins_get I.hok ea
  obtain ⟨od, J, _⟩ := O.look
  obtain ⟨m, fr⟩ := I.fr
  refine PySem.W.in_K fr I.ok.mod.kin J c.at_ c.fn (thn (run_fnS (E := fun _ => E0) (us := [.ref a, v]) (vs := [.ref a, x]) F hr hb (fun pins H s e s' I c => passL pins σ H s e s' I c) I (.cons rfl (.cons rx .nil)) q) fun r s1 ⟨z, H1, I1, rz, b, ez, q1⟩ => ?_)
  subst ez
  cases rz
  exact wpAny_truthy_bool ⟨.bl b, H1, I1, rfl, q1⟩
theorem op_notInO (c : Spec1 X.K C "__contains__" f) (F : FnOk X.prog X.w X.K X.mg X.base (L2.CX X.prog X.w) k f fd ps sp) (hr : Room k X.A) (hb : Binds X.K fd ps []) : OpR X (compareOp .NotIn) (rInO C sp true) := by
  intro pins s σ H x y v u Q I rx ry h
  obtain ⟨⟨a, dx, fs, rfl, ea⟩, q⟩ := h
  cases ry
  obtain ⟨mA, O, _⟩ := ins_get I.hok ea
  obtain ⟨od, J, _⟩ := O.look
  obtain ⟨m, fr⟩ := I.fr
  refine PySem.W.notIn_K fr I.ok.mod.kin J c.at_ c.fn (thn (run_fnS (E := fun _ => E0) (us := [.ref a, v]) (vs := [.ref a, x]) F hr hb (fun pins H s e s' I c => passL pins σ H s e s' I c) I (.cons rfl (.cons rx .nil)) q) fun r s1 ⟨z, H1, I1, rz, b, ez, q1⟩ => ?_)
  subst ez
  cases rz
  exact wpAny_truthy_bool ⟨.bl (!b), H1, I1, rfl, q1⟩
/-- len(o) -/
def rLenO (C : Addr) (sp : Sp) : List V → Hp → VK → Prop := fun xs H Q => ∃ y, xs = [y] ∧ rIns C y H ∧ sp [y] H (fun v H' => ∃ n, v = .int n ∧ 0 ≤ n ∧ n < 2 ^ 63 ∧ Q (.int n) H') E0
theorem call_lenO (c : Spec1 X.K C "__len__" f) (F : FnOk X.prog X.w X.K X.mg X.base (L2.CX X.prog X.w) k f fd ps sp) (hr : Room (k + 1) X.A) (hb : Binds X.K fd ps []) : CallR X (.builtin "len") (rLenO C sp) := by
  intro pins s σ H xs us Q I r h
  obtain ⟨y, rfl, ⟨a, dx, fs, rfl, ea⟩, q⟩ := h
  obtain ⟨u, rfl, rx⟩ := vals1 r
  cases rx
  obtain ⟨mA, O, _⟩ := ins_get I.hok ea
  obtain ⟨od, J, _⟩ := O.look
  obtain ⟨m, fr⟩ := I.fr
  refine PySem.W.len_K fr I.ok.mod.kin J c.at_ c.fn ?_
  have hl : ([Value.ref a] : List Value).length = ps.length := F.len _ _ _ _ q
  have b := hb s [Value.ref a] I.kIn (by rw [List.append_nil]; exact hl)
  rw [List.append_nil] at b
  refine wpAny_call (codeAny_mono (F.run X.A.in1 X.stack s H ⟨[.ref a], []⟩ [.ref a] [.ref a] _ E0 hr.in1 I.env0.in1 b (.cons rfl .nil) q) fun r s' hq => ?_)
  cases r with
  | error e => exact (passL (X := X.wish (fun _ _ => False)) pins σ H s e s' (I.wish _) hq).elim
  | ok fl =>
    cases fl with
    | ret u =>
      obtain ⟨v, H', I3, rv, n, ev, h0, h1, q3⟩ := I.after hq
      subst ev
      obtain ⟨tk, rfl⟩ := rv
      exact ⟨⟨h0, h1⟩, ⟨.int n, H', I3.tok _, ⟨_, rfl⟩, q3⟩⟩
    | next => exact False.elim hq
    | brk => exact False.elim hq
    | cont => exact False.elim hq
end
end Lin
end
section
namespace Lin
open PySem L2
/-! ### calls of built-ins: an immediate result -/
def immV (o : List D → Option V) : List D → Option D := fun ds => (o ds).map .im
section
variable {g : Gc} {n : Nat}
theorem cam_imm {r : List V → Hp → VK → Prop} {o : List D → Option V}
    (h : ∀ (H : Hp) (ts : List T) (v : V) (Q : VK), (∀ c ∈ cellsL g ts, Hd H c) → o (ts.map T.er) = some v → Q v H → r (ts.map T.root) H Q) : CaM g n r (immV o) := by
  intro Γ A ts σ H Q d Rr hn eo hq
  unfold immV at eo
  cases e : o (ts.map T.er) with
  | none => rw [e] at eo; cases eo
  | some v =>
    rw [e] at eo
    cases eo
    refine h H ts v Q (fun c hc => ?_) e (hq (.im v) H (Rr.imm hn _) rfl)
    obtain ⟨i, x⟩ := cellAt_map.mpr hc
    obtain ⟨t, e1, e2⟩ := x
    exact Rr.hold (A.length + i) c ⟨t, by rw [List.getElem?_append_right (by omega)]; simpa using e1, e2⟩
theorem CaM.or {r1 r2 : List V → Hp → VK → Prop} {o1 o2 : List D → Option D} (h1 : CaM g n r1 o1) (h2 : CaM g n r2 o2) : CaM g n (fun xs H Q => r1 xs H Q ∨ r2 xs H Q) (fun ds => (o1 ds).or (o2 ds)) := by
  intro Γ A ts σ H Q d Rr hn eo hq
  dsimp only at eo
  cases e : o1 (ts.map T.er) with
  | some d' =>
    rw [e] at eo
    have : d' = d := by simpa using eo
    subst this
    exact .inl (h1 Γ A ts σ H Q _ Rr hn e hq)
  | none =>
    rw [e] at eo
    exact .inr (h2 Γ A ts σ H Q _ Rr hn (by simpa using eo) hq)
theorem er1 {ts : List T} {x : D} (h : ts.map T.er = [x]) : ∃ t, ts = [t] ∧ t.er = x := er_one h
theorem holdNd {H : Hp} {a : Addr} {k : Kd} {s : Sh} {dx : Addr} {ts us : List T} (h : ∀ c ∈ cellsL g (.nd a k s dx ts :: us), Hd H c) : Hd H (kz s k, a, ho g s dx (ts.map T.root)) :=
  h (kz s k, a, ho g s dx (ts.map T.root)) (by rw [cellsL, T.cells]; simp)

def dInts : List D → Option (List Int)
  | [] => some []
  | .im (.int i) :: r => (dInts r).map (i :: ·)
  | _ => none
def dBls : List D → Option (List Bool)
  | [] => some []
  | .im (.bl i) :: r => (dBls r).map (i :: ·)
  | _ => none
theorem ints_root : ∀ (ts : List T) (ns : List Int), dInts (ts.map T.er) = some ns → ts = ns.map fun i => T.im (.int i)
  | [], ns, h => by
    simp [dInts] at h
    subst h; rfl
  | t :: r, ns, h => by
    rw [List.map_cons] at h
    unfold dInts at h
    split at h
    · cases ‹_ = []›
    · rename_i i r' e
      obtain ⟨e1, e2⟩ := List.cons.inj e
      subst e2
      cases q : dInts (r.map T.er) with
      | none => rw [q] at h; cases h
      | some ms =>
        rw [q] at h
        cases h
        rw [er_im e1, ints_root r ms q]; rfl
    · cases h
theorem bls_root : ∀ (ts : List T) (ns : List Bool), dBls (ts.map T.er) = some ns → ts = ns.map fun i => T.im (.bl i)
  | [], ns, h => by
    simp [dBls] at h
    subst h; rfl
  | t :: r, ns, h => by
    rw [List.map_cons] at h
    unfold dBls at h
    split at h
    · cases ‹_ = []›
    · rename_i i r' e
      obtain ⟨e1, e2⟩ := List.cons.inj e
      subst e2
      cases q : dBls (r.map T.er) with
      | none => rw [q] at h; cases h
      | some ms =>
        rw [q] at h
        cases h
        rw [er_im e1, bls_root r ms q]; rfl
    · cases h
theorem roots_int (ns : List Int) : (ns.map fun i => T.im (.int i)).map T.root = ns.map V.int := by simp [T.root, Function.comp_def]
theorem roots_bl (ns : List Bool) : (ns.map fun i => T.im (.bl i)).map T.root = ns.map V.bl := by simp [T.root, Function.comp_def]
theorem ers_int (ns : List Int) : (ns.map fun i => T.im (.int i)).map T.er = ns.map fun i => D.im (.int i) := by simp [T.er, Function.comp_def]
theorem cells_int (ns : List Int) : cellsL g (ns.map fun i => T.im (.int i)) = [] := by
  induction ns with
  | nil => rfl
  | cons i r ih => simp [cellsL, T.cells, ih]
/-! len -/
def vLen (ds : List D) : Option V := match ds with
  | [.nd _ .lst xs] => some (.int xs.length)
  | [.nd _ .tup xs] => some (.int xs.length)
  | _ => none
theorem cam_len {K : PySem.W.Frag} : CaM g n (fun xs H Q => ∃ p ys, xs = [V.ref p] ∧ (SqL K H p ys ∨ SqT K H p ys) ∧ Q (.int ys.length) H) (immV vLen) :=
  cam_imm fun H ts v Q hc e hq => by
    unfold vLen at e
    split at e
    · rename_i k xs q
      obtain ⟨t, rfl, q'⟩ := er1 q
      obtain ⟨a, dx, us, rfl, h1⟩ := er_nd q'
      cases e
      exact ⟨a, us.map T.root, rfl, .inl (SqL.of ((holdNd hc).flat id)), by rw [← h1] at hq; simpa using hq⟩
    · rename_i k xs q
      obtain ⟨t, rfl, q'⟩ := er1 q
      obtain ⟨a, dx, us, rfl, h1⟩ := er_nd q'
      cases e
      exact ⟨a, us.map T.root, rfl, .inr (SqT.of ((holdNd hc).flat id)), by rw [← h1] at hq; simpa using hq⟩
    · cases e
def vLenD (ds : List D) : Option V := match ds with
  | [.nd _ (.dic ks) xs] => if ks.length = xs.length then some (.int ks.length) else none
  | _ => none
def rLenD : List V → Hp → VK → Prop := fun xs H Q => ∃ a kvs, xs = [V.ref a] ∧ Rd H a (.dK kvs) ∧ Q (.int kvs.length) H
theorem call_lenD {X : Cx} : CallR X (.builtin "len") rLenD := by
  intro pins s σ H xs us Q I r h
  obtain ⟨a, kvs, rfl, e, q⟩ := h
  rw [Vals.ref1 r]
  exact d_len I e fun t s' I' => ⟨.int kvs.length, H, I', ⟨t, rfl⟩, q⟩
theorem cam_lenD : CaM g n rLenD (immV vLenD) :=
  cam_imm fun H ts v Q hc e hq => by
    unfold vLenD at e
    split at e
    · rename_i k ks xs q
      obtain ⟨t, rfl, q'⟩ := er1 q
      obtain ⟨a, dx, us, rfl, h1⟩ := er_nd q'
      split at e
      · rename_i hl
        cases e
        refine ⟨a, _, rfl, (holdNd hc).rd, ?_⟩
        rw [List.length_zip, List.length_map]
        have : us.length = ks.length := by rw [hl, ← h1]; simp
        rw [this, Nat.min_self]
        exact hq
      · cases e
    · cases e

def vInt1 (f : Int → V) (ds : List D) : Option V := match ds with
  | [.im (.int i)] => some (f i)
  | _ => none
def vInt2 (f : Int → Int → V) (ds : List D) : Option V := match ds with
  | [.im (.int i), .im (.int j)] => some (f i j)
  | _ => none
theorem cam_int1 {f : Int → V} : CaM g n (fun xs H Q => ∃ i, xs = [V.int i] ∧ Q (f i) H) (immV (vInt1 f)) :=
  cam_imm fun H ts v Q hc e hq => by
    unfold vInt1 at e
    split at e
    · rename_i i q
      obtain ⟨t, rfl, q'⟩ := er1 q
      cases e
      exact ⟨i, by rw [er_im q']; rfl, hq⟩
    · cases e
theorem cam_int2 {f : Int → Int → V} : CaM g n (fun xs H Q => ∃ i j, xs = [V.int i, V.int j] ∧ Q (f i j) H) (immV (vInt2 f)) :=
  cam_imm fun H ts v Q hc e hq => by
    unfold vInt2 at e
    split at e
    · rename_i i j q
      obtain ⟨t, u, rfl, q1, q2⟩ := er_two q
      cases e
      exact ⟨i, j, by rw [er_im q1, er_im q2]; rfl, hq⟩
    · cases e
def vToInt (ds : List D) : Option V := match ds with
  | [.im (.int i)] => some (.int i)
  | [.im (.bl k)] => some (.int (if k then 1 else 0))
  | _ => none
theorem cam_toInt : CaM g n (fun xs H Q => (∃ i, xs = [V.int i] ∧ Q (.int i) H) ∨ ∃ k, xs = [V.bl k] ∧ Q (.int (if k then 1 else 0)) H) (immV vToInt) :=
  cam_imm fun H ts v Q hc e hq => by
    unfold vToInt at e
    split at e
    · rename_i i q
      obtain ⟨t, rfl, q'⟩ := er1 q
      cases e
      exact .inl ⟨i, by rw [er_im q']; rfl, hq⟩
    · rename_i i q
      obtain ⟨t, rfl, q'⟩ := er1 q
      cases e
      exact .inr ⟨i, by rw [er_im q']; rfl, hq⟩
    · cases e
/-! sum, all, any, max, min of a list -/
def vSum (ds : List D) : Option V := match ds with
  | [.nd _ .lst xs] => (dInts xs).map fun ns => .int ns.sum
  | _ => none
def vAll (ds : List D) : Option V := match ds with
  | [.nd _ .lst xs] => (dBls xs).map fun ns => .bl (ns.all id)
  | _ => none
def vMaxL (ds : List D) : Option V := match ds with
  | [.nd _ .lst xs] => (dInts xs).bind fun ns => ns.max?.map .int
  | _ => none
def vMinL (ds : List D) : Option V := match ds with
  | [.nd _ .lst xs] => (dInts xs).bind fun ns => ns.min?.map .int
  | _ => none
theorem listInts {K : PySem.W.Frag} {H : Hp} {ts : List T} {k : Kd} {xs : List D} {ns : List Int} (hc : ∀ c ∈ cellsL g ts, Hd H c) (q : ts.map T.er = [.nd k .lst xs]) (e : dInts xs = some ns) : ∃ a, ts.map T.root = [V.ref a] ∧ H a = some (.lst (ns.map V.int)) := by
  obtain ⟨t, rfl, q'⟩ := er1 q
  obtain ⟨a, dx, us, rfl, h1⟩ := er_nd q'
  rw [← h1] at e
  have := ints_root us ns e
  refine ⟨a, rfl, ?_⟩
  have h := (holdNd hc).flat id
  rw [this, roots_int] at h
  exact h
theorem listBls {K : PySem.W.Frag} {H : Hp} {ts : List T} {k : Kd} {xs : List D} {ns : List Bool} (hc : ∀ c ∈ cellsL g ts, Hd H c) (q : ts.map T.er = [.nd k .lst xs]) (e : dBls xs = some ns) : ∃ a, ts.map T.root = [V.ref a] ∧ H a = some (.lst (ns.map V.bl)) := by
  obtain ⟨t, rfl, q'⟩ := er1 q
  obtain ⟨a, dx, us, rfl, h1⟩ := er_nd q'
  rw [← h1] at e
  have := bls_root us ns e
  refine ⟨a, rfl, ?_⟩
  have h := (holdNd hc).flat id
  rw [this, roots_bl] at h
  exact h
theorem cam_sum {K : PySem.W.Frag} : CaM g n (rSum K) (immV vSum) :=
  cam_imm fun H ts v Q hc e hq => by
    unfold vSum at e
    split at e
    · rename_i k xs q
      cases e2 : dInts xs with
      | none => rw [e2] at e; cases e
      | some ns =>
        rw [e2] at e; cases e
        obtain ⟨a, h1, h2⟩ := listInts (K := K) hc q e2
        exact ⟨a, ns, h1, SqL.of h2, hq⟩
    · cases e
theorem cam_all {K : PySem.W.Frag} : CaM g n (rAll K) (immV vAll) :=
  cam_imm fun H ts v Q hc e hq => by
    unfold vAll at e
    split at e
    · rename_i k xs q
      cases e2 : dBls xs with
      | none => rw [e2] at e; cases e
      | some ns =>
        rw [e2] at e; cases e
        obtain ⟨a, h1, h2⟩ := listBls (K := K) hc q e2
        exact ⟨a, ns, h1, SqL.of h2, hq⟩
    · cases e
theorem cam_maxL {K : PySem.W.Frag} : CaM g n (rMax K) (immV vMaxL) :=
  cam_imm fun H ts v Q hc e hq => by
    unfold vMaxL at e
    split at e
    · rename_i k xs q
      cases e2 : dInts xs with
      | none => rw [e2] at e; cases e
      | some ns =>
        rw [e2] at e
        cases e3 : ns.max? with
        | none => rw [Option.bind_some, e3] at e; cases e
        | some m =>
          rw [Option.bind_some, e3] at e; cases e
          obtain ⟨a, h1, h2⟩ := listInts (K := K) hc q e2
          obtain ⟨z1, z2⟩ := List.max?_eq_some_iff.mp e3
          refine ⟨a, ns, h1, SqL.of h2, List.length_pos_of_mem z1, fun m' y1 y2 => ?_⟩
          have := z2 m' y1
          have := y2 m z1
          rw [show m' = m by omega]; exact hq
    · cases e
theorem cam_minL {K : PySem.W.Frag} : CaM g n (rMin K) (immV vMinL) :=
  cam_imm fun H ts v Q hc e hq => by
    unfold vMinL at e
    split at e
    · rename_i k xs q
      cases e2 : dInts xs with
      | none => rw [e2] at e; cases e
      | some ns =>
        rw [e2] at e
        cases e3 : ns.min? with
        | none => rw [Option.bind_some, e3] at e; cases e
        | some m =>
          rw [Option.bind_some, e3] at e; cases e
          obtain ⟨a, h1, h2⟩ := listInts (K := K) hc q e2
          obtain ⟨z1, z2⟩ := List.min?_eq_some_iff.mp e3
          refine ⟨a, ns, h1, SqL.of h2, List.length_pos_of_mem z1, fun m' y1 y2 => ?_⟩
          have := z2 m' y1
          have := y2 m z1
          rw [show m' = m by omega]; exact hq
    · cases e
/-! isinstance -/
def tyN (d : D) : Option String := match d with
  | .im .non => some "NoneType"
  | .im (.bl _) => some "bool"
  | .im (.int _) => some "int"
  | .im (.str _) => some "str"
  | .nd _ .lst _ => some "list"
  | .nd _ .tup _ => some "tuple"
  | .nd _ (.dic _) _ => some "dict"
  | .nd _ (.dtu _) _ => some "dict"
  | _ => none
def vIsi (ds : List D) : Option V := match ds with
  | [d, .im (.ty m)] => (tyN d).bind fun a => (kitB a m).map .bl
  | _ => none
/-- isinstance of a dict with tuple keys that is locked, too -/
def TyZ (K : PySem.W.Frag) (H : Hp) (x : V) (t : Value) : Prop := TyX K H x t ∨ ∃ a o kvs, x = .ref a ∧ H a = some (.frz o (.dT kvs)) ∧ t = .type "dict"
def rIsz (K : PySem.W.Frag) : List V → Hp → VK → Prop := fun xs H Q => ∃ (x c : V) (t u : Value) (b : Bool), xs = [x, c] ∧ ClsV c u ∧ TyZ K H x t ∧ PySem.W.kitOne K t u = some b ∧ Q (.bl b) H
theorem call_isz {X : Cx} : CallR X (.builtin "isinstance") (rIsz X.K) := by
  intro pins s σ H xs us Q I r h
  obtain ⟨x, c, t, u, b, rfl, k, ty | ⟨a, o, kvs, rfl, ea, rfl⟩, e, q⟩ := h
  · exact call_isi pins s σ H _ us Q I r ⟨x, c, t, u, b, rfl, k, ty, e, q⟩
  · obtain ⟨u1, r0, rfl, r1, hr⟩ : ∃ u1 r0, us = u1 :: r0 ∧ RelV (.ref a) u1 ∧ Vals [c] r0 := by
      cases r with
      | cons h t => exact ⟨_, _, rfl, h, t⟩
    obtain ⟨u2, rfl, r2⟩ := hr.one
    have e2 := k.eq r2
    subst e2
    cases (show u1 = Value.ref a from r1)
    obtain ⟨_, hg, hx, _⟩ := I.frzT ea
    exact PySem.W.kia_one PySem.W.kitx_dict I.kIn ⟨o, hg, hx.1⟩ e (fun z => nomatch z) fun tk => ⟨.bl b, H, I.tok tk, rfl, q⟩
theorem ty_of {K : PySem.W.Frag} {H : Hp} {t : T} {a : String} (hc : ∀ c ∈ t.cells g, Hd H c) (h : tyN t.er = some a) : TyZ K H t.root (.type a) := by
  unfold tyN at h
  split at h
  · rename_i e; rw [er_im e]; cases h; exact .inl (.base .non)
  · rename_i e; rw [er_im e]; cases h; exact .inl (.base (.bl _))
  · rename_i e; rw [er_im e]; cases h; exact .inl (.base (.int _))
  · rename_i e; rw [er_im e]; cases h; exact .inl (.base (.str _))
  · rename_i e
    obtain ⟨b, dx, us, rfl, h1⟩ := er_nd e
    cases h
    exact .inl (.base (.lst ((hc _ (by rw [T.cells]; exact List.mem_cons_self)).flat id)))
  · rename_i e
    obtain ⟨b, dx, us, rfl, h1⟩ := er_nd e
    cases h
    exact .inl (.base (.tup ((hc _ (by rw [T.cells]; exact List.mem_cons_self)).flat id)))
  · rename_i e
    obtain ⟨b, dx, us, rfl, h1⟩ := er_nd e
    cases h
    rcases (hc _ (by rw [T.cells]; exact List.mem_cons_self) : Hd H _) with z | ⟨_, _, o, z⟩
    · exact .inl (.base (.dK z))
    · exact .inl (.fDict z)
  · rename_i e
    obtain ⟨b, dx, us, rfl, h1⟩ := er_nd e
    cases h
    rcases (hc _ (by rw [T.cells]; exact List.mem_cons_self) : Hd H _) with z | ⟨_, _, o, z⟩
    · exact .inl (.base (.dT z))
    · exact .inr ⟨_, o, _, rfl, z, rfl⟩
  · cases h
theorem cam_isi {K : PySem.W.Frag} : CaM g n (rIsz K) (immV vIsi) :=
  cam_imm fun H ts v Q hc e hq => by
    unfold vIsi at e
    split at e
    · rename_i d m q
      obtain ⟨t, u, rfl, q1, q2⟩ := er_two q
      cases e1 : tyN d with
      | none => rw [e1] at e; cases e
      | some a =>
        rw [e1] at e
        cases e2 : kitB a m with
        | none => rw [Option.bind_some, e2] at e; cases e
        | some b =>
          rw [Option.bind_some, e2] at e; cases e
          refine ⟨t.root, .ty m, .type a, .type m, b, by rw [er_im q2]; rfl, .ty m, ty_of (g := g) (fun c h => hc c (by rw [cellsL]; exact List.mem_append_left _ h)) (by rw [q1]; exact e1), kit_ty e2, hq⟩
    · cases e
end
end Lin
end
section
namespace Lin
open PySem L2
section
variable {g : Gc} {n : Nat} {W : WX} {Γ : Gh} {A A' A'' B : List (Option T)} {σ : L2.St} {H H' : Hp} {t : T} {M M1 M2 M3 : List Nat}
/-! ### list(x), tuple(x), sorted(x) -/
def dListOf (ds : List D) : Option D := match ds with
  | [.nd _ .lst xs] => some (.nd .own .lst xs)
  | [.nd _ .tup xs] => some (.nd .own .lst xs)
  | _ => none
theorem cam_listOf {K : PySem.W.Frag} : CaM g n (fun xs H Q => ∃ p ys, xs = [V.ref p] ∧ (SqL K H p ys ∨ SqT K H p ys) ∧ ∀ l, H l = none → Q (.ref l) (upd H l (.lst ys))) dListOf := by
  intro Γ A ts σ H Q d Rr hn eo hq
  unfold dListOf at eo
  split at eo
  · rename_i k xs q
    obtain ⟨t, rfl, q'⟩ := er1 q
    obtain ⟨a, dx, us, rfl, h1⟩ := er_nd q'
    cases eo
    exact ⟨a, us.map T.root, rfl, .inl (SqL.of (Rr.top1.flat id)), fun p hp => hq (.nd p .own .lst 0 us) _ (Rr.node1 hn hp .lst 0 child_sub) (by rw [T.er, erL_eq, h1])⟩
  · rename_i k xs q
    obtain ⟨t, rfl, q'⟩ := er1 q
    obtain ⟨a, dx, us, rfl, h1⟩ := er_nd q'
    cases eo
    exact ⟨a, us.map T.root, rfl, .inr (SqT.of (Rr.top1.flat id)), fun p hp => hq (.nd p .own .lst 0 us) _ (Rr.node1 hn hp .lst 0 child_sub) (by rw [T.er, erL_eq, h1])⟩
  · cases eo
/-- a new list of ints in place of temps -/
theorem Rel.newInts {p : Addr} (Rr : Rel g Γ n (A ++ B) σ H) (hn : n ≤ A.length) (hp : H p = none) (ns : List Int) : Rel g Γ n (A ++ [some (.nd p .own .lst 0 (ns.map fun i => T.im (.int i)))]) σ (upd H p (.lst (ns.map V.int))) := by
  have := Rr.node (p := p) (ts := ns.map fun i => T.im (.int i)) hn hp .lst 0 (by rw [cells_int]; exact fun c h => nomatch h) (by rw [cells_int]; exact List.nil_sublist _)
  rw [roots_int] at this
  exact this
def intsD (ns : List Int) : D := .nd .own .lst (ns.map fun i => .im (.int i))
theorem intsD_er (p : Addr) (ns : List Int) : (T.nd p .own .lst 0 (ns.map fun i => T.im (.int i))).er = intsD ns := by rw [T.er, erL_eq, ers_int]; rfl
def sortI (ns : List Int) : List Int := ns.mergeSort (fun a b => decide (a ≤ b))
theorem sortI_perm (ns : List Int) : (sortI ns).Perm ns := List.mergeSort_perm _ _
theorem sortI_pw (ns : List Int) : (sortI ns).Pairwise (· ≤ ·) := by
  have := List.pairwise_mergeSort (le := fun a b : Int => decide (a ≤ b)) (fun a b c h1 h2 => by simp at *; omega) (fun a b => by simp; omega) ns
  exact this.imp fun h => by simpa using h
theorem sortI_uniq {ns ms : List Int} (h : ms.Perm ns) (p : ms.Pairwise (· ≤ ·)) : ms = sortI ns :=
  List.Perm.eq_of_pairwise (le := (· ≤ ·)) (fun a b _ _ h1 h2 => by omega) p (sortI_pw ns) (h.trans (sortI_perm ns).symm)
def dSorted (ds : List D) : Option D := match ds with
  | [.nd _ .lst xs] => (dInts xs).map fun ns => intsD (sortI ns)
  | _ => none
theorem cam_sorted {K : PySem.W.Frag} : CaM g n (rSortedI K) dSorted := by
  intro Γ A ts σ H Q d Rr hn eo hq
  unfold dSorted at eo
  split at eo
  · rename_i k xs q
    obtain ⟨t, rfl, q'⟩ := er1 q
    obtain ⟨a, dx, us, rfl, h1⟩ := er_nd q'
    cases e2 : dInts xs with
    | none => rw [e2] at eo; cases eo
    | some ns =>
      rw [e2] at eo
      cases eo
      have hu : us = ns.map fun i => T.im (.int i) := ints_root us ns (by rw [h1]; exact e2)
      have hh : H a = some (.lst (us.map T.root)) := Rr.top1.flat id
      rw [hu, roots_int] at hh
      refine ⟨a, ns, rfl, SqL.of hh, fun ns' p hp hw hf => ?_⟩
      rw [sortI_uniq hp hw]
      exact hq _ _ (Rr.newInts hn hf (sortI ns)) (intsD_er _ _)
  · cases eo
/-- keys of a dict, all ints -/
def kInts : List Key → Option (List Int)
  | [] => some []
  | .inl i :: r => (kInts r).map (i :: ·)
  | _ => none
theorem kInts_eq : ∀ (ks : List Key) (ns : List Int), kInts ks = some ns → ks = ns.map Sum.inl
  | [], ns, h => by simp [kInts] at h; subst h; rfl
  | .inl i :: r, ns, h => by
    simp only [kInts] at h
    cases e : kInts r with
    | none => rw [e] at h; cases h
    | some ms => rw [e] at h; cases h; rw [kInts_eq r ms e]; rfl
  | .inr _ :: r, ns, h => by simp [kInts] at h
theorem zip_fst {α β : Type} : ∀ (ks : List α) (vs : List β), ks.length = vs.length → (ks.zip vs).map (·.1) = ks
  | [], _, _ => by simp
  | _ :: _, [], h => by simp at h
  | k :: ks, v :: vs, h => by simp [zip_fst ks vs (by simpa using h)]
def dSortedD (ds : List D) : Option D := match ds with
  | [.nd _ (.dic ks) xs] => if ks.length = xs.length ∧ ks.length < 64 then (kInts ks).map fun ns => intsD (sortI ns) else none
  | _ => none
def rSortedDI : List V → Hp → VK → Prop := fun xs H Q => ∃ (a : Addr) (kvs : List (Key × V)) (ks : List Int), xs = [.ref a] ∧ Rd H a (.dK kvs) ∧ kvs.map (·.1) = ks.map Sum.inl ∧ ks.length < 64 ∧
    ∀ (ys : List Int) (p : Addr), ys.Perm ks → ys.Pairwise (· ≤ ·) → H p = none → Q (.ref p) (upd H p (.lst (ys.map V.int)))
theorem cam_sortedD : CaM g n rSortedDI dSortedD := by
  intro Γ A ts σ H Q d Rr hn eo hq
  unfold dSortedD at eo
  split at eo
  · rename_i k ks xs q
    obtain ⟨t, rfl, q'⟩ := er1 q
    obtain ⟨a, dx, us, rfl, h1⟩ := er_nd q'
    split at eo
    · rename_i hl
      cases e2 : kInts ks with
      | none => rw [e2] at eo; cases eo
      | some ns =>
        rw [e2] at eo
        cases eo
        have hk := kInts_eq ks ns e2
        have hh : Rd H a (.dK (ks.zip (us.map T.root))) := Rr.top1.rd
        refine ⟨a, _, ns, rfl, hh, ?_, ?_, fun ns' p hp hw hf => ?_⟩
        · rw [zip_fst _ _ (by rw [hl.1, ← h1]; simp)]; exact hk
        · have := hl.2; rw [hk, List.length_map] at this; exact this
        · rw [sortI_uniq hp hw]
          exact hq _ _ (Rr.newInts hn hf (sortI ns)) (intsD_er _ _)
    · cases eo
  · cases eo
def keyD (k : Key) : D := .im (kV k)
def dListD (ds : List D) : Option D := match ds with
  | [.nd _ (.dic ks) xs] => if ks.length = xs.length then some (.nd .own .lst (ks.map keyD)) else none
  | _ => none
theorem cells_im (vs : List V) : cellsL g (vs.map T.im) = [] := by
  induction vs with
  | nil => rfl
  | cons i r ih => simp [cellsL, T.cells, ih]
/-- list(a dict), also one that is locked -/
def rListZ : List V → Hp → VK → Prop := fun xs H Q => ∃ p kvs, xs = [.ref p] ∧ Rd H p (.dK kvs) ∧ ∀ q, H q = none → Q (.ref q) (upd H q (.lst (kvs.map fun kv => kV kv.1)))
theorem keys_vals {kvs : List (Key × V)} {vs : List (Key × Value)} (rk : KV kvs vs) {acc : Array Value} (hs : acc.size = vs.length) (h : ∀ (j : Nat) (w : Value), acc[j]? = some w → ∃ k y, vs[j]? = some (k, y) ∧ keyIs k w = true) : Vals (kvs.map fun kv => kV kv.1) acc.toList := by
  have hl : kvs.length = vs.length := Paired.length rk
  refine vals_of_at (by simp [hs, hl]) fun j x w h1 h2 => ?_
  obtain ⟨k, y, e, hi⟩ := h j w (by simpa using h2)
  have e1 : (kvs.map Prod.fst)[j]? = some k := by
    rw [KV.keys rk]
    simp [e]
  have e2 : (kvs.map fun kv => kV kv.1)[j]? = ((kvs.map Prod.fst)[j]?).map kV := by simp; rfl
  rw [e2, e1] at h1
  obtain rfl : kV k = x := by simpa using h1
  exact keyIs_rel hi
theorem call_listZ {X : Cx} (hc : X.calm = true) : CallR X (.type "list") rListZ := by
  rintro pins s σ H xs us Q I r ⟨p, kvs, rfl, hk, q⟩
  obtain ⟨u, rfl, rx⟩ := r.one
  cases rx
  obtain ⟨z, lo, vs, rk, hd⟩ := (show ObjOk X.prog X.w H s.heap p (.dK kvs) from hk.ok I.hok)
  obtain ⟨ep, hat⟩ := hd.dictAt
  have hl : kvs.length = vs.length := Paired.length rk
  refine PySem.W.kdl_call (PySem.W.kdl_dict (knd := mixKind X.prog X.w) (kvs := vs) (ep := ep) lo) (I.ok.hd hc) hat (by omega) fun h' tk acc' c' kp hS ha => ?_
  have V := keys_vals rk ha.1 ha.2
  exact ⟨.ref s.heap.objs.size, _, I.laid kp (Nat.le_refl _) (show ObjOk X.prog X.w _ _ _ (.lst (kvs.map fun kv => kV kv.1)) from ⟨by simpa using z, acc'.toList, c', V, by simpa using hS⟩), rfl, q _ (I.hok.fresh (Nat.le_refl _))⟩
theorem dget_k {H : Hp} {a : Addr} {kvs : List (Key × V)} {k : Key} (e : Rd H a (.dK kvs)) : DGet H a (kV k) (valV kvs k) := .inl ⟨kvs, k, e, rfl, rfl⟩
theorem dget_t {H : Hp} {a b : Addr} {kvs : List (List Key × V)} {k : List Key} (e : Rd H a (.dT kvs)) (eb : H b = some (.tup (k.map kV))) : DGet H a (.ref b) (valV kvs k) := .inr ⟨kvs, k, b, e, rfl, eb, rfl⟩
theorem cam_listD : CaM g n rListZ dListD := by
  intro Γ A ts σ H Q d Rr hn eo hq
  unfold dListD at eo
  split at eo
  · rename_i k ks xs q
    obtain ⟨t, rfl, q'⟩ := er1 q
    obtain ⟨a, dx, us, rfl, h1⟩ := er_nd q'
    split at eo
    · rename_i hl
      cases eo
      have hh : Rd H a (.dK (ks.zip (us.map T.root))) := Rr.top1.rd
      refine ⟨a, _, rfl, hh, fun p hp => ?_⟩
      have e : ((ks.zip (us.map T.root)).map fun kv => kV kv.1) = ks.map kV := by
        have := zip_fst ks (us.map T.root) (by rw [hl, ← h1]; simp)
        have e2 := congrArg (List.map kV) this
        rw [List.map_map] at e2
        exact e2
      rw [e]
      have R2 := Rr.node (p := p) (ts := (ks.map kV).map T.im) hn hp .lst 0 (by rw [cells_im]; exact fun c h => nomatch h) (by rw [cells_im]; exact List.nil_sublist _)
      have e3 : ((ks.map kV).map T.im).map T.root = ks.map kV := by simp [T.root, Function.comp_def]
      rw [e3] at R2
      exact hq _ _ R2 (by rw [T.er, erL_eq]; simp [T.er, keyD, Function.comp_def])
    · cases eo
  · cases eo
/-! ### list(range(..)) -/
/-! ### dicts: d[k], k in d, d[k] = v -/
def valP {κ α : Type} [DecidableEq κ] (k : κ) : List κ → List α → Option α
  | k' :: ks, x :: xs => if k' = k then some x else valP k ks xs
  | _, _ => none
theorem valP_map {κ α β : Type} [DecidableEq κ] (f : α → β) (k : κ) : ∀ (ks : List κ) (xs : List α), valP k ks (xs.map f) = (valP k ks xs).map f
  | [], _ => by simp [valP]
  | _ :: _, [] => by simp [valP]
  | k' :: ks, x :: xs => by
    simp only [List.map_cons, valP]
    by_cases e : k' = k
    · rw [if_pos e, if_pos e]; rfl
    · rw [if_neg e, if_neg e]; exact valP_map f k ks xs
theorem valP_valV {κ : Type} [DecidableEq κ] (k : κ) : ∀ (ks : List κ) (vs : List V), valV (ks.zip vs) k = valP k ks vs
  | [], _ => by simp [valP, valV]
  | _ :: _, [] => by simp [valP, valV]
  | k' :: ks, x :: xs => by
    have ih := valP_valV k ks xs
    unfold valV at ih ⊢
    simp only [List.zip_cons_cons, List.find?_cons, valP]
    by_cases e : k' = k
    · simp [e]
    · simp only [e, decide_false, if_false]; exact ih
theorem valP_get {κ α : Type} [DecidableEq κ] (k : κ) : ∀ (ks : List κ) (xs : List α) (x : α), valP k ks xs = some x → ∃ i : Nat, xs[i]? = some x
  | [], _, x, h => by simp [valP] at h
  | _ :: _, [], x, h => by simp [valP] at h
  | k' :: ks, y :: xs, x, h => by
    simp only [valP] at h
    by_cases e : k' = k
    · rw [if_pos e] at h; exact ⟨0, by simpa using h⟩
    · rw [if_neg e] at h
      obtain ⟨i, hi⟩ := valP_get k ks xs x h
      exact ⟨i + 1, by simpa using hi⟩
def keyOf (d : D) : Option Key := match d with
  | .im (.int i) => some (.inl i)
  | .im (.str x) => some (.inr x)
  | _ => none
theorem keyOf_root {d : T} {k : Key} (h : keyOf d.er = some k) : d = .im (kV k) := by
  unfold keyOf at h
  split at h
  · rename_i e; cases h; exact er_im e
  · rename_i e; cases h; exact er_im e
  · cases h
def keyTs : List D → Option (List Key)
  | [] => some []
  | d :: r => match keyOf d, keyTs r with
    | some k, some ks => some (k :: ks)
    | _, _ => none
def keyT (d : D) : Option (List Key) := match d with
  | .nd _ .tup ds => keyTs ds
  | _ => none
theorem keyTs_root : ∀ (ts : List T) (ks : List Key), keyTs (ts.map T.er) = some ks → ts.map T.root = ks.map kV
  | [], ks, h => by simp [keyTs] at h; subst h; rfl
  | t :: r, ks, h => by
    simp only [List.map_cons, keyTs] at h
    cases e1 : keyOf t.er with
    | none => rw [e1] at h; cases h
    | some k =>
      cases e2 : keyTs (r.map T.er) with
      | none => rw [e1, e2] at h; cases h
      | some ms =>
        rw [e1, e2] at h
        cases h
        rw [List.map_cons, List.map_cons, keyTs_root r ms e2, keyOf_root e1]; rfl
/-- what stands at a key: none if this is no dict with such a key kind -/
def dGetO (d y : D) : Option (Option D) := match d with
  | .nd _ (.dic ks) ds => (keyOf y).map fun k => valP k ks ds
  | .nd _ (.dtu ks) ds => (keyT y).map fun k => valP k ks ds
  | _ => none
theorem dgetO_of {H : Hp} {td ty : T} {o : Option D} (hd : ∀ c ∈ td.cells g, Hd H c) (hy : ∀ c ∈ ty.cells g, Hd H c) (h : dGetO td.er ty.er = some o) :
    ∃ a k s dx ts, td = .nd a k s dx ts ∧ ∃ u : Option T, u.map T.er = o ∧ DGet H a ty.root (u.map T.root) ∧ ∀ x, u = some x → ∃ i : Nat, ts[i]? = some x := by
  unfold dGetO at h
  split at h
  · rename_i k ks ds e
    obtain ⟨a, dx, ts, rfl, h1⟩ := er_nd e
    cases ek : keyOf ty.er with
    | none => rw [ek] at h; cases h
    | some key =>
      rw [ek] at h
      have hh : Rd H a (.dK (ks.zip (ts.map T.root))) := Hd.rd (hd _ (by rw [T.cells]; exact List.mem_cons_self))
      refine ⟨a, k, _, dx, ts, rfl, valP key ks ts, ?_, ?_, fun x hx => valP_get key ks ts x hx⟩
      · rw [← valP_map, h1]; simpa using h
      · rw [keyOf_root ek, ← valP_map, ← valP_valV]
        exact dget_k hh
  · rename_i k ks ds e
    obtain ⟨a, dx, ts, rfl, h1⟩ := er_nd e
    cases ek : keyT ty.er with
    | none => rw [ek] at h; cases h
    | some key =>
      rw [ek] at h
      have hh : Rd H a (.dT (ks.zip (ts.map T.root))) := Hd.rd (hd _ (by rw [T.cells]; exact List.mem_cons_self))
      unfold keyT at ek
      split at ek
      · rename_i k' ds' e'
        obtain ⟨b, dy, us, rfl, h2⟩ := er_nd e'
        have hb : H b = some (.tup (us.map T.root)) := Hd.flat (hy _ (by rw [T.cells]; exact List.mem_cons_self)) id
        rw [keyTs_root us key (by rw [h2]; exact ek)] at hb
        refine ⟨a, k, _, dx, ts, rfl, valP key ks ts, ?_, ?_, fun x hx => valP_get key ks ts x hx⟩
        · rw [← valP_map, h1]; simpa using h
        · rw [← valP_map, ← valP_valV]
          exact dget_t hh hb
      · cases ek
  · cases h
def rDGet : R2 := fun x y H Q => ∃ a v, x = .ref a ∧ DGet H a y (some v) ∧ Q v H
def dDGet (d y : D) : Option D := (dGetO d y).bind id
theorem hold2a {ta tb : T} (Rr : Rel g Γ n (A ++ [some ta] ++ [some tb]) σ H) : ∀ c ∈ ta.cells g, Hd H c := fun c hc => Rr.hold A.length c ⟨ta, by simp, hc⟩
theorem hold2b {ta tb : T} (Rr : Rel g Γ n (A ++ [some ta] ++ [some tb]) σ H) : ∀ c ∈ tb.cells g, Hd H c := fun c hc => Rr.hold (A.length + 1) c ⟨tb, by simp, hc⟩
theorem opm_dget : OpM g n rDGet dDGet := by
  intro Γ A ta tb σ H Q d Rr hn eo hq
  unfold dDGet at eo
  cases e : dGetO ta.er tb.er with
  | none => rw [e] at eo; cases eo
  | some o =>
    rw [e] at eo
    obtain ⟨a, k, s, dx, ts, rfl, u, h1, h2, h3⟩ := dgetO_of (hold2a Rr) (hold2b Rr) e
    have eo : o = some d := eo
    subst eo
    cases u with
    | none => cases h1
    | some x =>
      obtain ⟨i, hi⟩ := h3 x rfl
      refine ⟨a, x.root, rfl, h2, hq x H ?_ (by simpa using h1)⟩
      have hs : (x.cells g).Sublist ((T.nd a k s dx ts).cells g) := (at_sub hi).trans child_sub
      rw [List.append_assoc] at Rr
      exact Rr.part hn (fun c hc => ⟨0, _, rfl, hs.subset hc⟩) (by
        simp only [List.cons_append, List.nil_append, List.flatMap_cons, List.flatMap_nil, List.append_nil, ownsO]
        exact (owns_sublist hs).trans (List.sublist_append_left _ _))
end
section
open PySem.Spec PyProof.Rows
variable {X : Cx}
theorem ix_dget (hu : X.A.units + 1 < cLine) : IxR X rDGet := by
  intro value slice pins s σ H x y v u Q I rx ry h hs
  obtain ⟨a, w, rfl, gg, q⟩ := h
  obtain rfl : v = Value.ref a := rx
  have ht := dict_typeIs I gg
  unfold subscriptTail
  refine wpAny_bind ?_
  rw [getitemInPython_of_ne ht.not_modules]
  refine wpAny_bind (wpAny_specialOf ht PySem.F.slot_dict_getitem.lookup ?_)
  have fin : wpAny (model X.prog X.w) X.A (subscripted slice false (.ref a) u) (fun r s₃ => wpAny (model X.prog X.w) X.A (letTemporaryGo value (.ref a) r >>= fun _ => pure r) (EP X pins σ Q) X.xe s₃) X.xe s := by
    rw [hs]
    exact wpAny_operating (d_getItem hu I gg ry fun w' s3 I3 rw' => wpAny_bind (wpAny_letTemporaryGo (wpAny_pure ⟨w, H, I3, rw', q⟩)))
  first
    | exact wpAny_pure (wpAny_bind fin)
    | exact wpAny_bind (wpAny_pure (wpAny_bind fin))
    | exact wpAny_bind fin
def rDSet : TSet := fun o i v H Q => ∃ a H4, o = .ref a ∧ DPut H a i v H4 ∧ Q H4
theorem pset_dict (hu : X.A.units + 1 < cLine) : PSet X rDSet := by
  intro pins s σ H x y v ov iv u Q I rx ry rv h
  obtain ⟨a, H4, rfl, gg, q⟩ := h
  obtain rfl : ov = Value.ref a := rx
  exact d_setItem hu I gg ry rv fun s' I' => ⟨H4, I', q⟩
theorem PSet.or {r r' : TSet} (h : PSet X r) (h' : PSet X r') : PSet X (fun o i v H Q => r o i v H Q ∨ r' o i v H Q) := by
  intro pins s σ H x y v ov iv u Q I rx ry rv q
  rcases q with q | q
  · exact h pins s σ H x y v ov iv u Q I rx ry rv q
  · exact h' pins s σ H x y v ov iv u Q I rx ry rv q
end
end Lin
end
section
namespace Lin
open PySem L2
def putP {κ α : Type} [DecidableEq κ] (f : κ) : List κ → List α → α → List κ × List α
  | n :: ns, x :: xs, v => if n = f then (n :: ns, v :: xs) else (n :: (putP f ns xs v).1, x :: (putP f ns xs v).2)
  | _, _, v => ([f], [v])
section
variable {g : Gc} {n : Nat} {W : WX} {Γ : Gh} {A A' A'' B : List (Option T)} {σ : L2.St} {H H' : Hp} {t : T} {M M1 M2 M3 : List Nat} {κ : Type} [DecidableEq κ]
theorem putP_map {α β : Type} (h : α → β) (f : κ) : ∀ (ns : List κ) (xs : List α) (v : α), (putP f ns (xs.map h) (h v)).1 = (putP f ns xs v).1 ∧ (putP f ns (xs.map h) (h v)).2 = (putP f ns xs v).2.map h
  | [], xs, v => by cases xs <;> simp [putP]
  | _ :: _, [], v => by simp [putP]
  | n :: ns, x :: xs, v => by
    obtain ⟨h1, h2⟩ := putP_map h f ns xs v
    simp only [List.map_cons, putP]
    by_cases e : n = f
    · rw [if_pos e, if_pos e]; exact ⟨rfl, rfl⟩
    · rw [if_neg e, if_neg e]; simp [h1, h2]
theorem putK_cons (k k' : κ) (v x : V) (kvs : List (κ × V)) (hn : k' ∉ kvs.map (·.1)) : putK ((k', x) :: kvs) k v = if k' = k then (k', v) :: kvs else (k', x) :: putK kvs k v := by
  unfold putK
  by_cases e : k' = k
  · subst e
    rw [if_pos rfl]
    simp only [List.any_cons, decide_true, Bool.true_or, if_true, List.map_cons]
    congr 1
    conv => rhs; rw [← List.map_id kvs]
    apply List.map_congr_left
    intro kv hkv
    have : kv.1 ≠ k' := fun z => hn (List.mem_map.mpr ⟨kv, hkv, z⟩)
    rw [if_neg this]; rfl
  · rw [if_neg e]
    simp only [List.any_cons, e, decide_false, Bool.false_or, List.map_cons, if_false]
    split <;> rfl
theorem putP_zip (f : κ) : ∀ (ns : List κ) (vs : List V) (v : V), ns.length = vs.length → ns.Nodup → putK (ns.zip vs) f v = (putP f ns vs v).1.zip (putP f ns vs v).2
  | [], [], v, _, _ => rfl
  | [], _ :: _, v, h, _ => by simp at h
  | _ :: _, [], v, h, _ => by simp at h
  | n :: ns, x :: vs, v, h, nd => by
    obtain ⟨nd1, nd2⟩ := List.nodup_cons.mp nd
    have hl : ns.length = vs.length := by simpa using h
    have ih := putP_zip f ns vs v hl nd2
    rw [List.zip_cons_cons, putK_cons _ _ _ _ _ (by rw [zip_fst _ _ hl]; exact nd1)]
    simp only [putP]
    by_cases e : n = f
    · rw [if_pos e, if_pos e]; rfl
    · rw [if_neg e, if_neg e, ih]; rfl
theorem putP_perm (f : κ) : ∀ (ns : List κ) (ts : List T) (v : T), ns.length = ts.length → ∃ dropped, (cellsL g (putP f ns ts v).2 ++ dropped).Perm (cellsL g ts ++ v.cells g)
  | [], [], v, _ => ⟨[], by simp [putP, cellsL]⟩
  | [], _ :: _, v, h => by simp at h
  | _ :: _, [], v, h => by simp at h
  | n :: ns, x :: ts, v, h => by
    obtain ⟨dr, p⟩ := putP_perm f ns ts v (by simpa using h)
    simp only [putP]
    by_cases e : n = f
    · rw [if_pos e]
      refine ⟨x.cells g, ?_⟩
      simp only [cellsL]
      classical
      refine List.perm_iff_count.mpr fun c => ?_
      simp only [List.count_append]
      omega
    · rw [if_neg e]
      refine ⟨dr, ?_⟩
      simp only [cellsL, List.append_assoc]
      exact p.append_left _
def sDic (s : Sh) (ds : List D) (i v : D) : Option (Sh × List D) := match s with
  | .dic ks => (keyOf i).bind fun k => if ks.length = ds.length ∧ ks.Nodup ∧ ks.length < sizeLine then some (.dic (putP k ks ds v).1, (putP k ks ds v).2) else none
  | .dtu ks => (keyT i).bind fun k => if ks.length = ds.length ∧ ks.Nodup ∧ ks.length < sizeLine then some (.dtu (putP k ks ds v).1, (putP k ks ds v).2) else none
  | _ => none
theorem stm_dic : StM g rDSet sDic := by
  intro H a dx s ts i v s' ds' hi hH ho
  unfold sDic at ho
  split at ho
  · rename_i ks
    cases ek : keyOf i.er with
    | none => rw [ek] at ho; cases ho
    | some k =>
      rw [ek, Option.bind_some] at ho
      split at ho
      · rename_i hh
        obtain ⟨hl, hnd, hz⟩ := hh
        rw [List.length_map] at hl
        cases ho
        obtain ⟨dr, p⟩ := putP_perm (g := g) k ks ts v hl
        obtain ⟨m1, m2⟩ := putP_map T.er k ks ts v
        obtain ⟨k1, k2⟩ := putP_map T.root k ks ts v
        refine ⟨(putP k ks ts v).2, dr ++ i.cells g, ⟨rfl, rfl⟩, m2.symm, ?_, fun Q q => ?_⟩
        · simp only [cellsL, List.append_nil]
          rw [← List.append_assoc, ← List.append_assoc]
          exact p.append_right _
        · refine ⟨a, _, rfl, ?_, q⟩
          rw [keyOf_root ek]
          have := DPut.k (H := H) (a := a) (k := k) (v := v.root) (Hd.own hH rfl) (by rw [List.length_zip, List.length_map]; omega)
          rw [putP_zip k ks _ _ (by rw [List.length_map]; exact hl) hnd, k1, k2, ← m1] at this
          exact this
      · cases ho
  · rename_i ks
    cases ek : keyT i.er with
    | none => rw [ek] at ho; cases ho
    | some k =>
      rw [ek, Option.bind_some] at ho
      split at ho
      · rename_i hh
        obtain ⟨hl, hnd, hz⟩ := hh
        rw [List.length_map] at hl
        cases ho
        obtain ⟨dr, p⟩ := putP_perm (g := g) k ks ts v hl
        obtain ⟨m1, m2⟩ := putP_map T.er k ks ts v
        obtain ⟨k1, k2⟩ := putP_map T.root k ks ts v
        refine ⟨(putP k ks ts v).2, dr ++ i.cells g, ⟨rfl, rfl⟩, m2.symm, ?_, fun Q q => ?_⟩
        · simp only [cellsL, List.append_nil]
          rw [← List.append_assoc, ← List.append_assoc]
          exact p.append_right _
        · refine ⟨a, _, rfl, ?_, q⟩
          unfold keyT at ek
          split at ek
          · rename_i k' ds' e'
            obtain ⟨b, dy, us, rfl, h2⟩ := er_nd e'
            have hb : H b = some (.tup (us.map T.root)) := Hd.flat (hi _ (by rw [T.cells]; exact List.mem_cons_self)) id
            rw [keyTs_root us k (by rw [h2]; exact ek)] at hb
            have := DPut.t (H := H) (a := a) (b := b) (k := k) (v := v.root) (Hd.own hH rfl) hb (by rw [List.length_zip, List.length_map]; omega)
            rw [putP_zip k ks _ _ (by rw [List.length_map]; exact hl) hnd, k1, k2, ← m1] at this
            exact this
          · cases ek
      · cases ho
  · cases ho
theorem StM.or {r1 r2 : TSet} {o1 o2 : Sh → List D → D → D → Option (Sh × List D)} (h1 : StM g r1 o1) (h2 : StM g r2 o2) : StM g (fun o i v H Q => r1 o i v H Q ∨ r2 o i v H Q) (fun s ds i v => (o1 s ds i v).or (o2 s ds i v)) := by
  intro H a dx s ts i v s' ds' hi hH ho
  dsimp only at ho
  cases e : o1 s (ts.map T.er) i.er v.er with
  | some p =>
    rw [e] at ho
    have : p = (s', ds') := by simpa using ho
    subst this
    obtain ⟨ts', dr, h0, h3, h4, h5⟩ := h1 H a dx s ts i v s' ds' hi hH e
    exact ⟨ts', dr, h0, h3, h4, fun Q q => .inl (h5 Q q)⟩
  | none =>
    rw [e] at ho
    obtain ⟨ts', dr, h0, h3, h4, h5⟩ := h2 H a dx s ts i v s' ds' hi hH (by simpa using ho)
    exact ⟨ts', dr, h0, h3, h4, fun Q q => .inr (h5 Q q)⟩
/-! ### x in xs; is None -/
def dNeg (d : D) : Option D := match d with
  | .im (.int i) => some (.im (.int (-i)))
  | _ => none
theorem unm_neg : UnM g n (rU fun i => .int (-i)) dNeg := by
  intro Γ A ta σ H Q d Rr hn eo hq
  unfold dNeg at eo
  split at eo
  · rename_i i e
    cases eo
    rw [er_im e]
    exact ⟨i, rfl, hq (.im _) H (Rr.imm hn _) rfl⟩
  · cases eo
/-! ### a op b op' c -/
def cChain (Mb Mc : List Nat) (fa fb fc : Sg → R D) (o o' : D → D → Option D) : Sg → R D := fun S => (fa S).bind fun da S1 => if cleanD Mb da = true then (fb S1).bind fun db S2 => match db with
  | .im vb => match o da db with
    | some (.im (.bl true)) => (fc S2).bind fun dc S3 => R.lift (o' db dc) S3
    | some (.im (.bl false)) => .ok (.im (.bl false)) S2
    | _ => .bad
  | _ => .bad else .bad
theorem mean_chain {ta tb tc : TE} {fa fb fc : Sg → R D} {r r' : R2} {o o' : D → D → Option D} (ha : MeanE g n W M1 ta fa) (hb : MeanE g n W M2 tb fb) (hc : MeanE g n W M3 tc fc) (h1 : OpM g n r o) (h2 : OpM g n r' o') :
    MeanE g n W (M1 ++ (M2 ++ M3)) (tChain r r' ta tb tc) (cChain M2 M3 fa fb fc o o') := by
  intro Γ A σ H Q Rr cl h
  refine ha Γ A σ H _ Rr cl.left ?_
  unfold cChain at h
  cases ea : fa (ers n A) with
  | bad => rw [ea] at h; exact h.elim
  | exc c d S => rw [ea] at h; exact h
  | ok da S1 =>
    rw [ea] at h
    dsimp only [Lin.R.bind] at h
    intro A1 t1 H1 R1 x1 e1 d1
    by_cases hcl : cleanD M2 da = true
    · rw [if_pos hcl] at h
      have n1 : n ≤ A1.length := by rw [x1.len]; exact Rr.len
      refine hb Γ (A1 ++ [some t1]) σ H1 _ R1 ((cl.right.left.next x1.toNext Rr.len).snoc (by rw [d1]; exact hcl)) ?_
      rw [ers_append n1, e1]
      cases eb : fb S1 with
      | bad => rw [eb] at h; exact h.elim
      | exc c d S =>
        rw [eb] at h
        intro A2 t2 H2 R2 x2 e2 d2
        obtain ⟨y, z⟩ := x2.left n1
        have n3 : n ≤ (A2.take A1.length).length := by rw [y.len]; exact n1
        refine h (A2.take A1.length) t2 H2 ?_ (x1.toNext.trans y) ?_ d2
        · rw [z, List.append_assoc] at R2
          refine R2.subst (t := t2) n3 (fun _ _ q => q) (fun c hc => .inr ⟨1, ⟨t2, by simp, hc⟩⟩) ⟨[], by simp, by simp, ?_⟩
          simp [ownsO]
        · rw [z, ers_append n3] at e2; exact e2
      | ok db S2 =>
        rw [eb] at h
        dsimp only [Lin.R.bind] at h
        intro A2 t2 H2 R2 x2 e2 d2
        obtain ⟨y, z⟩ := x2.left n1
        have n3 : n ≤ (A2.take A1.length).length := by rw [y.len]; exact n1
        have e2' : ers n (A2.take A1.length) = S2 := by rw [z, ers_append n3] at e2; exact e2
        rw [z] at R2
        have x12 := x1.trans y
        split at h
        · rename_i vb
          have ht2 := er_im d2
          subst ht2
          split at h
          · rename_i eo
            refine h1 Γ (A2.take A1.length) t1 (.im vb) σ H2 _ _ R2 n3 (by rw [d1]; exact eo) fun t H' R' et => ?_
            rw [er_im et]
            refine ⟨true, rfl, ?_⟩
            rw [if_pos rfl]
            have R3 : Rel g Γ n (A2.take A1.length ++ [some (.im vb)]) σ H' := R'.imm n3 vb
            have cl3 : Clean g n M3 (A2.take A1.length ++ [some (.im vb)]) := (cl.right.right.next x12.toNext Rr.len).snoc (by
              unfold cleanD; rw [List.all_eq_true]; intro r _; simp [T.er, hasBor, D.kins, kinsL, kz])
            refine hc Γ _ σ H' _ R3 cl3 ?_
            rw [ers_append n3, e2']
            cases ec : fc S2 with
            | bad => rw [ec] at h; exact h.elim
            | exc c d S =>
              rw [ec] at h
              intro A4 t4 H4 R4 x4 e4 d4
              obtain ⟨y4, z4⟩ := x4.left n3
              have n5 : n ≤ (A4.take (A2.take A1.length).length).length := by rw [y4.len]; exact n3
              refine h (A4.take (A2.take A1.length).length) t4 H4 ?_ (x12.toNext.trans y4) ?_ d4
              · rw [z4] at R4; exact R4.mid n5
              · rw [z4, ers_append n5] at e4; exact e4
            | ok dc S3 =>
              rw [ec] at h
              dsimp only [Lin.R.bind] at h
              intro A4 t4 H4 R4 x4 e4 d4
              obtain ⟨y4, z4⟩ := x4.left n3
              have n5 : n ≤ (A4.take (A2.take A1.length).length).length := by rw [y4.len]; exact n3
              cases eo' : o' (.im vb) dc with
              | none => rw [eo'] at h; exact h.elim
              | some d =>
                rw [eo'] at h
                rw [z4] at R4
                refine h2 Γ _ (.im vb) t4 σ H4 Q d R4 n5 (by rw [d4]; exact eo') fun t H' R' et => ?_
                refine h _ t H' R' ((x12.trans y4).mono fun r hr => by simpa [List.append_assoc] using hr) (by rw [z4, ers_append n5] at e4; exact e4) et
          · rename_i eo
            refine h1 Γ (A2.take A1.length) t1 (.im vb) σ H2 _ _ R2 n3 (by rw [d1]; exact eo) fun t H' R' et => ?_
            rw [er_im et]
            refine ⟨false, rfl, ?_⟩
            rw [if_neg Bool.false_ne_true]
            rw [er_im et] at R'
            exact h _ (.im (.bl false)) H' R' (x12.mono fun r hr => by
              rw [List.mem_append] at hr ⊢
              exact hr.elim .inl fun z => .inr (List.mem_append_left _ z)) e2' rfl
          · exact h.elim
        · exact h.elim
    · rw [if_neg hcl] at h; exact h.elim
end
end Lin
end
section
namespace Lin
open PySem L2
section
variable {g : Gc} {n : Nat} {W : WX} {Γ : Gh} {A A' A'' B C : List (Option T)} {σ : L2.St} {H H' : Hp} {t : T} {M M1 M2 M3 : List Nat}
/-- temps without own marks, parts of the temps that stood -/
theorem Rel.view (Rr : Rel g Γ n (A ++ B) σ H) (hn : n ≤ A.length) (h : ∀ i c, CellAt g C i c → c.1 ≠ .own ∧ ∃ j, CellAt g B j c) : Rel g Γ n (A ++ C) σ H := by
  have inA : ∀ {i c}, CellAt g A i c → CellAt g (A ++ B) i c := fun x => cellAt_left x
  have inB : ∀ {i c}, CellAt g B i c → CellAt g (A ++ B) (A.length + i) c := fun x => cellAt_append.mpr (.inr ⟨by omega, by rw [Nat.add_sub_cancel_left]; exact x⟩)
  have src : ∀ {i c}, CellAt g (A ++ C) i c → ∃ j, CellAt g (A ++ B) j c ∧ ((j = i ∧ i < A.length) ∨ (A.length ≤ i ∧ A.length ≤ j ∧ c.1 ≠ .own)) := fun {i c} x => by
    rcases cellAt_append.mp x with x | ⟨hi, x⟩
    · exact ⟨i, inA x, .inl ⟨rfl, x.lt⟩⟩
    · obtain ⟨no, j, y⟩ := h _ c x
      exact ⟨_, inB y, .inr ⟨hi, by omega, no⟩⟩
  refine ⟨by simp; omega, Rr.slen, ?_, ?_, ?_, ?_, ?_, Rr.frame, ?_, ?_, Rr.pin, Rr.tab, Rr.lck⟩
  · intro j w hj q
    rw [List.getElem?_append_left (by omega)] at q
    exact Rr.val j w hj (by rw [List.getElem?_append_left (by omega)]; exact q)
  · intro i c x
    obtain ⟨j, y, _⟩ := src x
    exact Rr.hold j c y
  · intro i c r x k
    obtain ⟨j, y, _⟩ := src x
    exact Rr.lab j c r y k
  · intro i w q
    by_cases hi : i < A.length
    · rw [List.getElem?_append_left hi] at q
      exact Rr.nd i w (by rw [List.getElem?_append_left hi]; exact q)
    · rw [List.getElem?_append_right (by omega)] at q
      rw [owns_none fun c hc => (h _ c ⟨w, q, hc⟩).1]; exact List.nodup_nil
  · intro i l c d x y hown hadr
    obtain ⟨j1, y1, z1⟩ := src x
    obtain ⟨j2, y2, z2⟩ := src y
    rcases z1 with ⟨rfl, hi⟩ | ⟨_, _, no⟩
    · rcases Rr.sep _ _ c d y1 y2 hown hadr with ⟨q1, q2⟩ | ⟨q1, q2⟩
      · rcases z2 with ⟨rfl, _⟩ | ⟨_, _, no⟩
        · exact .inl ⟨q1, q2⟩
        · exact absurd q2 no
      · rcases z2 with ⟨rfl, _⟩ | ⟨a1, _, _⟩
        · exact .inr ⟨q1, q2⟩
        · exact .inr ⟨by omega, q2⟩
    · exact absurd hown no
  · intro i c x
    obtain ⟨j, y, _⟩ := src x
    exact Rr.gown j c y
  · intro i c x k
    obtain ⟨j, y, _⟩ := src x
    exact Rr.gfrz j c y k
theorem kFz_own (k : Kd) : kFz k ≠ .own := by unfold kFz; split <;> simp_all
/-- a node's children, frozen -/
theorem Rel.spread {a : Addr} {k : Kd} {s : Sh} {dx : Addr} {ts : List T} (Rr : Rel g Γ n (A ++ [some (.nd a k s dx ts)]) σ H) (hn : n ≤ A.length) : Rel g Γ n (A ++ (ts.map (T.mk kFz)).map some) σ H := by
  refine (Rr.freeze hn).view hn fun i c ⟨u, e, hc⟩ => ?_
  rw [List.getElem?_map, List.getElem?_map] at e
  cases q : ts[i]? with
  | none => rw [q] at e; cases e
  | some w =>
    rw [q] at e
    have : w.mk kFz = u := by simpa using e
    subst this
    have m : c ∈ cellsL g (ts.map (T.mk kFz)) := by rw [cellsL_eq]; exact List.mem_flatMap.mpr ⟨_, List.mem_map.mpr ⟨w, List.mem_of_getElem? q, rfl⟩, hc⟩
    refine ⟨?_, 0, _, rfl, ?_⟩
    · rw [cells_mk g _ (by first | rfl | decide)] at hc
      obtain ⟨d, _, rfl⟩ := List.mem_map.mp hc
      exact kFz_own _
    · rw [T.mk, T.cells, mkL_eq]; exact List.mem_cons_of_mem _ m
/-! ### *xs -/
def seqD (d : D) : Option (List D) := match d with
  | .nd _ .lst ds => some ds
  | .nd _ .tup ds => some ds
  | _ => none
/-! ### a, b = .. -/
/-! ### {k: v, ..} -/
end
end Lin
end
section
namespace Lin
open PySem L2
/-! ### the text's rules, with their meanings -/
structure CxE (X : Cx) (W : WX) : Prop where
  calm : X.calm = true
  takes : Takes X W
  nd : X.N.Nodup
  room : Room 0 X.A
structure CxS (X : Cx) (W : WX) : Prop extends CxE X W where
  pass : PassesOwn (model X.prog X.w) X.A X.env X.xe
section
variable (g : Gc) (n : Nat) (W : WX) (M : List Nat)
/-- the reading that a meaning has -/
def tE (f : Sg → R D) : TE := fun σ H Q => ∃ Γ A, Rel g Γ n A σ H ∧ Clean g n M A ∧ PostE g n W M Γ A σ Q (f (ers n A))
def tT (f : Sg → R Bool) : TT := fun σ H Q => ∃ Γ A, Rel g Γ n A σ H ∧ Clean g n M A ∧ PostT g n W M Γ A σ Q (f (ers n A))
def tA (f : Sg → R (List D)) : TA := fun σ H Q => ∃ Γ A, Rel g Γ n A σ H ∧ Clean g n M A ∧ PostA g n W M Γ A σ Q (f (ers n A))
def tCA (rs : List (Option Nat)) (f : Sg → R (List D)) : TA := fun σ H Q => ∃ Γ A, Rel g Γ n A σ H ∧ Clean g n M A ∧ PostC g n W rs M Γ A σ Q (f (ers n A))
def tI (f : Sg → R (D × List D)) : TI := fun σ H Q => ∃ Γ A, Rel g Γ n A σ H ∧ Clean g n M A ∧ PostI g n W M Γ A σ Q (f (ers n A))
def tP (r : Nat) (f : Sg → R (List Nat)) : TE := fun σ H Q => ∃ Γ A, Rel g Γ n A σ H ∧ Clean g n M A ∧ PostP g n W r M Γ A σ Q (f (ers n A))
def tS (f : Sg → R Fl) : TS := fun Dn σ H => ∃ Γ A, Rel g Γ n A σ H ∧ Clean g n M A ∧ PostS g n W M Γ A σ Dn (f (ers n A))
def tG (xs : List Nat) (f : D → Sg → Option Sg) : TG := fun v σ H Q => ∃ Γ A t S', v = t.root ∧ Rel g Γ n (A ++ [some t]) σ H ∧ n ≤ A.length ∧ f t.er (ers n A) = some S' ∧
  (∀ A' σ' H', Rel g Γ n A' σ' H' → NextM n xs A A' → ers n A' = S' → (∀ j : Nat, j ∉ xs → σ'[j]? = σ[j]?) → Q σ' H')
end
section
theorem mn_E {g : Gc} {n : Nat} {W : WX} {M : List Nat} {f : Sg → R D} : MeanE g n W M (tE g n W M f) f := fun Γ A σ H Q r c p => ⟨Γ, A, r, c, p⟩
theorem mn_T {g : Gc} {n : Nat} {W : WX} {M : List Nat} {f : Sg → R Bool} : MeanT g n W M (tT g n W M f) f := fun Γ A σ H Q r c p => ⟨Γ, A, r, c, p⟩
theorem mn_A {g : Gc} {n : Nat} {W : WX} {M : List Nat} {f : Sg → R (List D)} : MeanA g n W M (tA g n W M f) f := fun Γ A σ H Q r c p => ⟨Γ, A, r, c, p⟩
theorem mn_C {g : Gc} {n : Nat} {W : WX} {M : List Nat} {rs : List (Option Nat)} {f : Sg → R (List D)} : MeanC g n W rs M (tCA g n W M rs f) f := fun Γ A σ H Q r c p => ⟨Γ, A, r, c, p⟩
theorem mn_I {g : Gc} {n : Nat} {W : WX} {M : List Nat} {f : Sg → R (D × List D)} : MeanI g n W M (tI g n W M f) f := fun Γ A σ H Q r c p => ⟨Γ, A, r, c, p⟩
theorem mn_P {g : Gc} {n : Nat} {W : WX} {M : List Nat} {r : Nat} {f : Sg → R (List Nat)} : MeanP g n W r M (tP g n W M r f) f := fun Γ A σ H Q r c p => ⟨Γ, A, r, c, p⟩
theorem mn_S {g : Gc} {n : Nat} {W : WX} {M : List Nat} {f : Sg → R Fl} : MeanS g n W M (tS g n W M f) f := fun Γ A σ H Q r c p => ⟨Γ, A, r, c, p⟩
theorem mn_G {g : Gc} {n : Nat} {xs : List Nat} {f : D → Sg → Option Sg} : MeanG g n xs (tG g n xs f) f := fun Γ A t σ H Q S' r hn e q => ⟨Γ, A, t, S', rfl, r, hn, e, q⟩
end
section
variable (X : Cx) (g : Gc) (W : WX) (M : List Nat)
def QE (e : Expr) (f : Sg → R D) : Prop := PE X e (tE g X.N.length W M f)
def QT (e : Expr) (f : Sg → R Bool) : Prop := PT X e (tT g X.N.length W M f)
def QW (e : Expr) (f : Sg → R Bool) : Prop := PW X e (tT g X.N.length W M f)
def QTs (es : List Expr) (f : Sg → R Bool) : Prop := PTs X es (tT g X.N.length W M f)
def QA (es : List Expr) (f : Sg → R (List D)) : Prop := PA X es (tA g X.N.length W M f)
def QC (rs : List (Option Nat)) (es : List Expr) (f : Sg → R (List D)) : Prop := PA X es (tCA g X.N.length W M rs f)
def QI (tg e : Expr) (f : Sg → R (D × List D)) : Prop := PI X tg e (tI g X.N.length W M f)
def QP (r : Nat) (e : Expr) (f : Sg → R (List Nat)) : Prop := PE X e (tP g X.N.length W M r f)
def QS (s : Stmt) (f : Sg → R Fl) : Prop := PS X s (tS g X.N.length W M f)
def QSs (s : List Stmt) (f : Sg → R Fl) : Prop := PSs X s (tS g X.N.length W M f)
def QG (xs : List Nat) (tg : Expr) (f : D → Sg → Option Sg) : Prop := PG X tg (tG g X.N.length xs f)
end
section
variable {X : Cx} {g : Gc} {W : WX} {M : List Nat}
theorem qE {e : Expr} {te : TE} {f : Sg → R D} (h : PE X e te) (m : MeanE g X.N.length W M te f) : QE X g W M e f := ⟨fun pins s σ H Q I ⟨Γ, A, r, c, p⟩ => h.run pins s σ H Q I (m Γ A σ H Q r c p)⟩
theorem qT {e : Expr} {te : TT} {f : Sg → R Bool} (h : PT X e te) (m : MeanT g X.N.length W M te f) : QT X g W M e f := ⟨fun pins s σ H Q I ⟨Γ, A, r, c, p⟩ => h.run pins s σ H Q I (m Γ A σ H Q r c p)⟩
theorem qW {e : Expr} {te : TT} {f : Sg → R Bool} (h : PW X e te) (m : MeanT g X.N.length W M te f) : QW X g W M e f := ⟨fun wh pins s σ H Q I ⟨Γ, A, r, c, p⟩ => h.run wh pins s σ H Q I (m Γ A σ H Q r c p)⟩
theorem qTs {e : List Expr} {te : TT} {f : Sg → R Bool} (h : PTs X e te) (m : MeanT g X.N.length W M te f) : QTs X g W M e f := ⟨fun pins s σ H Q I ⟨Γ, A, r, c, p⟩ => h.run pins s σ H Q I (m Γ A σ H Q r c p)⟩
theorem qA {e : List Expr} {te : TA} {f : Sg → R (List D)} (h : PA X e te) (m : MeanA g X.N.length W M te f) : QA X g W M e f := ⟨fun pos pins s σ H Q I ⟨Γ, A, r, c, p⟩ => h.run pos pins s σ H Q I (m Γ A σ H Q r c p)⟩
theorem qC {rs : List (Option Nat)} {e : List Expr} {te : TA} {f : Sg → R (List D)} (h : PA X e te) (m : MeanC g X.N.length W rs M te f) : QC X g W M rs e f := ⟨fun pos pins s σ H Q I ⟨Γ, A, r, c, p⟩ => h.run pos pins s σ H Q I (m Γ A σ H Q r c p)⟩
theorem qI {tg e : Expr} {te : TI} {f : Sg → R (D × List D)} (h : PI X tg e te) (m : MeanI g X.N.length W M te f) : QI X g W M tg e f := ⟨fun pins s σ H Q I ⟨Γ, A, r, c, p⟩ => h.run pins s σ H Q I (m Γ A σ H Q r c p)⟩
theorem qP {r : Nat} {e : Expr} {te : TE} {f : Sg → R (List Nat)} (h : PE X e te) (m : MeanP g X.N.length W r M te f) : QP X g W M r e f := ⟨fun pins s σ H Q I ⟨Γ, A, r, c, p⟩ => h.run pins s σ H Q I (m Γ A σ H Q r c p)⟩
theorem qS {e : Stmt} {te : TS} {f : Sg → R Fl} (h : PS X e te) (m : MeanS g X.N.length W M te f) : QS X g W M e f := ⟨fun pins s σ H Q I ⟨Γ, A, r, c, p⟩ => h.run pins s σ H Q I (m Γ A σ H Q r c p)⟩
theorem qSs {e : List Stmt} {te : TS} {f : Sg → R Fl} (h : PSs X e te) (m : MeanS g X.N.length W M te f) : QSs X g W M e f := ⟨fun pins s σ H Q I ⟨Γ, A, r, c, p⟩ => h.run pins s σ H Q I (m Γ A σ H Q r c p)⟩
theorem qG {xs : List Nat} {e : Expr} {te : TG} {f : D → Sg → Option Sg} (h : PG X e te) (m : MeanG g X.N.length xs te f) : QG X g xs e f := ⟨fun pins s σ H v u Q I rv ⟨Γ, A, t, S', e1, r, hn, ef, q⟩ => h.run pins s σ H v u Q I rv (by rw [e1]; exact m Γ A t σ H Q S' r hn ef q)⟩
end
theorem CxE.un {X : Cx} {W : WX} (c : CxE X W) : X.A.units + 199 < cLine := by have := c.room.un; omega
theorem CxE.blk {X : Cx} {W : WX} (c : CxE X W) (s : Shared) (H : Hp) (scope : Scope) (env : Env) (fp : List Addr) : CxE (X.blk s H scope env fp) (fun _ _ _ _ => False) :=
  ⟨c.calm, fun u s' ⟨a, B, sI, pins, σ, H, cls, d, e, I, nb, up, sky, na, os, ag, w⟩ => w.elim, c.nd, c.room⟩
theorem CxE.at {X : Cx} {W : WX} (c : CxE X W) (σ : L2.St) : PassesAt (L2.CX X.prog X.w) X σ (WE W σ) :=
  fun pins H s e s' I cx => c.takes e s' (XE.of_call I (fun cls d H' h => h) cx)
def cYes : Sg → R Bool := fun S => .ok true S
theorem mean_yes {g : Gc} {n : Nat} {W : WX} : MeanT g n W [] tYes cYes := fun Γ A σ H Q r c p => p A H r (.refl _ _) rfl
def oAdd (a b : D) : Option D := (dI2 (fun i j => some (.int (i + j))) a b).or (dCat a b)
def oSub : D → D → Option D := dI2 fun i j => some (.int (i - j))
def fMul (i j : Int) : Option V := if (-(2 ^ 64) < i ∧ i < 2 ^ 64) ∨ (-(2 ^ 64) < j ∧ j < 2 ^ 64) then some (.int (i * j)) else none
def oMul : D → D → Option D := dI2 fMul
def fDiv (i j : Int) : Option V := if 0 < j ∧ j < 1000000000000000000000000000000 then some (.int (i / j)) else none
def oDiv : D → D → Option D := dI2 fDiv
def fMod (i j : Int) : Option V := if 0 < j then some (.int (i % j)) else none
def oMod : D → D → Option D := dI2 fMod
def fPow (i j : Int) : Option V := if 0 ≤ j ∧ j ≤ 1000000 ∧ i.natAbs < 2 ^ 64 then some (.int (i ^ j.toNat)) else none
def oPow : D → D → Option D := dI2 fPow
def oLt : D → D → Option D := dI2 fun i j => some (.bl (decide (i < j)))
def oLe : D → D → Option D := dI2 fun i j => some (.bl (decide (i ≤ j)))
def oGt : D → D → Option D := dI2 fun i j => some (.bl (decide (j < i)))
def oGe : D → D → Option D := dI2 fun i j => some (.bl (decide (j ≤ i)))
def oEq : D → D → Option D := fun a b => (eqD a b).map fun k => .im (.bl k)
def oNe : D → D → Option D := fun a b => (eqD a b).map fun k => .im (.bl (!k))
def oIx : D → D → Option D := fun a b => (dIx a b).or (dDGet a b)
/-- an operator's rule, with its meaning -/
def BinM (X : Cx) (g : Gc) (op : Operator) (f : D → D → Option D) : Prop := ∃ r : R2, OpR X (binaryOp op) r ∧ OpM g X.N.length r f
def CmpM (X : Cx) (g : Gc) (op : CmpOp) (f : D → D → Option D) : Prop := ∃ r : R2, OpR X (compareOp op) r ∧ OpM g X.N.length r f
section
variable {Mz : List Nat} {X : Cx} {g : Gc} {W : WX} {M M1 M2 M3 M4 : List Nat} {a b c e o : Expr} {es : List Expr} {pos p apos p2 : Pos} {fa fb fc fe : Sg → R D} {ft fu : Sg → R Bool} {fr : Sg → R (List D)}
/-! names and constants -/
theorem sd_var (i : Nat) {x : Str} (hN : X.N[i]? = some x := by rfl) (hv : Vis X.env.scope x := by first | exact Or.inl rfl | exact Or.inr (Or.inl rfl) | exact Or.inr (Or.inr rfl)) (hd : (x == ("__debug__" : Str)) = false := by decide)
    (hcd : (x == ("__classdict__" : Str)) = false := by decide) : QE X g W [] (.Name x pos) (cVar i) := qE (pe_var hN hv hd hcd) (mean_var i)
theorem sd_mv (i : Nat) {x : Str} (hN : X.N[i]? = some x := by rfl) (hv : Vis X.env.scope x := by first | exact Or.inl rfl | exact Or.inr (Or.inl rfl) | exact Or.inr (Or.inr rfl)) (hd : (x == ("__debug__" : Str)) = false := by decide)
    (hcd : (x == ("__classdict__" : Str)) = false := by decide) : QE X g W [i] (.Name x pos) (cMv i) := qE (pe_var hN hv hd hcd) (mean_mv i)
theorem sd_int {i : Int} {j} : QE X g W [] (.Constant (.int i) j pos) (cLit (.int i)) := qE pe_int (mean_lit _)
theorem sd_bl {i : Bool} {j} : QE X g W [] (.Constant (.bool i) j pos) (cLit (.bl i)) := qE pe_bl (mean_lit _)
theorem sd_glob {x : Str} {v : V} {u : Value} (hm : X.mg x = some u) (r : RelV v u) (hg : Gl X x := by rfl) (hd : (x == ("__debug__" : Str)) = false := by decide) : QE X g W [] (.Name x pos) (cLit v) := qE (pe_glob hg hm r hd) (mean_lit _)
theorem sd_ty {x : Str} {n : String} (hm : X.mg x = none) (hv : bootBuiltins x = some (.type n) := by rfl) (hg : Gl X x := by rfl) (hn : x ≠ "__name__" := by decide) (hd : (x == ("__debug__" : Str)) = false := by decide) : QE X g W [] (.Name x pos) (cLit (.ty n)) := qE (pe_bltn (v := .ty n) hg hm hv rfl hn hd) (mean_lit _)
/-! operators -/
theorem sd_op {op : Operator} {f : D → D → Option D} (ho : BinM X g op f) (ha : QE X g W M1 a fa) (hb : QE X g W M2 b fb) (hMz : Mz = (M1 ++ M2) := by rfl) : QE X g W Mz (.BinOp a op b pos) (cTwo M2 fa fb f) := by
  subst hMz
  exact (let ⟨_, h1, h2⟩ := ho; qE (pe_op h1 ha hb) (mean_two mn_E mn_E h2))
theorem bm_add : BinM X g .Add oAdd := ⟨_, op_add.or op_cat, opm_int0.or opm_cat⟩
theorem bm_sub : BinM X g .Sub oSub := ⟨_, op_sub, opm_int0⟩
theorem bm_mul : BinM X g .Mult oMul := ⟨_, op_mul, opm_int fun i j v h => by
    unfold fMul at h
    split at h
    · rename_i hc; cases h; exact ⟨hc, rfl⟩
    · cases h⟩
theorem bm_fdiv : BinM X g .FloorDiv oDiv := ⟨_, op_fdivW, opm_int fun i j v h => by
    unfold fDiv at h
    split at h
    · rename_i hc; cases h; exact ⟨wide_div (b := 100) hc.1 (Nat.lt_of_lt_of_le (show j.natAbs < 1000000000000000000000000000000 by have := hc.2; omega) (by decide)) (by decide) (by decide), rfl⟩
    · cases h⟩
theorem bm_mod : BinM X g .Mod oMod := ⟨_, op_mod, opm_int fun i j v h => by
    unfold fMod at h
    split at h
    · rename_i hc; cases h; exact ⟨hc, rfl⟩
    · cases h⟩
theorem bm_pow : BinM X g .Pow oPow := ⟨_, op_pow, opm_int fun i j v h => by
    unfold fPow at h
    split at h
    · rename_i hc; cases h; exact ⟨hc, rfl⟩
    · cases h⟩
theorem sd_neg (ha : QE X g W M1 a fa) : QE X g W M1 (.UnaryOp .USub a pos) (cOne fa dNeg) := qE (pe_un un_neg ha) (mean_one mn_E unm_neg)
/-! comparisons -/
theorem cm_lt : CmpM X g .Lt oLt := ⟨_, op_lt, opm_int0⟩
theorem cm_le : CmpM X g .LtE oLe := ⟨_, op_le, opm_int0⟩
theorem cm_gt : CmpM X g .Gt oGt := ⟨_, op_gt, opm_int0⟩
theorem cm_ge : CmpM X g .GtE oGe := ⟨_, op_ge, opm_int0⟩
theorem cm_eq (c : CxE X W) : CmpM X g .Eq oEq := ⟨_, op_eqD (by have := c.un; omega), opm_eq⟩
theorem cm_ne (c : CxE X W) : CmpM X g .NotEq oNe := ⟨_, op_neD (by have := c.un; omega), opm_ne⟩
theorem sd_cmp {op : CmpOp} {f : D → D → Option D} (h : CmpM X g op f) (ha : QE X g W M1 a fa) (hb : QE X g W M2 b fb) (hm : behindInMarks op b = false := by first | exact nobehind _ (by decide) (by decide) | rfl) (hMz : Mz = (M1 ++ M2) := by rfl) : QE X g W Mz (.Compare a [op] [b] pos) (cTwo M2 fa fb f) := by
  subst hMz
  exact (let ⟨_, h1, h2⟩ := h; qE (pe_cmpR h1 ha hb hm) (mean_two mn_E mn_E h2))
theorem sdt_cmp {op : CmpOp} {f : D → D → Option D} (h : CmpM X g op f) (ha : QE X g W M1 a fa) (hb : QE X g W M2 b fb) (hm : behindInMarks op b = false := by first | exact nobehind _ (by decide) (by decide) | rfl) (hMz : Mz = (M1 ++ M2) := by rfl) : QT X g W Mz (.Compare a [op] [b] pos) (cTest (cTwo M2 fa fb f) dBool) := by
  subst hMz
  exact (let ⟨_, h1, h2⟩ := h; qT (pt_cmpR h1 ha hb hm) (mean_test (mean_two mn_E mn_E h2) tsm_bool))
theorem sd_chain {op op' : CmpOp} {f f' : D → D → Option D} (h : CmpM X g op f) (h' : CmpM X g op' f') (ha : QE X g W M1 a fa) (hb : QE X g W M2 b fb) (hc : QE X g W M3 c fc)
    (hm : lastMarks [op, op'] [b, c] = false := by with_unfolding_all rfl) (hMz : Mz = (M1 ++ (M2 ++ M3)) := by rfl) : QE X g W Mz (.Compare a [op, op'] [b, c] pos) (cChain M2 M3 fa fb fc f f') := by
  subst hMz
  exact (let ⟨_, h1, h2⟩ := h; let ⟨_, h3, h4⟩ := h'; qE (pe_chain h1 h3 ha hb hc hm) (mean_chain mn_E mn_E mn_E h2 h4))
theorem sdt_chain {op op' : CmpOp} {f f' : D → D → Option D} (h : CmpM X g op f) (h' : CmpM X g op' f') (ha : QE X g W M1 a fa) (hb : QE X g W M2 b fb) (hc : QE X g W M3 c fc)
    (hm : lastMarks [op, op'] [b, c] = false := by with_unfolding_all rfl) (hMz : Mz = (M1 ++ (M2 ++ M3)) := by rfl) : QT X g W Mz (.Compare a [op, op'] [b, c] pos) (cTest (cChain M2 M3 fa fb fc f f') dBool) := by
  subst hMz
  exact (let ⟨_, h1, h2⟩ := h; let ⟨_, h3, h4⟩ := h'; qT (pt_chain h1 h3 ha hb hc hm) (mean_test (mean_chain mn_E mn_E mn_E h2 h4) tsm_bool))
/-! tests -/
theorem sdt_val (ha : QE X g W M1 a fa) (he : ∀ whole, isTrue a X.env whole = (do let v ← whole; standAt a.pos; holding [v] (truthy v)) := by intro _; rfl) : QT X g W M1 a (cTest fa dTru) :=
  qT (pt_truth ha he) (mean_test mn_E tsm_tru)
theorem sdt_not (ha : QT X g W M1 a ft) : QT X g W M1 (.UnaryOp .Not a pos) (cNot ft) := qT (pt_not ha) (mean_not mn_T)
theorem sdw_and1 (ha : QT X g W M1 a ft) : QW X g W M1 (.BoolOp .And [a] pos) ft := qW (pw_and1 ha) mn_T
theorem sdw_or1 (ha : QT X g W M1 a ft) : QW X g W M1 (.BoolOp .Or [a] pos) ft := qW (pw_or1 ha) mn_T
theorem sdw_and (ha : QT X g W M1 a ft) (hb : QW X g W M2 (.BoolOp .And (b :: es) pos) fu) (hMz : Mz = (M1 ++ M2) := by rfl) : QW X g W Mz (.BoolOp .And (a :: b :: es) pos) (cAnd ft fu) := by
  subst hMz
  exact (qW (pw_and ha hb) (mean_and mn_T mn_T))
theorem sdw_or (ha : QT X g W M1 a ft) (hb : QW X g W M2 (.BoolOp .Or (b :: es) pos) fu) (hMz : Mz = (M1 ++ M2) := by rfl) : QW X g W Mz (.BoolOp .Or (a :: b :: es) pos) (cOr ft fu) := by
  subst hMz
  exact (qW (pw_or ha hb) (mean_or mn_T mn_T))
theorem sdt_w (h : QW X g W M1 a ft) : QT X g W M1 a ft := qT h.pt mn_T
theorem sd_one {op} (h : QE X g W M1 a fa) : QE X g W M1 (.BoolOp op [a] pos) fa := qE (pe_one h) mn_E
theorem sd_and (ha : QE X g W M1 a fa) (hb : QE X g W M2 (.BoolOp .And (b :: es) pos) fb) (hMz : Mz = (M1 ++ M2) := by rfl) : QE X g W Mz (.BoolOp .And (a :: b :: es) pos) (cAndV fa fb) := by
  subst hMz
  exact (qE (pe_and ha hb) (mean_andV mn_E mn_E))
theorem sd_not (ha : QE X g W M1 a fa) : QE X g W M1 (.UnaryOp .Not a pos) (cOne fa dNot) := qE (pe_not ha) (mean_notV mn_E)
/-! arguments, displays -/
theorem sda_nil : QA X g W [] [] cNil := qA pa_nil mean_nil
theorem sda_cons (ha : QE X g W M1 a fa) (hr : QA X g W M2 es fr) (hs : starEach (a :: es) X.env = (false, eval a X.env) :: starEach es X.env := by rfl) (hMz : Mz = (M1 ++ M2) := by rfl) : QA X g W Mz (a :: es) (cCons M2 fa fr) := by
  subst hMz
  exact (qA (pa_cons ha hr hs) (mean_cons mn_E mn_A))
theorem sd_lst (h : QA X g W M1 es fr) : QE X g W M1 (.List es pos) (cMany fr dLst) := qE (pe_lst h) (mean_lst mn_A)
theorem sd_tup {k} (h : QA X g W M1 es fr) : QE X g W M1 (.Tuple es k pos) (cMany fr dTup) := qE (pe_tup h) (mean_tup mn_A)
theorem sd_ix (cx : CxE X W) (ha : QE X g W M1 a fa) (hb : QE X g W M2 b fb) (hs : PlainIx b := by intro _ _; rfl) (hMz : Mz = (M1 ++ M2) := by rfl) : QE X g W Mz (.Subscript a b pos) (cTwo M2 fa fb oIx) := by
  subst hMz
  exact (qE (pe_ix ((ix_list.or ix_tup).or (ix_dget (by have := cx.un; omega))) ha hb hs) (mean_two mn_E mn_E (opm_ix.or opm_dget)))
/-! fields -/
theorem sd_fld {k : Nat} {f : Str} (hc : Cls X.K (g.cl k)) (hf : NoAttr X.K (g.cl k) f) (ha : QE X g W M1 a fa) (hb : attributeBase a f X.env (eval a X.env) = eval a X.env := by rfl) : QE X g W M1 (.Attribute a f pos) (cOne fa (dFld k f)) :=
  qE (pe_fld ha hb) (mean_one mn_E (unm_fld hc hf))
end
end Lin
end
section
namespace Lin
open PySem L2
/-- a def of the module, as its meaning -/
def Df (P : Program) (w : World) (K : PySem.W.Frag) (mg : Str → Option Value) (base : Heap) (g : Gc) (x : Str) (ps : List Str) (k : Nat) (mr : List Bool) (sem : FSem) : Prop :=
  ∃ f fd, FnOk P w K mg base (L2.CX P w) k f fd ps (spOf g mr sem) ∧ mg x = some (.ref f) ∧ PySem.W.keepIn K (.ref f) = true ∧ Binds K fd ps []
/-- a method of class c -/
def Dm (P : Program) (w : World) (K : PySem.W.Frag) (mg : Str → Option Value) (base : Heap) (g : Gc) (c : Nat) (m : Str) (ps : List Str) (k : Nat) (mr : List Bool) (sem : FSem) : Prop :=
  ∃ f fd, FnOk P w K mg base (L2.CX P w) k f fd ps (spOf g mr sem) ∧ Cls K (g.cl c) ∧ Meth K (g.cl c) m f ∧ Binds K fd ps []
/-- a class's constructor -/
def Dk (P : Program) (w : World) (K : PySem.W.Frag) (mg : Str → Option Value) (base : Heap) (g : Gc) (c : Nat) (x : Str) (ps : List Str) (k : Nat) (mr : List Bool) (sem : FSem) : Prop :=
  ∃ f fd, FnOk P w K mg base (L2.CX P w) k f fd ps (spOf g mr sem) ∧ Mk K (g.cl c) f ∧ mg x = some (.ref (g.cl c)) ∧ Binds K fd ps []
/-- a built-in function or type, called -/
def BuF (X : Cx) (g : Gc) (v : Value) (op : List D → Option D) : Prop := ∃ r, CallR X v r ∧ CaM g X.N.length r op
section
variable {Mz : List Nat} {X : Cx} {g : Gc} {W : WX} {M M1 M2 M3 M4 : List Nat} {a b c e o tg iter : Expr} {es : List Expr} {pos p apos p2 pos' : Pos} {fa fb fc fe : Sg → R D} {ft fu : Sg → R Bool} {fr : Sg → R (List D)} {rs : List (Option Nat)} {x m : Str} {ps : List Str} {k : Nat} {mr : List Bool} {sem : FSem} {cn : Nat} {f1 f2 : Sg → R Fl} {st : Stmt} {sts sts' : List Stmt}
theorem sdc_nil : QC X g W [] [] [] cNil := qC pa_nil meanc_nil
theorem sdc_val (ha : QE X g W M1 a fa) (hr : QC X g W M2 rs es fr) (hs : starEach (a :: es) X.env = (false, eval a X.env) :: starEach es X.env := by rfl) (hMz : Mz = (M1 ++ M2) := by rfl) : QC X g W Mz (none :: rs) (a :: es) (cCons M2 fa fr) := by
  subst hMz
  exact (qC (pa_cons ha hr hs) (meanc_val mn_E mn_C))
theorem sdc_ref (r : Nat) {y : Str} (hr : QC X g W M2 rs es fr) (hm : r ∉ M2 := by decide) (hN : X.N[r]? = some y := by rfl) (hv : Vis X.env.scope y := by first | exact Or.inl rfl | exact Or.inr (Or.inl rfl) | exact Or.inr (Or.inr rfl)) (hd : (y == ("__debug__" : Str)) = false := by decide)
    (hcd : (y == ("__classdict__" : Str)) = false := by decide) (hs : starEach (.Name y pos :: es) X.env = (false, eval (.Name y pos) X.env) :: starEach es X.env := by rfl) (hMz : Mz = ([r] ++ M2) := by rfl) : QC X g W Mz (some r :: rs) (.Name y pos :: es) (cRefs r fr) := by
  subst hMz
  exact (qC (pa_cons (pe_var hN hv hd hcd) hr hs) (meanc_ref mn_C hm))
theorem sd_call (cx : CxE X W) (F : Df X.prog X.w X.K X.mg X.base g x ps k (rs.map Option.isSome) sem) (hr : Room k X.A) (ha : QC X g W M1 rs (e :: es) fr) (hM : ∀ r ∈ rs.filterMap id, r ∈ M1 := by decide) (hnd : (rs.filterMap id).Nodup := by decide) (hg : Gl X x := by rfl) (hdb : (x == ("__debug__" : Str)) = false := by decide)
    (he : starEach (e :: es) X.env = (false, eval e X.env) :: starEach es X.env := by rfl) (hpl : (backTo pos (starEach es X.env)).any (·.1) = false := by rfl) : QE X g W M1 (.Call (.Name x p) (e :: es) [] pos) (cCall rs fr sem) :=
  let ⟨_, _, h1, h2, h3, h4⟩ := F; qE (pe_callS h1 hr hg h2 h3 h4 cx.at ha hdb he hpl) (mean_call mn_C hM hnd)
theorem sd_meth {pl : Sem Bool} (cx : CxE X W) (F : Dm X.prog X.w X.K X.mg X.base g cn m ps k (false :: rs.map Option.isSome) sem) (hr : Room k X.A) (ho : QE X g W M1 o fa) (ha : QC X g W M2 rs (e :: es) fr) (hM : ∀ r ∈ rs.filterMap id, r ∈ M1 ++ M2 := by decide) (hnd : (rs.filterMap id).Nodup := by decide)
    (hst : starEach (e :: es) X.env = (false, eval e X.env) :: starEach es X.env := by rfl) (hpl : (backTo pos (starEach es X.env)).any (·.1) = false := by rfl)
    (ht : eval (.Call (.Attribute o m apos) (e :: es) [] pos) X.env = (do
      let ov ← eval o X.env
      standAt apos.atName
      let (f, first) ← holding [ov] (getMethod ov m pl)
      callWith pos f first (backTo pos (starEach (e :: es) X.env)) (backToKw pos (keywordEach [] X.env))) := by rfl) (hMz : Mz = (M1 ++ M2) := by rfl) : QE X g W Mz (.Call (.Attribute o m apos) (e :: es) [] pos) (cCall (none :: rs) (cConsK (isObjD cn m) M2 fa fr) sem) := by
  subst hMz
  exact (let ⟨_, _, h1, h2, h3, h4⟩ := F; qE (pe_methS (pl := pl) ho h2 h3 h1 hr h4 cx.at ha hst hpl ht) (mean_call (rs := none :: rs) (meanc_valK (fun Γ A t σ H R h => obj_of R h) mn_E mn_C) (by simpa using hM) (by simpa using hnd)))
theorem sd_meth0 {pl : Sem Bool} (cx : CxE X W) (F : Dm X.prog X.w X.K X.mg X.base g cn m ps k [false] sem) (hr : Room k X.A) (ho : QE X g W M1 o fa)
    (ht : eval (.Call (.Attribute o m apos) [] [] pos) X.env = (do
      let ov ← eval o X.env
      standAt apos.atName
      let (f, first) ← holding [ov] (getMethod ov m pl)
      callWith pos f first (backTo pos (starEach [] X.env)) (backToKw pos (keywordEach [] X.env))) := by rfl) (hMz : Mz = (M1 ++ []) := by rfl) : QE X g W Mz (.Call (.Attribute o m apos) [] [] pos) (cCall [none] (cConsK (isObjD cn m) [] fa cNil) sem) := by
  subst hMz
  exact (let ⟨_, _, h1, h2, h3, h4⟩ := F; qE (pe_meth0S (pl := pl) ho h2 h3 h1 hr h4 cx.at ht) (mean_call (rs := [none]) (meanc_valK (fun Γ A t σ H R h => obj_of R h) mn_E meanc_nil) (by simp) (by simp)))
theorem sd_make (cx : CxE X W) (F : Dk X.prog X.w X.K X.mg X.base g cn x ps k (true :: rs.map Option.isSome) sem) (hr : Room (k + 1) X.A) (ha : QC X g W M1 rs (e :: es) fr) (hM : ∀ r ∈ rs.filterMap id, r ∈ M1 := by decide) (hnd : (rs.filterMap id).Nodup := by decide) (hg : Gl X x := by rfl) (hdb : (x == ("__debug__" : Str)) = false := by decide)
    (he : starEach (e :: es) X.env = (false, eval e X.env) :: starEach es X.env := by rfl) (hpl : (backTo pos (starEach es X.env)).any (·.1) = false := by rfl) : QE X g W M1 (.Call (.Name x p) (e :: es) [] pos) (cMk cn rs fr sem) :=
  let ⟨_, _, h1, h2, h3, h4⟩ := F; qE (pe_makeS h2 h1 hr hg h3 h4 cx.at ha hdb he hpl) (mean_mk mn_C hM hnd)
/-! built-ins -/
theorem sd_callB {id : String} {op : List D → Option D} (hb : BuF X g (.builtin id) op) (ha : QA X g W M1 (e :: es) fr) (hm : X.mg x = none) (hv : bootBuiltins x = some (.builtin id) := by rfl) (hg : Gl X x := by rfl) (hn : x ≠ "__name__" := by decide) (hdb : (x == ("__debug__" : Str)) = false := by decide)
    (he : starEach (e :: es) X.env = (false, eval e X.env) :: starEach es X.env := by rfl) (hpl : (backTo pos (starEach es X.env)).any (·.1) = false := by rfl) : QE X g W M1 (.Call (.Name x p) (e :: es) [] pos) (cMany fr op) :=
  let ⟨_, h1, h2⟩ := hb; qE (pe_callB h1 hg hm hv ha hn hdb he hpl) (mean_many mn_A h2)
theorem sd_callTy {id : String} {op : List D → Option D} (hb : BuF X g (.type id) op) (ha : QA X g W M1 (e :: es) fr) (hm : X.mg x = none) (hv : bootBuiltins x = some (.type id) := by rfl) (hg : Gl X x := by rfl) (hn : x ≠ "__name__" := by decide) (hdb : (x == ("__debug__" : Str)) = false := by decide)
    (he : starEach (e :: es) X.env = (false, eval e X.env) :: starEach es X.env := by rfl) (hpl : (backTo pos (starEach es X.env)).any (·.1) = false := by rfl) : QE X g W M1 (.Call (.Name x p) (e :: es) [] pos) (cMany fr op) :=
  let ⟨_, h1, h2⟩ := hb; qE (pe_callTy h1 hg hm hv ha hn hdb he hpl) (mean_many mn_A h2)
def bLen : List D → Option D := fun ds => (immV vLen ds).or (immV vLenD ds)
def bAbs : List D → Option D := immV (vInt1 fun i => .int (if i < 0 then -i else i))
def bMax : List D → Option D := fun ds => (immV (vInt2 fun i j => .int (if j > i then j else i)) ds).or (immV vMaxL ds)
def bMin : List D → Option D := fun ds => (immV (vInt2 fun i j => .int (if j < i then j else i)) ds).or (immV vMinL ds)
def bSorted : List D → Option D := fun ds => (dSorted ds).or (dSortedD ds)
def bList : List D → Option D := fun ds => (dListOf ds).or (dListD ds)
theorem bu_len : BuF X g (.builtin "len") bLen := ⟨_, call_len_seq.or call_lenD, cam_len.or cam_lenD⟩
theorem bu_abs : BuF X g (.builtin "abs") bAbs := ⟨_, call_abs, cam_int1⟩
theorem bu_max (cx : CxE X W) : BuF X g (.builtin "max") bMax := ⟨_, (call_max2 cx.calm).or (cr_max cx.calm), cam_int2.or cam_maxL⟩
theorem bu_min (cx : CxE X W) : BuF X g (.builtin "min") bMin := ⟨_, (call_min2 cx.calm).or (cr_min cx.calm), cam_int2.or cam_minL⟩
theorem bu_sum (cx : CxE X W) : BuF X g (.builtin "sum") (immV vSum) := ⟨_, cr_sum cx.calm, cam_sum⟩
theorem bu_all (cx : CxE X W) : BuF X g (.builtin "all") (immV vAll) := ⟨_, cr_all cx.calm, cam_all⟩
theorem bu_isi : BuF X g (.builtin "isinstance") (immV vIsi) := ⟨_, call_isz, cam_isi⟩
theorem bu_sorted (cx : CxE X W) : BuF X g (.builtin "sorted") bSorted := ⟨_, cr_sortedI.or (show CallR X (.builtin "sorted") rSortedDI from call_sortedDI cx.calm), cam_sorted.or cam_sortedD⟩
theorem bu_int : BuF X g (.type "int") (immV vToInt) := ⟨_, call_int1, cam_toInt⟩
theorem bu_list (cx : CxE X W) : BuF X g (.type "list") bList := ⟨_, call_list_of.or (call_listZ cx.calm), cam_listOf.or cam_listD⟩
/-! paths, methods of lists -/
theorem sdp_var (r : Nat) {y : Str} (hN : X.N[r]? = some y := by rfl) (hv : Vis X.env.scope y := by first | exact Or.inl rfl | exact Or.inr (Or.inl rfl) | exact Or.inr (Or.inr rfl)) (hd : (y == ("__debug__" : Str)) = false := by decide)
    (hcd : (y == ("__classdict__" : Str)) = false := by decide) : QP X g W [] r (.Name y pos) (pVar r) := qP (pe_var hN hv hd hcd) (meanp_var r)
theorem sd_bm {r : Nat} {fp : Sg → R (List Nat)} {id : String} {rr : V → List V → Hp → VK → Prop} {op : Sh → List D → List D → Option (Sh × List D × D)} (slot : PySem.Slot "list" m id) (hty : typeOf (.builtin id) = pure (.type "method_descriptor")) (hm : MtR X id rr) (ho : MuM g rr op) (hp : QP X g W M1 r o fp) (ha : QA X g W M2 (e :: es) fr)
    (hbase : attributeBase o m X.env (eval o X.env) = eval o X.env := by rfl)
    (hfew : ((backTo pos (starEach (e :: es) X.env)).all (fun x => !x.1) && (backToKw pos (keywordEach [] X.env)).all (fun x => x.1.isSome)
      && decide ((e :: es).length + ([] : List Keyword).length + (if ([] : List Keyword).isEmpty then 0 else 1) < 30)) = true := by rfl)
    (hline : (apos.endLine == pos.line) = true := by rfl) (hs : starEach (e :: es) X.env = (false, eval e X.env) :: starEach es X.env := by rfl) (hplain : (backTo pos (starEach es X.env)).any (·.1) = false := by rfl) (hMz : Mz = (M1 ++ M2 ++ [r]) := by rfl) : QE X g W Mz (.Call (.Attribute o m apos) (e :: es) [] pos) (cMutM isLst r M2 fp fr op) := by
  subst hMz
  exact (qE (pe_bm PySem.F.plainAttrs_list slot hty hm hp ha hbase hfew hline hs hplain) (mean_mutM mn_P mn_A ho fun H k a dx s vs h e => lst_ty h e))
theorem sd_bm0 {r : Nat} {fp : Sg → R (List Nat)} {id : String} {rr : V → List V → Hp → VK → Prop} {op : Sh → List D → List D → Option (Sh × List D × D)} (slot : PySem.Slot "list" m id) (hty : typeOf (.builtin id) = pure (.type "method_descriptor")) (hm : MtR X id rr) (ho : MuM g rr op) (hp : QP X g W M1 r o fp)
    (hbase : attributeBase o m X.env (eval o X.env) = eval o X.env := by rfl) (hline : (apos.endLine == pos.line) = true := by rfl) (hMz : Mz = (M1 ++ [] ++ [r]) := by rfl) : QE X g W Mz (.Call (.Attribute o m apos) [] [] pos) (cMutM isLst r [] fp cNil op) := by
  subst hMz
  exact (qE (pe_bm0 PySem.F.plainAttrs_list slot hty hm hp hbase hline) (mean_mutM mn_P mean_nil ho fun H k a dx s vs h e => lst_ty h e))
theorem sd_append {r : Nat} {fp : Sg → R (List Nat)} (hp : QP X g W M1 r o fp) (ha : QA X g W M2 [e] fr)
    (hbase : attributeBase o "append" X.env (eval o X.env) = eval o X.env := by rfl)
    (hfew : ((backTo pos (starEach [e] X.env)).all (fun x => !x.1) && (backToKw pos (keywordEach [] X.env)).all (fun x => x.1.isSome)
      && decide ([e].length + ([] : List Keyword).length + (if ([] : List Keyword).isEmpty then 0 else 1) < 30)) = true := by rfl)
    (hline : (apos.endLine == pos.line) = true := by rfl) (hs : starEach [e] X.env = (false, eval e X.env) :: starEach [] X.env := by rfl) (hMz : Mz = (M1 ++ M2 ++ [r]) := by rfl) : QE X g W Mz (.Call (.Attribute o "append" apos) [e] [] pos) (cMutM isLst r M2 fp fr mAppend) := by
  subst hMz
  exact (sd_bm PySem.F.slot_list_append PySem.F.type_list_append mt_append mum_append hp ha hbase hfew hline hs rfl)
theorem sd_popAt {r : Nat} {fp : Sg → R (List Nat)} (hp : QP X g W M1 r o fp) (ha : QA X g W M2 [e] fr)
    (hbase : attributeBase o "pop" X.env (eval o X.env) = eval o X.env := by rfl)
    (hfew : ((backTo pos (starEach [e] X.env)).all (fun x => !x.1) && (backToKw pos (keywordEach [] X.env)).all (fun x => x.1.isSome)
      && decide ([e].length + ([] : List Keyword).length + (if ([] : List Keyword).isEmpty then 0 else 1) < 30)) = true := by rfl)
    (hline : (apos.endLine == pos.line) = true := by rfl) (hs : starEach [e] X.env = (false, eval e X.env) :: starEach [] X.env := by rfl) (hMz : Mz = (M1 ++ M2 ++ [r]) := by rfl) : QE X g W Mz (.Call (.Attribute o "pop" apos) [e] [] pos) (cMutM isLst r M2 fp fr mPopAt) := by
  subst hMz
  exact (sd_bm PySem.F.slot_list_pop PySem.F.type_list_pop mt_popAt mum_popAt hp ha hbase hfew hline hs rfl)
theorem sd_clear {r : Nat} {fp : Sg → R (List Nat)} (hp : QP X g W M1 r o fp) (hbase : attributeBase o "clear" X.env (eval o X.env) = eval o X.env := by rfl) (hline : (apos.endLine == pos.line) = true := by rfl) (hMz : Mz = (M1 ++ [] ++ [r]) := by rfl) : QE X g W Mz (.Call (.Attribute o "clear" apos) [] [] pos) (cMutM isLst r [] fp cNil mClear) := by
  subst hMz
  exact (sd_bm0 PySem.F.slot_list_clear PySem.F.type_list_clear mt_clear mum_clear hp hbase hline)
/-! targets, iterables, comprehensions -/
theorem sdg_name (z : Bool) (i : Nat) {y : Str} (cx : X.N.Nodup) (hi : X.N[i]? = some y := by rfl) (hx : Loc X.env.scope y := by first | exact Or.inl rfl | exact Or.inr rfl) (hf : X.fn y = true ∨ X.env.scope.names.lookup y = some .local := by first | exact .inl rfl | exact .inr rfl) : QG X g [i] (.Name y pos) (gSet z i) :=
  qG (pg_name cx hi hx hf) (meang_name (List.getElem?_eq_some_iff.mp hi).1)
theorem sdi_list (ha : QE X g W M1 a fa) : QI X g W M1 tg a (iSeq fa .lst) := qI (pi_list ha) (meani_list mn_E)
theorem sdi_rng1 (ha : QA X g W M1 [a] fr) (hm : X.mg "range" = none) (hg : Gl X "range" := by rfl) (hs : starEach [a] X.env = [(false, eval a X.env)] := by rfl) : QI X g W M1 tg (.Call (.Name "range" p) [a] [] pos) (iRng1F fr) := qI (pi_range1 hg hm ha hs) (meani_rng1 mn_A)
theorem sdi_rng2 (ha : QA X g W M1 [a, b] fr) (hm : X.mg "range" = none) (hg : Gl X "range" := by rfl) (hs : starEach [a, b] X.env = [(false, eval a X.env), (false, eval b X.env)] := by rfl) (hs2 : starEach [b] X.env = [(false, eval b X.env)] := by rfl) :
    QI X g W M1 tg (.Call (.Name "range" p) [a, b] [] pos) (iRng2F fr) := qI (pi_range2 hg hm ha hs hs2) (meani_rng2 mn_A)
theorem sdts_nil : QTs X g W [] [] cYes := qTs pts_nil mean_yes
theorem sd_lc {ifs : List Expr} {scope : Scope} (own : List (Str × Nat)) {fi : Sg → R (D × List D)} {tf : D → Sg → Option Sg} (cx : CxE X W) (hi : QI X g W M1 tg iter fi) (ok : BlkOk X.N X.env.scope scope own)
    (hg : ∀ (s : Shared) (H : Hp) (C : Addr) (cl : List (Str × Addr)) (fp : List Addr), CxE (X.blk s H scope (compEnvC scope cl C X.env) fp) (fun _ _ _ _ => False) → QG (X.blk s H scope (compEnvC scope cl C X.env) fp) g (own.map (·.2)) tg tf)
    (ht : ∀ (s : Shared) (H : Hp) (C : Addr) (cl : List (Str × Addr)) (fp : List Addr), CxE (X.blk s H scope (compEnvC scope cl C X.env) fp) (fun _ _ _ _ => False) → QTs (X.blk s H scope (compEnvC scope cl C X.env) fp) g (fun _ _ _ _ => False) M2 ifs ft)
    (he : ∀ (s : Shared) (H : Hp) (C : Addr) (cl : List (Str × Addr)) (fp : List Addr), CxE (X.blk s H scope (compEnvC scope cl C X.env) fp) (fun _ _ _ _ => False) → QE (X.blk s H scope (compEnvC scope cl C X.env) fp) g (fun _ _ _ _ => False) M3 a fa)
    (hs : ∀ x, foldedSetIterable iter X.env x = pure x := by intro _; rfl) (hMz : Mz = (M1 ++ (M2 ++ M3) ++ own.map (·.2)) := by rfl) : QE X g W Mz (.ListComp a [⟨tg, iter, ifs, 0⟩] scope pos) (cLc (own.map (·.2)) (M2 ++ M3) tf fi ft fa) := by
  subst hMz
  exact (qE (pe_lc (g := tG g X.N.length (own.map Prod.snd) tf) (tt := tT g X.N.length (fun _ _ _ _ => False) M2 ft) (te := tE g X.N.length (fun _ _ _ _ => False) M3 fa) cx.calm cx.nd hi ok (fun s H C cl fp => hg s H C cl fp (cx.blk ..)) (fun s H C cl fp => ht s H C cl fp (cx.blk ..)) (fun s H C cl fp => he s H C cl fp (cx.blk ..)) hs) (mean_lc (fun x hx => by
    obtain ⟨q, hq, rfl⟩ := List.mem_map.mp hx
    exact (List.getElem?_eq_some_iff.mp (ok.ix q hq)).1) mn_I mn_G mn_T mn_E))
/-! statements -/
theorem sds_set (z : Bool) (i : Nat) {y : Str} (cx : X.N.Nodup) (he : QE X g W M1 e fe) (hi : X.N[i]? = some y := by rfl) (hx : Loc X.env.scope y := by first | exact Or.inl rfl | exact Or.inr rfl) (hs : swapsWith e (some (.Name y pos')) pos.line X.env = pure false := by rfl)
    (hf : X.fn y = true ∨ X.env.scope.names.lookup y = some .local := by first | exact .inl rfl | exact .inr rfl) (hMz : Mz = (M1 ++ [i].map (X.N.length + ·)) := by rfl) : QS X g W Mz (.Assign [.Name y pos'] e pos) (cAsg (gSet z i) fe) := by
  subst hMz
  exact (qS (ps_set cx hi hx he hs hf) (mean_asg mn_E (meang_name (List.getElem?_eq_some_iff.mp hi).1)))
theorem sds_setLc (z : Bool) (i : Nat) {y : Str} {ifs : List Expr} {scope : Scope} (own : List (Str × Nat)) {fi : Sg → R (D × List D)} {tf : D → Sg → Option Sg} (cx : CxE X W) (hi : QI X g W M1 tg iter fi) (ok : BlkOk X.N X.env.scope scope own)
    (hg : ∀ (s : Shared) (H : Hp) (C : Addr) (cl : List (Str × Addr)) (fp : List Addr), CxE (X.blk s H scope (compEnvC scope cl C X.env) fp) (fun _ _ _ _ => False) → QG (X.blk s H scope (compEnvC scope cl C X.env) fp) g (own.map (·.2)) tg tf)
    (ht : ∀ (s : Shared) (H : Hp) (C : Addr) (cl : List (Str × Addr)) (fp : List Addr), CxE (X.blk s H scope (compEnvC scope cl C X.env) fp) (fun _ _ _ _ => False) → QTs (X.blk s H scope (compEnvC scope cl C X.env) fp) g (fun _ _ _ _ => False) M2 ifs ft)
    (he : ∀ (s : Shared) (H : Hp) (C : Addr) (cl : List (Str × Addr)) (fp : List Addr), CxE (X.blk s H scope (compEnvC scope cl C X.env) fp) (fun _ _ _ _ => False) → QE (X.blk s H scope (compEnvC scope cl C X.env) fp) g (fun _ _ _ _ => False) M3 a fa)
    (hy : X.N[i]? = some y := by rfl) (hyl : X.env.scope.names.lookup y = some .local := by rfl) (hsw : swapsWith (.ListComp a [⟨tg, iter, ifs, 0⟩] scope p) (some (.Name y pos')) pos.line X.env = pure true := by rfl)
    (hs : ∀ x, foldedSetIterable iter X.env x = pure x := by intro _; rfl) (hMz : Mz = ((M1 ++ (M2 ++ M3) ++ own.map (·.2)) ++ [i].map (X.N.length + ·)) := by rfl) : QS X g W Mz (.Assign [.Name y pos'] (.ListComp a [⟨tg, iter, ifs, 0⟩] scope p) pos) (cAsg (gSet z i) (cLc (own.map (·.2)) (M2 ++ M3) tf fi ft fa)) := by
  subst hMz
  exact (qS (ps_setLc (g := tG g X.N.length (own.map Prod.snd) tf) (tt := tT g X.N.length (fun _ _ _ _ => False) M2 ft) (te := tE g X.N.length (fun _ _ _ _ => False) M3 fa) cx.calm cx.nd hy hyl hsw hi ok (fun s H C cl fp => hg s H C cl fp (cx.blk ..)) (fun s H C cl fp => ht s H C cl fp (cx.blk ..)) (fun s H C cl fp => he s H C cl fp (cx.blk ..)) hs) (mean_asg (mean_lc (fun x hx => by
    obtain ⟨q, hq, rfl⟩ := List.mem_map.mp hx
    exact (List.getElem?_eq_some_iff.mp (ok.ix q hq)).1) mn_I mn_G mn_T mn_E) (meang_name (List.getElem?_eq_some_iff.mp hy).1)))
def oSet (s : Sh) (ds : List D) (i v : D) : Option (Sh × List D) := (sLst s ds i v).or (sDic s ds i v)
theorem sds_setAt {r : Nat} {fp : Sg → R (List Nat)} (cx : CxE X W) (he : QE X g W M1 e fe) (hp : QP X g W M2 r o fp) (hi : QE X g W M3 b fb) (hs : swapsWithSole [.Subscript o b pos'] e pos.line X.env = pure false := by rfl) (hw : swappedStores [.Subscript o b pos'] e X.env = pure none := by rfl)
    (h1 : (assignEach [.Subscript o b pos'] X.env).map (·.2) = [assign (.Subscript o b pos') X.env] := by rfl)
    (ha : ∀ v, assign (.Subscript o b pos') X.env v = (do
      let ov ← holding [v] (eval o X.env)
      let iv ← holding [v, ov] (eval b X.env)
      standAt pos'
      holding [v, ov, iv] (setItem ov iv v)
      release [v, ov, iv] []) := by intro _; rfl) (hMz : Mz = (M1 ++ (M2 ++ M3) ++ [r]) := by rfl) : QS X g W Mz (.Assign [.Subscript o b pos'] e pos) (cSetAt r (M2 ++ M3) fe fp fb oSet) := by
  subst hMz
  exact (qS (ps_asg he (pg_sub hp hi (PSet.or set_list (pset_dict (by have := cx.un; omega))) ha) hs hw h1) (mean_setAt mn_E mn_P mn_E (stm_lst.or stm_dic)))
theorem sds_fld {r : Nat} {f : Str} {fp : Sg → R (List Nat)} (hc : Cls X.K (g.cl cn)) (hf : NoAttr X.K (g.cl cn) f) (he : QE X g W M1 e fe) (hp : QP X g W M2 r o fp) (hs : swapsWith e (some (.Attribute o f pos')) pos.line X.env = pure false := by rfl) (hMz : Mz = (M1 ++ (M2 ++ []) ++ [r]) := by rfl) : QS X g W Mz (.Assign [.Attribute o f pos'] e pos) (cSetAt r (M2 ++ []) fe fp (cLit .non) (sAttr cn f)) := by
  subst hMz
  exact (qS (ps_fld hp he hs) (mean_setAt mn_E mn_P (mean_lit .non) (stm_attr hc hf)))
theorem sds_expr (he : QE X g W M1 e fe) (hs : swapsWith e none pos.line X.env = pure false := by rfl) : QS X g W M1 (.Expr e pos) (cExpr fe) := qS (ps_expr he hs) (mean_expr mn_E)
theorem sds_ret (he : QE X g W M1 e fe) : QS X g W M1 (.Return (some e) pos) (cRet fe) := qS (ps_ret he) (mean_ret mn_E)
theorem sds_never : QS X g W [] st cBad := qS ps_never mean_never
theorem sds_if (hc : QT X g W M1 c ft) (h1 : QSs X g W M2 sts f1) (h2 : QSs X g W M3 sts' f2) (hMz : Mz = (M1 ++ (M2 ++ M3)) := by rfl) : QS X g W Mz (.If c sts sts' pos) (cIf ft f1 f2) := by
  subst hMz
  exact (qS (ps_if hc h1 h2) (mean_if mn_T mn_S mn_S))
theorem sds_for {xs : List Nat} {fi : Sg → R (D × List D)} {tf : D → Sg → Option Sg} (cx : CxS X W) (hi : QI X g W M1 tg iter fi) (hg : QG X g xs tg tf) (hb : QSs X g W M2 sts f1) (hs : ∀ x, foldedSetIterable iter X.env x = pure x := by intro _; rfl) (hMz : Mz = (M1 ++ (xs.map (X.N.length + ·) ++ M2)) := by rfl) : QS X g W Mz (.For tg iter sts [] pos) (cFor M2 tf fi f1) := by
  subst hMz
  exact (qS (ps_for cx.pass cx.calm hi hg hb hs) (mean_for mn_I mn_G mn_S))
theorem sdb_nil : QSs X g W [] [] cNext := qSs pss_nil mean_next
theorem sdb_one (h : QS X g W M1 st f1) : QSs X g W M1 [st] f1 := qSs (pss_one h) mn_S
theorem sdb_cons (h1 : QS X g W M1 st f1) (h2 : QSs X g W M2 sts f2) (hMz : Mz = (M1 ++ M2) := by rfl) : QSs X g W Mz (st :: sts) (cSeq f1 f2) := by
  subst hMz
  exact (qSs (pss_cons h1 h2) (mean_seq mn_S mn_S))
end
/-! ### defs -/
section
variable {P : Program} {w : World} {K : PySem.W.Frag} {mg : Str → Option Value} {base : Heap} {g : Gc}
theorem cx_ok {N ps : List Str} {sc : Scope} (S : FnScope N ps sc) {qual : Str} {f : Addr} {cdv : Value} {A : Around} {outer : List Env} {s : Shared} {H : Hp} {E : XK} {k : Nat} (hr : Room k (A.deeper (PyProof.Rows.envOfC qual sc s.heap.objs.size f cdv))) :
    CxS (cxOf (L2.CX P w) P w K mg base N qual sc f cdv A outer s H E) (fun cls d _ H => E cls d H) :=
  ⟨⟨rfl, takes_of rfl rfl rfl rfl, S.nd, hr.mono (Nat.zero_le _)⟩, passes_of rfl⟩
theorem def_ok {x qual : Str} {st : Stmt} {f : Addr} {fd : FuncData} {N ps : List Str} {k : Nat} (hph : ∀ Γ, g.ph Γ) (M : List Nat) {fb : Sg → R Fl} (F : Fun K x qual st f fd) (S : FnScope N ps (defScope st)) (mr : List Bool) (hmr : mr.length = ps.length) (hM : ∀ i : Nat, mr[i]? = some true → N.length + i ∉ M)
    (hb : ∀ (cdv : Value) (A : Around) (outer : List Env) (s : Shared) (H : Hp) (E : XK), Room k (A.deeper (PyProof.Rows.envOfC qual (defScope st) s.heap.objs.size f cdv)) →
      CxS (cxOf (L2.CX P w) P w K mg base N qual (defScope st) f cdv A outer s H E) (fun cls d _ H => E cls d H) →
      QSs (cxOf (L2.CX P w) P w K mg base N qual (defScope st) f cdv A outer s H E) g (fun cls d _ H => E cls d H) M (defBody st) fb) :
    FnOk P w K mg base (L2.CX P w) (k + 1) f fd ps (spOf g mr (semOf N.length mr fb)) :=
  fn_ok hph F S mr hmr hM fun cdv A outer s H E hr => ⟨_, hb cdv A outer s H E hr (cx_ok S hr), mn_S⟩
end
end Lin
end
section
namespace Lin
open PySem L2
theorem keep_of {mr : List Bool} {n : Nat} {M : List Nat} (h : (mr.zipIdx.all fun p => !p.1 || !M.contains (n + p.2)) = true) : ∀ i : Nat, mr[i]? = some true → n + i ∉ M := by
  intro i hi hm
  rw [List.all_eq_true] at h
  have := h (true, i) (by
    rw [List.mem_iff_getElem?]
    exact ⟨i, by rw [List.getElem?_zipIdx, hi]; simp⟩)
  simp [hm] at this
/-! ### a slot by reference that the arguments behind it use too -/
section
variable {g : Gc} {n : Nat} {W : WX} {Γ : Gh} {A A' A'' B : List (Option T)} {σ : L2.St} {H H' : Hp} {t : T} {M M1 M2 M3 Mz : List Nat}
/-- places of temps do not matter -/
theorem Rel.reix (Rr : Rel g Γ n A σ H) (f : Nat → Nat) (hn : n ≤ A'.length) (inj : ∀ i j, f i = f j → i = j) (fx : ∀ i, i < n → f i = i) (h : ∀ (i : Nat) t, A'[i]? = some (some t) → A[f i]? = some (some t)) : Rel g Γ n A' σ H := by
  have hc : ∀ {i c}, CellAt g A' i c → CellAt g A (f i) c := fun ⟨t, e, m⟩ => ⟨t, h _ _ e, m⟩
  refine ⟨hn, Rr.slen, fun i t hi e => Rr.val i t hi (by have := h i t e; rw [fx i hi] at this; exact this), fun i c x => Rr.hold _ c (hc x), fun i c r x => Rr.lab _ c r (hc x), fun i t e => Rr.nd _ t (h i t e), fun i j c d x y ho ha => ?_, Rr.frame, fun i c x => Rr.gown _ c (hc x), fun i c x => Rr.gfrz _ c (hc x), Rr.pin, Rr.tab, Rr.lck⟩
  rcases Rr.sep _ _ c d (hc x) (hc y) ho ha with ⟨e, k⟩ | ⟨e, k⟩
  · exact .inl ⟨inj _ _ e, k⟩
  · have hl := Rr.lab _ d _ (hc y) k
    have : f i = i := inj _ _ (fx _ hl)
    rw [this] at k
    exact .inr ⟨fun z => e (by rw [z]), k⟩
theorem Rel.rot {o : Option T} (Rr : Rel g Γ n (A ++ B ++ [o]) σ H) (hn : n ≤ A.length) : Rel g Γ n (A ++ [o] ++ B) σ H := by
  refine Rr.reix (fun i => if i < A.length then i else if i = A.length then A.length + B.length else if i ≤ A.length + B.length then i - 1 else i) (by simp; omega) (fun i j e => ?_) (fun i hi => if_pos (by omega)) fun i t e => ?_
  · repeat' split at e
    all_goals omega
  · by_cases h1 : i < A.length
    · rw [if_pos h1]
      rw [List.append_assoc, List.getElem?_append_left h1] at e
      rw [List.append_assoc, List.getElem?_append_left h1]
      exact e
    · rw [if_neg h1]
      by_cases h2 : i = A.length
      · rw [if_pos h2]
        subst h2
        rw [List.append_assoc, List.getElem?_append_right (Nat.le_refl _), Nat.sub_self] at e
        have e2 : o = some t := by simpa using e
        rw [List.getElem?_append_right (by simp)]
        simp [e2]
      · rw [if_neg h2]
        rw [List.append_assoc, List.getElem?_append_right (by omega)] at e
        obtain ⟨k, hk⟩ : ∃ k, i - A.length = k + 1 := ⟨i - A.length - 1, by omega⟩
        rw [hk] at e
        have e2 : B[k]? = some (some t) := by simpa using e
        have hkB : k < B.length := (List.getElem?_eq_some_iff.mp e2).1
        rw [if_pos (by omega), List.getElem?_append_left (by simp; omega), List.getElem?_append_right (by omega), show i - 1 - A.length = k by omega]
        exact e2
end
/-! ### the script -/
def bListS (sa : Option Addr) (ns : List Int) (ds : List D) : Option D := match ds with
  | [.nd _ .scr _] => some (intsD ns)
  | [.im (.ref b)] => if sa = some b then some (intsD ns) else none
  | _ => none
/-- what list(script) needs: known to the heap, or one of the module's own objects -/
structure ScrOk (K : PySem.W.Frag) (g : Gc) (sa : Option Addr) (ns : List Int) : Prop where
  h : ∀ (H : Hp) (b : Addr), H b = some g.scr → SqL K H b (ns.map V.int)
  k : ∀ b, sa = some b → ∀ H : Hp, SqL K H b (ns.map V.int)
  nd : ¬ IsD g.scr
theorem cam_listS {K : PySem.W.Frag} {g : Gc} {n : Nat} {sa : Option Addr} {ns : List Int} (hS : ScrOk K g sa ns) : CaM g n (fun xs H Q => ∃ p ys, xs = [V.ref p] ∧ (SqL K H p ys ∨ SqT K H p ys) ∧ ∀ l, H l = none → Q (.ref l) (upd H l (.lst ys))) (bListS sa ns) := by
  intro Γ A ts σ H Q d Rr hn eo hq
  unfold bListS at eo
  split at eo
  · rename_i k xs q
    obtain ⟨t, rfl, q'⟩ := er1 q
    obtain ⟨a, dx, us, rfl, h1⟩ := er_nd q'
    cases eo
    exact ⟨a, _, rfl, .inl (hS.h H a (Rr.top1.flat hS.nd)), fun p hp => hq _ _ (Rr.newInts hn hp ns) (intsD_er _ _)⟩
  · rename_i b q
    obtain ⟨t, rfl, q'⟩ := er1 q
    split at eo
    · rename_i hb
      cases eo
      rw [er_im q'] at Rr ⊢
      exact ⟨b, _, rfl, .inl (hS.k b hb H), fun p hp => hq _ _ (Rr.newInts hn hp ns) (intsD_er _ _)⟩
    · cases eo
  · cases eo
theorem bu_listS {X : Cx} {g : Gc} {sa : Option Addr} {ns : List Int} (hS : ScrOk X.K g sa ns) : BuF X g (.type "list") (bListS sa ns) := ⟨_, call_list_of, cam_listS hS⟩
/-! ### the law -/
def spScr (K : PySem.W.Frag) (T : List (Addr × Str)) : Sp := fun vs H Q _ => ∃ (a : Addr) (ns : List Int), vs = [.ref a] ∧ SqL K H a (ns.map V.int) ∧ LamX.Tabs T H ∧ ns.length ≤ 63 ∧ (∀ z ∈ ns, Builtin.Int.intBits z ≤ 1048576) ∧ ∀ H', Q (.bl true) H'
theorem sane_frz (o : Obj) (xs : List V) : Sane (.frz o (.lst xs)) := ⟨(fun ps z => nomatch z), (fun c q z => by unfold LamX.CodeO at z; cases z), fun b u z q => by cases z; exact q⟩
theorem sane_lst (xs : List V) : Sane (.lst xs) := ⟨(fun ps z => nomatch z), (fun c q z => by unfold LamX.CodeO at z; cases z), fun b u z => nomatch z⟩
theorem law_fin {P : Program} {w : World} {K : PySem.W.Frag} {mg : Str → Option Value} {base : Heap} {k : Nat} {f : Addr} {fd : FuncData} {x : Str} (cl : Nat → Addr) (T : List (Addr × Str)) {m : Option Addr → List Int → FSem}
    (F : ∀ (scr : HO) (hs : Sane scr) (sa : Option Addr) (ns : List Int), ScrOk K ⟨cl, scr, fun _ => True, T, hs⟩ sa ns → FnOk P w K mg base (L2.CX P w) k f fd [x] (spOf ⟨cl, scr, fun _ => True, T, hs⟩ [false] (m sa ns)))
    (hp : ∀ sa ns d, ns.length ≤ 63 → (∀ z ∈ ns, Builtin.Int.intBits z ≤ 1048576) → (d = .nd .frz .scr [] ∨ ∃ b, sa = some b ∧ d = .im (.ref b)) → m sa ns [d] = .ok (.im (.bl true)) []) :
    FnOk P w K mg base (L2.CX P w) k f fd [x] (spScr K T) := by
  have key : ∀ vs H Q E, spScr K T vs H Q E → ∃ sp', FnOk P w K mg base (L2.CX P w) k f fd [x] sp' ∧ sp' vs H Q E := by
    rintro vs H Q E ⟨a, ns, rfl, hS, hT, hl, hb, hq⟩
    have mk : ∀ (scr : HO) (hs0 : Sane scr) (sa : Option Addr) (t : Lin.T), ScrOk K ⟨cl, scr, fun _ => True, T, hs0⟩ sa ns → t.root = .ref a → (t.er = .nd .frz .scr [] ∨ ∃ b, sa = some b ∧ t.er = .im (.ref b)) → (∀ c ∈ t.cells ⟨cl, scr, fun _ => True, T, hs0⟩, H c.2.1 = some c.2.2) → (∀ c ∈ t.cells ⟨cl, scr, fun _ => True, T, hs0⟩, c.1 = .frz) →
        ∃ sp', FnOk P w K mg base (L2.CX P w) k f fd [x] sp' ∧ sp' [.ref a] H Q E := fun scr hs0 sa t hs hr he hh hf => by
      have hc : ∀ c ∈ cellsL ⟨cl, scr, fun _ => True, T, hs0⟩ [t], c ∈ t.cells ⟨cl, scr, fun _ => True, T, hs0⟩ := fun c h => by simpa [cellsL] using h
      refine ⟨_, F scr hs0 sa ns hs, [t], by simp [hr], ⟨rfl, fun c h => .inl (hh c (hc c h)), fun i u hu c h => ?_, ?_, fun c h d _ ho => ?_, hT⟩, ?_⟩
      · cases i with
        | zero => have : t = u := by simpa using hu
                  subst this; exact .inl (hf c h)
        | succ i => simp at hu
      · have : ownsC (cellsL ⟨cl, scr, fun _ => True, T, hs0⟩ [t]) = [] := owns_none fun c h => by rw [hf c (hc c h)]; simp
        rw [this]; exact List.nodup_nil
      · rw [hf c (hc c h)] at ho; cases ho
      · have e := hp sa ns t.er hl hb he
        rw [List.map_cons, List.map_nil, e]
        intro H' t' us _ et _
        rw [er_im et]
        exact hq H'
    rcases hS with (h1 | ⟨o, h1⟩) | h1
    · refine mk (.lst (ns.map V.int)) (sane_lst _) none (.nd a .frz .scr 0 []) ⟨fun H b e => .inl (.inl e), fun b e => (nomatch e), id⟩ rfl (.inl rfl) (fun c h => ?_) (fun c h => ?_)
      · have : c = (.frz, a, .lst (ns.map V.int)) := by simpa [kz, Lin.T.cells, cellsL, ho] using h
        rw [this]; exact h1
      · have : c = (.frz, a, .lst (ns.map V.int)) := by simpa [kz, Lin.T.cells, cellsL, ho] using h
        rw [this]
    · refine mk (.frz o (.lst (ns.map V.int))) (sane_frz _ _) none (.nd a .frz .scr 0 []) ⟨fun H b e => .inl (.inr ⟨o, e⟩), fun b e => (nomatch e), id⟩ rfl (.inl rfl) (fun c h => ?_) (fun c h => ?_)
      · have : c = (.frz, a, .frz o (.lst (ns.map V.int))) := by simpa [kz, Lin.T.cells, cellsL, ho] using h
        rw [this]; exact h1
      · have : c = (.frz, a, .frz o (.lst (ns.map V.int))) := by simpa [kz, Lin.T.cells, cellsL, ho] using h
        rw [this]
    · exact mk (.frz default (.lst (ns.map V.int))) (sane_frz _ _) (some a) (.im (.ref a)) ⟨fun H b e => .inl (.inr ⟨_, e⟩), fun b e H => by cases e; exact .inr h1, id⟩ rfl (.inr ⟨a, rfl, rfl⟩) (fun c h => by simp [Lin.T.cells] at h) (fun c h => by simp [Lin.T.cells] at h)
  refine ⟨fun vs H Q E h => ?_, fun A outer s H args us vs Q E hr e0 hb r hsp => ?_⟩
  · obtain ⟨a, ns, rfl, _⟩ := h; rfl
  · obtain ⟨_, F', q⟩ := key vs H Q E hsp
    exact F'.run A outer s H args us vs Q E hr e0 hb r q
theorem law_walk {l : PySem.W.OpenLaw} {k : Nat} {x : Str} {q : Program} {loose : List Str} {XP : (Str → Option Value) → Heap → Prop} {YP : World → Heap → Prop} {d : DefRec} {K : Params → PySem.W.Frag} (hn : l.most = some 63) (hdf : d.params.defaults = []) (hr : Room k callerA)
    (hY : ∀ (w : World) (h : Heap), YP w h → (K w.params).In h)
    (F : ∀ (w : World) (mg : Str → Option Value) (fa : Addr) (h : Heap), (K w.params).In h → h.Ns mainGlobals mg → mg d.name = some (.ref fa) →
      ∃ fd : FuncData, (∀ (s : Shared) (u : Value), BindsTo s fd ⟨[u], []⟩ [(x, u)]) ∧ ∀ base : Heap, (K w.params).In base → base.Ns mainGlobals mg → FnOk l.prog w (K w.params) mg base (L2.CX l.prog w) k fa fd [x] (spScr (K w.params) [])) :
    PySem.W.WalkO q loose XP YP l.row.toRowW d [] (fun f vs => PySem.call f vs) :=
  L2.walk_ofB (n := 63) (k := k) (x := x) (CX := fun w => L2.CX l.prog w) (sp := fun w => spScr (K w.params) []) hn (by decide) hdf hr hY F (fun _ H a ns hl hb hO hS => ⟨a, ns, rfl, hS, (fun p hp => nomatch hp), hl, hb, fun _ => rfl⟩) fun _ _ _ _ _ ⟨_, _, _, _, _, _, _, _, _, _, _, _, z⟩ => z
end Lin
end
section
namespace Lin.V0
open PySem L2 Lin
/-! ### the plain side: what a meaning gives, by a wish behind it -/
/-- what is wished of an error -/
abbrev EX := Nat → D → Sg → Prop
abbrev EC := Nat → D → List D → Prop
def OkE {α : Type} (E : EX) (x : R α) (Q : α → Sg → Prop) : Prop := match x with
  | .ok a S => Q a S
  | .exc c d S => E c d S
  | .bad => False
def OkCE (E : EC) (x : Rc) (Q : D → List D → Prop) : Prop := match x with
  | .ok d ms => Q d ms
  | .exc c d ms => E c d ms
  | .bad => False
def E0 : EX := fun _ _ _ => False
def EC0 : EC := fun _ _ _ => False
abbrev Ok {α : Type} (x : R α) (Q : α → Sg → Prop) : Prop := OkE E0 x Q
abbrev OkC (x : Rc) (Q : D → List D → Prop) : Prop := OkCE EC0 x Q
def So {α : Type} (x : Option α) (Q : α → Prop) : Prop := match x with
  | some a => Q a
  | none => False
def OkF (Q : Fl → Sg → Prop) (K : Sg → Prop) : Fl → Sg → Prop := fun fl S => match fl with
  | .nx => K S
  | fl => Q fl S
section
variable {α β : Type} {E : EX} {Ec : EC}
theorem ok_ok {a : α} {S : Sg} {Q : α → Sg → Prop} : OkE E (.ok a S) Q = Q a S := rfl
theorem ok_bad {Q : α → Sg → Prop} : OkE E (.bad) Q = False := rfl
theorem so_some {a : α} {Q : α → Prop} : So (some a) Q = Q a := rfl
theorem so_none {Q : α → Prop} : So none Q = False := rfl
theorem ok_bind {x : R α} {f : α → Sg → R β} {Q : β → Sg → Prop} : OkE E (x.bind f) Q = OkE E x fun a S => OkE E (f a S) Q := by cases x <;> rfl
theorem ok_lift {o : Option α} {S : Sg} {Q : α → Sg → Prop} : OkE E (R.lift o S) Q = So o fun a => Q a S := by cases o <;> rfl
theorem Ok.mono {x : R α} {Q Q' : α → Sg → Prop} (h : OkE E x Q) (m : ∀ a S, Q a S → Q' a S) : OkE E x Q' := by
  cases x with
  | ok a S => exact m a S h
  | exc c d S => exact h
  | bad => exact h
theorem OkC.mono {x : Rc} {Q Q' : D → List D → Prop} (h : OkCE Ec x Q) (m : ∀ d ms, Q d ms → Q' d ms) : OkCE Ec x Q' := by
  cases x with
  | ok a S => exact m a S h
  | exc c d S => exact h
  | bad => exact h
theorem OkE.mono {x : R α} {Q Q' : α → Sg → Prop} (h : OkE E x Q) (m : ∀ a S, Q a S → Q' a S) : OkE E x Q' := Ok.mono h m
theorem OkCE.mono {x : Rc} {Q Q' : D → List D → Prop} (h : OkCE Ec x Q) (m : ∀ d ms, Q d ms → Q' d ms) : OkCE Ec x Q' := OkC.mono h m
theorem Ok.get {x : R α} {Q : α → Sg → Prop} (h : Ok x Q) : ∃ a S, x = .ok a S ∧ Q a S := by
  cases x with
  | ok a S => exact ⟨a, S, rfl, h⟩
  | exc c d S => exact False.elim h
  | bad => exact False.elim h
theorem OkC.get {x : Rc} {Q : D → List D → Prop} (h : OkC x Q) : ∃ d ms, x = .ok d ms ∧ Q d ms := by
  cases x with
  | ok a S => exact ⟨a, S, rfl, h⟩
  | exc c d S => exact False.elim h
  | bad => exact False.elim h
theorem So.get {x : Option α} {Q : α → Prop} (h : So x Q) : ∃ a, x = some a ∧ Q a := by
  cases x with
  | some a => exact ⟨a, rfl, h⟩
  | none => exact False.elim h
theorem So.mono {x : Option α} {Q Q' : α → Prop} (h : So x Q) (m : ∀ a, Q a → Q' a) : So x Q' := by
  cases x with
  | some a => exact m a h
  | none => exact h
end
section
variable {E : EX} {Ec : EC} {S : Sg} {Q : D → Sg → Prop} {QB : Bool → Sg → Prop} {QL : List D → Sg → Prop} {QF : Fl → Sg → Prop} {fa fb fc fe : Sg → R D} {ft fu : Sg → R Bool} {fr : Sg → R (List D)} {f h : Sg → R Fl} {M M2 : List Nat}
theorem ok_var {i : Nat} : OkE E (cVar i S) Q = So (S[i]?) fun o => So o fun d => Q (d.mk (kBo i)) S := by
  unfold cVar
  rcases e : S[i]? with _ | _ | d <;> rfl
theorem ok_mv {i : Nat} : OkE E (cMv i S) Q = So (S[i]?) fun o => So o fun d => if hasBor i d = true then False else Q d ((S.map (killD i)).set i none) := by
  unfold cMv
  rcases e : S[i]? with _ | _ | d
  · rfl
  · rfl
  · show OkE E (if hasBor i d then R.bad else _) Q = if hasBor i d = true then False else _
    split <;> rfl
theorem ok_lit {v : V} : OkE E (cLit v S) Q = Q (.im v) S := rfl
theorem ok_two {op : D → D → Option D} : OkE E (cTwo M2 fa fb op S) Q = OkE E (fa S) fun da S1 => if cleanD M2 da = true then OkE E (fb S1) fun db S2 => So (op da db) fun d => Q d S2 else False := by
  unfold cTwo
  rw [ok_bind]
  congr; funext da S1
  split
  · rw [ok_bind]; congr; funext db S2; rw [ok_lift]
  · rfl
theorem ok_one {op : D → Option D} : OkE E (cOne fa op S) Q = OkE E (fa S) fun da S1 => So (op da) fun d => Q d S1 := by
  unfold cOne
  rw [ok_bind]; congr; funext da S1; rw [ok_lift]
theorem ok_test {op : D → Option Bool} : OkE E (cTest fa op S) QB = OkE E (fa S) fun da S1 => So (op da) fun d => QB d S1 := by
  unfold cTest
  rw [ok_bind]; congr; funext da S1; rw [ok_lift]
theorem ok_nil : OkE E (cNil S) QL = QL [] S := rfl
theorem ok_cons : OkE E (cCons M2 fa fr S) QL = OkE E (fa S) fun da S1 => if cleanD M2 da = true then OkE E (fr S1) fun ds S2 => QL (da :: ds) S2 else False := by
  unfold cCons
  rw [ok_bind]; congr; funext da S1
  split
  · rw [ok_bind]; rfl
  · rfl
theorem ok_consK {P : D → Bool} : OkE E (cConsK P M2 fa fr S) QL = OkE E (fa S) fun da S1 => if cleanD M2 da = true ∧ P da = true then OkE E (fr S1) fun ds S2 => QL (da :: ds) S2 else False := by
  unfold cConsK
  rw [ok_bind]; congr; funext da S1
  split
  · rw [ok_bind]; rfl
  · rfl
theorem ok_many {op : List D → Option D} : OkE E (cMany fr op S) Q = OkE E (fr S) fun ds S1 => So (op ds) fun d => Q d S1 := by
  unfold cMany
  rw [ok_bind]; congr; funext da S1; rw [ok_lift]
theorem ok_and : OkE E (cAnd ft fu S) QB = OkE E (ft S) fun b S1 => if b = true then OkE E (fu S1) QB else QB false S1 := by
  unfold cAnd
  rw [ok_bind]; congr; funext b S1; cases b <;> rfl
theorem ok_or : OkE E (cOr ft fu S) QB = OkE E (ft S) fun b S1 => if b = true then QB true S1 else OkE E (fu S1) QB := by
  unfold cOr
  rw [ok_bind]; congr; funext b S1; cases b <;> rfl
theorem ok_not : OkE E (cNot ft S) QB = OkE E (ft S) fun b S1 => QB (!b) S1 := by
  unfold cNot
  rw [ok_bind]; rfl
theorem ok_andV : OkE E (cAndV fa fb S) Q = OkE E (fa S) fun d S1 => So (dBool d) fun b => if b = true then OkE E (fb S1) Q else Q (.im (.bl false)) S1 := by
  unfold cAndV
  rw [ok_bind]; congr; funext d S1
  unfold dBool
  split
  · rfl
  · rfl
  · rename_i h1 h2
    split
    · rename_i b; cases b
      · exact (h2 rfl).elim
      · exact (h1 rfl).elim
    · rfl
theorem ok_next : OkE E (cNext S) QF = QF .nx S := rfl
theorem ok_seq : OkE E (cSeq f h S) QF = OkE E (f S) (OkF QF fun S1 => OkE E (h S1) QF) := by
  unfold cSeq
  rw [ok_bind]; congr; funext fl S1; cases fl <;> rfl
theorem okF_nx {K : Sg → Prop} : OkF QF K .nx S = K S := rfl
theorem okF_ret {K : Sg → Prop} {d : D} : OkF QF K (.ret d) S = QF (.ret d) S := rfl
theorem okF_brk {K : Sg → Prop} : OkF QF K .brk S = QF .brk S := rfl
theorem okF_cnt {K : Sg → Prop} : OkF QF K .cnt S = QF .cnt S := rfl
theorem ok_if : OkE E (cIf ft f h S) QF = OkE E (ft S) fun b S1 => if b = true then OkE E (f S1) QF else OkE E (h S1) QF := by
  unfold cIf
  rw [ok_bind]; congr; funext b S1; cases b <;> rfl
theorem ok_ret : OkE E (cRet fa S) QF = OkE E (fa S) fun d S1 => QF (.ret d) S1 := by unfold cRet; rw [ok_bind]; rfl
theorem ok_expr : OkE E (cExpr fa S) QF = OkE E (fa S) fun _ S1 => QF .nx S1 := by unfold cExpr; rw [ok_bind]; rfl
theorem ok_asg {tg : D → Sg → Option Sg} : OkE E (cAsg tg fa S) QF = OkE E (fa S) fun d S1 => So (tg d S1) fun S2 => QF .nx S2 := by
  unfold cAsg
  rw [ok_bind]; congr; funext d S1; cases tg d S1 <;> rfl
theorem so_gset {z : Bool} {i : Nat} {d : D} {Q : Sg → Prop} : So (gSet z i d S) Q = Q (S.set i (some (fzIf z d))) := rfl
theorem ok_pvar {r : Nat} {Q : List Nat → Sg → Prop} : OkE E (pVar r S) Q = So (S[r]?) fun o => So o fun _ => Q [] S := by
  unfold pVar
  rcases e : S[r]? with _ | _ | d <;> rfl
theorem ok_setAt {r : Nat} {fp : Sg → R (List Nat)} {op : Sh → List D → D → D → Option (Sh × List D)} : OkE E (cSetAt r M2 fe fp fb op S) QF = OkE E (fe S) fun v S1 => if cleanD M2 v = true ∧ hasBor r v = false then OkE E (fp S1) fun p S2 => if r ∈ M2 then False else OkE E (fb S2) fun i S3 => if hasBor r i = false then
    So (nodeAt (S3.map (killD r)) r p) fun d => match d with
      | .nd .own s ds => So (op s ds i v) fun q => So ((S3.map (killD r))[r]?) fun o => So o fun d => QF .nx ((S3.map (killD r)).set r (some (d.put p (.nd .own q.1 q.2))))
      | _ => False
    else False else False := by
  unfold cSetAt
  rw [ok_bind]; congr; funext v S1
  split
  · rw [ok_bind]; congr; funext p S2
    split
    · rfl
    · rw [ok_bind]; congr; funext i S3
      split
      · rcases nodeAt (S3.map (killD r)) r p with _ | d
        · rfl
        · cases d with
          | im v => rfl
          | nd k s ds =>
            cases k with
            | own =>
              simp only [so_some]
              rcases op s ds i v with _ | ⟨s', ds'⟩
              · rfl
              · rcases e : (S3.map (killD r))[r]? with _ | _ | d <;> simp [so_some, so_none, e, OkE, So]
            | _ => rfl
      · rfl
  · rfl
theorem ok_mutM {okS : Sh → Bool} {r : Nat} {fp : Sg → R (List Nat)} {op : Sh → List D → List D → Option (Sh × List D × D)} : OkE E (cMutM okS r M2 fp fr op S) Q = OkE E (fp S) fun p S1 => if r ∈ M2 ∨ nodeOk okS S1 r p = false then False else OkE E (fr S1) fun us S2 =>
    if us.all (fun d => !hasBor r d) = true then So (nodeAt (S2.map (killD r)) r p) fun d => match d with
      | .nd .own s ds => So (op s ds us) fun q => So ((S2.map (killD r))[r]?) fun o => So o fun d => Q q.2.2 ((S2.map (killD r)).set r (some (d.put p (.nd .own q.1 q.2.1))))
      | _ => False
    else False := by
  unfold cMutM
  rw [ok_bind]; congr; funext p S1
  split
  · rfl
  · rw [ok_bind]; congr; funext us S2
    split
    · rcases nodeAt (S2.map (killD r)) r p with _ | d
      · rfl
      · cases d with
        | im v => rfl
        | nd k s ds =>
          cases k with
          | own =>
            simp only [so_some]
            rcases op s ds us with _ | ⟨s', ds', res⟩
            · rfl
            · rcases e : (S2.map (killD r))[r]? with _ | _ | d <;> simp [so_some, so_none, e, OkE, So]
          | _ => rfl
    · rfl
theorem ok_call {rs : List (Option Nat)} {sem : FSem} : OkE E (cCall rs fr sem S) Q = OkE E (fr S) fun ds S1 => if (List.zip rs ds).all (fun p => p.1.isNone || ofD p.2) = true ∧ ds.length = rs.length then OkCE (fun c d ms => E c d (backS rs ms S1)) (sem (argsD rs ds)) fun d ms => Q d (backS rs ms S1) else False := by
  unfold cCall
  rw [ok_bind]; congr; funext ds S1
  by_cases h1 : (List.zip rs ds).all (fun p => p.1.isNone || ofD p.2) = true
  · rw [if_pos h1]
    unfold callR
    by_cases h2 : ds.length = rs.length
    · rw [if_pos h2, if_pos ⟨h1, h2⟩]
      cases sem (argsD rs ds) <;> rfl
    · rw [if_neg h2, if_neg fun z => h2 z.2]; rfl
  · rw [if_neg h1, if_neg fun z => h1 z.1]; rfl
theorem ok_refs {r : Nat} : OkE E (cRefs r fr S) QL = OkE E (cMv r S) fun d S1 => if ofD d = true then OkE E (fr S1) fun ds S2 => QL (d :: ds) S2 else False := by
  unfold cRefs
  rw [ok_bind]; congr; funext d S1
  split
  · rw [ok_bind]; rfl
  · rfl
theorem ok_for {tg : D → Sg → Option Sg} {fi : Sg → R (D × List D)} : OkE E (cFor M tg fi f S) QF = OkE E (fi S) fun p S1 => if cleanD M p.1 = true then OkE E (forL tg f p.2 S1) QF else False := by
  unfold cFor
  rw [ok_bind]; congr; funext p S1; split <;> rfl
theorem ok_forCons {tg : D → Sg → Option Sg} {d : D} {r : List D} : OkE E (forL tg f (d :: r) S) QF = So (tg d S) fun S0 => OkE E (f S0) fun fl S1 => match fl with
      | .nx => OkE E (forL tg f r S1) QF
      | .cnt => OkE E (forL tg f r S1) QF
      | .brk => QF .nx S1
      | .ret d => QF (.ret d) S1 := by
  rw [forL]
  cases tg d S with
  | none => rfl
  | some S0 =>
    show OkE E (R.bind _ _) QF = OkE E _ _
    rw [ok_bind]; congr; funext fl S1; cases fl <;> rfl
/-- a loop's invariant -/
theorem forL_inv {tg : D → Sg → Option Sg} (Inv : Nat → Sg → Prop) (ds : List D) (QF : Fl → Sg → Prop) (hb : ∀ (i : Nat) d S, ds[i]? = some d → Inv i S → So (tg d S) fun S0 => OkE E (f S0) fun fl S1 => match fl with
      | .nx => Inv (i + 1) S1
      | .cnt => Inv (i + 1) S1
      | .brk => QF .nx S1
      | .ret d => QF (.ret d) S1) (hz : ∀ S, Inv ds.length S → QF .nx S) (h0 : Inv 0 S) : OkE E (forL tg f ds S) QF := by
  have key : ∀ (rest : List D) (i : Nat) (S : Sg), ds.drop i = rest → i ≤ ds.length → Inv i S → OkE E (forL tg f rest S) QF := by
    intro rest
    induction rest with
    | nil =>
      intro i S e hi hv
      have : i = ds.length := by
        have := List.drop_eq_nil_iff.mp e; omega
      subst this
      exact hz S hv
    | cons d r ih =>
      intro i S e hi hv
      have hd : ds[i]? = some d := by
        have := congrArg List.head? e
        rw [List.head?_drop] at this; exact this
      have hlt : i < ds.length := (List.getElem?_eq_some_iff.mp hd).1
      have er : ds.drop (i + 1) = r := by
        rw [← List.tail_drop, e]; rfl
      rw [ok_forCons]
      refine (hb i d S hd hv).mono fun S0 h0 => h0.mono fun fl S1 h1 => ?_
      cases fl with
      | nx => exact ih (i + 1) S1 er hlt h1
      | cnt => exact ih (i + 1) S1 er hlt h1
      | brk => exact h1
      | ret d => exact h1
  exact key ds 0 S rfl (Nat.zero_le _) h0
theorem ok_iseq {s : Sh} {Q : D × List D → Sg → Prop} : OkE E (iSeq fa s S) Q = OkE E (fa S) fun d S1 => match d with
    | .nd k s' ds => if s' = s then Q (D.mk kFz (.nd k s' ds), ds.map (D.mk kFz)) S1 else False
    | _ => False := by
  unfold iSeq
  rw [ok_bind]; congr; funext d S1
  cases d with
  | im v => rfl
  | nd k s' ds => by_cases hh : s' = s <;> simp [hh, OkE]
theorem ok_yes : OkE E (cYes S) QB = QB true S := rfl
/-- a comprehension: its items by an invariant of the rest of the state -/
theorem ok_lc {xs Me : List Nat} {tg : D → Sg → Option Sg} {fi : Sg → R (D × List D)} : OkE E (cLc xs Me tg fi ft fe S) Q = OkE E (fi S) fun p S1 => if cleanD Me p.1 = true then Ok (lcL xs Me tg ft fe p.2 (wipeS xs S1) []) fun ds S2 => Q (.nd .own .lst ds) S2 else False := by
  unfold cLc
  rw [ok_bind]; congr; funext p S1
  split
  · cases lcL xs Me tg ft fe p.2 (wipeS xs S1) [] <;> rfl
  · rfl
theorem lcL_inv {xs Me : List Nat} {tg : D → Sg → Option Sg} (Inv : Nat → Sg → List D → Prop) (ds : List D) (QL : List D → Sg → Prop)
    (hb : ∀ (i : Nat) d S acc, ds[i]? = some d → Inv i S acc → So (tg d S) fun S0 => Ok (ft S0) fun b S1 => if b = true then Ok (fe S1) fun y S2 => (acc.length < sizeLine ∧ cleanD Me y = true) ∧ Inv (i + 1) (wipeS xs S2) (acc ++ [y]) else Inv (i + 1) (wipeS xs S1) acc)
    (hz : ∀ S acc, Inv ds.length S acc → QL acc S) (h0 : Inv 0 S []) : Ok (lcL xs Me tg ft fe ds S []) QL := by
  have key : ∀ (rest : List D) (i : Nat) (S : Sg) (acc : List D), ds.drop i = rest → i ≤ ds.length → Inv i S acc → Ok (lcL xs Me tg ft fe rest S acc) QL := by
    intro rest
    induction rest with
    | nil =>
      intro i S acc e hi hv
      have : i = ds.length := by
        have := List.drop_eq_nil_iff.mp e; omega
      subst this
      exact hz S acc hv
    | cons d r ih =>
      intro i S acc e hi hv
      have hd : ds[i]? = some d := by
        have := congrArg List.head? e
        rw [List.head?_drop] at this; exact this
      have hlt : i < ds.length := (List.getElem?_eq_some_iff.mp hd).1
      have er : ds.drop (i + 1) = r := by
        rw [← List.tail_drop, e]; rfl
      rw [lcL]
      obtain ⟨S0, e0, h1⟩ := (hb i d S acc hd hv).get
      rw [e0]
      obtain ⟨b, S1, e1, h2⟩ := h1.get
      dsimp only
      rw [e1]
      dsimp only
      cases b with
      | false => exact ih (i + 1) _ acc er hlt h2
      | true =>
        rw [if_pos rfl] at h2 ⊢
        obtain ⟨y, S2, e2, h3, h4⟩ := h2.get
        rw [e2]
        dsimp only
        rw [if_pos h3]
        exact ih (i + 1) _ _ er hlt h4
  exact key ds 0 S [] rfl (Nat.zero_le _) h0
theorem okC_sem {n : Nat} {mr : List Bool} {ds : List D} {Qc : D → List D → Prop} : OkCE Ec (semOf n mr f ds) Qc = OkE (fun c d S => OkCE Ec (fin mr d S (.exc c)) Qc) (f (ds.map some ++ List.replicate (n - ds.length) none)) fun fl S => match fl with
    | .nx => OkCE Ec (fin mr (.im .non) S .ok) Qc
    | .ret d => OkCE Ec (fin mr d S .ok) Qc
    | _ => False := by
  unfold semOf
  cases f (ds.map some ++ List.replicate (n - ds.length) none) with
  | ok fl S => cases fl <;> rfl
  | exc c d S => rfl
  | bad => rfl
theorem okC_finx {mr : List Bool} {c : Nat} {d : D} {Qc : D → List D → Prop} : OkCE Ec (fin mr d S (.exc c)) Qc = So (usOf mr S) fun ms => if (ofD (d.mk (kRet mr)) && ms.all ofD) = true then Ec c (d.mk (kRet mr)) ms else False := by
  unfold fin
  cases usOf mr S with
  | none => rfl
  | some ms => show OkCE Ec (if _ then _ else _) Qc = if _ then _ else _; split <;> rfl
theorem okC_fin {mr : List Bool} {d : D} {Qc : D → List D → Prop} : OkCE Ec (fin mr d S .ok) Qc = So (usOf mr S) fun ms => if (ofD (d.mk (kRet mr)) && ms.all ofD) = true then Qc (d.mk (kRet mr)) ms else False := by
  unfold fin
  cases usOf mr S with
  | none => rfl
  | some ms => show OkCE Ec (if _ then _ else _) Qc = if _ then _ else _; split <;> rfl
end
end Lin.V0
end
section
namespace Lin
open PySem L2
/-! the plain side, its wishes closed against unfolding -/
structure Tag {β : Type} (q : β) : Type where
abbrev EX := V0.EX
abbrev EC := V0.EC
structure OkE {α : Type} (E : EX) (x : R α) (Q : α → Sg → Prop) (t : Tag (E, Q) := ⟨⟩) : Prop where
  out : V0.OkE E x Q
structure OkCE (E : EC) (x : Rc) (Q : D → List D → Prop) (t : Tag (E, Q) := ⟨⟩) : Prop where
  out : V0.OkCE E x Q
structure So {α : Type} (x : Option α) (Q : α → Prop) (t : Tag Q := ⟨⟩) : Prop where
  out : V0.So x Q
abbrev NoX : EX := V0.E0
abbrev NoC : EC := V0.EC0
abbrev OkF := V0.OkF
theorem ok_def {α : Type} {E : EX} {x : R α} {Q : α → Sg → Prop} : OkE E x Q = V0.OkE E x Q := propext ⟨fun h => h.out, fun h => ⟨h⟩⟩
theorem okC_def {Ec : EC} {x : Rc} {Q : D → List D → Prop} : OkCE Ec x Q = V0.OkCE Ec x Q := propext ⟨fun h => h.out, fun h => ⟨h⟩⟩
theorem so_def {α : Type} {x : Option α} {Q : α → Prop} : So x Q = V0.So x Q := propext ⟨fun h => h.out, fun h => ⟨h⟩⟩
section
variable {α β : Type} {E : EX} {Ec : EC}
theorem ok_ok {a : α} {S : Sg} {Q : α → Sg → Prop} : OkE E (.ok a S) Q = Q a S := by
  first
    | (simp only [ok_def, okC_def, so_def]; exact V0.ok_ok)
    | exact V0.ok_ok
theorem ok_bad {Q : α → Sg → Prop} : OkE E (.bad) Q = False := by
  first
    | (simp only [ok_def, okC_def, so_def]; exact V0.ok_bad)
    | exact V0.ok_bad
theorem so_some {a : α} {Q : α → Prop} : So (some a) Q = Q a := by
  first
    | (simp only [ok_def, okC_def, so_def]; exact V0.so_some)
    | exact V0.so_some
theorem so_none {Q : α → Prop} : So none Q = False := by
  first
    | (simp only [ok_def, okC_def, so_def]; exact V0.so_none)
    | exact V0.so_none
theorem ok_bind {x : R α} {f : α → Sg → R β} {Q : β → Sg → Prop} : OkE E (x.bind f) Q = OkE E x fun a S => OkE E (f a S) Q := by
  first
    | (simp only [ok_def, okC_def, so_def]; exact V0.ok_bind)
    | exact V0.ok_bind
theorem ok_lift {o : Option α} {S : Sg} {Q : α → Sg → Prop} : OkE E (R.lift o S) Q = So o fun a => Q a S := by
  first
    | (simp only [ok_def, okC_def, so_def]; exact V0.ok_lift)
    | exact V0.ok_lift
theorem Ok.mono {x : R α} {Q Q' : α → Sg → Prop} (h : OkE E x Q) (m : ∀ a S, Q a S → Q' a S) : OkE E x Q' := by
  first
    | (simp only [ok_def, okC_def, so_def] at h ⊢; exact V0.Ok.mono h m)
    | (simp only [ok_def, okC_def, so_def] at h; exact V0.Ok.mono h)
theorem OkC.mono {x : Rc} {Q Q' : D → List D → Prop} (h : OkCE Ec x Q) (m : ∀ d ms, Q d ms → Q' d ms) : OkCE Ec x Q' := by
  first
    | (simp only [ok_def, okC_def, so_def] at h ⊢; exact V0.OkC.mono h m)
    | (simp only [ok_def, okC_def, so_def] at h; exact V0.OkC.mono h)
theorem OkE.mono {x : R α} {Q Q' : α → Sg → Prop} (h : OkE E x Q) (m : ∀ a S, Q a S → Q' a S) : OkE E x Q' := Ok.mono h m
theorem OkCE.mono {x : Rc} {Q Q' : D → List D → Prop} (h : OkCE Ec x Q) (m : ∀ d ms, Q d ms → Q' d ms) : OkCE Ec x Q' := OkC.mono h m
theorem OkE.get {x : R α} {Q : α → Sg → Prop} (h : OkE NoX x Q) : ∃ a S, x = .ok a S ∧ Q a S := by
  first
    | (simp only [ok_def, okC_def, so_def] at h ⊢; exact V0.Ok.get h)
    | (simp only [ok_def, okC_def, so_def] at h; exact V0.Ok.get h)
theorem OkCE.get {x : Rc} {Q : D → List D → Prop} (h : OkCE NoC x Q) : ∃ d ms, x = .ok d ms ∧ Q d ms := by
  first
    | (simp only [ok_def, okC_def, so_def] at h ⊢; exact V0.OkC.get h)
    | (simp only [ok_def, okC_def, so_def] at h; exact V0.OkC.get h)
theorem So.get {x : Option α} {Q : α → Prop} (h : So x Q) : ∃ a, x = some a ∧ Q a := by
  first
    | (simp only [ok_def, okC_def, so_def] at h ⊢; exact V0.So.get h m)
    | (simp only [ok_def, okC_def, so_def] at h; exact V0.So.get h)
theorem So.mono {x : Option α} {Q Q' : α → Prop} (h : So x Q) (m : ∀ a, Q a → Q' a) : So x Q' := by
  first
    | (simp only [ok_def, okC_def, so_def] at h ⊢; exact V0.So.mono h m)
    | (simp only [ok_def, okC_def, so_def] at h; exact V0.So.mono h)
end
section
variable {E : EX} {Ec : EC} {S : Sg} {Q : D → Sg → Prop} {QB : Bool → Sg → Prop} {QL : List D → Sg → Prop} {QF : Fl → Sg → Prop} {fa fb fc fe : Sg → R D} {ft fu : Sg → R Bool} {fr : Sg → R (List D)} {f h : Sg → R Fl} {M M2 : List Nat}
theorem ok_var {i : Nat} : OkE E (cVar i S) Q = So (S[i]?) fun o => So o fun d => Q (d.mk (kBo i)) S := by
  first
    | (simp only [ok_def, okC_def, so_def]; exact V0.ok_var)
    | exact V0.ok_var
theorem ok_mv {i : Nat} : OkE E (cMv i S) Q = So (S[i]?) fun o => So o fun d => if hasBor i d = true then False else Q d ((S.map (killD i)).set i none) := by
  first
    | (simp only [ok_def, okC_def, so_def]; exact V0.ok_mv)
    | exact V0.ok_mv
theorem ok_lit {v : V} : OkE E (cLit v S) Q = Q (.im v) S := by
  first
    | (simp only [ok_def, okC_def, so_def]; exact V0.ok_lit)
    | exact V0.ok_lit
theorem ok_two {op : D → D → Option D} : OkE E (cTwo M2 fa fb op S) Q = OkE E (fa S) fun da S1 => if cleanD M2 da = true then OkE E (fb S1) fun db S2 => So (op da db) fun d => Q d S2 else False := by
  first
    | (simp only [ok_def, okC_def, so_def]; exact V0.ok_two)
    | exact V0.ok_two
theorem ok_one {op : D → Option D} : OkE E (cOne fa op S) Q = OkE E (fa S) fun da S1 => So (op da) fun d => Q d S1 := by
  first
    | (simp only [ok_def, okC_def, so_def]; exact V0.ok_one)
    | exact V0.ok_one
theorem ok_test {op : D → Option Bool} : OkE E (cTest fa op S) QB = OkE E (fa S) fun da S1 => So (op da) fun d => QB d S1 := by
  first
    | (simp only [ok_def, okC_def, so_def]; exact V0.ok_test)
    | exact V0.ok_test
theorem ok_nil : OkE E (cNil S) QL = QL [] S := by
  first
    | (simp only [ok_def, okC_def, so_def]; exact V0.ok_nil)
    | exact V0.ok_nil
theorem ok_cons : OkE E (cCons M2 fa fr S) QL = OkE E (fa S) fun da S1 => if cleanD M2 da = true then OkE E (fr S1) fun ds S2 => QL (da :: ds) S2 else False := by
  first
    | (simp only [ok_def, okC_def, so_def]; exact V0.ok_cons)
    | exact V0.ok_cons
theorem ok_consK {P : D → Bool} : OkE E (cConsK P M2 fa fr S) QL = OkE E (fa S) fun da S1 => if cleanD M2 da = true ∧ P da = true then OkE E (fr S1) fun ds S2 => QL (da :: ds) S2 else False := by
  first
    | (simp only [ok_def, okC_def, so_def]; exact V0.ok_consK)
    | exact V0.ok_consK
theorem ok_many {op : List D → Option D} : OkE E (cMany fr op S) Q = OkE E (fr S) fun ds S1 => So (op ds) fun d => Q d S1 := by
  first
    | (simp only [ok_def, okC_def, so_def]; exact V0.ok_many)
    | exact V0.ok_many
theorem ok_and : OkE E (cAnd ft fu S) QB = OkE E (ft S) fun b S1 => if b = true then OkE E (fu S1) QB else QB false S1 := by
  first
    | (simp only [ok_def, okC_def, so_def]; exact V0.ok_and)
    | exact V0.ok_and
theorem ok_or : OkE E (cOr ft fu S) QB = OkE E (ft S) fun b S1 => if b = true then QB true S1 else OkE E (fu S1) QB := by
  first
    | (simp only [ok_def, okC_def, so_def]; exact V0.ok_or)
    | exact V0.ok_or
theorem ok_not : OkE E (cNot ft S) QB = OkE E (ft S) fun b S1 => QB (!b) S1 := by
  first
    | (simp only [ok_def, okC_def, so_def]; exact V0.ok_not)
    | exact V0.ok_not
theorem ok_andV : OkE E (cAndV fa fb S) Q = OkE E (fa S) fun d S1 => So (dBool d) fun b => if b = true then OkE E (fb S1) Q else Q (.im (.bl false)) S1 := by
  first
    | (simp only [ok_def, okC_def, so_def]; exact V0.ok_andV)
    | exact V0.ok_andV
theorem ok_next : OkE E (cNext S) QF = QF .nx S := by
  first
    | (simp only [ok_def, okC_def, so_def]; exact V0.ok_next)
    | exact V0.ok_next
theorem ok_seq : OkE E (cSeq f h S) QF = OkE E (f S) (OkF QF fun S1 => OkE E (h S1) QF) := by
  first
    | (simp only [ok_def, okC_def, so_def]; exact V0.ok_seq)
    | exact V0.ok_seq
theorem okF_nx {K : Sg → Prop} : OkF QF K .nx S = K S := by
  first
    | (simp only [ok_def, okC_def, so_def]; exact V0.okF_nx)
    | exact V0.okF_nx
theorem okF_ret {K : Sg → Prop} {d : D} : OkF QF K (.ret d) S = QF (.ret d) S := by
  first
    | (simp only [ok_def, okC_def, so_def]; exact V0.okF_ret)
    | exact V0.okF_ret
theorem okF_brk {K : Sg → Prop} : OkF QF K .brk S = QF .brk S := by
  first
    | (simp only [ok_def, okC_def, so_def]; exact V0.okF_brk)
    | exact V0.okF_brk
theorem okF_cnt {K : Sg → Prop} : OkF QF K .cnt S = QF .cnt S := by
  first
    | (simp only [ok_def, okC_def, so_def]; exact V0.okF_cnt)
    | exact V0.okF_cnt
theorem ok_if : OkE E (cIf ft f h S) QF = OkE E (ft S) fun b S1 => if b = true then OkE E (f S1) QF else OkE E (h S1) QF := by
  first
    | (simp only [ok_def, okC_def, so_def]; exact V0.ok_if)
    | exact V0.ok_if
theorem ok_ret : OkE E (cRet fa S) QF = OkE E (fa S) fun d S1 => QF (.ret d) S1 := by
  first
    | (simp only [ok_def, okC_def, so_def]; exact V0.ok_ret)
    | exact V0.ok_ret
theorem ok_expr : OkE E (cExpr fa S) QF = OkE E (fa S) fun _ S1 => QF .nx S1 := by
  first
    | (simp only [ok_def, okC_def, so_def]; exact V0.ok_expr)
    | exact V0.ok_expr
theorem ok_asg {tg : D → Sg → Option Sg} : OkE E (cAsg tg fa S) QF = OkE E (fa S) fun d S1 => So (tg d S1) fun S2 => QF .nx S2 := by
  first
    | (simp only [ok_def, okC_def, so_def]; exact V0.ok_asg)
    | exact V0.ok_asg
theorem so_gset {z : Bool} {i : Nat} {d : D} {Q : Sg → Prop} : So (gSet z i d S) Q = Q (S.set i (some (fzIf z d))) := by
  first
    | (simp only [ok_def, okC_def, so_def]; exact V0.so_gset)
    | exact V0.so_gset
theorem ok_pvar {r : Nat} {Q : List Nat → Sg → Prop} : OkE E (pVar r S) Q = So (S[r]?) fun o => So o fun _ => Q [] S := by
  first
    | (simp only [ok_def, okC_def, so_def]; exact V0.ok_pvar)
    | exact V0.ok_pvar
theorem ok_setAt {r : Nat} {fp : Sg → R (List Nat)} {op : Sh → List D → D → D → Option (Sh × List D)} : OkE E (cSetAt r M2 fe fp fb op S) QF = OkE E (fe S) fun v S1 => if cleanD M2 v = true ∧ hasBor r v = false then OkE E (fp S1) fun p S2 => if r ∈ M2 then False else OkE E (fb S2) fun i S3 => if hasBor r i = false then
    So (nodeAt (S3.map (killD r)) r p) fun d => match d with
      | .nd .own s ds => So (op s ds i v) fun q => So ((S3.map (killD r))[r]?) fun o => So o fun d => QF .nx ((S3.map (killD r)).set r (some (d.put p (.nd .own q.1 q.2))))
      | _ => False
    else False else False := by
  first
    | (simp only [ok_def, okC_def, so_def]; exact V0.ok_setAt)
    | exact V0.ok_setAt
theorem ok_mutM {okS : Sh → Bool} {r : Nat} {fp : Sg → R (List Nat)} {op : Sh → List D → List D → Option (Sh × List D × D)} : OkE E (cMutM okS r M2 fp fr op S) Q = OkE E (fp S) fun p S1 => if r ∈ M2 ∨ nodeOk okS S1 r p = false then False else OkE E (fr S1) fun us S2 =>
    if us.all (fun d => !hasBor r d) = true then So (nodeAt (S2.map (killD r)) r p) fun d => match d with
      | .nd .own s ds => So (op s ds us) fun q => So ((S2.map (killD r))[r]?) fun o => So o fun d => Q q.2.2 ((S2.map (killD r)).set r (some (d.put p (.nd .own q.1 q.2.1))))
      | _ => False
    else False := by
  first
    | (simp only [ok_def, okC_def, so_def]; exact V0.ok_mutM)
    | exact V0.ok_mutM
theorem ok_call {rs : List (Option Nat)} {sem : FSem} : OkE E (cCall rs fr sem S) Q = OkE E (fr S) fun ds S1 => if (List.zip rs ds).all (fun p => p.1.isNone || ofD p.2) = true ∧ ds.length = rs.length then OkCE (fun c d ms => E c d (backS rs ms S1)) (sem (argsD rs ds)) fun d ms => Q d (backS rs ms S1) else False := by
  first
    | (simp only [ok_def, okC_def, so_def]; exact V0.ok_call)
    | exact V0.ok_call
theorem ok_refs {r : Nat} : OkE E (cRefs r fr S) QL = OkE E (cMv r S) fun d S1 => if ofD d = true then OkE E (fr S1) fun ds S2 => QL (d :: ds) S2 else False := by
  first
    | (simp only [ok_def, okC_def, so_def]; exact V0.ok_refs)
    | exact V0.ok_refs
theorem ok_for {tg : D → Sg → Option Sg} {fi : Sg → R (D × List D)} : OkE E (cFor M tg fi f S) QF = OkE E (fi S) fun p S1 => if cleanD M p.1 = true then OkE E (forL tg f p.2 S1) QF else False := by
  first
    | (simp only [ok_def, okC_def, so_def]; exact V0.ok_for)
    | exact V0.ok_for
theorem ok_forCons {tg : D → Sg → Option Sg} {d : D} {r : List D} : OkE E (forL tg f (d :: r) S) QF = So (tg d S) fun S0 => OkE E (f S0) fun fl S1 => match fl with
      | .nx => OkE E (forL tg f r S1) QF
      | .cnt => OkE E (forL tg f r S1) QF
      | .brk => QF .nx S1
      | .ret d => QF (.ret d) S1 := by
  first
    | (simp only [ok_def, okC_def, so_def]; exact V0.ok_forCons)
    | exact V0.ok_forCons
/-- a loop's invariant -/
theorem forL_inv {tg : D → Sg → Option Sg} (Inv : Nat → Sg → Prop) (ds : List D) (QF : Fl → Sg → Prop) (hb : ∀ (i : Nat) d S, ds[i]? = some d → Inv i S → So (tg d S) fun S0 => OkE E (f S0) fun fl S1 => match fl with
      | .nx => Inv (i + 1) S1
      | .cnt => Inv (i + 1) S1
      | .brk => QF .nx S1
      | .ret d => QF (.ret d) S1) (hz : ∀ S, Inv ds.length S → QF .nx S) (h0 : Inv 0 S) : OkE E (forL tg f ds S) QF := by
  simp only [ok_def, okC_def, so_def] at hb ⊢
  exact V0.forL_inv Inv ds QF hb hz h0
theorem ok_iseq {s : Sh} {Q : D × List D → Sg → Prop} : OkE E (iSeq fa s S) Q = OkE E (fa S) fun d S1 => match d with
    | .nd k s' ds => if s' = s then Q (D.mk kFz (.nd k s' ds), ds.map (D.mk kFz)) S1 else False
    | _ => False := by
  first
    | (simp only [ok_def, okC_def, so_def]; exact V0.ok_iseq)
    | exact V0.ok_iseq
theorem ok_yes : OkE E (cYes S) QB = QB true S := by
  first
    | (simp only [ok_def, okC_def, so_def]; exact V0.ok_yes)
    | exact V0.ok_yes
/-- a comprehension: its items by an invariant of the rest of the state -/
theorem ok_lc {xs Me : List Nat} {tg : D → Sg → Option Sg} {fi : Sg → R (D × List D)} : OkE E (cLc xs Me tg fi ft fe S) Q = OkE E (fi S) fun p S1 => if cleanD Me p.1 = true then OkE NoX (lcL xs Me tg ft fe p.2 (wipeS xs S1) []) fun ds S2 => Q (.nd .own .lst ds) S2 else False := by
  first
    | (simp only [ok_def, okC_def, so_def]; exact V0.ok_lc)
    | exact V0.ok_lc
theorem lcL_inv {xs Me : List Nat} {tg : D → Sg → Option Sg} (Inv : Nat → Sg → List D → Prop) (ds : List D) (QL : List D → Sg → Prop)
    (hb : ∀ (i : Nat) d S acc, ds[i]? = some d → Inv i S acc → So (tg d S) fun S0 => OkE NoX (ft S0) fun b S1 => if b = true then OkE NoX (fe S1) fun y S2 => (acc.length < sizeLine ∧ cleanD Me y = true) ∧ Inv (i + 1) (wipeS xs S2) (acc ++ [y]) else Inv (i + 1) (wipeS xs S1) acc)
    (hz : ∀ S acc, Inv ds.length S acc → QL acc S) (h0 : Inv 0 S []) : OkE NoX (lcL xs Me tg ft fe ds S []) QL := by
  simp only [ok_def, okC_def, so_def] at hb ⊢
  exact V0.lcL_inv Inv ds QL hb hz h0
theorem okC_sem {n : Nat} {mr : List Bool} {ds : List D} {Qc : D → List D → Prop} : OkCE Ec (semOf n mr f ds) Qc = OkE (fun c d S => OkCE Ec (fin mr d S (.exc c)) Qc) (f (ds.map some ++ List.replicate (n - ds.length) none)) fun fl S => match fl with
    | .nx => OkCE Ec (fin mr (.im .non) S .ok) Qc
    | .ret d => OkCE Ec (fin mr d S .ok) Qc
    | _ => False := by
  simp only [ok_def, okC_def, so_def]; exact V0.okC_sem
theorem okC_finx {mr : List Bool} {c : Nat} {d : D} {Qc : D → List D → Prop} : OkCE Ec (fin mr d S (.exc c)) Qc = So (usOf mr S) fun ms => if (ofD (d.mk (kRet mr)) && ms.all ofD) = true then Ec c (d.mk (kRet mr)) ms else False := by
  simp only [ok_def, okC_def, so_def]; exact V0.okC_finx
theorem okC_fin {mr : List Bool} {d : D} {Qc : D → List D → Prop} : OkCE Ec (fin mr d S .ok) Qc = So (usOf mr S) fun ms => if (ofD (d.mk (kRet mr)) && ms.all ofD) = true then Qc (d.mk (kRet mr)) ms else False := by
  first
    | (simp only [ok_def, okC_def, so_def]; exact V0.okC_fin)
    | exact V0.okC_fin
end
end Lin
end
section
namespace Lin
open PySem L2
/-! ### frozen data, ints -/
abbrev I (i : Int) : D := .im (.int i)
abbrev B (b : Bool) : D := .im (.bl b)
/-- only frozen marks -/
def Fz (d : D) : Prop := ∀ k ∈ d.kinds, k = .frz
theorem fz_im (v : V) : Fz (.im v) := fun k h => by simp [D.kinds] at h
mutual
theorem mk_id (f : Kd → Kd) : ∀ d : D, (∀ k ∈ d.kinds, f k = k) → d.mk f = d
  | .im _, _ => rfl
  | .nd k s ds, h => by
    rw [D.mk, h k (by rw [D.kinds]; exact List.mem_cons_self), mk_idL f ds fun q hq => h q (by rw [D.kinds]; exact List.mem_cons_of_mem _ hq)]
theorem mk_idL (f : Kd → Kd) : ∀ ds : List D, (∀ k ∈ kindsL ds, f k = k) → mkDL f ds = ds
  | [], _ => rfl
  | d :: r, h => by
    rw [mkDL, mk_id f d fun q hq => h q (by rw [kindsL]; exact List.mem_append_left _ hq), mk_idL f r fun q hq => h q (by rw [kindsL]; exact List.mem_append_right _ hq)]
end
theorem of_raw {d : D} (h : ∀ k ∈ d.kinds, k = .own ∨ k = .frz) : ofD d = true := by
  unfold ofD
  rw [List.all_eq_true]
  intro k hk
  rcases kins_sub d k hk with e | e
  · rw [e]; rfl
  · rcases h k e with e | e <;> rw [e] <;> rfl
theorem bor_raw {d : D} {r : Nat} (h : Kd.bor r ∉ d.kinds) : hasBor r d = false := by
  unfold hasBor
  rw [Bool.eq_false_iff]
  intro q
  rw [List.contains_iff_mem] at q
  rcases kins_sub d _ q with e | e
  · cases e
  · exact h e
theorem fz_of {d : D} (h : Fz d) : ofD d = true := of_raw fun k hk => .inr (h k hk)
theorem fz_bor {d : D} (h : Fz d) (r : Nat) : hasBor r d = false := bor_raw fun q => by cases h _ q
theorem fz_clean {d : D} (h : Fz d) (M : List Nat) : cleanD M d = true := by
  unfold cleanD
  rw [List.all_eq_true]
  intro r _
  rw [fz_bor h]; rfl
theorem fz_kill {d : D} (h : Fz d) (r : Nat) : killD r (some d) = some d := by
  show (if hasBor r d then none else some d) = some d
  rw [fz_bor h]; rfl
theorem kill_none (r : Nat) : killD r none = none := rfl
theorem kill_im (r : Nat) (v : V) : killD r (some (.im v)) = some (.im v) := fz_kill (fz_im v) r
theorem clean_nil (d : D) : cleanD [] d = true := rfl
theorem clean_im (M : List Nat) (v : V) : cleanD M (.im v) = true := fz_clean (fz_im v) M
theorem bor_im (r : Nat) (v : V) : hasBor r (.im v) = false := fz_bor (fz_im v) r
theorem of_im (v : V) : ofD (.im v) = true := fz_of (fz_im v)
theorem mk_im (f : Kd → Kd) (v : V) : (D.im v).mk f = .im v := rfl
theorem fzIf_im (z : Bool) (v : V) : fzIf z (.im v) = .im v := by cases z <;> rfl
/-! lists of ints -/
def iL (k : Kd) (ns : List Int) : D := .nd k .lst (ns.map fun i => I i)
theorem kinds_iL (k : Kd) (ns : List Int) : (iL k ns).kinds = [k] := by
  unfold iL
  rw [D.kinds, kindsL_eq]
  congr 1
  rw [List.flatMap_eq_nil_iff]
  intro d hd
  obtain ⟨i, _, rfl⟩ := List.mem_map.mp hd
  rfl
theorem iL_mk (f : Kd → Kd) (k : Kd) (ns : List Int) : (iL k ns).mk f = iL (f k) ns := by
  unfold iL
  rw [D.mk, mk_idL]
  intro q hq
  have := kinds_iL k ns
  unfold iL at this
  rw [D.kinds] at this
  have e : kindsL (ns.map fun i => I i) = [] := by simpa using this
  rw [e] at hq; cases hq
theorem of_iL (ns : List Int) : ofD (iL .own ns) = true := of_raw fun k hk => by rw [kinds_iL] at hk; exact .inl (by simpa using hk)
/-! operators at ints -/
theorem add_I (a b : Int) : oAdd (I a) (I b) = some (I (a + b)) := rfl
theorem sub_I (a b : Int) : oSub (I a) (I b) = some (I (a - b)) := rfl
theorem lt_I (a b : Int) : oLt (I a) (I b) = some (B (decide (a < b))) := rfl
theorem le_I (a b : Int) : oLe (I a) (I b) = some (B (decide (a ≤ b))) := rfl
theorem gt_I (a b : Int) : oGt (I a) (I b) = some (B (decide (b < a))) := rfl
theorem ge_I (a b : Int) : oGe (I a) (I b) = some (B (decide (b ≤ a))) := rfl
theorem eq_I (a b : Int) : oEq (I a) (I b) = some (B (decide (a = b))) := by
  simp [oEq, eqD, toPy, SeqAt.shaped, PyData.eqv, Bool.beq_eq_decide_eq, PyData.canLay0, PyData.depth]
theorem ne_I (a b : Int) : oNe (I a) (I b) = some (B (!decide (a = b))) := by
  simp [oNe, eqD, toPy, SeqAt.shaped, PyData.eqv, Bool.beq_eq_decide_eq, PyData.canLay0, PyData.depth]
theorem mod_I {a b : Int} (h : 0 < b) : oMod (I a) (I b) = some (I (a % b)) := by
  show (fMod a b).map D.im = _
  unfold fMod; rw [if_pos h]; rfl
theorem div_I {a b : Int} (h : 0 < b) (h2 : b < 1000000000000000000000000000000) : oDiv (I a) (I b) = some (I (a / b)) := by
  show (fDiv a b).map D.im = _
  unfold fDiv; rw [if_pos ⟨h, h2⟩]; rfl
theorem mul_l {a b : Int} (h : -18446744073709551616 < a) (h2 : a < 18446744073709551616) : oMul (I a) (I b) = some (I (a * b)) := by
  show (fMul a b).map D.im = _
  unfold fMul; rw [if_pos (.inl ⟨by omega, by omega⟩)]; rfl
theorem mul_r {a b : Int} (h : -18446744073709551616 < b) (h2 : b < 18446744073709551616) : oMul (I a) (I b) = some (I (a * b)) := by
  show (fMul a b).map D.im = _
  unfold fMul; rw [if_pos (.inr ⟨by omega, by omega⟩)]; rfl
theorem pow_I {a b : Int} (h : 0 ≤ b) (h2 : b ≤ 1000000) (h3 : a.natAbs < 18446744073709551616) : oPow (I a) (I b) = some (I (a ^ b.toNat)) := by
  show (fPow a b).map D.im = _
  unfold fPow; rw [if_pos ⟨h, h2, by omega⟩]; rfl
theorem len_iL (k : Kd) (ns : List Int) : bLen [iL k ns] = some (I ns.length) := by
  simp [bLen, immV, vLen, iL]
theorem len_lst (k : Kd) (ds : List D) : bLen [.nd k .lst ds] = some (I ds.length) := rfl
theorem ix_iL {k : Kd} {ns : List Int} {i : Int} {x : Int} (h0 : 0 ≤ i) (h : ns[i.toNat]? = some x) : oIx (iL k ns) (I i) = some (I x) := by
  have hl := (List.getElem?_eq_some_iff.mp h).1
  unfold oIx dIx iL
  dsimp only
  simp only [atI, ixN, List.length_map, if_pos h0, if_pos (show i < (ns.length : Int) by omega), List.getElem?_map, h, Option.bind_some, Option.map_some, Option.some_or]
theorem ix_lst {k : Kd} {ds : List D} {i : Int} {x : D} (h0 : 0 ≤ i) (h : ds[i.toNat]? = some x) : oIx (.nd k .lst ds) (I i) = some x := by
  have hl := (List.getElem?_eq_some_iff.mp h).1
  unfold oIx dIx
  dsimp only
  simp only [atI, ixN, if_pos h0, if_pos (show i < (ds.length : Int) by omega), h, Option.bind_some, Option.some_or]
theorem ix_tup {k : Kd} {ds : List D} {i : Int} {x : D} (h0 : 0 ≤ i) (h : ds[i.toNat]? = some x) : oIx (.nd k .tup ds) (I i) = some x := by
  have hl := (List.getElem?_eq_some_iff.mp h).1
  unfold oIx dIx
  dsimp only
  simp only [atI, ixN, if_pos h0, if_pos (show i < (ds.length : Int) by omega), h, Option.bind_some, Option.some_or]
theorem dbool_B (b : Bool) : dBool (B b) = some b := rfl
theorem dtru_B (b : Bool) : dTru (B b) = some b := rfl
theorem toInt_I (i : Int) : immV vToInt [I i] = some (I i) := rfl
theorem toInt_B (b : Bool) : immV vToInt [B b] = some (I (if b then 1 else 0)) := rfl
theorem abs_I (i : Int) : bAbs [I i] = some (I (if i < 0 then -i else i)) := rfl
end Lin
namespace Lin
open PySem L2
/-- own and frozen marks alone -/
def Cl (d : D) : Prop := ∀ k ∈ d.kinds, k = .own ∨ k = .frz
theorem Fz.cl {d : D} (h : Fz d) : Cl d := fun k hk => .inr (h k hk)
theorem fzIf_t {d : D} : fzIf true d = d.mk kFz := rfl
theorem fzIf_f {d : D} : fzIf false d = d := rfl
end Lin
namespace Lin
open PySem L2
section
variable {S : Sg} {Q : D → Sg → Prop} {fr : Sg → R (List D)} {M2 : List Nat} {r : Nat}
theorem popAt_eq {ds : List D} {i : Nat} {y : D} (hi : ds[i]? = some y) (hz : ds.length < 4611686018427387904) : mPopAt .lst ds [I i] = some (.lst, ds.eraseIdx i, y) := by
  have hlt := (List.getElem?_eq_some_iff.mp hi).1
  have e1 : seqIndex? (i : Int) ds.length = some i := by
    unfold seqIndex?
    have h1 : ¬ ((i : Int) < 0) := by omega
    have h2 : (i : Int) < (ds.length : Int) := by omega
    have h3 : (0 : Int) ≤ (i : Int) := by omega
    simp only [h1, if_false, h2, h3, decide_true, Bool.and_self, if_true, Int.toNat_natCast]
  have h63 : (2 : Int) ^ 63 = 9223372036854775808 := by rfl
  simp only [mPopAt, h63, e1, hi]
  rw [if_pos ⟨by omega, by omega⟩]
end
end Lin
namespace Lin
open PySem L2
section
variable {S : Sg} {QF : Fl → Sg → Prop} {fr : Sg → R (List D)} {f : Sg → R Fl} {M : List Nat} {tg : D → Sg → Option Sg}
theorem rngOk_of {n : Int} (h0 : -4611686018427387904 ≤ n) (h1 : n < 4611686018427387904) : rngOk n = true := by
  unfold rngOk
  have e : (2 : Int) ^ 62 = 4611686018427387904 := by rfl
  rw [e, Bool.and_eq_true]
  exact ⟨decide_eq_true h0, decide_eq_true h1⟩
def upto (n : Nat) : List D := (List.range n).map fun k : Nat => I k
theorem iRng_upto (n : Nat) : iRng 0 (n : Int) = (.im .non, upto n) := by
  unfold iRng upto
  simp
end
end Lin
namespace Lin
open PySem L2
theorem small_size {m : Nat} (h : m < 1000000) : m < sizeLine := by rw [sizeLine_eq]; omega
theorem small_size' {m : Nat} (h : m < 1000000) : m ≤ sizeLine := Nat.le_of_lt (small_size h)
end Lin
namespace Lin
open PySem L2
section
variable {S : Sg} {Q : D → Sg → Prop} {fa fe : Sg → R D} {i : Nat}
end
end Lin
namespace Lin
open PySem L2
end Lin
end
section
namespace Lin
open PySem L2
/-! ### plain values and their marked forms -/
inductive P where
  | im (v : V)
  | nd (s : Sh) (vs : List P)
mutual
def P.all (c : Kd) : P → D
  | .im v => .im v
  | .nd s vs => .nd c s (P.allL c vs)
def P.allL (c : Kd) : List P → List D
  | [] => []
  | v :: r => P.all c v :: P.allL c r
end
theorem allL_eq (c : Kd) (vs : List P) : P.allL c vs = vs.map (P.all c) := by
  induction vs with
  | nil => rfl
  | cons v r ih => simp [P.allL, ih]
/-- root k, the rest c -/
def en (k c : Kd) (v : P) : D := match v with
  | .im v => .im v
  | .nd s vs => .nd k s (vs.map (P.all c))
theorem en_self (c : Kd) (v : P) : P.all c v = en c c v := by cases v <;> simp [P.all, en, allL_eq]
mutual
theorem all_mk (f : Kd → Kd) (c : Kd) : ∀ v : P, (P.all c v).mk f = P.all (f c) v
  | .im _ => rfl
  | .nd s vs => by simp only [P.all, D.mk]; rw [allL_mk f c vs]
theorem allL_mk (f : Kd → Kd) (c : Kd) : ∀ vs : List P, mkDL f (P.allL c vs) = P.allL (f c) vs
  | [] => rfl
  | v :: r => by simp only [P.allL, mkDL]; rw [all_mk f c v, allL_mk f c r]
end
theorem en_mk (f : Kd → Kd) (k c : Kd) (v : P) : (en k c v).mk f = en (f k) (f c) v := by
  cases v with
  | im v => rfl
  | nd s vs => simp only [en, D.mk, ← allL_eq, allL_mk]
theorem bo_own (i : Nat) : kBo i .own = .bor i := rfl
theorem bo_frz (i : Nat) : kBo i .frz = .frz := rfl
theorem bo_par (i : Nat) : kBo i .par = .par := rfl
theorem bo_bor (i j : Nat) : kBo i (.bor j) = .bor j := rfl
theorem fz_own : kFz .own = .frz := rfl
theorem fz_frz : kFz .frz = .frz := rfl
theorem fz_par' : kFz .par = .par := rfl
theorem fz_bor' (j : Nat) : kFz (.bor j) = .bor j := rfl
theorem pa_own : kPar .own = .par := rfl
theorem pa_frz : kPar .frz = .frz := rfl
theorem pa_par : kPar .par = .par := rfl
theorem pa_bor (j : Nat) : kPar (.bor j) = .par := rfl
theorem re_own (mr : List Bool) : kRet mr .own = .own := rfl
theorem re_frz (mr : List Bool) : kRet mr .frz = .frz := rfl
theorem re_par (mr : List Bool) : kRet mr .par = .par := rfl
theorem re_bor (mr : List Bool) (j : Nat) : kRet mr (.bor j) = if mr[j]? = some true then .bor j else .frz := rfl
mutual
theorem all_kinds (c : Kd) : ∀ v : P, ∀ k ∈ (P.all c v).kinds, k = c
  | .im _, k, h => by simp [P.all, D.kinds] at h
  | .nd s vs, k, h => by
    simp only [P.all, D.kinds, List.mem_cons] at h
    rcases h with h | h
    · exact h
    · exact allL_kinds c vs k h
theorem allL_kinds (c : Kd) : ∀ vs : List P, ∀ k ∈ kindsL (P.allL c vs), k = c
  | [], k, h => by simp [P.allL, kindsL] at h
  | v :: r, k, h => by
    simp only [P.allL, kindsL, List.mem_append] at h
    rcases h with h | h
    · exact all_kinds c v k h
    · exact allL_kinds c r k h
end
theorem en_kinds {k c : Kd} {v : P} {q : Kd} (h : q ∈ (en k c v).kinds) : q = k ∨ q = c := by
  cases v with
  | im v => simp [en, D.kinds] at h
  | nd s vs =>
    simp only [en, D.kinds, List.mem_cons, ← allL_eq] at h
    rcases h with h | h
    · exact .inl h
    · exact .inr (allL_kinds c vs q h)
theorem bor_en {r : Nat} {k c : Kd} (h1 : k ≠ .bor r) (h2 : c ≠ .bor r) (v : P) : hasBor r (en k c v) = false := by
  refine bor_raw fun q => ?_
  rcases en_kinds q with e | e
  · exact h1 e.symm
  · exact h2 e.symm
theorem kill_en {r : Nat} {k c : Kd} (h1 : k ≠ .bor r) (h2 : c ≠ .bor r) (v : P) : killD r (some (en k c v)) = some (en k c v) := by
  show (if hasBor r _ then none else some _) = _
  rw [bor_en h1 h2]; rfl
theorem kill_opt {r : Nat} {k c : Kd} (h1 : k ≠ .bor r) (h2 : c ≠ .bor r) (o : Option P) : killD r (o.map (en k c)) = o.map (en k c) := by
  cases o with
  | none => rfl
  | some v => exact kill_en h1 h2 v
theorem of_en {k c : Kd} (h1 : k = .own ∨ k = .frz) (h2 : c = .own ∨ c = .frz) (v : P) : ofD (en k c v) = true := by
  refine of_raw fun q hq => ?_
  rcases en_kinds hq with e | e
  · rw [e]; exact h1
  · rw [e]; exact h2
theorem clean_cons (r : Nat) (M : List Nat) (d : D) : cleanD (r :: M) d = (!hasBor r d && cleanD M d) := rfl
/-! forms -/
abbrev pN (n : Nat) : P := .im (.int n)
abbrev pZ (i : Int) : P := .im (.int i)
abbrev pB (b : Bool) : P := .im (.bl b)
def pL {α : Type} (f : α → P) (xs : List α) : P := .nd .lst (xs.map f)
def pT (vs : List P) : P := .nd .tup vs
def pO (c : Nat) (ns : List Str) (vs : List P) : P := .nd (.obj c ns) vs
theorem en_im (k c : Kd) (v : V) : en k c (.im v) = .im v := rfl
theorem en_pL {α : Type} (k c : Kd) (f : α → P) (xs : List α) : en k c (pL f xs) = .nd k .lst (xs.map fun x => en c c (f x)) := by
  simp [en, pL, en_self]
theorem en_pT (k c : Kd) (vs : List P) : en k c (pT vs) = .nd k .tup (vs.map (en c c)) := by
  simp [en, pT, en_self]
theorem en_pO (k c : Kd) (j : Nat) (ns : List Str) (vs : List P) : en k c (pO j ns vs) = .nd k (.obj j ns) (vs.map (en c c)) := by
  simp [en, pO, en_self]
/-! operations -/
section
variable {α : Type} {k c k' c' : Kd} {f : α → P} {xs : List α}
theorem len_en : bLen [en k c (pL f xs)] = some (I xs.length) := by rw [en_pL, len_lst]; simp
theorem len_enT {vs : List P} : bLen [en k c (pT vs)] = some (I vs.length) := by rw [en_pT]; simp [bLen, immV, vLen]
theorem ix_en {i : Nat} (h : i < xs.length) : oIx (en k c (pL f xs)) (I (i : Int)) = some (en c c (f xs[i])) := by
  rw [en_pL]; exact ix_lst (by omega) (by simp [h])
theorem ix_enq {i : Nat} {x : α} (h : xs[i]? = some x) : oIx (en k c (pL f xs)) (I (i : Int)) = some (en c c (f x)) := by
  rw [en_pL]; exact ix_lst (by omega) (by simp [h])
theorem ix_en1 {x : α} (h : xs.getLast? = some x) : oIx (en k c (pL f xs)) (I (-1)) = some (en c c (f x)) := by
  rw [en_pL]
  have hl : 0 < xs.length := by cases xs with | nil => simp at h | cons a r => simp
  have h1 : xs[xs.length - 1]? = some x := by rw [← List.getLast?_eq_getElem?]; exact h
  unfold oIx dIx
  dsimp only
  simp only [atI, ixN, List.length_map]
  rw [if_neg (by omega), if_pos (by omega)]
  simp [show (-1 + (xs.length : Int)).toNat = xs.length - 1 by omega, h1]
theorem ix_enT0 {v : P} {vs : List P} : oIx (en k c (pT (v :: vs))) (I 0) = some (en c c v) := by
  rw [en_pT]; exact ix_tup (by omega) (by simp)
theorem ix_enT1 {v w : P} {vs : List P} : oIx (en k c (pT (v :: w :: vs))) (I 1) = some (en c c w) := by
  rw [en_pT]; exact ix_tup (by omega) (by simp)
theorem list_en : bList [en k c (pL f xs)] = some (en .own c (pL f xs)) := by rw [en_pL, en_pL]; rfl
theorem isi_en : immV vIsi [en k c (pL f xs), .im (.ty "list")] = some (B true) := by
  rw [en_pL]; simp [immV, vIsi, tyN, show kitB "list" "list" = some true by first | rfl | decide +kernel]
theorem tru_en : dTru (en k c (pL f xs)) = some (!xs.isEmpty) := by rw [en_pL]; simp [dTru]
theorem seq_en : seqD (en k c (pL f xs)) = some (xs.map fun x => en c c (f x)) := by rw [en_pL]; rfl
theorem isi_int (i : Int) : immV vIsi [I i, .im (.ty "int")] = some (B true) := by simp [immV, vIsi, tyN, show kitB "int" "int" = some true by first | rfl | decide +kernel]
theorem isi_bool (i : Int) : immV vIsi [I i, .im (.ty "bool")] = some (B false) := by simp [immV, vIsi, tyN, show kitB "int" "bool" = some false by first | rfl | decide +kernel]
theorem not_B (b : Bool) : dNot (B b) = some (B (!b)) := rfl
theorem neg_I (i : Int) : dNeg (I i) = some (I (-i)) := rfl
theorem min_I (i j : Int) : bMin [I i, I j] = some (I (if j < i then j else i)) := rfl
theorem max_I (i j : Int) : bMax [I i, I j] = some (I (if j > i then j else i)) := rfl
/-! dicts -/
/-! lists in and out -/
theorem dInts_N (ns : List Nat) : dInts (ns.map fun n : Nat => I (n : Int)) = some (ns.map fun n : Nat => (n : Int)) := by
  induction ns with
  | nil => rfl
  | cons n r ih => simp [dInts, ih]
def sortN (ns : List Nat) : List Nat := ns.mergeSort (fun a b => decide (a ≤ b))
theorem sortI_N (ns : List Nat) : sortI (ns.map fun n : Nat => (n : Int)) = (sortN ns).map fun n : Nat => (n : Int) := by
  unfold sortI sortN
  rw [List.map_mergeSort]
  intro a _ b _
  simp
theorem ints_N (ns : List Nat) : intsD (ns.map fun n : Nat => (n : Int)) = en .own .frz (pL pN ns) := by
  rw [en_pL]; simp [intsD, en_im]
theorem sorted_en {ns : List Nat} : bSorted [en k c (pL pN ns)] = some (en .own .frz (pL pN (sortN ns))) := by
  rw [en_pL]
  have e : (ns.map fun x => en c c (pN x)) = ns.map fun n : Nat => I (n : Int) := rfl
  simp only [bSorted, dSorted, e, dInts_N, Option.map_some, sortI_N, ints_N, Option.or]
end
end Lin
end
section
namespace Lin
open PySem L2
/-! ### equality of encoded values -/
structure Eqs {α : Type} [DecidableEq α] (f : α → P) (m : Nat) : Prop where
  py : ∃ d : α → PyData, (∀ k c x, toPy (en k c (f x)) = some (d x)) ∧ (∀ x y, PyData.eqv (d x) (d y) = decide (x = y)) ∧ (∀ x, (d x).canLay0 = true) ∧ ∀ x, (d x).depth ≤ m
theorem eqs_N : Eqs pN 1 := ⟨fun i => .int i, fun _ _ _ => rfl, fun x y => by simp only [PyData.eqv, Bool.beq_eq_decide_eq]; congr 1; exact propext Int.ofNat_inj, fun _ => rfl, fun _ => by simp [PyData.depth]⟩
theorem eqs_B : Eqs pB 1 := ⟨fun i => .bool i, fun _ _ _ => rfl, fun x y => by simp [PyData.eqv, Bool.beq_eq_decide_eq], fun _ => rfl, fun _ => by simp [PyData.depth]⟩
theorem toPyL_map {α : Type} {g : α → D} {d : α → PyData} (h : ∀ x, toPy (g x) = some (d x)) : ∀ xs : List α, toPyL (xs.map g) = some (xs.map d)
  | [] => rfl
  | x :: r => by simp only [List.map_cons, toPyL, h x, toPyL_map h r]
theorem eqvAll_map' {α : Type} [DecidableEq α] {d : α → PyData} (h : ∀ x y, PyData.eqv (d x) (d y) = decide (x = y)) : ∀ xs ys : List α, PyData.eqvAll (xs.map d) (ys.map d) = decide (xs = ys)
  | [], [] => by simp [PyData.eqvAll]
  | [], _ :: _ => by simp [PyData.eqvAll]
  | _ :: _, [] => by simp [PyData.eqvAll]
  | x :: xs, y :: ys => by simp [PyData.eqvAll, h, eqvAll_map' h xs ys, Bool.decide_and]
theorem lay_map {α : Type} {d : α → PyData} (h : ∀ x, (d x).canLay0 = true) : ∀ xs : List α, PyData.canLayAll0 (xs.map d) = true
  | [] => rfl
  | x :: r => by simp [PyData.canLayAll0, h x, lay_map h r]
theorem depth_map {α : Type} {d : α → PyData} {m : Nat} (h : ∀ x, (d x).depth ≤ m) : ∀ xs : List α, PyData.depthAll (xs.map d) ≤ m
  | [] => by simp [PyData.depthAll]
  | x :: r => by
    have := h x
    have := depth_map h r
    simp [PyData.depthAll]; omega
theorem eqs_L {α : Type} [DecidableEq α] {f : α → P} {m : Nat} (h : Eqs f m) : Eqs (pL f) (m + 1) := by
  obtain ⟨d, h1, h2, h3, h4⟩ := h.py
  refine ⟨fun xs => .list (xs.map d), fun k c xs => ?_, fun xs ys => ?_, fun xs => ?_, fun xs => ?_⟩
  · rw [en_pL, toPy, toPyL_map (fun x => h1 c c x)]; rfl
  · rw [PyData.eqv]; exact eqvAll_map' h2 xs ys
  · exact lay_map h3 xs
  · have := depth_map h4 xs
    simp [PyData.depth]; omega
theorem eq_en {α : Type} [DecidableEq α] {f : α → P} {m : Nat} (h : Eqs f m) (hm : m ≤ 64) {k c k' c' : Kd} {x y : α} : oEq (en k c (f x)) (en k' c' (f y)) = some (B (decide (x = y))) := by
  obtain ⟨d, h1, h2, h3, h4⟩ := h.py
  have s1 := h4 x
  have s2 := h4 y
  simp only [oEq, eqD, h1, SeqAt.shaped, h3, Bool.true_and]
  rw [decide_eq_true (by omega), decide_eq_true (by omega)]
  simp [h2]
theorem ne_en {α : Type} [DecidableEq α] {f : α → P} {m : Nat} (h : Eqs f m) (hm : m ≤ 64) {k c k' c' : Kd} {x y : α} : oNe (en k c (f x)) (en k' c' (f y)) = some (B (!decide (x = y))) := by
  obtain ⟨d, h1, h2, h3, h4⟩ := h.py
  have s1 := h4 x
  have s2 := h4 y
  simp only [oNe, eqD, h1, SeqAt.shaped, h3, Bool.true_and]
  rw [decide_eq_true (by omega), decide_eq_true (by omega)]
  simp [h2]
section
variable {k c k' c' : Kd}
theorem eq_LN {x y : List Nat} : oEq (en k c (pL pN x)) (en k' c' (pL pN y)) = some (B (decide (x = y))) := eq_en (eqs_L eqs_N) (by decide)
theorem ne_LN {x y : List Nat} : oNe (en k c (pL pN x)) (en k' c' (pL pN y)) = some (B (!decide (x = y))) := ne_en (eqs_L eqs_N) (by decide)
theorem eq_LLN {x y : List (List Nat)} : oEq (en k c (pL (pL pN) x)) (en k' c' (pL (pL pN) y)) = some (B (decide (x = y))) := eq_en (eqs_L (eqs_L eqs_N)) (by decide)
theorem ne_LLN {x y : List (List Nat)} : oNe (en k c (pL (pL pN) x)) (en k' c' (pL (pL pN) y)) = some (B (!decide (x = y))) := ne_en (eqs_L (eqs_L eqs_N)) (by decide)
end
/-! ### evaluator forms -/
section
variable {E : EX} {Ec : EC} {S : Sg} {Q : D → Sg → Prop} {QB : Bool → Sg → Prop} {QL : List D → Sg → Prop} {QF : Fl → Sg → Prop} {fa fb fc fe : Sg → R D} {ft fu : Sg → R Bool} {fr : Sg → R (List D)} {f h : Sg → R Fl} {M M2 : List Nat} {r : Nat}
theorem ok_cg {α : Type} {x : R α} {Q Q' : α → Sg → Prop} (h : ∀ a S, Q a S = Q' a S) : OkE E x Q = OkE E x Q' := by
  have : Q = Q' := funext fun a => funext fun S => h a S
  subst this; rfl
theorem so_cg {α : Type} {x : Option α} {Q Q' : α → Prop} (h : ∀ a, Q a = Q' a) : So x Q = So x Q' := by
  have : Q = Q' := funext fun a => h a
  subst this; rfl
def MutAt (op : Sh → List D → List D → Option (Sh × List D × D)) (d : D) (us : List D) (K : D → D → Prop) : Prop := match d with
  | .nd .own s ds => So (op s ds us) fun q => K (.nd .own q.1 q.2.1) q.2.2
  | _ => False
def shOk (okS : Sh → Bool) (d : D) : Bool := match d with
  | .nd _ s _ => okS s
  | _ => false
theorem nodeAt_nil {S : Sg} {d : D} (h : S[r]? = some (some d)) : nodeAt S r [] = some d := by unfold nodeAt; rw [h]; cases d <;> rfl
theorem ok_mutE {okS : Sh → Bool} {op : Sh → List D → List D → Option (Sh × List D × D)} : OkE E (cMutM okS r M2 (pVar r) fr op S) Q = So S[r]? fun o => So o fun d0 => if r ∈ M2 ∨ shOk okS d0 = false then False else OkE E (fr S) fun us S2 =>
    if us.all (fun d => !hasBor r d) = true then So ((S2.map (killD r))[r]?) fun o => So o fun d => MutAt op d us fun d' res => Q res ((S2.map (killD r)).set r (some d')) else False := by
  rw [ok_mutM, ok_pvar]
  rcases e : S[r]? with _ | _ | d0
  · rw [so_none, so_none]
  · rw [so_some, so_some, so_none, so_none]
  · simp only [so_some]
    have e2 : nodeOk okS S r [] = shOk okS d0 := by
      unfold nodeOk; rw [nodeAt_nil e]; cases d0 <;> rfl
    rw [e2]
    by_cases c : r ∈ M2 ∨ shOk okS d0 = false
    · rw [if_pos c, if_pos c]
    · rw [if_neg c, if_neg c]
      refine ok_cg fun us S2 => ?_
      by_cases c2 : us.all (fun d => !hasBor r d) = true
      · rw [if_pos c2, if_pos c2]
        rcases e3 : (S2.map (killD r))[r]? with _ | _ | d
        · have : nodeAt (S2.map (killD r)) r [] = none := by unfold nodeAt; rw [e3]
          rw [this, so_none, so_none]
        · have : nodeAt (S2.map (killD r)) r [] = none := by unfold nodeAt; rw [e3]
          rw [this, so_some, so_none, so_none]
        · rw [nodeAt_nil e3, so_some, so_some, so_some]
          cases d with
          | im v => rfl
          | nd k s ds =>
            cases k with
            | own =>
              show So _ _ = So _ _
              refine so_cg fun q => ?_
              simp only [so_some]
              rfl
            | _ => rfl
      · rw [if_neg c2, if_neg c2]
def SetAt (op : Sh → List D → D → D → Option (Sh × List D)) (d i v : D) (K : D → Prop) : Prop := match d with
  | .nd .own s ds => So (op s ds i v) fun q => K (.nd .own q.1 q.2)
  | _ => False
theorem ok_setE {op : Sh → List D → D → D → Option (Sh × List D)} : OkE E (cSetAt r M2 fe (pVar r) fb op S) QF = OkE E (fe S) fun v S1 => if cleanD M2 v = true ∧ hasBor r v = false then So S1[r]? fun o => So o fun _ => if r ∈ M2 then False else OkE E (fb S1) fun i S3 =>
    if hasBor r i = false then So ((S3.map (killD r))[r]?) fun o => So o fun d => SetAt op d i v fun d' => QF .nx ((S3.map (killD r)).set r (some d')) else False else False := by
  rw [ok_setAt]
  refine ok_cg fun v S1 => ?_
  by_cases c1 : cleanD M2 v = true ∧ hasBor r v = false
  · rw [if_pos c1, if_pos c1, ok_pvar]
    refine so_cg fun o => so_cg fun d0 => ?_
    by_cases c2 : r ∈ M2
    · rw [if_pos c2, if_pos c2]
    · rw [if_neg c2, if_neg c2]
      refine ok_cg fun i S3 => ?_
      by_cases c3 : hasBor r i = false
      · rw [if_pos c3, if_pos c3]
        rcases e3 : (S3.map (killD r))[r]? with _ | _ | d
        · have : nodeAt (S3.map (killD r)) r [] = none := by unfold nodeAt; rw [e3]
          rw [this, so_none, so_none]
        · have : nodeAt (S3.map (killD r)) r [] = none := by unfold nodeAt; rw [e3]
          rw [this, so_some, so_none, so_none]
        · rw [nodeAt_nil e3, so_some, so_some, so_some]
          cases d with
          | im v => rfl
          | nd k s ds =>
            cases k with
            | own =>
              show So _ _ = So _ _
              refine so_cg fun q => ?_
              simp only [so_some]
              rfl
            | _ => rfl
      · rw [if_neg c3, if_neg c3]
  · rw [if_neg c1, if_neg c1]
end
end Lin
end
section
namespace Lin
open PySem L2
section
variable {E : EX} {Ec : EC} {S : Sg} {Q : D → Sg → Prop} {QB : Bool → Sg → Prop} {QL : List D → Sg → Prop} {QF : Fl → Sg → Prop} {fa fb fc fe : Sg → R D} {ft fu : Sg → R Bool} {fr : Sg → R (List D)} {f h : Sg → R Fl} {M M2 : List Nat} {r : Nat}
variable {α : Type} {k c k' c' : Kd} {g : α → P} {xs : List α} {K2 : D → D → Prop} {K1 : D → Prop}
theorem shOk_L : shOk isLst (en k c (pL g xs)) = true := by rw [en_pL]; rfl
theorem mut_app {x : α} (hl : xs.length < 1000000) : MutAt mAppend (en .own c (pL g xs)) [en c c (g x)] K2 = K2 (en .own c (pL g (xs ++ [x]))) (.im .non) := by
  rw [en_pL, en_pL]
  simp only [MutAt, mAppend, List.length_map, if_pos (small_size hl), so_some, List.map_append, List.map_cons, List.map_nil]
theorem mut_appN {ns : List Nat} {n : Nat} (hl : ns.length < 1000000) : MutAt mAppend (en .own c (pL pN ns)) [I (n : Int)] K2 = K2 (en .own c (pL pN (ns ++ [n]))) (.im .non) := mut_app (g := pN) (x := n) hl
theorem mut_clear : MutAt mClear (en .own c (pL g xs)) [] K2 = K2 (en .own c (pL g [])) (.im .non) := by
  rw [en_pL, en_pL]
  simp only [MutAt, mClear, so_some, List.map_nil]
theorem mut_popAt {i : Nat} {x : α} (hi : xs[i]? = some x) (hl : xs.length < 1000000) : MutAt mPopAt (en .own c (pL g xs)) [I (i : Int)] K2 = K2 (en .own c (pL g (xs.eraseIdx i))) (en c c (g x)) := by
  rw [en_pL, en_pL]
  have e : (xs.map fun x => en c c (g x))[i]? = some (en c c (g x)) := by simp [hi]
  simp only [MutAt, popAt_eq e (by simp; omega), so_some]
  congr 2
  rw [List.eraseIdx_eq_take_drop_succ, List.eraseIdx_eq_take_drop_succ]
  simp
theorem set_lst {i : Nat} {x : α} (h : i < xs.length) : SetAt oSet (en .own c (pL g xs)) (I (i : Int)) (en c c (g x)) K1 = K1 (en .own c (pL g (xs.set i x))) := by
  rw [en_pL, en_pL]
  have e : ixN (xs.map fun x => en c c (g x)).length (i : Int) = some i := by
    simp only [ixN, List.length_map]; rw [if_pos (by omega), if_pos (by omega)]; simp
  simp only [SetAt, oSet, sLst, e, Option.map_some, Option.or, so_some]
  congr 2
  rw [List.map_set]
theorem set_lstN {ns : List Nat} {i n : Nat} (h : i < ns.length) : SetAt oSet (en .own c (pL pN ns)) (I (i : Int)) (I (n : Int)) K1 = K1 (en .own c (pL pN (ns.set i n))) := set_lst (g := pN) (x := n) h
/-! iteration -/
def itD (s : Sh) (d : D) : Option (D × List D) := match d with
  | .nd k s' ds => if s' = s then some (D.mk kFz (.nd k s' ds), ds.map (D.mk kFz)) else none
  | _ => none
theorem ok_iseqE {s : Sh} {Q : D × List D → Sg → Prop} : OkE E (iSeq fa s S) Q = OkE E (fa S) fun d S1 => So (itD s d) fun p => Q p S1 := by
  rw [ok_iseq]
  refine ok_cg fun d S1 => ?_
  cases d with
  | im v => simp only [itD, so_none]
  | nd k s' ds =>
    simp only [itD]
    by_cases e : s' = s
    · rw [if_pos e, if_pos e, so_some]
    · rw [if_neg e, if_neg e, so_none]
theorem it_en : itD .lst (en k c (pL g xs)) = some (en (kFz k) (kFz c) (pL g xs), xs.map fun x => en (kFz c) (kFz c) (g x)) := by
  have e : (en k c (pL g xs)).mk kFz = en (kFz k) (kFz c) (pL g xs) := en_mk _ _ _ _
  rw [en_pL] at e ⊢
  simp only [itD, if_true, e, List.map_map]
  congr 2
  exact List.map_congr_left fun x _ => en_mk _ _ _ _
def rg1 (ds : List D) : Option (D × List D) := match ds with
    | [.im (.int hi)] => if rngOk hi = true then some (iRng 0 hi) else none
    | _ => none
def rg2 (ds : List D) : Option (D × List D) := match ds with
    | [.im (.int lo), .im (.int hi)] => if (rngOk lo && rngOk hi) = true then some (iRng lo hi) else none
    | _ => none
theorem ok_rg1 {Q : D × List D → Sg → Prop} : OkE E (iRng1F fr S) Q = OkE E (fr S) fun ds S1 => So (rg1 ds) fun p => Q p S1 := by
  have e : iRng1F fr S = (fr S).bind fun ds S1 => R.lift (rg1 ds) S1 := by
    unfold iRng1F
    congr 1; funext ds S1
    unfold rg1
    split
    · first
        | (split <;> rfl)
        | (dsimp only; split <;> rfl)
        | (split <;> simp_all [R.lift])
    · first
        | rfl
        | (split <;> simp_all [R.lift])
  rw [e, ok_bind]
  exact ok_cg fun ds S1 => ok_lift
theorem ok_rg2 {Q : D × List D → Sg → Prop} : OkE E (iRng2F fr S) Q = OkE E (fr S) fun ds S1 => So (rg2 ds) fun p => Q p S1 := by
  have e : iRng2F fr S = (fr S).bind fun ds S1 => R.lift (rg2 ds) S1 := by
    unfold iRng2F
    congr 1; funext ds S1
    unfold rg2
    split
    · first
        | (split <;> rfl)
        | (dsimp only; split <;> rfl)
        | (split <;> simp_all [R.lift])
    · first
        | rfl
        | (split <;> simp_all [R.lift])
  rw [e, ok_bind]
  exact ok_cg fun ds S1 => ok_lift
theorem rg1_eq {n : Nat} (h : n < 1000000) : rg1 [I (n : Int)] = some (.im .non, (List.range n).map fun k : Nat => I (k : Int)) := by
  unfold rg1
  dsimp only
  rw [if_pos (rngOk_of (by omega) (by omega)), iRng_upto]; rfl
theorem rg2_eq {m n : Nat} (hm : m < 1000000) (h : n < 1000000) : rg2 [I (m : Int), I (n : Int)] = some (.im .non, (List.range (n - m)).map fun k : Nat => I ((m + k : Nat) : Int)) := by
  unfold rg2
  dsimp only
  rw [if_pos (by rw [rngOk_of (by omega) (by omega), rngOk_of (by omega) (by omega)]; rfl)]
  unfold iRng
  rw [show ((n : Int) - (m : Int)).toNat = n - m by omega]
  congr 2
theorem clean_non : cleanD M (.im .non) = true := clean_im _ _
/-- a loop over what is told by a list -/
theorem for_inv {β : Type} {tg : D → Sg → Option Sg} {e : β → D} {ys : List β} (Inv : Nat → Sg → Prop) (hb : ∀ (i : Nat) y S, ys[i]? = some y → Inv i S → So (tg (e y) S) fun S0 => OkE E (f S0) fun fl S1 => match fl with
      | .nx => Inv (i + 1) S1
      | .cnt => Inv (i + 1) S1
      | .brk => QF .nx S1
      | .ret d => QF (.ret d) S1) (hz : ∀ S, Inv ys.length S → QF .nx S) (h0 : Inv 0 S) : OkE E (forL tg f (ys.map e) S) QF := by
  refine forL_inv Inv _ _ ?_ ?_ h0
  · intro i d S hd hi
    rw [List.getElem?_map] at hd
    cases q : ys[i]? with
    | none => rw [q] at hd; cases hd
    | some y =>
      rw [q] at hd
      cases hd
      exact hb i y S q hi
  · intro S hi
    rw [List.length_map] at hi
    exact hz S hi
/-- a comprehension over what is told by a list -/
theorem lc_inv {β : Type} {ws Me : List Nat} {tg : D → Sg → Option Sg} {e : β → D} {ys : List β} (Inv : Nat → Sg → List D → Prop)
    (hb : ∀ (i : Nat) y S acc, ys[i]? = some y → Inv i S acc → So (tg (e y) S) fun S0 => OkE NoX (ft S0) fun b S1 => if b = true then OkE NoX (fe S1) fun z S2 => (acc.length < sizeLine ∧ cleanD Me z = true) ∧ Inv (i + 1) (wipeS ws S2) (acc ++ [z]) else Inv (i + 1) (wipeS ws S1) acc)
    (hz : ∀ S acc, Inv ys.length S acc → QL acc S) (h0 : Inv 0 S []) : OkE NoX (lcL ws Me tg ft fe (ys.map e) S []) QL := by
  refine lcL_inv Inv _ _ ?_ ?_ h0
  · intro i d S acc hd hi
    rw [List.getElem?_map] at hd
    cases q : ys[i]? with
    | none => rw [q] at hd; cases hd
    | some y =>
      rw [q] at hd
      cases hd
      exact hb i y S acc q hi
  · intro S acc hi
    rw [List.length_map] at hi
    exact hz S acc hi
/-- the plain case: one result for each item, the state as it was -/
theorem lc_map {β γ : Type} {i : Nat} {Me : List Nat} {e : β → D} {ys : List β} (h : γ → D) (w : β → γ) (hl : ys.length < 1000000) (hS : S.set i none = S)
    (hf : ∀ y ∈ ys, (e y).mk kFz = e y)
    (hb : ∀ y ∈ ys, OkE NoX (fe (S.set i (some (e y)))) fun z S2 => z = h (w y) ∧ cleanD Me z = true ∧ S2.set i none = S)
    (hz : QL ((ys.map w).map h) S) : OkE NoX (lcL [i] Me (gSet true i) cYes fe (ys.map e) S []) QL := by
  refine lc_inv (Inv := fun j S' acc => S' = S ∧ acc = ((ys.map w).map h).take j) ?_ ?_ ⟨rfl, by simp⟩
  · rintro j y S' acc hy ⟨rfl, rfl⟩
    have hm := List.mem_of_getElem? hy
    have hj := (List.getElem?_eq_some_iff.mp hy).1
    rw [so_gset, ok_yes, if_pos rfl, show fzIf true (e y) = e y from hf y hm]
    refine (hb y hm).mono ?_
    rintro z S2 ⟨rfl, h2, h3⟩
    refine ⟨⟨small_size (by rw [List.length_take]; omega), h2⟩, h3, ?_⟩
    rw [List.take_add_one]
    congr 1
    simp [hy]
  · rintro S' acc ⟨rfl, rfl⟩
    rw [show ys.length = ((ys.map w).map h).length by simp, List.take_length]
    exact hz
/-! more forms -/
theorem ok_chainE {Mb Mc : List Nat} {o o' : D → D → Option D} : OkE E (cChain Mb Mc fa fb fc o o' S) Q = OkE E (fa S) fun da S1 => if cleanD Mb da = true then OkE E (fb S1) fun db S2 => So (match db with | .im v => some v | _ => none) fun v => So (o da (.im v)) fun r => So (dBool r) fun b =>
    if b = true then OkE E (fc S2) fun dc S3 => So (o' (.im v) dc) fun d => Q d S3 else Q (B false) S2 else False := by
  unfold cChain
  rw [ok_bind]
  refine ok_cg fun da S1 => ?_
  by_cases c1 : cleanD Mb da = true
  · rw [if_pos c1, if_pos c1, ok_bind]
    refine ok_cg fun db S2 => ?_
    cases db with
    | nd k s ds => dsimp only; rw [so_none, ok_bad]
    | im v =>
      dsimp only
      rw [so_some]
      rcases e : o da (.im v) with _ | r
      · dsimp only; rw [so_none, ok_bad]
      · rw [so_some]
        cases r with
        | nd k s ds => dsimp only [dBool]; rw [so_none, ok_bad]
        | im u =>
          cases u with
          | bl b =>
            dsimp only [dBool]
            cases b with
            | true => dsimp only; rw [so_some, if_pos rfl, ok_bind]; refine ok_cg fun dc S3 => ?_; rw [ok_lift]
            | false => dsimp only; rw [so_some, if_neg Bool.false_ne_true, ok_ok]
          | _ => dsimp only [dBool]; rw [so_none, ok_bad]
  · rw [if_neg c1, if_neg c1, ok_bad]
def imV (d : D) : Option V := match d with | .im v => some v | _ => none
theorem ok_chn {Mb Mc : List Nat} {o o' : D → D → Option D} : OkE E (cChain Mb Mc fa fb fc o o' S) Q = OkE E (fa S) fun da S1 => if cleanD Mb da = true then OkE E (fb S1) fun db S2 => So (imV db) fun v => So (o da (.im v)) fun r => So (dBool r) fun b =>
    if b = true then OkE E (fc S2) fun dc S3 => So (o' (.im v) dc) fun d => Q d S3 else Q (B false) S2 else False := ok_chainE
theorem imV_im (v : V) : imV (.im v) = some v := rfl
def OkM (E : EC) (x : Rc) (Q : D → List D → Prop) : Prop := OkCE (fun c d ms => match ms with
  | _ :: ms => E c d ms
  | [] => False) x fun d ms => d = .im .non ∧ match ms with
  | m :: ms => Q m ms
  | [] => False
theorem ok_mk {j : Nat} {rs : List (Option Nat)} {sem : FSem} : OkE E (cMk j rs fr sem S) Q = OkE E (fr S) fun ds S1 => if ds.length = rs.length ∧ ((List.zip rs ds).all fun p => p.1.isNone || ofD p.2) = true then
    OkM (fun c d ms => E c d (backS rs ms S1)) (sem (.nd .own (.obj j []) [] :: argsD rs ds)) fun d ms => Q d (backS rs ms S1) else False := by
  unfold cMk
  rw [ok_bind]
  refine ok_cg fun ds S1 => ?_
  by_cases c : ds.length = rs.length ∧ ((List.zip rs ds).all fun p => p.1.isNone || ofD p.2) = true
  · rw [if_pos c, if_pos c]
    unfold OkM
    rcases e : sem (.nd .own (.obj j []) [] :: argsD rs ds) with ⟨d, ms⟩ | ⟨c', d, ms⟩ | _
    · rw [okC_def]
      show _ = (d = .im .non ∧ _)
      cases d with
      | nd k s ds => simp [ok_bad]
      | im v =>
        cases ms with
        | nil => cases v <;> simp [ok_bad]
        | cons m ms => cases v <;> simp [ok_bad, ok_ok]
    · rw [okC_def, ok_def]
      cases ms <;> rfl
    · rw [okC_def, ok_def]; rfl
  · rw [if_neg c, if_neg c, ok_bad]
theorem okC_of {x : Rc} {d : D} {ms : List D} {Q : D → List D → Prop} (e : x = .ok d ms) : OkCE Ec x Q = Q d ms := by rw [e, okC_def]; rfl
theorem of_okC {x : Rc} {d : D} {ms : List D} (h : OkCE NoC x fun d' ms' => d' = d ∧ ms' = ms) : x = .ok d ms := by
  obtain ⟨d', ms', e, rfl, rfl⟩ := h.get
  exact e
theorem en_LNp {ns : List Nat} : en k .par (pL pN ns) = en k .frz (pL pN ns) := by rw [en_pL, en_pL]; rfl
theorem en_LNo {ns : List Nat} : en k .own (pL pN ns) = en k .frz (pL pN ns) := by rw [en_pL, en_pL]; rfl
theorem en_LNb {ns : List Nat} {j : Nat} : en k (.bor j) (pL pN ns) = en k .frz (pL pN ns) := by rw [en_pL, en_pL]; rfl
theorem fold_LL {t : List (List Nat)} : D.nd k .lst (t.map fun r => en c .frz (pL pN r)) = en k c (pL (pL pN) t) := by
  rw [en_pL]
  congr 1
  refine List.map_congr_left fun r _ => ?_
  rw [en_pL, en_pL]; rfl
theorem fold_LN {ns : List Nat} : D.nd k .lst (ns.map fun n : Nat => I (n : Int)) = en k .frz (pL pN ns) := by rw [en_pL]; rfl
theorem bor_nd {s : Sh} {ds : List D} : hasBor r (.nd k s ds) = (decide (Kd.bor r = kz s k) || ds.any (hasBor r)) := by
  unfold hasBor
  rw [D.kins, List.contains_cons, kinsL_eq]
  congr 1
  rw [Bool.eq_iff_iff, List.contains_iff_mem, List.any_eq_true, List.mem_flatMap]
  simp only [List.contains_iff_mem]
theorem kz_lst : kz .lst k = k := rfl
theorem kz_tup : kz .tup k = .frz := rfl
theorem kz_dic {ks : List Key} : kz (.dic ks) k = k := rfl
theorem kz_dtu {ks : List (List Key)} : kz (.dtu ks) k = k := rfl
theorem kz_obj {c : Nat} {ns : List Str} : kz (.obj c ns) k = k := rfl
theorem kz_xd {ns : List Str} : kz (.xd ns) k = k := rfl
theorem kz_scr : kz .scr k = .frz := rfl
theorem kill_d {d : D} (h : hasBor r d = false) : killD r (some d) = some d := by
  show (if hasBor r d then none else some d) = some d
  rw [h]; rfl
theorem of_nd {s : Sh} {ds : List D} : ofD (.nd k s ds) = ((kz s k == .own || kz s k == .frz) && ds.all ofD) := by
  unfold ofD
  rw [D.kins, List.all_cons, kinsL_eq]
  congr 1
  rw [Bool.eq_iff_iff, List.all_eq_true, List.all_eq_true]
  simp only [List.mem_flatMap, List.all_eq_true]
  exact ⟨fun h d hd q hq => h q ⟨d, hd, hq⟩, fun h q ⟨d, hd, hq⟩ => h d hd q hq⟩
/-- a cut between two statements -/
theorem seq_cut (A : Sg → Prop) (h1 : OkE E (f S) (OkF QF A)) (h2 : ∀ S1, A S1 → OkE E (h S1) QF) : OkE E (cSeq f h S) QF := by
  rw [ok_seq]
  refine h1.mono fun fl S1 q => ?_
  cases fl with
  | nx => exact h2 S1 q
  | _ => exact q
theorem dLst_s {ds : List D} (h : ds.length < 1000000) : dLst ds = some (.nd .own .lst ds) := by unfold dLst; rw [if_pos (small_size' h)]
theorem dTup_s {ds : List D} (h : ds.length < 1000000) : dTup ds = some (.nd .own .tup ds) := by unfold dTup; rw [if_pos (small_size' h)]
theorem en_L0 : en k c (pL g []) = .nd k .lst [] := rfl
theorem cat_raw {xs ys : List D} (h : xs.length + ys.length < 1000000) : oAdd (.nd k .lst xs) (.nd k' .lst ys) = some (.nd .own .lst (xs ++ ys)) := by
  simp only [oAdd, dI2, dCat, if_pos (small_size' h), Option.or]
theorem okM_of {x : Rc} {m : D} {ms : List D} {Q : D → List D → Prop} (e : x = .ok (.im .non) (m :: ms)) : OkM Ec x Q = Q m ms := by
  unfold OkM; rw [okC_of e]; simp
theorem all_clean {ds : List D} : ds.all (cleanD []) = true := by simp [List.all_eq_true, clean_nil]
theorem mk_nd (q : Kd → Kd) (k : Kd) (s : Sh) (ds : List D) : D.mk q (.nd k s ds) = .nd (q k) s (ds.map (D.mk q)) := by rw [D.mk, mkDL_eq]
end
end Lin
end
section
namespace Lin
open PySem L2
/-! ### len(o), o.p, o(..) of own classes -/
def isInsD (c : Nat) (d : D) : Bool := match d with
  | .nd _ (.obj c' _) _ => c' == c
  | _ => false
def W0 : WX := fun _ _ _ _ => False
section
variable {g : Gc} {n : Nat} {W : WX} {Γ : Gh} {A A' A'' B : List (Option T)} {σ : L2.St} {H H' : Hp} {t : T} {M M1 M2 : List Nat}
theorem ins_of {c : Nat} (Rr : Rel g Γ n (A ++ [some t]) σ H) (h : isInsD c t.er = true) : rIns (g.cl c) t.root H := by
  unfold isInsD at h
  split at h
  · rename_i k c' ns ds e
    have hc : c' = c := by simpa using h
    subst hc
    obtain ⟨a, dx, ts, rfl, h1⟩ := er_nd e
    exact ⟨a, dx, _, rfl, Rr.top1.flat id⟩
  · cases h
def ownR (P ok : D → Bool) (sem : FSem) (d : D) (S : Sg) : R D := if P d = true then match callR [none] sem [d] S with
    | .ok r S2 => if ok r = true then .ok r S2 else .bad
    | _ => .bad
  else .bad
theorem own_core {c : Nat} {ok : D → Bool} {okv : V → Prop} {sem : FSem} {Q : VK} {S1 : Sg} (hok : ∀ t : T, ok t.er = true → okv t.root) (R1 : Rel g Γ n (A' ++ [some t]) σ H) (hn : n ≤ A'.length) (x : NextM n M A A') (e : ers n A' = S1)
    (h : PostE g n W M Γ A σ Q (ownR (isInsD c) ok sem t.er S1)) : rIns (g.cl c) t.root H ∧ spOf g [false] sem [t.root] H (fun v H' => okv v ∧ Q v H') (WE W0 σ) := by
  unfold ownR at h
  by_cases hp : isInsD c t.er = true
  · rw [if_pos hp] at h
    refine ⟨ins_of R1 hp, call_core (W := W0) (rs := [none]) (ts := [t]) (M := M) (A := A) R1 hn x (by simp) e (by simp) (by simp) (fun i r hr => ?_) ?_⟩
    · cases i <;> simp at hr
    · show PostE g n W0 M Γ A σ _ (callR [none] sem [t.er] S1)
      cases q : callR [none] sem [t.er] S1 with
      | bad => rw [q] at h; exact h
      | exc c d S => rw [q] at h; exact h.elim
      | ok r S2 =>
        rw [q] at h
        dsimp only at h
        by_cases ho : ok r = true
        · rw [if_pos ho] at h
          exact fun A2 t2 H2 R2 x2 e2 d2 => ⟨hok t2 (by rw [d2]; exact ho), h A2 t2 H2 R2 x2 e2 d2⟩
        · rw [if_neg ho] at h; exact h.elim
  · rw [if_neg hp] at h; exact h.elim
def cOwn (c : Nat) (ok : D → Bool) (fa : Sg → R D) (sem : FSem) : Sg → R D := fun S => (fa S).bind fun d S1 => ownR (isInsD c) ok sem d S1
def tOwn (C : Addr) (okv : V → Prop) (sp : Sp) (ta : TE) : TE := fun σ H Q => ta σ H fun x H1 => rIns C x H1 ∧ sp [x] H1 (fun v H' => okv v ∧ Q v H') (WE W0 σ)
theorem mean_own {c : Nat} {ok : D → Bool} {okv : V → Prop} {sem : FSem} {ta : TE} {fa : Sg → R D} (hok : ∀ t : T, ok t.er = true → okv t.root) (ha : MeanE g n W M ta fa) : MeanE g n W M (tOwn (g.cl c) okv (spOf g [false] sem) ta) (cOwn c ok fa sem) := by
  intro Γ A σ H Q Rr cl h
  refine ha Γ A σ H _ Rr cl ?_
  unfold cOwn at h
  cases ea : fa (ers n A) with
  | bad => rw [ea] at h; exact h.elim
  | exc c d S => rw [ea] at h; exact h
  | ok da S1 =>
    rw [ea] at h
    dsimp only [Lin.R.bind] at h
    intro A1 t1 H1 R1 x1 e1 d1
    subst d1
    exact own_core hok R1 (by rw [x1.len]; exact Rr.len) x1 e1 h
def isLenD (d : D) : Bool := match d with
  | .im (.int i) => decide (0 ≤ i) && decide (i < 9223372036854775808)
  | _ => false
theorem isLen_of (t : T) (h : isLenD t.er = true) : ∃ i, t.root = .int i ∧ 0 ≤ i ∧ i < 2 ^ 63 := by
  unfold isLenD at h
  split at h
  · rename_i i e
    have := er_im e
    subst this
    rw [Bool.and_eq_true] at h
    exact ⟨i, rfl, of_decide_eq_true h.1, of_decide_eq_true h.2⟩
  · cases h
/-- the arguments' check behind them, too -/
def tChk2 (P : V → Hp → Prop) (ta : TE) (tr : TA) : TA := fun σ H Q => ta σ H fun x H1 => P x H1 ∧ tr σ H1 fun xs H2 => P x H2 ∧ Q (x :: xs) H2
theorem meanc_valK2 {rs : List (Option Nat)} {ta : TE} {tr : TA} {fa : Sg → R D} {fr : Sg → R (List D)} {P : V → Hp → Prop} {Pd : D → Bool} (hP : ∀ Γ A t σ H, Rel g Γ n (A ++ [some t]) σ H → Pd t.er = true → P t.root H) (ha : MeanE g n W M1 ta fa) (hr : MeanC g n W rs M2 tr fr) :
    MeanC g n W (none :: rs) (M1 ++ M2) (tChk2 P ta tr) (cConsK Pd M2 fa fr) := by
  intro Γ A σ H Q Rr cl h
  refine ha Γ A σ H _ Rr cl.left ?_
  unfold cConsK at h
  cases ea : fa (ers n A) with
  | bad => rw [ea] at h; exact h.elim
  | exc c d S => rw [ea] at h; exact h
  | ok da S1 =>
    rw [ea] at h
    dsimp only [Lin.R.bind] at h
    intro A1 t1 H1 R1 x1 e1 d1
    by_cases hc : cleanD M2 da = true ∧ Pd da = true
    · rw [if_pos hc] at h
      have n1 : n ≤ A1.length := by rw [x1.len]; exact Rr.len
      refine ⟨hP Γ A1 t1 σ H1 R1 (by rw [d1]; exact hc.2), hr Γ (A1 ++ [some t1]) σ H1 _ R1 ((cl.right.next x1.toNext Rr.len).snoc (by rw [d1]; exact hc.1)) ?_⟩
      rw [ers_append n1, e1]
      cases eb : fr S1 with
      | bad => rw [eb] at h; exact h.elim
      | exc c d S =>
        rw [eb] at h
        intro A2 t2 H2 R2 x2 e2 d2
        obtain ⟨y, z⟩ := x2.left n1
        have n3 : n ≤ (A2.take A1.length).length := by rw [y.len]; exact n1
        rw [z] at R2 e2
        exact h (A2.take A1.length) t2 H2 (R2.mid n3) (x1.toNext.trans y) (by rw [ers_append n3] at e2; exact e2) d2
      | ok ds S2 =>
        rw [eb] at h
        dsimp only [Lin.R.bind] at h
        intro A2 ts H2 R2 x2 e2 d2 hk
        obtain ⟨y, z⟩ := x2.left n1
        have n3 : n ≤ (A2.take A1.length).length := by rw [y.len]; exact n1
        rw [z] at R2
        refine ⟨hP Γ (A2.take A1.length) t1 σ H2 (R2.drop (by rw [List.length_append]; omega)) (by rw [d1]; exact hc.2), ?_⟩
        rw [List.append_assoc] at R2
        have := h (A2.take A1.length) (t1 :: ts) H2 (by simpa using R2) (x1.trans y) (by rw [z, ers_append n3] at e2; exact e2) (by simp [d1, d2]) (fun i r e => by
          cases i with
          | zero => simp at e
          | succ i =>
            obtain ⟨u, h1, h2, h3, h4⟩ := hk i r (by simpa using e)
            refine ⟨u, by simpa using h1, h2, ?_, h4⟩
            rw [z, List.getElem?_append_left (by omega)] at h3
            exact h3)
        exact this
    · rw [if_neg hc] at h; exact h.elim
end
section
variable {X : Cx} {k : Nat} {f C : Addr} {fd : FuncData} {ps : List Str} {sp : Sp} {E : L2.St → XK} {x m : Str} {p pos apos : Pos} {e o fe : Expr} {es : List Expr} {ta : TE} {t : TA}
/-- o(e, ..), o an expression that gives an instance -/
theorem pe_inst2 {CX : CXT} (hf : PE X fe ta) (c : StX.CallO X.K C f) (F : FnOk X.prog X.w X.K X.mg X.base CX k f fd ps sp) (hr : Room k X.A) (hb : Binds X.K fd ps []) (hx : ∀ σ, PassesAt CX X σ (E σ)) (ha : PA X (e :: es) t)
    (ht : eval (.Call fe (e :: es) [] pos) X.env = (do callWith pos (← eval fe X.env) [] (backTo pos (starEach (e :: es) X.env)) (backToKw pos (keywordEach [] X.env))) := by rfl)
    (he : starEach (e :: es) X.env = (false, eval e X.env) :: starEach es X.env := by rfl) (hpl : (backTo pos (starEach es X.env)).any (·.1) = false := by rfl) : PE X (.Call fe (e :: es) [] pos) (tCallS sp E (tChk2 (rIns C) ta t)) := by
  refine ⟨fun pins s σ H Q I h => ?_⟩
  refine PyProof.Rows.Call_ (thn (hf.run pins s σ H _ I h) fun u s1 ⟨y, H1, I1, ry, ⟨a, dx0, fs0, ey, _⟩, q⟩ => ?_) ht
  subst ey
  obtain rfl : u = Value.ref a := ry
  refine StX.callO_with (thn (ha.run pos pins s1 σ H1 _ I1 q) fun us s2 ⟨vs, H2, I2, r, hi, q2⟩ => ?_) he hpl
  obtain ⟨a', dx, fs, e1, ea⟩ := hi
  cases e1
  obtain ⟨mA, O, _⟩ := ins_get I2.hok ea
  obtain ⟨od, J, _⟩ := O.look
  refine ⟨⟨C, _, _, J, rfl⟩, ?_⟩
  have r2 : Vals (V.ref a :: vs) (Value.ref a :: us) := .cons rfl r
  have hl : (Value.ref a :: us).length = ps.length := by rw [← r2.length]; exact F.len _ _ _ _ q2
  have b := hb s2 (Value.ref a :: us) I2.kIn (by rw [List.append_nil]; exact hl)
  rw [List.append_nil] at b
  refine wpAny_call (PySem.W.kco_code I2.kIn J rfl c.at_ c.fn c.fi (codeAny_mono (F.run X.A X.stack s2 H2 ⟨Value.ref a :: us, []⟩ (Value.ref a :: us) (V.ref a :: vs) Q (E σ) hr I2.env0 b r2 q2) fun r s' hq => ?_))
  cases r with
  | error e => exact hx σ pins H2 s2 e s' I2 hq
  | ok fl =>
    cases fl with
    | ret u => exact I2.after hq
    | next => exact False.elim hq
    | brk => exact False.elim hq
    | cont => exact False.elim hq
end
/-- an own __len__, a property's getter, an own __call__ -/
def Dl (P : Program) (w : World) (K : PySem.W.Frag) (mg : Str → Option Value) (base : Heap) (g : Gc) (c : Nat) (k : Nat) (sem : FSem) : Prop :=
  ∃ f fd ps, FnOk P w K mg base (L2.CX P w) k f fd ps (spOf g [false] sem) ∧ Spec1 K (g.cl c) "__len__" f ∧ Binds K fd ps []
def Dp (P : Program) (w : World) (K : PySem.W.Frag) (mg : Str → Option Value) (base : Heap) (g : Gc) (c : Nat) (m : Str) (k : Nat) (sem : FSem) : Prop :=
  ∃ f fd ps p, FnOk P w K mg base (L2.CX P w) k f fd ps (spOf g [false] sem) ∧ Cls K (g.cl c) ∧ PropOf K (g.cl c) m p f ∧ Binds K fd ps []
def Do (P : Program) (w : World) (K : PySem.W.Frag) (mg : Str → Option Value) (base : Heap) (g : Gc) (c : Nat) (ps : List Str) (k : Nat) (mr : List Bool) (sem : FSem) : Prop :=
  ∃ f fd, FnOk P w K mg base (L2.CX P w) k f fd ps (spOf g mr sem) ∧ StX.CallO K (g.cl c) f ∧ Binds K fd ps []
section
variable {Mz : List Nat} {X : Cx} {g : Gc} {W : WX} {M M1 M2 M3 M4 : List Nat} {a b c e o fe lo hi : Expr} {es : List Expr} {pos p apos p2 p3 pos' : Pos} {fa fb fc : Sg → R D} {fr : Sg → R (List D)} {rs : List (Option Nat)} {x m : Str} {cn k : Nat} {ps : List Str} {sem : FSem}
theorem passNox {K0 : XK} (h : ∀ cls d H, K0 cls d H → False) : Passes (L2.CX X.prog X.w) X.nox K0 := fun pins σ H s e s' I c =>
  (passL (X := X.nox) pins σ H s e s' I (by
    have : K0 = E0 := by funext cls d H'; exact propext ⟨fun z => (h _ _ _ z).elim, fun z => z.elim⟩
    rw [← this]; exact c))
theorem tE_mono {g : Gc} {n : Nat} {W : WX} {M : List Nat} {f : Sg → R D} {σ : L2.St} {H : Hp} {Q Q' : VK} (h : tE g n W M f σ H Q) (m : ∀ v H', Q v H' → Q' v H') : tE g n W M f σ H Q' := by
  obtain ⟨Γ, A, r, cl, p⟩ := h
  refine ⟨Γ, A, r, cl, ?_⟩
  cases e : f (ers n A) with
  | bad => rw [e] at p; exact p
  | exc c d S => rw [e] at p; exact p
  | ok d S => rw [e] at p; exact fun A' t H' R x e1 e2 => m _ _ (p A' t H' R x e1 e2)
theorem spOf_mono {g : Gc} {mr : List Bool} {sem : FSem} {vs : List V} {H : Hp} {Q Q' : VK} {E E' : XK} (h : spOf g mr sem vs H Q E) (hq : ∀ v H', Q v H' → Q' v H') (he : ∀ c d H', E c d H' → E' c d H') : spOf g mr sem vs H Q' E' := by
  obtain ⟨ts, e1, c, h⟩ := h
  refine ⟨ts, e1, c, ?_⟩
  cases q : sem (ts.map T.er) with
  | bad => rw [q] at h; exact h
  | ok d ms => rw [q] at h; exact fun H' t us b e2 e3 => hq _ _ (h H' t us b e2 e3)
  | exc c d ms => rw [q] at h; exact fun H' t us b e2 e3 => he _ _ _ (h H' t us b e2 e3)
theorem sd_lenO (F : Dl X.prog X.w X.K X.mg X.base g cn k sem) (hr : Room (k + 1) X.A) (ha : QE X g W M1 e fa) (hm : X.mg "len" = none) (hg : Gl X "len" := by rfl)
    (he : starEach [e] X.env = (false, eval e X.env) :: starEach [] X.env := by rfl) (hpl : (backTo pos (starEach [] X.env)).any (·.1) = false := by rfl) : QE X g W M1 (.Call (.Name "len" p) [e] [] pos) (cOwn cn isLenD fa sem) := by
  obtain ⟨f, fd, ps, h1, h2, h3⟩ := F
  have pe := pe_callB (p := p) (pos := pos) (x := "len") (call_lenO h2 h1 hr h3) hg hm (by rfl) (pa_cons ha pa_nil he) (by decide) (by decide) he hpl
  refine qE pe (fun Γ A σ H Q r cl h => ?_)
  have key := mean_own (c := cn) (W := W) (sem := sem) (okv := fun v => ∃ i, v = .int i ∧ 0 ≤ i ∧ i < 2 ^ 63) isLen_of (mn_E (g := g) (n := X.N.length) (W := W) (M := M1) (f := fa)) Γ A σ H Q r cl h
  refine tE_mono key fun v H' ⟨q1, q2⟩ => ?_
  refine ⟨v, rfl, q1, ?_⟩
  refine spOf_mono q2 (fun u H2 ⟨⟨i, hi, h0, h1⟩, q⟩ => ⟨i, hi, h0, h1, by rw [← hi]; exact q⟩) (fun _ _ _ z => z)
theorem sd_prop (F : Dp X.prog X.w X.K X.mg X.base g cn m k sem) (hr : Room (k + 1) X.A) (ha : QE X g W M1 e fa) (hab : attributeBase e m X.env (eval e X.env) = eval e X.env := by rfl) : QE X g W M1 (.Attribute e m pos) (cOwn cn (fun _ => true) fa sem) := by
  obtain ⟨f, fd, ps, p', h1, h2, h3, h4⟩ := F
  refine qE (pe_prop (pos := pos) (E := E0) (dvs := []) ha h2 h3 h1 hr h4 .nil (passNox fun _ _ _ z => z) hab) (fun Γ A σ H Q r cl h => ?_)
  have key := mean_own (c := cn) (W := W) (sem := sem) (ok := fun _ => true) (okv := fun v => True) (fun _ _ => trivial) (mn_E (g := g) (n := X.N.length) (W := W) (M := M1) (f := fa)) Γ A σ H Q r cl h
  refine tE_mono key fun v H' ⟨⟨a, dx, fs, q0, q1⟩, q2⟩ => ?_
  subst q0
  exact ⟨a, dx, fs, rfl, q1, spOf_mono q2 (fun u H2 q => q.2) (fun _ _ _ z => z)⟩
theorem sd_inst (cx : CxE X W) (F : Do X.prog X.w X.K X.mg X.base g cn ps k (false :: rs.map Option.isSome) sem) (hr : Room k X.A) (ho : QE X g W M1 fe fa) (ha : QC X g W M2 rs (e :: es) fr) (hM : ∀ r ∈ rs.filterMap id, r ∈ M1 ++ M2 := by decide) (hnd : (rs.filterMap id).Nodup := by decide)
    (ht : eval (.Call fe (e :: es) [] pos) X.env = (do callWith pos (← eval fe X.env) [] (backTo pos (starEach (e :: es) X.env)) (backToKw pos (keywordEach [] X.env))) := by rfl)
    (he : starEach (e :: es) X.env = (false, eval e X.env) :: starEach es X.env := by rfl) (hpl : (backTo pos (starEach es X.env)).any (·.1) = false := by rfl) (hMz : Mz = (M1 ++ M2) := by rfl) : QE X g W Mz (.Call fe (e :: es) [] pos) (cCall (none :: rs) (cConsK (isInsD cn) M2 fa fr) sem) := by
  subst hMz
  exact (let ⟨_, _, h1, h2, h3⟩ := F; qE (pe_inst2 ho h2 h1 hr h3 cx.at ha ht he hpl) (mean_call (rs := none :: rs) (meanc_valK2 (fun Γ A t σ H R h => ins_of R h) mn_E mn_C) (by simpa using hM) (by simpa using hnd)))
/-! ### slices -/
def cutD (xs : List D) (lo hi : Option Int) : List D := (xs.drop (HT.sIx xs.length 0 lo)).take (HT.sIx xs.length xs.length hi - HT.sIx xs.length 0 lo)
def dCutH (a b : D) : Option D := match a, b with
  | .nd _ .lst xs, .im (.int i) => some (.nd .own .lst (cutD xs none (some i)))
  | _, _ => none
end
section
variable {g : Gc} {n : Nat} {W : WX} {Γ : Gh} {A A' A'' B : List (Option T)} {σ : L2.St} {H H' : Hp} {t : T} {M M1 M2 : List Nat}
def cutT (xs : List T) (lo hi : Option Int) : List T := (xs.drop (HT.sIx xs.length 0 lo)).take (HT.sIx xs.length xs.length hi - HT.sIx xs.length 0 lo)
theorem cutT_root (xs : List T) (lo hi : Option Int) : (cutT xs lo hi).map T.root = cutV (xs.map T.root) lo hi := by simp [cutT, cutV, List.map_take, List.map_drop]
theorem cutT_er (xs : List T) (lo hi : Option Int) : (cutT xs lo hi).map T.er = cutD (xs.map T.er) lo hi := by simp [cutT, cutD, List.map_take, List.map_drop]
theorem cutT_sub (xs : List T) (lo hi : Option Int) : (cutT xs lo hi).Sublist xs := (List.take_sublist _ _).trans (List.drop_sublist _ _)
theorem opm_cut {K : PySem.W.Frag} {fL fH : Int → Option Int} {op : D → D → Option D} (hop : ∀ a b d, op a b = some d → ∃ k xs i, a = .nd k .lst xs ∧ b = .im (.int i) ∧ d = .nd .own .lst (cutD xs (fL i) (fH i))) :
    OpM g n (fun x y H Q => ∃ i, y = .int i ∧ rSlL K x (fL i) (fH i) H Q) op := by
  intro Γ A ta tb σ H Q d Rr hn eo hq
  obtain ⟨k, xs, i, e1, e2, rfl⟩ := hop _ _ _ eo
  obtain ⟨a, dx, us, rfl, h1⟩ := er_nd e1
  have := er_im e2
  subst this
  refine ⟨i, rfl, a, us.map T.root, rfl, SqL.of (Rr.top2.flat id), fun p hp => ?_⟩
  have R1 : Rel g Γ n (A ++ [some (T.nd a k .lst dx us)]) σ H := Rr.drop (by rw [List.length_append]; omega)
  have := R1.node1 (p := p) (ts := cutT us (fL i) (fH i)) hn hp .lst 0 ((cells_sublist (cutT_sub us (fL i) (fH i))).trans child_sub)
  have e3 : ho g .lst 0 ((cutT us (fL i) (fH i)).map T.root) = .lst (cutV (us.map T.root) (fL i) (fH i)) := by rw [cutT_root]; rfl
  rw [e3] at this
  exact hq _ _ this (by rw [T.er, erL_eq, cutT_er, h1])
theorem cutH_ok (a b d : D) (h : dCutH a b = some d) : ∃ k xs i, a = .nd k .lst xs ∧ b = .im (.int i) ∧ d = .nd .own .lst (cutD xs none (some i)) := by
  unfold dCutH at h
  split at h
  · cases h; exact ⟨_, _, _, rfl, rfl, rfl⟩
  · cases h
end
section
variable {Mz : List Nat} {X : Cx} {g : Gc} {W : WX} {M M1 M2 M3 M4 : List Nat} {a b c e o fe : Expr} {es : List Expr} {pos p apos p2 p3 pos' : Pos} {fa fb fc : Sg → R D}
theorem sd_slH (ha : QE X g W M1 a fa) (hb : QE X g W M2 b fb) (hMz : Mz = (M1 ++ M2) := by rfl) : QE X g W Mz (.Subscript a (.Slice none (some b) none p2) pos) (cTwo M2 fa fb dCutH) := by
  subst hMz
  exact qE (pe_slice sl_list ha po_none (po_some hb)) (mean_two mn_E mn_E (opm_cut (fL := fun _ => none) (fH := fun i => some i) cutH_ok))
end
end Lin
end
section
namespace Lin
open PySem L2
/-! ### raise -/
abbrev veB : List Value := [.type "ValueError", .type "Exception", .type "BaseException", .type "object"]
/-- an own exception class without own __init__ -/
structure Ex0 (K : PySem.W.Frag) (C : Addr) : Prop where
  ex : PySem.W.excIn K C veB "ValueError.__new__" = true
  kp : PySem.W.keepIn K (.ref C) = true
  sb : PySem.W.subIn K (.ref C) (.type "BaseException") = some true
  ty : PySem.W.typeIn K (.ref C) = some (.type "type")
/-- an own exception class whose __init__ keeps one value in the field f -/
structure Ex1 (K : PySem.W.Frag) (C : Addr) (f : Str) (fI : Addr) : Prop where
  cl : OexC K C
  ini : PySem.W.findIn K (.ref C) "__init__" = some (some (.ref fI))
  fn : PySem.W.typeIn K (.ref fI) = some (.type "function")
  no : PySem.W.findIn K (.ref C) f = some none
def spX (K : PySem.W.Frag) (f : Str) (Pv : V → Prop) : Sp := fun vs H Q _ => ∃ (a C : Addr) (v : V), vs = [.ref a, v] ∧ OexC K C ∧ PySem.W.findIn K (.ref C) f = some none ∧ H a = some (exo a C none) ∧ Pv v ∧
  ∀ dx, H dx = none → dx ≠ a → Q .non (upd (upd H dx (exd dx [(f, v)])) a (exo a C (some dx)))
section
variable {g : Gc} {n : Nat} {W : WX} {Γ : Gh} {A A' A'' B : List (Option T)} {σ : L2.St} {H H' : Hp} {t : T} {M M1 M2 : List Nat}
end
section
variable {Mz : List Nat} {X : Cx} {g : Gc} {W : WX} {M M1 M2 : List Nat} {e : Expr} {pos p pos' : Pos} {fa : Sg → R D} {x : Str} {c k : Nat}
/-- the __init__ of such a class, as its rule -/
def Dx (P : Program) (w : World) (K : PySem.W.Frag) (mg : Str → Option Value) (base : Heap) (g : Gc) (c : Nat) (x f : Str) (Pv : V → Bool) : Prop :=
  ∃ fI fd par, FnOk P w K mg base (L2.CX P w) 1 fI fd ["self", par] (spX K f fun v => Pv v = true) ∧ Ex1 K (g.cl c) f fI ∧ mg x = some (.ref (g.cl c)) ∧ Binds K fd ["self", par] []
end
/-! ### such an __init__: Base.__init__(self, ..), self.f = par -/
/-- what the class Base must have -/
structure BaseC (K : PySem.W.Frag) (mg : Str → Option Value) (x : Str) (B : Addr) : Prop where
  gl : mg x = some (.ref B)
  ga : PySem.W.specialIn K (.ref B) "__getattribute__" = some (some (.builtin "type.__getattribute__"))
  rd : PySem.W.readsIn K B (.type "type") = true
  fd : PySem.W.findCls K (.ref B) (.type "type") "__init__" = some (.val (.builtin "ValueError.__init__"))
section
variable {X : Cx} {e : Expr} {es : List Expr} {ta : TA} {x : Str} {B : Addr} {p1 p2 pos : Pos}
end
section
variable {P : Program} {w : World} {K : PySem.W.Frag} {mg : Str → Option Value} {base : Heap}
end
end Lin
end
section
set_option maxHeartbeats 4000000
namespace Lin
open PySem PySem.Spec PySem.Calls PyProof.Rows L2
/-! ### isinstance of a caught error, its dict being there or not -/
section
variable {prog : Program} {w : World} {A : Around} {E : Value → Shared → Prop} {s : Shared} {K : PySem.W.Frag} {x C : Addr} {ox : Obj} {od : Option Obj}
end
end Lin
end
section
namespace Lin
open PySem L2
/-! ### try: .. except X as e: .. -/
/-- the caught error's dict, held fast -/
def pinH (d : Option Addr) (fs : List (Str × V)) (Γ : Gh) : Prop := ∀ dd, d = some dd → Γ.H0 dd = some (.xd fs) ∧ ¬ Γ.W dd
def gPin (g : Gc) (d : Option Addr) (fs : List (Str × V)) : Gc := ⟨g.cl, g.scr, pinH d fs, g.T, g.sane⟩
section
variable {g : Gc} {n : Nat} {W : WX} {Γ : Gh} {A A' A'' B : List (Option T)} {σ : L2.St} {H H' : Hp} {t : T} {M M1 M2 : List Nat} {d : Option Addr} {fs : List (Str × V)}
end
section
variable {X : Cx} {g : Gc} {W : WX} {Mb Mh Mz : List Nat} {x nm : Str} {c i : Nat} {body suite : List Stmt} {b₀ : Stmt} {np pos pos' : Pos} {fb : Sg → R Fl} {fh : Nat → List (Str × V) → Addr → Sg → R Fl} {mt : Nat → Option Bool}
theorem CxS.tr (cx : CxS X W) {W' : WX} {pn : List (Addr × Obj)} {xe : Value → Shared → Prop} (tk : Takes (X.tr pn xe) W') (ps : PassesOwn (model X.prog X.w) X.A X.env xe) : CxS (X.tr pn xe) W' := ⟨⟨cx.calm, tk, cx.nd, cx.room⟩, ps⟩
end
end Lin
end
section
namespace Lin
open PySem L2
/-! ### in the suite: e.f, isinstance(e, C), == -/
section
variable {X : Cx} {g : Gc} {W : WX} {M M1 : List Nat} {e : Expr} {pos p p2 : Pos} {fa : Sg → R D} {x : Str} {c : Nat} {a : Addr} {oe : Obj} {pn : List (Addr × Obj)} {d : Option Addr} {fs : List (Str × V)}
end
end Lin
namespace Lin
open PySem L2
/-! ### messages -/
end Lin
namespace Lin
open PySem L2
end Lin
namespace Lin
open PySem L2
end Lin
end
section
namespace Lin
open PySem L2
/-! ### plain forms of the new parts -/
section
variable {E : EX} {Ec : EC} {S : Sg} {Q : D → Sg → Prop} {QF : Fl → Sg → Prop} {fa : Sg → R D} {fr : Sg → R (List D)} {f h : Sg → R Fl} {α : Type} {k c k' c' : Kd} {g : α → P} {xs : List α}
theorem ok_own {j : Nat} {ok : D → Bool} {sem : FSem} : OkE E (cOwn j ok fa sem S) Q = OkE E (fa S) fun d S1 => if isInsD j d = true then OkCE NoC (sem [d.mk kPar]) (fun r ms => if ok r = true then Q r S1 else False) else False := by
  unfold cOwn
  rw [ok_bind]
  refine ok_cg fun d S1 => ?_
  unfold ownR
  by_cases h1 : isInsD j d = true
  · rw [if_pos h1, if_pos h1]
    have e : callR [none] sem [d] S1 = match sem [d.mk kPar] with
      | .ok r ms => .ok r S1
      | .exc c r ms => .exc c r S1
      | .bad => .bad := by
      unfold callR
      rw [if_pos (by rfl)]
      have ea : argsD [none] [d] = [d.mk kPar] := rfl
      have eb : ∀ ms, backS [none] ms S1 = S1 := fun ms => by cases ms <;> rfl
      rw [ea]
      cases sem [d.mk kPar] <;> simp [eb]
    rw [e]
    cases q : sem [d.mk kPar] with
    | bad => rw [okC_def, ok_def]; rfl
    | exc c r ms => rw [okC_def, ok_def]; rfl
    | ok r ms =>
      rw [okC_of rfl]
      dsimp only
      by_cases h2 : ok r = true
      · rw [if_pos h2, if_pos h2, ok_ok]
      · rw [if_neg h2, if_neg h2, ok_bad]
  · rw [if_neg h1, if_neg h1, ok_bad]
theorem isLen_N {n : Nat} (h : n < 1000000) : isLenD (I (n : Int)) = true := by
  unfold isLenD
  rw [Bool.and_eq_true]
  exact ⟨decide_eq_true (by omega), decide_eq_true (by omega)⟩
theorem ins_pO {j : Nat} {ns : List Str} {vs : List P} : isInsD j (en k c (pO j ns vs)) = true := by
  rw [en_pO]; simp [isInsD]
theorem cutH1 : dCutH (en k c (pL g xs)) (I (-1)) = some (en .own c (pL g xs.dropLast)) := by
  rw [en_pL, en_pL]
  simp only [dCutH, cutD, List.length_map]
  congr 2
  have e1 : HT.sIx xs.length 0 none = 0 := rfl
  have e2 : HT.sIx xs.length xs.length (some (-1)) = xs.length - 1 := by
    show (if (-1 : Int) < 0 then ((-1 : Int) + (xs.length : Int)).toNat else min (-1 : Int).toNat xs.length) = _
    rw [if_pos (by decide)]; omega
  rw [e1, e2, List.drop_zero, Nat.sub_zero, List.dropLast_eq_take, List.map_take]
theorem cutHN {n : Nat} : dCutH (en k c (pL g xs)) (I (n : Int)) = some (en .own c (pL g (xs.take n))) := by
  rw [en_pL, en_pL]
  simp only [dCutH, cutD, List.length_map]
  congr 2
  have e1 : HT.sIx xs.length 0 none = 0 := rfl
  rw [HT.sIx_nat, e1, List.drop_zero, Nat.sub_zero, List.map_take]
  by_cases hn : n ≤ xs.length
  · rw [Nat.min_eq_left hn]
  · rw [Nat.min_eq_right (by omega), List.take_of_length_le (by simp), List.take_of_length_le (by simp; omega)]
/-! a try -/
def raiV (P : V → Bool) (d : D) : Option V := match d with
  | .im v => if P v = true then some v else none
  | _ => none
theorem raiV_t {v : V} : raiV (fun _ => true) (.im v) = some v := rfl
def xfD (a : Addr) (o : Option V) (dd : D) : Option D := match dd, o with | .im (.ref b), some v => if b = a then some (D.im v) else none | _, _ => none
theorem xfD_some {a : Addr} {v : V} : xfD a (some v) (.im (.ref a)) = some (.im v) := by simp [xfD]
def isXD (a : Addr) (dd : D) : Option D := match dd with | .im (.ref b) => if b = a then some (B true) else none | _ => none
theorem isXD_a {a : Addr} : isXD a (.im (.ref a)) = some (B true) := by simp [isXD]
/-! an error on the way -/
end
end Lin
end
section
set_option maxHeartbeats 4000000
namespace Lin
open PySem PySem.Spec PyProof.Rows L2
/-! ### several clauses 'except x as n', one name for all -/
abbrev TsH := Addr → Value → Option Addr → TS
inductive HdsA (X : Cx) (n : Str) : List ExceptHandler → List (Value × TsH) → Prop
  | nil : HdsA X n [] []
  | cons {x : Str} {c : Value} {ts : TsH} {b₀ : Stmt} {suite : List Stmt} {np pos' : Pos} {hds : List ExceptHandler} {l : List (Value × TsH)} (hc : Names X x c)
      (hsu : ∀ (a : Addr) (oe : Obj) (cls : Value) (d : Option Addr) (pn : List (Addr × Obj)), Zc cls d oe → (∃ vs, oe.data = .fields vs) → PSs (X.suite a ((a, oe) :: pn)) (b₀ :: suite) (ts a cls d)) (r : HdsA X n hds l) :
      HdsA X n (.ExceptHandler (some (.Name x np)) (some n) (b₀ :: suite) pos' :: hds) ((c, ts) :: l)
section
variable {X : Cx} {n : Str} {i : Nat} {body : List Stmt} {h₀ : ExceptHandler} {hds : List ExceptHandler} {l : List (Value × TsH)} {pos : Pos} {tb : WX → TS} {Wout : WX}
end
end Lin
end
section
set_option maxHeartbeats 4000000
namespace Lin
open PySem L2
abbrev Clz := (Nat → Option Bool) × (Nat → List (Str × V) → Addr → Sg → R Fl)
inductive HdsQ (X : Cx) (g : Gc) (nm : Str) (Mz : List Nat) : List ExceptHandler → List Clz → Prop
  | nil : HdsQ X g nm Mz [] []
  | cons {x : Str} {c : Nat} {mt : Nat → Option Bool} {fh : Nat → List (Str × V) → Addr → Sg → R Fl} {b₀ : Stmt} {suite : List Stmt} {np pos' : Pos} {hds : List ExceptHandler} {l : List Clz} {Mh : List Nat} (hM : ∀ r ∈ Mh, r ∈ Mz) (hc : Names X x (.ref (g.cl c)))
      (hmt : ∀ c' b, mt c' = some b → PySem.W.exmOne X.K (.ref (g.cl c')) (.ref (g.cl c)) = some b)
      (hsu : ∀ (a : Addr) (oe : Obj) (c' : Nat) (d : Option Addr) (pn : List (Addr × Obj)) (fs : List (Str × V)), mt c' = some true → Zc (.ref (g.cl c')) d oe → (∃ vs, oe.data = .fields vs) → (d = none → fs = []) → QSs (X.suite a ((a, oe) :: pn)) (gPin g d fs) W0 Mh (b₀ :: suite) (fh c' fs a))
      (r : HdsQ X g nm Mz hds l) : HdsQ X g nm Mz (.ExceptHandler (some (.Name x np)) (some nm) (b₀ :: suite) pos' :: hds) ((mt, fh) :: l)
section
variable {X : Cx} {g : Gc} {W : WX} {Mb Mz : List Nat} {x nm : Str} {c i : Nat} {body : List Stmt} {h₀ : ExceptHandler} {hds : List ExceptHandler} {pos : Pos} {fb : Sg → R Fl} {l : List Clz}
end
end Lin
end
section
namespace Lin
open PySem L2
/-! plain -/
section
variable {E : EX} {S : Sg} {QF : Fl → Sg → Prop} {f : Sg → R Fl}
end
end Lin
end
section
namespace Lin
open PySem L2
/-! ### list * int -/
end Lin
end
section
set_option maxHeartbeats 4000000
namespace Lin
open PySem PySem.Spec PyProof.Rows L2
/-! ### set(..) of a list of ints -/
section
variable {P : Program} {w : World} {A : Around} {E : Value → Shared → Prop} {s : Shared}
end
end Lin
end
section
namespace Lin
open PySem PyProof.Rows L2
/-! ### sorted(set(e)), len(set(e)), e a list of ints -/
def rSetL (K : PySem.W.Frag) (w : World) : List V → Hp → VK → Prop := fun vs H Q => ∃ (p : Addr) (ns : List Int), vs = [V.ref p] ∧ SqL K H p (ns.map V.int) ∧ ns.length < 60 ∧
  ∀ (a : Addr) (n : Nat), n ≤ ns.length → H a = none → Q (.ref a) (upd H a (SetO w a (fun j => decide (j ∈ ns)) n))
section
variable {X : Cx} {g : Gc} {W : WX} {M1 : List Nat} {e : Expr} {p p2 pos pos2 : Pos} {fr : Sg → R (List D)}
end
end Lin
end
section
namespace Lin
open PySem PyProof.Rows L2
/-! ### tuple(range(n)) -/
section
variable {g : Gc} {n : Nat} {W : WX} {Γ : Gh} {A B : List (Option T)} {σ : L2.St} {H : Hp} {M1 : List Nat}
end
section
variable {X : Cx} {g : Gc} {W : WX} {M1 : List Nat} {a : Expr} {p p1 p3 pos : Pos} {fa : Sg → R D}
end
end Lin
end
section
namespace Lin
open PySem PyProof.Rows L2
section
variable {X : Cx} {g : Gc} {W : WX} {Mz M1 M2 : List Nat} {a b : Expr} {pos : Pos} {fp : Sg → R (List Nat)} {fb : Sg → R D} {r : Nat}
theorem sdp_ix (ha : QP X g W M1 r a fp) (hb : QE X g W M2 b fb) (hs : PlainIx b := by intro _ _; rfl) (hMz : Mz = (M1 ++ M2) := by rfl) : QP X g W Mz r (.Subscript a b pos) (pIx r M2 fp fb) := by
  subst hMz
  exact qP (pe_ix (L2.ix_list.or L2.ix_tup) ha hb hs) (meanp_ix mn_P mn_E)
end
end Lin
end
section
namespace Lin
open PySem L2
/-! ### a call with owned temps by reference -/
structure Back0 (g : Gc) (H H' : Hp) (ts : List T) (t : T) (us : List T) : Prop where
  frame : ∀ a o, H a = some o → (∀ ps, o ≠ .tbl ps) → a ∉ ownsC (cellsL g ts) → H' a = some o
  hold : ∀ c ∈ t.cells g ++ cellsL g us, Hd H' c
  kind : ∀ c ∈ t.cells g ++ cellsL g us, c.1 = .own ∨ c.1 = .frz
  nd : (ownsC (t.cells g ++ cellsL g us)).Nodup
  sep : ∀ c ∈ t.cells g ++ cellsL g us, ∀ d ∈ t.cells g ++ cellsL g us, c.1 = .own → d.2.1 = c.2.1 → d.1 = .own
  own : ∀ c ∈ t.cells g ++ cellsL g us, ¬ HTup c.2.2 → c.2.1 ∈ ownsC (cellsL g ts) ∨ Nw H c.2.1 ∨ (c.1 = .frz ∧ ∃ d ∈ cellsL g ts, d.1 = .frz ∧ d.2.1 = c.2.1 ∧ ¬ HTup d.2.2)
  tab : LamX.Tabs g.T H'
theorem cellsL_sub {g : Gc} {us us' : List T} (h : us'.Sublist us) : (cellsL g us').Sublist (cellsL g us) := by
  rw [cellsL_eq, cellsL_eq]
  induction h with
  | slnil => exact List.Sublist.refl _
  | cons a _ ih => rw [List.flatMap_cons]; exact ih.trans (List.sublist_append_right _ _)
  | cons_cons a _ ih => rw [List.flatMap_cons, List.flatMap_cons]; exact List.Sublist.append (List.Sublist.refl _) ih
theorem BackOk.cut {g : Gc} {H H' : Hp} {mr : List Bool} {ts us us' : List T} {t : T} (b : BackOk g H H' mr ts t us) (h : us'.Sublist us) : Back0 g H H' ts t us' := by
  have s : (t.cells g ++ cellsL g us').Sublist (t.cells g ++ cellsL g us) := List.Sublist.append (List.Sublist.refl _) (cellsL_sub h)
  exact ⟨b.frame, fun c hc => b.hold c (s.subset hc), fun c hc => b.kind c (s.subset hc), (owns_sublist s).nodup b.nd, fun c hc d hd => b.sep c (s.subset hc) d (s.subset hd), fun c hc => b.own c (s.subset hc), b.tab⟩
abbrev Rt := Option (Option Nat)
def rjoin (rs : List Rt) : List (Option Nat) := rs.map Option.join
def rdum (rs : List Rt) : List (Option Nat) := rs.map fun o => o.map fun _ => 0
def rslots (rs : List Rt) : List Nat := (rjoin rs).filterMap id
def keepU {α : Type} : List Rt → List α → List α
  | none :: rs, us => keepU rs us
  | some none :: rs, _ :: us => keepU rs us
  | some (some _) :: rs, u :: us => u :: keepU rs us
  | _, _ => []
section
variable {g : Gc} {n : Nat} {W : WX} {Γ : Gh} {A A' A'' B : List (Option T)} {σ : L2.St} {H H' : Hp} {t : T} {M M1 M2 M3 : List Nat}
def backT (rs : List Rt) (ms : List D) (S : Sg) : Sg := setAll S (rslots rs) ((keepU rs ms).map some)
end
section
variable {X : Cx} {g : Gc} {W : WX} {M1 : List Nat} {e : Expr} {es : List Expr} {pos p : Pos} {fr : Sg → R (List D)} {rs : List Rt} {x : Str} {ps : List Str} {k : Nat} {sem : FSem}
end
section
variable {E : EX} {S : Sg} {Q : D → Sg → Prop} {fr : Sg → R (List D)}
end
end Lin
end
section
namespace Lin
open PySem L2
/-! ### plain forms: paths x[i] -/
section
variable {E : EX} {S : Sg} {Q : D → Sg → Prop} {QP : List Nat → Sg → Prop} {QF : Fl → Sg → Prop} {fb fe : Sg → R D} {fp : Sg → R (List Nat)} {fr : Sg → R (List D)} {M2 : List Nat} {r : Nat} {α : Type} {g : α → P} {xs : List α} {k c : Kd}
theorem ok_pix : OkE E (pIx r M2 fp fb S) QP = OkE E (fp S) fun p S1 => if r ∈ M2 then False else OkE E (fb S1) fun di S2 => So (nodeAt S2 r p) fun nd => So (ixPos nd di) fun j => QP (p ++ [j]) S2 := by
  unfold pIx
  rw [ok_bind]
  refine ok_cg fun p S1 => ?_
  by_cases h : r ∈ M2
  · rw [if_pos h, if_pos h, ok_bad]
  · rw [if_neg h, if_neg h, ok_bind]
    refine ok_cg fun di S2 => ?_
    cases e : nodeAt S2 r p with
    | none => dsimp only; rw [so_none, ok_bad]
    | some nd =>
      dsimp only
      rw [so_some]
      cases e2 : ixPos nd di with
      | none => dsimp only; rw [so_none, ok_bad]
      | some j => dsimp only; rw [so_some, ok_ok]
theorem ok_mutP {okS : Sh → Bool} {op : Sh → List D → List D → Option (Sh × List D × D)} : OkE E (cMutM okS r M2 fp fr op S) Q = OkE E (fp S) fun p S1 => if r ∈ M2 ∨ nodeOk okS S1 r p = false then False else OkE E (fr S1) fun us S2 =>
    if us.all (fun d => !hasBor r d) = true then So (nodeAt (S2.map (killD r)) r p) fun d => MutAt op d us fun d' res => So ((S2.map (killD r))[r]?) fun o => So o fun d0 => Q res ((S2.map (killD r)).set r (some (d0.put p d'))) else False := by
  rw [ok_mutM]
  refine ok_cg fun p S1 => ?_
  by_cases c1 : r ∈ M2 ∨ nodeOk okS S1 r p = false
  · rw [if_pos c1, if_pos c1]
  · rw [if_neg c1, if_neg c1]
    refine ok_cg fun us S2 => ?_
    by_cases c2 : us.all (fun d => !hasBor r d) = true
    · rw [if_pos c2, if_pos c2]
      refine so_cg fun d => ?_
      cases d with
      | im v => rfl
      | nd k s ds => cases k <;> rfl
    · rw [if_neg c2, if_neg c2]
end
end Lin
end
section
namespace Lin
open PySem PyProof.Rows L2
/-! ### {k: v}, k a tuple of ints and texts -/
section
variable {g : Gc} {n : Nat} {W : WX} {M1 : List Nat}
end
section
variable {X : Cx} {g : Gc} {W : WX} {M1 : List Nat} {pos : Pos} {fr : Sg → R (List D)}
end
/-! ### what is walked: a list or a tuple -/
section
variable {g : Gc} {n : Nat} {W : WX} {M1 : List Nat}
end
section
variable {X : Cx} {g : Gc} {W : WX} {M1 : List Nat} {tg a : Expr} {fa : Sg → R D}
end
section
variable {E : EX} {S : Sg} {Q : D → Sg → Prop} {fa : Sg → R D} {fr : Sg → R (List D)} {α : Type} {g : α → P} {xs : List α} {k c : Kd}
end
end Lin
end
section
namespace Lin
open PySem L2
/-! ### a temp is frozen -/
section
variable {g : Gc} {n : Nat} {W : WX} {M1 : List Nat}
end
section
variable {X : Cx} {g : Gc} {W : WX} {M1 : List Nat} {a : Expr} {fa : Sg → R D}
end
section
variable {E : EX} {S : Sg} {Q : D → Sg → Prop} {fa : Sg → R D}
end
theorem backT_nil (ms : List D) (S : Sg) : backT [] ms S = S := by
  unfold backT rslots rjoin
  cases keepU [] ms <;> rfl
theorem backT_val (rs : List Rt) (ms : List D) (S : Sg) : backT (none :: rs) ms S = backT rs ms S := by
  simp [backT, rslots, rjoin, keepU]
theorem backT_tmp (rs : List Rt) (m : D) (ms : List D) (S : Sg) : backT (some none :: rs) (m :: ms) S = backT rs ms S := by
  simp [backT, rslots, rjoin, keepU]
theorem backT_ref (rs : List Rt) (r : Nat) (m : D) (ms : List D) (S : Sg) : backT (some (some r) :: rs) (m :: ms) S = backT rs ms (S.set r (some m)) := by
  simp [backT, rslots, rjoin, keepU, setAll]
theorem rdum_nil : rdum [] = [] := rfl
theorem rdum_none (rs : List Rt) : rdum (none :: rs) = none :: rdum rs := rfl
theorem rdum_cons (o : Option Nat) (rs : List Rt) : rdum (some o :: rs) = some 0 :: rdum rs := rfl
end Lin
end
section
set_option maxHeartbeats 2000000
namespace Lin
open PySem PySem.Spec PyProof.Rows L2 LamX
/-! ### a lambda with one parameter, called by the def that got it -/
structure Lam1 (sc scope : Scope) (y : Str) : Prop where
  kind : scope.kind = .function
  co : scope.isCoroutine = false
  gen : scope.isGenerator = false
  nocell : ∀ z ∈ scope.names, z.2 ≠ .cell
  loc : ∀ z ∈ scope.names, z.2 = .local → z.1 = y
  par : scope.names.lookup y = some .local
  free : ∀ z ∈ scope.names, z.2 = .free → sc.names.lookup z.1 = some .cell ∨ sc.names.lookup z.1 = some .free
theorem Lam1.has {X : Cx} {scope : Scope} {y : Str} (L : Lam1 X.env.scope scope y) (ok : X.Ok) : ∀ z ∈ scope.names, z.2 = .free → ∃ c, X.env.cells.lookup z.1 = some c := fun z hz e =>
  (L.free z hz e).elim (fun q => ok.has _ (.inl q)) fun q => ok.has _ (.inr q)
section
variable {X : Cx} {pins : List (Addr × Obj)} {σ : L2.St} {H HZ : Hp} {s s1 : Shared} {y : Str}
end
end Lin
end
section
set_option maxHeartbeats 2000000
namespace Lin
open PySem PySem.Spec PyProof.Rows L2 LamX
/-! ### what a lambda means: the names that it sees are the maker's, handed over -/
mutual
/-- the marks of all but tuples -/
def D.knt : D → List Kd
  | .im _ => []
  | .nd _ .tup ds => kntL ds
  | .nd k .lst ds => k :: kntL ds
  | .nd k (.dic _) ds => k :: kntL ds
  | .nd k (.dtu _) ds => k :: kntL ds
  | .nd k (.obj _ _) ds => k :: kntL ds
  | .nd k (.xd _) ds => k :: kntL ds
  | .nd k .scr ds => .frz :: kntL ds
def kntL : List D → List Kd
  | [] => []
  | d :: r => d.knt ++ kntL r
end
def ownD (d : D) : Bool := d.knt.all fun k => k == .own
def cClo (i : Nat) (f : Addr) (F : D → Rc) (fa : Sg → R D) : Sg → R D := fun S => match S[i]? with
  | some (some (.im (.ref f'))) => if f' = f then (fa S).bind fun d S1 => match F d with
      | .ok r _ => .ok r S1
      | .exc c r _ => .exc c r S1
      | .bad => .bad
    else .bad
  | _ => .bad
def capS (S : Sg) : Sg := S.map (Option.map (D.mk kPar))
/-- another ghost -/
def gPh (g : Gc) (ph : Gh → Prop) : Gc := ⟨g.cl, g.scr, ph, g.T, g.sane⟩
theorem ho_ph (g : Gc) (ph : Gh → Prop) (s : Sh) (dx : Addr) (vs : List V) : ho (gPh g ph) s dx vs = ho g s dx vs := by cases s <;> rfl
mutual
theorem cells_ph (g : Gc) (ph : Gh → Prop) : ∀ t : T, t.cells (gPh g ph) = t.cells g
  | .im _ => rfl
  | .nd a k s dx ts => by rw [T.cells, T.cells, ho_ph, cellsL_ph g ph ts]
theorem cellsL_ph (g : Gc) (ph : Gh → Prop) : ∀ ts : List T, cellsL (gPh g ph) ts = cellsL g ts
  | [] => rfl
  | t :: r => by rw [cellsL, cellsL, cells_ph g ph t, cellsL_ph g ph r]
end
theorem cellAt_ph {g : Gc} {ph : Gh → Prop} {A : List (Option T)} {i : Nat} {c : Cell} : CellAt (gPh g ph) A i c ↔ CellAt g A i c := by
  unfold CellAt
  simp only [cells_ph]
theorem Rel.ph {g : Gc} {ph : Gh → Prop} {Γ : Gh} {n : Nat} {A : List (Option T)} {σ : L2.St} {H : Hp} (R : Rel (gPh g ph) Γ n A σ H) (h : g.ph Γ) : Rel g Γ n A σ H :=
  ⟨R.len, R.slen, R.val, fun i c x => R.hold i c (cellAt_ph.mpr x), fun i c r x => R.lab i c r (cellAt_ph.mpr x), fun i u e => by have := R.nd i u e; rw [cells_ph] at this; exact this, fun i j c e x y => R.sep i j c e (cellAt_ph.mpr x) (cellAt_ph.mpr y), R.frame,
    fun i c x => R.gown i c (cellAt_ph.mpr x), fun i c x => R.gfrz i c (cellAt_ph.mpr x), h, R.tab, R.lck⟩
def cloH (g : Gc) (caps : List (Option T)) (cc : Addr) (q : Str) (Γ : Gh) : Prop := (∀ t, some t ∈ caps → ∀ c ∈ t.cells g, Hd Γ.H0 c ∧ ¬ Γ.W c.2.1) ∧ Γ.H0 cc = some (CodeO cc q) ∧ ¬ Γ.W cc
def gClo (g : Gc) (caps : List (Option T)) (cc : Addr) (q : Str) : Gc := gPh g (cloH g caps cc q)
section
variable {g : Gc} {caps : List (Option T)} {cc : Addr} {q : Str} {Γ : Gh} {n nm : Nat} {A : List (Option T)} {σ σm : L2.St} {H : Hp} {t : T}
end
section
variable {g : Gc} {caps : List (Option T)} {cc : Addr} {q : Str} {n nm : Nat} {σm : L2.St} {W : WX} {M1 Mb : List Nat}
end
end Lin
end
section
set_option maxHeartbeats 2000000
namespace Lin
open PySem PySem.Spec PyProof.Rows L2 LamX
section
variable {g : Gc} {Γ : Gh} {n : Nat} {A : List (Option T)} {σ : L2.St} {H H1 : Hp} {cc : Addr} {q : Str}
/-- a code object, held fast -/
def ghCode (Γ : Gh) (cc : Addr) (q : Str) : Gh := ⟨fun b => if b = cc then some (CodeO cc q) else Γ.H0 b, fun b => Γ.W b ∧ b ≠ cc, Γ.F, Γ.L⟩
theorem Rel.codeIn (hph : ∀ Γ, g.ph Γ) (R : Rel g Γ n A σ H) (h : H cc = some (CodeO cc q)) : Rel g (ghCode Γ cc q) n A σ H := by
  have ne : ∀ {i c}, CellAt g A i c → c.2.1 ≠ cc := fun {i c} x z => by
    obtain ⟨o, h1, _, h2⟩ := (R.hold i c x).ntab (cellAt_sane x)
    rw [z, h] at h1
    exact h2 _ _ (Option.some.inj h1).symm
  refine ⟨R.len, R.slen, R.val, R.hold, R.lab, R.nd, R.sep, fun a o h1 h3 h2 => ?_, fun i c x => ?_, fun i c x k nt => ?_, hph _, R.tab, R.lck⟩
  · dsimp only [ghCode] at h1 h2
    by_cases e : a = cc
    · rw [if_pos e] at h1
      cases h1
      rw [e]; exact h
    · rw [if_neg e] at h1
      exact R.frame a o h1 h3 fun z => h2 ⟨z, e⟩
  · rcases R.gown i c x with z | z | z | z
    · exact .inl z
    · exact .inr (.inl z)
    · exact .inr (.inr (.inl ⟨z, ne x⟩))
    · refine .inr (.inr (.inr ?_))
      dsimp only [ghCode, Nw] at z ⊢
      rw [if_neg (ne x)]; exact z
  · rcases R.gfrz i c x k nt with z | z | z
    · exact .inl ⟨z, ne x⟩
    · refine .inr (.inl ?_)
      dsimp only [ghCode, Nw] at z ⊢
      rw [if_neg (ne x)]; exact z
    · exact .inr (.inr z)
end
end Lin
end
section
set_option maxHeartbeats 2000000
namespace Lin
open PySem PySem.Spec PyProof.Rows L2 LamX
/-! ### x(lambda y: body, e..): a lambda handed to a def -/
section
variable {g : Gc} {ph : Gh → Prop} {H H' : Hp} {v : V} {l us : List T} {t : T} {m : Nat}
end
section
variable {X : Cx} {g : Gc} {W : WX} {M1 Mb Mc : List Nat}
end
end Lin
end
section
set_option maxHeartbeats 2000000
namespace Lin
open PySem PySem.Spec PyProof.Rows L2 LamX
/-! ### promises do not hang on the ghost -/
section
variable {g : Gc} {pz : Gh → Prop}
theorem callOk_ph {H : Hp} {mr : List Bool} {ts : List T} : CallOk (gPh g pz) H mr ts ↔ CallOk g H mr ts := by
  constructor
  · rintro ⟨c1, c2, c3, c4, c5, c6⟩
    simp only [cells_ph, cellsL_ph] at c2 c3 c4 c5
    exact ⟨c1, c2, c3, c4, c5, c6⟩
  · rintro ⟨c1, c2, c3, c4, c5, c6⟩
    refine ⟨c1, ?_, ?_, ?_, ?_, c6⟩ <;> simp only [cells_ph, cellsL_ph] <;> assumption
theorem backOk_ph {H H' : Hp} {mr : List Bool} {ts us : List T} {t : T} : BackOk (gPh g pz) H H' mr ts t us ↔ BackOk g H H' mr ts t us := by
  constructor
  · rintro ⟨c1, c2, c3, c4, c5, c6, c7, c8⟩
    simp only [cells_ph, cellsL_ph] at c1 c2 c3 c4 c5 c6
    exact ⟨c1, c2, c3, c4, c5, c6, c7, c8⟩
  · rintro ⟨c1, c2, c3, c4, c5, c6, c7, c8⟩
    refine ⟨?_, ?_, ?_, ?_, ?_, ?_, c7, c8⟩ <;> simp only [cells_ph, cellsL_ph] <;> assumption
theorem spOf_ph {mr : List Bool} {sem : FSem} : spOf (gPh g pz) mr sem = spOf g mr sem := by
  funext vs H Q E
  unfold spOf
  simp only [callOk_ph, backOk_ph]
  rfl
section
variable {P : Program} {w : World} {K : PySem.W.Frag} {mg : Str → Option Value} {base : Heap} {k c : Nat} {x m : Str} {ps : List Str} {mr : List Bool} {sem : FSem}
theorem Df.ph (h : Df P w K mg base g x ps k mr sem) (ph : Gh → Prop) : Df P w K mg base (gPh g ph) x ps k mr sem := by
  unfold Df at h ⊢
  rw [spOf_ph (pz := ph)]; exact h
theorem Dm.ph (h : Dm P w K mg base g c m ps k mr sem) (ph : Gh → Prop) : Dm P w K mg base (gPh g ph) c m ps k mr sem := by
  unfold Dm at h ⊢
  rw [spOf_ph (pz := ph)]; exact h
theorem Dk.ph (h : Dk P w K mg base g c x ps k mr sem) (ph : Gh → Prop) : Dk P w K mg base (gPh g ph) c x ps k mr sem := by
  unfold Dk at h ⊢
  rw [spOf_ph (pz := ph)]; exact h
theorem Dl.ph (h : Dl P w K mg base g c k sem) (ph : Gh → Prop) : Dl P w K mg base (gPh g ph) c k sem := by
  unfold Dl at h ⊢
  rw [spOf_ph (pz := ph)]; exact h
theorem Dp.ph (h : Dp P w K mg base g c m k sem) (ph : Gh → Prop) : Dp P w K mg base (gPh g ph) c m k sem := by
  unfold Dp at h ⊢
  rw [spOf_ph (pz := ph)]; exact h
theorem Do.ph (h : Do P w K mg base g c ps k mr sem) (ph : Gh → Prop) : Do P w K mg base (gPh g ph) c ps k mr sem := by
  unfold Do at h ⊢
  rw [spOf_ph (pz := ph)]; exact h
theorem Dx.ph {f : Str} {Pv : V → Bool} (h : Dx P w K mg base g c x f Pv) (ph : Gh → Prop) : Dx P w K mg base (gPh g ph) c x f Pv := h
end
end
/-! ### a def that makes lambdas: its code object is known -/
section
variable {P : Program} {w : World} {K : PySem.W.Frag} {mg : Str → Option Value} {base : Heap} {g : Gc}
end
section
variable {X : Cx} {g : Gc} {W : WX} {M1 Mb : List Nat}
end
end Lin
end
section
set_option maxHeartbeats 2000000
namespace Lin
open PySem PySem.Spec PyProof.Rows L2 LamX
/-! ### default arguments -/
section
variable {g : Gc} {n : Nat} {W : WX} {M : List Nat} {Γ : Gh} {A : List (Option T)} {σ : L2.St} {H : Hp}
end
/-- a def with default arguments, the last ones left out -/
def Dd (P : Program) (w : World) (K : PySem.W.Frag) (mg : Str → Option Value) (base : Heap) (g : Gc) (x : Str) (ps : List Str) (k : Nat) (mr : List Bool) (sem : FSem) (dvs : List V) : Prop :=
  ∃ f fd ds, FnOk P w K mg base (L2.CX P w) k f fd ps (spOf g mr sem) ∧ mg x = some (.ref f) ∧ PySem.W.keepIn K (.ref f) = true ∧ Binds K fd ps ds ∧ Vals dvs ds
theorem Dd.ph {P : Program} {w : World} {K : PySem.W.Frag} {mg : Str → Option Value} {base : Heap} {g : Gc} {x : Str} {ps : List Str} {k : Nat} {mr : List Bool} {sem : FSem} {dvs : List V} (h : Dd P w K mg base g x ps k mr sem dvs) (pz : Gh → Prop) : Dd P w K mg base (gPh g pz) x ps k mr sem dvs := by
  unfold Dd at h ⊢
  rw [spOf_ph (pz := pz)]; exact h
section
variable {X : Cx} {g : Gc} {W : WX} {M1 M2 M3 M4 Mz : List Nat} {x : Str} {ps : List Str} {k : Nat} {e a b c d : Expr} {es : List Expr} {p pos p2 pos2 : Pos} {fr : Sg → R (List D)} {rs : List (Option Nat)} {sem : FSem} {dvs : List V} {fa fb fc fd : Sg → R D}
/-! ### a op b op c op d -/
end
section
variable {g : Gc} {n : Nat} {W : WX} {M1 M2 M3 M4 : List Nat}
end
section
variable {X : Cx} {g : Gc} {W : WX} {M1 M2 M3 M4 Mz : List Nat} {a b c d e : Expr} {p pos p2 pos2 : Pos} {fa fb fc fd : Sg → R D} {fr : Sg → R (List D)}
end
/-! ### len(set(e)), e a list of ints -/
section
variable {X : Cx} {g : Gc} {W : WX} {M1 : List Nat} {e : Expr} {p p2 pos pos2 : Pos} {fr : Sg → R (List D)}
end
/-! ### a def with default arguments -/
def FunD (K : PySem.W.Frag) (x qual : Str) (st : Stmt) (f : Addr) (fd : FuncData) (td : Addr) : Prop :=
  ∃ (oc : Value) (od : Option Addr) (kV doc pm : Value) (an : Option Addr) (cdv ct : Value) (osl : Array (Option Value)),
    fd = PySem.W.fnOf x qual (defArgs st) (defBody st) (defScope st) (.ref td) kV doc pm an cdv ct ∧ K.lookup f = some ⟨oc, od, .func fd, osl⟩ ∧ PySem.W.codeIn K cdv qual = true
theorem FunD.binds {K : PySem.W.Frag} {x qual : Str} {st : Stmt} {f td : Addr} {fd : FuncData} {ps : List Str} {o : Obj} {items : Array Value} {n m : Nat} {ds : List Value} (F : FunD K x qual st f fd td) (ho : K.lookup td = some o) (hs : o.data = .seq items n)
    (h : ∀ (kV doc pm : Value) (an : Option Addr) (cdv ct : Value) (us : List Value), us.length = m → ∃ k, bindArgs (PySem.W.fnOf x qual (defArgs st) (defBody st) (defScope st) (.ref td) kV doc pm an cdv ct) ⟨us, []⟩ = seqItems? (.ref td) >>= k ∧ k (some items) = pure (ps.zip (us ++ ds))) (hm : m + ds.length = ps.length := by rfl) : Binds K fd ps ds := by
  obtain ⟨oc, od, kV, doc, pm, an, cdv, ct, osl, rfl, lk, hcd⟩ := F
  intro s us KX hl
  obtain ⟨k, h1, h2⟩ := h kV doc pm an cdv ct us (by rw [List.length_append] at hl; omega)
  exact PySem.W.binds_K KX rfl ho hs h1 h2
section
variable {P : Program} {w : World} {K : PySem.W.Frag} {mg : Str → Option Value} {base : Heap} {g : Gc}
end
end Lin
end
section
namespace Lin
open PySem L2
section
variable {E : EX} {Ec : EC} {S : Sg} {Q : D → Sg → Prop} {QL : List D → Sg → Prop} {fa fb fc fd : Sg → R D} {fr : Sg → R (List D)}
theorem cap_nil : capS [] = [] := rfl
theorem cap_none (S : Sg) : capS (none :: S) = none :: capS S := rfl
theorem cap_some (d : D) (S : Sg) : capS (some d :: S) = some (d.mk kPar) :: capS S := rfl
theorem own_im (v : V) : ownD (.im v) = true := rfl
end
end Lin
end
section
set_option maxHeartbeats 2000000
namespace Lin
open PySem L2
/-! ### two temps change places -/
def sw (l i : Nat) : Nat := if i = l then l + 1 else if i = l + 1 then l else i
theorem sw_inj {l i j : Nat} (h : sw l i = sw l j) : i = j := by
  unfold sw at h
  by_cases a1 : i = l <;> by_cases a2 : i = l + 1 <;> by_cases b1 : j = l <;> by_cases b2 : j = l + 1 <;> simp only [a1, a2, b1, b2, if_true, if_false] at h <;> (try simp only [reduceIte] at h) <;> (try split at h) <;> omega
theorem sw_low {l i : Nat} (h : sw l i < l) : sw l i = i := by
  unfold sw at h ⊢
  split at h
  · omega
  · split at h
    · omega
    · rename_i h1 h2
      rw [if_neg h1, if_neg h2]
theorem sw_get {α : Type} {A : List α} {x y : α} (i : Nat) : (A ++ [y, x])[i]? = (A ++ [x, y])[sw A.length i]? := by
  unfold sw
  by_cases h1 : i = A.length
  · rw [if_pos h1, h1, List.getElem?_append_right (Nat.le_refl _), List.getElem?_append_right (by omega)]
    simp
  · by_cases h2 : i = A.length + 1
    · rw [if_neg h1, if_pos h2, h2, List.getElem?_append_right (Nat.le_refl _), List.getElem?_append_right (by omega)]
      simp
    · rw [if_neg h1, if_neg h2]
      by_cases h3 : i < A.length
      · rw [List.getElem?_append_left h3, List.getElem?_append_left h3]
      · rw [List.getElem?_eq_none (by simp; omega), List.getElem?_eq_none (by simp; omega)]
theorem Rel.swap {g : Gc} {Γ : Gh} {n : Nat} {A : List (Option T)} {x y : Option T} {σ : L2.St} {H : Hp} (R : Rel g Γ n (A ++ [x, y]) σ H) (hn : n ≤ A.length) : Rel g Γ n (A ++ [y, x]) σ H := by
  have at_ : ∀ {i : Nat} {c : Cell}, CellAt g (A ++ [y, x]) i c → CellAt g (A ++ [x, y]) (sw A.length i) c := fun {i c} ⟨t, e, h⟩ => ⟨t, by rw [← sw_get]; exact e, h⟩
  have low : ∀ {i : Nat}, i < n → sw A.length i = i := fun {i} h => by unfold sw; rw [if_neg (by omega), if_neg (by omega)]
  refine ⟨by simp; omega, R.slen, fun i t hi e => R.val i t hi (by rw [sw_get, low hi] at e; exact e), fun i c h => R.hold _ c (at_ h), fun i c r h => R.lab _ c r (at_ h), fun i t e => R.nd (sw A.length i) t (by rw [← sw_get]; exact e), fun i j c d h1 h2 k q => ?_, R.frame,
    fun i c h => R.gown _ c (at_ h), fun i c h => R.gfrz _ c (at_ h), R.pin, R.tab, R.lck⟩
  rcases R.sep _ _ c d (at_ h1) (at_ h2) k q with ⟨z1, z2⟩ | ⟨z1, z2⟩
  · exact .inl ⟨sw_inj z1, z2⟩
  · have := R.lab _ d _ (at_ h2) z2
    have e := sw_low (l := A.length) (i := i) (by omega)
    rw [e] at z2
    exact .inr ⟨fun e2 => z1 (by rw [e2]), z2⟩
section
variable {g : Gc} {n : Nat} {W : WX} {Γ : Gh} {A : List (Option T)} {σ : L2.St} {M2 M3 : List Nat}
end
end Lin
end
section
set_option maxHeartbeats 2000000
namespace Lin
open PySem L2
/-! ### comprehensions with two fors -/
section
variable {g : Gc} {n : Nat} {W : WX} {M1 : List Nat}
end
section
variable {X : Cx} {g : Gc} {W : WX} {M1 Mz : List Nat} {a tg iter tg1 iter1 : Expr} {pos : Pos} {fa : Sg → R D} {ft ft1 : Sg → R Bool}
end
end Lin
end
section
namespace Lin
open PySem L2
section
variable {E : EX} {S : Sg} {Q : D → Sg → Prop} {QL : List D → Sg → Prop} {fe : Sg → R D} {ft ft1 : Sg → R Bool} {fi fi1 : Sg → R (D × List D)} {tg tg1 : D → Sg → Option Sg}
end
end Lin
end
section
namespace Lin
open PySem L2 PyProof.Rows HT
/-! ### x in xs, deep -/
section
variable {g : Gc} {n : Nat}
/-! ### x is a truth -/
end
section
variable {X : Cx} {g : Gc} {W : WX}
end
/-! ### t[::-1] of a tuple -/
section
variable {prog : Program} {w : World} {A : Around} {E : Value → Shared → Prop} {s : Shared}
end
section
variable {X : Cx}
end
section
variable {g : Gc} {n : Nat}
end
section
variable {X : Cx} {g : Gc} {W : WX} {M1 : List Nat} {a : Expr} {fa : Sg → R D}
end
end Lin
end
section
namespace Lin
open PySem L2
/-! ### a method of a variable, whose arguments change the variable -/
section
variable {g : Gc} {n : Nat} {W : WX} {M M1 M2 : List Nat}
end
section
variable {Mz : List Nat} {X : Cx} {g : Gc} {W : WX} {M1 M2 : List Nat} {e : Expr} {pos p apos : Pos} {fr : Sg → R (List D)}
end
end Lin
end
section
namespace Lin
open PySem L2 PyProof.Rows PySem.W
/-! ### operators that an own class defines: an instance and a whole number -/
structure OpO (K : PySem.W.Frag) (C f : Addr) (op : Operator) : Prop where
  first : PySem.W.selfFirst K C = true
  at_ : PySem.W.findIn K (.ref C) (PySem.dunder op.info.2) = some (some (.ref f))
  fn : PySem.W.isFn K (.ref f) = true
  rc : PySem.W.findIn K (.ref C) (PySem.dunderR op.info.2) = some none
  ti : ∃ fo, PySem.W.findIn K (.type "int") (PySem.dunder op.info.2) = some fo
  tr : ∃ ro, PySem.W.findIn K (.type "int") (PySem.dunderR op.info.2) = some ro
  sub : PySem.W.subIn K (.type "int") (.ref C) = some false
  mro : ∃ cd, PySem.W.clsIn K C = some cd ∧ cd.mro = [.ref C, .type "object"]
  inp : PySem.W.findIn K (.ref C) (PySem.dunderI op.info.2) = some none
  ino : PySem.W.findIn K (.type "object") (PySem.dunderI op.info.2) = some none
section
variable {prog : Program} {w : World} {M : Model} {A : Around} {E : Value → Shared → Prop} {s : Shared} {K : PySem.W.Frag} {x C L f : Addr} {h₀ : Heap} {m : Str → Option Value} {ox : Obj} {od : Option Obj} {nm : String}
end
section
variable {X : Cx} {k : Nat} {f C : Addr} {fd : FuncData} {ps : List Str} {sp : Sp} {E : L2.St → XK} {x m : Str} {p pos apos pos' : Pos} {a b e : Expr} {ta tb : TE}
end
section
variable {Mz : List Nat} {X : Cx} {g : Gc} {W : WX} {M1 M2 : List Nat} {a b : Expr} {pos pos' : Pos} {fa fb : Sg → R D} {cn k : Nat} {ps : List Str} {sem : FSem} {op : Operator}
end
end Lin
end
section
namespace Lin
open PySem L2
/-! ### xs.index(y) -/
section
variable {g : Gc} {n : Nat} {W : WX} {M1 M2 : List Nat}
end
section
variable {Mz : List Nat} {X : Cx} {g : Gc} {W : WX} {M1 M2 : List Nat} {a b o e : Expr} {pos apos : Pos} {fa fb : Sg → R D}
end
/-! ### xs[::-1] -/
section
variable {g : Gc} {n : Nat}
end
section
variable {X : Cx} {g : Gc} {W : WX} {M1 : List Nat} {a : Expr} {fa : Sg → R D}
end
/-! ### a, b = x, y -/
section
variable {g : Gc} {n : Nat} {W : WX} {M1 : List Nat}
end
section
variable {Mz : List Nat} {X : Cx} {g : Gc} {W : WX} {M1 : List Nat} {a b : Expr} {pos px py pt : Pos} {fr : Sg → R (List D)}
end
section
variable {E : EX} {S : Sg} {QF : Fl → Sg → Prop} {fr : Sg → R (List D)} {zi zj : Bool} {i j : Nat}
end
/-! ### y = [.. two fors ..] -/
section
variable {X : Cx} {g : Gc} {W : WX} {M1 Mz : List Nat} {a tg iter tg1 iter1 : Expr} {py spos pos : Pos} {fa : Sg → R D} {ft ft1 : Sg → R Bool}
end
end Lin
end
section
namespace Lin
open PySem L2
/-! ### for x in r, where the body changes x: the item is taken out of r for the turn, an address stands in its place -/
section
variable {g : Gc} {n : Nat} {W : WX} {M2 : List Nat}
end
end Lin
end
section
namespace Lin
open PySem PyProof.Rows L2
/-! ### a part of a slot's tree becomes another slot's own; the part stays where it was, as one that is lent -/
section
variable {g : Gc} {Γ : Gh} {n : Nat} {A A' A'' B : List (Option T)} {σ : L2.St} {H H' : Hp} {t : T} {W : WX} {M M1 M2 : List Nat}
end
/-! ### paths: a dict's value, a field -/
section
variable {g : Gc} {Γ : Gh} {n : Nat} {A A' A'' B : List (Option T)} {σ : L2.St} {H H' : Hp} {t : T} {W : WX} {M M1 M2 : List Nat}
end
section
variable {X : Cx} {g : Gc} {W : WX} {Mz M1 M2 : List Nat} {a b e : Expr} {pos pos' : Pos} {fp : Sg → R (List Nat)} {fb : Sg → R D} {r : Nat}
end
end Lin
end
section
namespace Lin
open PySem PyProof.Rows L2
/-! ### range with a step of -1 -/
section
variable {g : Gc} {n : Nat} {W : WX} {Γ : Gh} {A A' A'' B : List (Option T)} {σ : L2.St} {H H' : Hp} {t : T} {M M1 M2 M3 : List Nat}
end
section
variable {X : Cx} {g : Gc} {W : WX} {M1 : List Nat} {tg a b c : Expr} {p pos : Pos} {fr : Sg → R (List D)}
end
section
variable {g : Gc} {n : Nat} {W : WX} {Γ : Gh} {A A' A'' B : List (Option T)} {σ : L2.St} {H H' : Hp} {t : T} {M M1 M2 M3 : List Nat}
/-! ### a key tuple -/
/-! ### a dict is locked while it is walked over -/
end
end Lin
end
section
namespace Lin
open PySem PySem.Spec PyProof.Rows L2
/-! ### a dict is walked over: it is locked meanwhile -/
section
variable {X : Cx}
end
/-! ### its meaning -/
section
variable {g : Gc} {n : Nat} {W : WX} {Γ : Gh} {A A' A'' B : List (Option T)} {σ : L2.St} {H H' : Hp} {t : T} {M M1 M2 M3 : List Nat}
end
end Lin
end
section
namespace Lin
open PySem PySem.Spec PyProof.Rows L2
section
variable {g : Gc} {n : Nat} {W : WX} {Γ : Gh} {A A' A'' B : List (Option T)} {σ : L2.St} {H H' : Hp} {t : T} {M M1 M2 M3 : List Nat}
end
section
variable {X : Cx} {g : Gc} {W : WX} {Mz M1 M2 : List Nat} {tg iter : Expr} {sts : List Stmt} {pos : Pos} {fa : Sg → R D} {f1 : Sg → R Fl}
end
end Lin
end
section
namespace Lin
open PySem PySem.Spec PyProof.Rows L2
section
variable {g : Gc} {n : Nat} {W : WX} {Γ : Gh} {A : List (Option T)} {σ : L2.St} {M1 M2 M3 : List Nat}
end
section
variable {X : Cx} {g : Gc} {W : WX} {Mz M1 M2 M3 : List Nat} {tg iter a : Expr} {pos : Pos} {fa fe : Sg → R D} {ft : Sg → R Bool}
end
end Lin
end
section
namespace Lin
open PySem L2
/-! ### plain forms: keys and fields in paths, keeping what is stolen, range(.., .., -1), loops over dicts -/
section
variable {E : EX} {S : Sg} {Q : D → Sg → Prop} {QP : List Nat → Sg → Prop} {QF : Fl → Sg → Prop} {fa fb fe : Sg → R D} {f : Sg → R Fl} {ft : Sg → R Bool} {fp : Sg → R (List Nat)} {fr : Sg → R (List D)} {M M2 : List Nat} {r x : Nat}
end
end Lin
end
section
namespace Lin
open PySem L2
/-! ### for x in r, where x changes -/
section
variable {X : Cx} {g : Gc} {W : WX} {M2 Mz : List Nat} {sts : List Stmt} {f1 : Sg → R Fl} {x y : Str} {px py pos : Pos}
end
end Lin
end
section
namespace Lin
open PySem PySem.Spec PyProof.Rows L2
/-! ### {k: v for .. in ..}, keys ints, texts or tuples of them -/
section
variable {Y : Cx}
end
/-! ### the meaning -/
section
variable {g : Gc} {n : Nat} {W : WX} {Γ : Gh} {A : List (Option T)} {σ : L2.St} {M1 M2 M3 M4 : List Nat}
def Dk0 (sh : Sh) : Prop := sh = .dic [] ∨ sh = .dtu []
theorem Dk0.x {sh : Sh} (h : Dk0 sh) : (∃ ks, sh = .dic ks) ∨ ∃ ks, sh = .dtu ks := h.imp (fun e => ⟨_, e⟩) fun e => ⟨_, e⟩
theorem Dk0.o {sh : Sh} (h : Dk0 sh) : ho g sh 0 [] = .dK [] ∨ ho g sh 0 [] = .dT [] := h.imp (fun e => by rw [e]; rfl) fun e => by rw [e]; rfl
end
section
variable {X : Cx} {g : Gc} {W : WX} {Mz M1 M2 M3 M4 : List Nat} {tg iter kx vx : Expr} {pos : Pos} {ft : Sg → R Bool} {fk fv : Sg → R D}
end
section
variable {X : Cx} {g : Gc} {W : WX} {Mz M1 M2 M3 M4 : List Nat} {tg iter kx vx : Expr} {ft : Sg → R Bool} {fk fv : Sg → R D}
end
section
variable {E : EX} {S : Sg} {Q : D → Sg → Prop} {fa fk fv : Sg → R D} {ft : Sg → R Bool} {Me xs : List Nat} {tg : D → Sg → Option Sg}
end
end Lin
end
section
namespace Lin
open PySem L2
/-! ### xs[::-1] of a list whose items nobody owns -/
section
variable {g : Gc} {n : Nat}
end
section
variable {X : Cx} {g : Gc} {W : WX} {M1 : List Nat} {a : Expr} {fa : Sg → R D}
end
/-! ### a variable handed out for good: it and what is read of it are frozen -/
section
variable {g : Gc} {n : Nat} {W : WX}
end
section
variable {X : Cx} {g : Gc} {W : WX} {pos : Pos}
end
section
variable {E : EX} {S : Sg} {Q : D → Sg → Prop}
end
end Lin
end
section
namespace Lin
open PySem L2
/-! ### a, b = (x, y), a tuple made for it: what it owns goes to the names -/
section
variable {g : Gc} {Γ : Gh} {n : Nat} {A B B' : List (Option T)} {σ : L2.St} {H : Hp}
theorem ownsC_flat (g : Gc) : ∀ ts : List T, ownsC (cellsL g ts) = ts.flatMap fun t => ownsC (t.cells g)
  | [] => rfl
  | t :: r => by rw [cellsL, ownsC_append, ownsC_flat g r, List.flatMap_cons]
def MeanGsO (g : Gc) (n : Nat) (xs : List Nat) (tg : TGs) (f : List D → Sg → Option Sg) : Prop := ∀ Γ A (ts : List T) σ H Q S', Rel g Γ n (A ++ ts.map some) σ H → n ≤ A.length → f (ts.map T.er) (ers n A) = some S' →
  (∀ A' σ' H', Rel g Γ n A' σ' H' → NextM n xs A A' → ers n A' = S' → (∀ j : Nat, j ∉ xs → σ'[j]? = σ[j]?) → Q σ' H') → tg (ts.map T.root) σ H Q
end
section
variable {X : Cx} {g : Gc} {xs ys Mz : List Nat} {es : List Expr} {pos : Pos} {f : List D → Sg → Option Sg}
structure QGsO (X : Cx) (g : Gc) (xs : List Nat) (es : List Expr) (f : List D → Sg → Option Sg) : Prop where
  ex : ∃ tg, PGs X es tg ∧ MeanGsO g X.N.length xs tg f
end
end Lin
end
section
namespace Lin
open PySem L2
/-! ### x += e, x -= e of ints -/
section
variable {g : Gc} {n : Nat} {W : WX} {M1 : List Nat}
end
section
variable {X : Cx} {g : Gc} {W : WX} {M1 Mz : List Nat} {e : Expr} {pos pos' : Pos} {fe : Sg → R D}
end
section
variable {E : EX} {S : Sg} {QF : Fl → Sg → Prop} {fe : Sg → R D}
def intD (d : D) : Option Int := match d with
  | .im (.int a) => some a
  | _ => none
theorem intD_I {z : Int} : intD (.im (.int z)) = some z := rfl
end
end Lin
end
section
set_option maxHeartbeats 2000000
namespace Lin
open PySem PySem.Spec PyProof.Rows L2 LamX
/-! ### a frame that has captured cells and cells of its own -/
structure InD (s0 : Shared) (L : Addr) (m : Str → Option Value) (cs : List (Str × Addr)) (cm : Str → Option Value) (s : Shared) : Prop where
  inn : InCall s0 L m s
  cell : ∀ z c, cs.lookup z = some c → L < c → s.heap.IsCell c (cm z)
  inj : ∀ z z' c, cs.lookup z = some c → cs.lookup z' = some c → z = z'
section
variable {M : Model} {A : Around} {E : Value → Shared → Prop} {s0 s : Shared} {m cm : Str → Option Value} {env : Env}
theorem InD.putL {z : Str} {v : Value} {Q : Unit → Shared → Prop} (x : InD s0 env.locals m env.cells cm s) (hk : env.scope.kind = .function) (hl : env.kindOf z = some .local)
    (h : ∀ s', InD s0 env.locals (fun y => if y = z then some v else m y) env.cells cm s' → Q () s') : wpAny M A (storeName env z v) Q E s := by
  refine wpAny_storeName_local hl x.inn.ns (fun h2 n2 b2 => ?_) (by rw [hk]; rfl)
  refine h _ ⟨⟨?_, n2, fun a o ea => ?_, x.inn.fresh⟩, fun k c lk hc => (x.cell k c lk hc).sameBut b2 (Nat.ne_of_gt hc), x.inj⟩
  · obtain ⟨h1, tk, e⟩ := x.inn.same
    subst e
    exact ⟨h2, _, rfl⟩
  · have hlt : a < env.locals := Nat.lt_of_lt_of_le (Heap.lt_size ea) x.inn.fresh
    exact b2.extBut a o (Nat.ne_of_lt hlt) (x.inn.keep a o ea)
theorem InD.putC {z : Str} {c : Addr} {v : Value} {Q : Unit → Shared → Prop} (x : InD s0 env.locals m env.cells cm s) (hk : env.scope.kind = .function) (hl : env.kindOf z = some .cell) (hc : env.cells.lookup z = some c) (hL : env.locals < c)
    (h : ∀ s', InD s0 env.locals m env.cells (fun y => if y = z then some v else cm y) s' → Q () s') : wpAny M A (storeName env z v) Q E s := by
  refine wpAny_storeName_cell hk hl hc (x.cell z c hc hL) fun h2 c2 b2 => ?_
  refine h _ ⟨⟨?_, x.inn.ns.sameBut b2 (Nat.ne_of_lt hL), fun a o ea => ?_, x.inn.fresh⟩, fun k d lk hd => ?_, x.inj⟩
  · obtain ⟨h1, tk, e⟩ := x.inn.same
    subst e
    exact ⟨h2, _, rfl⟩
  · have hlt : a < c := Nat.lt_trans (Nat.lt_of_lt_of_le (Heap.lt_size ea) x.inn.fresh) hL
    exact b2.extBut a o (Nat.ne_of_lt hlt) (x.inn.keep a o ea)
  · by_cases e : k = z
    · subst e
      have : d = c := by rw [hc] at lk; exact (Option.some.inj lk).symm
      subst this
      simpa using c2
    · simp only [if_neg e]
      exact (x.cell k d lk hd).sameBut b2 fun e2 => e (x.inj k z c (e2 ▸ lk) hc)
theorem InD.binds (f : Str × Value → PUnit → Sem (ForInStep PUnit)) (hf : ∀ z v u, f (z, v) u = (do storeName env z v; pure (.yield ⟨⟩))) (hk : env.scope.kind = .function) :
    ∀ (bs : List (Str × Value)) (m cm : Str → Option Value) (s : Shared) (Q : PUnit → Shared → Prop), InD s0 env.locals m env.cells cm s →
      (∀ p ∈ bs, env.kindOf p.1 = some .local ∨ (env.kindOf p.1 = some .cell ∧ ∃ c, env.cells.lookup p.1 = some c ∧ env.locals < c)) →
      (∀ s', InD s0 env.locals (bindL env.kindOf bs m) env.cells (bindC env.kindOf bs cm) s' → Q ⟨⟩ s') → wpAny M A (forIn bs ⟨⟩ f) Q E s
  | [], m, cm, s, Q, x, _, h => by
    rw [List.forIn_nil]
    exact wpAny_pure (h s x)
  | (z, v) :: r, m, cm, s, Q, x, ks, h => by
    rw [List.forIn_cons, hf]
    have kr := fun p (hp : p ∈ r) => ks p (List.mem_cons_of_mem _ hp)
    rcases ks (z, v) List.mem_cons_self with hl | ⟨hl, c, hc, hL⟩
    · have hl : env.kindOf z = some .local := hl
      refine wpAny_bind (wpAny_bind (x.putL hk hl fun s1 x1 => wpAny_pure (InD.binds f hf hk r _ _ s1 Q x1 kr fun s2 x2 => h s2 ?_)))
      rw [bindL, bindC, if_pos hl, if_pos hl]
      exact x2
    · have hl : env.kindOf z = some .cell := hl
      have hn : ¬ env.kindOf z = some .local := by rw [hl]; decide
      refine wpAny_bind (wpAny_bind (x.putC hk hl hc hL fun s1 x1 => wpAny_pure (InD.binds f hf hk r _ _ s1 Q x1 kr fun s2 x2 => h s2 ?_)))
      rw [bindL, bindC, if_neg hn, if_neg hn]
      exact x2
end
section
variable {M : Model} {A : Around} {E : Value → Shared → Prop} {s : Shared}
end
end Lin
end
section
set_option maxHeartbeats 2000000
namespace Lin
open PySem PySem.Spec PyProof.Rows L2 LamX
/-! ### the body of an inner function: one parameter, its locals, the maker's names -/
def isHid (z : Str) : Bool := z.cps.back? == some 0
/-- msc: the maker's scope; y: the parameter; zs: the locals -/
structure InSc (msc sc : Scope) (y : Str) (zs : List Str) : Prop where
  kind : sc.kind = .function
  co : sc.isCoroutine = false
  gen : sc.isGenerator = false
  par : sc.names.lookup y = some .local ∨ sc.names.lookup y = some .cell
  own : ∀ p ∈ sc.names, p.2 = .local ∨ p.2 = .cell → p.1 = y ∨ p.1 ∈ zs
  fr : ∀ p ∈ sc.names, p.2 = .free → p.1 ≠ y ∧ p.1 ∉ zs
  free : ∀ p ∈ sc.names, p.2 = .free → msc.names.lookup p.1 = some .cell ∨ msc.names.lookup p.1 = some .free
  ne : ∀ p ∈ sc.names, isHid p.1 = false
def ndB : List Str → Bool
  | [] => true
  | z :: r => !r.contains z && ndB r
section
variable {X : Cx} {pins : List (Addr × Obj)} {σ : L2.St} {H HZ : Hp} {s s1 s2 : Shared} {q y : Str} {zs : List Str} {sc : Scope}
theorem InSc.has (L : InSc X.env.scope sc y zs) (ok : X.Ok) : ∀ p ∈ sc.names, p.2 = .free → ∃ c, X.env.cells.lookup p.1 = some c := fun p hp e =>
  (L.free p hp e).elim (fun z => ok.has _ (.inl z)) fun z => ok.has _ (.inr z)
theorem InSc.back (L : InSc X.env.scope sc y zs) (ok : X.Ok) {z : Str} {c : Addr} (e : (cloFrom X.env.cells sc.names []).lookup z = some c) : X.env.cells.lookup z = some c := by
  rcases cloFrom_mem (PySem.mem_of_lookup e) with hm | ⟨k1, k2⟩
  · cases hm
  · obtain ⟨d, hd⟩ := L.has ok _ k1 rfl
    have hd : X.env.cells.lookup z = some d := hd
    have : c = d := by rw [k2, hd] <;> rfl
    rw [this]; exact hd
theorem InSc.look (L : InSc X.env.scope sc y zs) (ok : X.Ok) {z : Str} (hl : sc.names.lookup z = some .free) : ∃ c, (cloFrom X.env.cells sc.names []).lookup z = some c := by
  have hz : (z, NameKind.free) ∈ sc.names := PySem.mem_of_lookup hl
  exact mem_lookup (cloFrom_has (cells := X.env.cells) (acc := []) hz)
end
end Lin
end
section
set_option maxHeartbeats 2000000
namespace Lin
open PySem PySem.Spec PyProof.Rows L2 LamX
/-! ### an inner function, called somewhere -/
/-- f, made in X at s: called at any later state, it runs what tb says -/
def RunIn (X : Cx) (q : Str) (zs : List Str) (f cc : Addr) (σ : L2.St) (H : Hp) (s : Shared) (k : Nat) (tb : XK → TE) : Prop :=
  ∀ (A : Around) (outer : List Env) (s1 : Shared) (H1 : Hp) (E : XK) (Q : VK) (v : V) (u : Value), Room (k + 1) A → Env0 X.prog X.w X.K X.mg X.base A outer s1 H1 → Un (frs X.stack) [] H H1 s.heap s1.heap →
    s1.heap.get? f = s.heap.get? f → H1 cc = some (CodeO cc q) → L2.RelV v u → tb E (σ ++ some v :: zs.map fun _ => none) H1 Q →
    codeAny (model X.prog X.w) A (.call (.ref f) ⟨[u], []⟩) (CR (L2.CX X.prog X.w) outer X.prog X.w H1 s1 Q E) s1
section
variable {X : Cx} {pins : List (Addr × Obj)} {σ : L2.St} {H : Hp} {s : Shared} {y : Str} {zs : List Str} {sc : Scope} {f cc : Addr} {k : Nat}
end
end Lin
end
section
set_option maxHeartbeats 2000000
namespace Lin
open PySem PySem.Spec PyProof.Rows L2 LamX
/-! ### what an inner function means -/
section
variable {g : Gc} {Γ : Gh} {n : Nat} {A : List (Option T)} {σ : L2.St} {H : Hp}
end
section
variable {g : Gc} {caps : List (Option T)} {cc : Addr} {q : Str} {n nm nz : Nat} {σm : L2.St} {W : WX} {M1 Mb : List Nat} {t1 : TE} {fa : Sg → R D} {i : Nat} {f : Addr}
end
end Lin
end
section
set_option maxHeartbeats 2000000
namespace Lin
open PySem PySem.Spec PyProof.Rows L2 LamX
/-! ### C(e, f): an inner function handed to a constructor -/
section
variable {g : Gc} {H H' : Hp} {ts us : List T} {t : T} {v : V}
end
/-- in the context Z: calling the name a (slot i) is calling F -/
def CloRi (i : Nat) (Z : Cx) (g : Gc) (a : Str) (f : Addr) (F : D → Rc) : Prop := ∀ (pn : List (Addr × Obj)) (xe : Value → Shared → Prop) (W : WX) (M1 : List Nat) (e1 : Expr) (fa : Sg → R D) (p1 p2 : Pos), Takes (Z.tr pn xe) W → QE (Z.tr pn xe) g W M1 e1 fa →
  (∀ env, starEach [e1] env = (false, eval e1 env) :: starEach [] env) → QE (Z.tr pn xe) g W M1 (.Call (.Name a p1) [e1] [] p2) (cClo i f F fa)
/-- what an __init__ that is given an inner function must show of its body -/
def CalM (P : Program) (w : World) (K : PySem.W.Frag) (mg : Str → Option Value) (base : Heap) (g : Gc) (k : Nat) (qn a : Str) (i : Nat) (st : Stmt) (ga : Addr) (Ng : List Str) (Mc : List Nat) (bc : Addr → (D → Rc) → Sg → R Fl) : Prop :=
  ∀ (ph : Gh → Prop) (f : Addr) (Fm : D → Rc) (cdv : Value) (A : Around) (outer : List Env) (s : Shared) (H : Hp) (E : XK), Room k (A.deeper (envOfC qn (defScope st) s.heap.objs.size ga cdv)) →
    CxS (cxOf (L2.CX P w) P w K mg base Ng qn (defScope st) ga cdv A outer s H E) (fun cls d _ H => E cls d H) →
    CloRi i (cxOf (L2.CX P w) P w K mg base Ng qn (defScope st) ga cdv A outer s H E) (gPh g ph) a f Fm →
    QSs (cxOf (L2.CX P w) P w K mg base Ng qn (defScope st) ga cdv A outer s H E) (gPh g ph) (fun cls d _ H => E cls d H) Mc (defBody st) (bc f Fm)
/-- an inner function that is made: how it runs, what it means -/
structure InnerOk (X : Cx) (g : Gc) (q : Str) (zs : List Str) (f cc : Addr) (ob : Obj) (k : Nat) (σ : L2.St) (tb : XK → TE) (F : Sg → D → Rc) : Prop where
  run : ∀ pins H s, Inv X pins σ H s → s.heap.get? f = some ob → RunIn X q zs f cc σ H s k tb
  mean : ∀ caps : List (Option T), caps.length = X.N.length → σ.length = X.N.length → (∀ (i : Nat) (u : T), caps[i]? = some (some u) → σ[i]? = some (some u.root)) → ∀ (n i : Nat) (W : WX) (M1 : List Nat) (t1 : TE) (fa : Sg → R D), i < n → MeanE (gClo g caps cc q) n W M1 t1 fa →
    MeanE (gClo g caps cc q) n W M1 (fun σZ HZ Q => σZ[i]? = some (some (.ref f)) ∧ t1 σZ HZ fun v H1 => H1 cc = some (CodeO cc q) ∧ tb (WE W σZ) (σ ++ some v :: zs.map fun _ => none) H1 Q) (cClo i f (F (caps.map (Option.map T.er))) fa)
section
variable {X : Cx} {g : Gc} {W : WX} {M1 Mc : List Nat} {Γ : Gh} {A A2 : List (Option T)} {σ : L2.St} {H : Hp} {s : Shared} {pins : List (Addr × Obj)} {Q : VK}
end
end Lin
end
section
set_option maxHeartbeats 2000000
namespace Lin
open PySem PySem.Spec PyProof.Rows L2 LamX
section
variable {X : Cx} {g : Gc} {W : WX} {M1 Mb : List Nat} {y : Str} {zs : List Str} {sc : Scope} {f cc : Addr} {σ : L2.St} {k : Nat}
end
theorem CalM.mono {P : Program} {w : World} {K : PySem.W.Frag} {mg : Str → Option Value} {base : Heap} {g : Gc} {k k' i : Nat} {qn a : Str} {st : Stmt} {ga : Addr} {Ng : List Str} {Mc : List Nat} {bc : Addr → (D → Rc) → Sg → R Fl} (h : CalM P w K mg base g k qn a i st ga Ng Mc bc) (hk : k ≤ k') : CalM P w K mg base g k' qn a i st ga Ng Mc bc :=
  fun ph f Fm cdv A outer s H E hr => h ph f Fm cdv A outer s H E (hr.mono hk)
section
variable {X : Cx} {g : Gc} {W : WX} {M1 Mb : List Nat}
end
end Lin
end
section
set_option maxHeartbeats 2000000
namespace Lin
open PySem PySem.Spec PyProof.Rows L2 LamX
/-! ### def a(y): ..; return C(e, a) -/
section
variable {X : Cx} {pins : List (Addr × Obj)} {σ : L2.St} {H : Hp} {s : Shared}
end
section
variable {g : Gc} {Γ : Gh} {n : Nat} {A : List (Option T)} {σ : L2.St} {H : Hp}
end
section
variable {X : Cx} {g : Gc} {W : WX} {M1 Mb : List Nat}
end
end Lin
end
section
set_option maxHeartbeats 2000000
namespace Lin
open PySem PySem.Spec PyProof.Rows L2 LamX
/-! ### a def with defaults that makes inner functions -/
section
variable {P : Program} {w : World} {K : PySem.W.Frag} {mg : Str → Option Value} {base : Heap} {g : Gc}
end
end Lin
end
section
set_option maxHeartbeats 2000000
namespace Lin
open PySem PySem.Spec PyProof.Rows L2 LamX
/-! ### sorted(xs), xs a list of pairs of ints -/
section
variable {g : Gc} {n : Nat} {Γ : Gh} {A : List (Option T)} {σ : L2.St} {H : Hp}
end
end Lin
end
section
set_option maxHeartbeats 2000000
namespace Lin
open PySem PySem.Spec PyProof.Rows L2 LamX
/-! ### sorted(d), d a dict whose keys are pairs of ints -/
section
variable {X : Cx}
end
/-! ### its meaning -/
section
variable {g : Gc} {n : Nat} {Γ : Gh} {A : List (Option T)} {σ : L2.St} {H : Hp}
end
end Lin
end
section
set_option maxHeartbeats 2000000
namespace Lin
open PySem L2
/-! ### e.clear(), e an owned list that is nobody's but this expression's -/
section
variable {g : Gc} {n : Nat} {W : WX} {Γ : Gh} {A A' B : List (Option T)} {σ : L2.St} {H H' : Hp} {t : T} {M M1 : List Nat}
end
section
variable {Mz : List Nat} {X : Cx} {g : Gc} {W : WX} {M M1 : List Nat} {o : Expr} {pos p apos : Pos} {fe : Sg → R D}
end
end Lin
end
section
namespace Lin
open PySem L2
/-! ### plain rules -/
def ownLst : D → Bool
  | .nd .own .lst _ => true
  | _ => false
section
variable {E : EX} {Ec : EC} {S : Sg} {Q : D → Sg → Prop} {QF : Fl → Sg → Prop} {fa fe : Sg → R D} {fs fb : Sg → R Fl}
theorem ownLst_en {α : Type} {c : Kd} {f : α → P} {xs : List α} : ownLst (en .own c (pL f xs)) = true := by rw [en_pL]; rfl
end
end Lin
end
section
set_option maxHeartbeats 2000000
namespace L2
open PySem PySem.Spec PyProof.Rows
section
variable {X : Cx}
end
end L2
namespace Lin
open PySem L2
/-! ### i in range(n), i not in range(n) -/
section
variable {g : Gc} {n : Nat} {W : WX} {Γ : Gh} {A A' A'' B : List (Option T)} {σ : L2.St} {H H' : Hp} {t : T} {M M1 M2 : List Nat}
end
section
variable {Mz : List Nat} {X : Cx} {g : Gc} {W : WX} {M1 M2 : List Nat} {a e : Expr} {pos p pos2 : Pos} {fa : Sg → R D} {fr : Sg → R (List D)}
end
section
variable {E : EX} {S : Sg} {Q : D → Sg → Prop} {fa : Sg → R D} {fr : Sg → R (List D)}
end
end Lin
end
section
set_option maxHeartbeats 2000000
namespace Lin
open PySem L2
/-! ### x in o, x not in o, o an instance with an own __contains__ -/
def inOR (c : Nat) (neg : Bool) (sem : FSem) (da db : D) (S : Sg) : R D := if isInsD c db = true then match callR [none, none] sem [db, da] S with
    | .ok (.im (.bl b)) S2 => .ok (.im (.bl (if neg then !b else b))) S2
    | _ => .bad
  else .bad
def cInO (c : Nat) (neg : Bool) (M2 : List Nat) (fa fb : Sg → R D) (sem : FSem) : Sg → R D := fun S => (fa S).bind fun da S1 => if cleanD M2 da then (fb S1).bind fun db S2 => inOR c neg sem da db S2 else .bad
section
variable {g : Gc} {n : Nat} {W : WX} {Γ : Gh} {A A' A'' B : List (Option T)} {σ : L2.St} {H H' : Hp} {t : T} {M M1 M2 : List Nat}
theorem mean_inO {c : Nat} {neg : Bool} {sem : FSem} {ta tb : TE} {fa fb : Sg → R D} (ha : MeanE g n W M1 ta fa) (hb : MeanE g n W M2 tb fb) : MeanE g n W (M1 ++ M2) (tOp (rInO (g.cl c) (spOf g [false, false] sem) neg) ta tb) (cInO c neg M2 fa fb sem) := by
  intro Γ A σ H Q R cl h
  refine ha Γ A σ H _ R cl.left ?_
  unfold cInO at h
  cases ea : fa (ers n A) with
  | bad => rw [ea] at h; exact h.elim
  | exc c d S => rw [ea] at h; exact h
  | ok da S1 =>
    rw [ea] at h
    dsimp only [Lin.R.bind] at h
    intro A1 t1 H1 R1 x1 e1 d1
    by_cases hc : cleanD M2 da = true
    · rw [if_pos hc] at h
      have n1 : n ≤ A1.length := by rw [x1.len]; exact R.len
      refine hb Γ (A1 ++ [some t1]) σ H1 _ R1 ((cl.right.next x1.toNext R.len).snoc (by rw [d1]; exact hc)) ?_
      rw [ers_append n1, e1]
      cases eb : fb S1 with
      | bad => rw [eb] at h; exact h.elim
      | exc c d S =>
        rw [eb] at h
        intro A2 t2 H2 R2 x2 e2 d2
        obtain ⟨y, z⟩ := x2.left n1
        have n3 : n ≤ (A2.take A1.length).length := by rw [y.len]; exact n1
        refine h (A2.take A1.length) t2 H2 ?_ (x1.toNext.trans y) ?_ d2
        · rw [z, List.append_assoc] at R2
          refine R2.subst (t := t2) n3 (fun _ _ q => q) (fun c hc => .inr ⟨1, ⟨t2, by simp, hc⟩⟩) ⟨[], by simp, by simp, ?_⟩
          simp [ownsO]
        · rw [z, ers_append n3] at e2; exact e2
      | ok db S2 =>
        rw [eb] at h
        dsimp only [Lin.R.bind] at h
        intro A2 t2 H2 R2 x2 e2 d2
        obtain ⟨y, z⟩ := x2.left n1
        have n3 : n ≤ (A2.take A1.length).length := by rw [y.len]; exact n1
        rw [z] at R2 e2
        rw [ers_append n3] at e2
        unfold inOR at h
        by_cases hp : isInsD c db = true
        · rw [if_pos hp] at h
          refine ⟨ins_of R2 (by rw [d2]; exact hp), ?_⟩
          have R3 : Rel g Γ n (A2.take A1.length ++ [t2, t1].map some) σ H2 := by
            have := R2
            rw [List.append_assoc] at this
            exact Rel.swap this n3
          have key := call_core (W := W0) (rs := [none, none]) (sem := sem) (ts := [t2, t1]) (M := M1 ++ M2) (A := A) (S1 := S2) (Q := fun v H' => ∃ b, v = V.bl b ∧ Q (.bl (if neg then !b else b)) H') R3 n3 (x1.trans y) (by simp) e2 (by simp) (by simp) (fun i r hr => by
            match i, hr with
            | 0, hr => simp at hr
            | 1, hr => simp at hr
            | i + 2, hr => simp at hr) ?_
          · exact spOf_mono key (fun _ _ z => z) (fun _ _ _ z => z)
          · show PostE g n W0 (M1 ++ M2) Γ A σ _ (callR [none, none] sem [t2.er, t1.er] S2)
            rw [d2, d1]
            cases q : callR [none, none] sem [db, da] S2 with
            | bad => rw [q] at h; exact h.elim
            | exc c d S => rw [q] at h; exact h.elim
            | ok r S3 =>
              rw [q] at h
              cases r with
              | nd k s ds => exact h.elim
              | im v =>
                cases v with
                | bl b =>
                  intro A3 t3 H3 R4 x3 e3 d3
                  have q3 := er_im d3
                  subst q3
                  exact ⟨b, rfl, h A3 _ H3 (R4.imm (by rw [x3.len]; exact R.len) _) x3 e3 rfl⟩
                | _ => exact h.elim
        · rw [if_neg hp] at h; exact h.elim
    · rw [if_neg hc] at h; exact h.elim
end
/-- an own __contains__ -/
def Dct (P : Program) (w : World) (K : PySem.W.Frag) (mg : Str → Option Value) (base : Heap) (g : Gc) (c : Nat) (ps : List Str) (k : Nat) (sem : FSem) : Prop :=
  ∃ f fd, FnOk P w K mg base (L2.CX P w) k f fd ps (spOf g [false, false] sem) ∧ Spec1 K (g.cl c) "__contains__" f ∧ Binds K fd ps []
section
variable {Mz : List Nat} {X : Cx} {g : Gc} {W : WX} {M1 M2 : List Nat} {a b : Expr} {pos : Pos} {fa fb : Sg → R D} {cn k : Nat} {ps : List Str} {sem : FSem}
theorem op_rInO {f C : Addr} {fd : FuncData} {sp : Sp} (neg : Bool) (c : Spec1 X.K C "__contains__" f) (F : FnOk X.prog X.w X.K X.mg X.base (L2.CX X.prog X.w) k f fd ps sp) (hr : Room k X.A) (hb : Binds X.K fd ps []) : OpR X (compareOp (if neg then .NotIn else .In)) (rInO C sp neg) := by
  cases neg with
  | true => exact op_notInO c F hr hb
  | false => exact op_inO c F hr hb
theorem sd_inO (F : Dct X.prog X.w X.K X.mg X.base g cn ps k sem) (hr : Room k X.A) (ha : QE X g W M1 a fa) (hb : QE X g W M2 b fb) (hm : behindInMarks .In b = false := by first | exact nobehind _ (by decide) (by decide) | rfl) (hMz : Mz = (M1 ++ M2) := by rfl) : QE X g W Mz (.Compare a [.In] [b] pos) (cInO cn false M2 fa fb sem) := by
  subst hMz
  obtain ⟨f, fd, h1, h2, h3⟩ := F
  exact qE (pe_cmpR (op_rInO false h2 h1 hr h3) ha hb hm) (mean_inO mn_E mn_E)
theorem sdt_inO (F : Dct X.prog X.w X.K X.mg X.base g cn ps k sem) (hr : Room k X.A) (ha : QE X g W M1 a fa) (hb : QE X g W M2 b fb) (hm : behindInMarks .In b = false := by first | exact nobehind _ (by decide) (by decide) | rfl) (hMz : Mz = (M1 ++ M2) := by rfl) : QT X g W Mz (.Compare a [.In] [b] pos) (cTest (cInO cn false M2 fa fb sem) dBool) := by
  subst hMz
  obtain ⟨f, fd, h1, h2, h3⟩ := F
  exact qT (pt_cmpR (op_rInO false h2 h1 hr h3) ha hb hm) (mean_test (mean_inO mn_E mn_E) tsm_bool)
end
section
variable {E : EX} {S : Sg} {Q : D → Sg → Prop} {fa fb : Sg → R D}
theorem ok_inO {c : Nat} {neg : Bool} {M2 : List Nat} {sem : FSem} : OkE E (cInO c neg M2 fa fb sem S) Q = OkE E (fa S) fun da S1 => if cleanD M2 da = true then OkE E (fb S1) fun db S2 => if isInsD c db = true then OkCE NoC (sem [db.mk kPar, da.mk kPar]) fun r ms => match r with
    | .im (.bl b) => Q (.im (.bl (if neg = true then !b else b))) S2
    | _ => False else False else False := by
  unfold cInO
  rw [ok_bind]
  refine ok_cg fun da S1 => ?_
  by_cases c1 : cleanD M2 da = true
  · rw [if_pos c1, if_pos c1, ok_bind]
    refine ok_cg fun db S2 => ?_
    unfold inOR
    by_cases c2 : isInsD c db = true
    · rw [if_pos c2, if_pos c2]
      show OkE E (match callR [none, none] sem [db, da] S2 with
        | .ok (.im (.bl b)) S2 => .ok (.im (.bl (if neg then !b else b))) S2
        | _ => .bad) Q = _
      have e : callR [none, none] sem [db, da] S2 = match sem [db.mk kPar, da.mk kPar] with
        | .ok d ms => .ok d S2
        | .exc c d ms => .exc c d S2
        | .bad => .bad := by
        unfold callR
        rw [if_pos (show [db, da].length = [(none : Option Nat), none].length from rfl)]
        have hb : ∀ ms, backS [none, none] ms S2 = S2 := fun ms => by simp [backS, setAll]
        have ha : argsD [none, none] [db, da] = [db.mk kPar, da.mk kPar] := by simp [argsD]
        simp only [hb, ha]
        all_goals (cases sem [db.mk kPar, da.mk kPar] <;> rfl)
      rw [e]
      cases sem [db.mk kPar, da.mk kPar] with
      | bad => simp only [ok_def, okC_def]; rfl
      | exc c d ms => simp only [ok_def, okC_def]; rfl
      | ok d ms =>
        cases d with
        | nd k s ds => simp only [ok_def, okC_def]; rfl
        | im v => cases v <;> (simp only [ok_def, okC_def]; rfl)
    · rw [if_neg c2, if_neg c2, ok_bad]
  · rw [if_neg c1, if_neg c1, ok_bad]
end
end Lin
end
section
set_option maxHeartbeats 2000000
namespace Lin
open PySem PySem.Spec PyProof.Rows L2 LamX
/-! ### sorted(xs), xs a short list of tuples of small numbers, all of one length -/
section
variable {g : Gc} {n : Nat} {Γ : Gh} {A : List (Option T)} {σ : L2.St} {H : Hp}
end
end Lin
end
section
set_option maxHeartbeats 2000000
namespace Lin
open PySem PySem.Spec PyProof.Rows L2 LamX
/-! ### min(t), max(t), t a tuple of ints -/
section
variable {prog : Program} {w : World} {A : Around} {E : Value → Shared → Prop} {s : Shared} {l : Addr} {xs : Array (Int × Tok)} {its : List Value} {ns : List Int}
end
/-! ### its meaning -/
section
variable {g : Gc} {n : Nat}
end
end Lin
end
section
/-! dicts whose keys are tuples, compared -/
namespace Lin
open PySem L2 PySem.Spec PyProof.Rows
section
variable {pr : Program} {ww : World} {κ : Type} [DecidableEq κ] {kd : HeapKind pr ww κ} {A : Around} {E : Value → Shared → Prop} {s : Shared}
inductive HitT {κ : Type} [DecidableEq κ] (A : Around) (s : Shared) (yb : List (κ × Addr × Value)) : List (κ × Addr × Value) → Bool → Prop
  | nil : HitT A s yb [] true
  | no {x : κ × Addr × Value} {r : List (κ × Addr × Value)} : atKey yb x.1 = none → HitT A s yb (x :: r) false
  | yes {x : κ × Addr × Value} {r : List (κ × Addr × Value)} {p : Addr × Value} {e b : Bool} : atKey yb x.1 = some p → SeqAt.EqAt A s x.2.2 p.2 e → HitT A s yb r b → HitT A s yb (x :: r) (e && b)
end
/-! the operators -/
section
variable {X : Cx}
end
/-! what they mean -/
section
variable {g : Gc} {n : Nat} {W : WX}
end
section
variable {X : Cx} {g : Gc} {W : WX}
end
section
variable {E : EX} {S : Sg} {Q : D → Sg → Prop}
end
end Lin
end
section
/-! len of a dict whose keys are tuples -/
namespace Lin
open PySem L2 PySem.Spec PyProof.Rows
section
variable {g : Gc} {n : Nat}
end
end Lin
end
section
/-! slices of tuples, not whole ones -/
namespace Lin
open PySem L2
section
variable {g : Gc} {n : Nat}
end
section
variable {Mz : List Nat} {X : Cx} {g : Gc} {W : WX} {M1 M2 : List Nat} {a b : Expr} {pos p2 : Pos} {fa fb : Sg → R D}
end
end Lin
end
section
/-! xs.index(y) of lists and tuples -/
namespace Lin
open PySem L2
section
variable {g : Gc} {n : Nat} {W : WX} {M1 M2 : List Nat}
end
section
variable {Mz : List Nat} {X : Cx} {g : Gc} {W : WX} {M1 M2 : List Nat} {a b o e : Expr} {pos apos : Pos} {fa fb : Sg → R D}
end
end Lin
end
section
/-! d.get(k, x) of a dict -/
namespace Lin
open PySem PySem.Spec PySem.Calls PyProof.Rows L2
section
variable {g : Gc} {n : Nat} {W : WX}
end
section
variable {Mz : List Nat} {X : Cx} {g : Gc} {W : WX} {M1 M2 M3 : List Nat} {a b o e f : Expr} {pos apos : Pos} {fa fb fc : Sg → R D}
end
end Lin
end
section
/-! list(d.values()) -/
namespace Lin
open PySem PySem.Spec PySem.Calls PyProof.Rows L2
/-! ### its meaning: values that are no objects -/
section
variable {g : Gc} {n : Nat} {W : WX}
end
section
variable {X : Cx} {g : Gc} {W : WX} {M1 : List Nat} {o : Expr} {p pos apos cpos : Pos} {fa : Sg → R D}
end
end Lin
end
section
namespace Lin
open PySem L2
/-! ### for x in e, e a new list or tuple: what it owns passes to the names, item by item -/
section
variable {g : Gc} {Γ : Gh} {n : Nat} {A A' B : List (Option T)} {σ : L2.St} {H : Hp} {W : WX} {M M1 M2 : List Nat}
theorem Rel.split {t0 : T} {ts : List T} (R : Rel g Γ n (A ++ [some t0]) σ H) (hn : n ≤ A.length) (hs : (cellsL g ts).Sublist (t0.cells g)) : Rel g Γ n (A ++ ts.map some) σ H := by
  have up : ∀ {i : Nat} {t : T}, A.length ≤ i → (A ++ ts.map some)[i]? = some (some t) → ts[i - A.length]? = some t := fun {i t} hi e => by
    rw [List.getElem?_append_right hi, List.getElem?_map] at e
    cases q : ts[i - A.length]? with
    | none => rw [q] at e; cases e
    | some w => rw [q] at e; simpa using e
  have sub : ∀ {j : Nat} {t : T}, ts[j]? = some t → (t.cells g).Sublist (t0.cells g) := fun {j t} e => (at_sub e).trans hs
  have top : (A ++ [some t0])[A.length]? = some (some t0) := by rw [List.getElem?_append_right (Nat.le_refl _), Nat.sub_self]; rfl
  have at_ : ∀ {i : Nat} {c : Cell}, CellAt g (A ++ ts.map some) i c → CellAt g (A ++ [some t0]) (if i < A.length then i else A.length) c := fun {i c} ⟨t, e, hc⟩ => by
    by_cases q : i < A.length
    · rw [if_pos q]
      rw [List.getElem?_append_left q] at e
      exact ⟨t, by rw [List.getElem?_append_left q]; exact e, hc⟩
    · rw [if_neg q]
      exact ⟨_, top, (sub (up (by omega) e)).subset hc⟩
  refine ⟨by simp; omega, R.slen, fun i t hi e => R.val i t hi ?_, fun i c h => R.hold _ c (at_ h), fun i c r h => R.lab _ c r (at_ h), fun i t e => ?_, fun i j c d h1 h2 kk q => ?_, R.frame, fun i c h => R.gown _ c (at_ h), fun i c h => R.gfrz _ c (at_ h), R.pin, R.tab, R.lck⟩
  · rw [List.getElem?_append_left (by omega)] at e ⊢
    exact e
  · by_cases q : i < A.length
    · exact R.nd i t (by rw [List.getElem?_append_left q] at e ⊢; exact e)
    · exact (owns_sublist (sub (up (by omega) e))).nodup (R.nd _ _ top)
  · have s0 := R.sep _ _ c d (at_ h1) (at_ h2) kk q
    by_cases qi : i < A.length
    · rw [if_pos qi] at s0
      by_cases qj : j < A.length
      · rw [if_pos qj] at s0
        exact s0
      · rw [if_neg qj] at s0
        rcases s0 with ⟨z, _⟩ | ⟨_, z⟩
        · omega
        · exact .inr ⟨by omega, z⟩
    · rw [if_neg qi] at s0
      by_cases qj : j < A.length
      · rw [if_pos qj] at s0
        rcases s0 with ⟨z, _⟩ | ⟨_, z⟩
        · omega
        · have := R.lab _ d _ (at_ h2) z
          omega
      · rw [if_neg qj] at s0
        rcases s0 with ⟨_, z⟩ | ⟨z, _⟩
        · obtain ⟨t1, e1, c1⟩ := h1
          obtain ⟨t2, e2, c2⟩ := h2
          have nd1 : (ownsC (cellsL g ts)).Nodup := (owns_sublist hs).nodup (R.nd _ _ top)
          rw [ownsC_flat] at nd1
          have := nodup_flat nd1 (up (by omega) e1) (up (by omega) e2) (mem_ownsC.mpr ⟨c, c1, kk, rfl⟩) (mem_ownsC.mpr ⟨d, c2, z, q⟩)
          exact .inl ⟨by omega, z⟩
        · exact absurd rfl z
theorem cells_ims : ∀ vs : List V, cellsL g (vs.map T.im) = []
  | [] => rfl
  | v :: r => by rw [List.map_cons, cellsL, cells_ims r, T.cells, List.append_nil]
theorem roots_ims (vs : List V) : (vs.map T.im).map T.root = vs := by
  rw [List.map_map]
  exact List.map_id vs
/-- a container whose items have been taken out -/
def shell (a : Addr) (k : Kd) (s : Sh) (dx : Addr) (ts : List T) : T := .nd a k s dx ((ts.map T.root).map T.im)
theorem shell_cells (a : Addr) (k : Kd) (s : Sh) (dx : Addr) (ts : List T) : (shell a k s dx ts).cells g = [(kz s k, a, ho g s dx (ts.map T.root))] := by
  unfold shell
  rw [T.cells, cells_ims, roots_ims]
theorem Rel.open {a dx : Addr} {k : Kd} {s : Sh} {ts : List T} (R : Rel g Γ n (A ++ [some (.nd a k s dx ts)]) σ H) (hn : n ≤ A.length) : Rel g Γ n (A ++ (shell a k s dx ts :: ts).map some) σ H := by
  refine R.split hn ?_
  rw [cellsL, shell_cells, T.cells]
  exact List.Sublist.refl _
theorem Clean.app (c : Clean g n M A) (h : ∀ t, some t ∈ B → ∀ r ∈ M, ∀ c ∈ t.cells g, c.1 ≠ .bor r) : Clean g n M (A ++ B) := fun r hr i cl hi ⟨t, e, hc⟩ => by
  by_cases q : i < A.length
  · rw [List.getElem?_append_left q] at e
    exact c r hr i cl hi ⟨t, e, hc⟩
  · rw [List.getElem?_append_right (by omega)] at e
    exact h t (List.mem_of_getElem? e) r hr cl hc
end
section
variable {X : Cx} {g : Gc} {W : WX} {Mz M1 M2 : List Nat} {tg iter : Expr} {pos : Pos} {fa : Sg → R D} {f1 : Sg → R Fl} {sts : List Stmt}
end
section
variable {E : _} {S : Sg} {QF : Fl → Sg → Prop} {M : List Nat} {f : Sg → R Fl} {fa : Sg → R D}
end
end Lin
end
section
namespace Lin
open PySem PySem.Spec PyProof.Rows L2 LamX
/-! list(d), d a dict whose keys are tuples -/
section
variable {g : Gc} {n : Nat} {Γ : Gh} {A : List (Option T)} {σ : L2.St} {H : Hp}
end
/-! d.clear() of a dict -/
section
variable {g : Gc}
variable {n : Nat} {W : WX} {M1 : List Nat}
end
section
variable {Mz : List Nat} {X : Cx} {g : Gc} {W : WX} {M1 : List Nat} {o : Expr} {pos apos : Pos}
end
end Lin
end
section
namespace Lin
open PySem L2
/-! ### a, b = xs, a list -/
section
variable {g : Gc} {n : Nat} {W : WX} {Γ : Gh} {A : List (Option T)} {σ : L2.St} {H : Hp}
end
section
variable {X : Cx} {g : Gc} {es : List Expr} {pos : Pos}
end
end Lin
end
section
namespace Lin
open PySem L2
/-! ### for x in [a, b[1], ..]: x.clear(), parts of own slots that are emptied one by one -/
section
variable (g : Gc) (n : Nat) (W : WX)
/-- the values are the roots of what stands at the paths -/
def RootsAt (A : List (Option T)) (ps : List (Nat × List Nat)) (vs : List V) : Prop := ps.length = vs.length ∧ ∀ (i : Nat) e v, ps[i]? = some e → vs[i]? = some v → ∀ t u, A[e.1]? = some (some t) → t.at e.2 = some u → u.root = v
end
section
variable {g : Gc} {n : Nat} {W : WX} {Γ : Gh} {A A' : List (Option T)} {σ : L2.St} {H : Hp}
theorem RootsAt.next {ps : List (Nat × List Nat)} {vs : List V} (h : RootsAt A ps vs) (hA : ∀ (i : Nat) t, A'[i]? = some (some t) → ∀ q u, t.at q = some u → ∃ t0 u0, A[i]? = some (some t0) ∧ t0.at q = some u0 ∧ u0.root = u.root) : RootsAt A' ps vs :=
  ⟨h.1, fun i e v h1 h2 t u h3 h4 => by
    obtain ⟨t0, u0, q1, q2, q3⟩ := hA _ t h3 _ u h4
    rw [← q3]
    exact h.2 i e v h1 h2 t0 u0 q1 q2⟩
end
section
variable {X : Cx} {g : Gc} {W : WX} {Mz : List Nat}
end
section
variable {E : EX} {S : Sg} {QF : Fl → Sg → Prop}
end
end Lin
end
section
namespace Lin
open PySem L2
/-! ### for x in told[..][1:], the items of a tuple in an own slot: each is the name's for its turn, and goes back -/
section
variable {g : Gc} {Γ : Gh} {n : Nat} {A A' B : List (Option T)} {σ : L2.St} {H : Hp} {W : WX} {M M1 M2 : List Nat}
theorem Rel.splitP {t0 : T} {ts : List T} (R : Rel g Γ n (A ++ [some t0]) σ H) (hn : n ≤ A.length) (hs : ∀ c ∈ cellsL g ts, c ∈ t0.cells g) (hnd : (ownsC (cellsL g ts)).Nodup) : Rel g Γ n (A ++ ts.map some) σ H := by
  have up : ∀ {i : Nat} {t : T}, A.length ≤ i → (A ++ ts.map some)[i]? = some (some t) → ts[i - A.length]? = some t := fun {i t} hi e => by
    rw [List.getElem?_append_right hi, List.getElem?_map] at e
    cases q : ts[i - A.length]? with
    | none => rw [q] at e; cases e
    | some w => rw [q] at e; simpa using e
  have top : (A ++ [some t0])[A.length]? = some (some t0) := by rw [List.getElem?_append_right (Nat.le_refl _), Nat.sub_self]; rfl
  have at_ : ∀ {i : Nat} {c : Cell}, CellAt g (A ++ ts.map some) i c → CellAt g (A ++ [some t0]) (if i < A.length then i else A.length) c := fun {i c} ⟨t, e, hc⟩ => by
    by_cases q : i < A.length
    · rw [if_pos q]
      rw [List.getElem?_append_left q] at e
      exact ⟨t, by rw [List.getElem?_append_left q]; exact e, hc⟩
    · rw [if_neg q]
      exact ⟨_, top, hs c ((at_sub (up (by omega) e)).subset hc)⟩
  refine ⟨by simp; omega, R.slen, fun i t hi e => R.val i t hi ?_, fun i c h => R.hold _ c (at_ h), fun i c r h => R.lab _ c r (at_ h), fun i t e => ?_, fun i j c d h1 h2 kk q => ?_, R.frame, fun i c h => R.gown _ c (at_ h), fun i c h => R.gfrz _ c (at_ h), R.pin, R.tab, R.lck⟩
  · rw [List.getElem?_append_left (by omega)] at e ⊢
    exact e
  · by_cases q : i < A.length
    · exact R.nd i t (by rw [List.getElem?_append_left q] at e ⊢; exact e)
    · exact (owns_sublist (at_sub (up (by omega) e))).nodup hnd
  · have s0 := R.sep _ _ c d (at_ h1) (at_ h2) kk q
    by_cases qi : i < A.length
    · rw [if_pos qi] at s0
      by_cases qj : j < A.length
      · rw [if_pos qj] at s0
        exact s0
      · rw [if_neg qj] at s0
        rcases s0 with ⟨z, _⟩ | ⟨_, z⟩
        · omega
        · exact .inr ⟨by omega, z⟩
    · rw [if_neg qi] at s0
      by_cases qj : j < A.length
      · rw [if_pos qj] at s0
        rcases s0 with ⟨z, _⟩ | ⟨_, z⟩
        · omega
        · have := R.lab _ d _ (at_ h2) z
          omega
      · rw [if_neg qj] at s0
        rcases s0 with ⟨_, z⟩ | ⟨z, _⟩
        · obtain ⟨t1, e1, c1⟩ := h1
          obtain ⟨t2, e2, c2⟩ := h2
          have nd1 := hnd
          rw [ownsC_flat] at nd1
          have := nodup_flat nd1 (up (by omega) e1) (up (by omega) e2) (mem_ownsC.mpr ⟨c, c1, kk, rfl⟩) (mem_ownsC.mpr ⟨d, c2, z, q⟩)
          exact .inl ⟨by omega, z⟩
        · exact absurd rfl z
end
section
variable {g : Gc} {Γ : Gh} {n : Nat} {A A' B : List (Option T)} {σ : L2.St} {H : Hp} {W : WX} {M M1 M2 : List Nat}
theorem cMv_ok {x : Nat} {S1 : Sg} {d1 : D} {S2 : Sg} (h : cMv x S1 = .ok d1 S2) : S1[x]? = some (some d1) ∧ hasBor x d1 = false ∧ S2 = (S1.map (killD x)).set x none := by
  unfold cMv at h
  split at h
  · rename_i d e
    by_cases hb : hasBor x d = true
    · rw [if_pos hb] at h; cases h
    · rw [if_neg hb] at h
      cases h
      exact ⟨e, by simpa using hb, rfl⟩
  · cases h
theorem cMv_exc {x : Nat} {S1 : Sg} {c : Nat} {d1 : D} {S2 : Sg} (h : cMv x S1 = .exc c d1 S2) : False := by
  unfold cMv at h
  split at h
  · split at h <;> cases h
  · cases h
end
section
variable {X : Cx} {g : Gc} {W : WX} {Mz M1 M2 : List Nat} {e : Expr} {fp : Sg → R (List Nat)} {fb : Sg → R Fl} {sts : List Stmt} {r : Nat}
end
section
variable {E : EX} {S : Sg} {QF : Fl → Sg → Prop}
end
end Lin
end
section
namespace Lin
open PySem L2
/-! ### (x, f(x)) handed out: x is read once more behind its place, and then given up -/
section
variable {g : Gc} {n : Nat} {W : WX} {Γ : Gh} {A A' B : List (Option T)} {σ : L2.St} {H H' : Hp} {t : T} {M M2 : List Nat}
theorem cMvG_ok {x : Nat} {S1 : Sg} {d1 : D} {S2 : Sg} (h : cMv x S1 = .ok d1 S2) : S1[x]? = some (some d1) ∧ hasBor x d1 = false ∧ S2 = (S1.map (killD x)).set x none := by
  unfold cMv at h
  split at h
  · rename_i d e
    by_cases hb : hasBor x d = true
    · rw [if_pos hb] at h; cases h
    · rw [if_neg hb] at h
      cases h
      exact ⟨e, by simpa using hb, rfl⟩
  · cases h
end
section
variable {X : Cx} {g : Gc} {W : WX} {Mz M2 : List Nat} {es : List Expr} {fr : Sg → R (List D)} {pos : Pos}
end
section
variable {E : EX} {S : Sg} {Q : List D → Sg → Prop}
end
end Lin
end
section
namespace Lin
open PySem L2
/-! ### a, b, c = told; .. to the end of the block: the parts are the names' own, and go back into told where the block ends -/
def mvL : List Nat → Sg → Option (List D × Sg)
  | [], S => some ([], S)
  | i :: is, S => match cMv i S with
    | .ok d S1 => if cleanD is d = true then (mvL is S1).map fun q => (d :: q.1, q.2) else none
    | _ => none
section
variable {g : Gc} {Γ : Gh} {n : Nat} {A A' B : List (Option T)} {σ : L2.St} {H : Hp} {W : WX} {M M2 : List Nat}
theorem mv_run : ∀ (is : List Nat) (A B : List (Option T)) (S S3 : Sg) (ds : List D), Rel g Γ n (A ++ B) σ H → n ≤ A.length → ers n A = S → mvL is S = some (ds, S3) → Clean g n is (A ++ B) → (∀ i ∈ is, i < n) →
    ∃ (A' : List (Option T)) (us : List T), Rel g Γ n (A' ++ (B ++ us.map some)) σ H ∧ A'.length = A.length ∧ A'.drop n = A.drop n ∧ ers n A' = S3 ∧ us.map T.er = ds ∧ us.length = is.length ∧ ∀ (k : Nat) i u, is[k]? = some i → us[k]? = some u → σ[i]? = some (some u.root)
  | [], A, B, S, S3, ds, R, hn, he, hm, _, _ => by
    cases hm
    exact ⟨A, [], by simpa using R, rfl, rfl, he, rfl, rfl, fun k i u h => by simp at h⟩
  | i :: is, A, B, S, S3, ds, R, hn, he, hm, cl, hi => by
    rw [mvL] at hm
    cases em : cMv i S with
    | bad => rw [em] at hm; cases hm
    | exc c d S1 => rw [em] at hm; cases hm
    | ok d S1 =>
      rw [em] at hm
      dsimp only at hm
      by_cases hc : cleanD is d = true
      · rw [if_pos hc] at hm
        obtain ⟨q, hq, e⟩ := Option.map_eq_some_iff.mp hm
        cases e
        obtain ⟨m1, m2, m3⟩ := cMvG_ok em
        rw [← he] at m1
        obtain ⟨t, f1, f2, hii⟩ := ers_some m1
        have f3 : (kill n i (A ++ B))[i]? = some (some t) := by
          rw [kill_append hn, List.getElem?_append_left (by rw [kill_length]; omega)]
          unfold kill
          rw [List.getElem?_append_left (by simp; omega), List.getElem?_map, List.getElem?_take_of_lt hii, f1]
          show some (if hasBor i t.er then none else some t) = _
          rw [f2, m2]; rfl
        have R4 := (R.kill i).move hii f3 (kill_clean fun x hx => cl x (by
          have : x = i := by simpa using hx
          rw [this]; exact List.mem_cons_self))
        rw [kill_append hn, List.set_append_left _ _ (by rw [kill_length]; omega), List.append_assoc] at R4
        have n3 : n ≤ ((kill n i A).set i none).length := by rw [List.length_set, kill_length]; exact hn
        have hdr : ((kill n i A).set i none).drop n = A.drop n := by
          rw [List.drop_set_of_lt hii]
          unfold kill
          rw [List.drop_append_of_le_length (by simp; omega), List.drop_of_length_le (by simp; omega), List.nil_append]
        have cl2 : Clean g n is ((kill n i A).set i none ++ (B ++ [some t])) := by
          rw [← List.append_assoc]
          refine Clean.app ?_ fun s hs x hx c hcc => ?_
          · have c0 : Clean g n is (A ++ B) := fun x hx => cl x (List.mem_cons_of_mem _ hx)
            refine c0.next ⟨by simp [kill_length], ?_⟩ (by rw [List.length_append]; omega)
            rw [List.drop_append_of_le_length n3, List.drop_append_of_le_length hn, hdr]
          · have hst : s = t := by simpa using hs
            subst hst
            exact (cleanD_iff (g := g)).mp (by rw [f2]; exact hc) x hx c hcc
        obtain ⟨A', us, r1, r2, r3, r4, r5, r6, r7⟩ := mv_run is _ (B ++ [some t]) S1 q.2 q.1 R4 n3 (by rw [ers_set hii, ers_kill hn, he, m3]; rfl) hq cl2 (fun j hj => hi j (List.mem_cons_of_mem _ hj))
        refine ⟨A', t :: us, by simpa using r1, by rw [r2, List.length_set, kill_length], by rw [r3, hdr], r4, by rw [List.map_cons, f2, r5], by simp [r6], fun k j u h1 h2 => ?_⟩
        cases k with
        | zero =>
          have h1 : i = j := by simpa using h1
          have h2 : t = u := by simpa using h2
          subst h1; subst h2
          exact R.val i t hii (by rw [List.getElem?_append_left (by omega)]; exact f1)
        | succ k => exact r7 k j u (by simpa using h1) (by simpa using h2)
      · rw [if_neg hc] at hm; cases hm
end
section
variable {X : Cx} {g : Gc} {W : WX} {Mz M2 : List Nat} {es : List Expr} {fb : Sg → R Fl} {sts : List Stmt} {r : Nat}
end
section
variable {S : Sg} {QF : Fl → Sg → Prop} {k : Kd}
end
end Lin
end
section
/-! dict(d), d a dict whose keys are tuples of whole numbers -/
namespace Lin
open PySem PySem.Spec PyProof.Rows L2 LamX
section
variable {prog : Program} {w : World} {K : Type} [DecidableEq K] {kd : KeyKind prog w K} {A : Around} {E : Value → Shared → Prop} {s : Shared}
end
/-- the hash of a tuple of whole numbers -/
def hT (ks : List Key) : Int := reduceHash (Builtin.Tuple.tupleHashOf (ks.map fun k => match k with | .inl i => hashInt i | .inr _ => 0))
section
variable {X : Cx} {pins : List (Addr × Obj)} {σ : L2.St} {H : Hp} {s : Shared} {a : Addr} {A : Around} {E : Value → Shared → Prop} {kvs : List (List Key × V)}
end
section
variable {X : Cx}
end
/-! what it means: the values are whole numbers -/
section
variable {g : Gc} {n : Nat}
end
end Lin
end
section
/-! d.pop(k), the keys tuples, the values whole numbers: a method that looks at its arguments -/
namespace Lin
open PySem PySem.Spec PyProof.Rows L2 LamX
section
variable {g : Gc} {n : Nat} {W : WX} {M1 M2 : List Nat}
end
/-! the method -/
theorem KT.drop {H : Hp} {kvs : List (List Key × V)} {xs : List (List Key × Addr × Value)} (r : KT H kvs xs) (k : List Key) : KT H (dropK kvs k) (withoutH xs k) := by
  unfold dropK withoutH
  induction r with
  | nil => exact .nil
  | @cons p q ps qs h t ih =>
    rw [List.filter_cons, List.filter_cons]
    by_cases e : p.1 = k
    · have a : ¬ decide (p.1 ≠ k) = true := by simp [e]
      have b : ¬ decide (q.1 ≠ k) = true := by simp [h.1.symm.trans e]
      rw [if_neg a, if_neg b]; exact ih
    · have e' : ¬ q.1 = k := fun z => e (h.1.trans z)
      have a : decide (p.1 ≠ k) = true := by simp [e]
      have b : decide (q.1 ≠ k) = true := by simp [e']
      rw [if_pos a, if_pos b]; exact .cons h ih
section
variable {g : Gc}
end
section
variable {Mz : List Nat} {X : Cx} {g : Gc} {W : WX} {M1 M2 : List Nat} {o e : Expr} {pos apos : Pos} {fr : Sg → R (List D)}
end
section
variable {E : EX} {S : Sg} {Q : D → Sg → Prop} {r : Nat} {M2 : List Nat} {fr : Sg → R (List D)}
end
end Lin
end
section
/-! x is not a truth -/
namespace Lin
open PySem PySem.Spec PyProof.Rows L2
section
variable {g : Gc} {n : Nat}
end
end Lin
end
section
/-! sorted(xs, reverse=True) of ints; xs.insert(i, y) -/
namespace Lin
open PySem PySem.Spec PyProof.Rows L2
section
variable {g : Gc} {n : Nat} {W : WX}
end
section
variable {Mz : List Nat} {X : Cx} {g : Gc} {W : WX} {M1 M2 : List Nat} {a b e e2 o : Expr} {pos p apos kpos : Pos} {fa fb : Sg → R D} {fr : Sg → R (List D)}
end
/-! ### plain -/
section
variable {α : Type} {k c : Kd} {g : α → P} {xs : List α} {K2 : D → D → Prop}
end
end Lin
end
section
/-! isinstance(e, C) of an own class; for a, b in zip(e1, e2); d.get(k); (.., *e) that hands its parts on -/
namespace Lin
open PySem PySem.Spec PySem.Calls PyProof.Rows L2
/-! ### an own class asked for -/
structure IsC (K : PySem.W.Frag) (C : Addr) : Prop where
  cl : Cls K C
  ha : PySem.W.findIn K (.ref C) "__class__" = some (some (.builtin "object.__class__"))
  hn : PySem.W.specialIn K (.builtin "object.__class__") "__get__" = some (some (.builtin "getset_descriptor.__get__"))
  ht : PySem.W.takesIn K (.builtin "object.__class__") = some true
  hm : PySem.W.mroIn K C (.type "object") = some true
  no : ∀ T, T ∈ (["NoneType", "bool", "int", "str", "list", "tuple", "dict"] : List String) → PySem.W.kitOne K (.type T) (.ref C) = some false
section
variable {g : Gc} {n : Nat}
end
section
variable {X : Cx} {g : Gc} {W : WX} {M : List Nat} {e : Expr} {pos p p2 : Pos} {fa : Sg → R D} {x : Str} {cn : Nat}
end
/-! ### a tuple display whose last part is spread -/
section
variable {g : Gc} {n : Nat} {W : WX} {M1 M2 : List Nat}
end
section
variable {Mz : List Nat} {X : Cx} {g : Gc} {W : WX} {M1 M2 M3 : List Nat} {a : Expr} {es : List Expr} {p : Pos} {fa : Sg → R D} {fr : Sg → R (List D)}
end
/-! ### for a, b in zip(e1, e2) of two lists that nobody owns -/
section
variable {g : Gc} {n : Nat} {W : WX} {M1 M2 : List Nat}
end
section
variable {Mz : List Nat} {X : Cx} {g : Gc} {W : WX} {M1 M2 : List Nat} {e e2 : Expr} {elts : List Expr} {kk : Nat} {sts : List Stmt} {tpos p ipos pos : Pos} {fr : Sg → R (List D)} {f1 : Sg → R Fl}
end
/-! ### d.get(k) -/
section
variable {g : Gc} {n : Nat} {W : WX}
end
section
variable {Mz : List Nat} {X : Cx} {g : Gc} {W : WX} {M1 M2 : List Nat} {a b o e f : Expr} {pos apos : Pos} {fa fb : Sg → R D}
end
/-! ### plain -/
end Lin
end
section
set_option maxHeartbeats 4000000
/-! errors whose field holds any frozen value: raise C(e); except C as e: .. e.f .. -/
namespace Lin
open PySem PyProof.Rows L2
section
variable {g : Gc} {n : Nat} {W : WX} {Γ : Gh} {A A' B : List (Option T)} {σ : L2.St} {H H' : Hp} {t : T} {M : List Nat}
end
section
variable {X : Cx} {g : Gc} {W : WX} {M : List Nat} {e : Expr} {pos p pos' : Pos} {fa : Sg → R D} {x : Str} {c k : Nat}
end
/-! ### the caught error, its values held fast -/
/-- held cells -/
def HeldC (Γ : Gh) (c : Cell) : Prop := (c.1 = .frz ∨ c.1 = .par) ∧ Hd Γ.H0 c ∧ ¬ Γ.W c.2.1 ∧ (c.1 = .frz → Γ.F c.2.1)
def rtF (fT : List (Str × T)) : List (Str × V) := fT.map fun p => (p.1, p.2.root)
def erF (fT : List (Str × T)) : List (Str × D) := fT.map fun p => (p.1, p.2.er)
def phT (g : Gc) (d : Option Addr) (fT : List (Str × T)) (Γ : Gh) : Prop := pinH d (rtF fT) Γ ∧ ∀ p ∈ fT, ∀ c ∈ p.2.cells g, HeldC Γ c
def gPinT (g : Gc) (d : Option Addr) (fT : List (Str × T)) : Gc := gPh g (phT g d fT)
section
variable {g : Gc} {n : Nat} {W : WX} {Γ : Gh} {A A' A'' B : List (Option T)} {σ : L2.St} {H H' : Hp} {t : T} {M : List Nat} {d : Option Addr} {fT : List (Str × T)}
/-- what is held may be laid on the stack -/
theorem Rel.held (R : Rel g Γ n A σ H) (h : ∀ c ∈ t.cells g, HeldC Γ c) : Rel g Γ n (A ++ [some t]) σ H := by
  refine ⟨by rw [List.length_append]; have := R.len; omega, R.slen, fun i u hi e => ?_, fun i c x => ?_, fun i c r x => ?_, fun i u e => ?_, fun i j c e x y hc he => ?_, R.frame, fun i c x => ?_, fun i c x hf nt => ?_, R.pin, R.tab, R.lck⟩
  · rw [List.getElem?_append_left (by have := R.len; omega)] at e
    exact R.val i u hi e
  · rcases cellAt_snoc.mp x with x | ⟨rfl, x2⟩
    · exact R.hold i c x
    · obtain ⟨_, h2, h3, _⟩ := h c x2
      exact h2.extN (cells_sane g t c x2) fun o e ne => R.frame _ _ e ne h3
  · rcases cellAt_snoc.mp x with x | ⟨rfl, x2⟩
    · exact R.lab i c r x
    · intro z
      rcases (h c x2).1 with q | q <;> (rw [q] at z; cases z)
  · by_cases hi : i < A.length
    · rw [List.getElem?_append_left hi] at e
      exact R.nd i u e
    · rw [List.getElem?_append_right (by omega)] at e
      have hu : u = t := by
        cases hh : i - A.length with
        | zero => rw [hh] at e; simpa using e.symm
        | succ m => rw [hh] at e; simp at e
      subst hu
      have : ownsC (u.cells g) = [] := by
        rw [List.eq_nil_iff_forall_not_mem]
        intro a ha
        obtain ⟨c, hc, h1, _⟩ := mem_ownsC.mp ha
        rcases (h c hc).1 with q | q <;> (rw [q] at h1; cases h1)
      rw [this]
      exact List.nodup_nil
  · rcases cellAt_snoc.mp x with x | ⟨rfl, x2⟩
    · rcases cellAt_snoc.mp y with y | ⟨rfl, y2⟩
      · exact R.sep i j c e x y hc he
      · obtain ⟨_, h2, h3, _⟩ := h e y2
        exfalso
        rcases R.gown i c x with q | q | q | q
        · rw [hc] at q; cases q
        · rw [hc] at q; cases q
        · exact h3 (he ▸ q)
        · rw [← he] at q
          exact q.neD h2 (cells_sane g t e y2)
    · rcases (h c x2).1 with q | q <;> (rw [q] at hc; cases hc)
  · rcases cellAt_snoc.mp x with x | ⟨rfl, x2⟩
    · exact R.gown i c x
    · exact (h c x2).1.imp id .inl
  · rcases cellAt_snoc.mp x with x | ⟨rfl, x2⟩
    · exact R.gfrz i c x hf nt
    · exact .inr (.inr ((h c x2).2.2.2 hf))
end
end Lin
namespace Lin
open PySem PyProof.Rows L2
abbrev ClzT := (Nat → Option Bool) × (Nat → List (Str × D) → Addr → Sg → R Fl)
inductive HdsT (X : Cx) (g : Gc) (nm : Str) (Mz : List Nat) : List ExceptHandler → List ClzT → Prop
  | nil : HdsT X g nm Mz [] []
  | cons {x : Str} {c : Nat} {mt : Nat → Option Bool} {fh : Nat → List (Str × D) → Addr → Sg → R Fl} {b₀ : Stmt} {suite : List Stmt} {np pos' : Pos} {hds : List ExceptHandler} {l : List ClzT} {Mh : List Nat} (hM : ∀ r ∈ Mh, r ∈ Mz) (hc : Names X x (.ref (g.cl c)))
      (hmt : ∀ c' b, mt c' = some b → PySem.W.exmOne X.K (.ref (g.cl c')) (.ref (g.cl c)) = some b)
      (hsu : ∀ (a : Addr) (oe : Obj) (c' : Nat) (d : Option Addr) (pn : List (Addr × Obj)) (fT : List (Str × T)), mt c' = some true → Zc (.ref (g.cl c')) d oe → (∃ vs, oe.data = .fields vs) → (d = none → fT = []) → QSs (X.suite a ((a, oe) :: pn)) (gPinT g d fT) W0 Mh (b₀ :: suite) (fh c' (erF fT) a))
      (r : HdsT X g nm Mz hds l) : HdsT X g nm Mz (.ExceptHandler (some (.Name x np)) (some nm) (b₀ :: suite) pos' :: hds) ((mt, fh) :: l)
section
variable {X : Cx} {g : Gc} {W : WX} {Mb Mz : List Nat} {x nm : Str} {c i : Nat} {body : List Stmt} {h₀ : ExceptHandler} {hds : List ExceptHandler} {pos : Pos} {fb : Sg → R Fl} {l : List ClzT}
end
/-! ### in the suite: e.f -/
section
variable {X : Cx} {g : Gc} {W : WX} {M M1 : List Nat} {e : Expr} {pos p p2 : Pos} {fa : Sg → R D} {x : Str} {c : Nat} {a : Addr} {oe : Obj} {pn : List (Addr × Obj)} {d : Option Addr} {fT : List (Str × T)}
end
/-! ### plain -/
section
variable {E : EX} {S : Sg} {Q : D → Sg → Prop} {QF : Fl → Sg → Prop} {f : Sg → R Fl} {fa : Sg → R D}
end
end Lin
end
section
set_option maxHeartbeats 2000000
namespace Lin
open PySem PySem.Spec PyProof.Rows L2 LamX
/-! ### sorted: a list of tuples of ints, a dict whose keys are such tuples; any number of them -/
/-! the kit's comparison -/
section
variable {prog : Program} {w : World} {A : Around} {s : Shared}
end
/-! as rules of the layer -/
section
variable {X : Cx}
end
/-! ### meaning, lists -/
section
variable {g : Gc} {n : Nat} {Γ : Gh} {A : List (Option T)} {σ : L2.St} {H : Hp}
end
/-! ### dicts -/
section
variable {X : Cx}
end
/-! ### its meaning -/
section
variable {g : Gc} {n : Nat} {Γ : Gh} {A : List (Option T)} {σ : L2.St} {H : Hp}
end
end Lin
end
section
set_option maxHeartbeats 4000000
/-! lambdas whose errors hold frozen values: what is frozen comes back as a caller's -/
namespace Lin
open PySem PySem.Spec PyProof.Rows L2 LamX
def nsc : Sh → Bool
  | .scr => false
  | _ => true
mutual
def noScr : D → Bool
  | .im _ => true
  | .nd _ s ds => nsc s && noScrL ds
def noScrL : List D → Bool
  | [] => true
  | d :: r => noScr d && noScrL r
end
def okX (d : D) : Bool := ofD d && noScr d
section
variable {g : Gc} {caps : List (Option T)} {cc : Addr} {q : Str} {Γ : Gh} {n nm : Nat} {A : List (Option T)} {σ σm : L2.St} {H : Hp} {t : T}
end
section
variable {g : Gc} {caps : List (Option T)} {cc : Addr} {q : Str} {n nm : Nat} {σm : L2.St} {W : WX} {M1 Mb : List Nat}
end
section
variable {X : Cx} {g : Gc} {W : WX} {M1 Mb Mc : List Nat}
end
section
variable {X : Cx} {g : Gc} {W : WX} {M1 Mb : List Nat}
end
section
variable {E : EX} {S : Sg} {Q : D → Sg → Prop} {fb : Sg → R D} {fr : Sg → R (List D)}
end
end Lin
end
section
namespace Lin
open PySem PySem.Spec PyProof.Rows L2
/-! ### {k: v, l: w}, k and l tuples of ints and texts -/
section
variable {g : Gc} {n : Nat} {W : WX} {M1 : List Nat}
end
section
variable {X : Cx} {g : Gc} {W : WX} {M1 : List Nat} {pos : Pos} {fr : Sg → R (List D)}
end
section
variable {α : Type} {E : EX} {fr : Sg → R (List D)} {S : Sg} {Q : D → Sg → Prop}
end
end Lin
end
section
/-! d.update(e), the keys tuples of both, the values without parts; e a dict that nobody else holds -/
namespace Lin
open PySem PySem.Spec PyProof.Rows L2 LamX
def updK (kvs ms : List (List Key × V)) : List (List Key × V) := ms.foldl (fun acc p => putK acc p.1 p.2) kvs
theorem KT.upd {H : Hp} {ms : List (List Key × V)} {ys : List (List Key × Addr × Value)} (t : KT H ms ys) : ∀ {kvs : List (List Key × V)} {xs : List (List Key × Addr × Value)}, KT H kvs xs → KT H (updK kvs ms) (storedAllH xs ys) := by
  induction t with
  | nil => intro kvs xs r; exact r
  | @cons p q ps qs h t ih =>
    intro kvs xs r
    show KT H (updK (putK kvs p.1 p.2) ps) (storedAllH (storedH xs q.1 q.2.1 q.2.2) qs)
    rw [← h.1]
    exact ih (r.put p.1 h.2.1 h.2.2)
section
variable {g : Gc} {n : Nat} {W : WX} {M1 M2 : List Nat}
end
/-! what it means -/
section
variable {g : Gc}
end
section
variable {Mz : List Nat} {X : Cx} {g : Gc} {W : WX} {M1 M2 : List Nat} {o e : Expr} {pos apos : Pos} {fr : Sg → R (List D)}
end
end Lin
end
section
/-! [e for k in d if ..], d an own dict of values without parts: it is away while they run, and stands in its slot again behind it -/
namespace Lin
open PySem PySem.Spec PyProof.Rows L2 LamX
section
variable {g : Gc} {n : Nat} {W : WX} {Γ : Gh} {A A' B : List (Option T)} {σ σ0 : L2.St} {H H0 : Hp}
end
section
variable {X : Cx} {g : Gc} {W : WX} {Mz : List Nat} {tg a : Expr} {pos : Pos} {fe : Sg → R D} {ft : Sg → R Bool}
end
section
variable {E : EX} {fe : Sg → R D} {ft : Sg → R Bool} {S : Sg} {Q : D → Sg → Prop}
end
end Lin
end
section
/-! x.m(..) and x[i] = v with the receiver x, a slot, by reference; x[i] of an instance -/
namespace Lin
open PySem L2
section
variable {g : Gc} {n : Nat} {W : WX} {Γ : Gh} {A : List (Option T)} {σ : L2.St} {H : Hp} {M2 : List Nat}
end
/-! ### in the text -/
section
variable {X : Cx} {k : Nat} {f C : Addr} {fd : FuncData} {ps : List Str} {sp : Sp} {E : L2.St → XK} {x m : Str} {p pos apos pos' : Pos} {e o i v : Expr} {es : List Expr} {ta tb tv : TE} {t : TA}
/-- x[i], x an instance -/
structure SpecG (K : PySem.W.Frag) (C : Addr) (m : Str) (f : Addr) : Prop where
  at_ : PySem.W.findIn K (.ref C) m = some (some (.ref f))
  fn : PySem.W.isFn K (.ref f) = true
  fi : PySem.W.fnIn K f = true
/-- x[i] = v, x an instance -/
structure SpecS (K : PySem.W.Frag) (C : Addr) (f : Addr) : Prop where
  at_ : PySem.W.findIn K (.ref C) "__setitem__" = some (some (.ref f))
  fn : PySem.W.isFn K (.ref f) = true
  seq : PySem.W.noSeq K C = true
end
/-! ### the permuted call -/
/-! ### what gen prints -/
section
variable {Mz : List Nat} {X : Cx} {g : Gc} {W : WX} {M1 M2 M3 : List Nat} {a b c e o i v : Expr} {es : List Expr} {pos apos pos' p : Pos} {fa fb fv : Sg → R D} {fr : Sg → R (List D)} {rs : List (Option Nat)} {y m : Str} {ps : List Str} {k : Nat} {sem : FSem} {cn : Nat}
end
/-! ### plain rules -/
section
variable {E : EX} {S : Sg} {QL : List D → Sg → Prop} {fr : Sg → R (List D)}
end
end Lin
end
section
/-! dicts whose keys are ints or texts, the values without parts: d.pop(k, x), d.clear(), d.update(e), dict(d) -/
namespace Lin
open PySem PySem.Spec PyProof.Rows L2 LamX
/-! pop -/
section
variable {g : Gc}
/-! clear -/
end
/-! update -/
section
variable {g : Gc}
end
section
variable {Mz : List Nat} {X : Cx} {g : Gc} {W : WX} {M1 M2 : List Nat} {o e e2 : Expr} {pos apos : Pos} {fr : Sg → R (List D)}
end
/-! dict(d) -/
section
variable {g : Gc} {n : Nat}
end
end Lin
end
section
/-! {**d, k: v}, the keys ints or texts: the library's level -/
namespace PySem
open Sem (wp)
section
variable {prog : Program} {w : World} {K : Type} [DecidableEq K] {knd : KeyKind prog w K} {A : Around} {E : Value → Shared → Prop} {s : Shared}
end
end PySem
namespace Lin
open PySem PySem.Spec PyProof.Rows L2 LamX
end Lin
end
section
/-! {**d, k: v}: what it means -/
namespace Lin
open PySem PySem.Spec PyProof.Rows L2 LamX
section
variable {g : Gc} {n : Nat} {W : WX} {M1 M2 : List Nat}
end
section
variable {Mz : List Nat} {X : Cx} {g : Gc} {W : WX} {M1 M2 : List Nat} {de ke ve : Expr} {pos : Pos} {fa : Sg → R D} {fr : Sg → R (List D)}
end
section
variable {E : EX} {S : Sg} {Q : D → Sg → Prop} {fa : Sg → R D} {fr : Sg → R (List D)}
end
end Lin
end
section
/-! x = path; block: a part of an own slot is x's own for a block, and goes back where it stood; f(b, r) as a path, f hands out an item of r -/
namespace Lin
open PySem L2
theorem at_put : ∀ (p : List Nat) (t u m : T), t.at p = some u → (t.put p m).at p = some m
  | [], t, u, m, h => by cases t <;> rfl
  | i :: p, .im _, u, m, h => by simp [T.at] at h
  | i :: p, .nd a k s dx ts, u, m, h => by
    simp only [T.at] at h
    cases e : ts[i]? with
    | none => rw [e] at h; cases h
    | some v =>
      rw [e] at h
      have hi := (List.getElem?_eq_some_iff.mp e).1
      simp only [T.put, e, T.at]
      rw [List.getElem?_set_self hi]
      exact at_put p v u m h
theorem put_put : ∀ (p : List Nat) (t u m m' : T), t.at p = some u → (t.put p m).put p m' = t.put p m'
  | [], t, u, m, m', h => by cases t <;> cases m <;> rfl
  | i :: p, .im _, u, m, m', h => by simp [T.at] at h
  | i :: p, .nd a k s dx ts, u, m, m', h => by
    simp only [T.at] at h
    cases e : ts[i]? with
    | none => rw [e] at h; cases h
    | some v =>
      rw [e] at h
      have hi := (List.getElem?_eq_some_iff.mp e).1
      simp only [T.put, e]
      rw [List.getElem?_set_self hi]
      dsimp only
      rw [put_put p v u m m' h, List.set_set]
section
variable {g : Gc} {Γ : Gh} {n : Nat} {A A' B : List (Option T)} {σ : L2.St} {H : Hp} {W : WX} {M M1 M2 : List Nat}
theorem ownsP {x y : List Cell} (h : x.Perm y) : (ownsC x).Perm (ownsC y) := h.filterMap _
/-- temps put together as one -/
theorem Rel.joinP {t0 : T} {ts : List T} (R : Rel g Γ n (A ++ ts.map some) σ H) (hn : n ≤ A.length) (hs : ∀ c ∈ t0.cells g, c ∈ cellsL g ts) (hnd : (ownsC (t0.cells g)).Nodup) : Rel g Γ n (A ++ [some t0]) σ H := by
  have at_ : ∀ {i : Nat} {c : Cell}, CellAt g (A ++ [some t0]) i c → ∃ j, CellAt g (A ++ ts.map some) j c ∧ ((i < A.length ∧ j = i) ∨ (i = A.length ∧ A.length ≤ j)) := fun {i c} h => by
    rcases cellAt_snoc.mp h with h | ⟨e, h⟩
    · exact ⟨i, cellAt_left h, .inl ⟨h.lt, rfl⟩⟩
    · obtain ⟨j, hj⟩ := cellAt_map.mpr (hs c h)
      exact ⟨A.length + j, cellAt_append.mpr (.inr ⟨by omega, by rw [Nat.add_sub_cancel_left]; exact hj⟩), .inr ⟨by simpa using e, by omega⟩⟩
  refine ⟨by simp; omega, R.slen, fun i t hi e => R.val i t hi ?_, fun i c h => ?_, fun i c r h q => ?_, fun i t e => ?_, fun i j c d h1 h2 kk q => ?_, R.frame, fun i c h => ?_, fun i c h q => ?_, R.pin, R.tab, R.lck⟩
  · rw [List.getElem?_append_left (by omega)] at e ⊢
    exact e
  · obtain ⟨j, h, _⟩ := at_ h
    exact R.hold j c h
  · obtain ⟨j, h, _⟩ := at_ h
    exact R.lab j c r h q
  · by_cases hi : i < A.length
    · exact R.nd i t (by rw [List.getElem?_append_left hi] at e ⊢; exact e)
    · rw [List.getElem?_append_right (by omega)] at e
      cases hh : i - A.length with
      | zero => rw [hh] at e; have : t0 = t := by simpa using e
                subst this; exact hnd
      | succ m => rw [hh] at e; simp at e
  · obtain ⟨i', h1', c1⟩ := at_ h1
    obtain ⟨j', h2', c2⟩ := at_ h2
    have lb : ∀ {q : Nat}, d.1 = .bor q → q < n := fun z => R.lab j' d _ h2' z
    rcases R.sep i' j' c d h1' h2' kk q with ⟨e, z⟩ | ⟨e, z⟩
    · exact .inl ⟨by omega, z⟩
    · have := lb z
      rcases c1 with ⟨c1, rfl⟩ | ⟨c1, c1'⟩
      · exact .inr ⟨by omega, z⟩
      · omega
  · obtain ⟨j, h, _⟩ := at_ h
    exact R.gown j c h
  · obtain ⟨j, h, _⟩ := at_ h
    exact R.gfrz j c h q
theorem put_im {t u : T} {p : List Nat} (h : t.at p = some u) (m : T) (hm : m.root = u.root) : ∃ pre post, (t.put p (.im u.root)).cells g = pre ++ post ∧ (t.put p m).cells g = pre ++ m.cells g ++ post := by
  obtain ⟨pre, post, h1, h2⟩ := cells_put g p (t.put p (.im u.root)) m (.im u.root) (at_put p t u _ h) hm
  rw [put_put p t u _ _ h] at h2
  exact ⟨pre, post, by rw [h1, T.cells, List.append_nil], h2⟩
theorem pairC (a b : T) : cellsL g [a, b] = a.cells g ++ b.cells g := by simp [cellsL]
/-- a part taken out -/
theorem Rel.openP {t u : T} {p : List Nat} (R : Rel g Γ n (A ++ [some t]) σ H) (hn : n ≤ A.length) (hp : t.at p = some u) : Rel g Γ n (A ++ [some (t.put p (.im u.root))] ++ [some u]) σ H := by
  obtain ⟨pre, post, h1, h2⟩ := put_im (g := g) hp u rfl
  have ht : t.put p u = t := by
    clear h1 h2 R
    induction p generalizing t with
    | nil => have : t = u := by simpa [T.at] using hp
             subst this; cases t <;> rfl
    | cons i p ih =>
      cases t with
      | im v => simp [T.at] at hp
      | nd a k s dx ts =>
        simp only [T.at] at hp
        cases e : ts[i]? with
        | none => rw [e] at hp; cases hp
        | some v =>
          rw [e] at hp
          simp only [T.put, e]
          rw [ih hp]
          congr 1
          have hi := (List.getElem?_eq_some_iff.mp e).1
          rw [← (List.getElem?_eq_some_iff.mp e).2]
          exact List.set_getElem_self hi
  rw [ht] at h2
  have := R.splitP (ts := [t.put p (.im u.root), u]) hn (fun c hc => by
    rw [pairC, h1] at hc
    rw [h2]
    simp only [List.mem_append] at hc ⊢
    rcases hc with (hc | hc) | hc
    · exact .inl (.inl hc)
    · exact .inr hc
    · exact .inl (.inr hc)) (by
    have nd := R.nd A.length t (by simp)
    rw [h2] at nd
    rw [pairC, h1]
    refine (ownsP ?_).nodup_iff.mp nd
    rw [List.append_assoc, List.append_assoc]
    exact List.Perm.append_left _ List.perm_append_comm)
  simpa using this
/-- put back -/
theorem Rel.closeP {t u m : T} {p : List Nat} (R : Rel g Γ n (A ++ [some (t.put p (.im u.root))] ++ [some m]) σ H) (hn : n ≤ A.length) (hp : t.at p = some u) (hm : m.root = u.root) : Rel g Γ n (A ++ [some (t.put p m)]) σ H := by
  obtain ⟨pre, post, h1, h2⟩ := put_im (g := g) hp m hm
  have R' : Rel g Γ n (A ++ [t.put p (.im u.root), m].map some) σ H := by simpa using R
  refine R'.joinP hn (fun c hc => ?_) ?_
  · rw [h2] at hc
    rw [pairC, h1]
    simp only [List.mem_append] at hc ⊢
    rcases hc with (hc | hc) | hc
    · exact .inl (.inl hc)
    · exact .inr hc
    · exact .inl (.inr hc)
  · have nd := R'.ndB hn
    rw [flat_owns, pairC, h1] at nd
    rw [h2]
    refine (ownsP ?_).nodup_iff.mp nd
    rw [List.append_assoc, List.append_assoc]
    exact List.Perm.append_left _ List.perm_append_comm
end
section
variable {g : Gc} {Γ : Gh} {n : Nat} {A A' B : List (Option T)} {σ : L2.St} {H : Hp}
/-- a part of a loan -/
theorem Rel.loanP {t t0 : T} {r : Nat} {p : List Nat} (R : Rel g Γ n (A ++ [some (t.mk (kBo r))]) σ H) (hn : n ≤ A.length) (hp : t.at p = some t0) : Rel g Γ n (A ++ [some (t0.mk (kBo r))]) σ H := by
  obtain ⟨pre, post, h1⟩ := cells_at (g := g) hp
  refine Rel.joinP (ts := [t.mk (kBo r)]) (by simpa using R) hn (fun c hc => ?_) ?_
  · rw [cells_mk g _ (by rfl)] at hc
    show c ∈ (t.mk (kBo r)).cells g ++ []
    rw [List.append_nil, cells_mk g _ (by rfl), h1, List.map_append, List.map_append]
    exact List.mem_append_left _ (List.mem_append_right _ hc)
  · rw [owns_none fun c hc => kBo_ne hc]
    exact List.nodup_nil
end
def closeP (r x : Nat) (p : List Nat) (d : D) : R Fl → R Fl
  | .ok .nx S => match mvL [x] S with
    | some ([u], S1) => .ok .nx ((S1.set r (some (d.put p u))).set x (some (u.mk (kBo r))))
    | _ => .bad
  | .ok (.ret e) S => if cleanD [x] e = true then (match mvL [x] S with
    | some ([u], S1) => .ok (.ret e) (S1.set r (some (d.put p u)))
    | _ => .bad) else .bad
  | _ => .bad
def cOpenP (r x : Nat) (Mb : List Nat) (fp : Sg → R (List Nat)) (fb : Sg → R Fl) : Sg → R Fl := fun S => (fp S).bind fun p S1 => match (S1.map (killD r))[r]? with
  | some (some d) => match d.at p with
    | some u => if cleanD (x :: Mb) d = true then closeP r x p d (fb (((S1.map (killD r)).set r none).set x (some u))) else .bad
    | none => .bad
  | _ => .bad
section
variable {g : Gc} {Γ : Gh} {n : Nat} {A A' B : List (Option T)} {σ : L2.St} {H : Hp} {W : WX} {M M1 M2 : List Nat}
theorem mean_openP {r x : Nat} {tp : TE} {tb : TS} {fp : Sg → R (List Nat)} {fb : Sg → R Fl} (hr : r < n) (hx : x < n) (hrx : x ≠ r) (hM1 : n + r ∉ M2) (hM2 : n + x ∉ M2) (hp : MeanP g n W r M1 tp fp) (hb : MeanS g n W M2 tb fb) :
    MeanS g n W (M1 ++ [r] ++ [x] ++ [n + x] ++ M2) (tSeq (tAsg tp (gName x)) tb) (cOpenP r x M2 fp fb) := by
  intro Γ A σ H Dn Rr cl h
  have clM1 : Clean g n M1 A := cl.left.left.left.left
  show tAsg tp (gName x) { Dn with nx := tb Dn } σ H
  refine hp Γ A σ H _ Rr clM1 ?_
  unfold cOpenP at h
  cases ea : fp (ers n A) with
  | bad => rw [ea] at h; exact h.elim
  | exc c d S => rw [ea] at h; exact fun A' t H' R x e => h A' t σ H' R (x.toS _ _) e
  | ok p S1 =>
    rw [ea] at h
    dsimp only [Lin.R.bind] at h
    intro A1 H1 t u R1 x1 e1 et eu
    show tb Dn (σ.set x (some u.root)) H1
    have n1 := R1.len
    have ek : ers n (kill n r A1) = S1.map (killD r) := by rw [ers_kill n1, e1]
    rw [← ek] at h
    cases q : (ers n (kill n r A1))[r]? with
    | none => rw [q] at h; exact h.elim
    | some o =>
      cases o with
      | none => rw [q] at h; exact h.elim
      | some d =>
        rw [q] at h
        dsimp only at h
        obtain ⟨t', e3, e4, _⟩ := ers_some q
        obtain ⟨k1, _⟩ := kill_get e3
        rw [et] at k1
        obtain rfl : t' = t := by simpa using k1.symm
        subst e4
        rw [er_at, eu] at h
        dsimp only [Option.map_some] at h
        by_cases hc : cleanD (x :: M2) t'.er = true
        · rw [if_pos hc] at h
          have clc := (cleanD_iff (g := g)).mp hc
          have cl2 : Clean g n [r] A1 := (cl.left.left.left.right).next x1.toNext Rr.len
          have nb := kill_clean (A := A1) cl2
          have R2 := (R1.kill r).move hr e3 nb
          generalize hA2 : (kill n r A1).set r none = A2 at R2
          have l2 : A2.length = A.length := by rw [← hA2, List.length_set, kill_length, x1.len]
          have n2 : n ≤ A2.length := by have := Rr.len; omega
          have d2 : A2.drop n = A.drop n := by
            rw [← hA2, List.drop_set_of_lt hr, ← x1.tmp]
            unfold kill
            rw [List.drop_append_of_le_length (by simp; omega), List.drop_of_length_le (by simp; omega), List.nil_append]
          have eS2 : ers n A2 = (ers n (kill n r A1)).set r none := by rw [← hA2, ers_set hr]; rfl
          have R3 := (R2.openP n2 eu).assign (by rw [List.length_append]; omega) hx
          rw [List.set_append_left _ _ (by omega)] at R3
          generalize hA3 : A2.set x (some u) = A3 at R3
          have l3 : A3.length = A.length := by rw [← hA3, List.length_set, l2]
          have n3 : n ≤ A3.length := by have := Rr.len; omega
          have d3 : A3.drop n = A.drop n := by rw [← hA3, List.drop_set_of_lt hx, d2]
          have eS3 : ers n A3 = ((ers n (kill n r A1)).set r none).set x (some u.er) := by rw [← hA3, ers_set hx, eS2]; rfl
          generalize hσ3 : σ.set x (some u.root) = σ3 at R3
          have hsl : σ.length = n := Rr.slen
          obtain ⟨pre, post, c1, c2⟩ := put_im (g := g) eu u rfl
          obtain ⟨pre', post', c3, c4⟩ := cells_put g p t' (.im u.root) u eu rfl
          have sh : ∀ q ∈ x :: M2, ∀ c ∈ (t'.put p (.im u.root)).cells g, c.1 ≠ .bor q := fun q hq c hcc => by
            rw [c4, T.cells, List.append_nil] at hcc
            refine clc q hq c ?_
            rw [c3]
            rcases List.mem_append.mp hcc with z | z
            · exact List.mem_append_left _ (List.mem_append_left _ z)
            · exact List.mem_append_right _ z
          have clA : Clean g n (x :: M2) A3 := by
            have c0 : Clean g n (x :: M2) A := fun y hy => cl y (by
              rcases List.mem_cons.mp hy with hy | hy
              · rw [hy]; exact List.mem_append_left _ (List.mem_append_left _ (List.mem_append_right _ List.mem_cons_self))
              · exact List.mem_append_right _ hy)
            exact c0.next ⟨l3, d3⟩ Rr.len
          have cl3 : Clean g n (x :: M2) (A3 ++ [some (t'.put p (.im u.root))]) := clA.app fun s hs q hq c hcc => by
            have : s = t'.put p (.im u.root) := by simpa using hs
            rw [this] at hcc
            exact sh q hq c hcc
          refine hb Γ _ σ3 H1 _ R3 (fun q hq => cl3 q (List.mem_cons_of_mem _ hq)) ?_
          rw [ers_append n3, eS3]
          have σx : ∀ {σ4 : L2.St}, (∀ j : Nat, n + j ∉ M2 → σ4[j]? = σ3[j]?) → σ4[x]? = some (some u.root) := fun {σ4} hk => by
            rw [hk x hM2, ← hσ3, List.getElem?_set_self (by omega)]
          have rOk : ∀ {σ4 : L2.St}, (∀ j : Nat, n + j ∉ M2 → σ4[j]? = σ3[j]?) → σ4.set r (some t'.root) = σ4 := fun {σ4} hk => by
            have q1 : σ4[r]? = some (some t'.root) := by
              rw [hk r hM1, ← hσ3, List.getElem?_set_ne hrx]
              exact R1.val r _ hr et
            apply List.ext_getElem?
            intro j
            rw [List.getElem?_set]
            by_cases q : r = j
            · subst q
              rw [if_pos rfl, if_pos (List.getElem?_eq_some_iff.mp q1).1, q1]
            · rw [if_neg q]
          have keepOk : ∀ {σ4 : L2.St}, (∀ j : Nat, n + j ∉ M2 → σ4[j]? = σ3[j]?) → ∀ j : Nat, n + j ∉ M1 ++ [r] ++ [x] ++ [n + x] ++ M2 → σ4[j]? = σ[j]? := fun {σ4} hk j hj => by
            rw [List.mem_append, not_or, List.mem_append, not_or] at hj
            rw [hk j hj.2, ← hσ3, List.getElem?_set_ne]
            intro z
            exact hj.1.2 (by simp [z])
          have rt : ∀ m : T, m.root = u.root → (t'.put p m).root = t'.root := fun m hm => root_put p t' m u eu hm
          cases ef : fb (((ers n (kill n r A1)).set r none).set x (some u.er)) with
          | bad => rw [ef] at h; exact h.elim
          | exc c d S => rw [ef] at h; exact h.elim
          | ok fl S2 =>
            rw [ef] at h
            cases fl with
            | brk => exact h.elim
            | cnt => exact h.elim
            | nx =>
              simp only [closeP] at h
              split at h
              · rename_i du S3 em
                intro A4 σ4 H4 R5 x5 e5
                obtain ⟨y5, z5⟩ := x5.toNext.left n3
                rw [z5] at R5 e5
                generalize A4.take A3.length = A5 at y5 R5 e5
                have n5 : n ≤ A5.length := by rw [y5.len]; exact n3
                rw [ers_append n5] at e5
                have cl5 : Clean g n [x] (A5 ++ [some (t'.put p (.im u.root))]) := by
                  refine Clean.app (Clean.next (show Clean g n [x] A3 from fun y hy => clA y (by rw [List.mem_singleton.mp hy]; exact List.mem_cons_self)) y5 n3) fun s hs q hq c hcc => ?_
                  have : s = t'.put p (.im u.root) := by simpa using hs
                  rw [this] at hcc
                  exact sh q (by rw [List.mem_singleton.mp hq]; exact List.mem_cons_self) c hcc
                obtain ⟨A6, vs, r1, r2, r3, r4, r5, r6, r7⟩ := mv_run [x] A5 _ S2 S3 [du] R5 n5 e5 em cl5 (fun i hi => by rw [List.mem_singleton.mp hi]; exact hx)
                obtain ⟨m, rfl⟩ : ∃ m, vs = [m] := by
                  cases vs with
                  | nil => simp at r6
                  | cons m vs => cases vs with
                    | nil => exact ⟨m, rfl⟩
                    | cons _ _ => simp at r6
                have hm : m.root = u.root := by
                  have := r7 0 x m rfl rfl
                  rw [σx x5.keep] at this
                  simpa using this.symm
                have hdu : m.er = du := by simpa using r5
                have n6 : n ≤ A6.length := by omega
                have R6 := ((show Rel g Γ n (A6 ++ [some (t'.put p (.im u.root))] ++ [some m]) σ4 H4 by simpa using r1).closeP n6 eu hm).assign n6 hr
                rw [rt m hm, rOk x5.keep] at R6
                have l5 := y5.len
                have hrA : r < A6.length := by omega
                have R7 := (R6.var (i := r) (t := t'.put p m) hr (List.getElem?_set_self hrA)).loanP (t0 := m) (by rw [List.length_set]; exact n6) (at_put p t' u m eu)
                have R8 := R7.assign (by rw [List.length_set]; exact n6) hx
                have xOk : σ4.set x (some (m.mk (kBo r)).root) = σ4 := by
                  have q1 := σx (σ4 := σ4) x5.keep
                  rw [← hm] at q1
                  rw [root_mk]
                  apply List.ext_getElem?
                  intro j
                  rw [List.getElem?_set]
                  by_cases q : x = j
                  · subst q
                    rw [if_pos rfl, if_pos (List.getElem?_eq_some_iff.mp q1).1, q1]
                  · rw [if_neg q]
                rw [xOk] at R8
                refine h _ σ4 H4 R8 ⟨⟨by rw [List.length_set, List.length_set, r2, y5.len, l3], by rw [List.drop_set_of_lt hx, List.drop_set_of_lt hr, r3, y5.tmp, d3]⟩, keepOk x5.keep⟩ ?_
                rw [ers_set hx, ers_set hr, r4, Option.map_some, Option.map_some, er_put, er_mk, hdu]
              · exact h.elim
            | ret d =>
              simp only [closeP] at h
              by_cases hcd : cleanD [x] d = true
              · rw [if_pos hcd] at h
                split at h
                · rename_i du S3 em
                  intro A4 td σ4 H4 R5 x5 e5 etd
                  obtain ⟨y5, z5⟩ := x5.toNext.left n3
                  rw [z5] at R5 e5
                  generalize A4.take A3.length = A5 at y5 R5 e5
                  have n5 : n ≤ A5.length := by rw [y5.len]; exact n3
                  rw [ers_append n5] at e5
                  have R5' := R5.rot n5
                  have cl5 : Clean g n [x] (A5 ++ [some td] ++ [some (t'.put p (.im u.root))]) := by
                    refine Clean.app (Clean.app (Clean.next (show Clean g n [x] A3 from fun y hy => clA y (by rw [List.mem_singleton.mp hy]; exact List.mem_cons_self)) y5 n3) fun s hs q hq c hcc => ?_) fun s hs q hq c hcc => ?_
                    · have : s = td := by simpa using hs
                      rw [this] at hcc
                      exact (cleanD_iff (g := g)).mp (by rw [etd]; exact hcd) q hq c hcc
                    · have : s = t'.put p (.im u.root) := by simpa using hs
                      rw [this] at hcc
                      exact sh q (by rw [List.mem_singleton.mp hq]; exact List.mem_cons_self) c hcc
                  obtain ⟨A6, vs, r1, r2, r3, r4, r5, r6, r7⟩ := mv_run [x] (A5 ++ [some td]) _ S2 S3 [du] R5' (by rw [List.length_append]; omega) (by rw [ers_append n5]; exact e5) em cl5 (fun i hi => by rw [List.mem_singleton.mp hi]; exact hx)
                  obtain ⟨m, rfl⟩ : ∃ m, vs = [m] := by
                    cases vs with
                    | nil => simp at r6
                    | cons m vs => cases vs with
                      | nil => exact ⟨m, rfl⟩
                      | cons _ _ => simp at r6
                  have hm : m.root = u.root := by
                    have := r7 0 x m rfl rfl
                    rw [σx x5.keep] at this
                    simpa using this.symm
                  have hdu : m.er = du := by simpa using r5
                  have n6 : n ≤ A6.length := by rw [r2, List.length_append]; omega
                  have R6 := ((show Rel g Γ n (A6 ++ [some (t'.put p (.im u.root))] ++ [some m]) σ4 H4 by simpa using r1).closeP n6 eu hm).assign n6 hr
                  rw [rt m hm, rOk x5.keep] at R6
                  obtain ⟨y6, z6⟩ := (show Next n (A5 ++ [some td]) A6 from ⟨r2, r3⟩).left n5
                  rw [z6] at R6 r4
                  generalize A6.take A5.length = A7 at y6 R6 r4
                  have n7 : n ≤ A7.length := by rw [y6.len]; exact n5
                  rw [ers_append n7] at r4
                  rw [List.set_append_left _ _ (by omega)] at R6
                  have l5 := y5.len
                  refine h _ td σ4 H4 R6 ⟨⟨by rw [List.length_set, y6.len, y5.len, l3], by rw [List.drop_set_of_lt hr, y6.tmp, y5.tmp, d3]⟩, keepOk x5.keep⟩ ?_ etd
                  rw [ers_set hr, r4, Option.map_some, er_put, hdu]
                · exact h.elim
              · rw [if_neg hcd] at h; exact h.elim
        · rw [if_neg hc] at h; exact h.elim
end
/-! ### f(b, r) hands out an item of the own list r -/
open Classical in
noncomputable def pickOf (sem : FSem) (db : D) (m : Nat) : Option (Nat × D) :=
  if h : ∃ q : Nat × D, q.1 < m ∧ ∀ vs : List V, vs.length = m → sem [db, .nd .par .lst (vs.map .im)] = .ok (.im (vs[q.1]?.getD (.int 0))) [q.2] then some h.choose else none
theorem pickOf_spec {sem : FSem} {db : D} {m : Nat} {q : Nat × D} (h : pickOf sem db m = some q) : q.1 < m ∧ ∀ vs : List V, vs.length = m → sem [db, .nd .par .lst (vs.map .im)] = .ok (.im (vs[q.1]?.getD (.int 0))) [q.2] := by
  unfold pickOf at h
  split at h
  · rename_i hh
    have := hh.choose_spec
    rw [Option.some.inj h] at this
    exact this
  · cases h
theorem pickOf_eq {sem : FSem} {db db' : D} {m j : Nat} (hj : j < m) (h : ∀ vs : List V, vs.length = m → sem [db, .nd .par .lst (vs.map .im)] = .ok (.im (vs[j]?.getD (.int 0))) [db']) : pickOf sem db m = some (j, db') := by
  have ex : ∃ q : Nat × D, q.1 < m ∧ ∀ vs : List V, vs.length = m → sem [db, .nd .par .lst (vs.map .im)] = .ok (.im (vs[q.1]?.getD (.int 0))) [q.2] := ⟨(j, db'), hj, h⟩
  have e : pickOf sem db m = some ex.choose := by unfold pickOf; rw [dif_pos ex]
  rw [e]
  obtain ⟨h1, h2⟩ := ex.choose_spec
  generalize ex.choose = q at h1 h2
  have a1 := h ((List.range m).map fun i => V.int (i : Nat)) (by simp)
  have a2 := h2 ((List.range m).map fun i => V.int (i : Nat)) (by simp)
  rw [a1] at a2
  simp only [List.getElem?_map, List.getElem?_range hj, List.getElem?_range h1, Option.map_some, Option.getD_some] at a2
  injection a2 with a2 a3
  injection a2 with a2
  injection a2 with a2
  injection a3 with a3 _
  have : q.1 = j := by omega
  rw [← this, a3]
noncomputable def pPick (b r : Nat) (M2 : List Nat) (fp : Sg → R (List Nat)) (sem : FSem) : Sg → R (List Nat) := fun S => (cMv b S).bind fun db S1 => if ofD db = true then (fp S1).bind fun p S2 => match nodeAt S2 r p with
  | some (.nd .own .lst ds) => match pickOf sem db ds.length with
    | some q => .ok (p ++ [q.1]) (S2.set b (some q.2))
    | none => .bad
  | _ => .bad else .bad
section
variable {g : Gc} {Γ : Gh} {n : Nat} {A A' B : List (Option T)} {σ : L2.St} {H : Hp} {W : WX} {M M1 M2 : List Nat}
theorem er_im' {t : T} {v : V} (h : t.er = .im v) : t.root = v := by rw [er_im h]; rfl
theorem meanp_pick {b r : Nat} {sem : FSem} {tp : TE} {fp : Sg → R (List Nat)} (hrb : r ∉ [b] ++ M2) (hbM : b ∉ M2) (hp : MeanP g n W r M2 tp fp) : MeanP g n W r ([b] ++ M2) (tCallS (spOf g [true, false] sem) (WE W) (tCons (tVar b) (tCons tp tNil))) (pPick b r M2 fp sem) := by
  intro Γ A σ H Q Rr cl h
  unfold pPick at h
  cases ec : cMv b (ers n A) with
  | bad => rw [ec] at h; exact h.elim
  | exc c d S => exact (cMv_exc ec).elim
  | ok db S1 =>
    rw [ec] at h
    dsimp only [Lin.R.bind] at h
    obtain ⟨m1, m2, m3⟩ := cMv_ok ec
    obtain ⟨tb, f1, f2, hb⟩ := ers_some m1
    by_cases hof : ofD db = true
    · rw [if_pos hof] at h
      have f3 : (kill n b A)[b]? = some (some tb) := by
        unfold kill
        rw [List.getElem?_append_left (by simp; have := Rr.len; omega), List.getElem?_map, List.getElem?_take_of_lt hb, f1]
        show some (if hasBor b tb.er then none else some tb) = _
        rw [f2, m2]; rfl
      have R2 := (Rr.kill b).move hb f3 (kill_clean cl.left)
      have nK : n ≤ ((kill n b A).set b none).length := by rw [List.length_set, kill_length]; exact Rr.len
      have x1 : NextM n [b] A ((kill n b A).set b none) := by
        refine ⟨⟨by rw [List.length_set, kill_length], ?_⟩, fun j hj hm => ?_⟩
        · rw [List.drop_set_of_lt hb]
          exact (nextM_kill (r := b) (M := []) Rr.len (.refl _ _)).tmp
        · have : j ≠ b := by simpa using hm
          rw [List.getElem?_set_ne (Ne.symm this)]
          exact kill_slot Rr.len hj
      have eA2 : ers n ((kill n b A).set b none) = S1 := by rw [ers_set hb, ers_kill Rr.len, m3]; rfl
      have hlA : ((kill n b A).set b none).length = A.length := by rw [List.length_set, kill_length]
      generalize hA2 : (kill n b A).set b none = A2 at R2 nK x1 eA2 hlA
      have slb : A2[b]? = some none := by rw [← hA2, List.getElem?_set_self (by rw [kill_length]; have := Rr.len; omega)]
      have hk := (ofD_iff (g := g)).mp (by rw [f2]; exact hof)
      have cl2 : Clean g n M2 (A2 ++ [some tb]) := fun q hq i c hi2 x => by
        rcases cellAt_snoc.mp x with x | ⟨_, x⟩
        · exact (cl.right.next x1.toNext Rr.len) q hq i c hi2 x
        · intro z
          rcases hk c x with y | y <;> (rw [y] at z; cases z)
      refine ⟨_, Rr.val b tb hb f1, ?_⟩
      refine hp Γ (A2 ++ [some tb]) σ H _ R2 cl2 ?_
      rw [ers_append nK, eA2]
      cases ep : fp S1 with
      | bad => rw [ep] at h; exact h.elim
      | exc c d S =>
        rw [ep] at h
        intro A9 t9 H9 R9 x9 e9 d9
        obtain ⟨y, z⟩ := x9.left nK
        have n9 : n ≤ (A9.take A2.length).length := by rw [y.len]; exact nK
        rw [z] at R9 e9
        exact h _ t9 H9 (R9.mid n9) (x1.toNext.trans y) (by rw [ers_append n9] at e9; exact e9) d9
      | ok p S2 =>
        rw [ep] at h
        dsimp only [Lin.R.bind] at h
        intro A3 H3 t u R3 x3 e3 et eu
        obtain ⟨y, z⟩ := x3.left nK
        rw [z] at R3 e3 et
        generalize A3.take A2.length = A4 at y R3 e3 et
        have n4 : n ≤ A4.length := by rw [y.len]; exact nK
        rw [ers_append n4] at e3
        have hr : r < n := by
          cases en : nodeAt S2 r p with
          | none => rw [en] at h; exact h.elim
          | some d =>
            rw [← e3] at en
            obtain ⟨_, _, _, _, _, hr⟩ := nodeAt_some en
            exact hr
        rw [List.getElem?_append_left (by omega)] at et
        have eu0 : nodeAt S2 r p = some u.er := by
          unfold nodeAt
          rw [← e3, show (ers n A4)[r]? = some (some t.er) from by
            unfold ers
            rw [List.getElem?_map, List.getElem?_take_of_lt hr, et]; rfl]
          dsimp only
          rw [er_at, eu]; rfl
        rw [eu0] at h
        split at h
        · rename_i ds eS
          have eS := Option.some.inj eS
          obtain ⟨a, dx, ts, rfl, hds⟩ := er_nd eS
          cases eq : pickOf sem db ds.length with
          | none => rw [eq] at h; exact h.elim
          | some q =>
            rw [eq] at h
            dsimp only at h
            obtain ⟨hq, hsem⟩ := pickOf_spec eq
            have slb4 : A4[b]? = some none := by
              rcases y.slot b hb hbM with w | w
              · rw [w, slb]
              · exact w
            have x4 : NextM n ([b] ++ M2) A A4 := x1.trans y
            have eA : A[r]? = some (some t) := by
              rcases x4.slot r hr hrb with w | w
              · rw [← w]; exact et
              · rw [w] at et; cases et
            have R5 := (R3.var (i := r) hr (show (A4 ++ [some tb])[r]? = some (some t) by rw [List.getElem?_append_left (by omega)]; exact et)).loanP (by rw [List.length_append]; omega) eu
            have R6 := R5.splitP (ts := [shell a (.bor r) .lst dx ts]) (by rw [List.length_append]; omega) (fun c hc => by
              have hc : c ∈ (shell a (.bor r) .lst dx ts).cells g := by simpa [cellsL] using hc
              rw [shell_cells] at hc
              rw [T.mk, T.cells, roots_mk, List.mem_singleton.mp hc]
              exact List.mem_cons_self) (by
              have : cellsL g [shell a (.bor r) .lst dx ts] = (shell a (.bor r) .lst dx ts).cells g := by simp [cellsL]
              rw [this, shell_cells]
              exact List.nodup_nil)
            have R7 : Rel g Γ n (A4 ++ [tb, shell a (.bor r) .lst dx ts].map some) σ H3 := by simpa using R6
            have vb := Rr.val b tb hb f1
            have key := call_core (g := g) (W := W) (rs := [some b, none]) (sem := sem) (ts := [tb, shell a (.bor r) .lst dx ts]) (Q := Q) (S1 := S2) (M := [b] ++ M2) (A := A) R7 n4 x4 (fun i hi => by
              have : i = b := by simpa using hi
              rw [this]; exact List.mem_cons_self) e3 (by simp)
              (by simp [f2, hof]) (fun i j hi => by
                cases i with
                | zero =>
                  have : b = j := by simpa using hi
                  subst this
                  exact ⟨tb, rfl, vb, slb4, hb⟩
                | succ i => cases i <;> simp at hi)
            refine key ?_
            have hargs : argsD [some b, none] ([tb, shell a (.bor r) .lst dx ts].map T.er) = [db, .nd .par .lst ((ts.map T.root).map .im)] := by
              simp only [List.map_cons, List.map_nil, argsD, f2]
              congr 1
              simp only [shell, T.er, D.mk, erL_eq, mkDL_eq, List.map_map]
              rfl
            unfold callR
            rw [if_pos (by rfl), hargs, hsem _ (by rw [List.length_map, ← List.length_map (f := T.er), hds])]
            intro A' t9 H' R' x' e' et9
            have hroot := er_im' et9
            have hts : q.1 < ts.length := by rw [← List.length_map (f := T.er), hds]; exact hq
            have hv : t9.root = (ts[q.1]).root := by
              rw [hroot, List.getElem?_map, List.getElem?_eq_getElem hts]; rfl
            rw [hv]
            have hbS : backS [some b, none] [q.2] S2 = S2.set b (some q.2) := rfl
            have nA' : n ≤ A'.length := by rw [x'.len]; exact Rr.len
            refine h A' H' t ts[q.1] (R'.drop nA') x' (by rw [e', hbS]) ?_ (by rw [at_append p [q.1] t _ eu]; simp [T.at, List.getElem?_eq_getElem hts])
            have hrb' : r ≠ b := fun w => hrb (by rw [w]; exact List.mem_cons_self)
            rcases x'.slot r hr hrb with w | w
            · rw [w]; exact eA
            · exfalso
              have e'' : (ers n A')[r]? = (S2.set b (some q.2))[r]? := by rw [e', hbS]
              rw [List.getElem?_set_ne (Ne.symm hrb'), ← e3, show (ers n A4)[r]? = some (some t.er) from by
                unfold ers
                rw [List.getElem?_map, List.getElem?_take_of_lt hr, et]; rfl] at e''
              obtain ⟨t8, z1, _, _⟩ := ers_some e''
              rw [w] at z1; cases z1
        · exact h.elim
    · rw [if_neg hof] at h; exact h.elim
end
section
variable {X : Cx} {g : Gc} {W : WX} {M1 M2 M3 Mz : List Nat} {r x : Nat} {e : Expr} {fp : Sg → R (List Nat)} {fb fr : Sg → R Fl} {sts : List Stmt} {st : Stmt} {pos pos' : Pos}
/-- x = path; one statement; what stands behind -/
theorem sdb_openP1 {y : Str} (cx : X.N.Nodup) (hp : QP X g W M1 r e fp) (hb : QS X g W M2 st fb) (hrest : QSs X g W M3 sts fr) (hN : X.N[x]? = some y := by rfl) (hr : decide (r < X.N.length) = true := by rfl) (hxr : decide (x ≠ r) = true := by rfl)
    (hl : Loc X.env.scope y := by first | exact Or.inl rfl | exact Or.inr rfl) (hM1 : decide (X.N.length + r ∉ M2) = true := by rfl) (hM2 : decide (X.N.length + x ∉ M2) = true := by rfl)
    (hs : swapsWith e (some (.Name y pos')) pos.line X.env = pure false := by rfl) (hf : X.fn y = true ∨ X.env.scope.names.lookup y = some .local := by first | exact .inl rfl | exact .inr rfl) (hMz : Mz = ((M1 ++ [r] ++ [x] ++ [X.N.length + x] ++ M2) ++ M3) := by rfl) :
    QSs X g W Mz (.Assign [.Name y pos'] e pos :: st :: sts) (cSeq (cOpenP r x M2 fp fb) fr) := by
  subst hMz
  refine qSs (pss_cons (ps_set cx hN hl hp hs hf) (pss_cons hb hrest)) ?_
  have m := mean_seq (mean_openP (of_decide_eq_true hr) (List.getElem?_eq_some_iff.mp hN).1 (of_decide_eq_true hxr) (of_decide_eq_true hM1) (of_decide_eq_true hM2) (mn_P (f := fp) (r := r) (M := M1)) (mn_S (f := fb) (M := M2))) (mn_S (g := g) (n := X.N.length) (W := W) (f := fr) (M := M3))
  exact m
theorem sdp_pick {W : WX} {b : Nat} {x yb : Str} {er : Expr} {p pb pos : Pos} {ps : List Str} {k : Nat} {sem : FSem} (cx : CxE X W) (F : Df X.prog X.w X.K X.mg X.base g x ps k [true, false] sem) (hr : Room k X.A) (hp : QP X g W M2 r er fp)
    (hNb : X.N[b]? = some yb := by rfl) (hvb : Vis X.env.scope yb := by first | exact Or.inl rfl | exact Or.inr (Or.inl rfl) | exact Or.inr (Or.inr rfl))
    (hdb : (yb == ("__debug__" : Str)) = false := by decide) (hcb : (yb == ("__classdict__" : Str)) = false := by decide)
    (hg : Gl X x := by rfl) (hdx : (x == ("__debug__" : Str)) = false := by decide)
    (he : starEach (.Name yb pb :: [er]) X.env = (false, eval (.Name yb pb) X.env) :: starEach [er] X.env := by rfl) (he2 : starEach (er :: []) X.env = (false, eval er X.env) :: starEach [] X.env := by rfl)
    (hpl : (backTo pos (starEach [er] X.env)).any (·.1) = false := by rfl) (hrb : decide (r ∉ [b] ++ M2) = true := by rfl) (hbM : decide (b ∉ M2) = true := by rfl) (hMz : Mz = ([b] ++ M2) := by rfl) : QP X g W Mz r (.Call (.Name x p) (.Name yb pb :: [er]) [] pos) (pPick b r M2 fp sem) := by
  subst hMz
  exact let ⟨_, _, h1, h2, h3, h4⟩ := F; qP (pe_callS h1 hr hg h2 h3 h4 cx.at (pa_cons (pe_var hNb hvb hdb hcb) (pa_cons hp pa_nil he2) he) hdx he hpl) (meanp_pick (of_decide_eq_true hrb) (of_decide_eq_true hbM) mn_P)
end
/-! ### the plain rules -/
section
variable {E : EX} {S : Sg} {QF : Fl → Sg → Prop} {QPt : List Nat → Sg → Prop}
theorem ok_openP {r x : Nat} {Mb : List Nat} {fp : Sg → R (List Nat)} {fb : Sg → R Fl} : OkE E (cOpenP r x Mb fp fb S) QF = OkE E (fp S) fun p S1 => So ((S1.map (killD r))[r]?) fun o => So o fun d => So (d.at p) fun u => if cleanD (x :: Mb) d = true then OkE E (closeP r x p d (fb (((S1.map (killD r)).set r none).set x (some u)))) QF else False := by
  unfold cOpenP
  rw [ok_bind]
  refine ok_cg fun p S1 => ?_
  cases (S1.map (killD r))[r]? with
  | none => dsimp only; rw [so_none, ok_bad]
  | some o =>
    rw [so_some]
    cases o with
    | none => dsimp only; rw [so_none, ok_bad]
    | some d =>
      rw [so_some]
      dsimp only
      cases d.at p with
      | none => dsimp only; rw [so_none, ok_bad]
      | some u =>
        rw [so_some]
        dsimp only
        by_cases c : cleanD (x :: Mb) d = true
        · rw [if_pos c, if_pos c]
        · rw [if_neg c, if_neg c, ok_bad]
theorem ok_closeP {r x : Nat} {p : List Nat} {d : D} {f : R Fl} (h : OkE NoX f (fun fl S2 => match fl with
    | .nx => So (mvL [x] S2) fun q => So (q.1.head?) fun u => q.1.length = 1 ∧ QF .nx ((q.2.set r (some (d.put p u))).set x (some (u.mk (kBo r))))
    | .ret e => cleanD [x] e = true ∧ So (mvL [x] S2) fun q => So (q.1.head?) fun u => q.1.length = 1 ∧ QF (.ret e) (q.2.set r (some (d.put p u)))
    | _ => False)) : OkE E (closeP r x p d f) QF := by
  cases f with
  | bad => exact h.out.elim
  | exc c d S2 => exact h.out.elim
  | ok fl S2 =>
    rw [ok_ok] at h
    have one : ∀ {q : List D × Sg} {P : D → Prop}, (So (q.1.head?) fun u => q.1.length = 1 ∧ P u) → ∃ u, q.1 = [u] ∧ P u := fun {q P} hq => by
      obtain ⟨l, S⟩ := q
      cases l with
      | nil => simp only [List.head?_nil] at hq; rw [so_none] at hq; exact hq.elim
      | cons u l =>
        simp only [List.head?_cons] at hq
        rw [so_some] at hq
        cases l with
        | nil => exact ⟨u, rfl, hq.2⟩
        | cons _ _ => have := hq.1; simp at this
    cases fl with
    | brk => exact h.elim
    | cnt => exact h.elim
    | nx =>
      dsimp only at h
      simp only [closeP]
      cases em : mvL [x] S2 with
      | none => rw [em, so_none] at h; exact h.elim
      | some q =>
        rw [em, so_some] at h
        obtain ⟨u, hu, hq⟩ := one h
        obtain ⟨l, S3⟩ := q
        dsimp only at hu hq
        subst hu
        dsimp only
        rw [ok_ok]; exact hq
    | ret e =>
      dsimp only at h
      simp only [closeP]
      rw [if_pos h.1]
      have h := h.2
      cases em : mvL [x] S2 with
      | none => rw [em, so_none] at h; exact h.elim
      | some q =>
        rw [em, so_some] at h
        obtain ⟨u, hu, hq⟩ := one h
        obtain ⟨l, S3⟩ := q
        dsimp only at hu hq
        subst hu
        dsimp only
        rw [ok_ok]; exact hq
def ownLen : D → Option Nat
  | .nd .own .lst ds => some ds.length
  | _ => none
theorem ownLen_en {α : Type} {c : Kd} {f : α → P} {xs : List α} : ownLen (en .own c (pL f xs)) = some xs.length := by rw [en_pL]; simp [ownLen]
theorem nodeOk_sh {okS : Sh → Bool} {r : Nat} {p : List Nat} : nodeOk okS S r p = (match nodeAt S r p with | some d => shOk okS d | none => false) := by
  unfold nodeOk
  cases nodeAt S r p with
  | none => rfl
  | some d => cases d <;> rfl
theorem ok_pick {b r : Nat} {M2 : List Nat} {fp : Sg → R (List Nat)} {sem : FSem} : OkE E (pPick b r M2 fp sem S) QPt = OkE E (cMv b S) fun db S1 => if ofD db = true then OkE E (fp S1) fun p S2 => So (nodeAt S2 r p) fun d => So (ownLen d) fun m => So (pickOf sem db m) fun q => QPt (p ++ [q.1]) (S2.set b (some q.2)) else False := by
  unfold pPick
  rw [ok_bind]
  refine ok_cg fun db S1 => ?_
  by_cases c : ofD db = true
  · rw [if_pos c, if_pos c, ok_bind]
    refine ok_cg fun p S2 => ?_
    cases nodeAt S2 r p with
    | none => dsimp only; rw [so_none, ok_bad]
    | some d =>
      rw [so_some]
      have no : ∀ d', ownLen d' = none → ∀ Q, So (ownLen d') Q = False := fun d' h Q => by rw [h, so_none]
      cases d with
      | im v => rw [no _ rfl]; dsimp only; rw [ok_bad]
      | nd k s ds =>
        have e : ownLen (D.nd k s ds) = if k = .own ∧ s = .lst then some ds.length else none := by cases k <;> cases s <;> simp [ownLen]
        by_cases q : k = .own ∧ s = .lst
        · obtain ⟨rfl, rfl⟩ := q
          rw [show ownLen (D.nd .own .lst ds) = some ds.length from rfl, so_some]
          dsimp only
          cases pickOf sem db ds.length with
          | none => dsimp only; rw [so_none, ok_bad]
          | some q => dsimp only; rw [so_some, ok_ok]
        · rw [e, if_neg q, so_none]
          split
          · rename_i ds' he
            have he := Option.some.inj he
            injection he with h1 h2
            exact absurd ⟨h1, h2⟩ q
          · rw [ok_bad]
  · rw [if_neg c, if_neg c, ok_bad]
end
end Lin
end
section
namespace Law
open PySem L2 Lin
noncomputable def b__law_bag (scA : Option Addr) (scN : List Int) : Sg → R Fl := cRet (cMany (cCons [] (cMany (cCons [] (cVar 0) (cNil)) (bListS scA scN)) (cCons [] (cLit (.int 0)) (cCons [] (cLit (.int 0)) (cCons [] (cLit (.int 17)) (cCons [] (cLit (.int 0)) (cNil)))))) dLst)
noncomputable def m__law_bag (scA : Option Addr) (scN : List Int) : FSem := semOf 1 [false] (b__law_bag scA scN)
noncomputable def b__law_draw : Sg → R Fl := cSeq (cSetAt 0 [] (cTwo [] (cTwo [] (cVar 0) (cLit (.int 4)) oIx) (cLit (.int 1)) oAdd) (pVar 0) (cLit (.int 4)) oSet) (cSeq (cIf (cAnd (cTest (cTwo [] (cTwo [] (cVar 0) (cLit (.int 2)) oIx) (cLit (.int 0)) oEq) dBool) (cTest (cTwo [] (cTwo [] (cVar 0) (cLit (.int 1)) oIx) (cMany (cCons [] (cTwo [] (cVar 0) (cLit (.int 0)) oIx) (cNil)) (bLen)) oLt) dBool)) (cSeq (cAsg (gSet true 2) (cTwo [] (cTwo [] (cVar 0) (cLit (.int 0)) oIx) (cTwo [] (cVar 0) (cLit (.int 1)) oIx) oIx)) (cSeq (cSetAt 0 [] (cTwo [] (cTwo [] (cVar 0) (cLit (.int 1)) oIx) (cLit (.int 1)) oAdd) (pVar 0) (cLit (.int 1)) oSet) (cSeq (cSetAt 0 [] (cTwo [] (cTwo [] (cTwo [] (cLit (.int 2)) (cMany (cCons [] (cVar 2) (cNil)) (bAbs)) oMul) (cMany (cCons [] (cTwo [] (cVar 2) (cLit (.int 0)) oLt) (cNil)) (immV vToInt)) oAdd) (cMany (cCons [] (cTwo [] (cMany (cCons [] (cVar 2) (cNil)) (bAbs)) (cTwo [] (cLit (.int 10)) (cLit (.int 18)) oPow) oGe) (cNil)) (immV vToInt)) oMul) (pVar 0) (cLit (.int 2)) oSet) (cSetAt 0 [] (cTwo [] (cMany (cCons [] (cTwo [] (cTwo [] (cTwo [] (cTwo [] (cVar 0) (cLit (.int 3)) oIx) (cLit (.int 48271)) oMul) (cTwo [] (cVar 2) (cLit (.int 69621)) oMul) oAdd) (cLit (.int 11)) oAdd) (cNil)) (immV vToInt)) (cLit (.int 2147483647)) oMod) (pVar 0) (cLit (.int 3)) oSet)))) (cNext)) (cSeq (cAsg (gSet true 3) (cTwo [] (cMany (cCons [] (cTwo [] (cVar 0) (cLit (.int 2)) oIx) (cNil)) (immV vToInt)) (cVar 1) oMod)) (cSeq (cIf (cTest (cTwo [] (cTwo [] (cVar 0) (cLit (.int 2)) oIx) (cLit (.int 0)) oGt) dBool) (cSeq (cSetAt 0 [] (cTwo [] (cTwo [] (cVar 0) (cLit (.int 2)) oIx) (cVar 1) oDiv) (pVar 0) (cLit (.int 2)) oSet) (cRet (cVar 3))) (cNext)) (cSeq (cAsg (gSet true 4) (cTwo [] (cMany (cCons [] (cTwo [] (cTwo [] (cVar 0) (cLit (.int 3)) oIx) (cTwo [] (cTwo [] (cVar 0) (cLit (.int 4)) oIx) (cLit (.int 40692)) oMul) oAdd) (cNil)) (immV vToInt)) (cLit (.int 2147483647)) oMod)) (cSeq (cAsg (gSet true 4) (cTwo [] (cMany (cCons [] (cTwo [] (cTwo [] (cTwo [] (cVar 4) (cLit (.int 3)) oPow) (cTwo [] (cTwo [] (cVar 0) (cLit (.int 4)) oIx) (cLit (.int 16807)) oMul) oAdd) (cLit (.int 7)) oAdd) (cNil)) (immV vToInt)) (cLit (.int 2147483629)) oMod)) (cRet (cTwo [] (cTwo [] (cTwo [] (cMany (cCons [] (cTwo [] (cVar 4) (cLit (.int 2)) oPow) (cNil)) (immV vToInt)) (cLit (.int 2147483587)) oMod) (cLit (.int 8)) oDiv) (cVar 1) oMod)))))))
noncomputable def m__law_draw : FSem := semOf 5 [true, false] (b__law_draw)
noncomputable def b__law_scale : Sg → R Fl := cSeq (cAsg (gSet true 3) (cTwo [0] (cLit (.int 1)) (cCall [some 0, none] (cRefs 0 (cCons [] (cVar 1) (cNil))) m__law_draw) oAdd)) (cSeq (cAsg (gSet true 4) (cTwo [0] (cLit (.int 1)) (cCall [some 0, none] (cRefs 0 (cCons [] (cVar 2) (cNil))) m__law_draw) oAdd)) (cSeq (cAsg (gSet true 5) (cTwo [0] (cMany (cCons [] (cLit (.int 3)) (cCons [] (cLit (.int 50)) (cCons [] (cLit (.int 1000001)) (cNil)))) dLst) (cCall [some 0, none] (cRefs 0 (cCons [] (cLit (.int 3)) (cNil))) m__law_draw) oIx)) (cSeq (cAsg (gSet false 6) (cLc [7] [0] (gSet true 7) (iRng1F (cCons [] (cVar 3) (cNil))) (cYes) (cCall [some 0, none] (cRefs 0 (cCons [] (cVar 5) (cNil))) m__law_draw))) (cSeq (cAsg (gSet false 8) (cMany (cNil) dLst)) (cSeq (cFor [0, 10, 21, 0, 10, 21, 8] (gSet true 7) (iRng1F (cCons [] (cVar 3) (cNil))) (cSeq (cAsg (gSet true 9) (cLc [10] [0] (gSet true 10) (iRng1F (cCons [] (cVar 4) (cNil))) (cYes) (cCall [some 0, none] (cRefs 0 (cCons [] (cVar 3) (cNil))) m__law_draw))) (cSeq (cIf (cTest (cTwo [] (cCall [some 0, none] (cRefs 0 (cCons [] (cLit (.int 3)) (cNil))) m__law_draw) (cLit (.int 0)) oEq) dBool) (cAsg (gSet true 9) (cTwo [10] (cMany (cCons [] (cMany (cCons [] (cTwo [] (cVar 7) (cLit (.int 1)) oSub) (cCons [] (cLit (.int 0)) (cNil))) (bMax)) (cNil)) dLst) (cLc [10] [] (gSet true 10) (iRng2F (cCons [] (cLit (.int 1)) (cCons [] (cVar 4) (cNil)))) (cYes) (cMany (cCons [] (cTwo [] (cVar 7) (cVar 10) oAdd) (cCons [] (cTwo [] (cVar 3) (cLit (.int 1)) oSub) (cNil))) (bMin))) oAdd)) (cNext)) (cExpr (cMutM isLst 8 [] (pVar 8) (cCons [] (cVar 9) (cNil)) mAppend))))) (cSeq (cIf (cTest (cTwo [] (cCall [some 0, none] (cRefs 0 (cCons [] (cLit (.int 3)) (cNil))) m__law_draw) (cLit (.int 0)) oEq) dBool) (cAsg (gSet false 6) (cLc [11] [] (gSet true 11) (iSeq (cMany (cCons [] (cVar 6) (cNil)) (bSorted)) .lst) (cYes) (cMany (cCons [] (cVar 11) (cNil)) (immV vToInt)))) (cNext)) (cRet (cMany (cCons [8] (cMv 6) (cCons [] (cMv 8) (cNil))) dTup))))))))
noncomputable def m__law_scale : FSem := semOf 12 [true, false, false] (b__law_scale)
noncomputable def b_is_integer : Sg → R Fl := cRet (cAndV (cMany (cCons [] (cVar 0) (cCons [] (cLit (.ty "int")) (cNil))) (immV vIsi)) (cAndV (cOne (cMany (cCons [] (cVar 0) (cCons [] (cLit (.ty "bool")) (cNil))) (immV vIsi)) dNot) (cTwo [] (cVar 0) (cVar 1) oGe)))
noncomputable def m_is_integer : FSem := semOf 2 [false, false] (b_is_integer)
noncomputable def b_is_premium : Sg → R Fl := cRet (cAndV (cCall [none, none] (cCons [] (cVar 0) (cCons [] (cLit (.int 0)) (cNil))) m_is_integer) (cTwo [] (cVar 0) (cLit (.int 1000000)) oLe))
noncomputable def m_is_premium : FSem := semOf 1 [false] (b_is_premium)
noncomputable def b_are_premiums : Sg → R Fl := cSeq (cIf (cOr (cNot (cTest (cMany (cCons [] (cVar 0) (cCons [] (cLit (.ty "list")) (cNil))) (immV vIsi)) dTru)) (cNot (cTest (cChain [] [] (cLit (.int 1)) (cMany (cCons [] (cVar 0) (cNil)) (bLen)) (cLit (.int 12)) oLe oLe) dBool))) (cRet (cLit (.bl false))) (cNext)) (cRet (cMany (cCons [] (cLc [1] [] (gSet true 1) (iSeq (cVar 0) .lst) (cYes) (cCall [none] (cCons [] (cVar 1) (cNil)) m_is_premium)) (cNil)) (immV vAll)))
noncomputable def m_are_premiums : FSem := semOf 2 [false] (b_are_premiums)
noncomputable def b_are_moves : Sg → R Fl := cSeq (cIf (cOr (cNot (cTest (cMany (cCons [] (cVar 0) (cCons [] (cLit (.ty "list")) (cNil))) (immV vIsi)) dTru)) (cOr (cTest (cTwo [] (cMany (cCons [] (cVar 0) (cNil)) (bLen)) (cVar 2) oNe) dBool) (cNot (cTest (cChain [] [] (cLit (.int 1)) (cVar 2) (cLit (.int 5)) oLe oLe) dBool)))) (cRet (cLit (.bl false))) (cNext)) (cRet (cMany (cCons [] (cLc [3] [] (gSet true 3) (iSeq (cVar 0) .lst) (cYes) (cAndV (cCall [none, none] (cCons [] (cVar 3) (cCons [] (cLit (.int 0)) (cNil))) m_is_integer) (cTwo [] (cVar 3) (cVar 1) oLt))) (cNil)) (immV vAll)))
noncomputable def m_are_moves : FSem := semOf 4 [false, false, false] (b_are_moves)
noncomputable def b_is_table : Sg → R Fl := cSeq (cIf (cOr (cNot (cTest (cMany (cCons [] (cVar 0) (cCons [] (cLit (.ty "list")) (cNil))) (immV vIsi)) dTru)) (cOr (cTest (cTwo [] (cMany (cCons [] (cVar 0) (cNil)) (bLen)) (cVar 1) oNe) dBool) (cNot (cTest (cMany (cCons [] (cTwo [] (cVar 0) (cLit (.int 0)) oIx) (cCons [] (cLit (.ty "list")) (cNil))) (immV vIsi)) dTru)))) (cRet (cLit (.bl false))) (cNext)) (cRet (cMany (cCons [] (cLc [2] [] (gSet true 2) (iSeq (cVar 0) .lst) (cYes) (cCall [none, none, none] (cCons [] (cVar 2) (cCons [] (cVar 1) (cCons [] (cMany (cCons [] (cTwo [] (cVar 0) (cLit (.int 0)) oIx) (cNil)) (bLen)) (cNil)))) m_are_moves)) (cNil)) (immV vAll)))
noncomputable def m_is_table : FSem := semOf 3 [false, false] (b_is_table)
noncomputable def b_Scaledd_initdd : Sg → R Fl := cSeq (cIf (cNot (cTest (cCall [none] (cCons [] (cVar 1) (cNil)) m_are_premiums) dTru)) (cBad) (cNext)) (cSeq (cIf (cNot (cTest (cCall [none, none] (cCons [] (cVar 2) (cCons [] (cMany (cCons [] (cVar 1) (cNil)) (bLen)) (cNil))) m_is_table) dTru)) (cBad) (cNext)) (cSeq (cSetAt 0 [] (cMany (cCons [] (cVar 1) (cNil)) (bList)) (pVar 0) (cLit .non) (sAttr 0 "rates")) (cSetAt 0 [] (cLc [3] [] (gSet true 3) (iSeq (cVar 2) .lst) (cYes) (cMany (cCons [] (cVar 3) (cNil)) (bList))) (pVar 0) (cLit .non) (sAttr 0 "moves"))))
noncomputable def m_Scaledd_initdd : FSem := semOf 4 [true, false, false] (b_Scaledd_initdd)
noncomputable def b__law_led : Sg → R Fl := cSeq (cAsg (gSet true 3) (cTwo [] (cTwo [] (cVar 0) (cLit (.int 1)) oIx) (cVar 1) oIx)) (cRet (cTwo [] (cVar 3) (cMany (cCons [] (cVar 2) (cCons [] (cTwo [] (cMany (cCons [] (cVar 3) (cNil)) (bLen)) (cLit (.int 1)) oSub) (cNil))) (bMin)) oIx))
noncomputable def m__law_led : FSem := semOf 4 [false, false, false] (b__law_led)
noncomputable def b__law_classes : Sg → R Fl := cSeq (cAsg (gSet false 3) (cMany (cCons [] (cVar 1) (cNil)) dLst)) (cSeq (cFor [3] (gSet true 4) (iSeq (cVar 2) .lst) (cExpr (cMutM isLst 3 [] (pVar 3) (cCons [] (cCall [none, none, none] (cCons [] (cVar 0) (cCons [] (cTwo [] (cVar 3) (cOne (cLit (.int 1)) dNeg) oIx) (cCons [] (cVar 4) (cNil)))) m__law_led) (cNil)) mAppend))) (cRet (cMv 3)))
noncomputable def m__law_classes : FSem := semOf 5 [false, false, false] (b__law_classes)
noncomputable def b__law_mixed : Sg → R Fl := cSeq (cAsg (gSet false 2) (cMany (cCons [] (cVar 1) (cNil)) (bList))) (cSeq (cAsg (gSet false 3) (cMany (cNil) dLst)) (cSeq (cFor [0, 2, 3] (gSet true 4) (iRng1F (cCons [] (cMany (cCons [] (cVar 1) (cNil)) (bLen)) (cNil))) (cExpr (cMutM isLst 3 [0, 2] (pVar 3) (cCons [] (cMutM isLst 2 [0] (pVar 2) (cCons [] (cCall [some 0, none] (cRefs 0 (cCons [] (cMany (cCons [] (cVar 2) (cNil)) (bLen)) (cNil))) m__law_draw) (cNil)) mPopAt) (cNil)) mAppend))) (cRet (cMv 3))))
noncomputable def m__law_mixed : FSem := semOf 5 [true, false] (b__law_mixed)
noncomputable def b_Scale_check_class : Sg → R Fl := cIf (cOr (cNot (cTest (cCall [none, none] (cCons [] (cVar 1) (cCons [] (cLit (.int 0)) (cNil))) m_is_integer) dTru)) (cTest (cTwo [] (cVar 1) (cMany (cCons [] (cOne (cVar 0) (dFld 0 "rates")) (cNil)) (bLen)) oGe) dBool)) (cBad) (cNext)
noncomputable def m_Scale_check_class : FSem := semOf 2 [false, false] (b_Scale_check_class)
noncomputable def b_Scale_led : Sg → R Fl := cSeq (cExpr (cCall (none :: [none]) (cConsK (isObjD 0 "check_class") [] (cVar 0) (cCons [] (cVar 1) (cNil))) m_Scale_check_class)) (cSeq (cIf (cNot (cTest (cCall [none, none] (cCons [] (cVar 2) (cCons [] (cLit (.int 0)) (cNil))) m_is_integer) dTru)) (cBad) (cNext)) (cRet (cTwo [] (cTwo [] (cOne (cVar 0) (dFld 0 "moves")) (cVar 1) oIx) (cMany (cCons [] (cVar 2) (cCons [] (cTwo [] (cMany (cCons [] (cTwo [] (cOne (cVar 0) (dFld 0 "moves")) (cVar 1) oIx) (cNil)) (bLen)) (cLit (.int 1)) oSub) (cNil))) (bMin)) oIx)))
noncomputable def m_Scale_led : FSem := semOf 3 [false, false, false] (b_Scale_led)
noncomputable def b_Scale_classes : Sg → R Fl := cSeq (cExpr (cCall (none :: [none]) (cConsK (isObjD 0 "check_class") [] (cVar 0) (cCons [] (cVar 1) (cNil))) m_Scale_check_class)) (cSeq (cAsg (gSet false 3) (cMany (cCons [] (cVar 1) (cNil)) dLst)) (cSeq (cFor [3] (gSet true 4) (iSeq (cVar 2) .lst) (cExpr (cMutM isLst 3 [] (pVar 3) (cCons [] (cCall (none :: [none, none]) (cConsK (isObjD 0 "led") [] (cVar 0) (cCons [] (cTwo [] (cVar 3) (cOne (cLit (.int 1)) dNeg) oIx) (cCons [] (cVar 4) (cNil)))) m_Scale_led) (cNil)) mAppend))) (cRet (cMv 3))))
noncomputable def m_Scale_classes : FSem := semOf 5 [false, false, false] (b_Scale_classes)
noncomputable def b_Scale_bills : Sg → R Fl := cRet (cLc [3] [] (gSet true 3) (iSeq (cTwo [] (cCall (none :: [none, none]) (cConsK (isObjD 0 "classes") [] (cVar 0) (cCons [] (cVar 1) (cCons [] (cVar 2) (cNil)))) m_Scale_classes) (cOne (cLit (.int 1)) dNeg) dCutH) .lst) (cYes) (cTwo [] (cOne (cVar 0) (dFld 0 "rates")) (cVar 3) oIx))
noncomputable def m_Scale_bills : FSem := semOf 4 [false, false, false] (b_Scale_bills)
noncomputable def b_Scale_paid : Sg → R Fl := cRet (cMany (cCons [] (cCall (none :: [none, none]) (cConsK (isObjD 0 "bills") [] (cVar 0) (cCons [] (cVar 1) (cCons [] (cVar 2) (cNil)))) m_Scale_bills) (cNil)) (immV vSum))
noncomputable def m_Scale_paid : FSem := semOf 3 [false, false, false] (b_Scale_paid)
noncomputable def b__law_paid : Sg → R Fl := cRet (cMany (cCons [] (cLc [3] [] (gSet true 3) (iSeq (cTwo [] (cCall [none, none, none] (cCons [] (cVar 0) (cCons [] (cVar 1) (cCons [] (cVar 2) (cNil)))) m__law_classes) (cOne (cLit (.int 1)) dNeg) dCutH) .lst) (cYes) (cTwo [] (cTwo [] (cVar 0) (cLit (.int 0)) oIx) (cVar 3) oIx)) (cNil)) (immV vSum))
noncomputable def m__law_paid : FSem := semOf 4 [false, false, false] (b__law_paid)
noncomputable def b__law_row_right : Sg → R Fl := cSeq (cAsg (gSet true 5) (cMany (cCons [] (cVar 4) (cNil)) (bList))) (cSeq (cAsg (gSet true 6) (cCall [none, none, none] (cCons [] (cVar 2) (cCons [] (cVar 3) (cCons [] (cVar 4) (cNil)))) m__law_classes)) (cSeq (cFor [18, 18, 18, 9, 8] (gSet true 7) (iSeq (cCall [some 0, none] (cRefs 0 (cCons [] (cMany (cCons [] (cLit (.int 0)) (cCons [] (cLit (.int 1)) (cCons [] (cLit (.int 2)) (cCons [] (cLit (.int 0)) (cNil))))) dLst) (cNil))) m__law_mixed) .lst) (cSeq (cAsg (gSet false 8) (cMany (cCons [] (cCall (none :: [none, none]) (cConsK (isObjD 0 "paid") [] (cVar 1) (cCons [] (cVar 3) (cCons [] (cVar 4) (cNil)))) m_Scale_paid) (cNil)) dLst)) (cSeq (cIf (cTest (cTwo [] (cVar 7) (cLit (.int 0)) oEq) dBool) (cSeq (cAsg (gSet false 8) (cCall (none :: [none, none]) (cConsK (isObjD 0 "classes") [] (cVar 1) (cCons [] (cVar 3) (cCons [] (cVar 4) (cNil)))) m_Scale_classes)) (cIf (cTest (cTwo [] (cVar 8) (cVar 6) oNe) dBool) (cRet (cLit (.bl false))) (cNext))) (cNext)) (cSeq (cIf (cTest (cTwo [] (cVar 7) (cLit (.int 1)) oEq) dBool) (cSeq (cAsg (gSet false 8) (cCall (none :: [none, none]) (cConsK (isObjD 0 "bills") [] (cVar 1) (cCons [] (cVar 3) (cCons [] (cVar 4) (cNil)))) m_Scale_bills)) (cIf (cTest (cTwo [9] (cVar 8) (cLc [9] [] (gSet true 9) (iSeq (cTwo [] (cVar 6) (cOne (cLit (.int 1)) dNeg) dCutH) .lst) (cYes) (cTwo [] (cTwo [] (cVar 2) (cLit (.int 0)) oIx) (cVar 9) oIx)) oNe) dBool) (cRet (cLit (.bl false))) (cNext))) (cNext)) (cSeq (cIf (cAnd (cTest (cTwo [] (cVar 7) (cLit (.int 2)) oEq) dBool) (cTest (cTwo [] (cVar 8) (cMany (cCons [] (cCall [none, none, none] (cCons [] (cVar 2) (cCons [] (cVar 3) (cCons [] (cVar 4) (cNil)))) m__law_paid) (cNil)) dLst) oNe) dBool)) (cRet (cLit (.bl false))) (cNext)) (cExpr (cMutM isLst 8 [] (pVar 8) cNil mClear))))))) (cRet (cTwo [] (cVar 4) (cVar 5) oEq))))
noncomputable def m__law_row_right : FSem := semOf 10 [true, false, false, false, false] (b__law_row_right)
noncomputable def b__law_pick : Sg → R Fl := cRet (cTwo [0] (cVar 1) (cCall [some 0, none] (cRefs 0 (cCons [] (cMany (cCons [] (cVar 1) (cNil)) (bLen)) (cNil))) m__law_draw) oIx)
noncomputable def m__law_pick : FSem := semOf 2 [true, false] (b__law_pick)
noncomputable def b__law_row : Sg → R Fl := cSeq (cAsg (gSet true 2) (cTwo [0] (cMany (cCons [] (cLit (.int 2)) (cCons [] (cLit (.int 3)) (cCons [] (cLit (.int 6)) (cCons [] (cTwo [] (cLit (.int 10)) (cLit (.int 29)) oPow) (cNil))))) dLst) (cCall [some 0, none] (cRefs 0 (cCons [] (cLit (.int 4)) (cNil))) m__law_draw) oIx)) (cRet (cLc [3] [0] (gSet true 3) (iRng1F (cCons [] (cCall [some 0, none] (cRefs 0 (cCons [] (cTwo [] (cVar 1) (cLit (.int 1)) oAdd) (cNil))) m__law_draw) (cNil))) (cYes) (cCall [some 0, none] (cRefs 0 (cCons [] (cVar 2) (cNil))) m__law_draw)))
noncomputable def m__law_row : FSem := semOf 4 [true, false] (b__law_row)
noncomputable def b_Scale_premiums : Sg → R Fl := cRet (cMany (cCons [] (cOne (cVar 0) (dFld 0 "rates")) (cNil)) (bList))
noncomputable def m_Scale_premiums : FSem := semOf 1 [false] (b_Scale_premiums)
noncomputable def b_Scale_table : Sg → R Fl := cRet (cLc [1] [] (gSet true 1) (iSeq (cOne (cVar 0) (dFld 0 "moves")) .lst) (cYes) (cMany (cCons [] (cVar 1) (cNil)) (bList)))
noncomputable def m_Scale_table : FSem := semOf 2 [false] (b_Scale_table)
noncomputable def b_Scaledd_containsdd : Sg → R Fl := cRet (cAndV (cCall [none, none] (cCons [] (cVar 1) (cCons [] (cLit (.int 0)) (cNil))) m_is_integer) (cTwo [] (cVar 1) (cMany (cCons [] (cOne (cVar 0) (dFld 0 "rates")) (cNil)) (bLen)) oLt))
noncomputable def m_Scaledd_containsdd : FSem := semOf 2 [false, false] (b_Scaledd_containsdd)
noncomputable def b_Scaledd_lendd : Sg → R Fl := cRet (cMany (cCons [] (cOne (cVar 0) (dFld 0 "rates")) (cNil)) (bLen))
noncomputable def m_Scaledd_lendd : FSem := semOf 1 [false] (b_Scaledd_lendd)
noncomputable def b_Scale_columns : Sg → R Fl := cRet (cMany (cCons [] (cTwo [] (cOne (cVar 0) (dFld 0 "moves")) (cLit (.int 0)) oIx) (cNil)) (bLen))
noncomputable def m_Scale_columns : FSem := semOf 1 [false] (b_Scale_columns)
noncomputable def b__law_like : Sg → R Fl := cRet (cAndV (cTwo [] (cCall [none] (cConsK (isObjD 0 "premiums") [] (cVar 0) cNil) m_Scale_premiums) (cTwo [] (cVar 1) (cLit (.int 0)) oIx) oEq) (cTwo [] (cCall [none] (cConsK (isObjD 0 "table") [] (cVar 0) cNil) m_Scale_table) (cTwo [] (cVar 1) (cLit (.int 1)) oIx) oEq))
noncomputable def m__law_like : FSem := semOf 2 [false, false] (b__law_like)
noncomputable def b_Scale_premium : Sg → R Fl := cSeq (cExpr (cCall (none :: [none]) (cConsK (isObjD 0 "check_class") [] (cVar 0) (cCons [] (cVar 1) (cNil))) m_Scale_check_class)) (cRet (cTwo [] (cOne (cVar 0) (dFld 0 "rates")) (cVar 1) oIx))
noncomputable def m_Scale_premium : FSem := semOf 2 [false, false] (b_Scale_premium)
noncomputable def b_Scaledd_calldd : Sg → R Fl := cRet (cCall (none :: [none, none]) (cConsK (isObjD 0 "led") [] (cVar 0) (cCons [] (cVar 1) (cCons [] (cVar 2) (cNil)))) m_Scale_led)
noncomputable def m_Scaledd_calldd : FSem := semOf 3 [false, false, false] (b_Scaledd_calldd)
noncomputable def b__law_classes_asked : Sg → R Fl := cSeq (cAsg (gSet true 2) (cMany (cCons [] (cTwo [] (cVar 1) (cLit (.int 0)) oIx) (cNil)) (bLen))) (cSeq (cIf (cOr (cTest (cTwo [] (cOwn 0 isLenD (cVar 0) m_Scaledd_lendd) (cVar 2) oNe) dBool) (cOr (cTest (cTwo [] (cOwn 0 (fun _ => true) (cVar 0) m_Scale_columns) (cMany (cCons [] (cTwo [] (cTwo [] (cVar 1) (cLit (.int 1)) oIx) (cLit (.int 0)) oIx) (cNil)) (bLen)) oNe) dBool) (cNot (cTest (cCall [none, none] (cCons [] (cVar 0) (cCons [] (cVar 1) (cNil))) m__law_like) dTru)))) (cRet (cLit (.bl false))) (cNext)) (cSeq (cIf (cTest (cTwo [3] (cLc [3] [] (gSet true 3) (iRng2F (cCons [] (cOne (cLit (.int 2)) dNeg) (cCons [] (cTwo [] (cVar 2) (cLit (.int 3)) oAdd) (cNil)))) (cYes) (cInO 0 false [] (cVar 3) (cVar 0) m_Scaledd_containsdd)) (cLc [3] [] (gSet true 3) (iRng2F (cCons [] (cOne (cLit (.int 2)) dNeg) (cCons [] (cTwo [] (cVar 2) (cLit (.int 3)) oAdd) (cNil)))) (cYes) (cChain [] [] (cLit (.int 0)) (cVar 3) (cVar 2) oLe oLt)) oNe) dBool) (cRet (cLit (.bl false))) (cNext)) (cSeq (cIf (cOr (cTest (cInO 0 false [] (cTwo [] (cLit (.int 10)) (cLit (.int 29)) oPow) (cVar 0) m_Scaledd_containsdd) dBool) (cTest (cInO 0 false [] (cOne (cTwo [] (cLit (.int 10)) (cLit (.int 29)) oPow) dNeg) (cVar 0) m_Scaledd_containsdd) dBool)) (cRet (cLit (.bl false))) (cNext)) (cSeq (cFor [9] (gSet true 3) (iRng1F (cCons [] (cVar 2) (cNil))) (cSeq (cIf (cTest (cTwo [] (cCall (none :: [none]) (cConsK (isObjD 0 "premium") [] (cVar 0) (cCons [] (cVar 3) (cNil))) m_Scale_premium) (cTwo [] (cTwo [] (cVar 1) (cLit (.int 0)) oIx) (cVar 3) oIx) oNe) dBool) (cRet (cLit (.bl false))) (cNext)) (cFor [] (gSet true 4) (iSeq (cMany (cCons [] (cLit (.int 0)) (cCons [] (cLit (.int 1)) (cCons [] (cLit (.int 2)) (cCons [] (cLit (.int 3)) (cCons [] (cLit (.int 4)) (cCons [] (cLit (.int 5)) (cCons [] (cLit (.int 6)) (cCons [] (cTwo [] (cLit (.int 10)) (cLit (.int 29)) oPow) (cNil))))))))) dLst) .lst) (cIf (cTest (cTwo [] (cCall (none :: [none, none]) (cConsK (isInsD 0) [] (cVar 0) (cCons [] (cVar 3) (cCons [] (cVar 4) (cNil)))) m_Scaledd_calldd) (cCall [none, none, none] (cCons [] (cVar 1) (cCons [] (cVar 3) (cCons [] (cVar 4) (cNil)))) m__law_led) oNe) dBool) (cRet (cLit (.bl false))) (cNext))))) (cRet (cLit (.bl true)))))))
noncomputable def m__law_classes_asked : FSem := semOf 5 [false, false] (b__law_classes_asked)
noncomputable def b_law (scA : Option Addr) (scN : List Int) : Sg → R Fl := cSeq (cAsg (gSet false 1) (cCall [none] (cCons [] (cVar 0) (cNil)) (m__law_bag scA scN))) (cSeq (cAsg (gSet true 2) (cCall [some 1, none, none] (cRefs 1 (cCons [] (cLit (.int 12)) (cCons [] (cLit (.int 5)) (cNil)))) m__law_scale)) (cSeq (cAsg (gSet false 3) (cMany (cCons [] (cTwo [] (cVar 2) (cLit (.int 0)) oIx) (cNil)) (bList))) (cSeq (cAsg (gSet false 4) (cLc [5] [] (gSet true 5) (iSeq (cTwo [] (cVar 2) (cLit (.int 1)) oIx) .lst) (cYes) (cMany (cCons [] (cVar 5) (cNil)) (bList)))) (cSeq (cAsg (gSet true 6) (cMk 0 [none, none] (cCons [] (cVar 3) (cCons [] (cVar 4) (cNil))) m_Scaledd_initdd)) (cSeq (cIf (cOr (cTest (cTwo [] (cVar 3) (cTwo [] (cVar 2) (cLit (.int 0)) oIx) oNe) dBool) (cTest (cTwo [] (cVar 4) (cTwo [] (cVar 2) (cLit (.int 1)) oIx) oNe) dBool)) (cRet (cLit (.bl false))) (cNext)) (cSeq (cExpr (cMutM isLst 4 [] (pPick 1 4 [] (pVar 4) m__law_pick) (cCons [] (cLit (.int 7)) (cNil)) mAppend)) (cSeq (cOpenP 4 5 [5] (pIx 4 [1] (pVar 4) (cCall [some 1, none] (cRefs 1 (cCons [] (cMany (cCons [] (cVar 4) (cNil)) (bLen)) (cNil))) m__law_draw)) (cSetAt 5 [] (cLit (.int 99)) (pVar 5) (cLit (.int 0)) oSet)) (cSeq (cExpr (cMutM isLst 4 [] (pVar 4) cNil mClear)) (cSeq (cExpr (cMutM isLst 3 [] (pVar 3) cNil mClear)) (cSeq (cAsg (gSet false 7) (cLc [8] [1, 1] (gSet true 8) (iRng1F (cCons [] (cLit (.int 2)) (cNil))) (cYes) (cMany (cCons [1] (cCall [some 1, none] (cRefs 1 (cCons [] (cMany (cCons [] (cTwo [] (cVar 2) (cLit (.int 0)) oIx) (cNil)) (bLen)) (cNil))) m__law_draw) (cCons [] (cCall [some 1, none] (cRefs 1 (cCons [] (cLit (.int 8)) (cNil))) m__law_row) (cNil))) dTup))) (cSeq (cIf (cTest (cTwo [] (cCall [some 1, none] (cRefs 1 (cCons [] (cLit (.int 8)) (cNil))) m__law_draw) (cLit (.int 0)) oEq) dBool) (cSetAt 7 [] (cMany (cCons [1, 9] (cTwo [] (cTwo [] (cVar 7) (cLit (.int 1)) oIx) (cLit (.int 0)) oIx) (cCons [] (cLc [9] [1] (gSet true 9) (iRng1F (cCons [] (cLit (.int 2500)) (cNil))) (cYes) (cCall [some 1, none] (cRefs 1 (cCons [] (cLit (.int 3)) (cNil))) m__law_draw)) (cNil))) dTup) (pVar 7) (cLit (.int 1)) oSet) (cNext)) (cSeq (cFor [1, 22, 1, 10, 10] (gSet true 8) (iSeq (cMany (cCons [] (cLit (.int 0)) (cCons [] (cLit (.int 1)) (cCons [] (cLit (.int 0)) (cNil)))) dLst) .lst) (cSeq (cIf (cNot (cTest (cCall [some 1, none, none, none, none] (cRefs 1 (cCons [] (cVar 6) (cCons [] (cVar 2) (cCons [] (cTwo [] (cTwo [] (cVar 7) (cVar 8) oIx) (cLit (.int 0)) oIx) (cCons [] (cTwo [] (cTwo [] (cVar 7) (cVar 8) oIx) (cLit (.int 1)) oIx) (cNil)))))) m__law_row_right) dTru)) (cRet (cLit (.bl false))) (cNext)) (cSeq (cAsg (gSet false 10) (cMany (cCons [] (cCall [none] (cConsK (isObjD 0 "premiums") [] (cVar 6) cNil) m_Scale_premiums) (cCons [] (cCall [none] (cConsK (isObjD 0 "table") [] (cVar 6) cNil) m_Scale_table) (cNil))) dLst)) (cSeq (cExpr (cMutM isLst 10 [] (pPick 1 10 [] (pIx 10 [] (pVar 10) (cLit (.int 1))) m__law_pick) cNil mClear)) (cSeq (cExpr (cMutM isLst 10 [] (pIx 10 [] (pVar 10) (cLit (.int 0))) cNil mClear)) (cIf (cNot (cTest (cCall [none, none] (cCons [] (cVar 6) (cCons [] (cVar 2) (cNil))) m__law_classes_asked) dTru)) (cRet (cLit (.bl false))) (cNext))))))) (cSeq (cOpenP 7 11 [1, 11] (pIx 7 [] (pIx 7 [] (pVar 7) (cLit (.int 0))) (cLit (.int 1))) (cExpr (cMutM isLst 11 [1] (pVar 11) (cCons [] (cCall [some 1, none] (cRefs 1 (cCons [] (cLit (.int 6)) (cNil))) m__law_draw) (cNil)) mAppend))) (cRet (cCall [some 1, none, none, none, none] (cRefs 1 (cCons [] (cVar 6) (cCons [] (cVar 2) (cCons [] (cTwo [] (cTwo [] (cVar 7) (cLit (.int 0)) oIx) (cLit (.int 0)) oIx) (cCons [] (cVar 11) (cNil)))))) m__law_row_right)))))))))))))))
noncomputable def m_law (scA : Option Addr) (scN : List Int) : FSem := semOf 12 [false] (b_law scA scN)
end Law
end
section
open Lin
local macro_rules | `(tactic| simp_arith [$ts,*]) => do
  let ids ← ("kz_lst kz_tup kz_dic kz_dtu kz_obj kz_xd kz_scr ok_inO ownLst_en intD_I ok_var cap_nil cap_none cap_some own_im rdum_nil rdum_none rdum_cons backT_nil backT_val backT_tmp backT_ref ok_mv ok_lit ok_two ok_one ok_test ok_nil ok_cons ok_consK ok_many ok_and ok_or ok_not ok_andV ok_next ok_seq okF_nx okF_ret okF_brk okF_cnt ok_if ok_ret ok_expr ok_asg so_gset ok_mutE ok_setE ok_call ok_refs ok_for ok_iseqE ok_rg1 ok_rg2 ok_yes ok_chn imV_im ok_mk ok_lc okC_fin okC_finx raiV_t so_some if_true if_false ite_true ite_false reduceIte Bool.false_eq_true Bool.true_eq_false and_self true_and and_true false_and and_false or_false false_or not_true_eq_false not_false_eq_true ne_eq reduceCtorEq Bool.not_true Bool.not_false Bool.and_true Bool.true_and Bool.and_false Bool.false_and Bool.or_true Bool.true_or Bool.or_false Bool.false_or Bool.not_eq_true' Bool.not_eq_false' Bool.not_not decide_true decide_false decide_eq_true_eq decide_not decide_eq_false_iff_not List.getElem?_nil List.getElem?_cons_zero List.getElem?_cons_succ List.set_cons_zero List.set_cons_succ List.map_cons List.map_nil List.cons_append List.nil_append List.length_cons List.length_nil List.zip_cons_cons List.zip_nil_right List.all_cons List.all_nil List.filterMap_cons List.filterMap_nil List.replicate List.not_mem_nil List.mem_cons Option.isNone_none Option.isNone_some Option.map_some Option.map_none id_eq Nat.reduceAdd Nat.reduceSub Nat.reduceEqDiff Nat.zero_ne_one Kd.bor.injEq List.foldr_cons List.foldr_nil clean_nil clean_cons clean_non mk_im bor_im kill_im kill_none of_im fzIf_im fzIf_t fzIf_f en_mk bo_own bo_frz bo_par bo_bor fz_own fz_frz fz_par' fz_bor' pa_own pa_frz pa_par pa_bor re_own re_frz re_par re_bor bor_en kill_en kill_opt of_en en_im len_en len_enT ix_en ix_enT0 ix_enT1 list_en isi_en isi_int isi_bool tru_en seq_en not_B neg_I min_I max_I sorted_en eq_LN ne_LN eq_LLN ne_LLN it_en add_I sub_I lt_I le_I gt_I ge_I eq_I ne_I dbool_B dtru_B toInt_I toInt_B abs_I shOk_L ok_own xfD_some isXD_a cutH1 cutHN all_clean dLst_s dTup_s en_L0 Nat.reduceLT Nat.reduceLeDiff Int.reduceLT Int.reduceLE Int.reduceEq Nat.lt_add_left_iff_pos Nat.zero_add bor_nd kill_d of_nd mk_nd List.any_cons List.any_nil beq_self_eq_true en_LNp en_LNo en_LNb mut_clear argsD backS setAll usOf wipeS".splitOn " ").toArray.mapM fun n => `(Lean.Parser.Tactic.simpLemma| $(Lean.mkIdent n.toName):ident)
  let all : Array (Lean.TSyntax [`Lean.Parser.Tactic.simpStar, `Lean.Parser.Tactic.simpErase, `Lean.Parser.Tactic.simpLemma]) := ids.map (fun x => ⟨x.raw⟩) ++ ts.getElems.map (fun x => ⟨x.raw⟩)
  `(tactic| simp only [$all,*])
namespace Law
open PySem L2 Lin
theorem is_integer_ok (v l : Int) : m_is_integer [I v, I l] = .ok (B (decide (l ≤ v))) [] := by
  refine of_okC ?_
  unfold m_is_integer b_is_integer
  simp_arith [okC_sem]
theorem is_premium_ok (v : Int) : m_is_premium [I v] = .ok (B (decide (0 ≤ v) && decide (v ≤ 1000000))) [] := by
  refine of_okC ?_
  unfold m_is_premium b_is_premium
  simp_arith [okC_sem, okC_of (is_integer_ok _ _)]
  split <;> rename_i h
  · simp [h]
  · simp [h]
theorem bls_true {α : Type} (ns : List α) : dBls ((ns.map fun _ => true).map fun b => B b) = some (ns.map fun _ => true) := by
  induction ns with
  | nil => rfl
  | cons n r ih => simp only [List.map_cons, dBls, ih]; rfl
theorem all_true {α : Type} {k : Kd} (ns : List α) : immV vAll [.nd k .lst ((ns.map fun _ => true).map fun b => B b)] = some (B true) := by
  simp only [immV, vAll, bls_true, Option.map_some]
  simp
theorem are_premiums_ok (k c : Kd) (ns : List Nat) (h1 : 1 ≤ ns.length) (h2 : ns.length ≤ 12) (hp : ∀ x ∈ ns, x ≤ 1000000) : m_are_premiums [en k c (pL pN ns)] = .ok (B true) [] := by
  refine of_okC ?_
  unfold m_are_premiums b_are_premiums
  have e1 : (1 : Int) ≤ (ns.length : Int) := by omega
  have e2 : (ns.length : Int) ≤ 12 := by omega
  simp_arith [okC_sem, e1, e2]
  refine lc_map (e := fun x : Nat => I x) (h := fun b => B b) (w := fun _ => true) (by omega) rfl (fun _ _ => rfl) ?_ ?_
  · intro y hy
    have := hp y hy
    simp_arith [okC_of (is_premium_ok _), show (0 : Int) ≤ (y : Int) by omega, show (y : Int) ≤ 1000000 by omega]
  · simp_arith [all_true]
theorem are_moves_ok (k c' : Kd) (ns : List Nat) (c w : Nat) (hw : ns.length = w) (hw1 : 1 ≤ w) (hw5 : w ≤ 5) (hp : ∀ x ∈ ns, x < c) : m_are_moves [en k c' (pL pN ns), I c, I w] = .ok (B true) [] := by
  refine of_okC ?_
  unfold m_are_moves b_are_moves
  subst hw
  have e1 : (1 : Int) ≤ (ns.length : Int) := by omega
  have e2 : (ns.length : Int) ≤ 5 := by omega
  simp_arith [okC_sem, e1, e2]
  refine lc_map (e := fun x : Nat => I x) (h := fun b => B b) (w := fun _ => true) (by omega) rfl (fun _ _ => rfl) ?_ ?_
  · intro y hy
    have := hp y hy
    simp_arith [okC_of (is_integer_ok _ _), show (0 : Int) ≤ (y : Int) by omega, show (y : Int) < (c : Int) by omega]
  · simp_arith [all_true]
/-- a table that is let -/
structure Tab (t : List (List Nat)) (n w : Nat) : Prop where
  len : t.length = n
  n1 : 1 ≤ n
  n12 : n ≤ 12
  w1 : 1 ≤ w
  w5 : w ≤ 5
  row : ∀ r ∈ t, r.length = w ∧ ∀ x ∈ r, x < n
theorem is_table_ok (k : Kd) {t : List (List Nat)} {n w : Nat} (h : Tab t n w) : m_is_table [en k k (pL (pL pN) t), I n] = .ok (B true) [] := by
  refine of_okC ?_
  unfold m_is_table b_is_table
  have h0 : 0 < t.length := by have := h.len; have := h.n1; omega
  have e0 : oIx (en (kBo 0 k) (kBo 0 k) (pL (pL pN) t)) (D.im (V.int 0)) = some (en (kBo 0 k) (kBo 0 k) (pL pN t[0])) := ix_en (i := 0) h0
  have hl := h.len
  simp_arith [okC_sem, h.len, e0]
  refine lc_map (e := fun r : List Nat => en (kFz (kBo 0 k)) (kFz (kBo 0 k)) (pL pN r)) (h := fun b => B b) (w := fun _ => true) (by have := h.n12; omega) rfl (fun r _ => by rw [en_mk]; congr 1 <;> (cases k <;> rfl)) ?_ ?_
  · intro y hy
    obtain ⟨q1, q2⟩ := h.row y hy
    have w0 : (t[0]).length = w := (h.row _ (List.getElem_mem h0)).1
    simp_arith [okC_of (are_moves_ok _ _ y n w q1 h.w1 h.w5 q2), e0, w0]
  · simp_arith [all_true]
/-- a scale -/
def sc (p : List Nat) (t : List (List Nat)) : P := pO 0 ["rates", "moves"] [pL pN p, pL (pL pN) t]
structure Good (p : List Nat) (t : List (List Nat)) (w : Nat) : Prop where
  tab : Tab t p.length w
  prem : ∀ x ∈ p, x ≤ 1000000
theorem init_ok {p : List Nat} {t : List (List Nat)} {w : Nat} (h : Good p t w) : m_Scaledd_initdd [.nd .own (.obj 0 []) [], en .par .frz (pL pN p), en .par .par (pL (pL pN) t)] = .ok (.im .non) [en .own .own (sc p t)] := by
  refine of_okC ?_
  unfold m_Scaledd_initdd b_Scaledd_initdd
  have e1 : ∀ K d, Lin.SetAt (sAttr 0 "rates") (.nd .own (.obj 0 []) []) (.im .non) d K = K (.nd .own (.obj 0 ["rates"]) [d]) := fun K d => by
    show So _ _ = _
    simp only [sAttr]; rw [if_pos ⟨trivial, rfl, by simp⟩, so_some]; rfl
  have e2 : ∀ K d d', Lin.SetAt (sAttr 0 "moves") (.nd .own (.obj 0 ["rates"]) [d]) (.im .non) d' K = K (.nd .own (.obj 0 ["rates", "moves"]) [d, d']) := fun K d d' => by
    show So _ _ = _
    simp only [sAttr]; rw [if_pos ⟨trivial, rfl, by simp⟩, so_some]; rfl
  simp_arith [okC_sem, okC_of (are_premiums_ok _ _ p h.tab.n1 h.tab.n12 h.prem), okC_of (is_table_ok _ h.tab), e1]
  refine lc_map (h := fun r : List Nat => en .own .frz (pL pN r)) (w := id) (by have := h.tab.len; have := h.tab.n12; omega) rfl (fun r _ => by rw [en_mk]; rfl) ?_ ?_
  · intro y hy
    simp_arith []
  · simp_arith [List.map_id, fold_LL, e2, sc, en_pO]
end Law
open Lin
namespace Law
open PySem L2 Lin
def bagD (cs : List Int) (p cur mix cnt : Int) : D := .nd .own .lst [iL .own cs, I p, I cur, I mix, I cnt]
section
variable (cs : List Int) (p cur mix cnt : Int)
theorem bag_kinds : (bagD cs p cur mix cnt).kinds = [.own, .own] := by
  unfold bagD
  simp [D.kinds, kindsL, kinds_iL]
theorem bag_bor (r : Nat) : hasBor r (bagD cs p cur mix cnt) = false := bor_raw (by rw [bag_kinds]; simp)
theorem bag_kill (r : Nat) : killD r (some (bagD cs p cur mix cnt)) = some (bagD cs p cur mix cnt) := kill_d (bag_bor cs p cur mix cnt r)
theorem bag_of : ofD (bagD cs p cur mix cnt) = true := of_raw (by rw [bag_kinds]; simp)
theorem bag_0 (i : Nat) : oIx ((bagD cs p cur mix cnt).mk (kBo i)) (I 0) = some (iL (.bor i) cs) := by
  unfold bagD; simp [D.mk, mkDL, iL_mk, kBo, oIx, dIx, atI, ixN]
theorem bag_1 (i : Nat) : oIx ((bagD cs p cur mix cnt).mk (kBo i)) (I 1) = some (I p) := by
  unfold bagD; simp [D.mk, mkDL, iL_mk, kBo, oIx, dIx, atI, ixN]
theorem bag_2 (i : Nat) : oIx ((bagD cs p cur mix cnt).mk (kBo i)) (I 2) = some (I cur) := by
  unfold bagD; simp [D.mk, mkDL, iL_mk, kBo, oIx, dIx, atI, ixN]
theorem bag_3 (i : Nat) : oIx ((bagD cs p cur mix cnt).mk (kBo i)) (I 3) = some (I mix) := by
  unfold bagD; simp [D.mk, mkDL, iL_mk, kBo, oIx, dIx, atI, ixN]
theorem bag_4 (i : Nat) : oIx ((bagD cs p cur mix cnt).mk (kBo i)) (I 4) = some (I cnt) := by
  unfold bagD; simp [D.mk, mkDL, iL_mk, kBo, oIx, dIx, atI, ixN]
variable (v : Int) (K : D → Prop)
theorem bag_s1 : Lin.SetAt oSet (bagD cs p cur mix cnt) (I 1) (I v) K = K (bagD cs v cur mix cnt) := by
  simp [bagD, Lin.SetAt, oSet, sLst, ixN, so_some]
theorem bag_s2 : Lin.SetAt oSet (bagD cs p cur mix cnt) (I 2) (I v) K = K (bagD cs p v mix cnt) := by
  simp [bagD, Lin.SetAt, oSet, sLst, ixN, so_some]
theorem bag_s3 : Lin.SetAt oSet (bagD cs p cur mix cnt) (I 3) (I v) K = K (bagD cs p cur v cnt) := by
  simp [bagD, Lin.SetAt, oSet, sLst, ixN, so_some]
theorem bag_s4 : Lin.SetAt oSet (bagD cs p cur mix cnt) (I 4) (I v) K = K (bagD cs p cur mix v) := by
  simp [bagD, Lin.SetAt, oSet, sLst, ixN, so_some]
end
theorem mul1 {a b : Int} (h : b = 0 ∨ b = 1) : oMul (I a) (I b) = some (I (a * b)) := mul_r (by omega) (by omega)
theorem draw_ok (cs : List Int) (p cur mix cnt n : Int) (hp : 0 ≤ p) (hc : 0 ≤ cur) (hn : 0 < n) (hn2 : n < 1000000000000000000000000000000) :
    OkCE NoC (m__law_draw [bagD cs p cur mix cnt, I n]) fun d ms => ∃ v p' cur' mix' cnt', d = I v ∧ ms = [bagD cs p' cur' mix' cnt'] ∧ 0 ≤ p' ∧ 0 ≤ cur' ∧ 0 ≤ v ∧ v < n := by
  unfold m__law_draw b__law_draw
  rw [okC_sem]
  refine seq_cut (A := fun S => S = [some (bagD cs p cur mix (cnt + 1)), some (I n), none, none, none]) ?_ ?_
  · simp_arith [bag_4, bag_s4, bag_kill]
  rintro _ rfl
  refine seq_cut (A := fun S => ∃ p cur mix cnt, ∃ o : Option Int, S = [some (bagD cs p cur mix cnt), some (I n), o.map (fun i => I i), none, none] ∧ 0 ≤ p ∧ 0 ≤ cur) ?_ ?_
  · simp_arith [bag_2, bag_1, bag_0, len_iL]
    by_cases h0 : cur = 0
    · by_cases h1 : p < (cs.length : Int)
      · obtain ⟨x, hx⟩ : ∃ x, cs[p.toNat]? = some x := ⟨cs[p.toNat]'(by omega), List.getElem?_eq_getElem _⟩
        subst h0
        have hx01 : ∀ c : Prop, ∀ _ : Decidable c, (if c then (1 : Int) else 0) = 0 ∨ (if c then (1 : Int) else 0) = 1 := fun c _ => by split <;> simp
        simp_arith [h1, bag_2, bag_1, bag_0, bag_3, ix_iL hp hx, bag_s1, bag_s2, bag_s3, bag_kill, mul_l (a := 2) (by decide) (by decide), pow_I (a := 10) (b := 18) (by decide) (by decide) (by decide), mul1 (hx01 _ _), mul_r (b := 48271) (by decide) (by decide), mul_r (b := 69621) (by decide) (by decide), mod_I (b := 2147483647) (by decide)]
        refine ⟨_, _, _, _, some x, rfl, by omega, Int.mul_nonneg (Int.add_nonneg (Int.mul_nonneg (by decide) (by split <;> omega)) (by split <;> omega)) (by split <;> omega)⟩
      · simp_arith [h0, h1]
        exact ⟨p, 0, mix, cnt + 1, none, by subst h0; rfl, hp, by omega⟩
    · simp_arith [h0]
      exact ⟨p, cur, mix, cnt + 1, none, rfl, hp, hc⟩
  · rintro S ⟨p, cur, mix, cnt, o, rfl, hp, hc⟩
    have ko : ∀ r, killD r (o.map fun i => I i) = o.map fun i => I i := fun r => by cases o <;> rfl
    simp_arith [bag_2, mod_I hn]
    by_cases h0 : 0 < cur
    · simp_arith [h0, bag_2, div_I hn hn2, bag_s2, bag_kill, ko, bag_of]
      have h1 := Int.ediv_nonneg hc (show 0 ≤ n by omega)
      have h2 := Int.emod_nonneg cur (show n ≠ 0 by omega)
      have h3 := Int.emod_lt_of_pos cur hn
      exact ⟨_, _, _, _, _, rfl, rfl, hp, h1, h2, h3⟩
    · have b1 : ∀ z : Int, (z % 2147483647).natAbs < 18446744073709551616 := fun z => by omega
      have b2 : ∀ z : Int, (z % 2147483629).natAbs < 18446744073709551616 := fun z => by omega
      simp_arith [h0, bag_3, bag_4, mul_r (b := 40692) (by decide) (by decide), mod_I (b := 2147483647) (by decide), pow_I (b := 3) (by decide) (by decide) (b1 _), mul_r (b := 16807) (by decide) (by decide), mod_I (b := 2147483629) (by decide), pow_I (b := 2) (by decide) (by decide) (b2 _), mod_I (b := 2147483587) (by decide), div_I (b := 8) (by decide) (by decide), mod_I hn, bag_of]
      exact ⟨_, _, _, _, _, rfl, rfl, hp, hc, Int.emod_nonneg _ (by omega), Int.emod_lt_of_pos _ hn⟩
/-- the bag -/
structure Bag where
  cs : List Int
  p : Int
  cur : Int
  mix : Int
  cnt : Int
  hp : 0 ≤ p
  hc : 0 ≤ cur
def bg (b : Bag) : D := bagD b.cs b.p b.cur b.mix b.cnt
theorem bg_bor (b : Bag) (r : Nat) : hasBor r (bg b) = false := bag_bor ..
theorem bg_kill (b : Bag) (r : Nat) : killD r (some (bg b)) = some (bg b) := bag_kill ..
theorem bg_of (b : Bag) : ofD (bg b) = true := bag_of ..
theorem draw_ex (b : Bag) (n : Int) : ∃ q : Nat × Bag, 0 < n → n < 1000000000000000000000000000000 → m__law_draw [bg b, I n] = .ok (I (q.1 : Int)) [bg q.2] ∧ (q.1 : Int) < n := by
  by_cases hn : 0 < n ∧ n < 1000000000000000000000000000000
  · obtain ⟨d, ms, e, v, p', cur', mix', cnt', rfl, rfl, h1, h2, h3, h4⟩ := (draw_ok b.cs b.p b.cur b.mix b.cnt n b.hp b.hc hn.1 hn.2).get
    refine ⟨(v.toNat, ⟨b.cs, p', cur', mix', cnt', h1, h2⟩), fun _ _ => ⟨?_, by show ((v.toNat : Nat) : Int) < n; omega⟩⟩
    show m__law_draw [bg b, I n] = .ok (I ((v.toNat : Nat) : Int)) _
    rw [Int.toNat_of_nonneg h3]
    exact e
  · exact ⟨(0, b), fun h1 h2 => absurd ⟨h1, h2⟩ hn⟩
noncomputable def dv (b : Bag) (n : Int) : Nat := (draw_ex b n).choose.1
noncomputable def db (b : Bag) (n : Int) : Bag := (draw_ex b n).choose.2
theorem dv_lt {b : Bag} {n : Int} (h1 : 0 < n) (h2 : n < 1000000000000000000000000000000) : (dv b n : Int) < n := ((draw_ex b n).choose_spec h1 h2).2
theorem dv_ltN {b : Bag} {n : Nat} (h1 : 0 < n) (h2 : n < 1000000000000000000000000000000) : dv b (n : Int) < n := by have := dv_lt (b := b) (n := (n : Int)) (by omega) (by omega); omega
theorem okC_draw {Ec : EC} {b : Bag} {n : Int} {Q : D → List D → Prop} (h1 : 0 < n) (h2 : n < 1000000000000000000000000000000) : OkCE Ec (m__law_draw [bg b, I n]) Q = Q (I (dv b n : Int)) [bg (db b n)] := okC_of ((draw_ex b n).choose_spec h1 h2).1
end Law
open Lin
namespace Law
open PySem L2 Lin
def pl (p : List Nat) (t : List (List Nat)) : P := pT [pL pN p, pL (pL pN) t]
/-- .. as it is told: its lists are the caller's own -/
def plO (p : List Nat) (t : List (List Nat)) : D := .nd .own .tup [en .own .frz (pL pN p), en .own .frz (pL (pL pN) t)]
theorem plO_mk (p : List Nat) (t : List (List Nat)) : (plO p t).mk kFz = en .frz .frz (pl p t) := by
  unfold plO pl
  rw [mk_nd, en_pT]
  simp only [List.map_cons, List.map_nil, en_mk]
  rfl
theorem plO_fz (p : List Nat) (t : List (List Nat)) : fzIf true (plO p t) = en .frz .frz (pl p t) := plO_mk p t
theorem plO_of (p : List Nat) (t : List (List Nat)) : ofD (plO p t) = true := by
  unfold plO
  rw [of_nd]
  simp only [List.all_cons, List.all_nil, of_en (k := .own) (c := .frz) (.inl rfl) (.inr rfl)]
  rfl
theorem ixL3 {a b c : D} {k : Kd} {i : Nat} (h : i < 3) {z : D} (hz : [a, b, c][i]? = some z) : oIx (.nd k .lst [a, b, c]) (I (i : Int)) = some z := ix_lst (by omega) (by simpa using hz)
theorem rg2_one {n : Nat} (h : n < 1000000) : rg2 [I 1, I (n : Int)] = some (.im .non, (List.range (n - 1)).map fun k : Nat => I ((1 + k : Nat) : Int)) := rg2_eq (m := 1) (by decide) h
theorem scale_ok (b : Bag) (n m : Nat) (hn : 1 ≤ n) (hn2 : n ≤ 12) (hm : 1 ≤ m) (hm2 : m ≤ 5) : OkCE NoC (m__law_scale [bg b, I n, I m]) fun d ms => ∃ p t w b', d = plO p t ∧ ms = [bg b'] ∧ Good p t w ∧ p.length ≤ n ∧ w ≤ m := by
  unfold m__law_scale b__law_scale
  rw [okC_sem]
  refine seq_cut (A := fun S => ∃ b', ∃ c : Nat, S = [some (bg b'), some (I n), some (I m), some (I c), none, none, none, none, none, none, none, none] ∧ 1 ≤ c ∧ c ≤ n) ?_ ?_
  · have hd : dv b (n : Int) < n := dv_ltN (by omega) (by omega)
    simp_arith [bg_kill, bg_bor, bg_of, okC_draw (b := b) (n := (n : Int)) (by omega) (by omega)]
    exact ⟨_, 1 + dv b n, by rw [Int.natCast_add]; rfl, by omega, by omega⟩
  rintro _ ⟨b, c, rfl, hc1, hc2⟩
  refine seq_cut (A := fun S => ∃ b', ∃ w : Nat, S = [some (bg b'), some (I n), some (I m), some (I c), some (I w), none, none, none, none, none, none, none] ∧ 1 ≤ w ∧ w ≤ m) ?_ ?_
  · have hd : dv b (m : Int) < m := dv_ltN (by omega) (by omega)
    simp_arith [bg_kill, bg_bor, bg_of, okC_draw (b := b) (n := (m : Int)) (by omega) (by omega)]
    exact ⟨_, 1 + dv b m, by rw [Int.natCast_add]; rfl, by omega, by omega⟩
  rintro _ ⟨b, w, rfl, hw1, hw2⟩
  refine seq_cut (A := fun S => ∃ b', ∃ z : Nat, S = [some (bg b'), some (I n), some (I m), some (I c), some (I w), some (I z), none, none, none, none, none, none] ∧ 1 ≤ z ∧ z ≤ 1000001) ?_ ?_
  · have hd := dv_lt (b := b) (n := 3) (by decide) (by decide)
    simp_arith [bg_kill, bg_bor, bg_of, okC_draw (b := b) (n := 3) (by decide) (by decide)]
    generalize dv b 3 = j at hd
    have : j = 0 ∨ j = 1 ∨ j = 2 := by omega
    rcases this with rfl | rfl | rfl
    · rw [ixL3 (z := I 3) (by omega) rfl]; simp_arith []; exact ⟨_, 3, rfl, by omega, by omega⟩
    · rw [ixL3 (z := I 50) (by omega) rfl]; simp_arith []; exact ⟨_, 50, rfl, by omega, by omega⟩
    · rw [ixL3 (z := I 1000001) (by omega) rfl]; simp_arith []; exact ⟨_, 1000001, rfl, by omega, by omega⟩
  rintro _ ⟨b, z, rfl, hz1, hz2⟩
  refine seq_cut (A := fun S => ∃ b', ∃ p : List Nat, S = [some (bg b'), some (I n), some (I m), some (I c), some (I w), some (I z), some (en .own .frz (pL pN p)), none, none, none, none, none] ∧ p.length = c ∧ ∀ x ∈ p, x ≤ 1000000) ?_ ?_
  · simp_arith [rg1_eq (show c < 1000000 by omega)]
    refine lc_inv (Inv := fun j S acc => ∃ b', ∃ p : List Nat, S = [some (bg b'), some (I n), some (I m), some (I c), some (I w), some (I z), none, none, none, none, none, none] ∧ acc = p.map (fun x : Nat => I x) ∧ p.length = j ∧ ∀ x ∈ p, x ≤ 1000000) ?_ ?_ ?_
    · rintro i y S acc hy ⟨b', p, rfl, rfl, hl, hp⟩
      have hd : dv b' (z : Int) < z := dv_ltN (by omega) (by omega)
      have hi := (List.getElem?_eq_some_iff.mp hy).1
      simp_arith [bg_kill, bg_bor, bg_of, okC_draw (b := b') (n := (z : Int)) (by omega) (by omega)]
      refine ⟨small_size (by simp at hi ⊢; omega), _, p ++ [dv b' z], rfl, by simp, by simp [hl], ?_⟩
      intro x hx
      rcases List.mem_append.mp hx with h | h
      · exact hp x h
      · simp at h; omega
    · rintro S acc ⟨b', p, rfl, rfl, hl, hp⟩
      simp_arith [fold_LN]
      exact ⟨_, p, rfl, by simpa using hl, hp⟩
    · exact ⟨b, [], rfl, rfl, rfl, by simp⟩
  rintro _ ⟨b, p, rfl, hpl, hpp⟩
  refine seq_cut (A := fun S => S = [some (bg b), some (I n), some (I m), some (I c), some (I w), some (I z), some (en .own .frz (pL pN p)), none, some (en .own .frz (pL (pL pN) [])), none, none, none]) ?_ ?_
  · simp_arith []
  rintro _ rfl
  refine seq_cut (A := fun S => ∃ b' t, ∃ o7 : Option Nat, ∃ o9 : Option P, S = [some (bg b'), some (I n), some (I m), some (I c), some (I w), some (I z), some (en .own .frz (pL pN p)), o7.map fun i : Nat => I i, some (en .own .frz (pL (pL pN) t)), o9.map (en .frz .frz), none, none] ∧ t.length = c ∧ ∀ r ∈ t, r.length = w ∧ ∀ x ∈ r, x < c) ?_ ?_
  · simp_arith [rg1_eq (show c < 1000000 by omega)]
    refine for_inv (Inv := fun i S => ∃ b' t, ∃ o7 : Option Nat, ∃ o9 : Option P, S = [some (bg b'), some (I n), some (I m), some (I c), some (I w), some (I z), some (en .own .frz (pL pN p)), o7.map fun i : Nat => I i, some (en .own .frz (pL (pL pN) t)), o9.map (en .frz .frz), none, none] ∧ t.length = i ∧ ∀ r ∈ t, r.length = w ∧ ∀ x ∈ r, x < c) ?_ ?_ ?_
    · rintro i y S hy ⟨b, t, o7, o9, rfl, hl, ht⟩
      obtain ⟨hi, hy⟩ := List.getElem?_eq_some_iff.mp hy
      rw [List.getElem_range] at hy
      subst hy
      rw [List.length_range] at hi
      rw [so_gset, fzIf_im]
      refine seq_cut (A := fun S => ∃ b', ∃ r : List Nat, S = [some (bg b'), some (I n), some (I m), some (I c), some (I w), some (I z), some (en .own .frz (pL pN p)), some (I i), some (en .own .frz (pL (pL pN) t)), some (en .frz .frz (pL pN r)), none, none] ∧ r.length = w ∧ ∀ x ∈ r, x < c) ?_ ?_
      · simp_arith [rg1_eq (show w < 1000000 by omega)]
        refine lc_inv (Inv := fun j S acc => ∃ b', ∃ r : List Nat, S = [some (bg b'), some (I n), some (I m), some (I c), some (I w), some (I z), some (en .own .frz (pL pN p)), some (I i), some (en .own .frz (pL (pL pN) t)), o9.map (en .frz .frz), none, none] ∧ acc = r.map (fun x : Nat => I x) ∧ r.length = j ∧ ∀ x ∈ r, x < c) ?_ ?_ ?_
        · rintro j y S acc hy ⟨b', r, rfl, rfl, hl, hr⟩
          have hd : dv b' (c : Int) < c := dv_ltN (by omega) (by omega)
          have hj := (List.getElem?_eq_some_iff.mp hy).1
          simp_arith [bg_kill, bg_bor, bg_of, okC_draw (b := b') (n := (c : Int)) (by omega) (by omega)]
          refine ⟨small_size (by simp at hj ⊢; omega), _, r ++ [dv b' c], rfl, by simp, by simp [hl], ?_⟩
          intro x hx
          rcases List.mem_append.mp hx with h | h
          · exact hr x h
          · simp at h; omega
        · rintro S acc ⟨b', r, rfl, rfl, hl, hr⟩
          simp_arith [fold_LN]
          exact ⟨_, r, rfl, by simpa using hl, hr⟩
        · exact ⟨b, [], rfl, rfl, rfl, by simp⟩
      rintro _ ⟨b, r, rfl, hr1, hr2⟩
      refine seq_cut (A := fun S => ∃ b', ∃ r : List Nat, S = [some (bg b'), some (I n), some (I m), some (I c), some (I w), some (I z), some (en .own .frz (pL pN p)), some (I i), some (en .own .frz (pL (pL pN) t)), some (en .frz .frz (pL pN r)), none, none] ∧ r.length = w ∧ ∀ x ∈ r, x < c) ?_ ?_
      · simp_arith [bg_kill, bg_bor, bg_of, okC_draw (b := b) (n := 3) (by decide) (by decide)]
        split
        · simp_arith [rg2_one (show w < 1000000 by omega)]
          refine lc_map (h := fun x : Nat => I x) (w := fun k => min (i + (1 + k)) (c - 1)) (by simp; omega) rfl (fun _ _ => rfl) ?_ ?_
          · intro y hy
            simp_arith []
            congr 2
            split <;> omega
          · have e : (if (0 : Int) > (i : Int) - 1 then 0 else (i : Int) - 1) = ((i - 1 : Nat) : Int) := by split <;> omega
            rw [e, cat_raw (by simp; omega), so_some, so_gset, okF_nx]
            refine ⟨db b 3, (i - 1) :: (List.range (w - 1)).map (fun k => min (i + (1 + k)) (c - 1)), ?_, by simp; omega, ?_⟩
            · simp only [List.set_cons_succ, List.set_cons_zero, fzIf_t, mk_nd, fz_own, en_pL]
              simp [mk_im, en_im]
            · intro x hx
              rcases List.mem_cons.mp hx with rfl | hx
              · omega
              · obtain ⟨k, _, rfl⟩ := List.mem_map.mp hx
                omega
        · exact ⟨_, r, rfl, hr1, hr2⟩
      rintro _ ⟨b, r, rfl, hr1, hr2⟩
      simp_arith [bg_kill, mut_app (g := pL pN) (show t.length < 1000000 by omega)]
      refine ⟨_, _, some i, some (pL pN r), rfl, by simp [hl], ?_⟩
      intro r' h
      rcases List.mem_append.mp h with h | h
      · exact ht r' h
      · simp at h; subst h; exact ⟨hr1, hr2⟩
    · rintro S ⟨b, t, o7, o9, rfl, hl, ht⟩
      exact ⟨b, t, o7, o9, rfl, by simpa using hl, ht⟩
    · exact ⟨b, [], none, none, rfl, rfl, by simp⟩
  rintro _ ⟨b, t, o7, o9, rfl, htl, htr⟩
  refine seq_cut (A := fun S => ∃ b', ∃ p : List Nat, S = [some (bg b'), some (I n), some (I m), some (I c), some (I w), some (I z), some (en .own .frz (pL pN p)), o7.map fun i : Nat => I i, some (en .own .frz (pL (pL pN) t)), o9.map (en .frz .frz), none, none] ∧ p.length = c ∧ ∀ x ∈ p, x ≤ 1000000) ?_ ?_
  · have k7 : ∀ r, killD r (o7.map fun i : Nat => I i) = o7.map fun i : Nat => I i := fun r => by cases o7 <;> rfl
    simp_arith [bg_kill, bg_bor, bg_of, k7, okC_draw (b := b) (n := 3) (by decide) (by decide)]
    split
    · refine lc_map (h := fun x : Nat => I x) (w := id) (by simp [sortN]; omega) rfl (fun _ _ => rfl) ?_ ?_
      · intro y hy
        simp_arith []
      · simp_arith [List.map_id, fold_LN]
        refine ⟨_, sortN p, rfl, by simp [sortN, hpl], ?_⟩
        intro x hx
        exact hpp x (by simpa [sortN] using hx)
    · exact ⟨_, p, rfl, hpl, hpp⟩
  rintro _ ⟨b, p, rfl, hpl, hpp⟩
  have k7 : ∀ r, killD r (o7.map fun i : Nat => I i) = o7.map fun i : Nat => I i := fun r => by cases o7 <;> rfl
  have k9 : ∀ r, killD r (o9.map (en .frz .frz)) = o9.map (en .frz .frz) := fun r => kill_opt (by simp) (by simp) _
  simp_arith [bg_of, bg_kill, bg_bor, k7, k9]
  refine ⟨p, t, w, b, ?_, rfl, ⟨⟨by omega, by omega, by omega, hw1, by omega, by rw [hpl]; exact htr⟩, hpp⟩, by omega, hw2⟩
  rfl
theorem scale_ex (b : Bag) (n m : Int) : ∃ q : (List Nat × List (List Nat)) × Bag, 1 ≤ n → n ≤ 12 → 1 ≤ m → m ≤ 5 → m__law_scale [bg b, I n, I m] = .ok (plO q.1.1 q.1.2) [bg q.2] ∧ ∃ w : Nat, Good q.1.1 q.1.2 w ∧ (q.1.1.length : Int) ≤ n ∧ (w : Int) ≤ m := by
  by_cases h : (1 ≤ n ∧ n ≤ 12) ∧ 1 ≤ m ∧ m ≤ 5
  · obtain ⟨d, ms, e, p, t, w, b', rfl, rfl, g, h1, h2⟩ := (scale_ok b n.toNat m.toNat (by omega) (by omega) (by omega) (by omega)).get
    rw [Int.toNat_of_nonneg (by omega), Int.toNat_of_nonneg (by omega)] at e
    exact ⟨((p, t), b'), fun _ _ _ _ => ⟨e, w, g, by show (p.length : Int) ≤ n; omega, by omega⟩⟩
  · exact ⟨(([], []), b), fun h1 h2 h3 h4 => absurd ⟨⟨h1, h2⟩, h3, h4⟩ h⟩
noncomputable def scP (b : Bag) (n m : Int) : List Nat := (scale_ex b n m).choose.1.1
noncomputable def scT (b : Bag) (n m : Int) : List (List Nat) := (scale_ex b n m).choose.1.2
noncomputable def scB (b : Bag) (n m : Int) : Bag := (scale_ex b n m).choose.2
theorem okC_scale {Ec : EC} {b : Bag} {n m : Int} {Q : D → List D → Prop} (h1 : 1 ≤ n) (h2 : n ≤ 12) (h3 : 1 ≤ m) (h4 : m ≤ 5) : OkCE Ec (m__law_scale [bg b, I n, I m]) Q = Q (plO (scP b n m) (scT b n m)) [bg (scB b n m)] := okC_of ((scale_ex b n m).choose_spec h1 h2 h3 h4).1
theorem scale_good {b : Bag} {n m : Int} (h1 : 1 ≤ n) (h2 : n ≤ 12) (h3 : 1 ≤ m) (h4 : m ≤ 5) : ∃ w : Nat, Good (scP b n m) (scT b n m) w ∧ ((scP b n m).length : Int) ≤ n ∧ (w : Int) ≤ m := ((scale_ex b n m).choose_spec h1 h2 h3 h4).2
end Law
open Lin
namespace Law
open PySem L2 Lin
/-- a scale's fields -/
theorem fld_rates {k c : Kd} {p : List Nat} {t : List (List Nat)} : dFld 0 "rates" (en k c (sc p t)) = some (en c .frz (pL pN p)) := by
  unfold sc; rw [en_pO]
  simp only [dFld, if_true, List.map_cons, List.zip_cons_cons, List.lookup_cons, beq_self_eq_true]
  rw [en_pL, en_pL]; rfl
theorem str_ne : ("moves" : Str) ≠ "rates" := by decide
theorem fld_moves {k c : Kd} {p : List Nat} {t : List (List Nat)} : dFld 0 "moves" (en k c (sc p t)) = some (en c c (pL (pL pN) t)) := by
  unfold sc; rw [en_pO]
  have : (("moves" : Str) == "rates") = false := by simpa using str_ne
  simp only [dFld, if_true, List.map_cons, List.zip_cons_cons, List.lookup_cons, beq_self_eq_true, this]
theorem obj_sc {k c : Kd} {p : List Nat} {t : List (List Nat)} {m : Str} (h : ¬ (["rates", "moves"] : List Str).contains m = true) : isObjD 0 m (en k c (sc p t)) = true := by
  unfold sc; rw [en_pO]
  simp only [isObjD, beq_self_eq_true, Bool.true_and]
  simpa using h
end Law
open Lin
namespace Law
open PySem L2 Lin
def optN (o : Option Nat) : Option D := o.map fun i : Nat => I i
theorem optN_kill (o : Option Nat) (r : Nat) : killD r (optN o) = optN o := by cases o <;> rfl
end Law
open Lin
namespace Law
open PySem L2 Lin
theorem oc : ¬ (["rates", "moves"] : List Str).contains "check_class" = true := by decide
theorem op' : ¬ (["rates", "moves"] : List Str).contains "premiums" = true := by decide
theorem ot' : ¬ (["rates", "moves"] : List Str).contains "table" = true := by decide
theorem check_ok {k c : Kd} {p : List Nat} {t : List (List Nat)} {a : Nat} (ha : a < p.length) : m_Scale_check_class [en k c (sc p t), I a] = .ok (.im .non) [] := by
  refine of_okC ?_
  unfold m_Scale_check_class b_Scale_check_class
  have h1 : ¬ ((p.length : Int) ≤ (a : Int)) := by omega
  simp_arith [okC_sem, okC_of (is_integer_ok _ _), show (0 : Int) ≤ (a : Int) by omega, fld_rates, h1]
end Law
open Lin
namespace Law
open PySem L2 Lin
theorem Tab.get {t : List (List Nat)} {n w : Nat} (h : Tab t n w) {a : Nat} (ha : a < n) : a < t.length ∧ (t.getD a []).length = w ∧ ∀ x ∈ t.getD a [], x < n := by
  have hl := h.len
  have : a < t.length := by omega
  have e : t.getD a [] = t[a] := by simp [this]
  rw [e]
  exact ⟨this, h.row _ (List.getElem_mem this)⟩
end Law
section
namespace Bfs
abbrev Es := List (Nat × List Nat)
def keys (E : Es) : List Nat := E.map Prod.fst
def led (t : List (List Nat)) (a c : Nat) : Nat := (t.getD a []).getD (min c ((t.getD a []).length - 1)) 0
def run (t : List (List Nat)) (s : Nat) (w : List Nat) : Nat := w.foldl (led t) s
structure BI (t : List (List Nat)) (n s : Nat) (E : Es) : Prop where
  nd : (keys E).Nodup
  lt : ∀ e ∈ E, e.1 < n
  path : ∀ e ∈ E, run t s e.2 = e.1
  wl : ∀ (i : Nat) e, E[i]? = some e → e.2.length ≤ i
theorem nodup_lt {n : Nat} : ∀ {xs : List Nat}, xs.Nodup → (∀ x ∈ xs, x < n) → xs.length ≤ n := by
  induction n with
  | zero => intro xs _ h; cases xs with | nil => simp | cons a r => exact absurd (h a (by simp)) (by omega)
  | succ n ih =>
    intro xs hn h
    have h1 := ih (xs := xs.erase n) (hn.erase n) (fun x hx => by
      have h2 := h x (List.mem_of_mem_erase hx)
      have h3 : x ≠ n := fun e => by subst e; exact (List.Nodup.not_mem_erase hn) hx
      omega)
    have h4 := List.length_erase (a := n) (l := xs)
    split at h4 <;> omega
theorem BI.len {t : List (List Nat)} {n s : Nat} {E : Es} (h : BI t n s E) : E.length ≤ n := by
  have := nodup_lt h.nd (fun x hx => by
    obtain ⟨e, he, rfl⟩ := List.mem_map.mp hx
    exact h.lt e he)
  simpa [keys] using this
section
variable {t : List (List Nat)} {n s : Nat} {row w : List Nat} {E0 : Es}
end
end Bfs
end
open Lin
namespace Law
open PySem L2 Lin Bfs
section
variable {p : List Nat} {t : List (List Nat)} {w s : Nat} {k : Kd}
theorem Tab.led_lt (h : Tab t p.length w) {a : Nat} (ha : a < p.length) (c : Nat) : led t a c < p.length := by
  obtain ⟨h1, h2, h3⟩ := h.get ha
  have := h.w1
  unfold led
  have hl : min c ((t.getD a []).length - 1) < (t.getD a []).length := by omega
  generalize t.getD a [] = row at h3 hl
  generalize min c (row.length - 1) = q at hl
  rw [show row.getD q 0 = row[q] by simp [hl]]
  exact h3 _ (List.getElem_mem _)
theorem Tab.run_lt (h : Tab t p.length w) : ∀ (ws : List Nat) {a : Nat}, a < p.length → run t a ws < p.length
  | [], a, ha => ha
  | c :: ws, a, ha => Tab.run_lt h ws (h.led_lt ha c)
end
end Law
open Lin
namespace Law
open PySem L2 Lin Bfs
section
variable {p : List Nat} {t : List (List Nat)} {w s : Nat} {k : Kd}
theorem oled : ¬ (["rates", "moves"] : List Str).contains "led" = true := by decide
theorem ocls : ¬ (["rates", "moves"] : List Str).contains "classes" = true := by decide
theorem obil : ¬ (["rates", "moves"] : List Str).contains "bills" = true := by decide
theorem ins_sc {c : Kd} : isInsD 0 (en k c (sc p t)) = true := ins_pO
theorem sled_ok (h : Good p t w) (hk : k = .frz ∨ k = .par) {a c : Nat} (ha : a < p.length) : m_Scale_led [en k k (sc p t), I a, I c] = .ok (I (led t a c)) [] := by
  refine of_okC ?_
  unfold m_Scale_led b_Scale_led
  obtain ⟨hat, hrl, hrx⟩ := h.tab.get ha
  obtain ⟨row, hrow⟩ : ∃ row, t[a]? = some row := ⟨_, List.getElem?_eq_getElem hat⟩
  have hgd : t.getD a [] = row := by simp [List.getD, hrow]
  rw [hgd] at hrl hrx
  have h1 := h.tab.w1
  have e1 : (if (row.length : Int) - 1 < (c : Int) then (row.length : Int) - 1 else (c : Int)) = ((min c (row.length - 1) : Nat) : Int) := by split <;> omega
  have hl : min c (row.length - 1) < row.length := by omega
  have kk : ∀ i, kBo i k = k := fun i => by rcases hk with rfl | rfl <;> rfl
  have kp : kPar k = k := by rcases hk with rfl | rfl <;> rfl
  simp_arith [okC_sem, kk, kp, obj_sc oc, okC_of (check_ok ha), okC_of (is_integer_ok _ _), show (0 : Int) ≤ (c : Int) by omega, fld_moves, ix_enq hrow, e1, ix_en hl]
  unfold led
  rw [hgd]
  simp [hl]
theorem call_ok (h : Good p t w) (hk : k = .frz ∨ k = .par) {a c : Nat} (ha : a < p.length) : m_Scaledd_calldd [en k k (sc p t), I a, I c] = .ok (I (led t a c)) [] := by
  refine of_okC ?_
  unfold m_Scaledd_calldd b_Scaledd_calldd
  have kk : ∀ i, kBo i k = k := fun i => by rcases hk with rfl | rfl <;> rfl
  have kp : kPar k = k := by rcases hk with rfl | rfl <;> rfl
  simp_arith [okC_sem, kk, kp, obj_sc oled, okC_of (sled_ok h hk ha)]
theorem slen_ok (hk : k = .frz ∨ k = .par) : m_Scaledd_lendd [en k k (sc p t)] = .ok (I p.length) [] := by
  refine of_okC ?_
  unfold m_Scaledd_lendd b_Scaledd_lendd
  simp_arith [okC_sem, fld_rates]
end
end Law
open Lin
namespace Law
open PySem L2 Lin Bfs
section
variable {p : List Nat} {t : List (List Nat)} {w s : Nat} {k : Kd}
theorem premium_ok (hk : k = .frz ∨ k = .par) {a x : Nat} (ha : p[a]? = some x) : m_Scale_premium [en k k (sc p t), I a] = .ok (I x) [] := by
  refine of_okC ?_
  unfold m_Scale_premium b_Scale_premium
  have hl := (List.getElem?_eq_some_iff.mp ha).1
  have kk : ∀ i, kBo i k = k := fun i => by rcases hk with rfl | rfl <;> rfl
  have kp : kPar k = k := by rcases hk with rfl | rfl <;> rfl
  simp_arith [okC_sem, kk, kp, obj_sc oc, okC_of (check_ok hl), fld_rates, ix_enq ha]
theorem columns_ok (h : Good p t w) (hk : k = .frz ∨ k = .par) : m_Scale_columns [en k k (sc p t)] = .ok (I w) [] := by
  refine of_okC ?_
  unfold m_Scale_columns b_Scale_columns
  obtain ⟨hat, hrl, hrx⟩ := h.tab.get (a := 0) (by have := h.tab.n1; omega)
  obtain ⟨row, hrow⟩ : ∃ row, t[0]? = some row := ⟨_, List.getElem?_eq_getElem hat⟩
  have hgd : t.getD 0 [] = row := by simp [List.getD, hrow]
  rw [hgd] at hrl hrx
  have e0 : ∀ k c, oIx (en k c (pL (pL pN) t)) (I 0) = some (en c c (pL pN row)) := fun k c => ix_enq (i := 0) hrow
  simp_arith [okC_sem, fld_moves, e0, hrl]
/-- the classes of a row of claims -/
def cls (t : List (List Nat)) (s : Nat) (ws : List Nat) : List Nat := (List.range (ws.length + 1)).map fun i => run t s (ws.take i)
theorem cls_snoc (t : List (List Nat)) (s : Nat) (ws : List Nat) (c : Nat) : cls t s (ws ++ [c]) = cls t s ws ++ [led t (run t s ws) c] := by
  unfold cls
  rw [show (ws ++ [c]).length + 1 = (ws.length + 1) + 1 by simp, List.range_succ, List.map_append]
  congr 1
  · refine List.map_congr_left fun i hi => ?_
    rw [List.mem_range] at hi
    rw [List.take_append_of_le_length (by omega)]
  · rw [List.map_cons, List.map_nil, List.take_of_length_le (by simp)]
    simp [Bfs.run]
theorem cls_last (t : List (List Nat)) (s : Nat) (ws : List Nat) : (cls t s ws).getLast? = some (run t s ws) := by
  unfold cls
  rw [List.range_succ, List.map_append]
  simp
theorem cls_len (t : List (List Nat)) (s : Nat) (ws : List Nat) : (cls t s ws).length = ws.length + 1 := by simp [cls]
theorem sclasses_ok (h : Good p t w) (hk : k = .frz ∨ k = .par) (hs : s < p.length) {k' : Kd} (hk' : k' = .frz ∨ k' = .par) (ws : List Nat) (hl : ws.length < 100000) : m_Scale_classes [en k k (sc p t), I s, en k' .frz (pL pN ws)] = .ok (en .own .frz (pL pN (cls t s ws))) [] := by
  refine of_okC ?_
  unfold m_Scale_classes b_Scale_classes
  have kk : ∀ i, kBo i k = k := fun i => by rcases hk with rfl | rfl <;> rfl
  have kp : kPar k = k := by rcases hk with rfl | rfl <;> rfl
  have kb : ∀ r, (k = .bor r) = False := fun r => by rcases hk with rfl | rfl <;> simp
  have kk' : ∀ i, kBo i k' = k' := fun i => by rcases hk' with rfl | rfl <;> rfl
  have kb' : ∀ r, (k' = .bor r) = False := fun r => by rcases hk' with rfl | rfl <;> simp
  have kf' : kFz k' = k' := by rcases hk' with rfl | rfl <;> rfl
  rw [okC_sem]
  refine seq_cut (A := fun S => S = [some (en k k (sc p t)), some (I s), some (en k' .frz (pL pN ws)), none, none]) ?_ ?_
  · simp_arith [kk, kp, obj_sc oc, okC_of (check_ok hs)]
  rintro _ rfl
  refine seq_cut (A := fun S => S = [some (en k k (sc p t)), some (I s), some (en k' .frz (pL pN ws)), some (en .own .frz (pL pN (cls t s []))), none]) ?_ ?_
  · simp_arith []
    rfl
  rintro _ rfl
  refine seq_cut (A := fun S => ∃ o, S = [some (en k k (sc p t)), some (I s), some (en k' .frz (pL pN ws)), some (en .own .frz (pL pN (cls t s ws))), optN o]) ?_ ?_
  · simp_arith [kk', kb', kf']
    refine for_inv (Inv := fun i S => ∃ o, S = [some (en k k (sc p t)), some (I s), some (en k' .frz (pL pN ws)), some (en .own .frz (pL pN (cls t s (ws.take i)))), optN o]) ?_ ?_ ?_
    · rintro i x S hx ⟨o, rfl⟩
      have hi := (List.getElem?_eq_some_iff.mp hx).1
      have hlt := h.tab.run_lt (ws.take i) hs
      have hcl : (cls t s (ws.take i)).length < 1000000 := by rw [cls_len, List.length_take]; omega
      simp_arith [kk, kp, kb, kb', obj_sc oled, ix_en1 (cls_last t s (ws.take i)), okC_of (sled_ok h hk hlt), mut_appN hcl]
      refine ⟨some x, ?_⟩
      rw [List.take_add_one, hx]
      show _ = [_, _, _, some (en .own .frz (pL pN (cls t s (ws.take i ++ [x])))), _]
      rw [cls_snoc]
      rfl
    · rintro S ⟨o, rfl⟩
      exact ⟨o, by rw [List.take_length]⟩
    · exact ⟨none, rfl⟩
  rintro _ ⟨o, rfl⟩
  simp_arith [kb, kb', optN_kill]
theorem sbills_ok (h : Good p t w) (hk : k = .frz ∨ k = .par) (hs : s < p.length) {k' : Kd} (hk' : k' = .frz ∨ k' = .par) (ws : List Nat) (hl : ws.length < 100000) : m_Scale_bills [en k k (sc p t), I s, en k' .frz (pL pN ws)] = .ok (en .own .frz (pL pN ((cls t s ws).dropLast.map fun a => p.getD a 0))) [] := by
  refine of_okC ?_
  unfold m_Scale_bills b_Scale_bills
  have kk : ∀ i, kBo i k = k := fun i => by rcases hk with rfl | rfl <;> rfl
  have kp : kPar k = k := by rcases hk with rfl | rfl <;> rfl
  have kk' : ∀ i, kBo i k' = k' := fun i => by rcases hk' with rfl | rfl <;> rfl
  have kp' : kPar k' = k' := by rcases hk' with rfl | rfl <;> rfl
  simp_arith [okC_sem, kk, kp, kk', kp', obj_sc ocls, okC_of (sclasses_ok h hk hs hk' ws hl)]
  refine lc_map (h := fun x : Nat => I x) (w := fun a => p.getD a 0) (by rw [List.length_dropLast, cls_len]; omega) rfl (fun _ _ => rfl) ?_ ?_
  · intro y hy
    have hy2 : y ∈ cls t s ws := (List.dropLast_sublist _).subset hy
    have hyl : y < p.length := by
      obtain ⟨i, _, rfl⟩ := List.mem_map.mp hy2
      exact h.tab.run_lt _ hs
    have hq : p[y]? = some (p.getD y 0) := by simp [List.getD, List.getElem?_eq_getElem hyl]
    simp_arith [kk, fld_rates, ix_enq hq]
  · simp_arith [fold_LN]
end
end Law
open Lin
namespace Law
open PySem L2 Lin
/-! ### marks that no passing on changes -/
def St (k : Kd) : Prop := k = .frz ∨ k = .par
theorem St.bo {k : Kd} (h : St k) (i : Nat) : kBo i k = k := by rcases h with rfl | rfl <;> rfl
theorem St.pa {k : Kd} (h : St k) : kPar k = k := by rcases h with rfl | rfl <;> rfl
theorem St.fz {k : Kd} (h : St k) : kFz k = k := by rcases h with rfl | rfl <;> rfl
theorem St.bor {k : Kd} (h : St k) (r : Nat) : (k = .bor r) = False := by rcases h with rfl | rfl <;> simp
theorem st_frz : St .frz := .inl rfl
theorem st_par : St .par := .inr rfl
structure Stb (d : D) : Prop where
  ks : ∀ k ∈ d.kinds, St k
mutual
theorem mk_fix {f : Kd → Kd} : ∀ d : D, (∀ k ∈ d.kinds, f k = k) → d.mk f = d
  | .im _, _ => rfl
  | .nd k s ds, h => by
    rw [D.mk, h k (by rw [D.kinds]; exact List.mem_cons_self), mkL_fix ds fun q hq => h q (by rw [D.kinds]; exact List.mem_cons_of_mem _ hq)]
theorem mkL_fix {f : Kd → Kd} : ∀ ds : List D, (∀ k ∈ kindsL ds, f k = k) → mkDL f ds = ds
  | [], _ => rfl
  | d :: r, h => by
    rw [mkDL, mk_fix d fun q hq => h q (by rw [kindsL]; exact List.mem_append_left _ hq), mkL_fix r fun q hq => h q (by rw [kindsL]; exact List.mem_append_right _ hq)]
end
section
variable {d : D}
theorem Stb.bo (h : Stb d) (i : Nat) : d.mk (kBo i) = d := mk_fix d fun k hk => (h.ks k hk).bo i
theorem Stb.pa (h : Stb d) : d.mk kPar = d := mk_fix d fun k hk => (h.ks k hk).pa
theorem Stb.fz (h : Stb d) : d.mk kFz = d := mk_fix d fun k hk => (h.ks k hk).fz
theorem Stb.bor (h : Stb d) (r : Nat) : hasBor r d = false := bor_raw fun q => by
  have := (h.ks _ q).bor r
  simp at this
theorem Stb.kill (h : Stb d) (r : Nat) : killD r (some d) = some d := kill_d (h.bor r)
end
theorem stb_en {k c : Kd} (h1 : St k) (h2 : St c) (v : P) : Stb (en k c v) := ⟨fun q hq => by rcases en_kinds hq with e | e <;> rw [e] <;> assumption⟩
theorem stb_nd {k : Kd} {s : Sh} {ds : List D} (h : St k) (hs : ∀ d ∈ ds, Stb d) : Stb (.nd k s ds) := ⟨fun q hq => by
  rw [D.kinds, List.mem_cons, kindsL_eq, List.mem_flatMap] at hq
  rcases hq with e | ⟨d, hd, hq⟩
  · rw [e]; exact h
  · exact (hs d hd).ks q hq⟩
/-- a plain scale, a scale -/
structure PlD (d : D) (p : List Nat) (t : List (List Nat)) : Prop where
  ex : ∃ k k1 k2, St k ∧ St k1 ∧ St k2 ∧ d = .nd k .tup [en k1 k1 (pL pN p), en k2 k2 (pL (pL pN) t)]
structure ScD (d : D) (p : List Nat) (t : List (List Nat)) : Prop where
  ex : ∃ k, St k ∧ d = en k k (sc p t)
section
variable {d : D} {p : List Nat} {t : List (List Nat)}
theorem PlD.stb (h : PlD d p t) : Stb d := by
  obtain ⟨k, k1, k2, h0, h1, h2, rfl⟩ := h.ex
  exact stb_nd h0 fun d hd => by
    simp at hd
    rcases hd with rfl | rfl
    · exact stb_en h1 h1 _
    · exact stb_en h2 h2 _
theorem ScD.stb (h : ScD d p t) : Stb d := by
  obtain ⟨k, h0, rfl⟩ := h.ex
  exact stb_en h0 h0 _
theorem PlD.ix0 (h : PlD d p t) : ∃ k, St k ∧ oIx d (I 0) = some (en k k (pL pN p)) := by
  obtain ⟨k, k1, k2, h0, h1, h2, rfl⟩ := h.ex
  exact ⟨k1, h1, ix_tup (by omega) (by simp)⟩
theorem PlD.ix1 (h : PlD d p t) : ∃ k, St k ∧ oIx d (I 1) = some (en k k (pL (pL pN) t)) := by
  obtain ⟨k, k1, k2, h0, h1, h2, rfl⟩ := h.ex
  exact ⟨k2, h2, ix_tup (by omega) (by simp)⟩
theorem pl_D (k : Kd) (h : St k) : PlD (en k k (pl p t)) p t := ⟨k, k, k, h, h, h, by unfold pl; rw [en_pT]; rfl⟩
theorem sc_D (k : Kd) (h : St k) : ScD (en k k (sc p t)) p t := ⟨k, h, rfl⟩
end
theorem ix0_LL {k c : Kd} {t : List (List Nat)} {r : List Nat} (h : t[0]? = some r) : oIx (en k c (pL (pL pN) t)) (I 0) = some (en c c (pL pN r)) := ix_enq (i := 0) h
end Law
open Lin
namespace Law
open PySem L2 Lin Bfs
end Law
open Lin
namespace Law
open PySem L2 Lin
section
variable {p : List Nat} {t : List (List Nat)} {w s : Nat} {k : Kd}
theorem premiums_ok (hk : k = .frz ∨ k = .par) : m_Scale_premiums [en k k (sc p t)] = .ok (en .own .frz (pL pN p)) [] := by
  refine of_okC ?_
  unfold m_Scale_premiums b_Scale_premiums
  rcases hk with rfl | rfl <;> simp_arith [okC_sem, fld_rates]
theorem table_ok (h : Good p t w) (hk : k = .frz ∨ k = .par) : m_Scale_table [en k k (sc p t)] = .ok (en .own .own (pL (pL pN) t)) [] := by
  refine of_okC ?_
  unfold m_Scale_table b_Scale_table
  have hl := h.tab.len
  have hn := h.tab.n12
  rcases hk with rfl | rfl
  · simp_arith [okC_sem, fld_moves]
    refine lc_map (h := fun r : List Nat => en .own .frz (pL pN r)) (w := id) (by omega) rfl (fun r _ => by rw [en_mk]; rfl) ?_ ?_
    · intro y hy
      simp_arith []
    · simp_arith [List.map_id, fold_LL]
  · simp_arith [okC_sem, fld_moves]
    refine lc_map (h := fun r : List Nat => en .own .frz (pL pN r)) (w := id) (by omega) rfl (fun r _ => by rw [en_mk]; rfl) ?_ ?_
    · intro y hy
      simp_arith []
    · simp_arith [List.map_id, fold_LL]
end
end Law
open Lin
namespace Law
open PySem L2 Lin Bfs
section
variable {p : List Nat} {t : List (List Nat)} {w s : Nat} {k : Kd}
/-! the law's own lists -/
end
end Law
open Lin
namespace Law
open PySem L2 Lin Bfs
section
variable {p : List Nat} {t : List (List Nat)} {w s : Nat} {d ds : D}
theorem led_okD (h : Good p t w) (hd : PlD d p t) {a c : Nat} (ha : a < p.length) : m__law_led [d, I a, I c] = .ok (I (led t a c)) [] := by
  obtain ⟨k, hk, ei⟩ := hd.ix1
  have hs := hd.stb
  refine of_okC ?_
  unfold m__law_led b__law_led
  obtain ⟨hat, hrl, hrx⟩ := h.tab.get ha
  obtain ⟨row, hrow⟩ : ∃ row, t[a]? = some row := ⟨_, List.getElem?_eq_getElem hat⟩
  have hgd : t.getD a [] = row := by simp [List.getD, hrow]
  rw [hgd] at hrl hrx
  have h1 := h.tab.w1
  have e1 : (if (row.length : Int) - 1 < (c : Int) then (row.length : Int) - 1 else (c : Int)) = ((min c (row.length - 1) : Nat) : Int) := by split <;> omega
  have hl : min c (row.length - 1) < row.length := by omega
  simp_arith [okC_sem, hs.bo, ei, ix_enq hrow, hk.bo, hk.fz, e1, ix_en hl]
  unfold led
  rw [hgd]
  simp [hl]
theorem lclassesD (h : Good p t w) (hd : PlD d p t) (hs : s < p.length) {k' : Kd} (hk' : St k') (ws : List Nat) (hl : ws.length < 100000) : m__law_classes [d, I s, en k' .frz (pL pN ws)] = .ok (en .own .frz (pL pN (cls t s ws))) [] := by
  have st := hd.stb
  refine of_okC ?_
  unfold m__law_classes b__law_classes
  rw [okC_sem]
  refine seq_cut (A := fun S => S = [some d, some (I s), some (en k' .frz (pL pN ws)), some (en .own .frz (pL pN (cls t s []))), none]) ?_ ?_
  · simp_arith []
    rfl
  rintro _ rfl
  refine seq_cut (A := fun S => ∃ o, S = [some d, some (I s), some (en k' .frz (pL pN ws)), some (en .own .frz (pL pN (cls t s ws))), optN o]) ?_ ?_
  · simp_arith [hk'.bo, hk'.bor, hk'.fz]
    refine for_inv (Inv := fun i S => ∃ o, S = [some d, some (I s), some (en k' .frz (pL pN ws)), some (en .own .frz (pL pN (cls t s (ws.take i)))), optN o]) ?_ ?_ ?_
    · rintro i x S hx ⟨o, rfl⟩
      have hi := (List.getElem?_eq_some_iff.mp hx).1
      have hlt := h.tab.run_lt (ws.take i) hs
      have hcl : (cls t s (ws.take i)).length < 1000000 := by rw [cls_len, List.length_take]; omega
      simp_arith [hk'.bor, st.bo, st.pa, st.kill, ix_en1 (cls_last t s (ws.take i)), okC_of (led_okD h hd hlt), mut_appN hcl]
      refine ⟨some x, ?_⟩
      rw [List.take_add_one, hx]
      show _ = [_, _, _, some (en .own .frz (pL pN (cls t s (ws.take i ++ [x])))), _]
      rw [cls_snoc]
      rfl
    · rintro S ⟨o, rfl⟩
      exact ⟨o, by rw [List.take_length]⟩
    · exact ⟨none, rfl⟩
  rintro _ ⟨o, rfl⟩
  simp_arith [hk'.bor, st.kill, optN_kill]
def sumZ (ns : List Nat) : Int := (ns.map fun n : Nat => (n : Int)).sum
theorem sum_LN {k c : Kd} {ns : List Nat} : immV vSum [en k c (pL pN ns)] = some (I (sumZ ns)) := by
  rw [en_pL]
  show ((dInts (ns.map fun n : Nat => I (n : Int))).map _).map _ = _
  rw [dInts_N]
  rfl
def billsN (p : List Nat) (t : List (List Nat)) (s : Nat) (ws : List Nat) : List Nat := (cls t s ws).dropLast.map fun a => p.getD a 0
theorem lpaidD (h : Good p t w) (hd : PlD d p t) (hs : s < p.length) {k' : Kd} (hk' : St k') (ws : List Nat) (hl : ws.length < 100000) : m__law_paid [d, I s, en k' .frz (pL pN ws)] = .ok (I (sumZ (billsN p t s ws))) [] := by
  have st := hd.stb
  obtain ⟨k0, hk0, ei0⟩ := hd.ix0
  refine of_okC ?_
  unfold m__law_paid b__law_paid
  simp_arith [okC_sem, st.bo, st.pa, hk'.bo, hk'.pa, okC_of (lclassesD h hd hs hk' ws hl)]
  refine lc_map (h := fun x : Nat => I x) (w := fun a => p.getD a 0) (by rw [List.length_dropLast, cls_len]; omega) rfl (fun _ _ => rfl) ?_ ?_
  · intro y hy
    have hy2 : y ∈ cls t s ws := (List.dropLast_sublist _).subset hy
    have hyl : y < p.length := by
      obtain ⟨i, _, rfl⟩ := List.mem_map.mp hy2
      exact h.tab.run_lt _ hs
    have hq : p[y]? = some (p.getD y 0) := by simp [List.getD, List.getElem?_eq_getElem hyl]
    simp_arith [st.bo, ei0, ix_enq hq]
  · simp_arith [fold_LN, sum_LN]
    rfl
theorem spaid_ok {k : Kd} (h : Good p t w) (hk : St k) (hs : s < p.length) {k' : Kd} (hk' : St k') (ws : List Nat) (hl : ws.length < 100000) : m_Scale_paid [en k k (sc p t), I s, en k' .frz (pL pN ws)] = .ok (I (sumZ (billsN p t s ws))) [] := by
  refine of_okC ?_
  unfold m_Scale_paid b_Scale_paid
  simp_arith [okC_sem, hk.bo, hk.pa, hk'.bo, hk'.pa, obj_sc obil, okC_of (sbills_ok h hk hs hk' ws hl), sum_LN]
  rfl
theorem likeD (h : Good p t w) (hs : ScD ds p t) (hd : PlD d p t) : m__law_like [ds, d] = .ok (B true) [] := by
  obtain ⟨k, hk, rfl⟩ := hs.ex
  have st := hd.stb
  obtain ⟨k0, hk0, ei0⟩ := hd.ix0
  obtain ⟨k1, hk1, ei1⟩ := hd.ix1
  refine of_okC ?_
  unfold m__law_like b__law_like
  simp_arith [okC_sem, hk.bo, hk.pa, st.bo, ei0, ei1, obj_sc op', obj_sc ot', okC_of (premiums_ok hk), okC_of (table_ok h hk)]
end
end Law
open Lin
namespace Law
open PySem L2 Lin
/-! ### dicts whose keys are tuples of numbers -/
section
variable {α : Type} {k c k' c' : Kd} {f : α → P} {E : List (List Nat × α)} {n : List Nat}
end
end Law
open Lin
namespace Law
open PySem L2 Lin
/-! ### tuples of whole numbers -/
end Law
open Lin
namespace Law
open PySem L2 Lin
theorem mixed_ex {α : Type} (b : Bag) (k : Kd) (hk : k = .frz ∨ k = .par) (f : α → P) (xs : List α) (hl : xs.length < 1000000) : ∃ q : List α × Bag, m__law_mixed [bg b, en k .frz (pL f xs)] = .ok (en .own .frz (pL f q.1)) [bg q.2] ∧ q.1.Perm xs := by
  have kk : ∀ i, kBo i k = k := fun i => by rcases hk with rfl | rfl <;> rfl
  have kb : ∀ r, (k = .bor r) = False := fun r => by rcases hk with rfl | rfl <;> simp
  have h : OkCE NoC (m__law_mixed [bg b, en k .frz (pL f xs)]) fun d ms => ∃ ys b', d = en .own .frz (pL f ys) ∧ ms = [bg b'] ∧ ys.Perm xs := by
    unfold m__law_mixed b__law_mixed
    rw [okC_sem]
    refine seq_cut (A := fun S => S = [some (bg b), some (en k .frz (pL f xs)), some (en .own .frz (pL f xs)), none, none]) ?_ ?_
    · simp_arith [kk]
    rintro _ rfl
    refine seq_cut (A := fun S => S = [some (bg b), some (en k .frz (pL f xs)), some (en .own .frz (pL f xs)), some (en .own .frz (pL f [])), none]) ?_ ?_
    · simp_arith []
    rintro _ rfl
    refine seq_cut (A := fun S => ∃ b' found, ∃ o : Option Nat, S = [some (bg b'), some (en k .frz (pL f xs)), some (en .own .frz (pL f [])), some (en .own .frz (pL f found)), o.map fun i : Nat => I i] ∧ found.Perm xs) ?_ ?_
    · simp_arith [kk, rg1_eq hl]
      refine for_inv (Inv := fun i S => ∃ b', ∃ left found, ∃ o : Option Nat, S = [some (bg b'), some (en k .frz (pL f xs)), some (en .own .frz (pL f left)), some (en .own .frz (pL f found)), o.map fun i : Nat => I i] ∧ (found ++ left).Perm xs ∧ left.length + i = xs.length) ?_ ?_ ?_
      · rintro i y S hy ⟨b', left, found, o, rfl, hp, hlen⟩
        have hi : i < xs.length := by
          have := (List.getElem?_eq_some_iff.mp hy).1; simpa using this
        have h0 : (0 : Int) < (left.length : Int) := by omega
        have h1 : (left.length : Int) < 1000000000000000000000000000000 := by omega
        have hd : dv b' (left.length : Int) < left.length := dv_ltN (by omega) (by omega)
        have hf := hp.length_eq
        rw [List.length_append] at hf
        simp_arith [kb, bg_kill, bg_bor, bg_of, okC_draw h0 h1, mut_popAt (List.getElem?_eq_getElem hd) (by omega), mut_app (g := f) (show found.length < 1000000 by omega)]
        refine ⟨_, _, _, some y, rfl, ?_, ?_⟩
        · refine List.Perm.trans ?_ hp
          rw [List.append_assoc]
          refine List.Perm.append_left _ ?_
          generalize dv b' (left.length : Int) = j at hd
          have e3 : left = left.take j ++ left[j] :: left.drop (j + 1) := by rw [List.getElem_cons_drop, List.take_append_drop]
          rw [List.eraseIdx_eq_take_drop_succ]
          have q3 := (List.perm_middle (a := left[j]) (l₁ := left.take j) (l₂ := left.drop (j + 1))).symm
          rw [← e3] at q3
          exact q3
        · rw [List.length_eraseIdx, if_pos hd]; omega
      · rintro S ⟨b', left, found, o, rfl, hp, hlen⟩
        rw [List.length_range] at hlen
        have : left = [] := List.length_eq_zero_iff.mp (by omega)
        subst this
        rw [List.append_nil] at hp
        exact ⟨b', found, _, rfl, hp⟩
      · exact ⟨b, xs, [], none, rfl, by simp, by simp⟩
    · rintro S ⟨b', found, o, rfl, hp⟩
      simp_arith [bg_of, bg_kill, kb]
      exact ⟨found, b', rfl, rfl, hp⟩
  obtain ⟨d, ms, e, ys, b', rfl, rfl, hp⟩ := h.get
  exact ⟨(ys, b'), e, hp⟩
end Law
open Lin
namespace Law
open PySem L2 Lin Bfs
theorem oprm : ¬ (["rates", "moves"] : List Str).contains "premium" = true := by decide
theorem opms : ¬ (["rates", "moves"] : List Str).contains "premiums" = true := by decide
theorem otab : ¬ (["rates", "moves"] : List Str).contains "table" = true := by decide
theorem oclss : ¬ (["rates", "moves"] : List Str).contains "classes" = true := by decide
def inS (n : Nat) (x : Int) : Bool := decide (0 ≤ x) && decide (x < (n : Int))
def pz : Int → P := pZ
section
variable {p : List Nat} {t : List (List Nat)} {w : Nat} {k : Kd} {d ds : D}
theorem contains_ok (hk : St k) (x : Int) : m_Scaledd_containsdd [en k k (sc p t), I x] = .ok (B (inS p.length x)) [] := by
  refine of_okC ?_
  unfold m_Scaledd_containsdd b_Scaledd_containsdd
  unfold inS
  by_cases h : (0 : Int) ≤ x
  · simp_arith [okC_sem, okC_of (is_integer_ok _ _), hk.bo, h, fld_rates]
  · simp_arith [okC_sem, okC_of (is_integer_ok _ _), hk.bo, h, fld_rates]
theorem rg2_neg {n : Nat} (h : n < 1000) : rg2 [I (-2), I ((n : Int) + 3)] = some (.im .non, (List.range (n + 5)).map fun k : Nat => I (-2 + (k : Int))) := by
  unfold rg2
  dsimp only
  have ok : ∀ z : Int, -1000000 < z → z < 1000000 → rngOk z = true := fun z h1 h2 => by
    unfold rngOk
    simp
    omega
  rw [if_pos (by rw [ok _ (by omega) (by omega), ok _ (by omega) (by omega)]; rfl)]
  unfold iRng
  rw [show ((n : Int) + 3 - (-2)).toNat = n + 5 by omega]
theorem neLB {x y : List Bool} {k c k' c' : Kd} : oNe (en k c (pL pB x)) (en k' c' (pL pB y)) = some (B (!decide (x = y))) := ne_en (eqs_L eqs_B) (by decide)
theorem p29 : oPow (I 10) (I 29) = some (I 100000000000000000000000000000) := by
  rw [pow_I (by decide) (by decide) (by decide)]; rfl
theorem inS_eq {n : Nat} {x : Int} : inS n x = (decide (0 ≤ x) && decide (x < (n : Int))) := rfl
theorem asked_ok (h : Good p t w) (hs : ScD ds p t) (hd : PlD d p t) : m__law_classes_asked [ds, d] = .ok (B true) [] := by
  have st := hd.stb
  have ss := hs.stb
  obtain ⟨k0, hk0, ei0⟩ := hd.ix0
  obtain ⟨k1, hk1, ei1⟩ := hd.ix1
  obtain ⟨k, hk, rfl⟩ := hs.ex
  have n1 := h.tab.n1
  have n12 := h.tab.n12
  obtain ⟨hat, hrl, _⟩ := h.tab.get (a := 0) (by omega)
  obtain ⟨row, hrow⟩ : ∃ row, t[0]? = some row := ⟨_, List.getElem?_eq_getElem hat⟩
  have hgd : t.getD 0 [] = row := by simp [List.getD, hrow]
  rw [hgd] at hrl
  have e10 : oIx (en k1 k1 (pL (pL pN) t)) (I 0) = some (en k1 k1 (pL pN row)) := ix0_LL hrow
  have hrl' : (row.length : Int) = (w : Int) := by rw [hrl]
  refine of_okC ?_
  unfold m__law_classes_asked b__law_classes_asked
  rw [okC_sem]
  refine seq_cut (A := fun S => S = [some (en k k (sc p t)), some d, some (I (p.length : Int)), none, none]) ?_ ?_
  · simp_arith [st.bo, ei0]
  rintro _ rfl
  have hne : (!decide ((p.length : Int) = (p.length : Int))) = false := by simp
  refine seq_cut (A := fun S => S = [some (en k k (sc p t)), some d, some (I (p.length : Int)), none, none]) ?_ ?_
  · simp_arith [hk.bo, hk.pa, st.bo, st.pa, ins_sc, isLen_N (show p.length < 1000000 by omega), okC_of (slen_ok hk), okC_of (columns_ok h hk), ei1, e10, hrl', okC_of (likeD h (sc_D k hk) hd)]
  rintro _ rfl
  refine seq_cut (A := fun S => S = [some (en k k (sc p t)), some d, some (I (p.length : Int)), none, none]) ?_ ?_
  · rw [ok_if]
    refine OkE.mono (Q := fun b1 S1 => b1 = false ∧ S1 = [some (en k k (sc p t)), some d, some (I (p.length : Int)), none, none]) ?_ ?_
    · simp_arith [rg2_neg (show p.length < 1000 by omega)]
      refine lc_map (h := B) (w := fun j : Nat => inS p.length (-2 + (j : Int))) (by simp; omega) rfl (fun _ _ => rfl) ?_ ?_
      · intro j hj
        simp_arith [hk.bo, hk.pa, ins_sc, okC_of (contains_ok (p := p) (t := t) hk (-2 + (j : Int)))]
      · have fl : ∀ (xs : List Bool), D.nd Kd.own .lst (xs.map B) = en .own .frz (pL pB xs) := fun xs => by rw [en_pL]; rfl
        simp_arith [fl, rg2_neg (show p.length < 1000 by omega)]
        refine lc_map (h := B) (w := fun j : Nat => inS p.length (-2 + (j : Int))) (by simp; omega) rfl (fun _ _ => rfl) ?_ ?_
        · intro j hj
          by_cases c : (0 : Int) ≤ -2 + (j : Int)
          · simp_arith [c, inS_eq]
          · simp_arith [c, inS_eq]
        · simp_arith [fl, neLB]
    rintro _ _ ⟨rfl, rfl⟩
    rw [if_neg (by decide)]
    simp_arith []
  rintro _ rfl
  have hf1 : inS p.length 100000000000000000000000000000 = false := by unfold inS; simp; omega
  have hf2 : inS p.length (-100000000000000000000000000000) = false := by unfold inS; simp
  refine seq_cut (A := fun S => S = [some (en k k (sc p t)), some d, some (I (p.length : Int)), none, none]) ?_ ?_
  · simp_arith [p29, hk.bo, hk.pa, ins_sc, okC_of (contains_ok (p := p) (t := t) hk 100000000000000000000000000000), okC_of (contains_ok (p := p) (t := t) hk (-100000000000000000000000000000)), hf1, hf2]
  rintro _ rfl
  refine seq_cut (A := fun S => ∃ o3 o4, S = [some (en k k (sc p t)), some d, some (I (p.length : Int)), o3, o4]) ?_ ?_
  · simp_arith [rg1_eq (show p.length < 1000000 by omega)]
    refine for_inv (Inv := fun i S => ∃ o3 o4, S = [some (en k k (sc p t)), some d, some (I (p.length : Int)), o3, o4]) ?_ ?_ ?_
    · rintro a y S hy ⟨z3, z4, rfl⟩
      obtain ⟨hi, hy⟩ := List.getElem?_eq_some_iff.mp hy
      rw [List.getElem_range] at hy
      subst hy
      rw [List.length_range] at hi
      have hq : p[a]? = some (p.getD a 0) := by simp [List.getD, List.getElem?_eq_getElem hi]
      simp only [so_gset, fzIf_im, List.set_cons_succ, List.set_cons_zero]
      refine seq_cut (A := fun S => S = [some (en k k (sc p t)), some d, some (I (p.length : Int)), some (I (a : Int)), z4]) ?_ ?_
      · simp_arith [hk.bo, hk.pa, st.bo, obj_sc oprm, okC_of (premium_ok (t := t) hk hq), ei0, ix_enq hq]
      rintro _ rfl
      obtain ⟨C, hC⟩ : ∃ C : List Nat, C = [0, 1, 2, 3, 4, 5, 6, 100000000000000000000000000000] := ⟨_, rfl⟩
      have eC : ([I 0, I 1, I 2, I 3, I 4, I 5, I 6, I 100000000000000000000000000000] : List D) = C.map fun n : Nat => I (n : Int) := by rw [hC]; rfl
      have eD : dLst (C.map fun n : Nat => I (n : Int)) = some (en .own .frz (pL pN C)) := by rw [hC, en_pL]; exact dLst_s (by simp)
      clear hC
      simp_arith [p29, eC, eD]
      refine for_inv (Inv := fun i S => ∃ o4, S = [some (en k k (sc p t)), some d, some (I (p.length : Int)), some (I (a : Int)), o4]) ?_ ?_ ?_
      · rintro i c S hc ⟨z4, rfl⟩
        simp_arith [hk.bo, hk.pa, st.bo, st.pa, ins_sc, okC_of (call_ok (a := a) (c := c) h hk hi), okC_of (led_okD (a := a) (c := c) h hd hi)]
        exact ⟨_, rfl⟩
      · rintro S ⟨o4, rfl⟩
        exact ⟨_, _, rfl⟩
      · exact ⟨_, rfl⟩
    · rintro S ⟨o3, o4, rfl⟩
      exact ⟨o3, o4, rfl⟩
    · exact ⟨_, _, rfl⟩
  rintro _ ⟨o3, o4, rfl⟩
  simp_arith []
end
end Law
open Lin
namespace Law
open PySem L2 Lin Bfs
theorem opaidq : ¬ (["rates", "moves"] : List Str).contains "paid" = true := by decide
theorem obillq : ¬ (["rates", "moves"] : List Str).contains "bills" = true := by decide
theorem sumZ_N (ns : List Nat) : sumZ ns = ((ns.sum : Nat) : Int) := by
  unfold sumZ
  induction ns with
  | nil => rfl
  | cons a r ih => simp only [List.map_cons, List.sum_cons, ih]; omega
section
variable {p : List Nat} {t : List (List Nat)} {w s : Nat} {k k' : Kd} {d ds : D}
theorem ne_one {k c k' : Kd} {a : Nat} : oNe (en k c (pL pN [a])) (.nd k' .lst [I (a : Int)]) = some (B false) := by
  have e : D.nd k' .lst [I (a : Int)] = en k' .frz (pL pN [a]) := by rw [en_pL]; rfl
  rw [e, ne_LN]; simp
theorem row_right_ok (b : Bag) (h : Good p t w) (hs : ScD ds p t) (hd : PlD d p t) (ha : s < p.length) (hk' : St k') (ws : List Nat) (hl : ws.length < 100000) : OkCE NoC (m__law_row_right [bg b, ds, d, I s, en k' .frz (pL pN ws)]) fun r ms => r = B true ∧ ∃ b', ms = [bg b'] := by
  have st := hd.stb
  obtain ⟨k0, hk0, ei0⟩ := hd.ix0
  obtain ⟨k, hk, rfl⟩ := hs.ex
  have lenC : (cls t s ws).length < 1000000 := by rw [cls_len]; omega
  unfold m__law_row_right b__law_row_right
  rw [okC_sem]
  refine seq_cut (A := fun S => S = [some (bg b), some (en k k (sc p t)), some d, some (I s), some (en k' .frz (pL pN ws)), some (en .frz .frz (pL pN ws)), none, none, none, none]) ?_ ?_
  · simp_arith [hk'.bo]
  rintro _ rfl
  refine seq_cut (A := fun S => S = [some (bg b), some (en k k (sc p t)), some d, some (I s), some (en k' .frz (pL pN ws)), some (en .frz .frz (pL pN ws)), some (en .frz .frz (pL pN (cls t s ws))), none, none, none]) ?_ ?_
  · simp_arith [hk'.bo, hk'.pa, st.bo, st.pa, okC_of (lclassesD h hd ha hk' ws hl)]
  rintro _ rfl
  refine seq_cut (A := fun S => ∃ b o7 o8, S = [some (bg b), some (en k k (sc p t)), some d, some (I s), some (en k' .frz (pL pN ws)), some (en .frz .frz (pL pN ws)), some (en .frz .frz (pL pN (cls t s ws))), o7, o8, none]) ?_ ?_
  · have eM : dLst [I 0, I 1, I 2, I 0] = some (en .own .frz (pL pN [0, 1, 2, 0])) := by rw [dLst_s (by simp), en_pL]; rfl
    obtain ⟨ys, b1, e1, hys⟩ : ∃ ys b1, m__law_mixed [bg b, en .par .frz (pL pN [0, 1, 2, 0])] = .ok (en .own .frz (pL pN ys)) [bg b1] ∧ ys.Perm [0, 1, 2, 0] := by
      obtain ⟨⟨ys, b1⟩, e, hp⟩ := mixed_ex b .par (.inr rfl) pN [0, 1, 2, 0] (by simp)
      exact ⟨ys, b1, e, hp⟩
    have eR : D.nd Kd.par Sh.lst [I 0, I 1, I 2, I 0] = en .par .frz (pL pN [0, 1, 2, 0]) := by rw [en_pL]; rfl
    have e1' : m__law_mixed [bg b, D.nd Kd.par Sh.lst [I 0, I 1, I 2, I 0]] = .ok (en .own .frz (pL pN ys)) [bg b1] := by rw [eR]; exact e1
    clear e1 eM eR
    have eC := sclasses_ok (t := t) h hk ha hk' ws hl
    have eB := sbills_ok (t := t) h hk ha hk' ws hl
    have eP := spaid_ok h hk ha hk' ws hl
    have eL := lpaidD h hd ha hk' ws hl
    rw [sumZ_N] at eP eL
    generalize (billsN p t s ws).sum = paid at eP eL
    simp_arith [bg_kill, bg_bor, bg_of, hk.bo, hk.pa, st.kill, hk'.bor, hk.bor, dLst_s, okC_of e1']
    refine for_inv (Inv := fun i S => ∃ o7 o8, S = [some (bg b1), some (en k k (sc p t)), some d, some (I s), some (en k' .frz (pL pN ws)), some (en .frz .frz (pL pN ws)), some (en .frz .frz (pL pN (cls t s ws))), o7, o8, none]) ?_ ?_ ?_
    · rintro i y S hy ⟨o7, o8, rfl⟩
      have hy2 : y = 0 ∨ y = 1 ∨ y = 2 := by
        have := hys.mem_iff.mp (List.mem_of_getElem? hy)
        simp at this
        omega
      simp only [so_gset, fzIf_im, List.set_cons_succ, List.set_cons_zero]
      refine seq_cut (A := fun S => S = [some (bg b1), some (en k k (sc p t)), some d, some (I s), some (en k' .frz (pL pN ws)), some (en .frz .frz (pL pN ws)), some (en .frz .frz (pL pN (cls t s ws))), some (I (y : Int)), some (en .own .frz (pL pN [paid])), none]) ?_ ?_
      · simp_arith [hk.bo, hk.pa, hk'.bo, hk'.pa, obj_sc opaidq, okC_of eP]
        rw [en_pL]; rfl
      rintro _ rfl
      refine seq_cut (A := fun S => ∃ xs : List Nat, S = [some (bg b1), some (en k k (sc p t)), some d, some (I s), some (en k' .frz (pL pN ws)), some (en .frz .frz (pL pN ws)), some (en .frz .frz (pL pN (cls t s ws))), some (I (y : Int)), some (en .own .frz (pL pN xs)), none] ∧ (y = 2 → xs = [paid])) ?_ ?_
      · rcases hy2 with rfl | rfl | rfl
        · simp_arith [hk.bo, hk.pa, hk'.bo, hk'.pa, obj_sc oclss, okC_of eC]
          exact ⟨_, rfl, fun z => by cases z⟩
        · simp_arith []
          exact ⟨_, rfl, fun z => by cases z⟩
        · simp_arith []
          exact ⟨_, rfl, fun _ => rfl⟩
      rintro _ ⟨xs, rfl, hxs⟩
      refine seq_cut (A := fun S => ∃ xs : List Nat, S = [some (bg b1), some (en k k (sc p t)), some d, some (I s), some (en k' .frz (pL pN ws)), some (en .frz .frz (pL pN ws)), some (en .frz .frz (pL pN (cls t s ws))), some (I (y : Int)), some (en .own .frz (pL pN xs)), none] ∧ (y = 2 → xs = [paid])) ?_ ?_
      · rcases hy2 with rfl | rfl | rfl
        · simp_arith []
          exact ⟨_, rfl, fun z => z.elim⟩
        · have ecut : dCutH (en .frz .frz (pL pN (cls t s ws))) (I (-1)) = some (en .own .frz (pL pN (cls t s ws).dropLast)) := cutH1
          refine seq_cut (A := fun S => S = [some (bg b1), some (en k k (sc p t)), some d, some (I s), some (en k' .frz (pL pN ws)), some (en .frz .frz (pL pN ws)), some (en .frz .frz (pL pN (cls t s ws))), some (I ((1 : Nat) : Int)), some (en .own .frz (pL pN ((cls t s ws).dropLast.map fun a => p.getD a 0))), none]) ?_ ?_
          · simp_arith [hk.bo, hk.pa, hk'.bo, hk'.pa, obj_sc obillq, okC_of eB]
          rintro _ rfl
          have hln : (cls t s ws).dropLast.length < 1000000 := by rw [List.length_dropLast]; omega
          refine OkE.mono (Q := fun fl S => fl = .nx ∧ S = [some (bg b1), some (en k k (sc p t)), some d, some (I s), some (en k' .frz (pL pN ws)), some (en .frz .frz (pL pN ws)), some (en .frz .frz (pL pN (cls t s ws))), some (I ((1 : Nat) : Int)), some (en .own .frz (pL pN ((cls t s ws).dropLast.map fun a => p.getD a 0))), none]) ?_ ?_
          · simp_arith [ecut]
            refine lc_map (h := fun x : Nat => I x) (w := fun a => p.getD a 0) hln rfl (fun _ _ => rfl) ?_ ?_
            · intro y hy
              have hy2 : y ∈ cls t s ws := (List.dropLast_sublist _).subset hy
              have hyl : y < p.length := by
                obtain ⟨i, _, rfl⟩ := List.mem_map.mp hy2
                exact h.tab.run_lt _ ha
              have hq : p[y]? = some (p.getD y 0) := by simp [List.getD, List.getElem?_eq_getElem hyl]
              simp_arith [st.bo, ei0, ix_enq hq]
            · simp_arith [fold_LN]
          rintro _ _ ⟨rfl, rfl⟩
          exact ⟨_, rfl, fun z => by cases z⟩
        · simp_arith []
          exact ⟨_, rfl, fun _ => hxs rfl⟩
      rintro _ ⟨xs, rfl, hxs⟩
      refine seq_cut (A := fun S => ∃ xs : List Nat, S = [some (bg b1), some (en k k (sc p t)), some d, some (I s), some (en k' .frz (pL pN ws)), some (en .frz .frz (pL pN ws)), some (en .frz .frz (pL pN (cls t s ws))), some (I (y : Int)), some (en .own .frz (pL pN xs)), none]) ?_ ?_
      · rcases hy2 with rfl | rfl | rfl
        · simp_arith []
          exact ⟨_, rfl⟩
        · simp_arith []
          exact ⟨_, rfl⟩
        · cases hxs rfl
          simp_arith [st.bo, st.pa, hk'.bo, hk'.pa, okC_of eL, ne_one, dLst_s]
          exact ⟨_, rfl⟩
      rintro _ ⟨xs, rfl⟩
      simp_arith [bg_bor, bg_kill, hk.bor, hk'.bor, st.kill]
      exact ⟨_, _, rfl⟩
    · rintro S ⟨o7, o8, rfl⟩
      exact ⟨_, _, _, rfl⟩
    · exact ⟨_, _, rfl⟩
  rintro _ ⟨b, o7, o8, rfl⟩
  simp_arith [hk'.bo, bg_of]
  exact ⟨_, rfl⟩
end
end Law
open Lin
namespace Law
open PySem L2 Lin
/-! ### an item of an own list as a path -/
theorem pick_path {b : Bag} {m : Nat} (h0 : 0 < m) (h : m < 1000000) : pickOf m__law_pick (bg b) m = some (dv b (m : Int), bg (db b (m : Int))) := by
  have hd : dv b (m : Int) < m := dv_ltN (by omega) (by omega)
  refine pickOf_eq hd fun vs hv => ?_
  have lnx : ∀ k, bLen [.nd k .lst (vs.map .im)] = some (I (m : Int)) := fun k => by simp [bLen, immV, vLen, hv]
  have hix : ∀ k, oIx (.nd k .lst (vs.map .im)) (I ((dv b (m : Int) : Nat) : Int)) = some (.im (vs[dv b (m : Int)]?.getD (.int 0))) := fun k => ix_lst (by omega) (by
    have hj : dv b (m : Int) < vs.length := by omega
    simp [List.getElem?_eq_getElem hj])
  have emk : ∀ (f : Kd → Kd) k, D.mk f (.nd k .lst (vs.map .im)) = .nd (f k) .lst (vs.map .im) := fun f k => by
    rw [D.mk, mkDL_eq, List.map_map]
    rfl
  have ebo : ∀ r, hasBor r (.nd .par .lst (vs.map .im)) = false := fun r => bor_raw fun q => by
    rw [D.kinds, List.mem_cons, kindsL_eq, List.mem_flatMap] at q
    rcases q with q | ⟨d, hd, q⟩
    · cases q
    · obtain ⟨v, _, rfl⟩ := List.mem_map.mp hd
      simp [D.kinds] at q
  have eki : ∀ r, killD r (some (.nd .par .lst (vs.map .im))) = some (.nd .par .lst (vs.map .im)) := fun r => kill_d (ebo r)
  have l1 := lnx .par
  have i1 := hix .par
  have ep := emk kPar .par
  have eb := emk (kBo 1) .par
  have kp : kPar .par = .par := rfl
  have kb : kBo 1 .par = .par := rfl
  rw [kp] at ep
  rw [kb] at eb
  generalize D.nd .par .lst (vs.map .im) = dl at *
  refine of_okC ?_
  unfold m__law_pick b__law_pick
  rw [okC_sem]
  simp_arith [bg_kill, bg_bor, bg_of, eki, ebo, ep, eb, l1, i1, okC_draw (b := b) (n := (m : Int)) (by omega) (by omega)]
theorem ixp_en {α : Type} {k c : Kd} {f : α → P} {xs : List α} {j : Nat} (h : j < xs.length) : ixPos (en k c (pL f xs)) (I (j : Int)) = some j := by
  rw [en_pL]
  unfold ixPos
  dsimp only
  unfold ixN
  rw [List.length_map]
  have h1 : (0 : Int) ≤ (j : Int) := by omega
  simp [h]
theorem at_nil {d : D} : d.at [] = some d := by cases d <;> rfl
theorem at_row {k c : Kd} {t : List (List Nat)} {j : Nat} {row : List Nat} (h : t[j]? = some row) : (en k c (pL (pL pN) t)).at [j] = some (en c c (pL pN row)) := by
  rw [en_pL]
  simp [D.at, h]
theorem put_row {k c c' : Kd} {t : List (List Nat)} {j : Nat} {x : List Nat} (h : j < t.length) : (en k c (pL (pL pN) t)).put [j] (en c c' (pL pN x)) = en k c (pL (pL pN) (t.set j x)) := by
  have e : en c c' (pL pN x) = en c c (pL pN x) := by rw [en_pL, en_pL]; rfl
  rw [en_pL k c (pL pN) t, en_pL k c (pL pN) (t.set j x)]
  simp [D.put, List.getElem?_eq_getElem h, List.map_set, e]
end Law
open Lin
namespace Law
open PySem L2 Lin
/-- [a draw for each ..] -/
theorem lc_draws {β : Type} {St : Bag → Sg} {b : Bag} {z : Int} {iv : Nat} {Me : List Nat} {fe : Sg → R D} {e : β → D} {ys : List β} {QL : List D → Sg → Prop} (hz1 : 0 < z) (hz2 : z < 1000000000000000000000000000000) (hl : ys.length < 1000000)
    (hb : ∀ b y, OkE NoX (fe ((St b).set iv (some (fzIf true (e y))))) fun d S2 => d = I (dv b z : Int) ∧ wipeS [iv] S2 = St (db b z))
    (hq : ∀ b' (ns : List Nat), ns.length = ys.length → (∀ x ∈ ns, (x : Int) < z) → QL (ns.map fun n : Nat => I (n : Int)) (St b')) : OkE NoX (lcL [iv] Me (gSet true iv) cYes fe (ys.map e) (St b) []) QL := by
  refine lc_inv (Inv := fun j S acc => ∃ b', ∃ ns : List Nat, S = St b' ∧ acc = ns.map (fun n : Nat => I (n : Int)) ∧ ns.length = j ∧ ∀ x ∈ ns, (x : Int) < z) ?_ ?_ ⟨b, [], rfl, rfl, rfl, by simp⟩
  · rintro i y S acc hy ⟨b', ns, rfl, rfl, hn, hx⟩
    have hi := (List.getElem?_eq_some_iff.mp hy).1
    rw [so_gset, ok_yes, if_pos rfl]
    refine (hb b' y).mono ?_
    rintro d S2 ⟨rfl, h2⟩
    refine ⟨⟨small_size (by rw [List.length_map]; omega), clean_im _ _⟩, db b' z, ns ++ [dv b' z], h2, by simp, by simp [hn], ?_⟩
    intro x hx2
    rcases List.mem_append.mp hx2 with h | h
    · exact hx x h
    · simp at h
      have : (dv b' z : Int) < z := dv_lt hz1 hz2
      omega
  · rintro S acc ⟨b', ns, rfl, rfl, hn, hx⟩
    exact hq b' ns hn hx
end Law
open Lin
namespace Law
open PySem L2 Lin
theorem ix_memI {zs : List Int} {k : Kd} {j : Nat} (h : j < zs.length) : ∃ z ∈ zs, oIx (.nd k .lst (zs.map fun z => I z)) (I (j : Int)) = some (I z) := ⟨zs[j], List.getElem_mem h, ix_lst (by omega) (by simp [h])⟩
theorem pow29 : oPow (I 10) (I 29) = some (I 100000000000000000000000000000) := by
  rw [pow_I (by decide) (by decide) (by decide)]; rfl
theorem row_ok (b : Bag) (n : Nat) (hn : n < 100000) : OkCE NoC (m__law_row [bg b, I n]) fun d ms => ∃ row b', d = en .own .frz (pL pN row) ∧ ms = [bg b'] ∧ row.length ≤ n := by
  unfold m__law_row b__law_row
  rw [okC_sem]
  have hd := dv_lt (b := b) (n := 4) (by decide) (by decide)
  obtain ⟨z, hz, ez⟩ := ix_memI (k := .own) (zs := [2, 3, 6, 100000000000000000000000000000]) (j := dv b 4) (by simp; omega)
  have hz2 : ∃ y : Nat, z = (y : Int) ∧ 0 < y ∧ y < 1000000000000000000000000000000 := ⟨z.toNat, by simp at hz; omega, by simp at hz; omega, by simp at hz; omega⟩
  obtain ⟨y, rfl, hy1, hy2⟩ := hz2
  simp only [List.map_cons, List.map_nil] at ez
  refine seq_cut (A := fun S => ∃ b', S = [some (bg b'), some (I n), some (I y), none]) ?_ ?_
  · simp_arith [bg_kill, bg_bor, bg_of, okC_draw (b := b) (n := 4) (by decide) (by decide), pow29, ez]
    exact ⟨_, rfl⟩
  rintro _ ⟨b, rfl⟩
  have hd2 := dv_lt (b := b) (n := (n : Int) + 1) (by omega) (by omega)
  simp_arith [bg_kill, bg_bor, bg_of, okC_draw (b := b) (n := (n : Int) + 1) (by omega) (by omega), rg1_eq (show dv b ((n : Int) + 1) < 1000000 by omega)]
  have hd3 : dv b ((n : Int) + 1) ≤ n := by omega
  generalize dv b ((n : Int) + 1) = m at hd3
  generalize db b ((n : Int) + 1) = b
  refine lc_draws (St := fun b => [some (bg b), some (I n), some (I y), none]) (b := b) (z := (y : Int)) (by omega) (by omega) ?_ ?_ ?_
  · simp; omega
  · intro b y'
    simp_arith [bg_kill, bg_bor, bg_of, okC_draw (b := b) (n := (y : Int)) (by omega) (by omega)]
  · intro b' ns hl hx
    simp_arith [fold_LN, bg_of]
    exact ⟨ns, b', rfl, rfl, by simp at hl; omega⟩
theorem row_ex (b : Bag) (n : Nat) (hn : n < 100000) : ∃ row b', m__law_row [bg b, I n] = .ok (en .own .frz (pL pN row)) [bg b'] ∧ row.length ≤ n := by
  obtain ⟨d, ms, e, row, b', rfl, rfl, h⟩ := (row_ok b n hn).get
  exact ⟨row, b', e, h⟩
end Law
open Lin
namespace Law
open PySem L2 Lin
def b0 (ns : List Int) : Bag := ⟨ns, 0, 0, 17, 0, by decide, by decide⟩
theorem bag_ok (sa : Option Addr) (ns : List Int) (d : D) (hd : d = .nd .frz .scr [] ∨ ∃ b, sa = some b ∧ d = .im (.ref b)) : m__law_bag sa ns [d] = .ok (bg (b0 ns)) [] := by
  refine of_okC ?_
  unfold m__law_bag b__law_bag
  have e : bListS sa ns [d.mk (kBo 0)] = some (iL .own ns) := by
    rcases hd with rfl | ⟨b, rfl, rfl⟩
    · rfl
    · simp [bListS, D.mk, intsD, iL]
  have o : ofD (iL .own ns) = true := of_iL ns
  have q : (iL .own ns).mk (kRet [false]) = iL .own ns := by rw [iL_mk]; rfl
  simp_arith [okC_sem, e, o, q]
  rfl
theorem scr_par (sa : Option Addr) (d : D) (hd : d = .nd .frz .scr [] ∨ ∃ b, sa = some b ∧ d = .im (.ref b)) : (d.mk (kBo 0)).mk kPar = d ∧ ∀ r, killD r (some d) = some d := by
  rcases hd with rfl | ⟨b, rfl, rfl⟩
  · exact ⟨rfl, fun _ => rfl⟩
  · exact ⟨rfl, fun _ => rfl⟩
end Law
open Lin
namespace Law
open PySem L2 Lin Bfs
def fA (e : Nat × List Nat) : P := pT [pN e.1, pL pN e.2]
theorem fA_0 {k c : Kd} {e : Nat × List Nat} : oIx (en k c (fA e)) (I 0) = some (I (e.1 : Int)) := by unfold fA; rw [en_pT]; exact ix_tup (by omega) rfl
theorem fA_1 {k c : Kd} {e : Nat × List Nat} : oIx (en k c (fA e)) (I 1) = some (en c c (pL pN e.2)) := by unfold fA; rw [en_pT]; exact ix_tup (by omega) rfl
theorem fA_new {a : Nat} {r : List Nat} : dTup [I (a : Int), en .own .frz (pL pN r)] = some (en .own .own (fA (a, r))) := by
  rw [dTup_s (by simp)]
  unfold fA
  rw [en_pT]
  simp only [List.map_cons, List.map_nil]
  rw [en_LNo]
  rfl
theorem fA_raw {a : Nat} {r : List Nat} : D.nd .own .tup [I (a : Int), en .own .frz (pL pN r)] = en .own .own (fA (a, r)) := by
  have := fA_new (a := a) (r := r)
  rw [dTup_s (by simp)] at this
  exact Option.some.inj this
theorem fold_A {xs : List (Nat × List Nat)} : D.nd .own .lst (xs.map fun e => en .own .own (fA e)) = en .own .own (pL fA xs) := by rw [en_pL]
theorem law_pure (sa : Option Addr) (ns : List Int) (d : D) (hl : ns.length ≤ 63) (hb : ∀ z ∈ ns, Builtin.Int.intBits z ≤ 1048576) (hd : d = .nd .frz .scr [] ∨ ∃ b, sa = some b ∧ d = .im (.ref b)) : m_law sa ns [d] = .ok (.im (.bl true)) [] := by
  obtain ⟨hd1, hd2⟩ := scr_par sa d hd
  refine of_okC ?_
  unfold m_law b_law
  rw [okC_sem]
  refine seq_cut (A := fun S => S = [some d, some (bg (b0 ns)), none, none, none, none, none, none, none, none, none, none]) ?_ ?_
  · simp_arith [hd1, okC_of (bag_ok sa ns d hd)]
  rintro _ rfl
  generalize b0 ns = b
  refine seq_cut (A := fun S => ∃ b' p t w, S = [some d, some (bg b'), some (en .frz .frz (pl p t)), none, none, none, none, none, none, none, none, none] ∧ Good p t w) ?_ ?_
  · obtain ⟨w, hw, _⟩ := scale_good (b := b) (n := 12) (m := 5) (by decide) (by decide) (by decide) (by decide)
    simp_arith [bg_kill, bg_bor, bg_of, hd2, okC_scale (b := b) (n := 12) (m := 5) (by decide) (by decide) (by decide) (by decide), plO_mk, plO_fz, plO_of]
    exact ⟨_, _, _, w, rfl, hw⟩
  rintro _ ⟨b, p, t, w, rfl, g⟩
  have hn1 := g.tab.n1
  have hn12 := g.tab.n12
  have e0 : oIx (en .frz .frz (pl p t)) (I 0) = some (en .frz .frz (pL pN p)) := ix_enT0
  have e1 : oIx (en .frz .frz (pl p t)) (I 1) = some (en .frz .frz (pL (pL pN) t)) := ix_enT1
  have hD := pl_D (p := p) (t := t) .frz st_frz
  have hS := sc_D (p := p) (t := t) .frz st_frz
  have sp := hD.stb
  have ss := hS.stb
  refine seq_cut (A := fun S => S = [some d, some (bg b), some (en .frz .frz (pl p t)), some (en .own .frz (pL pN p)), none, none, none, none, none, none, none, none]) ?_ ?_
  · simp_arith [e0]
  rintro _ rfl
  refine seq_cut (A := fun S => S = [some d, some (bg b), some (en .frz .frz (pl p t)), some (en .own .frz (pL pN p)), some (en .own .own (pL (pL pN) t)), none, none, none, none, none, none, none]) ?_ ?_
  · simp_arith [e1]
    refine lc_map (h := fun r : List Nat => en .own .frz (pL pN r)) (w := id) (by have := g.tab.len; omega) rfl (fun r _ => by rw [en_mk]; rfl) ?_ ?_
    · intro y hy
      simp_arith []
    · simp_arith [List.map_id, fold_LL]
  rintro _ rfl
  refine seq_cut (A := fun S => S = [some d, some (bg b), some (en .frz .frz (pl p t)), some (en .own .frz (pL pN p)), some (en .own .own (pL (pL pN) t)), none, some (en .frz .frz (sc p t)), none, none, none, none, none]) ?_ ?_
  · simp_arith [okM_of (init_ok g)]
  rintro _ rfl
  refine seq_cut (A := fun S => S = [some d, some (bg b), some (en .frz .frz (pl p t)), some (en .own .frz (pL pN p)), some (en .own .own (pL (pL pN) t)), none, some (en .frz .frz (sc p t)), none, none, none, none, none]) ?_ ?_
  · simp_arith [e0, e1]
  rintro _ rfl
  have htl := g.tab.len
  -- one row longer
  refine seq_cut (A := fun S => ∃ b t', S = [some d, some (bg b), some (en .frz .frz (pl p t)), some (en .own .frz (pL pN p)), some (en .own .own (pL (pL pN) t')), none, some (en .frz .frz (sc p t)), none, none, none, none, none] ∧ t'.length = t.length ∧ ∀ r ∈ t', r ≠ []) ?_ ?_
  · have hdv := dv_ltN (b := b) (n := t.length) (by omega) (by omega)
    obtain ⟨row, hrow⟩ : ∃ row, t[dv b (t.length : Int)]? = some row := ⟨_, List.getElem?_eq_getElem hdv⟩
    have hln : t.length = ((t.map fun r => en .own .own (pL pN r)).length) := by simp
    have hpk : pickOf m__law_pick (bg b) t.length = some (dv b (t.length : Int), bg (db b (t.length : Int))) := pick_path (by omega) (by omega)
    have hrl := (g.tab.get (a := dv b (t.length : Int)) (by omega)).2.1
    have hrw : t.getD (dv b (t.length : Int)) [] = row := by simp [List.getD, hrow]
    rw [hrw] at hrl
    have hw5 := g.tab.w5
    have e7 : ∀ K, MutAt mAppend (en .own .frz (pL pN row)) [I 7] K = K (en .own .frz (pL pN (row ++ [7]))) (.im .non) := fun K => mut_appN (n := 7) (by omega)
    simp_arith [ok_mutP, ok_pick, ok_pvar, nodeOk_sh, nodeAt, at_nil, ownLen_en, hpk, at_row hrow, e7, put_row hdv, bg_kill, bg_bor, bg_of, hd2, sp.kill, ss.kill]
    refine ⟨_, _, rfl, by simp, fun r hr => ?_⟩
    rcases List.mem_or_eq_of_mem_set hr with hr | rfl
    · obtain ⟨i, hi, rfl⟩ := List.getElem_of_mem hr
      have := (g.tab.get (a := i) (by omega)).2.1
      have hgd : t.getD i [] = t[i] := by simp [List.getD, List.getElem?_eq_getElem hi]
      rw [hgd] at this
      have h1 := g.tab.w1
      intro z; rw [z] at this; simp at this; omega
    · simp
  rintro _ ⟨b, t', rfl, hl', hr'⟩
  -- another name for one of its rows
  refine seq_cut (A := fun S => ∃ b t' o5, S = [some d, some (bg b), some (en .frz .frz (pl p t)), some (en .own .frz (pL pN p)), some (en .own .own (pL (pL pN) t')), some o5, some (en .frz .frz (sc p t)), none, none, none, none, none] ∧ killD 4 (some o5) = none) ?_ ?_
  · have hdv := dv_ltN (b := b) (n := t'.length) (by omega) (by omega)
    obtain ⟨row, hrow⟩ : ∃ row, t'[dv b (t'.length : Int)]? = some row := ⟨_, List.getElem?_eq_getElem hdv⟩
    have hr0 : row ≠ [] := hr' row (List.mem_of_getElem? hrow)
    obtain ⟨x, r, rfl⟩ : ∃ x r, row = x :: r := by
      cases row with
      | nil => exact absurd rfl hr0
      | cons x r => exact ⟨x, r, rfl⟩
    have hix : ixPos (en .own .own (pL (pL pN) t')) (I (dv b (t'.length : Int) : Int)) = some (dv b (t'.length : Int)) := ixp_en hdv
    simp_arith [ok_openP, ok_pix, ok_pvar, nodeAt, at_nil, at_row hrow, hix, okC_draw (b := b) (n := (t'.length : Int)) (by omega) (by omega), bg_kill, bg_bor, bg_of, hd2, sp.kill, ss.kill]
    have e9 : ∀ K, SetAt oSet (en .own .frz (pL pN (x :: r))) (I 0) (I 99) K = K (en .own .frz (pL pN (99 :: r))) := fun K => set_lstN (i := 0) (n := 99) (by simp)
    have emv : ∀ s0 s1 s2 s3 s6, killD 5 s0 = s0 → killD 5 s1 = s1 → killD 5 s2 = s2 → killD 5 s3 = s3 → killD 5 s6 = s6 → mvL [5] [s0, s1, s2, s3, none, some (en .own .frz (pL pN (99 :: r))), s6, none, none, none, none, none] = some ([en .own .frz (pL pN (99 :: r))], [s0, s1, s2, s3, none, none, s6, none, none, none, none, none]) := fun s0 s1 s2 s3 s6 h0 h1 h2 h3 h6 => by
      simp [mvL, cMv, bor_en, cleanD, h0, h1, h2, h3, h6, kill_none]
    refine ok_closeP ?_
    simp_arith [e9, bg_kill, hd2, sp.kill, ss.kill]
    rw [emv _ _ _ _ _ (hd2 5) (bg_kill ..) (sp.kill 5) (kill_en (by simp) (by simp) _) (ss.kill 5)]
    simp_arith [put_row hdv, List.head?_cons]
    refine ⟨_, _, _, rfl, ?_⟩
    rw [en_pL]
    simp [killD, bor_nd, kz]
  rintro _ ⟨b, t', o5, rfl, h5⟩
  refine seq_cut (A := fun S => S = [some d, some (bg b), some (en .frz .frz (pl p t)), some (en .own .frz (pL pN p)), some (.nd .own .lst []), none, some (en .frz .frz (sc p t)), none, none, none, none, none]) ?_ ?_
  · simp_arith [bg_kill, hd2, sp.kill, ss.kill, h5]
  rintro _ rfl
  refine seq_cut (A := fun S => S = [some d, some (bg b), some (en .frz .frz (pl p t)), some (.nd .own .lst []), some (.nd .own .lst []), none, some (en .frz .frz (sc p t)), none, none, none, none, none]) ?_ ?_
  · simp_arith [bg_kill, hd2, sp.kill, ss.kill]
  rintro _ rfl
  have kE : ∀ r, killD r (some (D.nd .own .lst [])) = some (D.nd .own .lst []) := fun r => by simp [killD, bor_nd, kz]
  generalize D.nd .own .lst [] = dE at kE
  refine seq_cut (A := fun S => ∃ b xs, S = [some d, some (bg b), some (en .frz .frz (pl p t)), some dE, some dE, none, some (en .frz .frz (sc p t)), some (en .own .own (pL fA xs)), none, none, none, none] ∧ xs.length = 2 ∧ ∀ e ∈ xs, e.1 < p.length ∧ e.2.length < 90000) ?_ ?_
  · simp_arith [rg1_eq (show 2 < 1000000 by decide)]
    have er : rg1 [I 2] = some (.im .non, (List.range 2).map fun k : Nat => I (k : Int)) := rg1_eq (n := 2) (by decide)
    simp_arith [er]
    refine lc_inv (Inv := fun j S acc => ∃ b xs, S = [some d, some (bg b), some (en .frz .frz (pl p t)), some dE, some dE, none, some (en .frz .frz (sc p t)), none, none, none, none, none] ∧ acc = xs.map (fun e => en .own .own (fA e)) ∧ xs.length = j ∧ ∀ e ∈ xs, e.1 < p.length ∧ e.2.length < 90000) ?_ ?_ ⟨b, [], rfl, rfl, rfl, by simp⟩
    · rintro i y S acc hy ⟨b, xs, rfl, rfl, hn, hx⟩
      have hi := (List.getElem?_eq_some_iff.mp hy).1
      have hd1 : dv b (p.length : Int) < p.length := dv_ltN (by omega) (by omega)
      obtain ⟨row, b', erow, hrow⟩ := row_ex (db b (p.length : Int)) 8 (by decide)
      have erow : m__law_row [bg (db b (p.length : Int)), I 8] = .ok (en .own .frz (pL pN row)) [bg b'] := erow
      have cf : ∀ e, (!hasBor 1 (en .own .own (fA e))) = true := fun e => by rw [bor_en (by simp) (by simp)]; rfl
      simp_arith [e0, kE, bg_kill, bg_bor, bg_of, hd2, sp.kill, ss.kill, okC_draw (b := b) (n := (p.length : Int)) (by omega) (by omega), okC_of erow]
      rw [List.length_range] at hi
      refine ⟨small_size (by rw [List.length_map]; omega), b', xs ++ [(dv b (p.length : Int), row)], rfl, by rw [fA_raw]; simp, by simp [hn], fun e he => ?_⟩
      rcases List.mem_append.mp he with he | he
      · exact hx e he
      · rw [List.mem_singleton.mp he]
        exact ⟨hd1, by show row.length < 90000; omega⟩
    · rintro S acc ⟨b, xs, rfl, rfl, hn, hx⟩
      simp_arith [fold_A]
      exact ⟨_, _, rfl, by simpa using hn, hx⟩
  rintro _ ⟨b, xs, rfl, hxl, hx⟩
  obtain ⟨q0, q1, rfl⟩ : ∃ q0 q1, xs = [q0, q1] := by
    match xs, hxl with
    | [q0, q1], _ => exact ⟨q0, q1, rfl⟩
  refine seq_cut (A := fun S => ∃ b q0 q1, S = [some d, some (bg b), some (en .frz .frz (pl p t)), some dE, some dE, none, some (en .frz .frz (sc p t)), some (en .own .own (pL fA [q0, q1])), none, none, none, none] ∧ ∀ e ∈ [q0, q1], e.1 < p.length ∧ e.2.length < 90000) ?_ ?_
  · rw [ok_if]
    refine OkE.mono (Q := fun _ S => ∃ b, S = [some d, some (bg b), some (en .frz .frz (pl p t)), some dE, some dE, none, some (en .frz .frz (sc p t)), some (en .own .own (pL fA [q0, q1])), none, none, none, none]) ?_ ?_
    · have ka : ∀ r, killD r (some (en .own .own (pL fA [q0, q1]))) = some (en .own .own (pL fA [q0, q1])) := fun r => kill_en (by simp) (by simp) _
      simp_arith [kE, ka, bg_kill, bg_bor, bg_of, hd2, sp.kill, ss.kill, okC_draw (b := b) (n := 8) (by decide) (by decide)]
      exact ⟨_, rfl⟩
    rintro c _ ⟨b, rfl⟩
    cases c with
    | false =>
      rw [if_neg (by decide)]
      simp_arith []
      exact ⟨_, _, _, rfl, fun e he => hx e (by simpa using he)⟩
    | true =>
      rw [if_pos rfl]
      have er : rg1 [I 2500] = some (.im .non, (List.range 2500).map fun k : Nat => I (k : Int)) := rg1_eq (n := 2500) (by decide)
      have i1 : ∀ k c, oIx (en k c (pL fA [q0, q1])) (I 1) = some (en c c (fA q1)) := fun k c => ix_enq (i := 1) rfl
      have ka : ∀ r, killD r (some (en .own .own (pL fA [q0, q1]))) = some (en .own .own (pL fA [q0, q1])) := fun r => kill_en (by simp) (by simp) _
      simp_arith [i1, fA_0, er]
      refine lc_draws (St := fun b => [some d, some (bg b), some (en .frz .frz (pl p t)), some dE, some dE, none, some (en .frz .frz (sc p t)), some (en .own .own (pL fA [q0, q1])), none, none, none, none]) (b := b) (z := 3) (by omega) (by omega) ?_ ?_ ?_
      · simp
      · intro b y
        simp_arith [kE, ka, bg_kill, bg_bor, bg_of, hd2, sp.kill, ss.kill, okC_draw (b := b) (n := 3) (by decide) (by decide)]
      · intro b' ns hln _
        have hln : ns.length = 2500 := by simpa using hln
        have eset : ∀ K, SetAt oSet (en .own .own (pL fA [q0, q1])) (I 1) (en .own .own (fA (q1.1, ns))) K = K (en .own .own (pL fA [q0, (q1.1, ns)])) := fun K => set_lst (g := fA) (i := 1) (by simp)
        simp_arith [fold_LN]
        rw [fA_raw, eset]
        simp_arith [kE, bg_kill, hd2]
        refine ⟨_, _, _, rfl, fun e he => ?_⟩
        rcases he with rfl | rfl
        · exact hx _ (by simp)
        · exact ⟨(hx q1 (by simp)).1, by show ns.length < 90000; omega⟩
  rintro _ ⟨b, q0, q1, rfl, hx⟩
  have ka : ∀ r, killD r (some (en .own .own (pL fA [q0, q1]))) = some (en .own .own (pL fA [q0, q1])) := fun r => kill_en (by simp) (by simp) _
  refine seq_cut (A := fun S => ∃ b o8 o10, S = [some d, some (bg b), some (en .frz .frz (pl p t)), some dE, some dE, none, some (en .frz .frz (sc p t)), some (en .own .own (pL fA [q0, q1])), o8, none, o10, none]) ?_ ?_
  · have eT : dLst [I 0, I 1, I 0] = some (en .own .frz (pL pN [0, 1, 0])) := by rw [dLst_s (by simp), en_pL]; rfl
    obtain ⟨T, hT⟩ : ∃ T : List Nat, T = [0, 1, 0] := ⟨_, rfl⟩
    have hTx : ∀ x ∈ T, x < 2 := fun x hx => by rw [hT] at hx; simp at hx; omega
    have eT2 : ([I 0, I 1, I 0] : List D) = T.map fun n : Nat => I (n : Int) := by rw [hT]; rfl
    have eT3 : dLst (T.map fun n : Nat => I (n : Int)) = some (en .own .frz (pL pN T)) := by rw [← eT2, hT]; exact eT
    clear hT eT
    simp_arith [eT2, eT3]
    refine for_inv (Inv := fun i S => ∃ b o8 o10, S = [some d, some (bg b), some (en .frz .frz (pl p t)), some dE, some dE, none, some (en .frz .frz (sc p t)), some (en .own .own (pL fA [q0, q1])), o8, none, o10, none]) ?_ ?_ ?_
    · rintro i x S hxx ⟨b, o8, o10, rfl⟩
      have hx2 := hTx x (List.mem_of_getElem? hxx)
      obtain ⟨q, hq, hqm⟩ : ∃ q, [q0, q1][x]? = some q ∧ q ∈ [q0, q1] := by
        have h2 : x < [q0, q1].length := by simpa using hx2
        exact ⟨_, List.getElem?_eq_getElem h2, List.getElem_mem h2⟩
      obtain ⟨hq1, hq2⟩ := hx q hqm
      have ix : ∀ k c, oIx (en k c (pL fA [q0, q1])) (I (x : Int)) = some (en c c (fA q)) := fun k c => ix_enq hq
      simp only [so_gset, fzIf_im, List.set_cons_succ, List.set_cons_zero]
      refine seq_cut (A := fun S => ∃ b o10, S = [some d, some (bg b), some (en .frz .frz (pl p t)), some dE, some dE, none, some (en .frz .frz (sc p t)), some (en .own .own (pL fA [q0, q1])), some (I (x : Int)), none, o10, none]) ?_ ?_
      · obtain ⟨_, _, er, rfl, b', rfl⟩ := (row_right_ok b g hS hD hq1 st_par q.2 (by omega)).get
        simp_arith [ix, fA_0, fA_1, okC_of er, kE, ka, bg_kill, bg_bor, bg_of, hd2, sp.kill, ss.kill, sp.bo, ss.bo, sp.pa, ss.pa]
        exact ⟨_, _, rfl⟩
      rintro _ ⟨b, o10, rfl⟩
      refine seq_cut (A := fun S => S = [some d, some (bg b), some (en .frz .frz (pl p t)), some dE, some dE, none, some (en .frz .frz (sc p t)), some (en .own .own (pL fA [q0, q1])), some (I (x : Int)), none, some (.nd .own .lst [en .own .frz (pL pN p), en .own .own (pL (pL pN) t)]), none]) ?_ ?_
      · simp_arith [ss.bo, ss.pa, obj_sc opms, obj_sc otab, okC_of (premiums_ok (p := p) (t := t) st_frz), okC_of (table_ok g st_frz)]
      rintro _ rfl
      refine seq_cut (A := fun S => ∃ b t', S = [some d, some (bg b), some (en .frz .frz (pl p t)), some dE, some dE, none, some (en .frz .frz (sc p t)), some (en .own .own (pL fA [q0, q1])), some (I (x : Int)), none, some (.nd .own .lst [en .own .frz (pL pN p), en .own .own (pL (pL pN) t')]), none]) ?_ ?_
      · have hdv := dv_ltN (b := b) (n := t.length) (by omega) (by omega)
        obtain ⟨row, hrow⟩ : ∃ row, t[dv b (t.length : Int)]? = some row := ⟨_, List.getElem?_eq_getElem hdv⟩
        have hpk : pickOf m__law_pick (bg b) t.length = some (dv b (t.length : Int), bg (db b (t.length : Int))) := pick_path (by omega) (by omega)
        have hix : ∀ z, ixPos (D.nd .own .lst [z, en .own .own (pL (pL pN) t)]) (I 1) = some 1 := fun z => rfl
        have k10 : ∀ r, killD r (some (D.nd .own .lst [en .own .frz (pL pN p), en .own .own (pL (pL pN) t)])) = some (D.nd .own .lst [en .own .frz (pL pN p), en .own .own (pL (pL pN) t)]) := fun r => by
          refine kill_d ?_
          simp [bor_nd, kz, bor_en]
        have at1 : ∀ z u, (D.nd .own .lst [z, u]).at [1] = some u := fun z u => by simp [D.at, at_nil]
        have at2 : ∀ z u j, (D.nd .own .lst [z, u]).at [1, j] = u.at [j] := fun z u j => by simp [D.at]
        have pt2 : ∀ z u v j, (D.nd .own .lst [z, u]).put [1, j] v = D.nd .own .lst [z, u.put [j] v] := fun z u v j => by simp [D.put]
        simp_arith [ok_mutP, ok_pick, ok_pix, ok_pvar, nodeOk_sh, nodeAt, at_nil, at1, at2, pt2, hix, ownLen_en, hpk, at_row hrow, put_row hdv, kE, ka, k10, bg_kill, bg_bor, bg_of, hd2, sp.kill, ss.kill]
        refine ⟨db b (t.length : Int), t.set (dv b (t.length : Int)) [], ?_⟩
        rw [← put_row (k := .own) (c := .own) (c' := .frz) hdv]
        rfl
      rintro _ ⟨b, t', rfl⟩
      refine seq_cut (A := fun S => ∃ o10, S = [some d, some (bg b), some (en .frz .frz (pl p t)), some dE, some dE, none, some (en .frz .frz (sc p t)), some (en .own .own (pL fA [q0, q1])), some (I (x : Int)), none, o10, none]) ?_ ?_
      · have hix : ∀ z u, ixPos (D.nd .own .lst [z, u]) (I 0) = some 0 := fun z u => rfl
        have at0 : ∀ z u, (D.nd .own .lst [z, u]).at [0] = some z := fun z u => by simp [D.at, at_nil]
        have k10 : ∀ r, killD r (some (D.nd .own .lst [en .own .frz (pL pN p), en .own .own (pL (pL pN) t')])) = some (D.nd .own .lst [en .own .frz (pL pN p), en .own .own (pL (pL pN) t')]) := fun r => by
          refine kill_d ?_
          simp [bor_nd, kz, bor_en]
        simp_arith [ok_mutP, ok_pix, ok_pvar, nodeOk_sh, nodeAt, at_nil, at0, hix, kE, ka, k10, bg_kill, bg_bor, bg_of, hd2, sp.kill, ss.kill]
        exact ⟨_, rfl⟩
      rintro _ ⟨o10, rfl⟩
      simp_arith [ss.bo, ss.pa, sp.bo, sp.pa, okC_of (asked_ok g hS hD)]
      exact ⟨_, _, _, rfl⟩
    · rintro S ⟨b, o8, o10, rfl⟩
      exact ⟨b, o8, o10, rfl⟩
    · exact ⟨b, none, none, rfl⟩
  rintro _ ⟨b, o8, o10, rfl⟩
  obtain ⟨h1, h2⟩ := hx q0 (by simp)
  refine seq_cut (A := fun S => ∃ b r' o8 o10, S = [some d, some (bg b), some (en .frz .frz (pl p t)), some dE, some dE, none, some (en .frz .frz (sc p t)), some (en .own .own (pL fA [(q0.1, r'), q1])), o8, none, o10, some (en (.bor 7) .frz (pL pN r'))] ∧ r'.length < 100000) ?_ ?_
  · have hix : ixPos (en .own .own (pL fA [q0, q1])) (I 0) = some 0 := ixp_en (j := 0) (by simp)
    have at0 : (en .own .own (pL fA [q0, q1])).at [0] = some (en .own .own (fA q0)) := by rw [en_pL]; simp [D.at, at_nil]
    have at1 : (en .own .own (pL fA [q0, q1])).at [0, 1] = some (en .own .own (pL pN q0.2)) := by
      rw [en_pL]; simp [D.at, at_nil]; unfold fA; rw [en_pT]; simp [D.at, at_nil]
    have hix1 : ixPos (en .own .own (fA q0)) (I 1) = some 1 := by unfold fA; rw [en_pT]; rfl
    simp_arith [ok_openP, ok_pix, ok_pvar, nodeAt, at_nil, at0, at1, hix, hix1, kE, ka, bg_kill, bg_bor, bg_of, hd2, sp.kill, ss.kill]
    have emv : ∀ s0 s1 s2 s3 s4 s6 o8 o10 u, killD 11 s0 = s0 → killD 11 s1 = s1 → killD 11 s2 = s2 → killD 11 s3 = s3 → killD 11 s4 = s4 → killD 11 s6 = s6 → hasBor 11 u = false → mvL [11] [s0, s1, s2, s3, s4, none, s6, none, o8, none, o10, some u] = some ([u], [s0, s1, s2, s3, s4, none, s6, none, killD 11 o8, none, killD 11 o10, none]) := fun s0 s1 s2 s3 s4 s6 o8 o10 u h0 h1 h2 h3 h4 h6 hu => by
      simp [mvL, cMv, cleanD, hu, h0, h1, h2, h3, h4, h6, kill_none]
    have eA : ∀ a b : Nat × List Nat, en .own .own (pL fA [a, b]) = D.nd .own .lst [D.nd .own .tup [I (a.1 : Int), en .own .frz (pL pN a.2)], D.nd .own .tup [I (b.1 : Int), en .own .frz (pL pN b.2)]] := fun a b => by
      rw [fA_raw, fA_raw, en_pL]; rfl
    have ept : ∀ r', (en .own .own (pL fA [q0, q1])).put [0, 1] (en .own .frz (pL pN r')) = en .own .own (pL fA [(q0.1, r'), q1]) := fun r' => by
      rw [eA, eA]
      simp [D.put]
    refine ok_closeP ?_
    simp_arith [kE, bg_kill, bg_bor, bg_of, hd2, sp.kill, ss.kill, okC_draw (b := b) (n := 6) (by decide) (by decide), mut_appN (show q0.2.length < 1000000 by omega)]
    rw [emv _ _ _ _ _ _ _ _ _ (hd2 11) (bg_kill ..) (sp.kill 11) (kE 11) (kE 11) (ss.kill 11) (bor_en (by simp) (by simp) _)]
    simp_arith [ept, List.head?_cons]
    exact ⟨_, _, _, _, rfl, by simp; omega⟩
  rintro _ ⟨b, r', o8, o10, rfl, hr'⟩
  obtain ⟨_, _, er, rfl, b', rfl⟩ := (row_right_ok b g hS hD h1 st_par r' hr').get
  have ix0 : ∀ k c, oIx (en k c (pL fA [(q0.1, r'), q1])) (I 0) = some (en c c (fA (q0.1, r'))) := fun k c => ix_enq (i := 0) rfl
  have ka : ∀ r, killD r (some (en .own .own (pL fA [(q0.1, r'), q1]))) = some (en .own .own (pL fA [(q0.1, r'), q1])) := fun r => kill_en (by simp) (by simp) _
  simp_arith [ix0, fA_0, kE, ka, bg_kill, bg_bor, bg_of, hd2, sp.kill, ss.kill, sp.bo, ss.bo, sp.pa, ss.pa, okC_of er]
end Law
end
section
set_option maxHeartbeats 0
namespace Law
open PySem L2 Lin
def top (i : Nat) : Stmt := PySem.Challenge.pw_claimclasses_k11_scales_and_rows.main.body.getD i (.Pass ⟨0, 0, 0, 0⟩)
structure Txt (K : PySem.W.Frag) (mg : Str → Option Value) (cl : Nat → Addr) : Prop where
  b_abs : mg "abs" = none
  b_all : mg "all" = none
  b_bool : mg "bool" = none
  b_int : mg "int" = none
  b_isinstance : mg "isinstance" = none
  b_len : mg "len" = none
  b_list : mg "list" = none
  b_max : mg "max" = none
  b_min : mg "min" = none
  b_range : mg "range" = none
  b_sorted : mg "sorted" = none
  b_sum : mg "sum" = none
  c_GREATEST_PREMIUM : ∃ u, mg "GREATEST_PREMIUM" = some u ∧ RelV (.int 1000000) u
  c_MOST_CLASSES : ∃ u, mg "MOST_CLASSES" = some u ∧ RelV (.int 12) u
  c_MOST_COLUMNS : ∃ u, mg "MOST_COLUMNS" = some u ∧ RelV (.int 5) u
  k_Scale : Cls K (cl 0)
  n_Scale_moves : NoAttr K (cl 0) "moves"
  n_Scale_rates : NoAttr K (cl 0) "rates"

section
variable {P : Program} {w : World} {K : PySem.W.Frag} {mg : Str → Option Value} {base : Heap} {g : Gc}
abbrev s__law_bag : Stmt := (top 18)
theorem sc__law_bag : FnScope ["_law_script"] ["_law_script"] (defScope s__law_bag) := ⟨rfl, rfl, rfl, by decide +kernel, rfl, by decide +kernel, by decide +kernel⟩
theorem ok__law_bag {f : Addr} {fd : FuncData} (F : Fun K "_law_bag" "_law_bag" s__law_bag f fd) (tx : Txt K mg g.cl) (hph : ∀ Γ, g.ph Γ) {scA : Option Addr} {scN : List Int} (hS : ScrOk K g scA scN)  : FnOk P w K mg base (L2.CX P w) 1 f fd ["_law_script"] (spOf g [false] (m__law_bag scA scN)) :=
  def_ok hph (k := 0) [] F sc__law_bag [false] rfl (keep_of rfl) fun cdv A outer s H E hr cx => show QSs _ g _ _ (defBody s__law_bag) (b__law_bag scA scN) from
    (sdb_one (sds_ret (sd_lst (sda_cons (sd_callTy (bu_listS hS) (sda_cons (sd_var 0) sda_nil) tx.b_list) (sda_cons sd_int (sda_cons sd_int (sda_cons sd_int (sda_cons sd_int sda_nil))))))))
abbrev s__law_draw : Stmt := (top 19)
theorem sc__law_draw : FnScope ["_law_bag_here", "_law_size", "_law_cell", "_law_digit", "_law_mixed_here"] ["_law_bag_here", "_law_size"] (defScope s__law_draw) := ⟨rfl, rfl, rfl, by decide +kernel, rfl, by decide +kernel, by decide +kernel⟩
theorem ok__law_draw {f : Addr} {fd : FuncData} (F : Fun K "_law_draw" "_law_draw" s__law_draw f fd) (tx : Txt K mg g.cl) (hph : ∀ Γ, g.ph Γ)  : FnOk P w K mg base (L2.CX P w) 1 f fd ["_law_bag_here", "_law_size"] (spOf g [true, false] (m__law_draw)) :=
  def_ok hph (k := 0) [0, 7, 0, 0, 0, 8, 0, 9, 9] F sc__law_draw [true, false] rfl (keep_of rfl) fun cdv A outer s H E hr cx => show QSs _ g _ _ (defBody s__law_draw) (b__law_draw) from
    (sdb_cons (sds_setAt cx.toCxE (sd_op bm_add (sd_ix cx.toCxE (sd_var 0) sd_int) sd_int) (sdp_var 0) sd_int) (sdb_cons (sds_if (sdt_w (sdw_and (sdt_cmp (cm_eq cx.toCxE) (sd_ix cx.toCxE (sd_var 0) sd_int) sd_int) (sdw_and1 (sdt_cmp cm_lt (sd_ix cx.toCxE (sd_var 0) sd_int) (sd_callB (bu_len) (sda_cons (sd_ix cx.toCxE (sd_var 0) sd_int) sda_nil) tx.b_len))))) (sdb_cons (sds_set true 2 cx.nd (sd_ix cx.toCxE (sd_ix cx.toCxE (sd_var 0) sd_int) (sd_ix cx.toCxE (sd_var 0) sd_int))) (sdb_cons (sds_setAt cx.toCxE (sd_op bm_add (sd_ix cx.toCxE (sd_var 0) sd_int) sd_int) (sdp_var 0) sd_int) (sdb_cons (sds_setAt cx.toCxE (sd_op bm_mul (sd_op bm_add (sd_op bm_mul sd_int (sd_callB (bu_abs) (sda_cons (sd_var 2) sda_nil) tx.b_abs)) (sd_callTy (bu_int) (sda_cons (sd_cmp cm_lt (sd_var 2) sd_int) sda_nil) tx.b_int)) (sd_callTy (bu_int) (sda_cons (sd_cmp cm_ge (sd_callB (bu_abs) (sda_cons (sd_var 2) sda_nil) tx.b_abs) (sd_op bm_pow sd_int sd_int)) sda_nil) tx.b_int)) (sdp_var 0) sd_int) (sdb_one (sds_setAt cx.toCxE (sd_op bm_mod (sd_callTy (bu_int) (sda_cons (sd_op bm_add (sd_op bm_add (sd_op bm_mul (sd_ix cx.toCxE (sd_var 0) sd_int) sd_int) (sd_op bm_mul (sd_var 2) sd_int)) sd_int) sda_nil) tx.b_int) sd_int) (sdp_var 0) sd_int))))) sdb_nil) (sdb_cons (sds_set true 3 cx.nd (sd_op bm_mod (sd_callTy (bu_int) (sda_cons (sd_ix cx.toCxE (sd_var 0) sd_int) sda_nil) tx.b_int) (sd_var 1))) (sdb_cons (sds_if (sdt_cmp cm_gt (sd_ix cx.toCxE (sd_var 0) sd_int) sd_int) (sdb_cons (sds_setAt cx.toCxE (sd_op bm_fdiv (sd_ix cx.toCxE (sd_var 0) sd_int) (sd_var 1)) (sdp_var 0) sd_int) (sdb_one (sds_ret (sd_var 3)))) sdb_nil) (sdb_cons (sds_set true 4 cx.nd (sd_op bm_mod (sd_callTy (bu_int) (sda_cons (sd_op bm_add (sd_ix cx.toCxE (sd_var 0) sd_int) (sd_op bm_mul (sd_ix cx.toCxE (sd_var 0) sd_int) sd_int)) sda_nil) tx.b_int) sd_int)) (sdb_cons (sds_set true 4 cx.nd (sd_op bm_mod (sd_callTy (bu_int) (sda_cons (sd_op bm_add (sd_op bm_add (sd_op bm_pow (sd_var 4) sd_int) (sd_op bm_mul (sd_ix cx.toCxE (sd_var 0) sd_int) sd_int)) sd_int) sda_nil) tx.b_int) sd_int)) (sdb_one (sds_ret (sd_op bm_mod (sd_op bm_fdiv (sd_op bm_mod (sd_callTy (bu_int) (sda_cons (sd_op bm_pow (sd_var 4) sd_int) sda_nil) tx.b_int) sd_int) sd_int) (sd_var 1))))))))))
abbrev s__law_scale : Stmt := (top 22)
theorem sc__law_scale : FnScope ["_law_bag_here", "_law_most", "_law_most_wide", "_law_count", "_law_wide", "_law_size", "_law_premiums", "_law_at", "_law_table", "_law_moves", "_law_k", "_law_premium"] ["_law_bag_here", "_law_most", "_law_most_wide"] (defScope s__law_scale) := ⟨rfl, rfl, rfl, by decide +kernel, rfl, by decide +kernel, by decide +kernel⟩
theorem ok__law_scale {f : Addr} {fd : FuncData} (F : Fun K "_law_scale" "_law_scale" s__law_scale f fd) (tx : Txt K mg g.cl) (hph : ∀ Γ, g.ph Γ) (h__law_draw : Df P w K mg base g "_law_draw" ["_law_bag_here", "_law_size"] 1 [true, false] m__law_draw) : FnOk P w K mg base (L2.CX P w) 2 f fd ["_law_bag_here", "_law_most", "_law_most_wide"] (spOf g [true, false, false] (m__law_scale)) :=
  def_ok hph (k := 1) [0, 15, 0, 16, 0, 17, 0, 7, 18, 20, 19, 0, 10, 21, 0, 10, 21, 8, 0, 11, 18, 6, 8] F sc__law_scale [true, false, false] rfl (keep_of rfl) fun cdv A outer s H E hr cx => show QSs _ g _ _ (defBody s__law_scale) (b__law_scale) from
    (sdb_cons (sds_set true 3 cx.nd (sd_op bm_add sd_int (sd_call (rs := [some 0, none]) cx.toCxE h__law_draw (hr.mono (by decide)) (sdc_ref 0 (sdc_val (sd_var 1) sdc_nil))))) (sdb_cons (sds_set true 4 cx.nd (sd_op bm_add sd_int (sd_call (rs := [some 0, none]) cx.toCxE h__law_draw (hr.mono (by decide)) (sdc_ref 0 (sdc_val (sd_var 2) sdc_nil))))) (sdb_cons (sds_set true 5 cx.nd (sd_ix cx.toCxE (sd_lst (sda_cons sd_int (sda_cons sd_int (sda_cons sd_int sda_nil)))) (sd_call (rs := [some 0, none]) cx.toCxE h__law_draw (hr.mono (by decide)) (sdc_ref 0 (sdc_val sd_int sdc_nil))))) (sdb_cons (by first | exact sds_setLc false 6 [("_law_at", 7)] cx.toCxE (sdi_rng1 (sda_cons (sd_var 3) sda_nil) tx.b_range) (blkOk_by rfl) (fun _ _ _ _ _ cx1 => (sdg_name true 7 cx1.nd)) (fun _ _ _ _ _ cx1 => sdts_nil) (fun _ _ _ _ _ cx1 => (sd_call (rs := [some 0, none]) cx1 h__law_draw (hr.mono (by decide)) (sdc_ref 0 (sdc_val (sd_var 5) sdc_nil)))) | exact sds_set false 6 cx.nd (sd_lc [("_law_at", 7)] cx.toCxE (sdi_rng1 (sda_cons (sd_var 3) sda_nil) tx.b_range) (blkOk_by rfl) (fun _ _ _ _ _ cx1 => (sdg_name true 7 cx1.nd)) (fun _ _ _ _ _ cx1 => sdts_nil) (fun _ _ _ _ _ cx1 => (sd_call (rs := [some 0, none]) cx1 h__law_draw (hr.mono (by decide)) (sdc_ref 0 (sdc_val (sd_var 5) sdc_nil)))))) (sdb_cons (sds_set false 8 cx.nd (sd_lst sda_nil)) (sdb_cons (sds_for cx (sdi_rng1 (sda_cons (sd_var 3) sda_nil) tx.b_range) (sdg_name true 7 cx.nd) (sdb_cons (by first | exact sds_setLc true 9 [("_law_k", 10)] cx.toCxE (sdi_rng1 (sda_cons (sd_var 4) sda_nil) tx.b_range) (blkOk_by rfl) (fun _ _ _ _ _ cx1 => (sdg_name true 10 cx1.nd)) (fun _ _ _ _ _ cx1 => sdts_nil) (fun _ _ _ _ _ cx1 => (sd_call (rs := [some 0, none]) cx1 h__law_draw (hr.mono (by decide)) (sdc_ref 0 (sdc_val (sd_var 3) sdc_nil)))) | exact sds_set true 9 cx.nd (sd_lc [("_law_k", 10)] cx.toCxE (sdi_rng1 (sda_cons (sd_var 4) sda_nil) tx.b_range) (blkOk_by rfl) (fun _ _ _ _ _ cx1 => (sdg_name true 10 cx1.nd)) (fun _ _ _ _ _ cx1 => sdts_nil) (fun _ _ _ _ _ cx1 => (sd_call (rs := [some 0, none]) cx1 h__law_draw (hr.mono (by decide)) (sdc_ref 0 (sdc_val (sd_var 3) sdc_nil)))))) (sdb_cons (sds_if (sdt_cmp (cm_eq cx.toCxE) (sd_call (rs := [some 0, none]) cx.toCxE h__law_draw (hr.mono (by decide)) (sdc_ref 0 (sdc_val sd_int sdc_nil))) sd_int) (sdb_one (sds_set true 9 cx.nd (sd_op bm_add (sd_lst (sda_cons (sd_callB (bu_max cx.toCxE) (sda_cons (sd_op bm_sub (sd_var 7) sd_int) (sda_cons sd_int sda_nil)) tx.b_max) sda_nil)) (sd_lc [("_law_k", 10)] cx.toCxE (sdi_rng2 (sda_cons sd_int (sda_cons (sd_var 4) sda_nil)) tx.b_range) (blkOk_by rfl) (fun _ _ _ _ _ cx1 => (sdg_name true 10 cx1.nd)) (fun _ _ _ _ _ cx1 => sdts_nil) (fun _ _ _ _ _ cx1 => (sd_callB (bu_min cx1) (sda_cons (sd_op bm_add (sd_var 7) (sd_var 10)) (sda_cons (sd_op bm_sub (sd_var 3) sd_int) sda_nil)) tx.b_min)))))) sdb_nil) (sdb_one (sds_expr (sd_append (sdp_var 8) (sda_cons (sd_var 9) sda_nil))))))) (sdb_cons (sds_if (sdt_cmp (cm_eq cx.toCxE) (sd_call (rs := [some 0, none]) cx.toCxE h__law_draw (hr.mono (by decide)) (sdc_ref 0 (sdc_val sd_int sdc_nil))) sd_int) (sdb_one (by first | exact sds_setLc false 6 [("_law_premium", 11)] cx.toCxE (sdi_list (sd_callB (bu_sorted cx.toCxE) (sda_cons (sd_var 6) sda_nil) tx.b_sorted)) (blkOk_by rfl) (fun _ _ _ _ _ cx1 => (sdg_name true 11 cx1.nd)) (fun _ _ _ _ _ cx1 => sdts_nil) (fun _ _ _ _ _ cx1 => (sd_callTy (bu_int) (sda_cons (sd_var 11) sda_nil) tx.b_int)) | exact sds_set false 6 cx.nd (sd_lc [("_law_premium", 11)] cx.toCxE (sdi_list (sd_callB (bu_sorted cx.toCxE) (sda_cons (sd_var 6) sda_nil) tx.b_sorted)) (blkOk_by rfl) (fun _ _ _ _ _ cx1 => (sdg_name true 11 cx1.nd)) (fun _ _ _ _ _ cx1 => sdts_nil) (fun _ _ _ _ _ cx1 => (sd_callTy (bu_int) (sda_cons (sd_var 11) sda_nil) tx.b_int))))) sdb_nil) (sdb_one (sds_ret (sd_tup (sda_cons (sd_mv 6) (sda_cons (sd_mv 8) sda_nil))))))))))))
abbrev s_is_integer : Stmt := (top 11)
theorem sc_is_integer : FnScope ["value", "least"] ["value", "least"] (defScope s_is_integer) := ⟨rfl, rfl, rfl, by decide +kernel, rfl, by decide +kernel, by decide +kernel⟩
theorem ok_is_integer {f : Addr} {fd : FuncData} (F : Fun K "is_integer" "is_integer" s_is_integer f fd) (tx : Txt K mg g.cl) (hph : ∀ Γ, g.ph Γ)  : FnOk P w K mg base (L2.CX P w) 1 f fd ["value", "least"] (spOf g [false, false] (m_is_integer)) :=
  def_ok hph (k := 0) [] F sc_is_integer [false, false] rfl (keep_of rfl) fun cdv A outer s H E hr cx => show QSs _ g _ _ (defBody s_is_integer) (b_is_integer) from
    (sdb_one (sds_ret (sd_and (sd_callB (bu_isi) (sda_cons (sd_var 0) (sda_cons (sd_ty tx.b_int) sda_nil)) tx.b_isinstance) (sd_and (sd_not (sd_callB (bu_isi) (sda_cons (sd_var 0) (sda_cons (sd_ty tx.b_bool) sda_nil)) tx.b_isinstance)) (sd_one (sd_cmp cm_ge (sd_var 0) (sd_var 1)))))))
abbrev s_is_premium : Stmt := (top 12)
theorem sc_is_premium : FnScope ["value"] ["value"] (defScope s_is_premium) := ⟨rfl, rfl, rfl, by decide +kernel, rfl, by decide +kernel, by decide +kernel⟩
theorem ok_is_premium {f : Addr} {fd : FuncData} (F : Fun K "is_premium" "is_premium" s_is_premium f fd) (tx : Txt K mg g.cl) (hph : ∀ Γ, g.ph Γ) (h_is_integer : Df P w K mg base g "is_integer" ["value", "least"] 1 [false, false] m_is_integer) : FnOk P w K mg base (L2.CX P w) 2 f fd ["value"] (spOf g [false] (m_is_premium)) :=
  def_ok hph (k := 1) [] F sc_is_premium [false] rfl (keep_of rfl) fun cdv A outer s H E hr cx => show QSs _ g _ _ (defBody s_is_premium) (b_is_premium) from
    (sdb_one (sds_ret (sd_and (sd_call (rs := [none, none]) cx.toCxE h_is_integer (hr.mono (by decide)) (sdc_val (sd_var 0) (sdc_val sd_int sdc_nil))) (sd_one (sd_cmp cm_le (sd_var 0) (sd_glob tx.c_GREATEST_PREMIUM.choose_spec.1 tx.c_GREATEST_PREMIUM.choose_spec.2))))))
abbrev s_are_premiums : Stmt := (top 13)
theorem sc_are_premiums : FnScope ["premiums", "premium"] ["premiums"] (defScope s_are_premiums) := ⟨rfl, rfl, rfl, by decide +kernel, rfl, by decide +kernel, by decide +kernel⟩
theorem ok_are_premiums {f : Addr} {fd : FuncData} (F : Fun K "are_premiums" "are_premiums" s_are_premiums f fd) (tx : Txt K mg g.cl) (hph : ∀ Γ, g.ph Γ) (h_is_premium : Df P w K mg base g "is_premium" ["value"] 2 [false] m_is_premium) : FnOk P w K mg base (L2.CX P w) 3 f fd ["premiums"] (spOf g [false] (m_are_premiums)) :=
  def_ok hph (k := 2) [1] F sc_are_premiums [false] rfl (keep_of rfl) fun cdv A outer s H E hr cx => show QSs _ g _ _ (defBody s_are_premiums) (b_are_premiums) from
    (sdb_cons (sds_if (sdt_w (sdw_or (sdt_not (sdt_val (sd_callB (bu_isi) (sda_cons (sd_var 0) (sda_cons (sd_ty tx.b_list) sda_nil)) tx.b_isinstance))) (sdw_or1 (sdt_not (sdt_chain cm_le cm_le sd_int (sd_callB (bu_len) (sda_cons (sd_var 0) sda_nil) tx.b_len) (sd_glob tx.c_MOST_CLASSES.choose_spec.1 tx.c_MOST_CLASSES.choose_spec.2)))))) (sdb_one (sds_ret sd_bl)) sdb_nil) (sdb_one (sds_ret (sd_callB (bu_all cx.toCxE) (sda_cons (sd_lc [("premium", 1)] cx.toCxE (sdi_list (sd_var 0)) (blkOk_by rfl) (fun _ _ _ _ _ cx1 => (sdg_name true 1 cx1.nd)) (fun _ _ _ _ _ cx1 => sdts_nil) (fun _ _ _ _ _ cx1 => (sd_call (rs := [none]) cx1 h_is_premium (hr.mono (by decide)) (sdc_val (sd_var 1) sdc_nil)))) sda_nil) tx.b_all))))
abbrev s_are_moves : Stmt := (top 14)
theorem sc_are_moves : FnScope ["moves", "count", "wide", "goal"] ["moves", "count", "wide"] (defScope s_are_moves) := ⟨rfl, rfl, rfl, by decide +kernel, rfl, by decide +kernel, by decide +kernel⟩
theorem ok_are_moves {f : Addr} {fd : FuncData} (F : Fun K "are_moves" "are_moves" s_are_moves f fd) (tx : Txt K mg g.cl) (hph : ∀ Γ, g.ph Γ) (h_is_integer : Df P w K mg base g "is_integer" ["value", "least"] 1 [false, false] m_is_integer) : FnOk P w K mg base (L2.CX P w) 2 f fd ["moves", "count", "wide"] (spOf g [false, false, false] (m_are_moves)) :=
  def_ok hph (k := 1) [3] F sc_are_moves [false, false, false] rfl (keep_of rfl) fun cdv A outer s H E hr cx => show QSs _ g _ _ (defBody s_are_moves) (b_are_moves) from
    (sdb_cons (sds_if (sdt_w (sdw_or (sdt_not (sdt_val (sd_callB (bu_isi) (sda_cons (sd_var 0) (sda_cons (sd_ty tx.b_list) sda_nil)) tx.b_isinstance))) (sdw_or (sdt_cmp (cm_ne cx.toCxE) (sd_callB (bu_len) (sda_cons (sd_var 0) sda_nil) tx.b_len) (sd_var 2)) (sdw_or1 (sdt_not (sdt_chain cm_le cm_le sd_int (sd_var 2) (sd_glob tx.c_MOST_COLUMNS.choose_spec.1 tx.c_MOST_COLUMNS.choose_spec.2))))))) (sdb_one (sds_ret sd_bl)) sdb_nil) (sdb_one (sds_ret (sd_callB (bu_all cx.toCxE) (sda_cons (sd_lc [("goal", 3)] cx.toCxE (sdi_list (sd_var 0)) (blkOk_by rfl) (fun _ _ _ _ _ cx1 => (sdg_name true 3 cx1.nd)) (fun _ _ _ _ _ cx1 => sdts_nil) (fun _ _ _ _ _ cx1 => (sd_and (sd_call (rs := [none, none]) cx1 h_is_integer (hr.mono (by decide)) (sdc_val (sd_var 3) (sdc_val sd_int sdc_nil))) (sd_one (sd_cmp cm_lt (sd_var 3) (sd_var 1)))))) sda_nil) tx.b_all))))
abbrev s_is_table : Stmt := (top 15)
theorem sc_is_table : FnScope ["table", "count", "moves"] ["table", "count"] (defScope s_is_table) := ⟨rfl, rfl, rfl, by decide +kernel, rfl, by decide +kernel, by decide +kernel⟩
theorem ok_is_table {f : Addr} {fd : FuncData} (F : Fun K "is_table" "is_table" s_is_table f fd) (tx : Txt K mg g.cl) (hph : ∀ Γ, g.ph Γ) (h_are_moves : Df P w K mg base g "are_moves" ["moves", "count", "wide"] 2 [false, false, false] m_are_moves) : FnOk P w K mg base (L2.CX P w) 3 f fd ["table", "count"] (spOf g [false, false] (m_is_table)) :=
  def_ok hph (k := 2) [2] F sc_is_table [false, false] rfl (keep_of rfl) fun cdv A outer s H E hr cx => show QSs _ g _ _ (defBody s_is_table) (b_is_table) from
    (sdb_cons (sds_if (sdt_w (sdw_or (sdt_not (sdt_val (sd_callB (bu_isi) (sda_cons (sd_var 0) (sda_cons (sd_ty tx.b_list) sda_nil)) tx.b_isinstance))) (sdw_or (sdt_cmp (cm_ne cx.toCxE) (sd_callB (bu_len) (sda_cons (sd_var 0) sda_nil) tx.b_len) (sd_var 1)) (sdw_or1 (sdt_not (sdt_val (sd_callB (bu_isi) (sda_cons (sd_ix cx.toCxE (sd_var 0) sd_int) (sda_cons (sd_ty tx.b_list) sda_nil)) tx.b_isinstance))))))) (sdb_one (sds_ret sd_bl)) sdb_nil) (sdb_one (sds_ret (sd_callB (bu_all cx.toCxE) (sda_cons (sd_lc [("moves", 2)] cx.toCxE (sdi_list (sd_var 0)) (blkOk_by rfl) (fun _ _ _ _ _ cx1 => (sdg_name true 2 cx1.nd)) (fun _ _ _ _ _ cx1 => sdts_nil) (fun _ _ _ _ _ cx1 => (sd_call (rs := [none, none, none]) cx1 h_are_moves (hr.mono (by decide)) (sdc_val (sd_var 2) (sdc_val (sd_var 1) (sdc_val (sd_callB (bu_len) (sda_cons (sd_ix cx1 (sd_var 0) sd_int) sda_nil) tx.b_len) sdc_nil)))))) sda_nil) tx.b_all))))
abbrev s_Scaledd_initdd : Stmt := (inClass (top 16) 0)
theorem sc_Scaledd_initdd : FnScope ["self", "premiums", "table", "moves"] ["self", "premiums", "table"] (defScope s_Scaledd_initdd) := ⟨rfl, rfl, rfl, by decide +kernel, rfl, by decide +kernel, by decide +kernel⟩
theorem ok_Scaledd_initdd {f : Addr} {fd : FuncData} (F : Fun K "__init__" "Scale.__init__" s_Scaledd_initdd f fd) (tx : Txt K mg g.cl) (hph : ∀ Γ, g.ph Γ) (h_are_premiums : Df P w K mg base g "are_premiums" ["premiums"] 3 [false] m_are_premiums) (h_is_table : Df P w K mg base g "is_table" ["table", "count"] 3 [false, false] m_is_table) : FnOk P w K mg base (L2.CX P w) 4 f fd ["self", "premiums", "table"] (spOf g [true, false, false] (m_Scaledd_initdd)) :=
  def_ok hph (k := 3) [0, 3, 0] F sc_Scaledd_initdd [true, false, false] rfl (keep_of rfl) fun cdv A outer s H E hr cx => show QSs _ g _ _ (defBody s_Scaledd_initdd) (b_Scaledd_initdd) from
    (sdb_cons (sds_if (sdt_not (sdt_val (sd_call (rs := [none]) cx.toCxE h_are_premiums (hr.mono (by decide)) (sdc_val (sd_var 1) sdc_nil)))) (sdb_one sds_never) sdb_nil) (sdb_cons (sds_if (sdt_not (sdt_val (sd_call (rs := [none, none]) cx.toCxE h_is_table (hr.mono (by decide)) (sdc_val (sd_var 2) (sdc_val (sd_callB (bu_len) (sda_cons (sd_var 1) sda_nil) tx.b_len) sdc_nil))))) (sdb_one sds_never) sdb_nil) (sdb_cons (sds_fld tx.k_Scale tx.n_Scale_rates (sd_callTy (bu_list cx.toCxE) (sda_cons (sd_var 1) sda_nil) tx.b_list) (sdp_var 0)) (sdb_one (sds_fld tx.k_Scale tx.n_Scale_moves (sd_lc [("moves", 3)] cx.toCxE (sdi_list (sd_var 2)) (blkOk_by rfl) (fun _ _ _ _ _ cx1 => (sdg_name true 3 cx1.nd)) (fun _ _ _ _ _ cx1 => sdts_nil) (fun _ _ _ _ _ cx1 => (sd_callTy (bu_list cx1) (sda_cons (sd_var 3) sda_nil) tx.b_list))) (sdp_var 0))))))
abbrev s__law_led : Stmt := (top 23)
theorem sc__law_led : FnScope ["_law_plain", "_law_at", "_law_claims", "_law_moves"] ["_law_plain", "_law_at", "_law_claims"] (defScope s__law_led) := ⟨rfl, rfl, rfl, by decide +kernel, rfl, by decide +kernel, by decide +kernel⟩
theorem ok__law_led {f : Addr} {fd : FuncData} (F : Fun K "_law_led" "_law_led" s__law_led f fd) (tx : Txt K mg g.cl) (hph : ∀ Γ, g.ph Γ)  : FnOk P w K mg base (L2.CX P w) 1 f fd ["_law_plain", "_law_at", "_law_claims"] (spOf g [false, false, false] (m__law_led)) :=
  def_ok hph (k := 0) [7] F sc__law_led [false, false, false] rfl (keep_of rfl) fun cdv A outer s H E hr cx => show QSs _ g _ _ (defBody s__law_led) (b__law_led) from
    (sdb_cons (sds_set true 3 cx.nd (sd_ix cx.toCxE (sd_ix cx.toCxE (sd_var 0) sd_int) (sd_var 1))) (sdb_one (sds_ret (sd_ix cx.toCxE (sd_var 3) (sd_callB (bu_min cx.toCxE) (sda_cons (sd_var 2) (sda_cons (sd_op bm_sub (sd_callB (bu_len) (sda_cons (sd_var 3) sda_nil) tx.b_len) sd_int) sda_nil)) tx.b_min)))))
abbrev s__law_classes : Stmt := (top 25)
theorem sc__law_classes : FnScope ["_law_plain", "_law_start", "_law_row_here", "_law_found", "_law_claims"] ["_law_plain", "_law_start", "_law_row_here"] (defScope s__law_classes) := ⟨rfl, rfl, rfl, by decide +kernel, rfl, by decide +kernel, by decide +kernel⟩
theorem ok__law_classes {f : Addr} {fd : FuncData} (F : Fun K "_law_classes" "_law_classes" s__law_classes f fd) (tx : Txt K mg g.cl) (hph : ∀ Γ, g.ph Γ) (h__law_led : Df P w K mg base g "_law_led" ["_law_plain", "_law_at", "_law_claims"] 1 [false, false, false] m__law_led) : FnOk P w K mg base (L2.CX P w) 2 f fd ["_law_plain", "_law_start", "_law_row_here"] (spOf g [false, false, false] (m__law_classes)) :=
  def_ok hph (k := 1) [8, 9, 3, 3] F sc__law_classes [false, false, false] rfl (keep_of rfl) fun cdv A outer s H E hr cx => show QSs _ g _ _ (defBody s__law_classes) (b__law_classes) from
    (sdb_cons (sds_set false 3 cx.nd (sd_lst (sda_cons (sd_var 1) sda_nil))) (sdb_cons (sds_for cx (sdi_list (sd_var 2)) (sdg_name true 4 cx.nd) (sdb_one (sds_expr (sd_append (sdp_var 3) (sda_cons (sd_call (rs := [none, none, none]) cx.toCxE h__law_led (hr.mono (by decide)) (sdc_val (sd_var 0) (sdc_val (sd_ix cx.toCxE (sd_var 3) (sd_neg sd_int)) (sdc_val (sd_var 4) sdc_nil)))) sda_nil))))) (sdb_one (sds_ret (sd_mv 3)))))
abbrev s__law_mixed : Stmt := (top 21)
theorem sc__law_mixed : FnScope ["_law_bag_here", "_law_items", "_law_left", "_law_found", "_law_k"] ["_law_bag_here", "_law_items"] (defScope s__law_mixed) := ⟨rfl, rfl, rfl, by decide +kernel, rfl, by decide +kernel, by decide +kernel⟩
theorem ok__law_mixed {f : Addr} {fd : FuncData} (F : Fun K "_law_mixed" "_law_mixed" s__law_mixed f fd) (tx : Txt K mg g.cl) (hph : ∀ Γ, g.ph Γ) (h__law_draw : Df P w K mg base g "_law_draw" ["_law_bag_here", "_law_size"] 1 [true, false] m__law_draw) : FnOk P w K mg base (L2.CX P w) 2 f fd ["_law_bag_here", "_law_items"] (spOf g [true, false] (m__law_mixed)) :=
  def_ok hph (k := 1) [7, 8, 9, 0, 2, 3, 3] F sc__law_mixed [true, false] rfl (keep_of rfl) fun cdv A outer s H E hr cx => show QSs _ g _ _ (defBody s__law_mixed) (b__law_mixed) from
    (sdb_cons (sds_set false 2 cx.nd (sd_callTy (bu_list cx.toCxE) (sda_cons (sd_var 1) sda_nil) tx.b_list)) (sdb_cons (sds_set false 3 cx.nd (sd_lst sda_nil)) (sdb_cons (sds_for cx (sdi_rng1 (sda_cons (sd_callB (bu_len) (sda_cons (sd_var 1) sda_nil) tx.b_len) sda_nil) tx.b_range) (sdg_name true 4 cx.nd) (sdb_one (sds_expr (sd_append (sdp_var 3) (sda_cons (sd_popAt (sdp_var 2) (sda_cons (sd_call (rs := [some 0, none]) cx.toCxE h__law_draw (hr.mono (by decide)) (sdc_ref 0 (sdc_val (sd_callB (bu_len) (sda_cons (sd_var 2) sda_nil) tx.b_len) sdc_nil))) sda_nil)) sda_nil))))) (sdb_one (sds_ret (sd_mv 3))))))
abbrev s_Scale_check_class : Stmt := (inClass (top 16) 7)
theorem sc_Scale_check_class : FnScope ["self", "at"] ["self", "at"] (defScope s_Scale_check_class) := ⟨rfl, rfl, rfl, by decide +kernel, rfl, by decide +kernel, by decide +kernel⟩
theorem ok_Scale_check_class {f : Addr} {fd : FuncData} (F : Fun K "check_class" "Scale.check_class" s_Scale_check_class f fd) (tx : Txt K mg g.cl) (hph : ∀ Γ, g.ph Γ) (h_is_integer : Df P w K mg base g "is_integer" ["value", "least"] 1 [false, false] m_is_integer) : FnOk P w K mg base (L2.CX P w) 2 f fd ["self", "at"] (spOf g [false, false] (m_Scale_check_class)) :=
  def_ok hph (k := 1) [] F sc_Scale_check_class [false, false] rfl (keep_of rfl) fun cdv A outer s H E hr cx => show QSs _ g _ _ (defBody s_Scale_check_class) (b_Scale_check_class) from
    (sdb_one (sds_if (sdt_w (sdw_or (sdt_not (sdt_val (sd_call (rs := [none, none]) cx.toCxE h_is_integer (hr.mono (by decide)) (sdc_val (sd_var 1) (sdc_val sd_int sdc_nil))))) (sdw_or1 (sdt_cmp cm_ge (sd_var 1) (sd_callB (bu_len) (sda_cons (sd_fld tx.k_Scale tx.n_Scale_rates (sd_var 0)) sda_nil) tx.b_len))))) (sdb_one sds_never) sdb_nil))
abbrev s_Scale_led : Stmt := (inClass (top 16) 8)
theorem sc_Scale_led : FnScope ["self", "at", "claims"] ["self", "at", "claims"] (defScope s_Scale_led) := ⟨rfl, rfl, rfl, by decide +kernel, rfl, by decide +kernel, by decide +kernel⟩
theorem ok_Scale_led {f : Addr} {fd : FuncData} (F : Fun K "led" "Scale.led" s_Scale_led f fd) (tx : Txt K mg g.cl) (hph : ∀ Γ, g.ph Γ) (h_Scale_check_class : Dm P w K mg base g 0 "check_class" ["self", "at"] 2 [false, false] m_Scale_check_class) (h_is_integer : Df P w K mg base g "is_integer" ["value", "least"] 1 [false, false] m_is_integer) : FnOk P w K mg base (L2.CX P w) 3 f fd ["self", "at", "claims"] (spOf g [false, false, false] (m_Scale_led)) :=
  def_ok hph (k := 2) [] F sc_Scale_led [false, false, false] rfl (keep_of rfl) fun cdv A outer s H E hr cx => show QSs _ g _ _ (defBody s_Scale_led) (b_Scale_led) from
    (sdb_cons (sds_expr (sd_meth (cn := 0) (rs := [none]) cx.toCxE h_Scale_check_class (hr.mono (by decide)) (sd_var 0) (sdc_val (sd_var 1) sdc_nil))) (sdb_cons (sds_if (sdt_not (sdt_val (sd_call (rs := [none, none]) cx.toCxE h_is_integer (hr.mono (by decide)) (sdc_val (sd_var 2) (sdc_val sd_int sdc_nil))))) (sdb_one sds_never) sdb_nil) (sdb_one (sds_ret (sd_ix cx.toCxE (sd_ix cx.toCxE (sd_fld tx.k_Scale tx.n_Scale_moves (sd_var 0)) (sd_var 1)) (sd_callB (bu_min cx.toCxE) (sda_cons (sd_var 2) (sda_cons (sd_op bm_sub (sd_callB (bu_len) (sda_cons (sd_ix cx.toCxE (sd_fld tx.k_Scale tx.n_Scale_moves (sd_var 0)) (sd_var 1)) sda_nil) tx.b_len) sd_int) sda_nil)) tx.b_min))))))
abbrev s_Scale_classes : Stmt := (inClass (top 16) 12)
theorem sc_Scale_classes : FnScope ["self", "start", "row", "found", "claims"] ["self", "start", "row"] (defScope s_Scale_classes) := ⟨rfl, rfl, rfl, by decide +kernel, rfl, by decide +kernel, by decide +kernel⟩
theorem ok_Scale_classes {f : Addr} {fd : FuncData} (F : Fun K "classes" "Scale.classes" s_Scale_classes f fd) (tx : Txt K mg g.cl) (hph : ∀ Γ, g.ph Γ) (h_Scale_check_class : Dm P w K mg base g 0 "check_class" ["self", "at"] 2 [false, false] m_Scale_check_class) (h_Scale_led : Dm P w K mg base g 0 "led" ["self", "at", "claims"] 3 [false, false, false] m_Scale_led) : FnOk P w K mg base (L2.CX P w) 4 f fd ["self", "start", "row"] (spOf g [false, false, false] (m_Scale_classes)) :=
  def_ok hph (k := 3) [8, 9, 3, 3] F sc_Scale_classes [false, false, false] rfl (keep_of rfl) fun cdv A outer s H E hr cx => show QSs _ g _ _ (defBody s_Scale_classes) (b_Scale_classes) from
    (sdb_cons (sds_expr (sd_meth (cn := 0) (rs := [none]) cx.toCxE h_Scale_check_class (hr.mono (by decide)) (sd_var 0) (sdc_val (sd_var 1) sdc_nil))) (sdb_cons (sds_set false 3 cx.nd (sd_lst (sda_cons (sd_var 1) sda_nil))) (sdb_cons (sds_for cx (sdi_list (sd_var 2)) (sdg_name true 4 cx.nd) (sdb_one (sds_expr (sd_append (sdp_var 3) (sda_cons (sd_meth (cn := 0) (rs := [none, none]) cx.toCxE h_Scale_led (hr.mono (by decide)) (sd_var 0) (sdc_val (sd_ix cx.toCxE (sd_var 3) (sd_neg sd_int)) (sdc_val (sd_var 4) sdc_nil))) sda_nil))))) (sdb_one (sds_ret (sd_mv 3))))))
abbrev s_Scale_bills : Stmt := (inClass (top 16) 13)
theorem sc_Scale_bills : FnScope ["self", "start", "row", "at"] ["self", "start", "row"] (defScope s_Scale_bills) := ⟨rfl, rfl, rfl, by decide +kernel, rfl, by decide +kernel, by decide +kernel⟩
theorem ok_Scale_bills {f : Addr} {fd : FuncData} (F : Fun K "bills" "Scale.bills" s_Scale_bills f fd) (tx : Txt K mg g.cl) (hph : ∀ Γ, g.ph Γ) (h_Scale_classes : Dm P w K mg base g 0 "classes" ["self", "start", "row"] 4 [false, false, false] m_Scale_classes) : FnOk P w K mg base (L2.CX P w) 5 f fd ["self", "start", "row"] (spOf g [false, false, false] (m_Scale_bills)) :=
  def_ok hph (k := 4) [3] F sc_Scale_bills [false, false, false] rfl (keep_of rfl) fun cdv A outer s H E hr cx => show QSs _ g _ _ (defBody s_Scale_bills) (b_Scale_bills) from
    (sdb_one (sds_ret (sd_lc [("at", 3)] cx.toCxE (sdi_list (sd_slH (sd_meth (cn := 0) (rs := [none, none]) cx.toCxE h_Scale_classes (hr.mono (by decide)) (sd_var 0) (sdc_val (sd_var 1) (sdc_val (sd_var 2) sdc_nil))) (sd_neg sd_int))) (blkOk_by rfl) (fun _ _ _ _ _ cx1 => (sdg_name true 3 cx1.nd)) (fun _ _ _ _ _ cx1 => sdts_nil) (fun _ _ _ _ _ cx1 => (sd_ix cx1 (sd_fld tx.k_Scale tx.n_Scale_rates (sd_var 0)) (sd_var 3))))))
abbrev s_Scale_paid : Stmt := (inClass (top 16) 14)
theorem sc_Scale_paid : FnScope ["self", "start", "row"] ["self", "start", "row"] (defScope s_Scale_paid) := ⟨rfl, rfl, rfl, by decide +kernel, rfl, by decide +kernel, by decide +kernel⟩
theorem ok_Scale_paid {f : Addr} {fd : FuncData} (F : Fun K "paid" "Scale.paid" s_Scale_paid f fd) (tx : Txt K mg g.cl) (hph : ∀ Γ, g.ph Γ) (h_Scale_bills : Dm P w K mg base g 0 "bills" ["self", "start", "row"] 5 [false, false, false] m_Scale_bills) : FnOk P w K mg base (L2.CX P w) 6 f fd ["self", "start", "row"] (spOf g [false, false, false] (m_Scale_paid)) :=
  def_ok hph (k := 5) [] F sc_Scale_paid [false, false, false] rfl (keep_of rfl) fun cdv A outer s H E hr cx => show QSs _ g _ _ (defBody s_Scale_paid) (b_Scale_paid) from
    (sdb_one (sds_ret (sd_callB (bu_sum cx.toCxE) (sda_cons (sd_meth (cn := 0) (rs := [none, none]) cx.toCxE h_Scale_bills (hr.mono (by decide)) (sd_var 0) (sdc_val (sd_var 1) (sdc_val (sd_var 2) sdc_nil))) sda_nil) tx.b_sum)))
abbrev s__law_paid : Stmt := (top 26)
theorem sc__law_paid : FnScope ["_law_plain", "_law_start", "_law_row_here", "_law_at"] ["_law_plain", "_law_start", "_law_row_here"] (defScope s__law_paid) := ⟨rfl, rfl, rfl, by decide +kernel, rfl, by decide +kernel, by decide +kernel⟩
theorem ok__law_paid {f : Addr} {fd : FuncData} (F : Fun K "_law_paid" "_law_paid" s__law_paid f fd) (tx : Txt K mg g.cl) (hph : ∀ Γ, g.ph Γ) (h__law_classes : Df P w K mg base g "_law_classes" ["_law_plain", "_law_start", "_law_row_here"] 2 [false, false, false] m__law_classes) : FnOk P w K mg base (L2.CX P w) 3 f fd ["_law_plain", "_law_start", "_law_row_here"] (spOf g [false, false, false] (m__law_paid)) :=
  def_ok hph (k := 2) [3] F sc__law_paid [false, false, false] rfl (keep_of rfl) fun cdv A outer s H E hr cx => show QSs _ g _ _ (defBody s__law_paid) (b__law_paid) from
    (sdb_one (sds_ret (sd_callB (bu_sum cx.toCxE) (sda_cons (sd_lc [("_law_at", 3)] cx.toCxE (sdi_list (sd_slH (sd_call (rs := [none, none, none]) cx.toCxE h__law_classes (hr.mono (by decide)) (sdc_val (sd_var 0) (sdc_val (sd_var 1) (sdc_val (sd_var 2) sdc_nil)))) (sd_neg sd_int))) (blkOk_by rfl) (fun _ _ _ _ _ cx1 => (sdg_name true 3 cx1.nd)) (fun _ _ _ _ _ cx1 => sdts_nil) (fun _ _ _ _ _ cx1 => (sd_ix cx1 (sd_ix cx1 (sd_var 0) sd_int) (sd_var 3)))) sda_nil) tx.b_sum)))
abbrev s__law_row_right : Stmt := (top 29)
theorem sc__law_row_right : FnScope ["_law_bag_here", "_law_scale_here", "_law_plain", "_law_start", "_law_row_here", "_law_kept", "_law_due", "_law_question", "_law_told", "_law_at"] ["_law_bag_here", "_law_scale_here", "_law_plain", "_law_start", "_law_row_here"] (defScope s__law_row_right) := ⟨rfl, rfl, rfl, by decide +kernel, rfl, by decide +kernel, by decide +kernel⟩
theorem ok__law_row_right {f : Addr} {fd : FuncData} (F : Fun K "_law_row_right" "_law_row_right" s__law_row_right f fd) (tx : Txt K mg g.cl) (hph : ∀ Γ, g.ph Γ) (h__law_classes : Df P w K mg base g "_law_classes" ["_law_plain", "_law_start", "_law_row_here"] 2 [false, false, false] m__law_classes) (h__law_mixed : Df P w K mg base g "_law_mixed" ["_law_bag_here", "_law_items"] 2 [true, false] m__law_mixed) (h_Scale_paid : Dm P w K mg base g 0 "paid" ["self", "start", "row"] 6 [false, false, false] m_Scale_paid) (h_Scale_classes : Dm P w K mg base g 0 "classes" ["self", "start", "row"] 4 [false, false, false] m_Scale_classes) (h_Scale_bills : Dm P w K mg base g 0 "bills" ["self", "start", "row"] 5 [false, false, false] m_Scale_bills) (h__law_paid : Df P w K mg base g "_law_paid" ["_law_plain", "_law_start", "_law_row_here"] 3 [false, false, false] m__law_paid) : FnOk P w K mg base (L2.CX P w) 7 f fd ["_law_bag_here", "_law_scale_here", "_law_plain", "_law_start", "_law_row_here"] (spOf g [true, false, false, false, false] (m__law_row_right)) :=
  def_ok hph (k := 6) [15, 16, 0, 17, 18, 18, 18, 9, 8] F sc__law_row_right [true, false, false, false, false] rfl (keep_of rfl) fun cdv A outer s H E hr cx => show QSs _ g _ _ (defBody s__law_row_right) (b__law_row_right) from
    (sdb_cons (sds_set true 5 cx.nd (sd_callTy (bu_list cx.toCxE) (sda_cons (sd_var 4) sda_nil) tx.b_list)) (sdb_cons (sds_set true 6 cx.nd (sd_call (rs := [none, none, none]) cx.toCxE h__law_classes (hr.mono (by decide)) (sdc_val (sd_var 2) (sdc_val (sd_var 3) (sdc_val (sd_var 4) sdc_nil))))) (sdb_cons (sds_for cx (sdi_list (sd_call (rs := [some 0, none]) cx.toCxE h__law_mixed (hr.mono (by decide)) (sdc_ref 0 (sdc_val (sd_lst (sda_cons sd_int (sda_cons sd_int (sda_cons sd_int (sda_cons sd_int sda_nil))))) sdc_nil)))) (sdg_name true 7 cx.nd) (sdb_cons (sds_set false 8 cx.nd (sd_lst (sda_cons (sd_meth (cn := 0) (rs := [none, none]) cx.toCxE h_Scale_paid (hr.mono (by decide)) (sd_var 1) (sdc_val (sd_var 3) (sdc_val (sd_var 4) sdc_nil))) sda_nil))) (sdb_cons (sds_if (sdt_cmp (cm_eq cx.toCxE) (sd_var 7) sd_int) (sdb_cons (sds_set false 8 cx.nd (sd_meth (cn := 0) (rs := [none, none]) cx.toCxE h_Scale_classes (hr.mono (by decide)) (sd_var 1) (sdc_val (sd_var 3) (sdc_val (sd_var 4) sdc_nil)))) (sdb_one (sds_if (sdt_cmp (cm_ne cx.toCxE) (sd_var 8) (sd_var 6)) (sdb_one (sds_ret sd_bl)) sdb_nil))) sdb_nil) (sdb_cons (sds_if (sdt_cmp (cm_eq cx.toCxE) (sd_var 7) sd_int) (sdb_cons (sds_set false 8 cx.nd (sd_meth (cn := 0) (rs := [none, none]) cx.toCxE h_Scale_bills (hr.mono (by decide)) (sd_var 1) (sdc_val (sd_var 3) (sdc_val (sd_var 4) sdc_nil)))) (sdb_one (sds_if (sdt_cmp (cm_ne cx.toCxE) (sd_var 8) (sd_lc [("_law_at", 9)] cx.toCxE (sdi_list (sd_slH (sd_var 6) (sd_neg sd_int))) (blkOk_by rfl) (fun _ _ _ _ _ cx1 => (sdg_name true 9 cx1.nd)) (fun _ _ _ _ _ cx1 => sdts_nil) (fun _ _ _ _ _ cx1 => (sd_ix cx1 (sd_ix cx1 (sd_var 2) sd_int) (sd_var 9))))) (sdb_one (sds_ret sd_bl)) sdb_nil))) sdb_nil) (sdb_cons (sds_if (sdt_w (sdw_and (sdt_cmp (cm_eq cx.toCxE) (sd_var 7) sd_int) (sdw_and1 (sdt_cmp (cm_ne cx.toCxE) (sd_var 8) (sd_lst (sda_cons (sd_call (rs := [none, none, none]) cx.toCxE h__law_paid (hr.mono (by decide)) (sdc_val (sd_var 2) (sdc_val (sd_var 3) (sdc_val (sd_var 4) sdc_nil)))) sda_nil)))))) (sdb_one (sds_ret sd_bl)) sdb_nil) (sdb_one (sds_expr (sd_clear (sdp_var 8))))))))) (sdb_one (sds_ret (sd_cmp (cm_eq cx.toCxE) (sd_var 4) (sd_var 5)))))))
abbrev s__law_pick : Stmt := (top 20)
theorem sc__law_pick : FnScope ["_law_bag_here", "_law_items"] ["_law_bag_here", "_law_items"] (defScope s__law_pick) := ⟨rfl, rfl, rfl, by decide +kernel, rfl, by decide +kernel, by decide +kernel⟩
theorem ok__law_pick {f : Addr} {fd : FuncData} (F : Fun K "_law_pick" "_law_pick" s__law_pick f fd) (tx : Txt K mg g.cl) (hph : ∀ Γ, g.ph Γ) (h__law_draw : Df P w K mg base g "_law_draw" ["_law_bag_here", "_law_size"] 1 [true, false] m__law_draw) : FnOk P w K mg base (L2.CX P w) 2 f fd ["_law_bag_here", "_law_items"] (spOf g [true, false] (m__law_pick)) :=
  def_ok hph (k := 1) [0] F sc__law_pick [true, false] rfl (keep_of rfl) fun cdv A outer s H E hr cx => show QSs _ g _ _ (defBody s__law_pick) (b__law_pick) from
    (sdb_one (sds_ret (sd_ix cx.toCxE (sd_var 1) (sd_call (rs := [some 0, none]) cx.toCxE h__law_draw (hr.mono (by decide)) (sdc_ref 0 (sdc_val (sd_callB (bu_len) (sda_cons (sd_var 1) sda_nil) tx.b_len) sdc_nil))))))
abbrev s__law_row : Stmt := (top 24)
theorem sc__law_row : FnScope ["_law_bag_here", "_law_most", "_law_size", "_law_k"] ["_law_bag_here", "_law_most"] (defScope s__law_row) := ⟨rfl, rfl, rfl, by decide +kernel, rfl, by decide +kernel, by decide +kernel⟩
theorem ok__law_row {f : Addr} {fd : FuncData} (F : Fun K "_law_row" "_law_row" s__law_row f fd) (tx : Txt K mg g.cl) (hph : ∀ Γ, g.ph Γ) (h__law_draw : Df P w K mg base g "_law_draw" ["_law_bag_here", "_law_size"] 1 [true, false] m__law_draw) : FnOk P w K mg base (L2.CX P w) 2 f fd ["_law_bag_here", "_law_most"] (spOf g [true, false] (m__law_row)) :=
  def_ok hph (k := 1) [0, 6, 0, 0, 3] F sc__law_row [true, false] rfl (keep_of rfl) fun cdv A outer s H E hr cx => show QSs _ g _ _ (defBody s__law_row) (b__law_row) from
    (sdb_cons (sds_set true 2 cx.nd (sd_ix cx.toCxE (sd_lst (sda_cons sd_int (sda_cons sd_int (sda_cons sd_int (sda_cons (sd_op bm_pow sd_int sd_int) sda_nil))))) (sd_call (rs := [some 0, none]) cx.toCxE h__law_draw (hr.mono (by decide)) (sdc_ref 0 (sdc_val sd_int sdc_nil))))) (sdb_one (sds_ret (sd_lc [("_law_k", 3)] cx.toCxE (sdi_rng1 (sda_cons (sd_call (rs := [some 0, none]) cx.toCxE h__law_draw (hr.mono (by decide)) (sdc_ref 0 (sdc_val (sd_op bm_add (sd_var 1) sd_int) sdc_nil))) sda_nil) tx.b_range) (blkOk_by rfl) (fun _ _ _ _ _ cx1 => (sdg_name true 3 cx1.nd)) (fun _ _ _ _ _ cx1 => sdts_nil) (fun _ _ _ _ _ cx1 => (sd_call (rs := [some 0, none]) cx1 h__law_draw (hr.mono (by decide)) (sdc_ref 0 (sdc_val (sd_var 2) sdc_nil))))))))
abbrev s_Scale_premiums : Stmt := (inClass (top 16) 10)
theorem sc_Scale_premiums : FnScope ["self"] ["self"] (defScope s_Scale_premiums) := ⟨rfl, rfl, rfl, by decide +kernel, rfl, by decide +kernel, by decide +kernel⟩
theorem ok_Scale_premiums {f : Addr} {fd : FuncData} (F : Fun K "premiums" "Scale.premiums" s_Scale_premiums f fd) (tx : Txt K mg g.cl) (hph : ∀ Γ, g.ph Γ)  : FnOk P w K mg base (L2.CX P w) 1 f fd ["self"] (spOf g [false] (m_Scale_premiums)) :=
  def_ok hph (k := 0) [] F sc_Scale_premiums [false] rfl (keep_of rfl) fun cdv A outer s H E hr cx => show QSs _ g _ _ (defBody s_Scale_premiums) (b_Scale_premiums) from
    (sdb_one (sds_ret (sd_callTy (bu_list cx.toCxE) (sda_cons (sd_fld tx.k_Scale tx.n_Scale_rates (sd_var 0)) sda_nil) tx.b_list)))
abbrev s_Scale_table : Stmt := (inClass (top 16) 11)
theorem sc_Scale_table : FnScope ["self", "moves"] ["self"] (defScope s_Scale_table) := ⟨rfl, rfl, rfl, by decide +kernel, rfl, by decide +kernel, by decide +kernel⟩
theorem ok_Scale_table {f : Addr} {fd : FuncData} (F : Fun K "table" "Scale.table" s_Scale_table f fd) (tx : Txt K mg g.cl) (hph : ∀ Γ, g.ph Γ)  : FnOk P w K mg base (L2.CX P w) 1 f fd ["self"] (spOf g [false] (m_Scale_table)) :=
  def_ok hph (k := 0) [1] F sc_Scale_table [false] rfl (keep_of rfl) fun cdv A outer s H E hr cx => show QSs _ g _ _ (defBody s_Scale_table) (b_Scale_table) from
    (sdb_one (sds_ret (sd_lc [("moves", 1)] cx.toCxE (sdi_list (sd_fld tx.k_Scale tx.n_Scale_moves (sd_var 0))) (blkOk_by rfl) (fun _ _ _ _ _ cx1 => (sdg_name true 1 cx1.nd)) (fun _ _ _ _ _ cx1 => sdts_nil) (fun _ _ _ _ _ cx1 => (sd_callTy (bu_list cx1) (sda_cons (sd_var 1) sda_nil) tx.b_list)))))
abbrev s_Scaledd_containsdd : Stmt := (inClass (top 16) 2)
theorem sc_Scaledd_containsdd : FnScope ["self", "at"] ["self", "at"] (defScope s_Scaledd_containsdd) := ⟨rfl, rfl, rfl, by decide +kernel, rfl, by decide +kernel, by decide +kernel⟩
theorem ok_Scaledd_containsdd {f : Addr} {fd : FuncData} (F : Fun K "__contains__" "Scale.__contains__" s_Scaledd_containsdd f fd) (tx : Txt K mg g.cl) (hph : ∀ Γ, g.ph Γ) (h_is_integer : Df P w K mg base g "is_integer" ["value", "least"] 1 [false, false] m_is_integer) : FnOk P w K mg base (L2.CX P w) 2 f fd ["self", "at"] (spOf g [false, false] (m_Scaledd_containsdd)) :=
  def_ok hph (k := 1) [] F sc_Scaledd_containsdd [false, false] rfl (keep_of rfl) fun cdv A outer s H E hr cx => show QSs _ g _ _ (defBody s_Scaledd_containsdd) (b_Scaledd_containsdd) from
    (sdb_one (sds_ret (sd_and (sd_call (rs := [none, none]) cx.toCxE h_is_integer (hr.mono (by decide)) (sdc_val (sd_var 1) (sdc_val sd_int sdc_nil))) (sd_one (sd_cmp cm_lt (sd_var 1) (sd_callB (bu_len) (sda_cons (sd_fld tx.k_Scale tx.n_Scale_rates (sd_var 0)) sda_nil) tx.b_len))))))
abbrev s_Scaledd_lendd : Stmt := (inClass (top 16) 1)
theorem sc_Scaledd_lendd : FnScope ["self"] ["self"] (defScope s_Scaledd_lendd) := ⟨rfl, rfl, rfl, by decide +kernel, rfl, by decide +kernel, by decide +kernel⟩
theorem ok_Scaledd_lendd {f : Addr} {fd : FuncData} (F : Fun K "__len__" "Scale.__len__" s_Scaledd_lendd f fd) (tx : Txt K mg g.cl) (hph : ∀ Γ, g.ph Γ)  : FnOk P w K mg base (L2.CX P w) 1 f fd ["self"] (spOf g [false] (m_Scaledd_lendd)) :=
  def_ok hph (k := 0) [] F sc_Scaledd_lendd [false] rfl (keep_of rfl) fun cdv A outer s H E hr cx => show QSs _ g _ _ (defBody s_Scaledd_lendd) (b_Scaledd_lendd) from
    (sdb_one (sds_ret (sd_callB (bu_len) (sda_cons (sd_fld tx.k_Scale tx.n_Scale_rates (sd_var 0)) sda_nil) tx.b_len)))
abbrev s_Scale_columns : Stmt := (inClass (top 16) 6)
theorem sc_Scale_columns : FnScope ["self"] ["self"] (defScope s_Scale_columns) := ⟨rfl, rfl, rfl, by decide +kernel, rfl, by decide +kernel, by decide +kernel⟩
theorem ok_Scale_columns {f : Addr} {fd : FuncData} (F : Fun K "columns" "Scale.columns" s_Scale_columns f fd) (tx : Txt K mg g.cl) (hph : ∀ Γ, g.ph Γ)  : FnOk P w K mg base (L2.CX P w) 1 f fd ["self"] (spOf g [false] (m_Scale_columns)) :=
  def_ok hph (k := 0) [] F sc_Scale_columns [false] rfl (keep_of rfl) fun cdv A outer s H E hr cx => show QSs _ g _ _ (defBody s_Scale_columns) (b_Scale_columns) from
    (sdb_one (sds_ret (sd_callB (bu_len) (sda_cons (sd_ix cx.toCxE (sd_fld tx.k_Scale tx.n_Scale_moves (sd_var 0)) sd_int) sda_nil) tx.b_len)))
abbrev s__law_like : Stmt := (top 27)
theorem sc__law_like : FnScope ["_law_scale_here", "_law_plain"] ["_law_scale_here", "_law_plain"] (defScope s__law_like) := ⟨rfl, rfl, rfl, by decide +kernel, rfl, by decide +kernel, by decide +kernel⟩
theorem ok__law_like {f : Addr} {fd : FuncData} (F : Fun K "_law_like" "_law_like" s__law_like f fd) (tx : Txt K mg g.cl) (hph : ∀ Γ, g.ph Γ) (h_Scale_premiums : Dm P w K mg base g 0 "premiums" ["self"] 1 [false] m_Scale_premiums) (h_Scale_table : Dm P w K mg base g 0 "table" ["self"] 1 [false] m_Scale_table) : FnOk P w K mg base (L2.CX P w) 2 f fd ["_law_scale_here", "_law_plain"] (spOf g [false, false] (m__law_like)) :=
  def_ok hph (k := 1) [] F sc__law_like [false, false] rfl (keep_of rfl) fun cdv A outer s H E hr cx => show QSs _ g _ _ (defBody s__law_like) (b__law_like) from
    (sdb_one (sds_ret (sd_and (sd_cmp (cm_eq cx.toCxE) (sd_meth0 (cn := 0) cx.toCxE h_Scale_premiums (hr.mono (by decide)) (sd_var 0)) (sd_ix cx.toCxE (sd_var 1) sd_int)) (sd_one (sd_cmp (cm_eq cx.toCxE) (sd_meth0 (cn := 0) cx.toCxE h_Scale_table (hr.mono (by decide)) (sd_var 0)) (sd_ix cx.toCxE (sd_var 1) sd_int))))))
abbrev s_Scale_premium : Stmt := (inClass (top 16) 9)
theorem sc_Scale_premium : FnScope ["self", "at"] ["self", "at"] (defScope s_Scale_premium) := ⟨rfl, rfl, rfl, by decide +kernel, rfl, by decide +kernel, by decide +kernel⟩
theorem ok_Scale_premium {f : Addr} {fd : FuncData} (F : Fun K "premium" "Scale.premium" s_Scale_premium f fd) (tx : Txt K mg g.cl) (hph : ∀ Γ, g.ph Γ) (h_Scale_check_class : Dm P w K mg base g 0 "check_class" ["self", "at"] 2 [false, false] m_Scale_check_class) : FnOk P w K mg base (L2.CX P w) 3 f fd ["self", "at"] (spOf g [false, false] (m_Scale_premium)) :=
  def_ok hph (k := 2) [] F sc_Scale_premium [false, false] rfl (keep_of rfl) fun cdv A outer s H E hr cx => show QSs _ g _ _ (defBody s_Scale_premium) (b_Scale_premium) from
    (sdb_cons (sds_expr (sd_meth (cn := 0) (rs := [none]) cx.toCxE h_Scale_check_class (hr.mono (by decide)) (sd_var 0) (sdc_val (sd_var 1) sdc_nil))) (sdb_one (sds_ret (sd_ix cx.toCxE (sd_fld tx.k_Scale tx.n_Scale_rates (sd_var 0)) (sd_var 1)))))
abbrev s_Scaledd_calldd : Stmt := (inClass (top 16) 3)
theorem sc_Scaledd_calldd : FnScope ["self", "at", "claims"] ["self", "at", "claims"] (defScope s_Scaledd_calldd) := ⟨rfl, rfl, rfl, by decide +kernel, rfl, by decide +kernel, by decide +kernel⟩
theorem ok_Scaledd_calldd {f : Addr} {fd : FuncData} (F : Fun K "__call__" "Scale.__call__" s_Scaledd_calldd f fd) (tx : Txt K mg g.cl) (hph : ∀ Γ, g.ph Γ) (h_Scale_led : Dm P w K mg base g 0 "led" ["self", "at", "claims"] 3 [false, false, false] m_Scale_led) : FnOk P w K mg base (L2.CX P w) 4 f fd ["self", "at", "claims"] (spOf g [false, false, false] (m_Scaledd_calldd)) :=
  def_ok hph (k := 3) [] F sc_Scaledd_calldd [false, false, false] rfl (keep_of rfl) fun cdv A outer s H E hr cx => show QSs _ g _ _ (defBody s_Scaledd_calldd) (b_Scaledd_calldd) from
    (sdb_one (sds_ret (sd_meth (cn := 0) (rs := [none, none]) cx.toCxE h_Scale_led (hr.mono (by decide)) (sd_var 0) (sdc_val (sd_var 1) (sdc_val (sd_var 2) sdc_nil)))))
abbrev s__law_classes_asked : Stmt := (top 28)
theorem sc__law_classes_asked : FnScope ["_law_scale_here", "_law_plain", "_law_count", "_law_at", "_law_claims"] ["_law_scale_here", "_law_plain"] (defScope s__law_classes_asked) := ⟨rfl, rfl, rfl, by decide +kernel, rfl, by decide +kernel, by decide +kernel⟩
theorem ok__law_classes_asked {f : Addr} {fd : FuncData} (F : Fun K "_law_classes_asked" "_law_classes_asked" s__law_classes_asked f fd) (tx : Txt K mg g.cl) (hph : ∀ Γ, g.ph Γ) (h_Scaledd_containsdd : Dct P w K mg base g 0 ["self", "at"] 2 m_Scaledd_containsdd) (h_Scaledd_lendd : Dl P w K mg base g 0 1 m_Scaledd_lendd) (h_Scale_columns : Dp P w K mg base g 0 "columns" 1 m_Scale_columns) (h__law_like : Df P w K mg base g "_law_like" ["_law_scale_here", "_law_plain"] 2 [false, false] m__law_like) (h_Scale_premium : Dm P w K mg base g 0 "premium" ["self", "at"] 3 [false, false] m_Scale_premium) (h_Scaledd_calldd : Do P w K mg base g 0 ["self", "at", "claims"] 4 [false, false, false] m_Scaledd_calldd) (h__law_led : Df P w K mg base g "_law_led" ["_law_plain", "_law_at", "_law_claims"] 1 [false, false, false] m__law_led) : FnOk P w K mg base (L2.CX P w) 5 f fd ["_law_scale_here", "_law_plain"] (spOf g [false, false] (m__law_classes_asked)) :=
  def_ok hph (k := 4) [7, 3, 3, 8, 9] F sc__law_classes_asked [false, false] rfl (keep_of rfl) fun cdv A outer s H E hr cx => show QSs _ g _ _ (defBody s__law_classes_asked) (b__law_classes_asked) from
    (sdb_cons (sds_set true 2 cx.nd (sd_callB (bu_len) (sda_cons (sd_ix cx.toCxE (sd_var 1) sd_int) sda_nil) tx.b_len)) (sdb_cons (sds_if (sdt_w (sdw_or (sdt_cmp (cm_ne cx.toCxE) (sd_lenO (cn := 0) h_Scaledd_lendd (hr.mono (by decide)) (sd_var 0) tx.b_len) (sd_var 2)) (sdw_or (sdt_cmp (cm_ne cx.toCxE) (sd_prop (cn := 0) h_Scale_columns (hr.mono (by decide)) (sd_var 0)) (sd_callB (bu_len) (sda_cons (sd_ix cx.toCxE (sd_ix cx.toCxE (sd_var 1) sd_int) sd_int) sda_nil) tx.b_len)) (sdw_or1 (sdt_not (sdt_val (sd_call (rs := [none, none]) cx.toCxE h__law_like (hr.mono (by decide)) (sdc_val (sd_var 0) (sdc_val (sd_var 1) sdc_nil))))))))) (sdb_one (sds_ret sd_bl)) sdb_nil) (sdb_cons (sds_if (sdt_cmp (cm_ne cx.toCxE) (sd_lc [("_law_at", 3)] cx.toCxE (sdi_rng2 (sda_cons (sd_neg sd_int) (sda_cons (sd_op bm_add (sd_var 2) sd_int) sda_nil)) tx.b_range) (blkOk_by rfl) (fun _ _ _ _ _ cx1 => (sdg_name true 3 cx1.nd)) (fun _ _ _ _ _ cx1 => sdts_nil) (fun _ _ _ _ _ cx1 => (sd_inO (cn := 0) h_Scaledd_containsdd (hr.mono (by decide)) (sd_var 3) (sd_var 0)))) (sd_lc [("_law_at", 3)] cx.toCxE (sdi_rng2 (sda_cons (sd_neg sd_int) (sda_cons (sd_op bm_add (sd_var 2) sd_int) sda_nil)) tx.b_range) (blkOk_by rfl) (fun _ _ _ _ _ cx1 => (sdg_name true 3 cx1.nd)) (fun _ _ _ _ _ cx1 => sdts_nil) (fun _ _ _ _ _ cx1 => (sd_chain cm_le cm_lt sd_int (sd_var 3) (sd_var 2))))) (sdb_one (sds_ret sd_bl)) sdb_nil) (sdb_cons (sds_if (sdt_w (sdw_or (sdt_inO (cn := 0) h_Scaledd_containsdd (hr.mono (by decide)) (sd_op bm_pow sd_int sd_int) (sd_var 0)) (sdw_or1 (sdt_inO (cn := 0) h_Scaledd_containsdd (hr.mono (by decide)) (sd_neg (sd_op bm_pow sd_int sd_int)) (sd_var 0))))) (sdb_one (sds_ret sd_bl)) sdb_nil) (sdb_cons (sds_for cx (sdi_rng1 (sda_cons (sd_var 2) sda_nil) tx.b_range) (sdg_name true 3 cx.nd) (sdb_cons (sds_if (sdt_cmp (cm_ne cx.toCxE) (sd_meth (cn := 0) (rs := [none]) cx.toCxE h_Scale_premium (hr.mono (by decide)) (sd_var 0) (sdc_val (sd_var 3) sdc_nil)) (sd_ix cx.toCxE (sd_ix cx.toCxE (sd_var 1) sd_int) (sd_var 3))) (sdb_one (sds_ret sd_bl)) sdb_nil) (sdb_one (sds_for cx (sdi_list (sd_lst (sda_cons sd_int (sda_cons sd_int (sda_cons sd_int (sda_cons sd_int (sda_cons sd_int (sda_cons sd_int (sda_cons sd_int (sda_cons (sd_op bm_pow sd_int sd_int) sda_nil)))))))))) (sdg_name true 4 cx.nd) (sdb_one (sds_if (sdt_cmp (cm_ne cx.toCxE) (sd_inst (cn := 0) (rs := [none, none]) cx.toCxE h_Scaledd_calldd (hr.mono (by decide)) (sd_var 0) (sdc_val (sd_var 3) (sdc_val (sd_var 4) sdc_nil))) (sd_call (rs := [none, none, none]) cx.toCxE h__law_led (hr.mono (by decide)) (sdc_val (sd_var 1) (sdc_val (sd_var 3) (sdc_val (sd_var 4) sdc_nil))))) (sdb_one (sds_ret sd_bl)) sdb_nil)))))) (sdb_one (sds_ret sd_bl)))))))
abbrev s_law : Stmt := (top 30)
theorem sc_law : FnScope ["_law_script", "_law_bag_here", "_law_plain", "_law_premiums", "_law_table", "_law_moves", "_law_scale_here", "_law_asked", "_law_turn", "_law_year", "_law_told", "_law_row_here"] ["_law_script"] (defScope s_law) := ⟨rfl, rfl, rfl, by decide +kernel, rfl, by decide +kernel, by decide +kernel⟩
theorem ok_law {f : Addr} {fd : FuncData} (F : Fun K "law" "law" s_law f fd) (tx : Txt K mg g.cl) (hph : ∀ Γ, g.ph Γ) {scA : Option Addr} {scN : List Int} (h__law_bag : Df P w K mg base g "_law_bag" ["_law_script"] 1 [false] (m__law_bag scA scN)) (h__law_scale : Df P w K mg base g "_law_scale" ["_law_bag_here", "_law_most", "_law_most_wide"] 2 [true, false, false] m__law_scale) (h_Scaledd_initdd : Dk P w K mg base g 0 "Scale" ["self", "premiums", "table"] 4 [true, false, false] m_Scaledd_initdd) (h__law_row_right : Df P w K mg base g "_law_row_right" ["_law_bag_here", "_law_scale_here", "_law_plain", "_law_start", "_law_row_here"] 7 [true, false, false, false, false] m__law_row_right) (h__law_draw : Df P w K mg base g "_law_draw" ["_law_bag_here", "_law_size"] 1 [true, false] m__law_draw) (h__law_pick : Df P w K mg base g "_law_pick" ["_law_bag_here", "_law_items"] 2 [true, false] m__law_pick) (h__law_row : Df P w K mg base g "_law_row" ["_law_bag_here", "_law_most"] 2 [true, false] m__law_row) (h_Scale_premiums : Dm P w K mg base g 0 "premiums" ["self"] 1 [false] m_Scale_premiums) (h_Scale_table : Dm P w K mg base g 0 "table" ["self"] 1 [false] m_Scale_table) (h__law_classes_asked : Df P w K mg base g "_law_classes_asked" ["_law_scale_here", "_law_plain"] 5 [false, false] m__law_classes_asked) : FnOk P w K mg base (L2.CX P w) 8 f fd ["_law_script"] (spOf g [false] (m_law scA scN)) :=
  def_ok hph (k := 7) [13, 1, 14, 15, 5, 16, 18, 1, 4, 1, 4, 5, 17, 5, 4, 3, 1, 1, 8, 19, 1, 1, 9, 7, 20, 1, 22, 1, 10, 10, 7, 11, 23, 1, 11, 1] F sc_law [false] rfl (keep_of rfl) fun cdv A outer s H E hr cx => show QSs _ g _ _ (defBody s_law) (b_law scA scN) from
    (sdb_cons (sds_set false 1 cx.nd (sd_call (rs := [none]) cx.toCxE h__law_bag (hr.mono (by decide)) (sdc_val (sd_var 0) sdc_nil))) (sdb_cons (sds_set true 2 cx.nd (sd_call (rs := [some 1, none, none]) cx.toCxE h__law_scale (hr.mono (by decide)) (sdc_ref 1 (sdc_val sd_int (sdc_val sd_int sdc_nil))))) (sdb_cons (sds_set false 3 cx.nd (sd_callTy (bu_list cx.toCxE) (sda_cons (sd_ix cx.toCxE (sd_var 2) sd_int) sda_nil) tx.b_list)) (sdb_cons (by first | exact sds_setLc false 4 [("_law_moves", 5)] cx.toCxE (sdi_list (sd_ix cx.toCxE (sd_var 2) sd_int)) (blkOk_by rfl) (fun _ _ _ _ _ cx1 => (sdg_name true 5 cx1.nd)) (fun _ _ _ _ _ cx1 => sdts_nil) (fun _ _ _ _ _ cx1 => (sd_callTy (bu_list cx1) (sda_cons (sd_var 5) sda_nil) tx.b_list)) | exact sds_set false 4 cx.nd (sd_lc [("_law_moves", 5)] cx.toCxE (sdi_list (sd_ix cx.toCxE (sd_var 2) sd_int)) (blkOk_by rfl) (fun _ _ _ _ _ cx1 => (sdg_name true 5 cx1.nd)) (fun _ _ _ _ _ cx1 => sdts_nil) (fun _ _ _ _ _ cx1 => (sd_callTy (bu_list cx1) (sda_cons (sd_var 5) sda_nil) tx.b_list)))) (sdb_cons (sds_set true 6 cx.nd (sd_make (rs := [none, none]) cx.toCxE h_Scaledd_initdd (hr.mono (by decide)) (sdc_val (sd_var 3) (sdc_val (sd_var 4) sdc_nil)))) (sdb_cons (sds_if (sdt_w (sdw_or (sdt_cmp (cm_ne cx.toCxE) (sd_var 3) (sd_ix cx.toCxE (sd_var 2) sd_int)) (sdw_or1 (sdt_cmp (cm_ne cx.toCxE) (sd_var 4) (sd_ix cx.toCxE (sd_var 2) sd_int))))) (sdb_one (sds_ret sd_bl)) sdb_nil) (sdb_cons (sds_expr (sd_append (sdp_pick (b := 1) cx.toCxE h__law_pick (hr.mono (by decide)) (sdp_var 4)) (sda_cons sd_int sda_nil))) (sdb_openP1 (x := 5) cx.nd (sdp_ix (sdp_var 4) (sd_call (rs := [some 1, none]) cx.toCxE h__law_draw (hr.mono (by decide)) (sdc_ref 1 (sdc_val (sd_callB (bu_len) (sda_cons (sd_var 4) sda_nil) tx.b_len) sdc_nil)))) (sds_setAt cx.toCxE sd_int (sdp_var 5) sd_int) (sdb_cons (sds_expr (sd_clear (sdp_var 4))) (sdb_cons (sds_expr (sd_clear (sdp_var 3))) (sdb_cons (by first | exact sds_setLc false 7 [("_law_turn", 8)] cx.toCxE (sdi_rng1 (sda_cons sd_int sda_nil) tx.b_range) (blkOk_by rfl) (fun _ _ _ _ _ cx1 => (sdg_name true 8 cx1.nd)) (fun _ _ _ _ _ cx1 => sdts_nil) (fun _ _ _ _ _ cx1 => (sd_tup (sda_cons (sd_call (rs := [some 1, none]) cx1 h__law_draw (hr.mono (by decide)) (sdc_ref 1 (sdc_val (sd_callB (bu_len) (sda_cons (sd_ix cx1 (sd_var 2) sd_int) sda_nil) tx.b_len) sdc_nil))) (sda_cons (sd_call (rs := [some 1, none]) cx1 h__law_row (hr.mono (by decide)) (sdc_ref 1 (sdc_val sd_int sdc_nil))) sda_nil)))) | exact sds_set false 7 cx.nd (sd_lc [("_law_turn", 8)] cx.toCxE (sdi_rng1 (sda_cons sd_int sda_nil) tx.b_range) (blkOk_by rfl) (fun _ _ _ _ _ cx1 => (sdg_name true 8 cx1.nd)) (fun _ _ _ _ _ cx1 => sdts_nil) (fun _ _ _ _ _ cx1 => (sd_tup (sda_cons (sd_call (rs := [some 1, none]) cx1 h__law_draw (hr.mono (by decide)) (sdc_ref 1 (sdc_val (sd_callB (bu_len) (sda_cons (sd_ix cx1 (sd_var 2) sd_int) sda_nil) tx.b_len) sdc_nil))) (sda_cons (sd_call (rs := [some 1, none]) cx1 h__law_row (hr.mono (by decide)) (sdc_ref 1 (sdc_val sd_int sdc_nil))) sda_nil)))))) (sdb_cons (sds_if (sdt_cmp (cm_eq cx.toCxE) (sd_call (rs := [some 1, none]) cx.toCxE h__law_draw (hr.mono (by decide)) (sdc_ref 1 (sdc_val sd_int sdc_nil))) sd_int) (sdb_one (sds_setAt cx.toCxE (sd_tup (sda_cons (sd_ix cx.toCxE (sd_ix cx.toCxE (sd_var 7) sd_int) sd_int) (sda_cons (sd_lc [("_law_year", 9)] cx.toCxE (sdi_rng1 (sda_cons sd_int sda_nil) tx.b_range) (blkOk_by rfl) (fun _ _ _ _ _ cx1 => (sdg_name true 9 cx1.nd)) (fun _ _ _ _ _ cx1 => sdts_nil) (fun _ _ _ _ _ cx1 => (sd_call (rs := [some 1, none]) cx1 h__law_draw (hr.mono (by decide)) (sdc_ref 1 (sdc_val sd_int sdc_nil))))) sda_nil))) (sdp_var 7) sd_int)) sdb_nil) (sdb_cons (sds_for cx (sdi_list (sd_lst (sda_cons sd_int (sda_cons sd_int (sda_cons sd_int sda_nil))))) (sdg_name true 8 cx.nd) (sdb_cons (sds_if (sdt_not (sdt_val (sd_call (rs := [some 1, none, none, none, none]) cx.toCxE h__law_row_right (hr.mono (by decide)) (sdc_ref 1 (sdc_val (sd_var 6) (sdc_val (sd_var 2) (sdc_val (sd_ix cx.toCxE (sd_ix cx.toCxE (sd_var 7) (sd_var 8)) sd_int) (sdc_val (sd_ix cx.toCxE (sd_ix cx.toCxE (sd_var 7) (sd_var 8)) sd_int) sdc_nil)))))))) (sdb_one (sds_ret sd_bl)) sdb_nil) (sdb_cons (sds_set false 10 cx.nd (sd_lst (sda_cons (sd_meth0 (cn := 0) cx.toCxE h_Scale_premiums (hr.mono (by decide)) (sd_var 6)) (sda_cons (sd_meth0 (cn := 0) cx.toCxE h_Scale_table (hr.mono (by decide)) (sd_var 6)) sda_nil)))) (sdb_cons (sds_expr (sd_clear (sdp_pick (b := 1) cx.toCxE h__law_pick (hr.mono (by decide)) (sdp_ix (sdp_var 10) sd_int)))) (sdb_cons (sds_expr (sd_clear (sdp_ix (sdp_var 10) sd_int))) (sdb_one (sds_if (sdt_not (sdt_val (sd_call (rs := [none, none]) cx.toCxE h__law_classes_asked (hr.mono (by decide)) (sdc_val (sd_var 6) (sdc_val (sd_var 2) sdc_nil))))) (sdb_one (sds_ret sd_bl)) sdb_nil))))))) (sdb_openP1 (x := 11) cx.nd (sdp_ix (sdp_ix (sdp_var 7) sd_int) sd_int) (sds_expr (sd_append (sdp_var 11) (sda_cons (sd_call (rs := [some 1, none]) cx.toCxE h__law_draw (hr.mono (by decide)) (sdc_ref 1 (sdc_val sd_int sdc_nil))) sda_nil))) (sdb_one (sds_ret (sd_call (rs := [some 1, none, none, none, none]) cx.toCxE h__law_row_right (hr.mono (by decide)) (sdc_ref 1 (sdc_val (sd_var 6) (sdc_val (sd_var 2) (sdc_val (sd_ix cx.toCxE (sd_ix cx.toCxE (sd_var 7) sd_int) sd_int) (sdc_val (sd_var 11) sdc_nil))))))))))))))))))))))
end
end Law
end
section
namespace Law
open PySem L2 Lin
set_option maxHeartbeats 0 in
theorem all_mk {l : PySem.W.OpenLaw} {w : World} {K : PySem.W.Frag} {h : Heap} {mg : Str → Option Value} {fa C0 f0 f1 f2 f3 f4 f5 f6 f7 f8 f9 f10 f11 f12 f13 f14 f15 f16 f17 f18 f19 f20 f21 f22 f23 f24 f25 f26 f27 f28 f29 f30 : Addr} (X : K.In h) (G : h.Ns mainGlobals mg) (hfa : mg "law" = some (.ref fa)) {od0 an0 od1 an1 od2 an2 od3 an3 od4 an4 od5 an5 od6 an6 od7 an7 od8 an8 od9 an9 od10 an10 od11 an11 od12 an12 od13 an13 od14 an14 od15 an15 od16 an16 od17 an17 od18 an18 od19 an19 od20 an20 od21 an21 od22 an22 od23 an23 od24 an24 od25 an25 od26 an26 od27 an27 od28 an28 od29 an29 od30 an30 : Option Addr} {sl0 sl1 sl2 sl3 sl4 sl5 sl6 sl7 sl8 sl9 sl10 sl11 sl12 sl13 sl14 sl15 sl16 sl17 sl18 sl19 sl20 sl21 sl22 sl23 sl24 sl25 sl26 sl27 sl28 sl29 sl30 : Array (Option Value)} {oc0 kV0 dc0 pm0 cd0 ct0 oc1 kV1 dc1 pm1 cd1 ct1 oc2 kV2 dc2 pm2 cd2 ct2 oc3 kV3 dc3 pm3 cd3 ct3 oc4 kV4 dc4 pm4 cd4 ct4 oc5 kV5 dc5 pm5 cd5 ct5 oc6 kV6 dc6 pm6 cd6 ct6 oc7 kV7 dc7 pm7 cd7 ct7 oc8 kV8 dc8 pm8 cd8 ct8 oc9 kV9 dc9 pm9 cd9 ct9 oc10 kV10 dc10 pm10 cd10 ct10 oc11 kV11 dc11 pm11 cd11 ct11 oc12 kV12 dc12 pm12 cd12 ct12 oc13 kV13 dc13 pm13 cd13 ct13 oc14 kV14 dc14 pm14 cd14 ct14 oc15 kV15 dc15 pm15 cd15 ct15 oc16 kV16 dc16 pm16 cd16 ct16 oc17 kV17 dc17 pm17 cd17 ct17 oc18 kV18 dc18 pm18 cd18 ct18 oc19 kV19 dc19 pm19 cd19 ct19 oc20 kV20 dc20 pm20 cd20 ct20 oc21 kV21 dc21 pm21 cd21 ct21 oc22 kV22 dc22 pm22 cd22 ct22 oc23 kV23 dc23 pm23 cd23 ct23 oc24 kV24 dc24 pm24 cd24 ct24 oc25 kV25 dc25 pm25 cd25 ct25 oc26 kV26 dc26 pm26 cd26 ct26 oc27 kV27 dc27 pm27 cd27 ct27 oc28 kV28 dc28 pm28 cd28 ct28 oc29 kV29 dc29 pm29 cd29 ct29 oc30 kV30 dc30 pm30 cd30 ct30 : Value} {tk_GREATEST_PREMIUM tk_MOST_CLASSES tk_MOST_COLUMNS : Tok} {pp25 : Addr} {rs25 : List Value}
    (aC0 : PySem.W.nsIn K mainGlobals "Scale" = some (some (.ref C0)))
    (a0 : PySem.W.nsIn K mainGlobals "_law_bag" = some (some (.ref f0)))
    (l0 : K.lookup f0 = some ⟨oc0, od0, .func (PySem.W.fnOf "_law_bag" "_law_bag" (defArgs s__law_bag) (defBody s__law_bag) (defScope s__law_bag) .none kV0 dc0 pm0 an0 cd0 ct0), sl0⟩)
    (c0 : PySem.W.codeIn K cd0 "_law_bag" = true)
    (k0 : PySem.W.keepIn K (.ref f0) = true)
    (a1 : PySem.W.nsIn K mainGlobals "_law_draw" = some (some (.ref f1)))
    (l1 : K.lookup f1 = some ⟨oc1, od1, .func (PySem.W.fnOf "_law_draw" "_law_draw" (defArgs s__law_draw) (defBody s__law_draw) (defScope s__law_draw) .none kV1 dc1 pm1 an1 cd1 ct1), sl1⟩)
    (c1 : PySem.W.codeIn K cd1 "_law_draw" = true)
    (k1 : PySem.W.keepIn K (.ref f1) = true)
    (a2 : PySem.W.nsIn K mainGlobals "_law_scale" = some (some (.ref f2)))
    (l2 : K.lookup f2 = some ⟨oc2, od2, .func (PySem.W.fnOf "_law_scale" "_law_scale" (defArgs s__law_scale) (defBody s__law_scale) (defScope s__law_scale) .none kV2 dc2 pm2 an2 cd2 ct2), sl2⟩)
    (c2 : PySem.W.codeIn K cd2 "_law_scale" = true)
    (k2 : PySem.W.keepIn K (.ref f2) = true)
    (a3 : PySem.W.nsIn K mainGlobals "is_integer" = some (some (.ref f3)))
    (l3 : K.lookup f3 = some ⟨oc3, od3, .func (PySem.W.fnOf "is_integer" "is_integer" (defArgs s_is_integer) (defBody s_is_integer) (defScope s_is_integer) .none kV3 dc3 pm3 an3 cd3 ct3), sl3⟩)
    (c3 : PySem.W.codeIn K cd3 "is_integer" = true)
    (k3 : PySem.W.keepIn K (.ref f3) = true)
    (a4 : PySem.W.nsIn K mainGlobals "is_premium" = some (some (.ref f4)))
    (l4 : K.lookup f4 = some ⟨oc4, od4, .func (PySem.W.fnOf "is_premium" "is_premium" (defArgs s_is_premium) (defBody s_is_premium) (defScope s_is_premium) .none kV4 dc4 pm4 an4 cd4 ct4), sl4⟩)
    (c4 : PySem.W.codeIn K cd4 "is_premium" = true)
    (k4 : PySem.W.keepIn K (.ref f4) = true)
    (a5 : PySem.W.nsIn K mainGlobals "are_premiums" = some (some (.ref f5)))
    (l5 : K.lookup f5 = some ⟨oc5, od5, .func (PySem.W.fnOf "are_premiums" "are_premiums" (defArgs s_are_premiums) (defBody s_are_premiums) (defScope s_are_premiums) .none kV5 dc5 pm5 an5 cd5 ct5), sl5⟩)
    (c5 : PySem.W.codeIn K cd5 "are_premiums" = true)
    (k5 : PySem.W.keepIn K (.ref f5) = true)
    (a6 : PySem.W.nsIn K mainGlobals "are_moves" = some (some (.ref f6)))
    (l6 : K.lookup f6 = some ⟨oc6, od6, .func (PySem.W.fnOf "are_moves" "are_moves" (defArgs s_are_moves) (defBody s_are_moves) (defScope s_are_moves) .none kV6 dc6 pm6 an6 cd6 ct6), sl6⟩)
    (c6 : PySem.W.codeIn K cd6 "are_moves" = true)
    (k6 : PySem.W.keepIn K (.ref f6) = true)
    (a7 : PySem.W.nsIn K mainGlobals "is_table" = some (some (.ref f7)))
    (l7 : K.lookup f7 = some ⟨oc7, od7, .func (PySem.W.fnOf "is_table" "is_table" (defArgs s_is_table) (defBody s_is_table) (defScope s_is_table) .none kV7 dc7 pm7 an7 cd7 ct7), sl7⟩)
    (c7 : PySem.W.codeIn K cd7 "is_table" = true)
    (k7 : PySem.W.keepIn K (.ref f7) = true)
    (a8 : PySem.W.findIn K (.ref C0) "__init__" = some (some (.ref f8)))
    (i8 : PySem.W.isFn K (.ref f8) = true)
    (l8 : K.lookup f8 = some ⟨oc8, od8, .func (PySem.W.fnOf "__init__" "Scale.__init__" (defArgs s_Scaledd_initdd) (defBody s_Scaledd_initdd) (defScope s_Scaledd_initdd) .none kV8 dc8 pm8 an8 cd8 ct8), sl8⟩)
    (c8 : PySem.W.codeIn K cd8 "Scale.__init__" = true)
    (k8 : PySem.W.keepIn K (.ref f8) = true)
    (a9 : PySem.W.nsIn K mainGlobals "_law_led" = some (some (.ref f9)))
    (l9 : K.lookup f9 = some ⟨oc9, od9, .func (PySem.W.fnOf "_law_led" "_law_led" (defArgs s__law_led) (defBody s__law_led) (defScope s__law_led) .none kV9 dc9 pm9 an9 cd9 ct9), sl9⟩)
    (c9 : PySem.W.codeIn K cd9 "_law_led" = true)
    (k9 : PySem.W.keepIn K (.ref f9) = true)
    (a10 : PySem.W.nsIn K mainGlobals "_law_classes" = some (some (.ref f10)))
    (l10 : K.lookup f10 = some ⟨oc10, od10, .func (PySem.W.fnOf "_law_classes" "_law_classes" (defArgs s__law_classes) (defBody s__law_classes) (defScope s__law_classes) .none kV10 dc10 pm10 an10 cd10 ct10), sl10⟩)
    (c10 : PySem.W.codeIn K cd10 "_law_classes" = true)
    (k10 : PySem.W.keepIn K (.ref f10) = true)
    (a11 : PySem.W.nsIn K mainGlobals "_law_mixed" = some (some (.ref f11)))
    (l11 : K.lookup f11 = some ⟨oc11, od11, .func (PySem.W.fnOf "_law_mixed" "_law_mixed" (defArgs s__law_mixed) (defBody s__law_mixed) (defScope s__law_mixed) .none kV11 dc11 pm11 an11 cd11 ct11), sl11⟩)
    (c11 : PySem.W.codeIn K cd11 "_law_mixed" = true)
    (k11 : PySem.W.keepIn K (.ref f11) = true)
    (a12 : PySem.W.findIn K (.ref C0) "check_class" = some (some (.ref f12)))
    (i12 : PySem.W.isFn K (.ref f12) = true)
    (l12 : K.lookup f12 = some ⟨oc12, od12, .func (PySem.W.fnOf "check_class" "Scale.check_class" (defArgs s_Scale_check_class) (defBody s_Scale_check_class) (defScope s_Scale_check_class) .none kV12 dc12 pm12 an12 cd12 ct12), sl12⟩)
    (c12 : PySem.W.codeIn K cd12 "Scale.check_class" = true)
    (k12 : PySem.W.keepIn K (.ref f12) = true)
    (a13 : PySem.W.findIn K (.ref C0) "led" = some (some (.ref f13)))
    (i13 : PySem.W.isFn K (.ref f13) = true)
    (l13 : K.lookup f13 = some ⟨oc13, od13, .func (PySem.W.fnOf "led" "Scale.led" (defArgs s_Scale_led) (defBody s_Scale_led) (defScope s_Scale_led) .none kV13 dc13 pm13 an13 cd13 ct13), sl13⟩)
    (c13 : PySem.W.codeIn K cd13 "Scale.led" = true)
    (k13 : PySem.W.keepIn K (.ref f13) = true)
    (a14 : PySem.W.findIn K (.ref C0) "classes" = some (some (.ref f14)))
    (i14 : PySem.W.isFn K (.ref f14) = true)
    (l14 : K.lookup f14 = some ⟨oc14, od14, .func (PySem.W.fnOf "classes" "Scale.classes" (defArgs s_Scale_classes) (defBody s_Scale_classes) (defScope s_Scale_classes) .none kV14 dc14 pm14 an14 cd14 ct14), sl14⟩)
    (c14 : PySem.W.codeIn K cd14 "Scale.classes" = true)
    (k14 : PySem.W.keepIn K (.ref f14) = true)
    (a15 : PySem.W.findIn K (.ref C0) "bills" = some (some (.ref f15)))
    (i15 : PySem.W.isFn K (.ref f15) = true)
    (l15 : K.lookup f15 = some ⟨oc15, od15, .func (PySem.W.fnOf "bills" "Scale.bills" (defArgs s_Scale_bills) (defBody s_Scale_bills) (defScope s_Scale_bills) .none kV15 dc15 pm15 an15 cd15 ct15), sl15⟩)
    (c15 : PySem.W.codeIn K cd15 "Scale.bills" = true)
    (k15 : PySem.W.keepIn K (.ref f15) = true)
    (a16 : PySem.W.findIn K (.ref C0) "paid" = some (some (.ref f16)))
    (i16 : PySem.W.isFn K (.ref f16) = true)
    (l16 : K.lookup f16 = some ⟨oc16, od16, .func (PySem.W.fnOf "paid" "Scale.paid" (defArgs s_Scale_paid) (defBody s_Scale_paid) (defScope s_Scale_paid) .none kV16 dc16 pm16 an16 cd16 ct16), sl16⟩)
    (c16 : PySem.W.codeIn K cd16 "Scale.paid" = true)
    (k16 : PySem.W.keepIn K (.ref f16) = true)
    (a17 : PySem.W.nsIn K mainGlobals "_law_paid" = some (some (.ref f17)))
    (l17 : K.lookup f17 = some ⟨oc17, od17, .func (PySem.W.fnOf "_law_paid" "_law_paid" (defArgs s__law_paid) (defBody s__law_paid) (defScope s__law_paid) .none kV17 dc17 pm17 an17 cd17 ct17), sl17⟩)
    (c17 : PySem.W.codeIn K cd17 "_law_paid" = true)
    (k17 : PySem.W.keepIn K (.ref f17) = true)
    (a18 : PySem.W.nsIn K mainGlobals "_law_row_right" = some (some (.ref f18)))
    (l18 : K.lookup f18 = some ⟨oc18, od18, .func (PySem.W.fnOf "_law_row_right" "_law_row_right" (defArgs s__law_row_right) (defBody s__law_row_right) (defScope s__law_row_right) .none kV18 dc18 pm18 an18 cd18 ct18), sl18⟩)
    (c18 : PySem.W.codeIn K cd18 "_law_row_right" = true)
    (k18 : PySem.W.keepIn K (.ref f18) = true)
    (a19 : PySem.W.nsIn K mainGlobals "_law_pick" = some (some (.ref f19)))
    (l19 : K.lookup f19 = some ⟨oc19, od19, .func (PySem.W.fnOf "_law_pick" "_law_pick" (defArgs s__law_pick) (defBody s__law_pick) (defScope s__law_pick) .none kV19 dc19 pm19 an19 cd19 ct19), sl19⟩)
    (c19 : PySem.W.codeIn K cd19 "_law_pick" = true)
    (k19 : PySem.W.keepIn K (.ref f19) = true)
    (a20 : PySem.W.nsIn K mainGlobals "_law_row" = some (some (.ref f20)))
    (l20 : K.lookup f20 = some ⟨oc20, od20, .func (PySem.W.fnOf "_law_row" "_law_row" (defArgs s__law_row) (defBody s__law_row) (defScope s__law_row) .none kV20 dc20 pm20 an20 cd20 ct20), sl20⟩)
    (c20 : PySem.W.codeIn K cd20 "_law_row" = true)
    (k20 : PySem.W.keepIn K (.ref f20) = true)
    (a21 : PySem.W.findIn K (.ref C0) "premiums" = some (some (.ref f21)))
    (i21 : PySem.W.isFn K (.ref f21) = true)
    (l21 : K.lookup f21 = some ⟨oc21, od21, .func (PySem.W.fnOf "premiums" "Scale.premiums" (defArgs s_Scale_premiums) (defBody s_Scale_premiums) (defScope s_Scale_premiums) .none kV21 dc21 pm21 an21 cd21 ct21), sl21⟩)
    (c21 : PySem.W.codeIn K cd21 "Scale.premiums" = true)
    (k21 : PySem.W.keepIn K (.ref f21) = true)
    (a22 : PySem.W.findIn K (.ref C0) "table" = some (some (.ref f22)))
    (i22 : PySem.W.isFn K (.ref f22) = true)
    (l22 : K.lookup f22 = some ⟨oc22, od22, .func (PySem.W.fnOf "table" "Scale.table" (defArgs s_Scale_table) (defBody s_Scale_table) (defScope s_Scale_table) .none kV22 dc22 pm22 an22 cd22 ct22), sl22⟩)
    (c22 : PySem.W.codeIn K cd22 "Scale.table" = true)
    (k22 : PySem.W.keepIn K (.ref f22) = true)
    (a23 : PySem.W.findIn K (.ref C0) "__contains__" = some (some (.ref f23)))
    (i23 : PySem.W.isFn K (.ref f23) = true)
    (l23 : K.lookup f23 = some ⟨oc23, od23, .func (PySem.W.fnOf "__contains__" "Scale.__contains__" (defArgs s_Scaledd_containsdd) (defBody s_Scaledd_containsdd) (defScope s_Scaledd_containsdd) .none kV23 dc23 pm23 an23 cd23 ct23), sl23⟩)
    (c23 : PySem.W.codeIn K cd23 "Scale.__contains__" = true)
    (k23 : PySem.W.keepIn K (.ref f23) = true)
    (a24 : PySem.W.findIn K (.ref C0) "__len__" = some (some (.ref f24)))
    (i24 : PySem.W.isFn K (.ref f24) = true)
    (l24 : K.lookup f24 = some ⟨oc24, od24, .func (PySem.W.fnOf "__len__" "Scale.__len__" (defArgs s_Scaledd_lendd) (defBody s_Scaledd_lendd) (defScope s_Scaledd_lendd) .none kV24 dc24 pm24 an24 cd24 ct24), sl24⟩)
    (c24 : PySem.W.codeIn K cd24 "Scale.__len__" = true)
    (k24 : PySem.W.keepIn K (.ref f24) = true)
    (pa25 : PySem.W.findIn K (.ref C0) "columns" = some (some (.ref pp25)))
    (pq25 : PySem.W.specialIn K (.ref pp25) "__get__" = some (some (.builtin "property.__get__")))
    (pt25 : PySem.W.takesIn K (.ref pp25) = some true)
    (pr25 : PySem.W.recIn K pp25 "property" = some (.ref f25 :: rs25))
    (l25 : K.lookup f25 = some ⟨oc25, od25, .func (PySem.W.fnOf "columns" "Scale.columns" (defArgs s_Scale_columns) (defBody s_Scale_columns) (defScope s_Scale_columns) .none kV25 dc25 pm25 an25 cd25 ct25), sl25⟩)
    (c25 : PySem.W.codeIn K cd25 "Scale.columns" = true)
    (k25 : PySem.W.keepIn K (.ref f25) = true)
    (a26 : PySem.W.nsIn K mainGlobals "_law_like" = some (some (.ref f26)))
    (l26 : K.lookup f26 = some ⟨oc26, od26, .func (PySem.W.fnOf "_law_like" "_law_like" (defArgs s__law_like) (defBody s__law_like) (defScope s__law_like) .none kV26 dc26 pm26 an26 cd26 ct26), sl26⟩)
    (c26 : PySem.W.codeIn K cd26 "_law_like" = true)
    (k26 : PySem.W.keepIn K (.ref f26) = true)
    (a27 : PySem.W.findIn K (.ref C0) "premium" = some (some (.ref f27)))
    (i27 : PySem.W.isFn K (.ref f27) = true)
    (l27 : K.lookup f27 = some ⟨oc27, od27, .func (PySem.W.fnOf "premium" "Scale.premium" (defArgs s_Scale_premium) (defBody s_Scale_premium) (defScope s_Scale_premium) .none kV27 dc27 pm27 an27 cd27 ct27), sl27⟩)
    (c27 : PySem.W.codeIn K cd27 "Scale.premium" = true)
    (k27 : PySem.W.keepIn K (.ref f27) = true)
    (a28 : PySem.W.findIn K (.ref C0) "__call__" = some (some (.ref f28)))
    (i28 : PySem.W.isFn K (.ref f28) = true)
    (l28 : K.lookup f28 = some ⟨oc28, od28, .func (PySem.W.fnOf "__call__" "Scale.__call__" (defArgs s_Scaledd_calldd) (defBody s_Scaledd_calldd) (defScope s_Scaledd_calldd) .none kV28 dc28 pm28 an28 cd28 ct28), sl28⟩)
    (fi28 : PySem.W.fnIn K f28 = true)
    (c28 : PySem.W.codeIn K cd28 "Scale.__call__" = true)
    (k28 : PySem.W.keepIn K (.ref f28) = true)
    (a29 : PySem.W.nsIn K mainGlobals "_law_classes_asked" = some (some (.ref f29)))
    (l29 : K.lookup f29 = some ⟨oc29, od29, .func (PySem.W.fnOf "_law_classes_asked" "_law_classes_asked" (defArgs s__law_classes_asked) (defBody s__law_classes_asked) (defScope s__law_classes_asked) .none kV29 dc29 pm29 an29 cd29 ct29), sl29⟩)
    (c29 : PySem.W.codeIn K cd29 "_law_classes_asked" = true)
    (k29 : PySem.W.keepIn K (.ref f29) = true)
    (a30 : PySem.W.nsIn K mainGlobals "law" = some (some (.ref f30)))
    (l30 : K.lookup f30 = some ⟨oc30, od30, .func (PySem.W.fnOf "law" "law" (defArgs s_law) (defBody s_law) (defScope s_law) .none kV30 dc30 pm30 an30 cd30 ct30), sl30⟩)
    (c30 : PySem.W.codeIn K cd30 "law" = true)
    (k30 : PySem.W.keepIn K (.ref f30) = true)
    (pg0 : PySem.W.plainGet K C0 Str.empty = true)
    (hd0 : PySem.W.hasDictIn K C0 = true)
    (po0 : PySem.W.plainOver K C0 = true)
    (sa0 : PySem.W.findIn K (.ref C0) "__setattr__" = some (some (.builtin "object.__setattr__")))
    (mk0 : PySem.W.makesIn K C0 = true)
    (kc0 : PySem.W.keepIn K (.ref C0) = true)
    (n_Scale_moves : PySem.W.findIn K (.ref C0) "moves" = some none)
    (n_Scale_rates : PySem.W.findIn K (.ref C0) "rates" = some none)
    (b_abs : PySem.W.nsIn K mainGlobals "abs" = some none)
    (b_all : PySem.W.nsIn K mainGlobals "all" = some none)
    (b_bool : PySem.W.nsIn K mainGlobals "bool" = some none)
    (b_int : PySem.W.nsIn K mainGlobals "int" = some none)
    (b_isinstance : PySem.W.nsIn K mainGlobals "isinstance" = some none)
    (b_len : PySem.W.nsIn K mainGlobals "len" = some none)
    (b_list : PySem.W.nsIn K mainGlobals "list" = some none)
    (b_max : PySem.W.nsIn K mainGlobals "max" = some none)
    (b_min : PySem.W.nsIn K mainGlobals "min" = some none)
    (b_range : PySem.W.nsIn K mainGlobals "range" = some none)
    (b_sorted : PySem.W.nsIn K mainGlobals "sorted" = some none)
    (b_sum : PySem.W.nsIn K mainGlobals "sum" = some none)
    (c_GREATEST_PREMIUM : PySem.W.nsIn K mainGlobals "GREATEST_PREMIUM" = some (some (.int 1000000 tk_GREATEST_PREMIUM)))
    (c_MOST_CLASSES : PySem.W.nsIn K mainGlobals "MOST_CLASSES" = some (some (.int 12 tk_MOST_CLASSES)))
    (c_MOST_COLUMNS : PySem.W.nsIn K mainGlobals "MOST_COLUMNS" = some (some (.int 5 tk_MOST_COLUMNS))) :
    ∃ fd : FuncData, (∀ (s : Shared) (v : Value), BindsTo s fd ⟨[v], []⟩ [("_law_script", v)]) ∧ ∀ base : Heap, K.In base → base.Ns mainGlobals mg → FnOk l.prog w K mg base (L2.CX l.prog w) 8 fa fd ["_law_script"] (spScr K []) := by
  have e := hfa.symm.trans (PySem.W.mg_of X G a30)
  cases e
  have F0 := fun_mk (st := s__law_bag) l0 c0 k0
  have B0 := F0.binds (ps := ["_law_script"]) fun _ _ _ _ _ _ us hl => match us, hl with | [_], _ => rfl
  have F1 := fun_mk (st := s__law_draw) l1 c1 k1
  have B1 := F1.binds (ps := ["_law_bag_here", "_law_size"]) fun _ _ _ _ _ _ us hl => match us, hl with | [_, _], _ => rfl
  have F2 := fun_mk (st := s__law_scale) l2 c2 k2
  have B2 := F2.binds (ps := ["_law_bag_here", "_law_most", "_law_most_wide"]) fun _ _ _ _ _ _ us hl => match us, hl with | [_, _, _], _ => rfl
  have F3 := fun_mk (st := s_is_integer) l3 c3 k3
  have B3 := F3.binds (ps := ["value", "least"]) fun _ _ _ _ _ _ us hl => match us, hl with | [_, _], _ => rfl
  have F4 := fun_mk (st := s_is_premium) l4 c4 k4
  have B4 := F4.binds (ps := ["value"]) fun _ _ _ _ _ _ us hl => match us, hl with | [_], _ => rfl
  have F5 := fun_mk (st := s_are_premiums) l5 c5 k5
  have B5 := F5.binds (ps := ["premiums"]) fun _ _ _ _ _ _ us hl => match us, hl with | [_], _ => rfl
  have F6 := fun_mk (st := s_are_moves) l6 c6 k6
  have B6 := F6.binds (ps := ["moves", "count", "wide"]) fun _ _ _ _ _ _ us hl => match us, hl with | [_, _, _], _ => rfl
  have F7 := fun_mk (st := s_is_table) l7 c7 k7
  have B7 := F7.binds (ps := ["table", "count"]) fun _ _ _ _ _ _ us hl => match us, hl with | [_, _], _ => rfl
  have F8 := fun_mk (st := s_Scaledd_initdd) l8 c8 k8
  have B8 := F8.binds (ps := ["self", "premiums", "table"]) fun _ _ _ _ _ _ us hl => match us, hl with | [_, _, _], _ => rfl
  have F9 := fun_mk (st := s__law_led) l9 c9 k9
  have B9 := F9.binds (ps := ["_law_plain", "_law_at", "_law_claims"]) fun _ _ _ _ _ _ us hl => match us, hl with | [_, _, _], _ => rfl
  have F10 := fun_mk (st := s__law_classes) l10 c10 k10
  have B10 := F10.binds (ps := ["_law_plain", "_law_start", "_law_row_here"]) fun _ _ _ _ _ _ us hl => match us, hl with | [_, _, _], _ => rfl
  have F11 := fun_mk (st := s__law_mixed) l11 c11 k11
  have B11 := F11.binds (ps := ["_law_bag_here", "_law_items"]) fun _ _ _ _ _ _ us hl => match us, hl with | [_, _], _ => rfl
  have F12 := fun_mk (st := s_Scale_check_class) l12 c12 k12
  have B12 := F12.binds (ps := ["self", "at"]) fun _ _ _ _ _ _ us hl => match us, hl with | [_, _], _ => rfl
  have F13 := fun_mk (st := s_Scale_led) l13 c13 k13
  have B13 := F13.binds (ps := ["self", "at", "claims"]) fun _ _ _ _ _ _ us hl => match us, hl with | [_, _, _], _ => rfl
  have F14 := fun_mk (st := s_Scale_classes) l14 c14 k14
  have B14 := F14.binds (ps := ["self", "start", "row"]) fun _ _ _ _ _ _ us hl => match us, hl with | [_, _, _], _ => rfl
  have F15 := fun_mk (st := s_Scale_bills) l15 c15 k15
  have B15 := F15.binds (ps := ["self", "start", "row"]) fun _ _ _ _ _ _ us hl => match us, hl with | [_, _, _], _ => rfl
  have F16 := fun_mk (st := s_Scale_paid) l16 c16 k16
  have B16 := F16.binds (ps := ["self", "start", "row"]) fun _ _ _ _ _ _ us hl => match us, hl with | [_, _, _], _ => rfl
  have F17 := fun_mk (st := s__law_paid) l17 c17 k17
  have B17 := F17.binds (ps := ["_law_plain", "_law_start", "_law_row_here"]) fun _ _ _ _ _ _ us hl => match us, hl with | [_, _, _], _ => rfl
  have F18 := fun_mk (st := s__law_row_right) l18 c18 k18
  have B18 := F18.binds (ps := ["_law_bag_here", "_law_scale_here", "_law_plain", "_law_start", "_law_row_here"]) fun _ _ _ _ _ _ us hl => match us, hl with | [_, _, _, _, _], _ => rfl
  have F19 := fun_mk (st := s__law_pick) l19 c19 k19
  have B19 := F19.binds (ps := ["_law_bag_here", "_law_items"]) fun _ _ _ _ _ _ us hl => match us, hl with | [_, _], _ => rfl
  have F20 := fun_mk (st := s__law_row) l20 c20 k20
  have B20 := F20.binds (ps := ["_law_bag_here", "_law_most"]) fun _ _ _ _ _ _ us hl => match us, hl with | [_, _], _ => rfl
  have F21 := fun_mk (st := s_Scale_premiums) l21 c21 k21
  have B21 := F21.binds (ps := ["self"]) fun _ _ _ _ _ _ us hl => match us, hl with | [_], _ => rfl
  have F22 := fun_mk (st := s_Scale_table) l22 c22 k22
  have B22 := F22.binds (ps := ["self"]) fun _ _ _ _ _ _ us hl => match us, hl with | [_], _ => rfl
  have F23 := fun_mk (st := s_Scaledd_containsdd) l23 c23 k23
  have B23 := F23.binds (ps := ["self", "at"]) fun _ _ _ _ _ _ us hl => match us, hl with | [_, _], _ => rfl
  have F24 := fun_mk (st := s_Scaledd_lendd) l24 c24 k24
  have B24 := F24.binds (ps := ["self"]) fun _ _ _ _ _ _ us hl => match us, hl with | [_], _ => rfl
  have F25 := fun_mk (st := s_Scale_columns) l25 c25 k25
  have B25 := F25.binds (ps := ["self"]) fun _ _ _ _ _ _ us hl => match us, hl with | [_], _ => rfl
  have F26 := fun_mk (st := s__law_like) l26 c26 k26
  have B26 := F26.binds (ps := ["_law_scale_here", "_law_plain"]) fun _ _ _ _ _ _ us hl => match us, hl with | [_, _], _ => rfl
  have F27 := fun_mk (st := s_Scale_premium) l27 c27 k27
  have B27 := F27.binds (ps := ["self", "at"]) fun _ _ _ _ _ _ us hl => match us, hl with | [_, _], _ => rfl
  have F28 := fun_mk (st := s_Scaledd_calldd) l28 c28 k28
  have B28 := F28.binds (ps := ["self", "at", "claims"]) fun _ _ _ _ _ _ us hl => match us, hl with | [_, _, _], _ => rfl
  have F29 := fun_mk (st := s__law_classes_asked) l29 c29 k29
  have B29 := F29.binds (ps := ["_law_scale_here", "_law_plain"]) fun _ _ _ _ _ _ us hl => match us, hl with | [_, _], _ => rfl
  have F30 := fun_mk (st := s_law) l30 c30 k30
  have B30 := F30.binds (ps := ["_law_script"]) fun _ _ _ _ _ _ us hl => match us, hl with | [_], _ => rfl
  refine ⟨PySem.W.fnOf "law" "law" (defArgs s_law) (defBody s_law) (defScope s_law) .none kV30 dc30 pm30 an30 cd30 ct30, fun s v => .of_eq rfl, fun base _ _ => law_fin (fun i => match i with | 0 => C0 | _ => 0) [] (m := m_law) (fun scr hs sa ns hS => ?_) law_pure⟩
  have tx : Txt K mg (fun i => match i with | 0 => C0 | _ => 0) := ⟨PySem.W.mg_none_of X G b_abs, PySem.W.mg_none_of X G b_all, PySem.W.mg_none_of X G b_bool, PySem.W.mg_none_of X G b_int, PySem.W.mg_none_of X G b_isinstance, PySem.W.mg_none_of X G b_len, PySem.W.mg_none_of X G b_list, PySem.W.mg_none_of X G b_max, PySem.W.mg_none_of X G b_min, PySem.W.mg_none_of X G b_range, PySem.W.mg_none_of X G b_sorted, PySem.W.mg_none_of X G b_sum, ⟨_, PySem.W.mg_of X G c_GREATEST_PREMIUM, ⟨_, rfl⟩⟩, ⟨_, PySem.W.mg_of X G c_MOST_CLASSES, ⟨_, rfl⟩⟩, ⟨_, PySem.W.mg_of X G c_MOST_COLUMNS, ⟨_, rfl⟩⟩, ⟨pg0, hd0, po0, sa0⟩, n_Scale_moves, n_Scale_rates⟩
  have O0 := ok__law_bag (P := l.prog) (w := w) (base := base) (g := ⟨fun i => match i with | 0 => C0 | _ => 0, scr, fun _ => True, [], hs⟩) F0 tx (fun _ => trivial) hS 
  have O1 := ok__law_draw (P := l.prog) (w := w) (base := base) (g := ⟨fun i => match i with | 0 => C0 | _ => 0, scr, fun _ => True, [], hs⟩) F1 tx (fun _ => trivial) 
  have O2 := ok__law_scale (P := l.prog) (w := w) (base := base) (g := ⟨fun i => match i with | 0 => C0 | _ => 0, scr, fun _ => True, [], hs⟩) F2 tx (fun _ => trivial) ⟨_, _, O1, PySem.W.mg_of X G a1, k1, B1⟩
  have O3 := ok_is_integer (P := l.prog) (w := w) (base := base) (g := ⟨fun i => match i with | 0 => C0 | _ => 0, scr, fun _ => True, [], hs⟩) F3 tx (fun _ => trivial) 
  have O4 := ok_is_premium (P := l.prog) (w := w) (base := base) (g := ⟨fun i => match i with | 0 => C0 | _ => 0, scr, fun _ => True, [], hs⟩) F4 tx (fun _ => trivial) ⟨_, _, O3, PySem.W.mg_of X G a3, k3, B3⟩
  have O5 := ok_are_premiums (P := l.prog) (w := w) (base := base) (g := ⟨fun i => match i with | 0 => C0 | _ => 0, scr, fun _ => True, [], hs⟩) F5 tx (fun _ => trivial) ⟨_, _, O4, PySem.W.mg_of X G a4, k4, B4⟩
  have O6 := ok_are_moves (P := l.prog) (w := w) (base := base) (g := ⟨fun i => match i with | 0 => C0 | _ => 0, scr, fun _ => True, [], hs⟩) F6 tx (fun _ => trivial) ⟨_, _, O3, PySem.W.mg_of X G a3, k3, B3⟩
  have O7 := ok_is_table (P := l.prog) (w := w) (base := base) (g := ⟨fun i => match i with | 0 => C0 | _ => 0, scr, fun _ => True, [], hs⟩) F7 tx (fun _ => trivial) ⟨_, _, O6, PySem.W.mg_of X G a6, k6, B6⟩
  have O8 := ok_Scaledd_initdd (P := l.prog) (w := w) (base := base) (g := ⟨fun i => match i with | 0 => C0 | _ => 0, scr, fun _ => True, [], hs⟩) F8 tx (fun _ => trivial) ⟨_, _, O5, PySem.W.mg_of X G a5, k5, B5⟩ ⟨_, _, O7, PySem.W.mg_of X G a7, k7, B7⟩
  have O9 := ok__law_led (P := l.prog) (w := w) (base := base) (g := ⟨fun i => match i with | 0 => C0 | _ => 0, scr, fun _ => True, [], hs⟩) F9 tx (fun _ => trivial) 
  have O10 := ok__law_classes (P := l.prog) (w := w) (base := base) (g := ⟨fun i => match i with | 0 => C0 | _ => 0, scr, fun _ => True, [], hs⟩) F10 tx (fun _ => trivial) ⟨_, _, O9, PySem.W.mg_of X G a9, k9, B9⟩
  have O11 := ok__law_mixed (P := l.prog) (w := w) (base := base) (g := ⟨fun i => match i with | 0 => C0 | _ => 0, scr, fun _ => True, [], hs⟩) F11 tx (fun _ => trivial) ⟨_, _, O1, PySem.W.mg_of X G a1, k1, B1⟩
  have O12 := ok_Scale_check_class (P := l.prog) (w := w) (base := base) (g := ⟨fun i => match i with | 0 => C0 | _ => 0, scr, fun _ => True, [], hs⟩) F12 tx (fun _ => trivial) ⟨_, _, O3, PySem.W.mg_of X G a3, k3, B3⟩
  have O13 := ok_Scale_led (P := l.prog) (w := w) (base := base) (g := ⟨fun i => match i with | 0 => C0 | _ => 0, scr, fun _ => True, [], hs⟩) F13 tx (fun _ => trivial) ⟨_, _, O12, ⟨pg0, hd0, po0, sa0⟩, ⟨a12, i12, k12⟩, B12⟩ ⟨_, _, O3, PySem.W.mg_of X G a3, k3, B3⟩
  have O14 := ok_Scale_classes (P := l.prog) (w := w) (base := base) (g := ⟨fun i => match i with | 0 => C0 | _ => 0, scr, fun _ => True, [], hs⟩) F14 tx (fun _ => trivial) ⟨_, _, O12, ⟨pg0, hd0, po0, sa0⟩, ⟨a12, i12, k12⟩, B12⟩ ⟨_, _, O13, ⟨pg0, hd0, po0, sa0⟩, ⟨a13, i13, k13⟩, B13⟩
  have O15 := ok_Scale_bills (P := l.prog) (w := w) (base := base) (g := ⟨fun i => match i with | 0 => C0 | _ => 0, scr, fun _ => True, [], hs⟩) F15 tx (fun _ => trivial) ⟨_, _, O14, ⟨pg0, hd0, po0, sa0⟩, ⟨a14, i14, k14⟩, B14⟩
  have O16 := ok_Scale_paid (P := l.prog) (w := w) (base := base) (g := ⟨fun i => match i with | 0 => C0 | _ => 0, scr, fun _ => True, [], hs⟩) F16 tx (fun _ => trivial) ⟨_, _, O15, ⟨pg0, hd0, po0, sa0⟩, ⟨a15, i15, k15⟩, B15⟩
  have O17 := ok__law_paid (P := l.prog) (w := w) (base := base) (g := ⟨fun i => match i with | 0 => C0 | _ => 0, scr, fun _ => True, [], hs⟩) F17 tx (fun _ => trivial) ⟨_, _, O10, PySem.W.mg_of X G a10, k10, B10⟩
  have O18 := ok__law_row_right (P := l.prog) (w := w) (base := base) (g := ⟨fun i => match i with | 0 => C0 | _ => 0, scr, fun _ => True, [], hs⟩) F18 tx (fun _ => trivial) ⟨_, _, O10, PySem.W.mg_of X G a10, k10, B10⟩ ⟨_, _, O11, PySem.W.mg_of X G a11, k11, B11⟩ ⟨_, _, O16, ⟨pg0, hd0, po0, sa0⟩, ⟨a16, i16, k16⟩, B16⟩ ⟨_, _, O14, ⟨pg0, hd0, po0, sa0⟩, ⟨a14, i14, k14⟩, B14⟩ ⟨_, _, O15, ⟨pg0, hd0, po0, sa0⟩, ⟨a15, i15, k15⟩, B15⟩ ⟨_, _, O17, PySem.W.mg_of X G a17, k17, B17⟩
  have O19 := ok__law_pick (P := l.prog) (w := w) (base := base) (g := ⟨fun i => match i with | 0 => C0 | _ => 0, scr, fun _ => True, [], hs⟩) F19 tx (fun _ => trivial) ⟨_, _, O1, PySem.W.mg_of X G a1, k1, B1⟩
  have O20 := ok__law_row (P := l.prog) (w := w) (base := base) (g := ⟨fun i => match i with | 0 => C0 | _ => 0, scr, fun _ => True, [], hs⟩) F20 tx (fun _ => trivial) ⟨_, _, O1, PySem.W.mg_of X G a1, k1, B1⟩
  have O21 := ok_Scale_premiums (P := l.prog) (w := w) (base := base) (g := ⟨fun i => match i with | 0 => C0 | _ => 0, scr, fun _ => True, [], hs⟩) F21 tx (fun _ => trivial) 
  have O22 := ok_Scale_table (P := l.prog) (w := w) (base := base) (g := ⟨fun i => match i with | 0 => C0 | _ => 0, scr, fun _ => True, [], hs⟩) F22 tx (fun _ => trivial) 
  have O23 := ok_Scaledd_containsdd (P := l.prog) (w := w) (base := base) (g := ⟨fun i => match i with | 0 => C0 | _ => 0, scr, fun _ => True, [], hs⟩) F23 tx (fun _ => trivial) ⟨_, _, O3, PySem.W.mg_of X G a3, k3, B3⟩
  have O24 := ok_Scaledd_lendd (P := l.prog) (w := w) (base := base) (g := ⟨fun i => match i with | 0 => C0 | _ => 0, scr, fun _ => True, [], hs⟩) F24 tx (fun _ => trivial) 
  have O25 := ok_Scale_columns (P := l.prog) (w := w) (base := base) (g := ⟨fun i => match i with | 0 => C0 | _ => 0, scr, fun _ => True, [], hs⟩) F25 tx (fun _ => trivial) 
  have O26 := ok__law_like (P := l.prog) (w := w) (base := base) (g := ⟨fun i => match i with | 0 => C0 | _ => 0, scr, fun _ => True, [], hs⟩) F26 tx (fun _ => trivial) ⟨_, _, O21, ⟨pg0, hd0, po0, sa0⟩, ⟨a21, i21, k21⟩, B21⟩ ⟨_, _, O22, ⟨pg0, hd0, po0, sa0⟩, ⟨a22, i22, k22⟩, B22⟩
  have O27 := ok_Scale_premium (P := l.prog) (w := w) (base := base) (g := ⟨fun i => match i with | 0 => C0 | _ => 0, scr, fun _ => True, [], hs⟩) F27 tx (fun _ => trivial) ⟨_, _, O12, ⟨pg0, hd0, po0, sa0⟩, ⟨a12, i12, k12⟩, B12⟩
  have O28 := ok_Scaledd_calldd (P := l.prog) (w := w) (base := base) (g := ⟨fun i => match i with | 0 => C0 | _ => 0, scr, fun _ => True, [], hs⟩) F28 tx (fun _ => trivial) ⟨_, _, O13, ⟨pg0, hd0, po0, sa0⟩, ⟨a13, i13, k13⟩, B13⟩
  have O29 := ok__law_classes_asked (P := l.prog) (w := w) (base := base) (g := ⟨fun i => match i with | 0 => C0 | _ => 0, scr, fun _ => True, [], hs⟩) F29 tx (fun _ => trivial) ⟨_, _, O23, ⟨a23, i23⟩, B23⟩ ⟨_, _, _, O24, ⟨a24, i24⟩, B24⟩ ⟨_, _, _, _, O25, ⟨pg0, hd0, po0, sa0⟩, ⟨pa25, pq25, pt25, ⟨_, pr25⟩⟩, B25⟩ ⟨_, _, O26, PySem.W.mg_of X G a26, k26, B26⟩ ⟨_, _, O27, ⟨pg0, hd0, po0, sa0⟩, ⟨a27, i27, k27⟩, B27⟩ ⟨_, _, O28, ⟨a28, i28, fi28⟩, B28⟩ ⟨_, _, O9, PySem.W.mg_of X G a9, k9, B9⟩
  have O30 := ok_law (P := l.prog) (w := w) (base := base) (g := ⟨fun i => match i with | 0 => C0 | _ => 0, scr, fun _ => True, [], hs⟩) F30 tx (fun _ => trivial) ⟨_, _, O0, PySem.W.mg_of X G a0, k0, B0⟩ ⟨_, _, O2, PySem.W.mg_of X G a2, k2, B2⟩ ⟨_, _, O8, ⟨mk0, a8, i8, kc0⟩, PySem.W.mg_of X G aC0, B8⟩ ⟨_, _, O18, PySem.W.mg_of X G a18, k18, B18⟩ ⟨_, _, O1, PySem.W.mg_of X G a1, k1, B1⟩ ⟨_, _, O19, PySem.W.mg_of X G a19, k19, B19⟩ ⟨_, _, O20, PySem.W.mg_of X G a20, k20, B20⟩ ⟨_, _, O21, ⟨pg0, hd0, po0, sa0⟩, ⟨a21, i21, k21⟩, B21⟩ ⟨_, _, O22, ⟨pg0, hd0, po0, sa0⟩, ⟨a22, i22, k22⟩, B22⟩ ⟨_, _, O29, PySem.W.mg_of X G a29, k29, B29⟩
  exact O30
end Law
open PySem PySem.W PyProof.Rows
set_option maxRecDepth 100000 in
set_option maxHeartbeats 0 in
theorem PySem.Challenge.cw_claimclasses_k11_scales_and_rows_holds : PySem.Challenge.rw_claimclasses_k11_scales_and_rows.Holds := by
  w_on; o_law; k_head; (case hw => w_witness2)
  k_fill
  refine Lin.law_walk (l := PySem.Challenge.rw_claimclasses_k11_scales_and_rows) (k := 8) (x := "_law_script") rfl rfl ⟨rfl, by decide, by decide⟩ (fun w h Y => PySem.W.kIn_of Y) ?F
  case F =>
    intro w mg fa h KX G hmg
    refine' Law.all_mk KX G hmg ?aC0 ?a0 ?l0 ?c0 ?k0 ?a1 ?l1 ?c1 ?k1 ?a2 ?l2 ?c2 ?k2 ?a3 ?l3 ?c3 ?k3 ?a4 ?l4 ?c4 ?k4 ?a5 ?l5 ?c5 ?k5 ?a6 ?l6 ?c6 ?k6 ?a7 ?l7 ?c7 ?k7 ?a8 ?i8 ?l8 ?c8 ?k8 ?a9 ?l9 ?c9 ?k9 ?a10 ?l10 ?c10 ?k10 ?a11 ?l11 ?c11 ?k11 ?a12 ?i12 ?l12 ?c12 ?k12 ?a13 ?i13 ?l13 ?c13 ?k13 ?a14 ?i14 ?l14 ?c14 ?k14 ?a15 ?i15 ?l15 ?c15 ?k15 ?a16 ?i16 ?l16 ?c16 ?k16 ?a17 ?l17 ?c17 ?k17 ?a18 ?l18 ?c18 ?k18 ?a19 ?l19 ?c19 ?k19 ?a20 ?l20 ?c20 ?k20 ?a21 ?i21 ?l21 ?c21 ?k21 ?a22 ?i22 ?l22 ?c22 ?k22 ?a23 ?i23 ?l23 ?c23 ?k23 ?a24 ?i24 ?l24 ?c24 ?k24 ?pa25 ?pq25 ?pt25 ?pr25 ?l25 ?c25 ?k25 ?a26 ?l26 ?c26 ?k26 ?a27 ?i27 ?l27 ?c27 ?k27 ?a28 ?i28 ?l28 ?fi28 ?c28 ?k28 ?a29 ?l29 ?c29 ?k29 ?a30 ?l30 ?c30 ?k30 ?pg0 ?hd0 ?po0 ?sa0 ?mk0 ?kc0 ?n_Scale_moves ?n_Scale_rates ?b_abs ?b_all ?b_bool ?b_int ?b_isinstance ?b_len ?b_list ?b_max ?b_min ?b_range ?b_sorted ?b_sum ?c_GREATEST_PREMIUM ?c_MOST_CLASSES ?c_MOST_COLUMNS
    (case aC0 => k_is)
    (case a0 => k_is)
    (case l0 => k_is)
    (case c0 => k_is)
    (case k0 => k_is)
    (case a1 => k_is)
    (case l1 => k_is)
    (case c1 => k_is)
    (case k1 => k_is)
    (case a2 => k_is)
    (case l2 => k_is)
    (case c2 => k_is)
    (case k2 => k_is)
    (case a3 => k_is)
    (case l3 => k_is)
    (case c3 => k_is)
    (case k3 => k_is)
    (case a4 => k_is)
    (case l4 => k_is)
    (case c4 => k_is)
    (case k4 => k_is)
    (case a5 => k_is)
    (case l5 => k_is)
    (case c5 => k_is)
    (case k5 => k_is)
    (case a6 => k_is)
    (case l6 => k_is)
    (case c6 => k_is)
    (case k6 => k_is)
    (case a7 => k_is)
    (case l7 => k_is)
    (case c7 => k_is)
    (case k7 => k_is)
    (case a8 => k_is)
    (case i8 => k_is)
    (case l8 => k_is)
    (case c8 => k_is)
    (case k8 => k_is)
    (case a9 => k_is)
    (case l9 => k_is)
    (case c9 => k_is)
    (case k9 => k_is)
    (case a10 => k_is)
    (case l10 => k_is)
    (case c10 => k_is)
    (case k10 => k_is)
    (case a11 => k_is)
    (case l11 => k_is)
    (case c11 => k_is)
    (case k11 => k_is)
    (case a12 => k_is)
    (case i12 => k_is)
    (case l12 => k_is)
    (case c12 => k_is)
    (case k12 => k_is)
    (case a13 => k_is)
    (case i13 => k_is)
    (case l13 => k_is)
    (case c13 => k_is)
    (case k13 => k_is)
    (case a14 => k_is)
    (case i14 => k_is)
    (case l14 => k_is)
    (case c14 => k_is)
    (case k14 => k_is)
    (case a15 => k_is)
    (case i15 => k_is)
    (case l15 => k_is)
    (case c15 => k_is)
    (case k15 => k_is)
    (case a16 => k_is)
    (case i16 => k_is)
    (case l16 => k_is)
    (case c16 => k_is)
    (case k16 => k_is)
    (case a17 => k_is)
    (case l17 => k_is)
    (case c17 => k_is)
    (case k17 => k_is)
    (case a18 => k_is)
    (case l18 => k_is)
    (case c18 => k_is)
    (case k18 => k_is)
    (case a19 => k_is)
    (case l19 => k_is)
    (case c19 => k_is)
    (case k19 => k_is)
    (case a20 => k_is)
    (case l20 => k_is)
    (case c20 => k_is)
    (case k20 => k_is)
    (case a21 => k_is)
    (case i21 => k_is)
    (case l21 => k_is)
    (case c21 => k_is)
    (case k21 => k_is)
    (case a22 => k_is)
    (case i22 => k_is)
    (case l22 => k_is)
    (case c22 => k_is)
    (case k22 => k_is)
    (case a23 => k_is)
    (case i23 => k_is)
    (case l23 => k_is)
    (case c23 => k_is)
    (case k23 => k_is)
    (case a24 => k_is)
    (case i24 => k_is)
    (case l24 => k_is)
    (case c24 => k_is)
    (case k24 => k_is)
    (case pa25 => k_is)
    (case pq25 => k_is)
    (case pt25 => k_is)
    (case pr25 => k_is)
    (case l25 => k_is)
    (case c25 => k_is)
    (case k25 => k_is)
    (case a26 => k_is)
    (case l26 => k_is)
    (case c26 => k_is)
    (case k26 => k_is)
    (case a27 => k_is)
    (case i27 => k_is)
    (case l27 => k_is)
    (case c27 => k_is)
    (case k27 => k_is)
    (case a28 => k_is)
    (case i28 => k_is)
    (case l28 => k_is)
    (case fi28 => k_is)
    (case c28 => k_is)
    (case k28 => k_is)
    (case a29 => k_is)
    (case l29 => k_is)
    (case c29 => k_is)
    (case k29 => k_is)
    (case a30 => k_is)
    (case l30 => k_is)
    (case c30 => k_is)
    (case k30 => k_is)
    (case pg0 => k_is)
    (case hd0 => k_is)
    (case po0 => k_is)
    (case sa0 => k_is)
    (case mk0 => k_is)
    (case kc0 => k_is)
    (case n_Scale_moves => k_is)
    (case n_Scale_rates => k_is)
    (case b_abs => k_is)
    (case b_all => k_is)
    (case b_bool => k_is)
    (case b_int => k_is)
    (case b_isinstance => k_is)
    (case b_len => k_is)
    (case b_list => k_is)
    (case b_max => k_is)
    (case b_min => k_is)
    (case b_range => k_is)
    (case b_sorted => k_is)
    (case b_sum => k_is)
    (case c_GREATEST_PREMIUM => k_is)
    (case c_MOST_CLASSES => k_is)
    (case c_MOST_COLUMNS => k_is)
end
