import PyProof.Rows.All
import Wide.All
import OpenK.AllK
import Wide.FinOn
import HandS.ForMost
import HandS.ForExc
import HandS.Wide
import HandS.Property
import HandS.Star
import HandS.IsInst
import HandS.SortInts
import HandS.Flow
import HandS.More
import HandS.Conv
import HandS.Dict
import HandS.ExcOwn
import HandS.Words
import HandS.EndBits
import HandS.Style
import HandS.ExcInit
import HandS.ExcField
import HandS.ExcIs
import KE.KIsAll
import KE.KTryMore
import HandS.FStr
import HandS.SetFor
import HandS.Strs
import PyProof.Rows.TupDisplay
import PySem.Challenge.RW_claimclasses_k62_uniting_and_meeting_row
set_option Elab.async false
set_option linter.all false
set_option maxRecDepth 100000
set_option autoImplicit false
section
namespace Lin
open PySem L2

/-! ### data with ownership marks, and the same with addresses -/
inductive Kd where
  | frz | own | bor (r : Nat) | par
  deriving DecidableEq
inductive Sh where
  | lst | tup | dic (ks : List Key) | dtu (ks : List (List Key)) | obj (c : Nat) (ns : List Str) | xd (ns : List Str) | scr
  deriving DecidableEq
inductive D where
  | im (v : V)
  | nd (k : Kd) (s : Sh) (ds : List D)
inductive T where
  | im (v : V)
  | nd (a : Addr) (k : Kd) (s : Sh) (dx : Addr) (ts : List T)
structure Gh where
  H0 : Hp
  W : Addr → Prop
  F : Addr → Prop
structure Gc where
  cl : Nat → Addr
  scr : HO
  ph : Gh → Prop
def ho (g : Gc) (s : Sh) (dx : Addr) (vs : List V) : HO := match s with
  | .lst => .lst vs
  | .tup => .tup vs
  | .dic ks => .dK (ks.zip vs)
  | .dtu ks => .dT (ks.zip vs)
  | .obj c ns => .ins (g.cl c) dx (ns.zip vs)
  | .xd ns => .xd (ns.zip vs)
  | .scr => g.scr
def T.root : T → V
  | .im v => v
  | .nd a _ _ _ _ => .ref a
abbrev Cell := Kd × Addr × HO
mutual
def T.cells (g : Gc) : T → List Cell
  | .im _ => []
  | .nd a k s dx ts => (k, a, ho g s dx (ts.map T.root)) :: cellsL g ts
def cellsL (g : Gc) : List T → List Cell
  | [] => []
  | t :: r => t.cells g ++ cellsL g r
end
mutual
def T.er : T → D
  | .im v => .im v
  | .nd _ k s _ ts => .nd k s (erL ts)
def erL : List T → List D
  | [] => []
  | t :: r => t.er :: erL r
end
mutual
def T.mk (f : Kd → Kd) : T → T
  | .im v => .im v
  | .nd a k s dx ts => .nd a (f k) s dx (mkL f ts)
def mkL (f : Kd → Kd) : List T → List T
  | [] => []
  | t :: r => t.mk f :: mkL f r
end
mutual
def D.mk (f : Kd → Kd) : D → D
  | .im v => .im v
  | .nd k s ds => .nd (f k) s (mkDL f ds)
def mkDL (f : Kd → Kd) : List D → List D
  | [] => []
  | t :: r => t.mk f :: mkDL f r
end
mutual
def D.kinds : D → List Kd
  | .im _ => []
  | .nd k _ ds => k :: kindsL ds
def kindsL : List D → List Kd
  | [] => []
  | t :: r => t.kinds ++ kindsL r
end
theorem erL_eq (ts : List T) : erL ts = ts.map T.er := by
  induction ts with
  | nil => rfl
  | cons t r ih => simp [erL, ih]
theorem cellsL_eq (g : Gc) (ts : List T) : cellsL g ts = ts.flatMap (T.cells g) := by
  induction ts with
  | nil => rfl
  | cons t r ih => simp [cellsL, ih]
theorem cellsL_append (g : Gc) (a b : List T) : cellsL g (a ++ b) = cellsL g a ++ cellsL g b := by simp [cellsL_eq]
theorem mkL_eq (f : Kd → Kd) (ts : List T) : mkL f ts = ts.map (T.mk f) := by
  induction ts with
  | nil => rfl
  | cons t r ih => simp [mkL, ih]
theorem mkDL_eq (f : Kd → Kd) (ts : List D) : mkDL f ts = ts.map (D.mk f) := by
  induction ts with
  | nil => rfl
  | cons t r ih => simp [mkDL, ih]
theorem kindsL_eq (ts : List D) : kindsL ts = ts.flatMap D.kinds := by
  induction ts with
  | nil => rfl
  | cons t r ih => simp [kindsL, ih]
theorem root_mk (f : Kd → Kd) (t : T) : (t.mk f).root = t.root := by cases t <;> rfl
theorem roots_mk (f : Kd → Kd) (ts : List T) : (mkL f ts).map T.root = ts.map T.root := by simp [mkL_eq, root_mk]
mutual
theorem cells_mk (g : Gc) (f : Kd → Kd) : ∀ t : T, (t.mk f).cells g = (t.cells g).map fun c => (f c.1, c.2)
  | .im _ => rfl
  | .nd a k s dx ts => by
    simp only [T.mk, T.cells, List.map_cons, roots_mk]
    rw [cellsL_mk g f ts]
theorem cellsL_mk (g : Gc) (f : Kd → Kd) : ∀ ts : List T, cellsL g (mkL f ts) = (cellsL g ts).map fun c => (f c.1, c.2)
  | [] => rfl
  | t :: r => by
    simp only [mkL, cellsL, List.map_append]
    rw [cells_mk g f t, cellsL_mk g f r]
end
mutual
theorem er_mk (f : Kd → Kd) : ∀ t : T, (t.mk f).er = t.er.mk f
  | .im _ => rfl
  | .nd a k s dx ts => by
    simp only [T.mk, T.er, D.mk]
    rw [erL_mk f ts]
theorem erL_mk (f : Kd → Kd) : ∀ ts : List T, erL (mkL f ts) = mkDL f (erL ts)
  | [] => rfl
  | t :: r => by
    simp only [mkL, erL, mkDL]
    rw [er_mk f t, erL_mk f r]
end
mutual
theorem kinds_er (g : Gc) : ∀ t : T, t.er.kinds = (t.cells g).map (·.1)
  | .im _ => rfl
  | .nd a k s dx ts => by
    simp only [T.er, D.kinds, T.cells, List.map_cons]
    rw [kindsL_er g ts]
theorem kindsL_er (g : Gc) : ∀ ts : List T, kindsL (erL ts) = (cellsL g ts).map (·.1)
  | [] => rfl
  | t :: r => by
    simp only [erL, kindsL, cellsL, List.map_append]
    rw [kinds_er g t, kindsL_er g r]
end
def ownsC (cs : List Cell) : List Addr := cs.filterMap fun c => if c.1 = .own then some c.2.1 else none
theorem mem_ownsC {cs : List Cell} {a : Addr} : a ∈ ownsC cs ↔ ∃ c ∈ cs, c.1 = .own ∧ c.2.1 = a := by
  unfold ownsC
  simp only [List.mem_filterMap]
  constructor
  · rintro ⟨c, hc, h⟩
    split at h
    · exact ⟨c, hc, by assumption, by simpa using h⟩
    · cases h
  · rintro ⟨c, hc, h1, h2⟩
    exact ⟨c, hc, by rw [if_pos h1, h2]⟩
theorem ownsC_append (a b : List Cell) : ownsC (a ++ b) = ownsC a ++ ownsC b := by simp [ownsC]

/-! ### the relation between slots and temps of the evaluator and the heap -/
def CellAt (g : Gc) (A : List (Option T)) (i : Nat) (c : Cell) : Prop := ∃ t, A[i]? = some (some t) ∧ c ∈ t.cells g
structure Rel (g : Gc) (Γ : Gh) (n : Nat) (A : List (Option T)) (σ : St) (H : Hp) : Prop where
  len : n ≤ A.length
  slen : σ.length = n
  val : ∀ (i : Nat) (t : T), i < n → A[i]? = some (some t) → σ[i]? = some (some t.root)
  hold : ∀ i c, CellAt g A i c → H c.2.1 = some c.2.2
  lab : ∀ i c r, CellAt g A i c → c.1 = .bor r → r < n
  nd : ∀ (i : Nat) (t : T), A[i]? = some (some t) → (ownsC (t.cells g)).Nodup
  sep : ∀ i j c d, CellAt g A i c → CellAt g A j d → c.1 = .own → d.2.1 = c.2.1 → (i = j ∧ d.1 = .own) ∨ (i ≠ j ∧ d.1 = .bor i)
  frame : ∀ a o, Γ.H0 a = some o → ¬ Γ.W a → H a = some o
  gown : ∀ i c, CellAt g A i c → c.1 = .frz ∨ c.1 = .par ∨ Γ.W c.2.1 ∨ Γ.H0 c.2.1 = none
  gfrz : ∀ i c, CellAt g A i c → c.1 = .frz → Γ.W c.2.1 ∨ Γ.H0 c.2.1 = none ∨ Γ.F c.2.1
  pin : g.ph Γ

section
variable {g : Gc} {Γ : Gh} {n : Nat} {A B : List (Option T)} {σ : St} {H H' : Hp} {t : T}
theorem cellAt_left {i : Nat} {c : Cell} (h : CellAt g A i c) : CellAt g (A ++ B) i c := by
  obtain ⟨t, e, hc⟩ := h
  exact ⟨t, by rw [List.getElem?_append_left (List.getElem?_eq_some_iff.mp e).1]; exact e, hc⟩
theorem CellAt.lt {i : Nat} {c : Cell} (h : CellAt g A i c) : i < A.length := by
  obtain ⟨t, e, _⟩ := h
  exact (List.getElem?_eq_some_iff.mp e).1
theorem cellAt_snoc {i : Nat} {c : Cell} : CellAt g (A ++ [some t]) i c ↔ CellAt g A i c ∨ (i = A.length ∧ c ∈ t.cells g) := by
  constructor
  · rintro ⟨u, e, hc⟩
    by_cases hi : i < A.length
    · rw [List.getElem?_append_left hi] at e
      exact .inl ⟨u, e, hc⟩
    · by_cases hi2 : i = A.length
      · subst hi2
        simp at e
        subst e
        exact .inr ⟨rfl, hc⟩
      · rw [List.getElem?_append_right (by omega)] at e
        have : i - A.length ≠ 0 := by omega
        cases hh : i - A.length with
        | zero => exact absurd hh this
        | succ m => rw [hh] at e; simp at e
  · rintro (h | ⟨rfl, hc⟩)
    · exact cellAt_left h
    · exact ⟨t, by simp, hc⟩
theorem cellAt_append {i : Nat} {c : Cell} : CellAt g (A ++ B) i c ↔ CellAt g A i c ∨ (A.length ≤ i ∧ CellAt g B (i - A.length) c) := by
  constructor
  · rintro ⟨u, e, hc⟩
    by_cases hi : i < A.length
    · rw [List.getElem?_append_left hi] at e
      exact .inl ⟨u, e, hc⟩
    · rw [List.getElem?_append_right (by omega)] at e
      exact .inr ⟨by omega, u, e, hc⟩
  · rintro (h | ⟨hi, u, e, hc⟩)
    · exact cellAt_left h
    · exact ⟨u, by rw [List.getElem?_append_right hi]; exact e, hc⟩
theorem cellAt_set {i j : Nat} {o : Option T} {c : Cell} (hj : j < A.length) : CellAt g (A.set j o) i c ↔ (i = j ∧ ∃ t, o = some t ∧ c ∈ t.cells g) ∨ (i ≠ j ∧ CellAt g A i c) := by
  constructor
  · rintro ⟨u, e, hc⟩
    by_cases hi : i = j
    · subst hi
      rw [List.getElem?_set_self hj] at e
      exact .inl ⟨rfl, u, by simpa using e, hc⟩
    · rw [List.getElem?_set_ne (Ne.symm hi)] at e
      exact .inr ⟨hi, u, e, hc⟩
  · rintro (⟨rfl, u, rfl, hc⟩ | ⟨hi, u, e, hc⟩)
    · exact ⟨u, by rw [List.getElem?_set_self hj], hc⟩
    · exact ⟨u, by rw [List.getElem?_set_ne (Ne.symm hi)]; exact e, hc⟩

theorem Rel.fresh (R : Rel g Γ n A σ H) {p : Addr} (h : H p = none) : Γ.W p ∨ Γ.H0 p = none := by
  by_cases hw : Γ.W p
  · exact .inl hw
  · cases e : Γ.H0 p with
    | none => exact .inr rfl
    | some o => rw [R.frame p o e hw] at h; cases h
/-- fewer trees -/
theorem Rel.less (R : Rel g Γ n A σ H) {A' : List (Option T)} (hn : n ≤ A'.length) (h : ∀ (i : Nat) t, A'[i]? = some (some t) → A[i]? = some (some t)) : Rel g Γ n A' σ H := by
  have hc : ∀ {i c}, CellAt g A' i c → CellAt g A i c := fun ⟨t, e, m⟩ => ⟨t, h _ _ e, m⟩
  exact ⟨hn, R.slen, fun i t hi e => R.val i t hi (h i t e), fun i c x => R.hold i c (hc x), fun i c r x => R.lab i c r (hc x), fun i t e => R.nd i t (h i t e), fun i j c d x y => R.sep i j c d (hc x) (hc y), R.frame, fun i c x => R.gown i c (hc x), fun i c x => R.gfrz i c (hc x), R.pin⟩
theorem Rel.drop (R : Rel g Γ n (A ++ B) σ H) (hn : n ≤ A.length) : Rel g Γ n A σ H :=
  R.less hn fun i t e => by rw [List.getElem?_append_left (List.getElem?_eq_some_iff.mp e).1]; exact e
def ownsO (g : Gc) (o : Option T) : List Addr := match o with
  | none => []
  | some t => ownsC (t.cells g)
theorem Rel.ndB (R : Rel g Γ n (A ++ B) σ H) (hn : n ≤ A.length) : (B.flatMap (ownsO g)).Nodup := by
  suffices h : ∀ (B' : List (Option T)) (k : Nat), (∀ (i : Nat) t, B'[i]? = some (some t) → (A ++ B)[k + i]? = some (some t)) → n ≤ k → (B'.flatMap (ownsO g)).Nodup by
    exact h B A.length (fun i t e => by rw [List.getElem?_append_right (by omega)]; simpa using e) hn
  intro B'
  induction B' with
  | nil => intro _ _ _; simp
  | cons o r ih =>
    intro k h hk
    rw [List.flatMap_cons, List.nodup_append]
    refine ⟨?_, ih (k + 1) (fun i t e => by have := h (i + 1) t (by simpa using e); rw [show k + 1 + i = k + (i + 1) by omega]; exact this) (by omega), ?_⟩
    · cases o with
      | none => exact List.nodup_nil
      | some t => exact R.nd k t (by simpa using h 0 t (by simp))
    · intro a ha b hb hab
      subst hab
      cases o with
      | none => cases ha
      | some t =>
        obtain ⟨c, hc, k1, k2⟩ := mem_ownsC.mp (show a ∈ ownsC (t.cells g) from ha)
        obtain ⟨o', ho', hb⟩ := List.mem_flatMap.mp hb
        cases o' with
        | none => cases hb
        | some u =>
          obtain ⟨d, hd, k3, k4⟩ := mem_ownsC.mp (show a ∈ ownsC (u.cells g) from hb)
          obtain ⟨j, hj, ej⟩ := List.getElem_of_mem ho'
          have e1 := h 0 t (by simp)
          have e2 := h (j + 1) u (by simp [ej, List.getElem?_eq_getElem hj])
          rcases R.sep (k + 0) (k + (j + 1)) c d ⟨t, e1, hc⟩ ⟨u, e2, hd⟩ k1 (by rw [k4, k2]) with ⟨q, _⟩ | ⟨_, q⟩
          · omega
          · rw [k3] at q; cases q
/-- temps B are used up; the new temp's cells are theirs or new -/
theorem Rel.subst (R : Rel g Γ n (A ++ B) σ H) (hn : n ≤ A.length) (hH : ∀ a o, H a = some o → H' a = some o)
    (hc : ∀ c ∈ t.cells g, (c.1 = .own ∧ H c.2.1 = none ∧ H' c.2.1 = some c.2.2) ∨ ∃ i, CellAt g B i c)
    (ho : ∃ fr : List Addr, (∀ a ∈ fr, H a = none) ∧ fr.Nodup ∧ List.Sublist (ownsC (t.cells g)) (fr ++ B.flatMap (ownsO g))) : Rel g Γ n (A ++ [some t]) σ H' := by
  have hA : ∀ {i c}, CellAt g A i c → CellAt g (A ++ B) i c := fun x => cellAt_left x
  have hB : ∀ {i c}, CellAt g B i c → CellAt g (A ++ B) (A.length + i) c := fun x => cellAt_append.mpr (.inr ⟨by omega, by rw [Nat.add_sub_cancel_left]; exact x⟩)
  have held : ∀ {i c}, CellAt g (A ++ B) i c → ∃ o, H c.2.1 = some o := fun x => ⟨_, R.hold _ _ x⟩
  have labB : ∀ {i c r}, CellAt g (A ++ B) i c → c.1 = .bor r → A.length ≤ r → False := fun x e h => by have := R.lab _ _ _ x e; omega
  refine ⟨by simp; omega, R.slen, ?_, ?_, ?_, ?_, ?_, ?_, ?_, ?_, R.pin⟩
  · intro i u hi e
    rw [List.getElem?_append_left (by omega)] at e
    exact R.val i u hi (by rw [List.getElem?_append_left (by omega)]; exact e)
  · intro i c x
    rcases cellAt_snoc.mp x with x | ⟨rfl, zx⟩
    · exact hH _ _ (R.hold i c (hA x))
    · rcases hc c zx with ⟨_, _, h⟩ | ⟨j, y⟩
      · exact h
      · exact hH _ _ (R.hold _ c (hB y))
  · intro i c r x e
    rcases cellAt_snoc.mp x with x | ⟨rfl, zx⟩
    · exact R.lab i c r (hA x) e
    · rcases hc c zx with ⟨h, _, _⟩ | ⟨j, y⟩
      · rw [h] at e; cases e
      · exact R.lab _ c r (hB y) e
  · intro i u e
    by_cases hi : i < A.length
    · rw [List.getElem?_append_left hi] at e
      exact R.nd i u (by rw [List.getElem?_append_left hi]; exact e)
    · have : u = t := by
        rw [List.getElem?_append_right (by omega)] at e
        cases hh : i - A.length with
        | zero => rw [hh] at e; simpa using e.symm
        | succ m => rw [hh] at e; simp at e
      subst this
      obtain ⟨fr, h1, h2, h3⟩ := ho
      refine h3.nodup (List.nodup_append.mpr ⟨h2, R.ndB hn, fun a ha b hb e => ?_⟩)
      subst e
      obtain ⟨o', ho', hb⟩ := List.mem_flatMap.mp hb
      cases o' with
      | none => cases hb
      | some w =>
        obtain ⟨d, hd, _, k4⟩ := mem_ownsC.mp (show a ∈ ownsC (w.cells g) from hb)
        obtain ⟨j, hj, ej⟩ := List.getElem_of_mem ho'
        obtain ⟨o, q⟩ := held (hB ⟨w, by rw [List.getElem?_eq_getElem hj, ej], hd⟩)
        rw [k4, h1 a ha] at q; cases q
  · intro i j c d x y hown hadr
    rcases cellAt_snoc.mp x with x | ⟨rfl, zx⟩
    · rcases cellAt_snoc.mp y with y | ⟨rfl, zy⟩
      · exact R.sep i j c d (hA x) (hA y) hown hadr
      · have hi := x.lt
        rcases hc d zy with ⟨_, h, _⟩ | ⟨j', y'⟩
        · obtain ⟨o, q⟩ := held (hA x)
          rw [hadr, q] at h; cases h
        · rcases R.sep i _ c d (hA x) (hB y') hown hadr with ⟨e, _⟩ | ⟨_, e⟩
          · omega
          · exact .inr ⟨by omega, e⟩
    · rcases hc c zx with ⟨_, h, _⟩ | ⟨i', x'⟩
      · rcases cellAt_snoc.mp y with y | ⟨rfl, zy⟩
        · obtain ⟨o, q⟩ := held (hA y)
          rw [hadr, h] at q; cases q
        · rcases hc d zy with ⟨h', _, _⟩ | ⟨j', y'⟩
          · exact .inl ⟨rfl, h'⟩
          · obtain ⟨o, q⟩ := held (hB y')
            rw [hadr, h] at q; cases q
      · rcases cellAt_snoc.mp y with y | ⟨rfl, zy⟩
        · have hj := y.lt
          rcases R.sep _ j c d (hB x') (hA y) hown hadr with ⟨e, _⟩ | ⟨_, e⟩
          · omega
          · exact (labB (hA y) e (by omega)).elim
        · rcases hc d zy with ⟨h', _, _⟩ | ⟨j', y'⟩
          · exact .inl ⟨rfl, h'⟩
          · rcases R.sep _ _ c d (hB x') (hB y') hown hadr with ⟨_, e⟩ | ⟨_, e⟩
            · exact .inl ⟨rfl, e⟩
            · exact (labB (hB y') e (by omega)).elim
  · exact fun a o h1 h2 => hH _ _ (R.frame a o h1 h2)
  · intro i c x
    rcases cellAt_snoc.mp x with x | ⟨rfl, zx⟩
    · exact R.gown i c (hA x)
    · rcases hc c zx with ⟨_, h, _⟩ | ⟨j, y⟩
      · exact .inr (.inr (R.fresh h))
      · exact R.gown _ c (hB y)
  · intro i c x hf
    rcases cellAt_snoc.mp x with x | ⟨rfl, zx⟩
    · exact R.gfrz i c (hA x) hf
    · rcases hc c zx with ⟨h, _, _⟩ | ⟨j, y⟩
      · rw [h] at hf; cases hf
      · exact R.gfrz _ c (hB y) hf
/-- an immediate temp -/
theorem Rel.imm (R : Rel g Γ n (A ++ B) σ H) (hn : n ≤ A.length) (v : V) : Rel g Γ n (A ++ [some (.im v)]) σ H :=
  R.subst hn (fun _ _ h => h) (fun c hc => by simp [T.cells] at hc) ⟨[], by simp, by simp, by simp [T.cells, ownsC]⟩
end
end Lin
end
section
namespace Lin
open PySem L2
/-! ### marks changed -/
def kBo (i : Nat) : Kd → Kd := fun k => if k = .own then .bor i else k
def kFz : Kd → Kd := fun k => if k = .own then .frz else k
section
variable {g : Gc} {Γ : Gh} {n : Nat} {A B : List (Option T)} {σ : L2.St} {H H' : Hp} {t : T}
theorem cells_kBo {i : Nat} {c : Cell} (h : c ∈ (t.mk (kBo i)).cells g) : ∃ d ∈ t.cells g, d.2 = c.2 ∧ ((d.1 = .own ∧ c.1 = .bor i) ∨ (d.1 ≠ .own ∧ c.1 = d.1)) := by
  rw [cells_mk] at h
  obtain ⟨d, hd, rfl⟩ := List.mem_map.mp h
  refine ⟨d, hd, rfl, ?_⟩
  by_cases e : d.1 = .own
  · exact .inl ⟨e, by simp [kBo, e]⟩
  · exact .inr ⟨e, by simp [kBo, e]⟩
theorem cells_kFz {c : Cell} (h : c ∈ (t.mk kFz).cells g) : ∃ d ∈ t.cells g, d.2 = c.2 ∧ ((d.1 = .own ∧ c.1 = .frz) ∨ (d.1 ≠ .own ∧ c.1 = d.1)) := by
  rw [cells_mk] at h
  obtain ⟨d, hd, rfl⟩ := List.mem_map.mp h
  refine ⟨d, hd, rfl, ?_⟩
  by_cases e : d.1 = .own
  · exact .inl ⟨e, by simp [kFz, e]⟩
  · exact .inr ⟨e, by simp [kFz, e]⟩
theorem owns_none {cs : List Cell} (h : ∀ c ∈ cs, c.1 ≠ .own) : ownsC cs = [] := by
  unfold ownsC
  rw [List.filterMap_eq_nil_iff]
  intro c hc
  rw [if_neg (h c hc)]
theorem kBo_ne {i : Nat} {c : Cell} (h : c ∈ (t.mk (kBo i)).cells g) : c.1 ≠ .own := by
  obtain ⟨d, _, _, ⟨_, e⟩ | ⟨e1, e2⟩⟩ := cells_kBo h
  · rw [e]; intro z; cases z
  · rw [e2]; exact e1
theorem kFz_ne {c : Cell} (h : c ∈ (t.mk kFz).cells g) : c.1 ≠ .own := by
  obtain ⟨d, _, _, ⟨_, e⟩ | ⟨e1, e2⟩⟩ := cells_kFz h
  · rw [e]; intro z; cases z
  · rw [e2]; exact e1
/-- a slot is read -/
theorem Rel.var (R : Rel g Γ n A σ H) {i : Nat} (hi : i < n) (e : A[i]? = some (some t)) : Rel g Γ n (A ++ [some (t.mk (kBo i))]) σ H := by
  have at_ : ∀ {c}, c ∈ t.cells g → CellAt g A i c := fun h => ⟨t, e, h⟩
  refine ⟨by simp; have := R.len; omega, R.slen, ?_, ?_, ?_, ?_, ?_, R.frame, ?_, ?_, R.pin⟩
  · intro j u hj q
    rw [List.getElem?_append_left (by have := R.len; omega)] at q
    exact R.val j u hj q
  · intro j c x
    rcases cellAt_snoc.mp x with x | ⟨rfl, x'⟩
    · exact R.hold j c x
    · obtain ⟨d, hd, e2, _⟩ := cells_kBo x'
      rw [← e2]
      exact R.hold i d (at_ hd)
  · intro j c r x k
    rcases cellAt_snoc.mp x with x | ⟨rfl, x'⟩
    · exact R.lab j c r x k
    · obtain ⟨d, hd, e2, ⟨_, e3⟩ | ⟨_, e3⟩⟩ := cells_kBo x'
      · rw [e3] at k; cases k; exact hi
      · exact R.lab i d r (at_ hd) (e3 ▸ k)
  · intro j u q
    by_cases hj : j < A.length
    · rw [List.getElem?_append_left hj] at q
      exact R.nd j u q
    · have : u = t.mk (kBo i) := by
        rw [List.getElem?_append_right (by omega)] at q
        cases hh : j - A.length with
        | zero => rw [hh] at q; simpa using q.symm
        | succ m => rw [hh] at q; simp at q
      subst this
      rw [owns_none (fun c hc => kBo_ne hc)]
      exact List.nodup_nil
  · intro j l c d x y hown hadr
    rcases cellAt_snoc.mp x with x | ⟨rfl, x'⟩
    · rcases cellAt_snoc.mp y with y | ⟨rfl, y'⟩
      · exact R.sep j l c d x y hown hadr
      · have hj := x.lt
        obtain ⟨d0, hd, e2, q⟩ := cells_kBo y'
        rcases R.sep j i c d0 x (at_ hd) hown (by rw [e2]; exact hadr) with ⟨rfl, e3⟩ | ⟨e4, e3⟩
        · rcases q with ⟨_, q⟩ | ⟨q1, _⟩
          · exact .inr ⟨by omega, q⟩
          · exact absurd e3 q1
        · rcases q with ⟨q1, _⟩ | ⟨_, q2⟩
          · rw [e3] at q1; cases q1
          · exact .inr ⟨by omega, q2.trans e3⟩
    · exact absurd hown (kBo_ne x')
  · intro j c x
    rcases cellAt_snoc.mp x with x | ⟨rfl, x'⟩
    · exact R.gown j c x
    · obtain ⟨d, hd, e2, ⟨e4, e3⟩ | ⟨e4, e3⟩⟩ := cells_kBo x'
      · rcases R.gown i d (at_ hd) with z | z | z
        · rw [e4] at z; cases z
        · rw [e4] at z; cases z
        · rw [← e2]; exact .inr (.inr z)
      · have := R.gown i d (at_ hd)
        rw [e3, ← e2]; exact this
  · intro j c x k
    rcases cellAt_snoc.mp x with x | ⟨rfl, x'⟩
    · exact R.gfrz j c x k
    · obtain ⟨d, hd, e2, ⟨e4, e3⟩ | ⟨e4, e3⟩⟩ := cells_kBo x'
      · rw [e3] at k; cases k
      · rw [← e2]; exact R.gfrz i d (at_ hd) (e3 ▸ k)
theorem snoc_get {j : Nat} {u : T} (q : (A ++ [some t])[j]? = some (some u)) : (j < A.length ∧ A[j]? = some (some u)) ∨ (j = A.length ∧ u = t) := by
  by_cases hj : j < A.length
  · rw [List.getElem?_append_left hj] at q
    exact .inl ⟨hj, q⟩
  · rw [List.getElem?_append_right (by omega)] at q
    cases hh : j - A.length with
    | zero => rw [hh] at q; exact .inr ⟨by omega, by simpa using q.symm⟩
    | succ m => rw [hh] at q; simp at q
/-- the last temp is frozen -/
theorem Rel.freeze (R : Rel g Γ n (A ++ [some t]) σ H) (hn : n ≤ A.length) : Rel g Γ n (A ++ [some (t.mk kFz)]) σ H := by
  have at_ : ∀ {c}, c ∈ t.cells g → CellAt g (A ++ [some t]) A.length c := fun h => cellAt_snoc.mpr (.inr ⟨rfl, h⟩)
  have inA : ∀ {j c}, CellAt g A j c → CellAt g (A ++ [some t]) j c := fun h => cellAt_left h
  refine ⟨by simp; omega, R.slen, ?_, ?_, ?_, ?_, ?_, R.frame, ?_, ?_, R.pin⟩
  · intro j u hj q
    rcases snoc_get q with ⟨_, q⟩ | ⟨rfl, _⟩
    · exact R.val j u hj (by rw [List.getElem?_append_left (by omega)]; exact q)
    · omega
  · intro j c x
    rcases cellAt_snoc.mp x with x | ⟨rfl, x'⟩
    · exact R.hold j c (inA x)
    · obtain ⟨d, hd, e2, _⟩ := cells_kFz x'
      rw [← e2]
      exact R.hold _ d (at_ hd)
  · intro j c r x k
    rcases cellAt_snoc.mp x with x | ⟨rfl, x'⟩
    · exact R.lab j c r (inA x) k
    · obtain ⟨d, hd, e2, ⟨_, e3⟩ | ⟨_, e3⟩⟩ := cells_kFz x'
      · rw [e3] at k; cases k
      · exact R.lab _ d r (at_ hd) (e3 ▸ k)
  · intro j u q
    rcases snoc_get q with ⟨hj, q⟩ | ⟨rfl, rfl⟩
    · exact R.nd j u (by rw [List.getElem?_append_left hj]; exact q)
    · rw [owns_none (fun c hc => kFz_ne hc)]
      exact List.nodup_nil
  · intro j l c d x y hown hadr
    rcases cellAt_snoc.mp x with x | ⟨rfl, x'⟩
    · rcases cellAt_snoc.mp y with y | ⟨rfl, y'⟩
      · exact R.sep j l c d (inA x) (inA y) hown hadr
      · have hj := x.lt
        obtain ⟨d0, hd, e2, q⟩ := cells_kFz y'
        rcases R.sep j _ c d0 (inA x) (at_ hd) hown (by rw [e2]; exact hadr) with ⟨z, e3⟩ | ⟨e4, e3⟩
        · omega
        · rcases q with ⟨q1, _⟩ | ⟨_, q2⟩
          · rw [e3] at q1; cases q1
          · exact .inr ⟨by omega, q2.trans e3⟩
    · exact absurd hown (kFz_ne x')
  · intro j c x
    rcases cellAt_snoc.mp x with x | ⟨rfl, x'⟩
    · exact R.gown j c (inA x)
    · obtain ⟨d, hd, e2, ⟨e4, e3⟩ | ⟨e4, e3⟩⟩ := cells_kFz x'
      · exact .inl e3
      · have := R.gown _ d (at_ hd)
        rw [e3, ← e2]; exact this
  · intro j c x k
    rcases cellAt_snoc.mp x with x | ⟨rfl, x'⟩
    · exact R.gfrz j c (inA x) k
    · obtain ⟨d, hd, e2, ⟨e4, e3⟩ | ⟨e4, e3⟩⟩ := cells_kFz x'
      · rcases R.gown _ d (at_ hd) with z | z | z
        · rw [e4] at z; cases z
        · rw [e4] at z; cases z
        · rw [← e2]; exact z.elim .inl (fun z => .inr (.inl z))
      · rw [← e2]; exact R.gfrz _ d (at_ hd) (e3 ▸ k)
/-- the last temp goes into a slot -/
theorem Rel.assign (R : Rel g Γ n (A ++ [some t]) σ H) (hn : n ≤ A.length) {i : Nat} (hi : i < n) : Rel g Γ n (A.set i (some t)) (σ.set i (some t.root)) H := by
  have at_ : ∀ {c}, c ∈ t.cells g → CellAt g (A ++ [some t]) A.length c := fun h => cellAt_snoc.mpr (.inr ⟨rfl, h⟩)
  have inA : ∀ {j c}, CellAt g A j c → CellAt g (A ++ [some t]) j c := fun h => cellAt_left h
  have hiA : i < A.length := by omega
  have key : ∀ {j c}, CellAt g (A.set i (some t)) j c → ∃ k, CellAt g (A ++ [some t]) k c ∧ ((k = A.length ∧ j = i) ∨ (k = j ∧ j ≠ i ∧ j < A.length)) := fun {j c} h => by
    rcases (cellAt_set hiA).mp h with ⟨rfl, u, e, hc⟩ | ⟨hj, x⟩
    · cases e
      exact ⟨_, at_ hc, .inl ⟨rfl, rfl⟩⟩
    · exact ⟨j, inA x, .inr ⟨rfl, hj, x.lt⟩⟩
  refine ⟨by simp; omega, by simp [R.slen], ?_, ?_, ?_, ?_, ?_, R.frame, ?_, ?_, R.pin⟩
  · intro j u hj q
    by_cases h : j = i
    · subst h
      rw [List.getElem?_set_self hiA] at q
      have : t = u := by simpa using q
      subst this
      rw [List.getElem?_set_self (by have := R.slen; omega)]
    · rw [List.getElem?_set_ne (Ne.symm h)] at q
      rw [List.getElem?_set_ne (Ne.symm h)]
      exact R.val j u hj (by rw [List.getElem?_append_left (by omega)]; exact q)
  · intro j c x
    obtain ⟨k, y, _⟩ := key x
    exact R.hold k c y
  · intro j c r x q
    obtain ⟨k, y, _⟩ := key x
    exact R.lab k c r y q
  · intro j u q
    by_cases h : j = i
    · subst h
      rw [List.getElem?_set_self hiA] at q
      have : t = u := by simpa using q
      subst this
      exact R.nd A.length t (by simp)
    · rw [List.getElem?_set_ne (Ne.symm h)] at q
      exact R.nd j u (by rw [List.getElem?_append_left (List.getElem?_eq_some_iff.mp q).1]; exact q)
  · intro j l c d x y hown hadr
    obtain ⟨k1, x, h1⟩ := key x
    obtain ⟨k2, y, h2⟩ := key y
    rcases R.sep k1 k2 c d x y hown hadr with ⟨e, q⟩ | ⟨e, q⟩
    · exact .inl ⟨by omega, q⟩
    · have hl := R.lab _ _ _ y q
      exact .inr ⟨by omega, by rcases h1 with ⟨h1, _⟩ | ⟨h1, _⟩; omega; rw [← h1]; exact q⟩
  · intro j c x
    obtain ⟨k, y, _⟩ := key x
    exact R.gown k c y
  · intro j c x q
    obtain ⟨k, y, _⟩ := key x
    exact R.gfrz k c y q
end
/-! ### slots that borrow from slot r are given up -/
def hasBor (r : Nat) (d : D) : Bool := d.kinds.contains (.bor r)
def killT (r : Nat) : Option T → Option T
  | some t => if hasBor r t.er then none else some t
  | none => none
def killD (r : Nat) : Option D → Option D
  | some d => if hasBor r d then none else some d
  | none => none
def kill (n r : Nat) (A : List (Option T)) : List (Option T) := (A.take n).map (killT r) ++ A.drop n
section
variable {g : Gc} {Γ : Gh} {n : Nat} {A B : List (Option T)} {σ : L2.St} {H H' : Hp} {t : T}
theorem hasBor_iff {r : Nat} : hasBor r t.er = true ↔ ∃ c ∈ t.cells g, c.1 = .bor r := by
  unfold hasBor
  rw [kinds_er g, List.contains_iff_mem, List.mem_map]
theorem killT_some {r : Nat} {o : Option T} (h : killT r o = some t) : o = some t ∧ hasBor r t.er = false := by
  cases o with
  | none => cases h
  | some u =>
    have h' : (if hasBor r u.er = true then none else some u) = some t := h
    by_cases e : hasBor r u.er = true
    · rw [if_pos e] at h'; cases h'
    · rw [if_neg e] at h'; cases h'
      exact ⟨rfl, by simpa using e⟩
theorem kill_get {r i : Nat} (h : (kill n r A)[i]? = some (some t)) : A[i]? = some (some t) ∧ (i < n → hasBor r t.er = false) := by
  unfold kill at h
  by_cases hi : i < (A.take n).length
  · rw [List.getElem?_append_left (by simpa using hi), List.getElem?_map] at h
    have hi' : i < n := by simp at hi; omega
    rw [List.getElem?_take_of_lt hi'] at h
    cases e : A[i]? with
    | none => rw [e] at h; cases h
    | some o =>
      rw [e] at h
      obtain ⟨rfl, q⟩ := killT_some (Option.some.inj h)
      exact ⟨rfl, fun _ => q⟩
  · have hi' : n ≤ i ∨ A.length ≤ i := by simp at hi; omega
    rw [List.getElem?_append_right (by simpa using hi)] at h
    rw [List.getElem?_drop] at h
    simp only [List.length_map, List.length_take] at h
    rcases hi' with hn | hA
    · by_cases hA : A.length ≤ n
      · rw [List.getElem?_eq_none (by omega)] at h; cases h
      · rw [show n + (i - min n A.length) = i by omega] at h
        exact ⟨h, fun z => by omega⟩
    · rw [List.getElem?_eq_none (by omega)] at h; cases h
theorem kill_length {r : Nat} : (kill n r A).length = A.length := by
  unfold kill
  simp
  omega
theorem Rel.kill (R : Rel g Γ n A σ H) (r : Nat) : Rel g Γ n (kill n r A) σ H :=
  R.less (by rw [kill_length]; exact R.len) fun i t e => (kill_get e).1
theorem kill_append {r : Nat} (h : n ≤ A.length) : Lin.kill n r (A ++ B) = Lin.kill n r A ++ B := by
  unfold Lin.kill
  rw [List.take_append_of_le_length h, List.drop_append_of_le_length h, List.append_assoc]
end
end Lin
end
section
namespace Lin
open PySem L2
/-! ### paths into a tree -/
def T.at : T → List Nat → Option T
  | t, [] => some t
  | .im _, _ :: _ => none
  | .nd _ _ _ _ ts, i :: p => match ts[i]? with
    | some u => u.at p
    | none => none
def T.put : T → List Nat → T → T
  | _, [], x => x
  | .im v, _ :: _, _ => .im v
  | .nd a k s dx ts, i :: p, x => match ts[i]? with
    | some u => .nd a k s dx (ts.set i (u.put p x))
    | none => .nd a k s dx ts
def D.at : D → List Nat → Option D
  | t, [] => some t
  | .im _, _ :: _ => none
  | .nd _ _ ts, i :: p => match ts[i]? with
    | some u => u.at p
    | none => none
def D.put : D → List Nat → D → D
  | _, [], x => x
  | .im v, _ :: _, _ => .im v
  | .nd k s ts, i :: p, x => match ts[i]? with
    | some u => .nd k s (ts.set i (u.put p x))
    | none => .nd k s ts
theorem er_at : ∀ (p : List Nat) (t : T), t.er.at p = (t.at p).map T.er
  | [], t => by cases t <;> rfl
  | i :: p, .im _ => rfl
  | i :: p, .nd a k s dx ts => by
    simp only [T.er, D.at, T.at, erL_eq, List.getElem?_map]
    cases ts[i]? with
    | none => rfl
    | some u => exact er_at p u
theorem er_put : ∀ (p : List Nat) (t x : T), (t.put p x).er = t.er.put p x.er
  | [], t, x => by cases t <;> rfl
  | i :: p, .im _, x => rfl
  | i :: p, .nd a k s dx ts, x => by
    simp only [T.er, D.put, T.put, erL_eq, List.getElem?_map]
    cases ts[i]? with
    | none => simp [T.er, erL_eq]
    | some u =>
      simp only [Option.map_some, T.er, erL_eq, List.map_set]
      rw [er_put p u x]
theorem root_put : ∀ (p : List Nat) (t x s : T), t.at p = some s → x.root = s.root → (t.put p x).root = t.root
  | [], t, x, s, h, e => by
    have : t = s := by simpa [T.at] using h
    subst this
    exact e
  | i :: p, .im _, x, s, h, e => rfl
  | i :: p, .nd a k sh dx ts, x, s, h, e => by
    simp only [T.put]
    cases ts[i]? with
    | none => rfl
    | some u => rfl
theorem cells_put (g : Gc) : ∀ (p : List Nat) (t x s : T), t.at p = some s → x.root = s.root → ∃ pre post, t.cells g = pre ++ s.cells g ++ post ∧ (t.put p x).cells g = pre ++ x.cells g ++ post
  | [], t, x, s, h, e => by
    have : t = s := by simpa [T.at] using h
    subst this
    exact ⟨[], [], by simp, by simp [T.put]⟩
  | i :: p, .im _, x, s, h, e => by simp [T.at] at h
  | i :: p, .nd a k sh dx ts, x, s, h, e => by
    simp only [T.at] at h
    cases q : ts[i]? with
    | none => rw [q] at h; cases h
    | some u =>
      rw [q] at h
      obtain ⟨pre, post, h1, h2⟩ := cells_put g p u x s h e
      obtain ⟨hi, hu⟩ := List.getElem?_eq_some_iff.mp q
      have e1 : ts = ts.take i ++ u :: ts.drop (i + 1) := by
        rw [← hu, List.getElem_cons_drop, List.take_append_drop]
      have e2 : ts.set i (u.put p x) = ts.take i ++ u.put p x :: ts.drop (i + 1) := List.set_eq_take_append_cons_drop.trans (by rw [if_pos hi])
      have er : (ts.set i (u.put p x)).map T.root = ts.map T.root := by
        rw [List.map_set, root_put p u x s h e]
        apply List.ext_getElem?
        intro j
        by_cases hj : j = i
        · subst hj
          rw [List.getElem?_set_self (by simpa using hi), List.getElem?_map, q]; rfl
        · rw [List.getElem?_set_ne (Ne.symm hj)]
      refine ⟨(k, a, ho g sh dx (ts.map T.root)) :: cellsL g (ts.take i) ++ pre, post ++ cellsL g (ts.drop (i + 1)), ?_, ?_⟩
      · rw [T.cells]
        conv => lhs; rw [e1, cellsL_append, cellsL, h1]
        rw [← e1]
        simp
      · simp only [T.put, q]
        rw [T.cells, er]
        rw [e2, cellsL_append, cellsL, h2]
        simp
section
variable {g : Gc} {Γ : Gh} {n : Nat} {A B U : List (Option T)} {σ : L2.St} {H H' : Hp} {t t' : T}
/-- slot r's tree is changed at its own address a; B are used up; U are the temps that come out (at most one) -/
theorem Rel.mut {r : Nat} {a : Addr} {U : Option T} (R : Rel g Γ n (A ++ B) σ H) (hn : n ≤ A.length) (e : A[r]? = some (some t)) (nb : ∀ i c, CellAt g (A ++ B) i c → c.1 ≠ .bor r)
    (ha : ∃ c ∈ t.cells g, c.1 = .own ∧ c.2.1 = a) (hroot : t'.root = t.root) (hH : ∀ b o, b ≠ a → H b = some o → H' b = some o)
    (hc : ∀ c, (c ∈ t'.cells g ∨ ∃ u, U = some u ∧ c ∈ u.cells g) → (c.2.1 = a ∧ c.1 = .own ∧ H' a = some c.2.2) ∨ (c.2.1 ≠ a ∧ (c ∈ t.cells g ∨ ∃ i, CellAt g B i c)) ∨ (c.1 = .own ∧ H c.2.1 = none ∧ H' c.2.1 = some c.2.2))
    (hnd : (ownsC (t'.cells g) ++ ownsO g U).Nodup) :
    Rel g Γ n (A.set r (some t') ++ [U]) σ H' := by
  obtain ⟨ca, hca, oca, eca⟩ := ha
  have hrA : r < A.length := (List.getElem?_eq_some_iff.mp e).1
  have atT : ∀ {c}, c ∈ t.cells g → CellAt g (A ++ B) r c := fun h => cellAt_left ⟨t, e, h⟩
  have atA : ∀ {i c}, CellAt g A i c → CellAt g (A ++ B) i c := fun h => cellAt_left h
  have atB : ∀ {i c}, CellAt g B i c → CellAt g (A ++ B) (A.length + i) c := fun x => cellAt_append.mpr (.inr ⟨by omega, by rw [Nat.add_sub_cancel_left]; exact x⟩)
  have hA' : (A.set r (some t')).length = A.length := by simp
  -- cells elsewhere are not at a
  have naA : ∀ {i c}, CellAt g A i c → i ≠ r → c.2.1 ≠ a := fun {i c} x hi q => by
    rcases R.sep r i ca c (atT hca) (atA x) oca (q.trans eca.symm) with ⟨z, _⟩ | ⟨_, z⟩
    · exact hi z.symm
    · exact nb i c (atA x) z
  have split : ∀ {i c}, CellAt g (A.set r (some t') ++ [U]) i c → (i ≠ r ∧ i < A.length ∧ CellAt g A i c ∧ c.2.1 ≠ a) ∨ ((i = r ∨ i = A.length) ∧
      ((i = r ∧ c ∈ t'.cells g) ∨ (i = A.length ∧ ∃ u, U = some u ∧ c ∈ u.cells g))) := fun {i c} x => by
    rcases cellAt_append.mp x with x | ⟨hi, u, eu, hu⟩
    · rcases (cellAt_set hrA).mp x with ⟨rfl, u, eu, hu⟩ | ⟨hi, x⟩
      · cases eu
        exact .inr ⟨.inl rfl, .inl ⟨rfl, hu⟩⟩
      · exact .inl ⟨hi, x.lt, x, naA x hi⟩
    · rw [hA'] at eu hi
      cases hh : i - A.length with
      | zero =>
        rw [hh] at eu
        have : i = A.length := by omega
        exact .inr ⟨.inr this, .inr ⟨this, u, by simpa using eu, hu⟩⟩
      | succ m => rw [hh] at eu; simp at eu
  have new : ∀ {i c}, ((i = r ∧ c ∈ t'.cells g) ∨ (i = A.length ∧ ∃ u, U = some u ∧ c ∈ u.cells g)) →
      (c.2.1 = a ∧ c.1 = .own ∧ H' a = some c.2.2) ∨ (c.2.1 ≠ a ∧ ∃ k, CellAt g (A ++ B) k c ∧ (k = r ∨ A.length ≤ k)) ∨ (c.1 = .own ∧ H c.2.1 = none ∧ H' c.2.1 = some c.2.2) := fun {i c} x => by
    rcases hc c (x.elim (fun z => .inl z.2) fun z => .inr z.2) with z | ⟨z, y⟩ | z
    · exact .inl z
    · refine .inr (.inl ⟨z, ?_⟩)
      rcases y with y | ⟨k, y⟩
      · exact ⟨r, atT y, .inl rfl⟩
      · exact ⟨_, atB y, .inr (by omega)⟩
    · exact .inr (.inr z)
  have labB : ∀ {i c r}, CellAt g (A ++ B) i c → c.1 = .bor r → A.length ≤ r → False := fun x e h => by have := R.lab _ _ _ x e; omega
  have hHa : ∀ {c : Cell}, c.2.1 ≠ a → ∀ {k}, CellAt g (A ++ B) k c → H' c.2.1 = some c.2.2 := fun {c} h {k} x => hH _ _ h (R.hold k _ x)
  refine ⟨by simp; omega, R.slen, ?_, ?_, ?_, ?_, ?_, ?_, ?_, ?_, R.pin⟩
  · intro i u hi q
    rw [List.getElem?_append_left (by rw [hA']; omega)] at q
    by_cases h : i = r
    · subst h
      rw [List.getElem?_set_self hrA] at q
      have : t' = u := by simpa using q
      subst this
      rw [hroot]
      exact R.val i t hi (by rw [List.getElem?_append_left (by omega)]; exact e)
    · rw [List.getElem?_set_ne (Ne.symm h)] at q
      exact R.val i u hi (by rw [List.getElem?_append_left (by omega)]; exact q)
  · intro i c x
    rcases split x with ⟨_, _, x, h⟩ | ⟨_, x⟩
    · exact hHa h (atA x)
    · rcases new x with ⟨z1, _, z3⟩ | ⟨z1, k, y, _⟩ | ⟨_, _, z⟩
      · rw [z1]; exact z3
      · exact hHa z1 y
      · exact z
  · intro i c r' x q
    rcases split x with ⟨_, _, x, h⟩ | ⟨_, x⟩
    · exact R.lab i c r' (atA x) q
    · rcases new x with ⟨_, z, _⟩ | ⟨z1, k, y, _⟩ | ⟨z, _⟩
      · rw [z] at q; cases q
      · exact R.lab k c r' y q
      · rw [z] at q; cases q
  · intro i u q
    obtain ⟨n1, n2, _⟩ := List.nodup_append.mp hnd
    by_cases h : i < A.length
    · rw [List.getElem?_append_left (by rw [hA']; exact h)] at q
      by_cases h : i = r
      · subst h
        rw [List.getElem?_set_self hrA] at q
        have : t' = u := by simpa using q
        subst this
        exact n1
      · rw [List.getElem?_set_ne (Ne.symm h)] at q
        exact R.nd i u (by rw [List.getElem?_append_left (by omega)]; exact q)
    · rw [List.getElem?_append_right (by rw [hA']; omega), hA'] at q
      cases hh : i - A.length with
      | zero =>
        rw [hh] at q
        have q : U = some u := by simpa using q
        rw [q] at n2
        exact n2
      | succ m => rw [hh] at q; simp at q
  · intro i j c d x y hown hadr
    rcases split x with ⟨hi, hi2, x, h⟩ | ⟨hi, x⟩
    · rcases split y with ⟨hj, hj2, y, h'⟩ | ⟨hj, y⟩
      · exact R.sep i j c d (atA x) (atA y) hown hadr
      · rcases new y with ⟨z, _⟩ | ⟨z1, k, y', hk⟩ | ⟨_, z, _⟩
        · exact absurd (hadr.symm.trans z) h
        · rcases R.sep i k c d (atA x) y' hown hadr with ⟨q, _⟩ | ⟨_, q⟩
          · omega
          · exact .inr ⟨by omega, q⟩
        · rw [hadr, R.hold i c (atA x)] at z; cases z
    · rcases split y with ⟨hj, hj2, y, h'⟩ | ⟨hj, y⟩
      · rcases new x with ⟨z, _⟩ | ⟨z1, k, x', hk⟩ | ⟨_, z, _⟩
        · exact absurd (hadr.trans z) h'
        · rcases R.sep k j c d x' (atA y) hown hadr with ⟨q, _⟩ | ⟨_, q⟩
          · omega
          · rcases hk with hk | hk
            · exact absurd (hk ▸ q) (nb j d (atA y))
            · exact (labB (atA y) q hk).elim
        · rw [← hadr, R.hold j d (atA y)] at z; cases z
      · -- both are new: own ones stand in one list
        have dis : ∀ {c d : Cell}, c ∈ t'.cells g → (∃ u, U = some u ∧ d ∈ u.cells g) → c.1 = .own → d.1 = .own → d.2.1 = c.2.1 → False := fun {c d} h1 ⟨u, h2, h3⟩ o1 o2 q => by
          obtain ⟨_, _, n3⟩ := List.nodup_append.mp hnd
          exact n3 _ (mem_ownsC.mpr ⟨c, h1, o1, rfl⟩) _ (by rw [h2]; exact mem_ownsC.mpr ⟨d, h3, o2, rfl⟩) q.symm
        have downs : d.1 = .own := by
          rcases new x with ⟨z, _⟩ | ⟨z1, k, x', hk⟩ | ⟨_, z, _⟩
          · rcases new y with ⟨_, z', _⟩ | ⟨z1, k, y', hk⟩ | ⟨z', _⟩
            · exact z'
            · exact absurd (hadr.trans z) z1
            · exact z'
          · rcases new y with ⟨_, z', _⟩ | ⟨z1', k', y', hk'⟩ | ⟨z', _⟩
            · exact z'
            · rcases R.sep k k' c d x' y' hown hadr with ⟨_, q⟩ | ⟨_, q⟩
              · exact q
              · rcases hk with hk | hk
                · exact absurd (hk ▸ q) (nb k' d y')
                · exact (labB y' q hk).elim
            · exact z'
          · rcases new y with ⟨_, z', _⟩ | ⟨z1', k', y', hk'⟩ | ⟨z', _⟩
            · exact z'
            · rw [← hadr, R.hold k' d y'] at z; cases z
            · exact z'
        refine .inl ⟨?_, downs⟩
        rcases x with ⟨ex, x2⟩ | ⟨ex, x2⟩
        · rcases y with ⟨ey, y2⟩ | ⟨ey, y2⟩
          · rw [ex, ey]
          · exact (dis x2 y2 hown downs hadr).elim
        · rcases y with ⟨ey, y2⟩ | ⟨ey, y2⟩
          · exact (dis y2 x2 downs hown hadr.symm).elim
          · rw [ex, ey]
  · intro b o h1 h2
    by_cases hb : b = a
    · subst hb
      rcases R.gown r ca (atT hca) with z | z | z | z
      · rw [oca] at z; cases z
      · rw [oca] at z; cases z
      · rw [eca] at z; exact absurd z h2
      · rw [eca, h1] at z; cases z
    · exact hH b o hb (R.frame b o h1 h2)
  · intro i c x
    rcases split x with ⟨_, _, x, h⟩ | ⟨_, x⟩
    · exact R.gown i c (atA x)
    · rcases new x with ⟨z, _⟩ | ⟨z1, k, y, _⟩ | ⟨_, z, _⟩
      · have := R.gown r ca (atT hca)
        rw [oca, eca, ← z] at this
        rcases this with q | q | q
        · cases q
        · cases q
        · exact .inr (.inr q)
      · exact R.gown k c y
      · exact .inr (.inr (R.fresh z))
  · intro i c x q
    rcases split x with ⟨_, _, x, h⟩ | ⟨_, x⟩
    · exact R.gfrz i c (atA x) q
    · rcases new x with ⟨_, z, _⟩ | ⟨z1, k, y, _⟩ | ⟨z, _⟩
      · rw [z] at q; cases q
      · exact R.gfrz k c y q
      · rw [z] at q; cases q
/-- a slot's tree is moved out (nothing borrows from it) -/
theorem Rel.move {r : Nat} (R : Rel g Γ n A σ H) (hr : r < n) (e : A[r]? = some (some t)) (nb : ∀ i c, CellAt g A i c → c.1 ≠ .bor r) : Rel g Γ n (A.set r none ++ [some t]) σ H := by
  have hrA : r < A.length := by have := R.len; omega
  have key : ∀ {i c}, CellAt g (A.set r none ++ [some t]) i c → ∃ k, CellAt g A k c ∧ ((k = r ∧ i = A.length) ∨ (k = i ∧ i ≠ r ∧ i < A.length)) := fun {i c} x => by
    rcases cellAt_snoc.mp x with x | ⟨ei, x2⟩
    · rcases (cellAt_set hrA).mp x with ⟨_, u, q, _⟩ | ⟨hi, x⟩
      · cases q
      · exact ⟨i, x, .inr ⟨rfl, hi, x.lt⟩⟩
    · exact ⟨r, ⟨t, e, x2⟩, .inl ⟨rfl, by simpa using ei⟩⟩
  refine ⟨by simp; have := R.len; omega, R.slen, ?_, fun i c x => ?_, fun i c r' x q => ?_, ?_, ?_, R.frame, fun i c x => ?_, fun i c x q => ?_, R.pin⟩
  · intro i u hi q
    have hiA : i < A.length := by have := R.len; omega
    rw [List.getElem?_append_left (by simpa using hiA)] at q
    by_cases h : i = r
    · subst h
      rw [List.getElem?_set_self hrA] at q; cases q
    · rw [List.getElem?_set_ne (Ne.symm h)] at q
      exact R.val i u hi q
  · obtain ⟨k, y, _⟩ := key x
    exact R.hold k c y
  · obtain ⟨k, y, _⟩ := key x
    exact R.lab k c r' y q
  · intro i u q
    rcases snoc_get q with ⟨hi, q⟩ | ⟨rfl, rfl⟩
    · by_cases h : i = r
      · subst h
        rw [List.getElem?_set_self hrA] at q; cases q
      · rw [List.getElem?_set_ne (Ne.symm h)] at q
        exact R.nd i u q
    · exact R.nd r u e
  · intro i j c d x y hown hadr
    obtain ⟨k1, x, h1⟩ := key x
    obtain ⟨k2, y, h2⟩ := key y
    rcases R.sep k1 k2 c d x y hown hadr with ⟨q, z⟩ | ⟨q, z⟩
    · exact .inl ⟨by omega, z⟩
    · refine .inr ⟨by omega, ?_⟩
      rcases h1 with ⟨h0, h1⟩ | ⟨h1, _⟩
      · exact absurd (h0 ▸ z) (nb k2 d y)
      · rw [← h1]; exact z
  · obtain ⟨k, y, _⟩ := key x
    exact R.gown k c y
  · obtain ⟨k, y, _⟩ := key x
    exact R.gfrz k c y q
end
end Lin
end
section
namespace Lin
open PySem L2
/-! ### the evaluator's results -/
abbrev Sg := List (Option D)
inductive R (α : Type) where
  | ok (a : α) (S : Sg)
  | exc (c : Nat) (d : D) (S : Sg)
  | bad
def R.bind {α β : Type} (x : R α) (f : α → Sg → R β) : R β := match x with
  | .ok a S => f a S
  | .exc c d S => .exc c d S
  | .bad => .bad
/-- a pure step that may fail -/
def R.lift {α : Type} (o : Option α) (S : Sg) : R α := match o with
  | some a => .ok a S
  | none => .bad
def ers (n : Nat) (A : List (Option T)) : Sg := (A.take n).map (Option.map T.er)
def cleanD (M : List Nat) (d : D) : Bool := M.all fun r => !hasBor r d
def dictOf : T → Option Addr
  | .im _ => none
  | .nd a _ _ _ _ => some a
section
variable (g : Gc) (n : Nat)
def Clean (M : List Nat) (A : List (Option T)) : Prop := ∀ r ∈ M, ∀ i c, n ≤ i → CellAt g A i c → c.1 ≠ .bor r
/-- the slots have changed (in their trees), the temps have not -/
structure Next (A A' : List (Option T)) : Prop where
  len : A'.length = A.length
  tmp : A'.drop n = A.drop n
/-- .. and of the slots those alone that M names (or a slot has been given up) -/
structure NextM (M : List Nat) (A A' : List (Option T)) : Prop extends Next n A A' where
  slot : ∀ i, i < n → i ∉ M → A'[i]? = A[i]? ∨ A'[i]? = some none
/-- .. and the names' values but M's are as they were -/
structure NextS (M : List Nat) (A A' : List (Option T)) (σ σ' : L2.St) : Prop extends Next n A A' where
  keep : ∀ j : Nat, n + j ∉ M → σ'[j]? = σ[j]?
variable (W : WX)
def PostX (Γ : Gh) (A : List (Option T)) (c : Nat) (d : D) (S : Sg) (σ : L2.St) : Prop :=
  ∀ A' t H', Rel g Γ n (A' ++ [some t]) σ H' → Next n A A' → ers n A' = S → t.er = d → W (.ref (g.cl c)) (dictOf t) σ H'
def PostE (M : List Nat) (Γ : Gh) (A : List (Option T)) (σ : L2.St) (Q : VK) : R D → Prop
  | .ok d S => ∀ A' t H', Rel g Γ n (A' ++ [some t]) σ H' → NextM n M A A' → ers n A' = S → t.er = d → Q t.root H'
  | .exc c d S => PostX g n W Γ A c d S σ
  | .bad => False
def PostA (M : List Nat) (Γ : Gh) (A : List (Option T)) (σ : L2.St) (Q : List V → Hp → Prop) : R (List D) → Prop
  | .ok ds S => ∀ A' (ts : List T) H', Rel g Γ n (A' ++ ts.map some) σ H' → NextM n M A A' → ers n A' = S → ts.map T.er = ds → Q (ts.map T.root) H'
  | .exc c d S => PostX g n W Γ A c d S σ
  | .bad => False
def PostT (M : List Nat) (Γ : Gh) (A : List (Option T)) (σ : L2.St) (Q : Bool → Hp → Prop) : R Bool → Prop
  | .ok b S => ∀ A' H', Rel g Γ n A' σ H' → NextM n M A A' → ers n A' = S → Q b H'
  | .exc c d S => PostX g n W Γ A c d S σ
  | .bad => False
inductive Fl where
  | nx | brk | cnt | ret (d : D)
def PostXS (M : List Nat) (Γ : Gh) (A : List (Option T)) (σ : L2.St) (c : Nat) (d : D) (S : Sg) : Prop :=
  ∀ A' t σ' H', Rel g Γ n (A' ++ [some t]) σ' H' → NextS n M A A' σ σ' → ers n A' = S → t.er = d → W (.ref (g.cl c)) (dictOf t) σ' H'
def PostS (M : List Nat) (Γ : Gh) (A : List (Option T)) (σ : L2.St) (D : Ends) : R Fl → Prop
  | .ok .nx S => ∀ A' σ' H', Rel g Γ n A' σ' H' → NextS n M A A' σ σ' → ers n A' = S → D.nx σ' H'
  | .ok .brk S => ∀ A' σ' H', Rel g Γ n A' σ' H' → NextS n M A A' σ σ' → ers n A' = S → D.bk σ' H'
  | .ok .cnt S => ∀ A' σ' H', Rel g Γ n A' σ' H' → NextS n M A A' σ σ' → ers n A' = S → D.ct σ' H'
  | .ok (.ret d) S => ∀ A' t σ' H', Rel g Γ n (A' ++ [some t]) σ' H' → NextS n M A A' σ σ' → ers n A' = S → t.er = d → D.rt t.root H'
  | .exc c d S => PostXS g n W M Γ A σ c d S
  | .bad => False
def MeanE (M : List Nat) (te : TE) (f : Sg → R D) : Prop := ∀ Γ A σ H Q, Rel g Γ n A σ H → Clean g n M A → PostE g n W M Γ A σ Q (f (ers n A)) → te σ H Q
def MeanA (M : List Nat) (ta : TA) (f : Sg → R (List D)) : Prop := ∀ Γ A σ H Q, Rel g Γ n A σ H → Clean g n M A → PostA g n W M Γ A σ Q (f (ers n A)) → ta σ H Q
def MeanT (M : List Nat) (tt : TT) (f : Sg → R Bool) : Prop := ∀ Γ A σ H Q, Rel g Γ n A σ H → Clean g n M A → PostT g n W M Γ A σ Q (f (ers n A)) → tt σ H Q
def MeanS (M : List Nat) (ts : TS) (f : Sg → R Fl) : Prop := ∀ Γ A σ H Dn, Rel g Γ n A σ H → Clean g n M A → PostS g n W M Γ A σ Dn (f (ers n A)) → ts Dn σ H
end
section
variable {g : Gc} {n : Nat} {W : WX} {Γ : Gh} {A A' A'' B : List (Option T)} {σ : L2.St} {H H' : Hp} {t : T} {M M1 M2 : List Nat}
theorem Next.refl (A : List (Option T)) : Next n A A := ⟨rfl, rfl⟩
theorem Next.trans (a : Next n A A') (b : Next n A' A'') : Next n A A'' := ⟨b.len.trans a.len, b.tmp.trans a.tmp⟩
theorem NextM.refl (M : List Nat) (A : List (Option T)) : NextM n M A A := ⟨.refl _, fun _ _ _ => .inl rfl⟩
theorem NextM.trans (a : NextM n M1 A A') (b : NextM n M2 A' A'') : NextM n (M1 ++ M2) A A'' := ⟨a.toNext.trans b.toNext, fun i hi hm => by
  rw [List.mem_append, not_or] at hm
  rcases b.slot i hi hm.2 with e | e
  · rw [e]; exact a.slot i hi hm.1
  · exact .inr e⟩
theorem NextM.mono (a : NextM n M1 A A') (h : ∀ r ∈ M1, r ∈ M) : NextM n M A A' := ⟨a.toNext, fun i hi hm => a.slot i hi fun z => hm (h i z)⟩
theorem Next.toS (a : Next n A A') (M : List Nat) (σ : L2.St) : NextS n M A A' σ σ := ⟨a, fun _ _ => rfl⟩
theorem NextS.refl (M : List Nat) (A : List (Option T)) (σ : L2.St) : NextS n M A A σ σ := ⟨.refl _, fun _ _ => rfl⟩
theorem NextS.trans {σ1 σ2 : L2.St} (a : NextS n M1 A A' σ σ1) (b : NextS n M2 A' A'' σ1 σ2) : NextS n (M1 ++ M2) A A'' σ σ2 := ⟨a.toNext.trans b.toNext, fun j hj => by
  rw [List.mem_append, not_or] at hj
  rw [b.keep j hj.2, a.keep j hj.1]⟩
theorem NextS.mono {σ1 : L2.St} (a : NextS n M1 A A' σ σ1) (h : ∀ r ∈ M1, r ∈ M) : NextS n M A A' σ σ1 := ⟨a.toNext, fun j hj => a.keep j fun z => hj (h _ z)⟩
theorem Next.left (a : Next n (A ++ B) A') (h : n ≤ A.length) : Next n A (A'.take A.length) ∧ A' = A'.take A.length ++ B := by
  have hl := a.len
  have ht := a.tmp
  rw [List.length_append] at hl
  have e : A' = A'.take A.length ++ A'.drop A.length := (List.take_append_drop _ _).symm
  have e2 : A'.drop A.length = B := by
    have := congrArg (List.drop (A.length - n)) ht
    rw [List.drop_drop, List.drop_drop, show n + (A.length - n) = A.length by omega, List.drop_left] at this
    exact this
  refine ⟨⟨by rw [List.length_take]; omega, ?_⟩, by rw [← e2]; exact e⟩
  have h3 : (A'.take A.length).drop n = (A'.drop n).take (A.length - n) := by rw [List.drop_take]
  rw [h3, ht, List.drop_append_of_le_length h, List.take_append_of_le_length (by rw [List.length_drop]; omega)]
  apply List.take_of_length_le
  rw [List.length_drop]; omega
theorem NextM.left (a : NextM n M (A ++ B) A') (h : n ≤ A.length) : NextM n M A (A'.take A.length) ∧ A' = A'.take A.length ++ B := by
  obtain ⟨y, z⟩ := a.toNext.left h
  refine ⟨⟨y, fun i hi hm => ?_⟩, z⟩
  have q := a.slot i hi hm
  rw [List.getElem?_append_left (by omega)] at q
  rw [List.getElem?_take_of_lt (by omega)]
  exact q
theorem Next.app (a : Next n A A') (h : n ≤ A.length) (B : List (Option T)) : Next n (A ++ B) (A' ++ B) :=
  ⟨by rw [List.length_append, List.length_append, a.len], by rw [List.drop_append_of_le_length h, List.drop_append_of_le_length (by rw [a.len]; exact h), a.tmp]⟩
theorem ers_append (h : n ≤ A.length) (B : List (Option T)) : ers n (A ++ B) = ers n A := by
  unfold ers
  rw [List.take_append_of_le_length h]
theorem ers_get {i : Nat} (hi : i < n) : (ers n A)[i]? = A[i]?.map (Option.map T.er) := by
  unfold ers
  rw [List.getElem?_map, List.getElem?_take_of_lt hi]
theorem ers_some {i : Nat} {d : D} (h : (ers n A)[i]? = some (some d)) : ∃ t, A[i]? = some (some t) ∧ t.er = d ∧ i < n := by
  have hi : i < n := by
    by_cases hi : i < n
    · exact hi
    · rw [List.getElem?_eq_none (by unfold ers; simp; omega)] at h; cases h
  rw [ers_get hi] at h
  cases e : A[i]? with
  | none => rw [e] at h; cases h
  | some o =>
    cases o with
    | none => rw [e] at h; cases h
    | some t => rw [e] at h; exact ⟨t, rfl, by simpa using h, hi⟩
theorem ers_length (h : n ≤ A.length) : (ers n A).length = n := by
  unfold ers
  simp; omega
theorem ers_set {i : Nat} (hi : i < n) (o : Option T) : ers n (A.set i o) = (ers n A).set i (o.map T.er) := by
  unfold ers
  rw [List.take_set, List.map_set]
theorem ers_kill {r : Nat} (h : n ≤ A.length) : ers n (kill n r A) = (ers n A).map (killD r) := by
  unfold ers kill
  rw [List.take_append_of_le_length (by simp; omega), List.take_of_length_le (by simp; omega), List.map_map, List.map_map]
  apply List.map_congr_left
  intro o _
  cases o with
  | none => rfl
  | some t =>
    show Option.map T.er (if hasBor r t.er then none else some t) = (if hasBor r t.er then none else some t.er)
    by_cases e : hasBor r t.er = true
    · rw [if_pos e, if_pos e]; rfl
    · rw [if_neg e, if_neg e]; rfl
theorem Clean.mono (c : Clean g n M A) (h : ∀ r ∈ M1, r ∈ M) : Clean g n M1 A := fun r hr => c r (h r hr)
theorem Clean.left (c : Clean g n (M1 ++ M2) A) : Clean g n M1 A := c.mono fun r h => List.mem_append_left _ h
theorem Clean.right (c : Clean g n (M1 ++ M2) A) : Clean g n M2 A := c.mono fun r h => List.mem_append_right _ h
theorem Clean.next (c : Clean g n M A) (x : Next n A A') (h : n ≤ A.length) : Clean g n M A' := fun r hr i cl hi ⟨t, e, hc⟩ => by
  refine c r hr i cl hi ⟨t, ?_, hc⟩
  have : A'[i]? = A[i]? := by
    have e1 : A'[i]? = (A'.drop n)[i - n]? := by rw [List.getElem?_drop]; congr 1; omega
    have e2 : A[i]? = (A.drop n)[i - n]? := by rw [List.getElem?_drop]; congr 1; omega
    rw [e1, e2, x.tmp]
  rw [← this]; exact e
theorem cleanD_iff : cleanD M t.er = true ↔ ∀ r ∈ M, ∀ c ∈ t.cells g, c.1 ≠ .bor r := by
  unfold cleanD
  rw [List.all_eq_true]
  constructor
  · intro h r hr c hc e
    have q := h r hr
    have : hasBor r t.er = true := (hasBor_iff (g := g)).mpr ⟨c, hc, e⟩
    rw [this] at q; cases q
  · intro h r hr
    cases q : hasBor r t.er with
    | false => rfl
    | true =>
      obtain ⟨c, hc, e⟩ := (hasBor_iff (g := g)).mp q
      exact absurd e (h r hr c hc)
theorem Clean.snoc (c : Clean g n M A) (h : cleanD M t.er = true) : Clean g n M (A ++ [some t]) := fun r hr i cl hi x => by
  rcases cellAt_snoc.mp x with x | ⟨_, x⟩
  · exact c r hr i cl hi x
  · exact cleanD_iff.mp h r hr cl x
theorem Clean.nil : Clean g n [] A := fun r hr => nomatch hr
theorem Rel.nA (R : Rel g Γ n A σ H) : n ≤ A.length := R.len
/-- what is wanted behind the first part of a thing -/
theorem PostX.of {c : Nat} {d : D} {S : Sg} (h : PostX g n W Γ A c d S σ) (x : Next n A A') : PostX g n W Γ A' c d S σ := fun A2 t H' R y => h A2 t H' R (x.trans y)
end
/-! ### expressions -/
/-- e is read as te, which means f; M: the slots that it may change -/
structure SdE (X : Cx) (g : Gc) (W : WX) (M : List Nat) (e : Expr) (te : TE) (f : Sg → R D) : Prop where
  pe : PE X e te
  mn : MeanE g X.N.length W M te f
structure SdT (X : Cx) (g : Gc) (W : WX) (M : List Nat) (e : Expr) (tt : TT) (f : Sg → R Bool) : Prop where
  pt : PT X e tt
  mn : MeanT g X.N.length W M tt f
structure SdA (X : Cx) (g : Gc) (W : WX) (M : List Nat) (es : List Expr) (ta : TA) (f : Sg → R (List D)) : Prop where
  pa : PA X es ta
  mn : MeanA g X.N.length W M ta f
structure SdS (X : Cx) (g : Gc) (W : WX) (M : List Nat) (st : Stmt) (ts : TS) (f : Sg → R Fl) : Prop where
  ps : PS X st ts
  mn : MeanS g X.N.length W M ts f
structure SdSs (X : Cx) (g : Gc) (W : WX) (M : List Nat) (st : List Stmt) (ts : TS) (f : Sg → R Fl) : Prop where
  ps : PSs X st ts
  mn : MeanS g X.N.length W M ts f
def cVar (i : Nat) : Sg → R D := fun S => match S[i]? with
  | some (some d) => .ok (d.mk (kBo i)) S
  | _ => .bad
def cMv (i : Nat) : Sg → R D := fun S => match S[i]? with
  | some (some d) => if hasBor i d then .bad else .ok d ((S.map (killD i)).set i none)
  | _ => .bad
def cLit (v : V) : Sg → R D := fun S => .ok (.im v) S
section
variable {g : Gc} {n : Nat} {W : WX} {Γ : Gh} {A A' A'' B : List (Option T)} {σ : L2.St} {H H' : Hp} {t : T} {M M1 M2 : List Nat}
theorem kill_slot {r j : Nat} (h : n ≤ A.length) (hj : j < n) : (kill n r A)[j]? = A[j]? ∨ (kill n r A)[j]? = some none := by
  unfold kill
  rw [List.getElem?_append_left (by simp; omega), List.getElem?_map, List.getElem?_take_of_lt hj]
  cases e : A[j]? with
  | none => exact absurd (List.getElem?_eq_none_iff.mp e) (by omega)
  | some o =>
    cases o with
    | none => exact .inr rfl
    | some t =>
      show some (if hasBor r t.er then none else some t) = _ ∨ _
      by_cases q : hasBor r t.er = true
      · rw [if_pos q]; exact .inr (by show some (if hasBor r t.er then none else some t) = _; rw [if_pos q])
      · rw [if_neg q]; exact .inl rfl
theorem mean_var (i : Nat) : MeanE g n W [] (tVar i) (cVar i) := by
  intro Γ A σ H Q R _ h
  unfold cVar at h
  split at h
  · rename_i d e
    obtain ⟨t, e1, e2, hi⟩ := ers_some e
    exact ⟨_, R.val i t hi e1, by
      have := h A (t.mk (kBo i)) H (R.var hi e1) (.refl _ _) rfl (by rw [er_mk, e2])
      rw [root_mk] at this
      exact this⟩
  · exact h.elim
theorem mean_mv (i : Nat) : MeanE g n W [i] (tVar i) (cMv i) := by
  intro Γ A σ H Q R cl h
  unfold cMv at h
  split at h
  · rename_i d e
    obtain ⟨t, e1, e2, hi⟩ := ers_some e
    by_cases hb : hasBor i d = true
    · rw [if_pos hb] at h; exact h.elim
    · rw [if_neg hb] at h
      refine ⟨_, R.val i t hi e1, ?_⟩
      have hb' : hasBor i t.er = false := by rw [e2]; simpa using hb
      have e3 : (kill n i A)[i]? = some (some t) := by
        unfold kill
        rw [List.getElem?_append_left (by simp; have := R.len; omega), List.getElem?_map, List.getElem?_take_of_lt hi, e1]
        show some (if hasBor i t.er then none else some t) = _
        rw [hb']; rfl
      have nb : ∀ j c, CellAt g (kill n i A) j c → c.1 ≠ .bor i := fun j c ⟨u, eu, hc⟩ q => by
        obtain ⟨k1, k2⟩ := kill_get eu
        by_cases hj : j < n
        · have := k2 hj
          rw [(hasBor_iff (g := g)).mpr ⟨c, hc, q⟩] at this; cases this
        · exact cl i (by simp) j c (by omega) ⟨u, k1, hc⟩ q
      have R2 := (R.kill i).move hi e3 nb
      refine h ((kill n i A).set i none) t H R2 ⟨⟨by simp [kill_length], ?_⟩, fun j hj hm => ?_⟩ ?_ e2
      rotate_left
      · have : j ≠ i := by simpa using hm
        rw [List.getElem?_set_ne (Ne.symm this)]
        exact kill_slot R.len hj
      rotate_right
      · rw [List.drop_set_of_lt hi]
        unfold kill
        rw [List.drop_append_of_le_length (by simp; have := R.len; omega), List.drop_of_length_le (by simp; omega), List.nil_append]
      · rw [ers_set hi, ers_kill R.len]; rfl
  · exact h.elim
theorem mean_lit (v : V) : MeanE g n W [] (tC v) (cLit v) := by
  intro Γ A σ H Q R _ h
  exact h A (.im v) H ((show Rel g Γ n (A ++ []) σ H by rw [List.append_nil]; exact R).imm R.len v) (.refl _ _) rfl rfl
end
/-! ### two parts, one after the other -/
def cTwo (M2 : List Nat) (fa fb : Sg → R D) (op : D → D → Option D) : Sg → R D := fun S => (fa S).bind fun da S1 => if cleanD M2 da then (fb S1).bind fun db S2 => R.lift (op da db) S2 else .bad
/-- an operation on two temps -/
def OpM (g : Gc) (n : Nat) (r : R2) (op : D → D → Option D) : Prop := ∀ Γ A ta tb σ H Q d, Rel g Γ n (A ++ [some ta] ++ [some tb]) σ H → n ≤ A.length → op ta.er tb.er = some d →
  (∀ t H', Rel g Γ n (A ++ [some t]) σ H' → t.er = d → Q t.root H') → r ta.root tb.root H Q
section
variable {g : Gc} {n : Nat} {W : WX} {Γ : Gh} {A A' A'' B : List (Option T)} {σ : L2.St} {H H' : Hp} {t : T} {M M1 M2 : List Nat}
theorem mean_two {ta tb : TE} {fa fb : Sg → R D} {r : R2} {op : D → D → Option D} (ha : MeanE g n W M1 ta fa) (hb : MeanE g n W M2 tb fb) (ho : OpM g n r op) : MeanE g n W (M1 ++ M2) (tOp r ta tb) (cTwo M2 fa fb op) := by
  intro Γ A σ H Q R cl h
  refine ha Γ A σ H _ R cl.left ?_
  unfold cTwo at h
  cases ea : fa (ers n A) with
  | bad => rw [ea] at h; exact h.elim
  | exc c d S => rw [ea] at h; exact h
  | ok da S1 =>
    rw [ea] at h
    dsimp only [Lin.R.bind] at h
    intro A1 t1 H1 R1 x1 e1 d1
    by_cases hc : cleanD M2 da = true
    · rw [if_pos hc] at h
      have n1 : n ≤ A1.length := by rw [x1.len]; exact R.len
      refine hb Γ (A1 ++ [some t1]) σ H1 _ R1 ((cl.right.next x1.toNext R.len).snoc (by rw [d1]; exact hc)) ?_
      rw [ers_append n1, e1]
      cases eb : fb S1 with
      | bad => rw [eb] at h; exact h.elim
      | exc c d S =>
        rw [eb] at h
        intro A2 t2 H2 R2 x2 e2 d2
        obtain ⟨y, z⟩ := x2.left n1
        have n3 : n ≤ (A2.take A1.length).length := by rw [y.len]; exact n1
        refine h (A2.take A1.length) t2 H2 ?_ (x1.toNext.trans y) ?_ d2
        · rw [z, List.append_assoc] at R2
          refine R2.subst (t := t2) n3 (fun _ _ q => q) (fun c hc => .inr ⟨1, ⟨t2, by simp, hc⟩⟩) ⟨[], by simp, by simp, ?_⟩
          simp [ownsO]
        · rw [z, ers_append n3] at e2; exact e2
      | ok db S2 =>
        rw [eb] at h
        dsimp only [Lin.R.bind] at h
        intro A2 t2 H2 R2 x2 e2 d2
        obtain ⟨y, z⟩ := x2.left n1
        have n3 : n ≤ (A2.take A1.length).length := by rw [y.len]; exact n1
        cases eo : op da db with
        | none => rw [eo] at h; exact h.elim
        | some d =>
          rw [eo] at h
          rw [z] at R2
          refine ho Γ (A2.take A1.length) t1 t2 σ H2 Q d R2 n3 (by rw [d1, d2]; exact eo) fun t H' R' et => ?_
          exact h _ t H' R' (x1.trans y) (by rw [z, ers_append n3] at e2; exact e2) et
    · rw [if_neg hc] at h; exact h.elim
end
end Lin
end
section
namespace Lin
open PySem L2
/-! ### one part; several parts -/
def cOne (fa : Sg → R D) (op : D → Option D) : Sg → R D := fun S => (fa S).bind fun da S1 => R.lift (op da) S1
def cTest (fa : Sg → R D) (op : D → Option Bool) : Sg → R Bool := fun S => (fa S).bind fun da S1 => R.lift (op da) S1
def cNil : Sg → R (List D) := fun S => .ok [] S
def cCons (M2 : List Nat) (fa : Sg → R D) (fr : Sg → R (List D)) : Sg → R (List D) := fun S => (fa S).bind fun da S1 => if cleanD M2 da then (fr S1).bind fun ds S2 => .ok (da :: ds) S2 else .bad
def cMany (fr : Sg → R (List D)) (op : List D → Option D) : Sg → R D := fun S => (fr S).bind fun ds S1 => R.lift (op ds) S1
def UnM (g : Gc) (n : Nat) (r : V → Hp → VK → Prop) (op : D → Option D) : Prop := ∀ Γ A ta σ H Q d, Rel g Γ n (A ++ [some ta]) σ H → n ≤ A.length → op ta.er = some d →
  (∀ t H', Rel g Γ n (A ++ [some t]) σ H' → t.er = d → Q t.root H') → r ta.root H Q
def TsM (g : Gc) (n : Nat) (r : V → Hp → (Bool → Hp → Prop) → Prop) (op : D → Option Bool) : Prop := ∀ Γ A ta σ H Q b, Rel g Γ n (A ++ [some ta]) σ H → n ≤ A.length → op ta.er = some b → Q b H → r ta.root H Q
def CaM (g : Gc) (n : Nat) (r : List V → Hp → VK → Prop) (op : List D → Option D) : Prop := ∀ Γ A (ts : List T) σ H Q d, Rel g Γ n (A ++ ts.map some) σ H → n ≤ A.length → op (ts.map T.er) = some d →
  (∀ t H', Rel g Γ n (A ++ [some t]) σ H' → t.er = d → Q t.root H') → r (ts.map T.root) H Q
section
variable {g : Gc} {n : Nat} {W : WX} {Γ : Gh} {A A' A'' B : List (Option T)} {σ : L2.St} {H H' : Hp} {t : T} {M M1 M2 : List Nat}
theorem mean_one {ta : TE} {fa : Sg → R D} {r : V → Hp → VK → Prop} {op : D → Option D} (ha : MeanE g n W M1 ta fa) (ho : UnM g n r op) : MeanE g n W M1 (tUn r ta) (cOne fa op) := by
  intro Γ A σ H Q Rr cl h
  refine ha Γ A σ H _ Rr cl ?_
  unfold cOne at h
  cases ea : fa (ers n A) with
  | bad => rw [ea] at h; exact h.elim
  | exc c d S => rw [ea] at h; exact h
  | ok da S1 =>
    rw [ea] at h
    dsimp only [Lin.R.bind] at h
    intro A1 t1 H1 R1 x1 e1 d1
    cases eo : op da with
    | none => rw [eo] at h; exact h.elim
    | some d =>
      rw [eo] at h
      exact ho Γ A1 t1 σ H1 Q d R1 (by rw [x1.len]; exact Rr.len) (by rw [d1]; exact eo) fun t H' R' et => h A1 t H' R' x1 e1 et
theorem mean_test {ta : TE} {fa : Sg → R D} {r : V → Hp → (Bool → Hp → Prop) → Prop} {op : D → Option Bool} (ha : MeanE g n W M1 ta fa) (ho : TsM g n r op) : MeanT g n W M1 (fun σ H Q => ta σ H fun x H1 => r x H1 Q) (cTest fa op) := by
  intro Γ A σ H Q Rr cl h
  refine ha Γ A σ H _ Rr cl ?_
  unfold cTest at h
  cases ea : fa (ers n A) with
  | bad => rw [ea] at h; exact h.elim
  | exc c d S => rw [ea] at h; exact h
  | ok da S1 =>
    rw [ea] at h
    dsimp only [Lin.R.bind] at h
    intro A1 t1 H1 R1 x1 e1 d1
    cases eo : op da with
    | none => rw [eo] at h; exact h.elim
    | some b =>
      rw [eo] at h
      have n1 : n ≤ A1.length := by rw [x1.len]; exact Rr.len
      exact ho Γ A1 t1 σ H1 Q b R1 n1 (by rw [d1]; exact eo) (h A1 H1 (R1.drop n1) x1 e1)
theorem mean_nil : MeanA g n W [] tNil cNil := by
  intro Γ A σ H Q Rr cl h
  have := h A [] H (by simpa using Rr) (.refl _ _) rfl rfl
  exact this
theorem mean_cons {ta : TE} {tr : TA} {fa : Sg → R D} {fr : Sg → R (List D)} (ha : MeanE g n W M1 ta fa) (hr : MeanA g n W M2 tr fr) : MeanA g n W (M1 ++ M2) (tCons ta tr) (cCons M2 fa fr) := by
  intro Γ A σ H Q Rr cl h
  refine ha Γ A σ H _ Rr cl.left ?_
  unfold cCons at h
  cases ea : fa (ers n A) with
  | bad => rw [ea] at h; exact h.elim
  | exc c d S => rw [ea] at h; exact h
  | ok da S1 =>
    rw [ea] at h
    dsimp only [Lin.R.bind] at h
    intro A1 t1 H1 R1 x1 e1 d1
    by_cases hc : cleanD M2 da = true
    · rw [if_pos hc] at h
      have n1 : n ≤ A1.length := by rw [x1.len]; exact Rr.len
      refine hr Γ (A1 ++ [some t1]) σ H1 _ R1 ((cl.right.next x1.toNext Rr.len).snoc (by rw [d1]; exact hc)) ?_
      rw [ers_append n1, e1]
      cases eb : fr S1 with
      | bad => rw [eb] at h; exact h.elim
      | exc c d S =>
        rw [eb] at h
        intro A2 t2 H2 R2 x2 e2 d2
        obtain ⟨y, z⟩ := x2.left n1
        have n3 : n ≤ (A2.take A1.length).length := by rw [y.len]; exact n1
        refine h (A2.take A1.length) t2 H2 ?_ (x1.toNext.trans y) ?_ d2
        · rw [z, List.append_assoc] at R2
          refine R2.subst (t := t2) n3 (fun _ _ q => q) (fun c hc => .inr ⟨1, ⟨t2, by simp, hc⟩⟩) ⟨[], by simp, by simp, ?_⟩
          simp [ownsO]
        · rw [z, ers_append n3] at e2; exact e2
      | ok ds S2 =>
        rw [eb] at h
        dsimp only [Lin.R.bind] at h
        intro A2 ts H2 R2 x2 e2 d2
        obtain ⟨y, z⟩ := x2.left n1
        have n3 : n ≤ (A2.take A1.length).length := by rw [y.len]; exact n1
        rw [z, List.append_assoc] at R2
        have := h (A2.take A1.length) (t1 :: ts) H2 (by simpa using R2) (x1.trans y) (by rw [z, ers_append n3] at e2; exact e2) (by simp [d1, d2])
        exact this
    · rw [if_neg hc] at h; exact h.elim
theorem mean_many {ta : TA} {fr : Sg → R (List D)} {r : List V → Hp → VK → Prop} {op : List D → Option D} (ha : MeanA g n W M1 ta fr) (ho : CaM g n r op) : MeanE g n W M1 (tCB r ta) (cMany fr op) := by
  intro Γ A σ H Q Rr cl h
  refine ha Γ A σ H _ Rr cl ?_
  unfold cMany at h
  cases ea : fr (ers n A) with
  | bad => rw [ea] at h; exact h.elim
  | exc c d S => rw [ea] at h; exact h
  | ok ds S1 =>
    rw [ea] at h
    dsimp only [Lin.R.bind] at h
    intro A1 ts H1 R1 x1 e1 d1
    cases eo : op ds with
    | none => rw [eo] at h; exact h.elim
    | some d =>
      rw [eo] at h
      exact ho Γ A1 ts σ H1 Q d R1 (by rw [x1.len]; exact Rr.len) (by rw [d1]; exact eo) fun t H' R' et => h A1 t H' R' x1 e1 et
theorem Rel.top1 {a : Addr} {k : Kd} {s : Sh} {dx : Addr} {ts : List T} (Rr : Rel g Γ n (A ++ [some (.nd a k s dx ts)]) σ H) : H a = some (ho g s dx (ts.map T.root)) :=
  Rr.hold A.length (k, a, ho g s dx (ts.map T.root)) ⟨.nd a k s dx ts, by simp, by rw [T.cells]; exact List.mem_cons_self⟩
theorem Rel.top2 {o : Option T} {a : Addr} {k : Kd} {s : Sh} {dx : Addr} {ts : List T} (Rr : Rel g Γ n (A ++ [some (.nd a k s dx ts)] ++ [o]) σ H) : H a = some (ho g s dx (ts.map T.root)) :=
  Rr.hold A.length (k, a, ho g s dx (ts.map T.root)) ⟨.nd a k s dx ts, by simp, by rw [T.cells]; exact List.mem_cons_self⟩
/-! ### new nodes -/
theorem Rel.node {p : Addr} {ts : List T} (Rr : Rel g Γ n (A ++ B) σ H) (hn : n ≤ A.length) (hp : H p = none) (s : Sh) (dx : Addr) (hc : ∀ c ∈ cellsL g ts, ∃ i, CellAt g B i c)
    (hs : (ownsC (cellsL g ts)).Sublist (B.flatMap (ownsO g))) : Rel g Γ n (A ++ [some (.nd p .own s dx ts)]) σ (upd H p (ho g s dx (ts.map T.root))) := by
  refine Rr.subst hn (fun a o e => by rw [upd_ne (ne_of_none e hp)]; exact e) (fun c h => ?_) ⟨[p], by simpa using hp, by simp, ?_⟩
  · rw [T.cells] at h
    rcases List.mem_cons.mp h with rfl | h
    · exact .inl ⟨rfl, hp, upd_same⟩
    · exact .inr (hc c h)
  · rw [T.cells]
    have : ownsC ((Kd.own, p, ho g s dx (ts.map T.root)) :: cellsL g ts) = p :: ownsC (cellsL g ts) := by simp [ownsC]
    rw [this]
    exact List.Sublist.cons_cons p hs
theorem flat_owns (ts : List T) : (ts.map some).flatMap (ownsO g) = ownsC (cellsL g ts) := by
  induction ts with
  | nil => rfl
  | cons t r ih => simp only [List.map_cons, List.flatMap_cons, cellsL, ownsC_append, ih]; rfl
theorem cellAt_map {ts : List T} {c : Cell} : (∃ i, CellAt g (ts.map some) i c) ↔ c ∈ cellsL g ts := by
  rw [cellsL_eq, List.mem_flatMap]
  constructor
  · rintro ⟨i, t, e, hc⟩
    rw [List.getElem?_map] at e
    cases q : ts[i]? with
    | none => rw [q] at e; cases e
    | some u =>
      rw [q] at e
      have : u = t := by simpa using e
      subst this
      exact ⟨u, List.mem_of_getElem? q, hc⟩
  · rintro ⟨t, ht, hc⟩
    obtain ⟨i, hi, e⟩ := List.getElem_of_mem ht
    exact ⟨i, t, by rw [List.getElem?_map, List.getElem?_eq_getElem hi, e]; rfl, hc⟩
theorem Rel.alloc {p : Addr} {ts : List T} (Rr : Rel g Γ n (A ++ ts.map some) σ H) (hn : n ≤ A.length) (hp : H p = none) (s : Sh) (dx : Addr) :
    Rel g Γ n (A ++ [some (.nd p .own s dx ts)]) σ (upd H p (ho g s dx (ts.map T.root))) :=
  Rr.node hn hp s dx (fun c hc => cellAt_map.mpr hc) (by rw [flat_owns]; exact List.Sublist.refl _)
/-- one of the temps' parts, as it is -/
theorem Rel.part (Rr : Rel g Γ n (A ++ B) σ H) (hn : n ≤ A.length) (hc : ∀ c ∈ t.cells g, ∃ i, CellAt g B i c) (hs : (ownsC (t.cells g)).Sublist (B.flatMap (ownsO g))) : Rel g Γ n (A ++ [some t]) σ H :=
  Rr.subst hn (fun _ _ q => q) (fun c h => .inr (hc c h)) ⟨[], by simp, by simp, by simpa using hs⟩
theorem cells_sublist {ts us : List T} (h : ts.Sublist us) : (cellsL g ts).Sublist (cellsL g us) := by
  induction h with
  | slnil => exact List.Sublist.refl _
  | cons t _ ih => exact ih.trans (by rw [cellsL]; exact List.sublist_append_right _ _)
  | cons_cons t _ ih => rw [cellsL, cellsL]; exact List.Sublist.append (List.Sublist.refl _) ih
theorem owns_sublist {a b : List Cell} (h : a.Sublist b) : (ownsC a).Sublist (ownsC b) := h.filterMap _
theorem child_sub {a : Addr} {k : Kd} {s : Sh} {dx : Addr} {ts : List T} : (cellsL g ts).Sublist ((T.nd a k s dx ts).cells g) := by rw [T.cells]; exact List.sublist_cons_self _ _
theorem at_sub {ts : List T} {i : Nat} {u : T} (h : ts[i]? = some u) : (u.cells g).Sublist (cellsL g ts) := by
  have : [u].Sublist ts := by rw [List.singleton_sublist]; exact List.mem_of_getElem? h
  have := cells_sublist (g := g) this
  simpa [cellsL] using this
/-- temps whose cells all come from the one temp t -/
theorem Rel.sub1 {u : T} (Rr : Rel g Γ n (A ++ [some t]) σ H) (hn : n ≤ A.length) (h : (u.cells g).Sublist (t.cells g)) : Rel g Γ n (A ++ [some u]) σ H :=
  Rr.part hn (fun c hc => ⟨0, t, rfl, h.subset hc⟩) (by simpa [ownsO] using owns_sublist h)
theorem Rel.node1 {p : Addr} {ts : List T} (Rr : Rel g Γ n (A ++ [some t]) σ H) (hn : n ≤ A.length) (hp : H p = none) (s : Sh) (dx : Addr) (h : (cellsL g ts).Sublist (t.cells g)) :
    Rel g Γ n (A ++ [some (.nd p .own s dx ts)]) σ (upd H p (ho g s dx (ts.map T.root))) :=
  Rr.node hn hp s dx (fun c hc => ⟨0, t, rfl, h.subset hc⟩) (by simpa [ownsO] using owns_sublist h)
end
/-! ### ints -/
def dI2 (f : Int → Int → Option V) (a b : D) : Option D := match a, b with
  | .im (.int i), .im (.int j) => (f i j).map .im
  | _, _ => none
theorem er_im {t : T} {v : V} (h : t.er = .im v) : t = .im v := by
  cases t with
  | im w => simp [T.er] at h; rw [h]
  | nd a k s dx ts => simp [T.er] at h
theorem er_nd {t : T} {k : Kd} {s : Sh} {ds : List D} (h : t.er = .nd k s ds) : ∃ a dx ts, t = .nd a k s dx ts ∧ ts.map T.er = ds := by
  cases t with
  | im w => simp [T.er] at h
  | nd a k' s' dx ts =>
    simp only [T.er, D.nd.injEq] at h
    obtain ⟨rfl, rfl, h⟩ := h
    exact ⟨a, dx, ts, rfl, by rw [← erL_eq]; exact h⟩
section
variable {g : Gc} {n : Nat}
theorem dI2_some {f : Int → Int → Option V} {a b : D} {d : D} (h : dI2 f a b = some d) : ∃ i j v, a = .im (.int i) ∧ b = .im (.int j) ∧ f i j = some v ∧ d = .im v := by
  unfold dI2 at h
  split at h
  · rename_i i j
    cases e : f i j with
    | none => rw [e] at h; cases h
    | some v => rw [e] at h; exact ⟨i, j, v, rfl, rfl, e, by simpa using h.symm⟩
  · cases h
theorem opm_int {C : Int → Int → Prop} {gg : Int → Int → V} {f : Int → Int → Option V} (h : ∀ i j v, f i j = some v → C i j ∧ v = gg i j) : OpM g n (rI C gg) (dI2 f) := by
  intro Γ A ta tb σ H Q d Rr hn eo hq
  obtain ⟨i, j, v, e1, e2, e3, rfl⟩ := dI2_some eo
  obtain ⟨hc, rfl⟩ := h i j v e3
  rw [er_im e1, er_im e2]
  refine ⟨i, j, rfl, rfl, hc, ?_⟩
  rw [List.append_assoc] at Rr
  exact hq (.im (gg i j)) H (Rr.imm hn _) rfl
theorem opm_int0 {gg : Int → Int → V} : OpM g n (rI0 gg) (dI2 fun i j => some (gg i j)) := by
  intro Γ A ta tb σ H Q d Rr hn eo hq
  obtain ⟨i, j, v, e1, e2, e3, rfl⟩ := dI2_some eo
  cases e3
  rw [er_im e1, er_im e2]
  refine ⟨i, j, rfl, rfl, ?_⟩
  rw [List.append_assoc] at Rr
  exact hq (.im (gg i j)) H (Rr.imm hn _) rfl
theorem OpM.or {r1 r2 : R2} {o1 o2 : D → D → Option D} (h1 : OpM g n r1 o1) (h2 : OpM g n r2 o2) : OpM g n (fun x y H Q => r1 x y H Q ∨ r2 x y H Q) (fun a b => (o1 a b).or (o2 a b)) := by
  intro Γ A ta tb σ H Q d Rr hn eo hq
  dsimp only at eo
  cases e : o1 ta.er tb.er with
  | some d' =>
    rw [e] at eo
    have : d' = d := by simpa using eo
    subst this
    exact .inl (h1 Γ A ta tb σ H Q _ Rr hn e hq)
  | none =>
    rw [e] at eo
    exact .inr (h2 Γ A ta tb σ H Q _ Rr hn (by simpa using eo) hq)
/-! ### lists, tuples -/
def dCat (a b : D) : Option D := match a, b with
  | .nd _ .lst xs, .nd _ .lst ys => if xs.length + ys.length ≤ sizeLine then some (.nd .own .lst (xs ++ ys)) else none
  | _, _ => none
theorem roots_len (ts : List T) : (ts.map T.root).length = ts.length := by simp
theorem opm_cat : OpM g n rCat dCat := by
  intro Γ A ta tb σ H Q d Rr hn eo hq
  unfold dCat at eo
  split at eo
  · rename_i k xs k' ys e1 e2
    split at eo
    · rename_i hz
      obtain ⟨a, dx, ts, rfl, h1⟩ := er_nd e1
      obtain ⟨b, dy, us, rfl, h2⟩ := er_nd e2
      cases eo
      have c1 : H a = some (.lst (ts.map T.root)) := Rr.top2
      have c2 : H b = some (.lst (us.map T.root)) := Rr.top1
      refine ⟨a, b, _, _, rfl, rfl, c1, c2, by simpa [← h1, ← h2] using hz, fun p hp => ?_⟩
      rw [List.append_assoc] at Rr
      have R2 := Rr.node (p := p) (ts := ts ++ us) hn hp .lst 0 (fun c hc => ?_) ?_
      · rw [← List.map_append]
        exact hq _ _ R2 (by simp [T.er, erL_eq, h1, h2])
      · rw [cellsL_append] at hc
        rcases List.mem_append.mp hc with h | h
        · exact ⟨0, _, rfl, child_sub.subset h⟩
        · exact ⟨1, _, rfl, child_sub.subset h⟩
      · rw [cellsL_append, ownsC_append]
        simp only [List.cons_append, List.nil_append, List.flatMap_cons, List.flatMap_nil, List.append_nil, ownsO]
        exact List.Sublist.append (owns_sublist child_sub) (owns_sublist child_sub)
    · cases eo
  · cases eo
def dIx (a b : D) : Option D := match a, b with
  | .nd _ .lst xs, .im (.int i) => atI xs i
  | .nd _ .tup xs, .im (.int i) => atI xs i
  | _, _ => none
theorem atI_map {α β : Type} (f : α → β) (xs : List α) (i : Int) : atI (xs.map f) i = (atI xs i).map f := by
  unfold atI
  rw [List.length_map]
  cases ixN xs.length i with
  | none => rfl
  | some j => simp
theorem atI_some {α : Type} {xs : List α} {i : Int} {x : α} (h : atI xs i = some x) : ∃ j, ixN xs.length i = some j ∧ xs[j]? = some x := by
  unfold atI at h
  cases e : ixN xs.length i with
  | none => rw [e] at h; cases h
  | some j => rw [e] at h; exact ⟨j, rfl, h⟩
theorem opm_ix {K : PySem.W.Frag} : OpM g n (fun x y H Q => rIxL K x y H Q ∨ rIxT K x y H Q) dIx := by
  intro Γ A ta tb σ H Q d Rr hn eo hq
  rw [List.append_assoc] at Rr
  have go : ∀ {a : Addr} {k : Kd} {s : Sh} {dx : Addr} {ts : List T} {i : Int}, ta = .nd a k s dx ts → atI (ts.map T.er) i = some d → ∃ u, atI (ts.map T.root) i = some u.root ∧ Q (T.root u) H := fun {a k s dx ts i} e h => by
    rw [atI_map] at h
    cases q : atI ts i with
    | none => rw [q] at h; cases h
    | some u =>
      rw [q] at h
      obtain ⟨j, _, hj⟩ := atI_some q
      refine ⟨u, by rw [atI_map, q]; rfl, hq u H ?_ (by simpa using h)⟩
      have hs : (u.cells g).Sublist (ta.cells g) := by rw [e]; exact (at_sub hj).trans child_sub
      exact Rr.part hn (fun c hc => ⟨0, ta, rfl, hs.subset hc⟩) (by
        simp only [List.cons_append, List.nil_append, List.flatMap_cons, List.flatMap_nil, List.append_nil, ownsO]
        exact (owns_sublist hs).trans (List.sublist_append_left _ _))
  have hold : ∀ {a : Addr} {k : Kd} {s : Sh} {dx : Addr} {ts : List T}, ta = .nd a k s dx ts → H a = some (ho g s dx (ts.map T.root)) := fun {a k s dx ts} e =>
    Rr.hold A.length (k, a, ho g s dx (ts.map T.root)) ⟨ta, by simp, by rw [e, T.cells]; exact List.mem_cons_self⟩
  unfold dIx at eo
  split at eo
  · rename_i k xs i e1 e2
    obtain ⟨a, dx, ts, h0, h1⟩ := er_nd e1
    obtain ⟨u, hu, hQ⟩ := go h0 (by rw [h1]; exact eo)
    refine .inl ⟨a, _, i, _, by rw [h0]; rfl, by rw [er_im e2]; rfl, SqL.of (hold h0), hu, hQ⟩
  · rename_i k xs i e1 e2
    obtain ⟨a, dx, ts, h0, h1⟩ := er_nd e1
    obtain ⟨u, hu, hQ⟩ := go h0 (by rw [h1]; exact eo)
    refine .inr ⟨a, _, i, _, by rw [h0]; rfl, by rw [er_im e2]; rfl, SqT.of (hold h0), hu, hQ⟩
  · cases eo
/-! ### displays -/
def dLst (ds : List D) : Option D := if ds.length ≤ sizeLine then some (.nd .own .lst ds) else none
def dTup (ds : List D) : Option D := if ds.length ≤ sizeLine then some (.nd .own .tup ds) else none
theorem mean_lst {W : WX} {M : List Nat} {ta : TA} {fr : Sg → R (List D)} (ha : MeanA g n W M ta fr) : MeanE g n W M (tLst ta) (cMany fr dLst) :=
  mean_many (r := fun xs H1 Q => xs.length ≤ sizeLine ∧ ∀ p, H1 p = none → Q (.ref p) (upd H1 p (.lst xs))) ha fun Γ A ts σ H Q d Rr hn eo hq => by
    unfold dLst at eo
    split at eo
    · rename_i hz
      cases eo
      refine ⟨by simpa using hz, fun p hp => hq (.nd p .own .lst 0 ts) _ (Rr.alloc hn hp .lst 0) (by simp [T.er, erL_eq])⟩
    · cases eo
theorem mean_tup {W : WX} {M : List Nat} {ta : TA} {fr : Sg → R (List D)} (ha : MeanA g n W M ta fr) : MeanE g n W M (tTup ta) (cMany fr dTup) :=
  mean_many (r := fun xs H1 Q => xs.length ≤ sizeLine ∧ ∀ p, H1 p = none → Q (.ref p) (upd H1 p (.tup xs))) ha fun Γ A ts σ H Q d Rr hn eo hq => by
    unfold dTup at eo
    split at eo
    · rename_i hz
      cases eo
      refine ⟨by simpa using hz, fun p hp => hq (.nd p .own .tup 0 ts) _ (Rr.alloc hn hp .tup 0) (by simp [T.er, erL_eq])⟩
    · cases eo
/-! ### equality -/
mutual
def toPy : D → Option PyData
  | .im .non => some .none
  | .im (.bl b) => some (.bool b)
  | .im (.int i) => some (.int i)
  | .im (.str x) => some (.str x)
  | .im _ => none
  | .nd _ .lst ds => (toPyL ds).map .list
  | .nd _ .tup ds => (toPyL ds).map .tuple
  | .nd _ _ _ => none
def toPyL : List D → Option (List PyData)
  | [] => some []
  | d :: r => match toPy d, toPyL r with
    | some x, some xs => some (x :: xs)
    | _, _ => none
end
mutual
theorem dp_of {K : PySem.W.Frag} {H : Hp} : ∀ (t : T) (x : PyData), (∀ c ∈ t.cells g, H c.2.1 = some c.2.2) → toPy t.er = some x → Dp K H t.root x
  | .im v, x, _, e => by
    cases v <;> simp [T.er, toPy] at e <;> subst e
    · exact .non
    · exact .bl _
    · exact .int _
    · exact .str _
  | .nd a k s dx ts, x, h, e => by
    have h0 := h (k, a, ho g s dx (ts.map T.root)) (by rw [T.cells]; exact List.mem_cons_self)
    have hr : ∀ c ∈ cellsL g ts, H c.2.1 = some c.2.2 := fun c hc => h c (by rw [T.cells]; exact List.mem_cons_of_mem _ hc)
    cases s with
    | lst =>
      simp only [T.er, toPy] at e
      cases q : toPyL (erL ts) with
      | none => rw [q] at e; cases e
      | some xs =>
        rw [q] at e
        have e' : PyData.list xs = x := by simpa using e
        subst e'
        exact .lst (SqL.of h0) (dps_of ts xs hr q)
    | tup =>
      simp only [T.er, toPy] at e
      cases q : toPyL (erL ts) with
      | none => rw [q] at e; cases e
      | some xs =>
        rw [q] at e
        have e' : PyData.tuple xs = x := by simpa using e
        subst e'
        exact .tup (SqT.of h0) (dps_of ts xs hr q)
    | _ => simp [T.er, toPy] at e
theorem dps_of {K : PySem.W.Frag} {H : Hp} : ∀ (ts : List T) (xs : List PyData), (∀ c ∈ cellsL g ts, H c.2.1 = some c.2.2) → toPyL (erL ts) = some xs → DpAll K H (ts.map T.root) xs
  | [], xs, _, e => by
    simp [erL, toPyL] at e
    subst e
    exact .nil
  | t :: r, xs, h, e => by
    simp only [erL, toPyL] at e
    cases q1 : toPy t.er with
    | none => rw [q1] at e; simp at e
    | some x =>
      cases q2 : toPyL (erL r) with
      | none => rw [q1, q2] at e; simp at e
      | some ys =>
        rw [q1, q2] at e
        have e' : x :: ys = xs := by simpa using e
        subst e'
        exact .cons (dp_of t x (fun c hc => h c (by rw [cellsL]; exact List.mem_append_left _ hc)) q1) (dps_of r ys (fun c hc => h c (by rw [cellsL]; exact List.mem_append_right _ hc)) q2)
end
def eqD (a b : D) : Option Bool := match toPy a, toPy b with
  | some x, some y => if SeqAt.shaped x && SeqAt.shaped y then some (PyData.eqv x y) else none
  | _, _ => none
theorem eqD_some {a b : D} {k : Bool} (h : eqD a b = some k) : ∃ x y, toPy a = some x ∧ toPy b = some y ∧ SeqAt.shaped x = true ∧ SeqAt.shaped y = true ∧ k = PyData.eqv x y := by
  unfold eqD at h
  split at h
  · rename_i x y e1 e2
    split at h
    · rename_i hs
      rw [Bool.and_eq_true] at hs
      exact ⟨x, y, e1, e2, hs.1, hs.2, by simpa using h.symm⟩
    · cases h
  · cases h
theorem opm_eq {K : PySem.W.Frag} : OpM g n (rEqD K) (fun a b => (eqD a b).map fun k => .im (.bl k)) := by
  intro Γ A ta tb σ H Q d Rr hn eo hq
  dsimp only at eo
  cases e : eqD ta.er tb.er with
  | none => rw [e] at eo; cases eo
  | some k =>
    rw [e] at eo
    have eo : D.im (.bl k) = d := by simpa using eo
    obtain ⟨x, y, h1, h2, h3, h4, h5⟩ := eqD_some e
    refine ⟨x, y, dp_of (g := g) ta x (fun c hc => Rr.hold A.length c ⟨ta, by simp, hc⟩) h1, dp_of (g := g) tb y (fun c hc => Rr.hold (A.length + 1) c ⟨tb, by simp, hc⟩) h2, h3, h4, ?_⟩
    rw [← h5]
    rw [List.append_assoc] at Rr
    exact hq (.im (.bl k)) H (Rr.imm hn _) eo
theorem opm_ne {K : PySem.W.Frag} : OpM g n (rNeD K) (fun a b => (eqD a b).map fun k => .im (.bl (!k))) := by
  intro Γ A ta tb σ H Q d Rr hn eo hq
  dsimp only at eo
  cases e : eqD ta.er tb.er with
  | none => rw [e] at eo; cases eo
  | some k =>
    rw [e] at eo
    have eo : D.im (.bl (!k)) = d := by simpa using eo
    obtain ⟨x, y, h1, h2, h3, h4, h5⟩ := eqD_some e
    refine ⟨x, y, dp_of (g := g) ta x (fun c hc => Rr.hold A.length c ⟨ta, by simp, hc⟩) h1, dp_of (g := g) tb y (fun c hc => Rr.hold (A.length + 1) c ⟨tb, by simp, hc⟩) h2, h3, h4, ?_⟩
    rw [← h5]
    rw [List.append_assoc] at Rr
    exact hq (.im (.bl (!k))) H (Rr.imm hn _) eo
end
end Lin
end
section
namespace Lin
open PySem L2
section
variable {g : Gc} {n : Nat} {W : WX} {Γ : Gh} {A A' A'' B : List (Option T)} {σ : L2.St} {H H' : Hp} {t : T} {M M1 M2 : List Nat}
/-- a temp in the middle is dropped -/
theorem Rel.mid {o : Option T} (Rr : Rel g Γ n (A ++ [o] ++ [some t]) σ H) (hn : n ≤ A.length) : Rel g Γ n (A ++ [some t]) σ H := by
  rw [List.append_assoc] at Rr
  exact Rr.part hn (fun c hc => ⟨1, t, rfl, hc⟩) (by simp [ownsO])
/-- a temp that is part of what stands already, without own marks -/
theorem Rel.dup {u : T} (Rr : Rel g Γ n A σ H) (h : ∀ c ∈ u.cells g, c.1 ≠ .own ∧ ∃ i, CellAt g A i c) : Rel g Γ n (A ++ [some u]) σ H := by
  refine ⟨by simp; have := Rr.len; omega, Rr.slen, ?_, ?_, ?_, ?_, ?_, Rr.frame, ?_, ?_, Rr.pin⟩
  · intro j w hj q
    rcases snoc_get q with ⟨_, q⟩ | ⟨e, _⟩
    · exact Rr.val j w hj q
    · have := Rr.len; omega
  · intro j c x
    rcases cellAt_snoc.mp x with x | ⟨_, x⟩
    · exact Rr.hold j c x
    · obtain ⟨_, i, y⟩ := h c x
      exact Rr.hold i c y
  · intro j c r x k
    rcases cellAt_snoc.mp x with x | ⟨_, x⟩
    · exact Rr.lab j c r x k
    · obtain ⟨_, i, y⟩ := h c x
      exact Rr.lab i c r y k
  · intro j w q
    rcases snoc_get q with ⟨_, q⟩ | ⟨_, e⟩
    · exact Rr.nd j w q
    · rw [e, owns_none fun c hc => (h c hc).1]; exact List.nodup_nil
  · intro j l c d x y hown hadr
    rcases cellAt_snoc.mp x with x | ⟨_, x⟩
    · rcases cellAt_snoc.mp y with y | ⟨e, y⟩
      · exact Rr.sep j l c d x y hown hadr
      · obtain ⟨no, i, y'⟩ := h d y
        have := x.lt
        rcases Rr.sep j i c d x y' hown hadr with ⟨_, q⟩ | ⟨_, q⟩
        · exact absurd q no
        · exact .inr ⟨by omega, q⟩
    · exact absurd hown (h c x).1
  · intro j c x
    rcases cellAt_snoc.mp x with x | ⟨_, x⟩
    · exact Rr.gown j c x
    · obtain ⟨_, i, y⟩ := h c x
      exact Rr.gown i c y
  · intro j c x k
    rcases cellAt_snoc.mp x with x | ⟨_, x⟩
    · exact Rr.gfrz j c x k
    · obtain ⟨_, i, y⟩ := h c x
      exact Rr.gfrz i c y k
/-- slots' values where no tree is known do not matter -/
theorem Rel.reslot {σ' : L2.St} (Rr : Rel g Γ n A σ H) (hl : σ'.length = σ.length) (h : ∀ (i : Nat) t, A[i]? = some (some t) → i < n → σ'[i]? = σ[i]?) : Rel g Γ n A σ' H :=
  ⟨Rr.len, by rw [hl]; exact Rr.slen, fun i t hi e => by rw [h i t e hi]; exact Rr.val i t hi e, Rr.hold, Rr.lab, Rr.nd, Rr.sep, Rr.frame, Rr.gown, Rr.gfrz, Rr.pin⟩
end
/-! ### tests -/
def cAnd (fa fb : Sg → R Bool) : Sg → R Bool := fun S => (fa S).bind fun b S1 => if b = true then fb S1 else .ok false S1
def cOr (fa fb : Sg → R Bool) : Sg → R Bool := fun S => (fa S).bind fun b S1 => if b = true then .ok true S1 else fb S1
def cNot (fa : Sg → R Bool) : Sg → R Bool := fun S => (fa S).bind fun b S1 => .ok (!b) S1
def cIfE (fc : Sg → R Bool) (fa fb : Sg → R D) : Sg → R D := fun S => (fc S).bind fun b S1 => if b = true then fa S1 else fb S1
def cAndV (fa fb : Sg → R D) : Sg → R D := fun S => (fa S).bind fun d S1 => match d with
  | .im (.bl true) => fb S1
  | .im (.bl false) => .ok (.im (.bl false)) S1
  | _ => .bad
def cOrV (fa fb : Sg → R D) : Sg → R D := fun S => (fa S).bind fun d S1 => match d with
  | .im (.bl true) => .ok (.im (.bl true)) S1
  | .im (.bl false) => fb S1
  | _ => .bad
def dNot (d : D) : Option D := match d with
  | .im (.bl b) => some (.im (.bl (!b)))
  | _ => none
def dBool (d : D) : Option Bool := match d with
  | .im (.bl b) => some b
  | _ => none
def dTru (d : D) : Option Bool := match d with
  | .im .non => some false
  | .im (.bl b) => some b
  | .im (.int i) => some (i != 0)
  | .im (.str x) => if x.length ≤ sizeLine then some ((x.length : Int) != 0) else none
  | .nd _ .lst ds => some (!ds.isEmpty)
  | .nd _ .tup ds => some (!ds.isEmpty)
  | _ => none
section
variable {g : Gc} {n : Nat} {W : WX} {Γ : Gh} {A A' A'' B : List (Option T)} {σ : L2.St} {H H' : Hp} {t : T} {M M1 M2 M3 : List Nat}
theorem mean_and {ta tb : TT} {fa fb : Sg → R Bool} (ha : MeanT g n W M1 ta fa) (hb : MeanT g n W M2 tb fb) : MeanT g n W (M1 ++ M2) (tAnd ta tb) (cAnd fa fb) := by
  intro Γ A σ H Q Rr cl h
  refine ha Γ A σ H _ Rr cl.left ?_
  unfold cAnd at h
  cases ea : fa (ers n A) with
  | bad => rw [ea] at h; exact h.elim
  | exc c d S => rw [ea] at h; exact h
  | ok b S1 =>
    rw [ea] at h
    dsimp only [Lin.R.bind] at h
    intro A1 H1 R1 x1 e1
    cases b with
    | true =>
      rw [if_pos rfl] at h ⊢
      refine hb Γ A1 σ H1 _ R1 (cl.right.next x1.toNext Rr.len) ?_
      rw [e1]
      cases eb : fb S1 with
      | bad => rw [eb] at h; exact h.elim
      | exc c d S => rw [eb] at h; exact PostX.of h x1.toNext
      | ok b' S2 => rw [eb] at h; exact fun A2 H2 R2 x2 e2 => h A2 H2 R2 (x1.trans x2) e2
    | false =>
      rw [if_neg Bool.false_ne_true] at h ⊢
      exact h A1 H1 R1 (x1.mono fun r hr => List.mem_append_left _ hr) e1
theorem mean_or {ta tb : TT} {fa fb : Sg → R Bool} (ha : MeanT g n W M1 ta fa) (hb : MeanT g n W M2 tb fb) : MeanT g n W (M1 ++ M2) (tOr ta tb) (cOr fa fb) := by
  intro Γ A σ H Q Rr cl h
  refine ha Γ A σ H _ Rr cl.left ?_
  unfold cOr at h
  cases ea : fa (ers n A) with
  | bad => rw [ea] at h; exact h.elim
  | exc c d S => rw [ea] at h; exact h
  | ok b S1 =>
    rw [ea] at h
    dsimp only [Lin.R.bind] at h
    intro A1 H1 R1 x1 e1
    cases b with
    | false =>
      rw [if_neg Bool.false_ne_true] at h ⊢
      refine hb Γ A1 σ H1 _ R1 (cl.right.next x1.toNext Rr.len) ?_
      rw [e1]
      cases eb : fb S1 with
      | bad => rw [eb] at h; exact h.elim
      | exc c d S => rw [eb] at h; exact PostX.of h x1.toNext
      | ok b' S2 => rw [eb] at h; exact fun A2 H2 R2 x2 e2 => h A2 H2 R2 (x1.trans x2) e2
    | true =>
      rw [if_pos rfl] at h ⊢
      exact h A1 H1 R1 (x1.mono fun r hr => List.mem_append_left _ hr) e1
theorem mean_not {ta : TT} {fa : Sg → R Bool} (ha : MeanT g n W M1 ta fa) : MeanT g n W M1 (tNot ta) (cNot fa) := by
  intro Γ A σ H Q Rr cl h
  refine ha Γ A σ H _ Rr cl ?_
  unfold cNot at h
  cases ea : fa (ers n A) with
  | bad => rw [ea] at h; exact h.elim
  | exc c d S => rw [ea] at h; exact h
  | ok b S1 => rw [ea] at h; exact h
theorem mean_ifE {tc : TT} {ta tb : TE} {fc : Sg → R Bool} {fa fb : Sg → R D} (hc : MeanT g n W M1 tc fc) (ha : MeanE g n W M2 ta fa) (hb : MeanE g n W M3 tb fb) : MeanE g n W (M1 ++ (M2 ++ M3)) (tIf tc ta tb) (cIfE fc fa fb) := by
  intro Γ A σ H Q Rr cl h
  refine hc Γ A σ H _ Rr cl.left ?_
  unfold cIfE at h
  cases ea : fc (ers n A) with
  | bad => rw [ea] at h; exact h.elim
  | exc c d S => rw [ea] at h; exact h
  | ok b S1 =>
    rw [ea] at h
    dsimp only [Lin.R.bind] at h
    intro A1 H1 R1 x1 e1
    have fin : ∀ {f : Sg → R D} {M4 : List Nat}, (∀ r ∈ M4, r ∈ M2 ++ M3) → PostE g n W (M1 ++ (M2 ++ M3)) Γ A σ Q (f S1) → PostE g n W M4 Γ A1 σ Q (f (ers n A1)) := fun {f M4} hm h => by
      rw [e1]
      cases eb : f S1 with
      | bad => rw [eb] at h; exact h.elim
      | exc c d S => rw [eb] at h; exact PostX.of h x1.toNext
      | ok b' S2 => rw [eb] at h; exact fun A2 t2 H2 R2 x2 e2 d2 => h A2 t2 H2 R2 ((x1.trans x2).mono fun r hr => by
          rcases List.mem_append.mp hr with z | z
          · exact List.mem_append_left _ z
          · exact List.mem_append_right _ (hm r z)) e2 d2
    cases b with
    | true =>
      rw [if_pos rfl] at h ⊢
      exact ha Γ A1 σ H1 _ R1 (cl.right.left.next x1.toNext Rr.len) (fin (fun r hr => List.mem_append_left _ hr) h)
    | false =>
      rw [if_neg Bool.false_ne_true] at h ⊢
      exact hb Γ A1 σ H1 _ R1 (cl.right.right.next x1.toNext Rr.len) (fin (fun r hr => List.mem_append_right _ hr) h)
theorem mean_andV {ta tb : TE} {fa fb : Sg → R D} (ha : MeanE g n W M1 ta fa) (hb : MeanE g n W M2 tb fb) : MeanE g n W (M1 ++ M2) (tAndV ta tb) (cAndV fa fb) := by
  intro Γ A σ H Q Rr cl h
  refine ha Γ A σ H _ Rr cl.left ?_
  unfold cAndV at h
  cases ea : fa (ers n A) with
  | bad => rw [ea] at h; exact h.elim
  | exc c d S => rw [ea] at h; exact h
  | ok d S1 =>
    rw [ea] at h
    dsimp only [Lin.R.bind] at h
    intro A1 t1 H1 R1 x1 e1 d1
    have n1 : n ≤ A1.length := by rw [x1.len]; exact Rr.len
    split at h
    · rw [er_im d1]
      refine ⟨true, rfl, ?_⟩
      rw [if_pos rfl]
      refine hb Γ A1 σ H1 _ (R1.drop n1) (cl.right.next x1.toNext Rr.len) ?_
      rw [e1]
      cases eb : fb S1 with
      | bad => rw [eb] at h; exact h.elim
      | exc c d S => rw [eb] at h; exact PostX.of h x1.toNext
      | ok b' S2 => rw [eb] at h; exact fun A2 t2 H2 R2 x2 e2 d2 => h A2 t2 H2 R2 (x1.trans x2) e2 d2
    · rw [er_im d1]
      refine ⟨false, rfl, ?_⟩
      rw [if_neg Bool.false_ne_true]
      have := h A1 t1 H1 R1 (x1.mono fun r hr => List.mem_append_left _ hr) e1 d1
      rw [er_im d1] at this
      exact this
    · exact h.elim
theorem mean_orV {ta tb : TE} {fa fb : Sg → R D} (ha : MeanE g n W M1 ta fa) (hb : MeanE g n W M2 tb fb) : MeanE g n W (M1 ++ M2) (tOrV ta tb) (cOrV fa fb) := by
  intro Γ A σ H Q Rr cl h
  refine ha Γ A σ H _ Rr cl.left ?_
  unfold cOrV at h
  cases ea : fa (ers n A) with
  | bad => rw [ea] at h; exact h.elim
  | exc c d S => rw [ea] at h; exact h
  | ok d S1 =>
    rw [ea] at h
    dsimp only [Lin.R.bind] at h
    intro A1 t1 H1 R1 x1 e1 d1
    have n1 : n ≤ A1.length := by rw [x1.len]; exact Rr.len
    split at h
    · rw [er_im d1]
      refine ⟨true, rfl, ?_⟩
      rw [if_pos rfl]
      have := h A1 t1 H1 R1 (x1.mono fun r hr => List.mem_append_left _ hr) e1 d1
      rw [er_im d1] at this
      exact this
    · rw [er_im d1]
      refine ⟨false, rfl, ?_⟩
      rw [if_neg Bool.false_ne_true]
      refine hb Γ A1 σ H1 _ (R1.drop n1) (cl.right.next x1.toNext Rr.len) ?_
      rw [e1]
      cases eb : fb S1 with
      | bad => rw [eb] at h; exact h.elim
      | exc c d S => rw [eb] at h; exact PostX.of h x1.toNext
      | ok b' S2 => rw [eb] at h; exact fun A2 t2 H2 R2 x2 e2 d2 => h A2 t2 H2 R2 (x1.trans x2) e2 d2
    · exact h.elim
theorem mean_notV {ta : TE} {fa : Sg → R D} (ha : MeanE g n W M1 ta fa) : MeanE g n W M1 (tNotV ta) (cOne fa dNot) :=
  mean_one (r := fun x H1 Q => ∃ c, x = .bl c ∧ Q (.bl (!c)) H1) ha fun Γ A ta σ H Q d Rr hn eo hq => by
    unfold dNot at eo
    split at eo
    · rename_i b e
      rw [er_im e]
      refine ⟨b, rfl, hq (.im (.bl (!b))) H (Rr.imm hn _) (Option.some.inj eo)⟩
    · cases eo
theorem tsm_bool : TsM g n (fun x H Q => ∃ k, x = .bl k ∧ Q k H) dBool := by
  intro Γ A ta σ H Q b Rr hn eo hq
  unfold dBool at eo
  split at eo
  · rename_i c e
    rw [er_im e]
    cases eo
    exact ⟨_, rfl, hq⟩
  · cases eo
theorem tsm_tru {K : PySem.W.Frag} : TsM g n (fun x H Q => ∃ k, TruV K x H k ∧ Q k H) dTru := by
  intro Γ A ta σ H Q b Rr hn eo hq
  unfold dTru at eo
  split at eo
  · rename_i e
    rw [er_im e]
    cases eo
    exact ⟨_, rfl, hq⟩
  · rename_i e
    rw [er_im e]
    cases eo
    exact ⟨_, rfl, hq⟩
  · rename_i e
    rw [er_im e]
    cases eo
    exact ⟨_, rfl, hq⟩
  · rename_i e
    rw [er_im e]
    split at eo
    · rename_i hz
      cases eo
      exact ⟨_, ⟨hz, rfl⟩, hq⟩
    · cases eo
  · rename_i k ds e
    obtain ⟨a, dx, ts, rfl, h1⟩ := er_nd e
    refine ⟨b, .inl ⟨_, SqL.of Rr.top1, ?_⟩, hq⟩
    have eo : (!ds.isEmpty) = b := by simpa using eo
    rw [← eo, ← h1]
    simp
  · rename_i k ds e
    obtain ⟨a, dx, ts, rfl, h1⟩ := er_nd e
    refine ⟨b, .inr (.inl ⟨_, SqT.of Rr.top1, ?_⟩), hq⟩
    have eo : (!ds.isEmpty) = b := by simpa using eo
    rw [← eo, ← h1]
    simp
  · cases eo
end
/-! ### statements -/
def cNext : Sg → R Fl := fun S => .ok .nx S
def cSeq (f h : Sg → R Fl) : Sg → R Fl := fun S => (f S).bind fun fl S1 => match fl with
  | .nx => h S1
  | fl => .ok fl S1
def cIf (fc : Sg → R Bool) (f h : Sg → R Fl) : Sg → R Fl := fun S => (fc S).bind fun b S1 => if b = true then f S1 else h S1
def cRet (f : Sg → R D) : Sg → R Fl := fun S => (f S).bind fun d S1 => .ok (.ret d) S1
def cRetN : Sg → R Fl := fun S => .ok (.ret (.im .non)) S
def cExpr (f : Sg → R D) : Sg → R Fl := fun S => (f S).bind fun _ S1 => .ok .nx S1
def cBrk : Sg → R Fl := fun S => .ok .brk S
def cCnt : Sg → R Fl := fun S => .ok .cnt S
def fzIf (z : Bool) (d : D) : D := if z = true then d.mk kFz else d
def cSet (z : Bool) (i : Nat) (f : Sg → R D) : Sg → R Fl := fun S => (f S).bind fun d S1 => .ok .nx (S1.set i (some (fzIf z d)))
def cBad : Sg → R Fl := fun _ => .bad
section
variable {g : Gc} {n : Nat} {W : WX} {Γ : Gh} {A A' A'' B : List (Option T)} {σ : L2.St} {H H' : Hp} {t : T} {M M1 M2 M3 : List Nat}
theorem PostS.of {D : Ends} {r : R Fl} {σ1 : L2.St} (h : PostS g n W M Γ A σ D r) (x : NextS n M1 A A' σ σ1) (h1 : ∀ r ∈ M1, r ∈ M) (h2 : ∀ r ∈ M2, r ∈ M) : PostS g n W M2 Γ A' σ1 D r := by
  have mm : ∀ q ∈ M1 ++ M2, q ∈ M := fun q hq => (List.mem_append.mp hq).elim (h1 q) (h2 q)
  cases r with
  | bad => exact h
  | exc c d S => exact fun A2 t σ' H' R y => h A2 t σ' H' R ((x.trans y).mono mm)
  | ok fl S => cases fl with
    | nx => exact fun A2 σ' H' R y => h A2 σ' H' R ((x.trans y).mono mm)
    | brk => exact fun A2 σ' H' R y => h A2 σ' H' R ((x.trans y).mono mm)
    | cnt => exact fun A2 σ' H' R y => h A2 σ' H' R ((x.trans y).mono mm)
    | ret d => exact fun A2 t σ' H' R y => h A2 t σ' H' R ((x.trans y).mono mm)
theorem PostS.sub {D : Ends} {r : R Fl} (h : PostS g n W M Γ A σ D r) (h2 : ∀ r ∈ M2, r ∈ M) : PostS g n W M2 Γ A σ D r := PostS.of h (NextS.refl [] A σ) (fun _ z => nomatch z) h2
theorem mean_next : MeanS g n W [] tNext cNext := fun Γ A σ H D Rr _ h => h A σ H Rr (.refl _ _ _) rfl
theorem mean_never : MeanS g n W [] tNever cBad := fun Γ A σ H D Rr _ h => h
theorem mean_brk : MeanS g n W [] tBreak cBrk := fun Γ A σ H D Rr _ h => h A σ H Rr (.refl _ _ _) rfl
theorem mean_cnt : MeanS g n W [] tCont cCnt := fun Γ A σ H D Rr _ h => h A σ H Rr (.refl _ _ _) rfl
theorem mean_seq {t1 t2 : TS} {f1 f2 : Sg → R Fl} (h1 : MeanS g n W M1 t1 f1) (h2 : MeanS g n W M2 t2 f2) : MeanS g n W (M1 ++ M2) (tSeq t1 t2) (cSeq f1 f2) := by
  intro Γ A σ H D Rr cl h
  refine h1 Γ A σ H _ Rr cl.left ?_
  unfold cSeq at h
  have ml : ∀ r ∈ M1, r ∈ M1 ++ M2 := fun r hr => List.mem_append_left _ hr
  have mr : ∀ r ∈ M2, r ∈ M1 ++ M2 := fun r hr => List.mem_append_right _ hr
  cases ea : f1 (ers n A) with
  | bad => rw [ea] at h; exact h.elim
  | exc c d S => rw [ea] at h; exact fun A2 t σ' H' R y => h A2 t σ' H' R (y.mono ml)
  | ok fl S1 =>
    rw [ea] at h
    dsimp only [Lin.R.bind] at h
    cases fl with
    | nx =>
      intro A1 σ1 H1 R1 x1 e1
      refine h2 Γ A1 σ1 H1 D R1 (cl.right.next x1.toNext Rr.len) ?_
      rw [e1]
      exact PostS.of h x1 ml mr
    | brk => exact fun A2 σ' H' R y => h A2 σ' H' R (y.mono ml)
    | cnt => exact fun A2 σ' H' R y => h A2 σ' H' R (y.mono ml)
    | ret d => exact fun A2 t σ' H' R y => h A2 t σ' H' R (y.mono ml)
theorem mean_if {tc : TT} {t1 t2 : TS} {fc : Sg → R Bool} {f1 f2 : Sg → R Fl} (hc : MeanT g n W M1 tc fc) (h1 : MeanS g n W M2 t1 f1) (h2 : MeanS g n W M3 t2 f2) : MeanS g n W (M1 ++ (M2 ++ M3)) (tIfS tc t1 t2) (cIf fc f1 f2) := by
  intro Γ A σ H D Rr cl h
  refine hc Γ A σ H _ Rr cl.left ?_
  unfold cIf at h
  cases ea : fc (ers n A) with
  | bad => rw [ea] at h; exact h.elim
  | exc c d S => rw [ea] at h; exact fun A' t H' R x e => h A' t σ H' R (x.toS _ _) e
  | ok b S1 =>
    rw [ea] at h
    dsimp only [Lin.R.bind] at h
    intro A1 H1 R1 x1 e1
    replace x1 := x1.toNext
    cases b with
    | true =>
      rw [if_pos rfl] at h ⊢
      exact h1 Γ A1 σ H1 D R1 (cl.right.left.next x1 Rr.len) (by rw [e1]; exact PostS.of h (x1.toS [] σ) (fun _ z => nomatch z) fun r hr => List.mem_append_right _ (List.mem_append_left _ hr))
    | false =>
      rw [if_neg Bool.false_ne_true] at h ⊢
      exact h2 Γ A1 σ H1 D R1 (cl.right.right.next x1 Rr.len) (by rw [e1]; exact PostS.of h (x1.toS [] σ) (fun _ z => nomatch z) fun r hr => List.mem_append_right _ (List.mem_append_right _ hr))
theorem mean_ret {te : TE} {f : Sg → R D} (he : MeanE g n W M1 te f) : MeanS g n W M1 (tRet te) (cRet f) := by
  intro Γ A σ H D Rr cl h
  refine he Γ A σ H _ Rr cl ?_
  unfold cRet at h
  cases ea : f (ers n A) with
  | bad => rw [ea] at h; exact h.elim
  | exc c d S => rw [ea] at h; exact fun A' t H' R x e => h A' t σ H' R (x.toS _ _) e
  | ok d S1 =>
    rw [ea] at h
    exact fun A1 t1 H1 R1 x1 e1 d1 => h A1 t1 σ H1 R1 (x1.toNext.toS _ _) e1 d1
theorem mean_retN : MeanS g n W [] tRetN cRetN := fun Γ A σ H D Rr _ h => by
  have := h A (.im .non) σ H ((show Rel g Γ n (A ++ []) σ H by rw [List.append_nil]; exact Rr).imm Rr.len _) (.refl _ _ _) rfl rfl
  exact this
theorem mean_expr {te : TE} {f : Sg → R D} (he : MeanE g n W M1 te f) : MeanS g n W M1 (tDrop te) (cExpr f) := by
  intro Γ A σ H D Rr cl h
  refine he Γ A σ H _ Rr cl ?_
  unfold cExpr at h
  cases ea : f (ers n A) with
  | bad => rw [ea] at h; exact h.elim
  | exc c d S => rw [ea] at h; exact fun A' t H' R x e => h A' t σ H' R (x.toS _ _) e
  | ok d S1 =>
    rw [ea] at h
    exact fun A1 t1 H1 R1 x1 e1 d1 => h A1 σ H1 (R1.drop (by rw [x1.len]; exact Rr.len)) (x1.toNext.toS _ _) e1
theorem next_set {i : Nat} (hi : i < n) (o : Option T) (x : Next n A A') : Next n A (A'.set i o) := ⟨by rw [List.length_set]; exact x.len, by rw [List.drop_set_of_lt hi]; exact x.tmp⟩
theorem fz_er (z : Bool) (t : T) : (if z = true then t.mk kFz else t).er = fzIf z t.er := by
  unfold fzIf
  cases z with
  | true => rw [if_pos rfl, if_pos rfl, er_mk]
  | false => rw [if_neg Bool.false_ne_true, if_neg Bool.false_ne_true]
theorem Rel.fzIf (Rr : Rel g Γ n (A ++ [some t]) σ H) (hn : n ≤ A.length) (z : Bool) : Rel g Γ n (A ++ [some (if z = true then t.mk kFz else t)]) σ H := by
  cases z with
  | true => rw [if_pos rfl]; exact Rr.freeze hn
  | false => rw [if_neg Bool.false_ne_true]; exact Rr
theorem fz_root (z : Bool) (t : T) : (if z = true then t.mk kFz else t).root = t.root := by
  cases z with
  | true => rw [if_pos rfl, root_mk]
  | false => rw [if_neg Bool.false_ne_true]
/-- a target -/
def MeanG (g : Gc) (n : Nat) (xs : List Nat) (tg : TG) (f : D → Sg → Option Sg) : Prop := ∀ Γ A t σ H Q S', Rel g Γ n (A ++ [some t]) σ H → n ≤ A.length → f t.er (ers n A) = some S' →
  (∀ A' σ' H', Rel g Γ n A' σ' H' → NextM n xs A A' → ers n A' = S' → (∀ j : Nat, j ∉ xs → σ'[j]? = σ[j]?) → Q σ' H') → tg t.root σ H Q
def gSet (z : Bool) (i : Nat) : D → Sg → Option Sg := fun d S => some (S.set i (some (fzIf z d)))
theorem meang_name {z : Bool} {i : Nat} (hi : i < n) : MeanG g n [i] (gName i) (gSet z i) := by
  intro Γ A t σ H Q S' Rr hn e h
  unfold gSet at e
  have e : (ers n A).set i (some (Lin.fzIf z t.er)) = S' := by simpa using e
  have R2 := (Rr.fzIf hn z).assign hn hi
  rw [fz_root] at R2
  have ne : ∀ {j : Nat}, j ∉ [i] → i ≠ j := fun {j} hj z => hj (by simp [z])
  refine h _ _ _ R2 ⟨next_set hi _ (.refl _), fun j _ hj => .inl (List.getElem?_set_ne (ne hj))⟩ ?_ fun j hj => ?_
  · rw [ers_set hi, ← e]
    simp [fz_er]
  · have : j ≠ i := by simpa using hj
    rw [List.getElem?_set_ne (Ne.symm this)]
/-- target = value -/
def cAsg (tg : D → Sg → Option Sg) (f : Sg → R D) : Sg → R Fl := fun S => (f S).bind fun d S1 => match tg d S1 with
  | some S2 => .ok .nx S2
  | none => .bad
theorem mean_asg {xs : List Nat} {te : TE} {tg : TG} {f : Sg → R D} {fg : D → Sg → Option Sg} (he : MeanE g n W M1 te f) (hg : MeanG g n xs tg fg) : MeanS g n W (M1 ++ xs.map (n + ·)) (tAsg te tg) (cAsg fg f) := by
  intro Γ A σ H D Rr cl h
  refine he Γ A σ H _ Rr cl.left ?_
  unfold cAsg at h
  cases ea : f (ers n A) with
  | bad => rw [ea] at h; exact h.elim
  | exc c d S => rw [ea] at h; exact fun A' t H' R x e => h A' t σ H' R (x.toS _ _) e
  | ok d S1 =>
    rw [ea] at h
    dsimp only [Lin.R.bind] at h
    intro A1 t1 H1 R1 x1 e1 d1
    cases eg : fg d S1 with
    | none => rw [eg] at h; exact h.elim
    | some S2 =>
      rw [eg] at h
      refine hg Γ A1 t1 σ H1 _ S2 R1 (by rw [x1.len]; exact Rr.len) (by rw [d1, e1]; exact eg) fun A2 σ2 H2 R2 x2 e2 hk => ?_
      exact h A2 σ2 H2 R2 ⟨x1.toNext.trans x2.toNext, fun j hj => hk j fun z => hj (List.mem_append_right _ (List.mem_map.mpr ⟨j, z, rfl⟩))⟩ e2
/-! ### while -/
def whileL (fc : Sg → R Bool) (fb : Sg → R Fl) : Nat → Sg → R Fl
  | 0, _ => .bad
  | k + 1, S => (fc S).bind fun b S1 => if b = true then (fb S1).bind fun fl S2 => match fl with
      | .nx => whileL fc fb k S2
      | .cnt => whileL fc fb k S2
      | .brk => .ok .nx S2
      | .ret d => .ok (.ret d) S2
    else .ok .nx S1
theorem mean_while {tc : TT} {tb : TS} {fc : Sg → R Bool} {fb : Sg → R Fl} (k : Nat) (hc : MeanT g n W M1 tc fc) (hb : MeanS g n W M2 tb fb) : MeanS g n W (M1 ++ M2) (tWhile tc tb) (whileL fc fb k) := by
  intro Γ A σ H D Rr cl h
  refine ⟨fun m σ' H' => ∃ A', Rel g Γ n A' σ' H' ∧ NextS n M2 A A' σ σ' ∧ whileL fc fb m (ers n A') = whileL fc fb k (ers n A), ⟨k, A, Rr, .refl _ _ _, rfl⟩, ?_⟩
  have mr : ∀ r ∈ M2, r ∈ M1 ++ M2 := fun r hr => List.mem_append_right _ hr
  have mm : ∀ r ∈ M2 ++ M2, r ∈ M2 := fun r hr => (List.mem_append.mp hr).elim id id
  rintro m σ1 H1 ⟨A1, R1, x1, e1⟩
  rw [← e1] at h
  have n1 : n ≤ A1.length := R1.len
  cases m with
  | zero => exact h.elim
  | succ m =>
    rw [whileL] at h
    refine hc Γ A1 σ1 H1 _ R1 (cl.left.next x1.toNext Rr.len) ?_
    cases ec : fc (ers n A1) with
    | bad => rw [ec] at h; exact h.elim
    | exc c d S => rw [ec] at h; exact fun A' t H' R x e => h A' t σ1 H' R (((x1.trans (x.toS [] _)).mono (by simpa using mr))) e
    | ok b S1 =>
      rw [ec] at h
      dsimp only [Lin.R.bind] at h
      intro A2 H2 R2 x2 e2
      replace x2 := x2.toNext
      cases b with
      | false =>
        rw [if_neg Bool.false_ne_true] at h ⊢
        exact h A2 σ1 H2 R2 ((x1.trans (x2.toS [] _)).mono (by simpa using mr)) e2
      | true =>
        rw [if_pos rfl] at h ⊢
        have e0 : whileL fc fb (m + 1) (ers n A1) = (fb S1).bind fun fl S2 => match fl with
            | .nx => whileL fc fb m S2
            | .cnt => whileL fc fb m S2
            | .brk => .ok .nx S2
            | .ret d => .ok (.ret d) S2 := by
          rw [whileL, ec]
          dsimp only [Lin.R.bind]
          rw [if_pos rfl]
        refine ⟨fun σ' H' => ∃ A', Rel g Γ n A' σ' H' ∧ NextS n M2 A A' σ σ' ∧ whileL fc fb m (ers n A') = whileL fc fb k (ers n A), fun σ' H' hN => ⟨m, Nat.lt_succ_self m, hN⟩, ?_⟩
        have x12 : NextS n M2 A A2 σ σ1 := (x1.trans (x2.toS [] _)).mono (by simp)
        refine hb Γ A2 σ1 H2 _ R2 (cl.right.next x12.toNext Rr.len) ?_
        rw [e2]
        cases eb : fb S1 with
        | bad => rw [eb] at h; exact h.elim
        | exc c d S => rw [eb] at h; exact fun A' t σ' H' R x e => h A' t σ' H' R ((x12.trans x).mono fun r hr => mr r (mm r hr)) e
        | ok fl S2 =>
          rw [eb] at h e0
          dsimp only [Lin.R.bind] at h e0
          cases fl with
          | nx => exact fun A3 σ3 H3 R3 x3 e3 => ⟨A3, R3, (x12.trans x3).mono mm, by rw [e3, ← e1, e0]⟩
          | cnt => exact fun A3 σ3 H3 R3 x3 e3 => ⟨A3, R3, (x12.trans x3).mono mm, by rw [e3, ← e1, e0]⟩
          | brk => exact fun A3 σ3 H3 R3 x3 e3 => h A3 σ3 H3 R3 ((x12.trans x3).mono fun r hr => mr r (mm r hr)) e3
          | ret d => exact fun A3 t σ3 H3 R3 x3 e3 => h A3 t σ3 H3 R3 ((x12.trans x3).mono fun r hr => mr r (mm r hr)) e3
end
/-! ### what is walked -/
/-- J yields the trees us, one a turn, in every heap where t stands -/
structure Follows (J : It) (us : List T) (H : Hp) : Prop where
  go : ∀ (i : Nat) (u : T), us[i]? = some u → J.go i H ∧ ∀ x H', J.yld i H x H' → x = u.root ∧ H' = H
  stop : J.stop us.length H
section
variable (g : Gc) (n : Nat) (W : WX)
def PostI (M : List Nat) (Γ : Gh) (A : List (Option T)) (σ : L2.St) (Q : It → Hp → Prop) : R (D × List D) → Prop
  | .ok p S => ∀ A' (t : T) (us : List T) J H', Rel g Γ n (A' ++ [some t]) σ H' → NextM n M A A' → ers n A' = S → t.er = p.1 → us.map T.er = p.2 → (∀ u ∈ us, ∀ c ∈ u.cells g, c.1 ≠ .own ∧ c ∈ t.cells g) →
      (∀ Hx : Hp, (∀ c ∈ t.cells g, Hx c.2.1 = some c.2.2) → Follows J us Hx) → Q J H'
  | .exc c d S => PostX g n W Γ A c d S σ
  | .bad => False
def MeanI (M : List Nat) (wi : TI) (f : Sg → R (D × List D)) : Prop := ∀ Γ A σ H Q, Rel g Γ n A σ H → Clean g n M A → PostI g n W M Γ A σ Q (f (ers n A)) → wi σ H Q
end
def iSeq (fa : Sg → R D) (s : Sh) : Sg → R (D × List D) := fun S => (fa S).bind fun d S1 => match d with
  | .nd k s' ds => if s' = s then .ok (D.mk kFz (.nd k s' ds), ds.map (D.mk kFz)) S1 else .bad
  | _ => .bad
def iRng (lo hi : Int) : D × List D := (.im .non, (List.range (hi - lo).toNat).map fun k : Nat => .im (.int (lo + (k : Int))))
def rngOk (i : Int) : Bool := decide (-(2 ^ 62) ≤ i) && decide (i < 2 ^ 62)
def iRng1F (fa : Sg → R (List D)) : Sg → R (D × List D) := fun S => (fa S).bind fun ds S1 => match ds with
  | [.im (.int hi)] => if rngOk hi then .ok (iRng 0 hi) S1 else .bad
  | _ => .bad
def iRng2F (fa : Sg → R (List D)) : Sg → R (D × List D) := fun S => (fa S).bind fun ds S1 => match ds with
  | [.im (.int lo), .im (.int hi)] => if rngOk lo && rngOk hi then .ok (iRng lo hi) S1 else .bad
  | _ => .bad
section
variable {g : Gc} {n : Nat} {W : WX} {Γ : Gh} {A A' A'' B : List (Option T)} {σ : L2.St} {H H' : Hp} {t : T} {M M1 M2 M3 : List Nat}
theorem cells_child_mk {a : Addr} {k : Kd} {s : Sh} {dx : Addr} {ts : List T} {u : T} (h : u ∈ ts.map (T.mk kFz)) {c : Cell} (hc : c ∈ u.cells g) : c.1 ≠ .own ∧ c ∈ ((T.nd a k s dx ts).mk kFz).cells g := by
  obtain ⟨v, hv, rfl⟩ := List.mem_map.mp h
  refine ⟨kFz_ne hc, ?_⟩
  rw [T.mk, T.cells, mkL_eq, cellsL_eq]
  exact List.mem_cons_of_mem _ (List.mem_flatMap.mpr ⟨_, List.mem_map_of_mem hv, hc⟩)
theorem meani_list {K : PySem.W.Frag} {ta : TE} {fa : Sg → R D} (ha : MeanE g n W M1 ta fa) : MeanI g n W M1 (iList K ta) (iSeq fa .lst) := by
  intro Γ A σ H Q Rr cl h
  refine ha Γ A σ H _ Rr cl ?_
  unfold iSeq at h
  cases ea : fa (ers n A) with
  | bad => rw [ea] at h; exact h.elim
  | exc c d S => rw [ea] at h; exact h
  | ok d S1 =>
    rw [ea] at h
    dsimp only [Lin.R.bind] at h
    intro A1 t1 H1 R1 x1 e1 d1
    have n1 : n ≤ A1.length := by rw [x1.len]; exact Rr.len
    split at h
    · rename_i k s' ds
      split at h
      · rename_i hs
        subst hs
        obtain ⟨a, dx, ts, rfl, h1⟩ := er_nd d1
        refine ⟨a, rfl, ⟨_, SqL.of R1.top1⟩, ?_⟩
        refine h A1 ((T.nd a k .lst dx ts).mk kFz) (ts.map (T.mk kFz)) (Itl K a) H1 (R1.freeze n1) x1 e1 (by rw [er_mk, d1]) (by rw [← h1]; simp [er_mk]) (fun u hu c hc => cells_child_mk hu hc) fun Hx hx => ?_
        have ha : Hx a = some (.lst (ts.map T.root)) := by
          have := hx ((kFz k), a, ho g .lst dx ((mkL kFz ts).map T.root)) (by rw [T.mk, T.cells]; exact List.mem_cons_self)
          rw [roots_mk] at this
          exact this
        have inj : ∀ xs, SqL K Hx a xs → xs = xs := fun _ _ => rfl
        refine ⟨fun i u hu => ?_, ⟨_, SqL.of ha, by simp⟩⟩
        rw [List.getElem?_map] at hu
        cases q : ts[i]? with
        | none => rw [q] at hu; cases hu
        | some v =>
          rw [q] at hu
          have hu : v.mk kFz = u := by simpa using hu
          have hv : (ts.map T.root)[i]? = some v.root := by rw [List.getElem?_map, q]; rfl
          refine ⟨⟨_, _, SqL.of ha, hv⟩, fun x H' y => ?_⟩
          obtain ⟨e, y⟩ := y
          refine ⟨?_, e⟩
          have := y _ (SqL.of ha)
          rw [hv] at this
          rw [← hu, root_mk]
          exact (Option.some.inj this).symm
      · exact h.elim
    · exact h.elim
theorem meani_tup {K : PySem.W.Frag} {ta : TE} {fa : Sg → R D} (ha : MeanE g n W M1 ta fa) : MeanI g n W M1 (iTup K ta) (iSeq fa .tup) := by
  intro Γ A σ H Q Rr cl h
  refine ha Γ A σ H _ Rr cl ?_
  unfold iSeq at h
  cases ea : fa (ers n A) with
  | bad => rw [ea] at h; exact h.elim
  | exc c d S => rw [ea] at h; exact h
  | ok d S1 =>
    rw [ea] at h
    dsimp only [Lin.R.bind] at h
    intro A1 t1 H1 R1 x1 e1 d1
    have n1 : n ≤ A1.length := by rw [x1.len]; exact Rr.len
    split at h
    · rename_i k s' ds
      split at h
      · rename_i hs
        subst hs
        obtain ⟨a, dx, ts, rfl, h1⟩ := er_nd d1
        refine ⟨a, rfl, ⟨_, SqT.of R1.top1⟩, ?_⟩
        refine h A1 ((T.nd a k .tup dx ts).mk kFz) (ts.map (T.mk kFz)) (Itt K a) H1 (R1.freeze n1) x1 e1 (by rw [er_mk, d1]) (by rw [← h1]; simp [er_mk]) (fun u hu c hc => cells_child_mk hu hc) fun Hx hx => ?_
        have ha : Hx a = some (.tup (ts.map T.root)) := by
          have := hx ((kFz k), a, ho g .tup dx ((mkL kFz ts).map T.root)) (by rw [T.mk, T.cells]; exact List.mem_cons_self)
          rw [roots_mk] at this
          exact this
        refine ⟨fun i u hu => ?_, ⟨_, SqT.of ha, by simp⟩⟩
        rw [List.getElem?_map] at hu
        cases q : ts[i]? with
        | none => rw [q] at hu; cases hu
        | some v =>
          rw [q] at hu
          have hu : v.mk kFz = u := by simpa using hu
          have hv : (ts.map T.root)[i]? = some v.root := by rw [List.getElem?_map, q]; rfl
          refine ⟨⟨_, _, SqT.of ha, hv⟩, fun x H' y => ?_⟩
          obtain ⟨e, y⟩ := y
          refine ⟨?_, e⟩
          have := y _ (SqT.of ha)
          rw [hv] at this
          rw [← hu, root_mk]
          exact (Option.some.inj this).symm
      · exact h.elim
    · exact h.elim
theorem follows_rng (lo hi : Int) (Hx : Hp) : Follows (Itr lo (hi - lo).toNat) ((List.range (hi - lo).toNat).map fun k : Nat => T.im (.int (lo + (k : Int)))) Hx := by
  refine ⟨fun i u hu => ?_, by show _ ≤ _; simp⟩
  rw [List.getElem?_map] at hu
  cases q : (List.range (hi - lo).toNat)[i]? with
  | none => rw [q] at hu; cases hu
  | some k =>
    rw [q] at hu
    have hi' : i < (hi - lo).toNat := by have := (List.getElem?_eq_some_iff.mp q).1; simpa using this
    have hk : k = i := by
      rw [List.getElem?_range hi'] at q
      exact (Option.some.inj q).symm
    subst hk
    have hu : T.im (.int (lo + (k : Int))) = u := by simpa using hu
    refine ⟨hi', fun x H' y => ?_⟩
    obtain ⟨e, y⟩ := y
    exact ⟨by rw [← hu, y]; rfl, e⟩
theorem er_one {ts : List T} {x : D} (h : ts.map T.er = [x]) : ∃ t, ts = [t] ∧ t.er = x := by
  cases ts with
  | nil => cases h
  | cons t r =>
    cases r with
    | nil => exact ⟨t, rfl, by simpa using h⟩
    | cons _ _ => simp at h
theorem er_two {ts : List T} {x y : D} (h : ts.map T.er = [x, y]) : ∃ t u, ts = [t, u] ∧ t.er = x ∧ u.er = y := by
  cases ts with
  | nil => cases h
  | cons t r =>
    rw [List.map_cons, List.cons.injEq] at h
    obtain ⟨u, hu, eu⟩ := er_one h.2
    exact ⟨t, u, by rw [hu], h.1, eu⟩
theorem rngOk_iff {i : Int} (h : rngOk i = true) : -(2 ^ 62) ≤ i ∧ i < 2 ^ 62 := by
  unfold rngOk at h
  simpa using h
theorem meani_rng1 {ta : TA} {fa : Sg → R (List D)} (ha : MeanA g n W M1 ta fa) : MeanI g n W M1 (iRng1 ta) (iRng1F fa) := by
  intro Γ A σ H Q Rr cl h
  refine ha Γ A σ H _ Rr cl ?_
  unfold iRng1F at h
  cases ea : fa (ers n A) with
  | bad => rw [ea] at h; exact h.elim
  | exc c d S => rw [ea] at h; exact h
  | ok ds S1 =>
    rw [ea] at h
    dsimp only [Lin.R.bind] at h
    intro A1 ts H1 R1 x1 e1 d1
    have n1 : n ≤ A1.length := by rw [x1.len]; exact Rr.len
    split at h
    · rename_i hi
      split at h
      · rename_i ok
        obtain ⟨b1, b2⟩ := rngOk_iff ok
        · obtain ⟨t1, ht, d2⟩ := er_one d1
          subst ht
          rw [er_im d2]
          refine ⟨hi, rfl, b1, b2, ?_⟩
          refine h A1 (.im .non) ((List.range (hi - 0).toNat).map fun k : Nat => T.im (.int (0 + (k : Int)))) (Itr 0 hi.toNat) H1 (R1.imm n1 _) x1 e1 rfl ?_ ?_ fun Hx _ => (by have := follows_rng 0 hi Hx; rw [Int.sub_zero] at this ⊢; exact this)
          · simp [iRng, T.er]
          · intro u hu c hc
            obtain ⟨k, _, rfl⟩ := List.mem_map.mp hu
            simp [T.cells] at hc
      · exact h.elim
    · exact h.elim
theorem meani_rng2 {ta : TA} {fa : Sg → R (List D)} (ha : MeanA g n W M1 ta fa) : MeanI g n W M1 (iRng2 ta) (iRng2F fa) := by
  intro Γ A σ H Q Rr cl h
  refine ha Γ A σ H _ Rr cl ?_
  unfold iRng2F at h
  cases ea : fa (ers n A) with
  | bad => rw [ea] at h; exact h.elim
  | exc c d S => rw [ea] at h; exact h
  | ok ds S1 =>
    rw [ea] at h
    dsimp only [Lin.R.bind] at h
    intro A1 ts H1 R1 x1 e1 d1
    have n1 : n ≤ A1.length := by rw [x1.len]; exact Rr.len
    split at h
    · rename_i lo hi
      split at h
      · rename_i ok
        rw [Bool.and_eq_true] at ok
        obtain ⟨b1, b2⟩ := rngOk_iff ok.1
        obtain ⟨b3, b4⟩ := rngOk_iff ok.2
        · obtain ⟨t1, t2, ht, d2, d3⟩ := er_two d1
          subst ht
          rw [er_im d2, er_im d3]
          refine ⟨lo, hi, rfl, ⟨b1, b2, b3, b4⟩, ?_⟩
          refine h A1 (.im .non) ((List.range (hi - lo).toNat).map fun k : Nat => T.im (.int (lo + (k : Int)))) (Itr lo (hi - lo).toNat) H1 (R1.imm n1 _) x1 e1 rfl ?_ ?_ fun Hx _ => follows_rng lo hi Hx
          · simp [iRng, T.er]
          · intro u hu c hc
            obtain ⟨k, _, rfl⟩ := List.mem_map.mp hu
            simp [T.cells] at hc
      · exact h.elim
    · exact h.elim
/-! ### for -/
def forL (tg : D → Sg → Option Sg) (fb : Sg → R Fl) : List D → Sg → R Fl
  | [], S => .ok .nx S
  | d :: r, S => match tg d S with
    | none => .bad
    | some S0 => (fb S0).bind fun fl S1 => match fl with
      | .nx => forL tg fb r S1
      | .cnt => forL tg fb r S1
      | .brk => .ok .nx S1
      | .ret d => .ok (.ret d) S1
def cFor (Mb : List Nat) (tg : D → Sg → Option Sg) (fi : Sg → R (D × List D)) (fb : Sg → R Fl) : Sg → R Fl := fun S => (fi S).bind fun p S1 => if cleanD Mb p.1 then forL tg fb p.2 S1 else .bad
theorem mean_for {xs : List Nat} {wi : TI} {g1 : TG} {tb : TS} {fi : Sg → R (D × List D)} {tg : D → Sg → Option Sg} {fb : Sg → R Fl} (hi : MeanI g n W M1 wi fi) (hg : MeanG g n xs g1 tg) (hb : MeanS g n W M2 tb fb) :
    MeanS g n W (M1 ++ (xs.map (n + ·) ++ M2)) (tFor wi g1 tb) (cFor M2 tg fi fb) := by
  intro Γ A σ H D Rr cl h
  refine hi Γ A σ H _ Rr cl.left ?_
  unfold cFor at h
  cases ei : fi (ers n A) with
  | bad => rw [ei] at h; exact h.elim
  | exc c d S => rw [ei] at h; exact fun A' t H' R x e => h A' t σ H' R (x.toS _ _) e
  | ok p S0 =>
    rw [ei] at h
    dsimp only [Lin.R.bind] at h
    by_cases hc : cleanD M2 p.1 = true
    · rw [if_pos hc] at h
      intro A0 t us J H0 R0 x0 e0 d0 du hus hJ
      replace x0 := x0.toNext
      have n0 : n ≤ A0.length := by rw [x0.len]; exact Rr.len
      have mm : ∀ r ∈ (xs.map (n + ·) ++ M2) ++ (xs.map (n + ·) ++ M2), r ∈ xs.map (n + ·) ++ M2 := fun r hr => (List.mem_append.mp hr).elim id id
      have mr : ∀ r ∈ xs.map (n + ·) ++ M2, r ∈ M1 ++ (xs.map (n + ·) ++ M2) := fun r hr => List.mem_append_right _ hr
      refine ⟨fun i m σ' H' => m = us.length - i ∧ i ≤ us.length ∧ ∃ A', Rel g Γ n (A' ++ [some t]) σ' H' ∧ NextS n (xs.map (n + ·) ++ M2) A A' σ σ' ∧ forL tg fb (p.2.drop i) (ers n A') = forL tg fb p.2 S0,
        ⟨us.length, by simp, Nat.zero_le _, A0, R0, x0.toS _ _, by rw [e0, List.drop_zero]⟩, ?_⟩
      rintro i m σ1 H1 ⟨rfl, hi, A1, R1, x1, e1⟩
      have n1 : n ≤ A1.length := by rw [x1.len]; exact Rr.len
      have hold : ∀ c ∈ t.cells g, H1 c.2.1 = some c.2.2 := fun c hc => R1.hold A1.length c (cellAt_snoc.mpr (.inr ⟨rfl, hc⟩))
      have fol := hJ H1 hold
      rw [← e1] at h
      by_cases hlt : i < us.length
      · obtain ⟨go, yl⟩ := fol.go i us[i] (by simp [hlt])
        refine .inr ⟨go, fun σ' H' => ∃ A', Rel g Γ n (A' ++ [some t]) σ' H' ∧ NextS n (xs.map (n + ·) ++ M2) A A' σ σ' ∧ forL tg fb (p.2.drop (i + 1)) (ers n A') = forL tg fb p.2 S0,
          fun σ' H' ⟨A', r1, r2, r3⟩ => ⟨us.length - (i + 1), by omega, rfl, hlt, A', r1, r2, r3⟩, fun x H' y => ?_⟩
        obtain ⟨rfl, rfl⟩ := yl x H' y
        have hp : p.2.drop i = us[i].er :: p.2.drop (i + 1) := by
          have hl : i < p.2.length := by rw [← du, List.length_map]; exact hlt
          have : us[i].er = p.2[i] := by simp [← du]
          rw [this, List.getElem_cons_drop]
        rw [hp] at h e1
        rw [forL] at h e1
        -- the item as a temp
        have Rd : Rel g Γ n (A1 ++ [some t] ++ [some us[i]]) σ1 H' := R1.dup fun c hc => by
          obtain ⟨q1, q2⟩ := hus us[i] (List.getElem_mem hlt) c hc
          exact ⟨q1, A1.length, cellAt_snoc.mpr (.inr ⟨rfl, q2⟩)⟩
        have nA : n ≤ (A1 ++ [some t]).length := by rw [List.length_append]; omega
        cases et : tg us[i].er (ers n A1) with
        | none => rw [et] at h; exact h.elim
        | some S1 =>
          rw [et] at h e1
          dsimp only at h e1
          refine hg Γ (A1 ++ [some t]) us[i] σ1 H' _ S1 Rd nA (by rw [ers_append n1]; exact et) fun A2 σ2 H2 R2 x2 e2 hk => ?_
          replace x2 := x2.toNext
          obtain ⟨y2, z2⟩ := x2.left n1
          have n2 : n ≤ (A2.take A1.length).length := by rw [y2.len]; exact n1
          have cl2 : Clean g n M2 A2 := by
            rw [z2]
            exact ((cl.right.right.next x1.toNext Rr.len).next y2 n1).snoc (by rw [d0]; exact hc)
          refine hb Γ A2 σ2 H2 _ R2 cl2 ?_
          rw [e2]
          have out : ∀ {A3 : List (Option T)} {σ3 : L2.St}, NextS n M2 A2 A3 σ2 σ3 → NextS n (xs.map (n + ·) ++ M2) A (A3.take A1.length) σ σ3 ∧ A3 = A3.take A1.length ++ [some t] ∧ n ≤ (A3.take A1.length).length := fun {A3 σ3} x3 => by
            have x3' := x3.toNext
            rw [z2] at x3'
            obtain ⟨y3, z3⟩ := x3'.left n2
            have hl : (A2.take A1.length).length = A1.length := y2.len
            rw [hl] at y3 z3
            exact ⟨⟨(x1.toNext.trans y2).trans y3, fun j hj => by
              rw [List.mem_append, not_or] at hj
              rw [x3.keep j hj.2, hk j fun z => hj.1 (List.mem_map.mpr ⟨j, z, rfl⟩)]
              exact x1.keep j (by rw [List.mem_append, not_or]; exact hj)⟩, z3, by rw [y3.len]; exact n2⟩
          cases eb : fb S1 with
          | bad => rw [eb] at h; exact h.elim
          | exc c d S =>
            rw [eb] at h
            intro A3 t3 σ3 H3 R3 x3 e3 d3
            obtain ⟨q1, q2, q3⟩ := out x3
            rw [q2] at R3 e3
            exact h _ t3 σ3 H3 (R3.mid q3) (q1.mono mr) (by rw [ers_append q3] at e3; exact e3) d3
          | ok fl S2 =>
            rw [eb] at h e1
            dsimp only [Lin.R.bind] at h e1
            cases fl with
            | nx =>
              intro A3 σ3 H3 R3 x3 e3
              obtain ⟨q1, q2, q3⟩ := out x3
              rw [q2] at R3 e3
              exact ⟨_, R3, q1, by rw [ers_append q3] at e3; rw [e3, ← e1]⟩
            | cnt =>
              intro A3 σ3 H3 R3 x3 e3
              obtain ⟨q1, q2, q3⟩ := out x3
              rw [q2] at R3 e3
              exact ⟨_, R3, q1, by rw [ers_append q3] at e3; rw [e3, ← e1]⟩
            | brk =>
              intro A3 σ3 H3 R3 x3 e3
              obtain ⟨q1, q2, q3⟩ := out x3
              rw [q2] at R3 e3
              exact h _ σ3 H3 (R3.drop q3) (q1.mono mr) (by rw [ers_append q3] at e3; exact e3)
            | ret d =>
              intro A3 t3 σ3 H3 R3 x3 e3 d3
              obtain ⟨q1, q2, q3⟩ := out x3
              rw [q2] at R3 e3
              exact h _ t3 σ3 H3 (R3.mid q3) (q1.mono mr) (by rw [ers_append q3] at e3; exact e3) d3
      · have ei' : i = us.length := by omega
        subst ei'
        refine .inl ⟨fol.stop, ?_⟩
        rw [List.drop_of_length_le (by rw [← du, List.length_map]; exact Nat.le_refl _)] at h
        exact h A1 σ1 H1 (R1.drop n1) (x1.mono mr) rfl
    · rw [if_neg hc] at h; exact h.elim
end
end Lin
end
section
namespace Lin
open PySem L2
section
variable {g : Gc} {n : Nat} {W : WX} {Γ : Gh} {A A' A'' B : List (Option T)} {σ : L2.St} {H H' : Hp} {t : T} {M M1 M2 M3 : List Nat}
/-- an own address stands once in its tree -/
theorem Rel.only {i : Nat} (Rr : Rel g Γ n A σ H) (e : A[i]? = some (some t)) {l1 l2 : List Cell} {a : Addr} {o : HO} (h : t.cells g = l1 ++ (Kd.own, a, o) :: l2) : ∀ c ∈ l1 ++ l2, c.2.1 ≠ a := by
  intro c hc q
  have hct : c ∈ t.cells g := by
    rw [h]
    rcases List.mem_append.mp hc with z | z
    · exact List.mem_append_left _ z
    · exact List.mem_append_right _ (List.mem_cons_of_mem _ z)
  have hat : (Kd.own, a, o) ∈ t.cells g := by rw [h]; exact List.mem_append_right _ List.mem_cons_self
  rcases Rr.sep i i _ c ⟨t, e, hat⟩ ⟨t, e, hct⟩ rfl q with ⟨_, k⟩ | ⟨z, _⟩
  · have nd := Rr.nd i t e
    rw [h, ownsC_append] at nd
    have e2 : ownsC ((Kd.own, a, o) :: l2) = a :: ownsC l2 := by simp [ownsC]
    rw [e2] at nd
    obtain ⟨n1, n2, n3⟩ := List.nodup_append.mp nd
    rcases List.mem_append.mp hc with z | z
    · exact n3 a (mem_ownsC.mpr ⟨c, z, k, q⟩) a List.mem_cons_self rfl
    · exact (List.nodup_cons.mp n2).1 (mem_ownsC.mpr ⟨c, z, k, q⟩)
  · exact z rfl
theorem Rel.ndWith {r : Nat} (Rr : Rel g Γ n (A ++ B) σ H) (hn : n ≤ A.length) (e : A[r]? = some (some t)) : (ownsC (t.cells g) ++ B.flatMap (ownsO g)).Nodup := by
  have er : (A ++ B)[r]? = some (some t) := by rw [List.getElem?_append_left (List.getElem?_eq_some_iff.mp e).1]; exact e
  refine List.nodup_append.mpr ⟨Rr.nd r t er, Rr.ndB hn, fun a ha b hb q => ?_⟩
  subst q
  obtain ⟨c, hc, k1, k2⟩ := mem_ownsC.mp ha
  obtain ⟨o', ho', hb⟩ := List.mem_flatMap.mp hb
  cases o' with
  | none => cases hb
  | some u =>
    obtain ⟨d, hd, k3, k4⟩ := mem_ownsC.mp (show a ∈ ownsC (u.cells g) from hb)
    obtain ⟨j, hj, ej⟩ := List.getElem_of_mem ho'
    have hr := (List.getElem?_eq_some_iff.mp e).1
    rcases Rr.sep r (A.length + j) c d ⟨t, er, hc⟩ ⟨u, by rw [List.getElem?_append_right (by omega), Nat.add_sub_cancel_left, List.getElem?_eq_getElem hj, ej], hd⟩ k1 (by rw [k4, k2]) with ⟨z, _⟩ | ⟨_, z⟩
    · omega
    · rw [k3] at z; cases z
/-- no other cell of the temps B has an own address of the tree -/
theorem Rel.apart {r : Nat} (Rr : Rel g Γ n (A ++ B) σ H) (e : A[r]? = some (some t)) {a : Addr} {o : HO} (h : (Kd.own, a, o) ∈ t.cells g) (nb : ∀ i c, CellAt g B i c → c.1 ≠ .bor r) {i : Nat} {c : Cell} (hc : CellAt g B i c) : c.2.1 ≠ a := by
  intro q
  have er : (A ++ B)[r]? = some (some t) := by rw [List.getElem?_append_left (List.getElem?_eq_some_iff.mp e).1]; exact e
  have hr := (List.getElem?_eq_some_iff.mp e).1
  rcases Rr.sep r (A.length + i) _ c ⟨t, er, h⟩ (cellAt_append.mpr (.inr ⟨by omega, by rw [Nat.add_sub_cancel_left]; exact hc⟩)) rfl q with ⟨z, _⟩ | ⟨_, z⟩
  · omega
  · exact nb i c hc z
/-- at a path, an own node's content is changed: ts' and the result res are made of its children and of the temps us -/
theorem Rel.mutAt {r : Nat} {p : List Nat} {a dx : Addr} {s s' : Sh} {ts ts' us : List T} {res : T} {dropped : List Cell} (Rr : Rel g Γ n (A ++ us.map some) σ H) (hn : n ≤ A.length) (e : A[r]? = some (some t)) (nb : ∀ i c, CellAt g (A ++ us.map some) i c → c.1 ≠ .bor r)
    (hp : t.at p = some (.nd a .own s dx ts)) (hperm : (cellsL g ts' ++ res.cells g ++ dropped).Perm (cellsL g ts ++ cellsL g us)) :
    Rel g Γ n (A.set r (some (t.put p (.nd a .own s' dx ts'))) ++ [some res]) σ (upd H a (ho g s' dx (ts'.map T.root))) := by
  obtain ⟨pre, post, h1, h2⟩ := cells_put g p t (.nd a .own s' dx ts') (.nd a .own s dx ts) hp rfl
  have hrt : (t.put p (.nd a .own s' dx ts')).root = t.root := root_put p t _ _ hp rfl
  have hd : t.cells g = pre ++ (Kd.own, a, ho g s dx (ts.map T.root)) :: (cellsL g ts ++ post) := by rw [h1, T.cells]; simp
  have hd' : (t.put p (.nd a .own s' dx ts')).cells g = pre ++ (Kd.own, a, ho g s' dx (ts'.map T.root)) :: (cellsL g ts' ++ post) := by rw [h2, T.cells]; simp
  have er : (A ++ us.map some)[r]? = some (some t) := by rw [List.getElem?_append_left (List.getElem?_eq_some_iff.mp e).1]; exact e
  have only := Rr.only er hd
  have hat : (Kd.own, a, ho g s dx (ts.map T.root)) ∈ t.cells g := by rw [hd]; exact List.mem_append_right _ List.mem_cons_self
  have nbB : ∀ i c, CellAt g (us.map some) i c → c.1 ≠ .bor r := fun i c x => nb _ c (cellAt_append.mpr (.inr ⟨Nat.le_add_right A.length i, by rw [Nat.add_sub_cancel_left]; exact x⟩))
  have src : ∀ c, c ∈ cellsL g ts ++ cellsL g us → c.2.1 ≠ a ∧ (c ∈ t.cells g ∨ ∃ i, CellAt g (us.map some) i c) := fun c hc => by
    rcases List.mem_append.mp hc with z | z
    · exact ⟨only c (List.mem_append_right _ (List.mem_append_left _ z)), .inl (by rw [hd]; exact List.mem_append_right _ (List.mem_cons_of_mem _ (List.mem_append_left _ z)))⟩
    · obtain ⟨i, x⟩ := cellAt_map.mpr z
      exact ⟨Rr.apart e hat nbB x, .inr ⟨i, x⟩⟩
  have new : ∀ c, c ∈ cellsL g ts' ∨ c ∈ res.cells g → c ∈ cellsL g ts ++ cellsL g us := fun c hc => hperm.subset (by
    rcases hc with z | z
    · exact List.mem_append_left _ (List.mem_append_left _ z)
    · exact List.mem_append_left _ (List.mem_append_right _ z))
  refine Rr.mut (U := some res) hn e nb ⟨_, hat, rfl, rfl⟩ hrt (fun b o hb q => by rw [upd_ne hb]; exact q) (fun c hc => ?_) ?_
  · rcases hc with hc | ⟨u, hu, hc⟩
    · rw [hd'] at hc
      rcases List.mem_append.mp hc with z | z
      · exact .inr (.inl ⟨only c (List.mem_append_left _ z), .inl (by rw [hd]; exact List.mem_append_left _ z)⟩)
      · rcases List.mem_cons.mp z with rfl | z
        · exact .inl ⟨rfl, rfl, upd_same⟩
        · rcases List.mem_append.mp z with z | z
          · exact .inr (.inl (src c (new c (.inl z))))
          · exact .inr (.inl ⟨only c (List.mem_append_right _ (List.mem_append_right _ z)), .inl (by rw [hd]; exact List.mem_append_right _ (List.mem_cons_of_mem _ (List.mem_append_right _ z)))⟩)
    · cases hu
      exact .inr (.inl (src c (new c (.inr hc))))
  · have nd := Rr.ndWith hn e
    rw [flat_owns] at nd
    have hp2 : (ownsC (cellsL g ts' ++ res.cells g ++ dropped)).Perm (ownsC (cellsL g ts ++ cellsL g us)) := hperm.filterMap _
    rw [List.nodup_iff_count] at nd ⊢
    intro b
    have q1 := nd b
    have q2 := hp2.count_eq b
    rw [hd, hd'] at *
    simp only [ownsC_append, List.count_append, ownsO] at q1 q2 ⊢
    have e3 : ∀ (o : HO) (l : List Cell), List.count b (ownsC ((Kd.own, a, o) :: l)) = List.count b (ownsC l) + (if a == b then 1 else 0) := fun o l => by
      have : ownsC ((Kd.own, a, o) :: l) = a :: ownsC l := by simp [ownsC]
      rw [this, List.count_cons]
    rw [e3] at q1 ⊢
    simp only [ownsC_append, List.count_append] at q1 ⊢
    omega
end
/-! ### paths -/
section
variable (g : Gc) (n : Nat) (W : WX)
def PostP (r : Nat) (M : List Nat) (Γ : Gh) (A : List (Option T)) (σ : L2.St) (Q : VK) : R (List Nat) → Prop
  | .ok p S => ∀ A' H' (t u : T), Rel g Γ n A' σ H' → NextM n M A A' → ers n A' = S → A'[r]? = some (some t) → t.at p = some u → Q u.root H'
  | .exc c d S => PostX g n W Γ A c d S σ
  | .bad => False
def MeanP (r : Nat) (M : List Nat) (te : TE) (f : Sg → R (List Nat)) : Prop := ∀ Γ A σ H Q, Rel g Γ n A σ H → Clean g n M A → PostP g n W r M Γ A σ Q (f (ers n A)) → te σ H Q
end
def pVar (r : Nat) : Sg → R (List Nat) := fun S => match S[r]? with
  | some (some _) => .ok [] S
  | _ => .bad
def nodeAt (S : Sg) (r : Nat) (p : List Nat) : Option D := match S[r]? with
  | some (some d) => d.at p
  | _ => none
/-- the child's place -/
def ixPos (node di : D) : Option Nat := match node, di with
  | .nd _ .lst ds, .im (.int i) => ixN ds.length i
  | .nd _ .tup ds, .im (.int i) => ixN ds.length i
  | _, _ => none
def pIx (r : Nat) (M2 : List Nat) (fp : Sg → R (List Nat)) (fb : Sg → R D) : Sg → R (List Nat) := fun S => (fp S).bind fun p S1 => if r ∈ M2 then .bad else (fb S1).bind fun di S2 => match nodeAt S2 r p with
  | some node => match ixPos node di with
    | some j => .ok (p ++ [j]) S2
    | none => .bad
  | none => .bad
theorem at_append : ∀ (p q : List Nat) (t u : T), t.at p = some u → t.at (p ++ q) = u.at q
  | [], q, t, u, h => by
    have : t = u := by simpa [T.at] using h
    rw [this]; rfl
  | i :: p, q, .im _, u, h => by simp [T.at] at h
  | i :: p, q, .nd a k s dx ts, u, h => by
    simp only [T.at, List.cons_append] at h ⊢
    cases e : ts[i]? with
    | none => rw [e] at h; cases h
    | some v => rw [e] at h; exact at_append p q v u h
theorem nodeAt_some {n : Nat} {A : List (Option T)} {r : Nat} {p : List Nat} {d : D} (h : nodeAt (ers n A) r p = some d) : ∃ t u, A[r]? = some (some t) ∧ t.at p = some u ∧ u.er = d ∧ r < n := by
  unfold nodeAt at h
  split at h
  · rename_i d0 e
    obtain ⟨t, e1, e2, hr⟩ := ers_some e
    rw [← e2, er_at] at h
    cases q : t.at p with
    | none => rw [q] at h; cases h
    | some u => rw [q] at h; exact ⟨t, u, e1, q, by simpa using h, hr⟩
  · cases h
section
variable {g : Gc} {n : Nat} {W : WX} {Γ : Gh} {A A' A'' B : List (Option T)} {σ : L2.St} {H H' : Hp} {t : T} {M M1 M2 M3 : List Nat}
theorem cells_at {p : List Nat} {u : T} (h : t.at p = some u) : ∃ pre post, t.cells g = pre ++ u.cells g ++ post :=
  let ⟨pre, post, h1, _⟩ := cells_put g p t u u h rfl
  ⟨pre, post, h1⟩
theorem Rel.holdAt {r : Nat} {p : List Nat} {a dx : Addr} {k : Kd} {s : Sh} {ts : List T} (Rr : Rel g Γ n A σ H) (e : A[r]? = some (some t)) (h : t.at p = some (.nd a k s dx ts)) : H a = some (ho g s dx (ts.map T.root)) := by
  obtain ⟨pre, post, q⟩ := cells_at (g := g) h
  exact Rr.hold r (k, a, ho g s dx (ts.map T.root)) ⟨t, e, by rw [q, T.cells]; simp⟩
theorem meanp_var (r : Nat) : MeanP g n W r [] (tVar r) (pVar r) := by
  intro Γ A σ H Q Rr _ h
  unfold pVar at h
  split at h
  · rename_i d e
    obtain ⟨t, e1, e2, hi⟩ := ers_some e
    exact ⟨_, Rr.val r t hi e1, h A H t t Rr (.refl _ _) rfl e1 rfl⟩
  · exact h.elim
theorem meanp_ix {K : PySem.W.Frag} {r : Nat} {tp tb : TE} {fp : Sg → R (List Nat)} {fb : Sg → R D} (hp : MeanP g n W r M1 tp fp) (hb : MeanE g n W M2 tb fb) :
    MeanP g n W r (M1 ++ M2) (tOp (fun x y H Q => rIxL K x y H Q ∨ rIxT K x y H Q) tp tb) (pIx r M2 fp fb) := by
  intro Γ A σ H Q Rr cl h
  refine hp Γ A σ H _ Rr cl.left ?_
  unfold pIx at h
  cases ea : fp (ers n A) with
  | bad => rw [ea] at h; exact h.elim
  | exc c d S => rw [ea] at h; exact h
  | ok p S1 =>
    rw [ea] at h
    dsimp only [Lin.R.bind] at h
    by_cases hm : r ∈ M2
    · rw [if_pos hm] at h; exact h.elim
    · rw [if_neg hm] at h
      intro A1 H1 t u R1 x1 e1 et eu
      refine hb Γ A1 σ H1 _ R1 (cl.right.next x1.toNext Rr.len) ?_
      rw [e1]
      cases eb : fb S1 with
      | bad => rw [eb] at h; exact h.elim
      | exc c d S => rw [eb] at h; exact PostX.of h x1.toNext
      | ok di S2 =>
        rw [eb] at h
        dsimp only [Lin.R.bind] at h
        intro A2 ti H2 R2 x2 e2 d2
        have n2 : n ≤ A2.length := by rw [x2.len]; exact R1.len
        cases en : nodeAt S2 r p with
        | none => rw [en] at h; exact h.elim
        | some node =>
          rw [en] at h
          dsimp only at h
          cases ej : ixPos node di with
          | none => rw [ej] at h; exact h.elim
          | some j =>
            rw [ej] at h
            obtain ⟨t', u', et', eu', ed, hr⟩ := nodeAt_some (by rw [← e2] at en; exact en)
            have : t' = t := by
              rcases x2.slot r hr hm with q | q
              · rw [et', et] at q; simpa using q
              · rw [et'] at q; cases q
            subst this
            have : u' = u := by rw [eu] at eu'; exact (Option.some.inj eu').symm
            subst this
            have R2' := R2.drop n2
            have go : ∀ {a : Addr} {k : Kd} {s : Sh} {dx : Addr} {ts : List T} {i : Int}, u' = .nd a k s dx ts → ixN ts.length i = some j → atI (ts.map T.root) i = (ts[j]?).map T.root ∧ ∀ v, ts[j]? = some v → Q v.root H2 := fun {a k s dx ts i} eu2 hj => by
              refine ⟨?_, fun v hv => ?_⟩
              · unfold atI
                rw [List.length_map, hj]
                simp
              · refine h A2 H2 t' v R2' (x1.trans x2) e2 et' ?_
                rw [at_append p [j] t' u' eu, eu2]
                simp [T.at, hv]
            have ins : ∀ {ts : List T} {i : Int}, ixN ts.length i = some j → ∃ v, ts[j]? = some v := fun {ts i} hj => by
              obtain ⟨_, hlt, _⟩ := ixN_seq hj
              exact ⟨ts[j], List.getElem?_eq_getElem hlt⟩
            unfold ixPos at ej
            split at ej
            · rename_i k ds i
              obtain ⟨a, dx, ts, hu, hds⟩ := er_nd ed
              have hj : ixN ts.length i = some j := by rw [← hds, List.length_map] at ej; exact ej
              obtain ⟨v, hv⟩ := ins hj
              obtain ⟨q1, q2⟩ := go hu hj
              rw [hu, er_im d2]
              exact .inl ⟨a, _, i, v.root, rfl, rfl, SqL.of (R2'.holdAt et' (by rw [eu, hu])), by rw [q1, hv]; rfl, q2 v hv⟩
            · rename_i k ds i
              obtain ⟨a, dx, ts, hu, hds⟩ := er_nd ed
              have hj : ixN ts.length i = some j := by rw [← hds, List.length_map] at ej; exact ej
              obtain ⟨v, hv⟩ := ins hj
              obtain ⟨q1, q2⟩ := go hu hj
              rw [hu, er_im d2]
              exact .inr ⟨a, _, i, v.root, rfl, rfl, SqT.of (R2'.holdAt et' (by rw [eu, hu])), by rw [q1, hv]; rfl, q2 v hv⟩
            · cases ej
/-! ### a method that changes the node at a path -/
def nodeOk (okS : Sh → Bool) (S : Sg) (r : Nat) (p : List Nat) : Bool := match nodeAt S r p with
  | some (.nd _ s _) => okS s
  | _ => false
def cMutM (okS : Sh → Bool) (r : Nat) (M2 : List Nat) (fp : Sg → R (List Nat)) (fr : Sg → R (List D)) (op : Sh → List D → List D → Option (Sh × List D × D)) : Sg → R D := fun S => (fp S).bind fun p S1 => if r ∈ M2 ∨ nodeOk okS S1 r p = false then .bad else (fr S1).bind fun us S2 =>
  if us.all (fun d => !hasBor r d) then
    match nodeAt ((S2.map (killD r))) r p with
    | some (.nd .own s ds) => match op s ds us with
      | some (s', ds', res) => match (S2.map (killD r))[r]? with
        | some (some d) => .ok res ((S2.map (killD r)).set r (some (d.put p (.nd .own s' ds'))))
        | _ => .bad
      | none => .bad
    | _ => .bad
  else .bad
/-- what a method's rule must give: for an own node at a, its children ts, the arguments us -/
def MuM (g : Gc) (rr : V → List V → Hp → VK → Prop) (op : Sh → List D → List D → Option (Sh × List D × D)) : Prop :=
  ∀ (H : Hp) (a dx : Addr) (s : Sh) (ts us : List T) (s' : Sh) (ds' : List D) (dres : D), H a = some (ho g s dx (ts.map T.root)) → op s (ts.map T.er) (us.map T.er) = some (s', ds', dres) →
    ∃ (ts' : List T) (res : T) (dropped : List Cell), ts'.map T.er = ds' ∧ res.er = dres ∧ (cellsL g ts' ++ res.cells g ++ dropped).Perm (cellsL g ts ++ cellsL g us) ∧
      ∀ Q : VK, Q res.root (upd H a (ho g s' dx (ts'.map T.root))) → rr (.ref a) (us.map T.root) H Q
theorem kill_clean {r : Nat} (cl : Clean g n [r] A) : ∀ i c, CellAt g (kill n r A) i c → c.1 ≠ .bor r := fun j c ⟨u, eu, hc⟩ q => by
  obtain ⟨k1, k2⟩ := kill_get eu
  by_cases hj : j < n
  · have := k2 hj
    rw [(hasBor_iff (g := g)).mpr ⟨c, hc, q⟩] at this; cases this
  · exact cl r (by simp) j c (by omega) ⟨u, k1, hc⟩ q
theorem nextM_kill {r : Nat} (h : n ≤ A.length) (x : NextM n M A' A) : NextM n M A' (kill n r A) := ⟨⟨by rw [kill_length]; exact x.len, by
    have : (kill n r A).drop n = A.drop n := by
      unfold kill
      rw [List.drop_append_of_le_length (by simp; omega), List.drop_of_length_le (by simp; omega), List.nil_append]
    rw [this]; exact x.tmp⟩, fun i hi hm => by
  rcases kill_slot (r := r) h hi with q | q
  · rw [q]; exact x.slot i hi hm
  · exact .inr q⟩
theorem mean_mutM {K : PySem.W.Frag} {Tn : String} {r : Nat} {tp : TE} {ta : TA} {fp : Sg → R (List Nat)} {fr : Sg → R (List D)} {rr : V → List V → Hp → VK → Prop} {op : Sh → List D → List D → Option (Sh × List D × D)} (hp : MeanP g n W r M1 tp fp) (ha : MeanA g n W M2 ta fr) (ho : MuM g rr op)
    {okS : Sh → Bool} (hty : ∀ (H : Hp) (a dx : Addr) (s : Sh) (vs : List V), okS s = true → H a = some (Lin.ho g s dx vs) → tyV K Tn (.ref a) H) :
    MeanE g n W (M1 ++ M2 ++ [r]) (fun σ H Q => tp σ H fun x H1 => tyV K Tn x H1 ∧ ta σ H1 fun xs H2 => rr x xs H2 Q) (cMutM okS r M2 fp fr op) := by
  intro Γ A σ H Q Rr cl h
  refine hp Γ A σ H _ Rr cl.left.left ?_
  unfold cMutM at h
  cases ea : fp (ers n A) with
  | bad => rw [ea] at h; exact h.elim
  | exc c d S => rw [ea] at h; exact h
  | ok p S1 =>
    rw [ea] at h
    dsimp only [Lin.R.bind] at h
    by_cases hm0 : r ∈ M2 ∨ nodeOk okS S1 r p = false
    · rw [if_pos hm0] at h; exact h.elim
    · rw [if_neg hm0] at h
      obtain ⟨hm, hok⟩ := not_or.mp hm0
      intro A1 H1 t u R1 x1 e1 et eu
      have n1 : n ≤ A1.length := R1.len
      have ty : tyV K Tn u.root H1 := by
        unfold nodeOk at hok
        split at hok
        · rename_i k s ds en
          obtain ⟨t', u', et', eu', ed, hr⟩ := nodeAt_some (by rw [← e1] at en; exact en)
          have : t' = t := by rw [et] at et'; simpa using et'.symm
          subst this
          have : u' = u := by rw [eu] at eu'; exact (Option.some.inj eu').symm
          subst this
          obtain ⟨a, dx, ts, hu, hds⟩ := er_nd ed
          subst hu
          exact hty H1 a dx s _ (by simpa using hok) (R1.holdAt et eu)
        · exact absurd rfl hok
      have cl1 := cl.next x1.toNext Rr.len
      -- the args, and then the node again
      have main : ∀ us S2, fr S1 = .ok us S2 → PostE g n W (M1 ++ M2 ++ [r]) Γ A σ Q (if us.all (fun d => !hasBor r d) then
          match nodeAt ((S2.map (killD r))) r p with
          | some (.nd .own s ds) => match op s ds us with
            | some (s', ds', res) => match (S2.map (killD r))[r]? with
              | some (some d) => .ok res ((S2.map (killD r)).set r (some (d.put p (.nd .own s' ds'))))
              | _ => .bad
            | none => .bad
          | _ => .bad
        else .bad) → ∀ (A2 : List (Option T)) (ts2 : List T) (H2 : Hp), Rel g Γ n (A2 ++ ts2.map some) σ H2 → NextM n M2 A1 A2 → ers n A2 = S2 → ts2.map T.er = us → rr u.root (ts2.map T.root) H2 Q := fun us S2 eb h A2 ts2 H2 R2 x2 e2 d2 => by
        have n2 : n ≤ A2.length := by rw [x2.len]; exact n1
        by_cases hb : us.all (fun d => !hasBor r d) = true
        · rw [if_pos hb] at h
          rw [← e2, ← ers_kill n2] at h
          split at h
          · rename_i s ds en
            obtain ⟨t', u', et', eu', ed, hr⟩ := nodeAt_some en
            have et2 := (kill_get et').1
            have : t' = t := by
              rcases x2.slot r hr hm with q | q
              · rw [et2, et] at q; simpa using q
              · rw [et2] at q; cases q
            subst this
            have : u' = u := by rw [eu] at eu'; exact (Option.some.inj eu').symm
            subst this
            obtain ⟨a, dx, ts, hu, hds⟩ := er_nd ed
            subst hu
            split at h
            · rename_i s' ds' res eo
              have R2k : Rel g Γ n (kill n r A2 ++ ts2.map some) σ H2 := by
                have := R2.kill r
                rw [kill_append n2] at this
                exact this
              have hH : H2 a = some (Lin.ho g s dx (ts.map T.root)) := R2k.holdAt (r := r) (t := t') (by rw [List.getElem?_append_left (by rw [kill_length]; omega)]; exact et') eu
              obtain ⟨ts', res', dropped, k1, k2, k3, k4⟩ := ho H2 a dx s ts ts2 s' ds' res hH (by rw [hds, d2]; exact eo)
              have nbA : ∀ i c, CellAt g (kill n r A2 ++ ts2.map some) i c → c.1 ≠ .bor r := fun i c x => by
                rcases cellAt_append.mp x with x | ⟨_, x⟩
                · exact kill_clean (cl1.right.next x2.toNext n1) i c x
                · intro q
                  obtain ⟨v, hv, hc⟩ := x
                  rw [List.getElem?_map] at hv
                  cases q2 : ts2[i - (kill n r A2).length]? with
                  | none => rw [q2] at hv; cases hv
                  | some w =>
                    rw [q2] at hv
                    have : w = v := by simpa using hv
                    subst this
                    have hw : w.er ∈ us := by rw [← d2]; exact List.mem_map_of_mem (List.mem_of_getElem? q2)
                    have := List.all_eq_true.mp hb _ hw
                    rw [(hasBor_iff (g := g)).mpr ⟨c, hc, q⟩] at this
                    cases this
              have R3 := R2k.mutAt (s' := s') (ts' := ts') (res := res') (by rw [kill_length]; exact n2) et' nbA eu k3
              refine k4 Q ?_
              have ers1 : (ers n (kill n r A2))[r]? = some (some t'.er) := by rw [ers_get hr, et']; rfl
              rw [ers1] at h
              dsimp only at h
              refine h _ res' _ R3 ?_ ?_ k2
              · refine ⟨⟨?_, ?_⟩, fun i hi hmi => ?_⟩
                · rw [List.length_set, kill_length, x2.len, x1.len]
                · rw [List.drop_set_of_lt hr]
                  exact (nextM_kill (r := r) n2 (x1.trans x2)).tmp
                · rw [List.mem_append, not_or] at hmi
                  have : i ≠ r := by have := hmi.2; simpa using this
                  rw [List.getElem?_set_ne (Ne.symm this)]
                  exact (nextM_kill (r := r) n2 (x1.trans x2)).slot i hi hmi.1
              · rw [ers_set hr, Option.map_some, er_put]
                simp only [T.er, erL_eq, k1]
            · exact h.elim
          · exact h.elim
        · rw [if_neg hb] at h; exact h.elim
      cases eb : fr S1 with
      | bad => rw [eb] at h; exact h.elim
      | exc c d S =>
        rw [eb] at h
        exact ⟨ty, ha Γ A1 σ H1 _ R1 cl1.left.right (by rw [e1, eb]; exact PostX.of h x1.toNext)⟩
      | ok us S2 =>
        rw [eb] at h
        dsimp only [Lin.R.bind] at h
        exact ⟨ty, ha Γ A1 σ H1 _ R1 cl1.left.right (by rw [e1, eb]; exact fun A2 ts2 H2 R2 x2 e2 d2 => main us S2 eb h A2 ts2 H2 R2 x2 e2 d2)⟩
end
end Lin
end
section
namespace Lin
open PySem L2
/-! ### what a def means -/
inductive Rc where
  | ok (d : D) (ms : List D)
  | exc (c : Nat) (d : D) (ms : List D)
  | bad
/-- kinds of a result: own and frozen ones -/
def ofD (d : D) : Bool := d.kinds.all fun k => k == .own || k == .frz
def kPar : Kd → Kd := fun k => if k = .frz then .frz else .par
/-- by value: marked; by reference: own and frozen marks alone -/
def argD (m : Bool) (d : D) : D := if m = true then d else d.mk kPar
structure CallOk (g : Gc) (H : Hp) (mr : List Bool) (ts : List T) : Prop where
  len : ts.length = mr.length
  hold : ∀ c ∈ cellsL g ts, H c.2.1 = some c.2.2
  kind : ∀ (i : Nat) t, ts[i]? = some t → ∀ c ∈ t.cells g, c.1 = .frz ∨ (mr[i]? = some true ∧ c.1 = .own) ∨ (mr[i]? = some false ∧ c.1 = .par)
  nd : (ownsC (cellsL g ts)).Nodup
  sep : ∀ c ∈ cellsL g ts, ∀ d ∈ cellsL g ts, c.1 = .own → d.2.1 = c.2.1 → d.1 = .own
/-- those by reference -/
def refs {α : Type} : List Bool → List α → List α
  | true :: mr, x :: xs => x :: refs mr xs
  | false :: mr, _ :: xs => refs mr xs
  | _, _ => []
structure BackOk (g : Gc) (H H' : Hp) (mr : List Bool) (ts : List T) (t : T) (us : List T) : Prop where
  frame : ∀ a o, H a = some o → a ∉ ownsC (cellsL g ts) → H' a = some o
  hold : ∀ c ∈ t.cells g ++ cellsL g us, H' c.2.1 = some c.2.2
  kind : ∀ c ∈ t.cells g ++ cellsL g us, c.1 = .own ∨ c.1 = .frz
  nd : (ownsC (t.cells g ++ cellsL g us)).Nodup
  sep : ∀ c ∈ t.cells g ++ cellsL g us, ∀ d ∈ t.cells g ++ cellsL g us, c.1 = .own → d.2.1 = c.2.1 → d.1 = .own
  own : ∀ c ∈ t.cells g ++ cellsL g us, c.2.1 ∈ ownsC (cellsL g ts) ∨ H c.2.1 = none ∨ (c.1 = .frz ∧ ∃ d ∈ cellsL g ts, d.1 = .frz ∧ d.2.1 = c.2.1)
  root : us.map T.root = (refs mr ts).map T.root
abbrev FSem := List D → Rc
def spOf (g : Gc) (mr : List Bool) (sem : FSem) : Sp := fun vs H Q E => ∃ ts : List T, vs = ts.map T.root ∧ CallOk g H mr ts ∧
  match sem (ts.map T.er) with
  | .bad => False
  | .ok d ms => ∀ H' (t : T) (us : List T), BackOk g H H' mr ts t us → t.er = d → us.map T.er = ms → Q t.root H'
  | .exc c d ms => ∀ H' (t : T) (us : List T), BackOk g H H' mr ts t us → t.er = d → us.map T.er = ms → E (.ref (g.cl c)) (dictOf t) H'
/-! ### arguments of a call: by value or (a slot) by reference -/
section
variable (g : Gc) (n : Nat) (W : WX)
def PostC (rs : List (Option Nat)) (M : List Nat) (Γ : Gh) (A : List (Option T)) (σ : L2.St) (Q : List V → Hp → Prop) : R (List D) → Prop
  | .ok ds S => ∀ A' (ts : List T) H', Rel g Γ n (A' ++ ts.map some) σ H' → NextM n M A A' → ers n A' = S → ts.map T.er = ds →
      (∀ (i r : Nat), rs[i]? = some (some r) → ∃ t, ts[i]? = some t ∧ σ[r]? = some (some t.root) ∧ A'[r]? = some none ∧ r < n) → Q (ts.map T.root) H'
  | .exc c d S => PostX g n W Γ A c d S σ
  | .bad => False
def MeanC (rs : List (Option Nat)) (M : List Nat) (ta : TA) (f : Sg → R (List D)) : Prop := ∀ Γ A σ H Q, Rel g Γ n A σ H → Clean g n M A → PostC g n W rs M Γ A σ Q (f (ers n A)) → ta σ H Q
end
def cRefs (r : Nat) (fr : Sg → R (List D)) : Sg → R (List D) := fun S => (cMv r S).bind fun d S1 => if ofD d = true then (fr S1).bind fun ds S2 => .ok (d :: ds) S2 else .bad
theorem ofD_iff {g : Gc} {t : T} : ofD t.er = true ↔ ∀ c ∈ t.cells g, c.1 = .own ∨ c.1 = .frz := by
  unfold ofD
  rw [kinds_er g, List.all_eq_true]
  simp only [List.mem_map, forall_exists_index, and_imp, forall_apply_eq_imp_iff₂, Bool.or_eq_true, beq_iff_eq]
section
variable {g : Gc} {n : Nat} {W : WX} {Γ : Gh} {A A' A'' B : List (Option T)} {σ : L2.St} {H H' : Hp} {t : T} {M M1 M2 M3 : List Nat}
theorem meanc_nil : MeanC g n W [] [] tNil cNil := by
  intro Γ A σ H Q Rr cl h
  have := h A [] H (by simpa using Rr) (.refl _ _) rfl rfl (fun i r e => by simp at e)
  exact this
theorem meanc_val {rs : List (Option Nat)} {ta : TE} {tr : TA} {fa : Sg → R D} {fr : Sg → R (List D)} (ha : MeanE g n W M1 ta fa) (hr : MeanC g n W rs M2 tr fr) : MeanC g n W (none :: rs) (M1 ++ M2) (tCons ta tr) (cCons M2 fa fr) := by
  intro Γ A σ H Q Rr cl h
  refine ha Γ A σ H _ Rr cl.left ?_
  unfold cCons at h
  cases ea : fa (ers n A) with
  | bad => rw [ea] at h; exact h.elim
  | exc c d S => rw [ea] at h; exact h
  | ok da S1 =>
    rw [ea] at h
    dsimp only [Lin.R.bind] at h
    intro A1 t1 H1 R1 x1 e1 d1
    by_cases hc : cleanD M2 da = true
    · rw [if_pos hc] at h
      have n1 : n ≤ A1.length := by rw [x1.len]; exact Rr.len
      refine hr Γ (A1 ++ [some t1]) σ H1 _ R1 ((cl.right.next x1.toNext Rr.len).snoc (by rw [d1]; exact hc)) ?_
      rw [ers_append n1, e1]
      cases eb : fr S1 with
      | bad => rw [eb] at h; exact h.elim
      | exc c d S =>
        rw [eb] at h
        intro A2 t2 H2 R2 x2 e2 d2
        obtain ⟨y, z⟩ := x2.left n1
        have n3 : n ≤ (A2.take A1.length).length := by rw [y.len]; exact n1
        rw [z] at R2 e2
        exact h (A2.take A1.length) t2 H2 (R2.mid n3) (x1.toNext.trans y) (by rw [ers_append n3] at e2; exact e2) d2
      | ok ds S2 =>
        rw [eb] at h
        dsimp only [Lin.R.bind] at h
        intro A2 ts H2 R2 x2 e2 d2 hk
        obtain ⟨y, z⟩ := x2.left n1
        have n3 : n ≤ (A2.take A1.length).length := by rw [y.len]; exact n1
        rw [z, List.append_assoc] at R2
        have := h (A2.take A1.length) (t1 :: ts) H2 (by simpa using R2) (x1.trans y) (by rw [z, ers_append n3] at e2; exact e2) (by simp [d1, d2]) (fun i r e => by
          cases i with
          | zero => simp at e
          | succ i =>
            obtain ⟨u, h1, h2, h3, h4⟩ := hk i r (by simpa using e)
            refine ⟨u, by simpa using h1, h2, ?_, h4⟩
            rw [z, List.getElem?_append_left (by omega)] at h3
            exact h3)
        exact this
    · rw [if_neg hc] at h; exact h.elim
theorem meanc_ref {rs : List (Option Nat)} {r : Nat} {tr : TA} {fr : Sg → R (List D)} (hr : MeanC g n W rs M2 tr fr) (hm : r ∉ M2) : MeanC g n W (some r :: rs) ([r] ++ M2) (tCons (tVar r) tr) (cRefs r fr) := by
  intro Γ A σ H Q Rr cl h
  unfold cRefs at h
  show tVar r σ H _
  unfold cMv at h
  split at h
  · rename_i d e
    obtain ⟨t, e1, e2, hi⟩ := ers_some e
    by_cases hb : hasBor r d = true
    · rw [if_pos hb] at h; exact h.elim
    · rw [if_neg hb] at h
      dsimp only [Lin.R.bind] at h
      refine ⟨_, Rr.val r t hi e1, ?_⟩
      have hb' : hasBor r t.er = false := by rw [e2]; simpa using hb
      have e3 : (kill n r A)[r]? = some (some t) := by
        unfold kill
        rw [List.getElem?_append_left (by simp; have := Rr.len; omega), List.getElem?_map, List.getElem?_take_of_lt hi, e1]
        show some (if hasBor r t.er then none else some t) = _
        rw [hb']; rfl
      have R2 := (Rr.kill r).move hi e3 (kill_clean cl.left)
      have nK : n ≤ ((kill n r A).set r none).length := by rw [List.length_set, kill_length]; exact Rr.len
      have x1 : NextM n [r] A ((kill n r A).set r none) := by
        refine ⟨⟨by rw [List.length_set, kill_length], ?_⟩, fun j hj hm => ?_⟩
        · rw [List.drop_set_of_lt hi]
          exact (nextM_kill (r := r) (M := []) Rr.len (.refl _ _)).tmp
        · have : j ≠ r := by simpa using hm
          rw [List.getElem?_set_ne (Ne.symm this)]
          exact kill_slot Rr.len hj
      by_cases hof : ofD d = true
      · rw [if_pos hof] at h
        have hk := (ofD_iff (g := g)).mp (by rw [e2]; exact hof)
        have cl2 : Clean g n M2 ((kill n r A).set r none ++ [some t]) := fun q hq i c hi2 x => by
          rcases cellAt_snoc.mp x with x | ⟨_, x⟩
          · exact (cl.right.next x1.toNext Rr.len) q hq i c hi2 x
          · intro z
            rcases hk c x with y | y <;> (rw [y] at z; cases z)
        refine hr Γ _ σ H _ R2 cl2 ?_
        have eS : ers n ((kill n r A).set r none ++ [some t]) = ((ers n A).map (killD r)).set r none := by
          rw [ers_append nK, ers_set hi, ers_kill Rr.len]; rfl
        rw [eS]
        cases eb : fr (((ers n A).map (killD r)).set r none) with
        | bad => rw [eb] at h; exact h.elim
        | exc c d S =>
          rw [eb] at h
          intro A2 t2 H2 R3 x2 e5 d2
          obtain ⟨y, z⟩ := x2.left nK
          have n3 : n ≤ (A2.take ((kill n r A).set r none).length).length := by rw [y.len]; exact nK
          rw [z] at R3 e5
          exact h _ t2 H2 (R3.mid n3) (x1.toNext.trans y) (by rw [ers_append n3] at e5; exact e5) d2
        | ok ds S2 =>
          rw [eb] at h
          dsimp only [Lin.R.bind] at h
          intro A2 ts H2 R3 x2 e5 d2 hkk
          obtain ⟨y, z⟩ := x2.left nK
          have hl : ((kill n r A).set r none).length = A.length := by rw [List.length_set, kill_length]
          have n3 : n ≤ (A2.take ((kill n r A).set r none).length).length := by rw [y.len]; exact nK
          have hrA : r < A.length := by have := Rr.len; omega
          have slr : (A2.take ((kill n r A).set r none).length)[r]? = some none := by
            rcases y.slot r hi hm with q | q
            · rw [q, List.getElem?_set_self (by rw [kill_length]; exact hrA)]
            · exact q
          rw [z, List.append_assoc] at R3
          have := h (A2.take ((kill n r A).set r none).length) (t :: ts) H2 (by simpa using R3) (x1.trans y) (by rw [z, ers_append n3] at e5; exact e5) (by simp [e2, d2]) (fun i r' e => by
            cases i with
            | zero =>
              have : r = r' := by simpa using e
              subst this
              exact ⟨t, rfl, Rr.val r t hi e1, slr, hi⟩
            | succ i =>
              obtain ⟨u, h1, h2, h3, h4⟩ := hkk i r' (by simpa using e)
              refine ⟨u, by simpa using h1, h2, ?_, h4⟩
              rw [z, List.getElem?_append_left (by rw [y.len, hl]; have := Rr.len; omega)] at h3
              exact h3)
          exact this
      · rw [if_neg hof] at h; exact h.elim
  · exact h.elim
end
end Lin
end
section
namespace Lin
open PySem L2
def setAll {α : Type} : List α → List Nat → List α → List α
  | A, r :: rs, u :: us => setAll (A.set r u) rs us
  | A, _, _ => A
theorem setAll_length {α : Type} : ∀ (A : List α) (rs : List Nat) (us : List α), (setAll A rs us).length = A.length
  | A, [], us => by cases us <;> rfl
  | A, _ :: _, [] => rfl
  | A, r :: rs, u :: us => by rw [setAll, setAll_length, List.length_set]
theorem setAll_out {α : Type} : ∀ (A : List α) (rs : List Nat) (us : List α) (i : Nat), i ∉ rs → (setAll A rs us)[i]? = A[i]?
  | A, [], us, i, _ => by cases us <;> rfl
  | A, _ :: _, [], i, _ => rfl
  | A, r :: rs, u :: us, i, h => by
    rw [List.mem_cons, not_or] at h
    rw [setAll, setAll_out _ rs us i h.2, List.getElem?_set_ne (Ne.symm h.1)]
theorem setAll_in {α : Type} : ∀ (A : List α) (rs : List Nat) (us : List α) (k i : Nat) (u : α), rs.Nodup → rs[k]? = some i → us[k]? = some u → i < A.length → (setAll A rs us)[i]? = some u
  | A, [], us, k, i, u, _, h, _, _ => by simp at h
  | A, _ :: _, [], k, i, u, _, _, h, _ => by simp at h
  | A, r :: rs, v :: us, 0, i, u, nd, h1, h2, hi => by
    simp at h1 h2
    subst h1; subst h2
    rw [setAll, setAll_out _ rs us r (List.nodup_cons.mp nd).1, List.getElem?_set_self hi]
  | A, r :: rs, v :: us, k + 1, i, u, nd, h1, h2, hi => by
    rw [setAll]
    exact setAll_in _ rs us k i u (List.nodup_cons.mp nd).2 (by simpa using h1) (by simpa using h2) (by rw [List.length_set]; exact hi)
theorem setAll_map {α β : Type} (f : α → β) : ∀ (A : List α) (rs : List Nat) (us : List α), (setAll A rs us).map f = setAll (A.map f) rs (us.map f)
  | A, [], us => by cases us <;> rfl
  | A, _ :: _, [] => rfl
  | A, r :: rs, u :: us => by
    rw [setAll, setAll_map f _ rs us, List.map_set]
    rfl
theorem setAll_take {α : Type} {n : Nat} : ∀ (A : List α) (rs : List Nat) (us : List α), (∀ r ∈ rs, r < n) → (setAll A rs us).take n = setAll (A.take n) rs us
  | A, [], us, _ => by cases us <;> rfl
  | A, _ :: _, [], _ => rfl
  | A, r :: rs, u :: us, h => by
    rw [setAll, setAll_take _ rs us (fun q hq => h q (List.mem_cons_of_mem _ hq)), List.take_set]
    rfl
theorem setAll_drop {α : Type} {n : Nat} : ∀ (A : List α) (rs : List Nat) (us : List α), (∀ r ∈ rs, r < n) → (setAll A rs us).drop n = A.drop n
  | A, [], us, _ => by cases us <;> rfl
  | A, _ :: _, [], _ => rfl
  | A, r :: rs, u :: us, h => by
    rw [setAll, setAll_drop _ rs us (fun q hq => h q (List.mem_cons_of_mem _ hq)), List.drop_set_of_lt (h r List.mem_cons_self)]
theorem nodup_flat {α β : Type} {f : α → List β} : ∀ {L : List α} {i j : Nat} {a b : α} {x : β}, (L.flatMap f).Nodup → L[i]? = some a → L[j]? = some b → x ∈ f a → x ∈ f b → i = j
  | [], i, j, a, b, x, _, h, _, _, _ => by simp at h
  | y :: L, 0, 0, a, b, x, _, _, _, _, _ => rfl
  | y :: L, 0, j + 1, a, b, x, nd, h1, h2, ha, hb => by
    rw [List.flatMap_cons] at nd
    simp at h1; subst h1
    exact absurd rfl ((List.nodup_append.mp nd).2.2 x ha x (List.mem_flatMap.mpr ⟨b, List.mem_of_getElem? (by simpa using h2), hb⟩))
  | y :: L, i + 1, 0, a, b, x, nd, h1, h2, ha, hb => by
    rw [List.flatMap_cons] at nd
    simp at h2; subst h2
    exact absurd rfl ((List.nodup_append.mp nd).2.2 x hb x (List.mem_flatMap.mpr ⟨a, List.mem_of_getElem? (by simpa using h1), ha⟩))
  | y :: L, i + 1, j + 1, a, b, x, nd, h1, h2, ha, hb => by
    rw [List.flatMap_cons] at nd
    rw [nodup_flat (i := i) (j := j) (List.nodup_append.mp nd).2.1 (by simpa using h1) (by simpa using h2) ha hb]
theorem refs_get {α : Type} : ∀ (rs : List (Option Nat)) (ts : List α) (k r : Nat), (rs.filterMap id)[k]? = some r → ts.length = rs.length → ∃ (i : Nat) (t : α), rs[i]? = some (some r) ∧ ts[i]? = some t ∧ (refs (rs.map Option.isSome) ts)[k]? = some t
  | [], ts, k, r, h, _ => by simp at h
  | none :: rs, [], k, r, _, h => by simp at h
  | none :: rs, x :: ts, k, r, h, hl => by
    obtain ⟨i, t, h1, h2, h3⟩ := refs_get rs ts k r (by simpa using h) (by simpa using hl)
    exact ⟨i + 1, t, by simpa using h1, by simpa using h2, by simpa [refs] using h3⟩
  | some q :: rs, [], k, r, _, h => by simp at h
  | some q :: rs, x :: ts, 0, r, h, hl => by
    refine ⟨0, x, ?_, rfl, by simp [refs]⟩
    simpa using h
  | some q :: rs, x :: ts, k + 1, r, h, hl => by
    obtain ⟨i, t, h1, h2, h3⟩ := refs_get rs ts k r (by simpa using h) (by simpa using hl)
    exact ⟨i + 1, t, by simpa using h1, by simpa using h2, by simpa [refs] using h3⟩
theorem refs_length {α : Type} : ∀ (rs : List (Option Nat)) (ts : List α), ts.length = rs.length → (refs (rs.map Option.isSome) ts).length = (rs.filterMap id).length
  | [], [], _ => rfl
  | [], _ :: _, h => by simp at h
  | _ :: _, [], h => by simp at h
  | none :: rs, x :: ts, h => by simpa [refs] using refs_length rs ts (by simpa using h)
  | some q :: rs, x :: ts, h => by simpa [refs] using refs_length rs ts (by simpa using h)
/-- the arguments as the callee sees them -/
def argsT : List (Option Nat) → List T → List T
  | some _ :: rs, t :: ts => t :: argsT rs ts
  | none :: rs, t :: ts => t.mk kPar :: argsT rs ts
  | _, _ => []
def argsD : List (Option Nat) → List D → List D
  | some _ :: rs, t :: ts => t :: argsD rs ts
  | none :: rs, t :: ts => t.mk kPar :: argsD rs ts
  | _, _ => []
theorem argsT_er : ∀ (rs : List (Option Nat)) (ts : List T), (argsT rs ts).map T.er = argsD rs (ts.map T.er)
  | [], [] => rfl
  | [], _ :: _ => rfl
  | none :: _, [] => rfl
  | some _ :: _, [] => rfl
  | some _ :: rs, t :: ts => by simp [argsT, argsD, argsT_er rs ts]
  | none :: rs, t :: ts => by simp [argsT, argsD, argsT_er rs ts, er_mk]
theorem argsT_root : ∀ (rs : List (Option Nat)) (ts : List T), ts.length = rs.length → (argsT rs ts).map T.root = ts.map T.root
  | [], [], _ => rfl
  | [], _ :: _, h => by simp at h
  | none :: _, [], h => by simp at h
  | some _ :: _, [], h => by simp at h
  | some _ :: rs, t :: ts, h => by simp [argsT, argsT_root rs ts (by simpa using h)]
  | none :: rs, t :: ts, h => by simp [argsT, argsT_root rs ts (by simpa using h), root_mk]
theorem argsT_length : ∀ (rs : List (Option Nat)) (ts : List T), ts.length = rs.length → (argsT rs ts).length = rs.length
  | [], [], _ => rfl
  | [], _ :: _, h => by simp at h
  | none :: _, [], h => by simp at h
  | some _ :: _, [], h => by simp at h
  | some _ :: rs, t :: ts, h => by simp [argsT, argsT_length rs ts (by simpa using h)]
  | none :: rs, t :: ts, h => by simp [argsT, argsT_length rs ts (by simpa using h)]
theorem argsT_get : ∀ (rs : List (Option Nat)) (ts : List T) (i : Nat) (u : T), ts.length = rs.length → (argsT rs ts)[i]? = some u → ∃ t, ts[i]? = some t ∧ ((∃ r, rs[i]? = some (some r) ∧ u = t) ∨ (rs[i]? = some none ∧ u = t.mk kPar))
  | [], [], i, u, _, h => by simp [argsT] at h
  | [], _ :: _, i, u, h, _ => by simp at h
  | none :: _, [], i, u, h, _ => by simp at h
  | some _ :: _, [], i, u, h, _ => by simp at h
  | some r :: rs, t :: ts, 0, u, _, h => ⟨t, rfl, .inl ⟨r, rfl, by simpa [argsT] using h.symm⟩⟩
  | none :: rs, t :: ts, 0, u, _, h => ⟨t, rfl, .inr ⟨rfl, by simpa [argsT] using h.symm⟩⟩
  | some r :: rs, t :: ts, i + 1, u, hl, h => by
    obtain ⟨v, h1, h2⟩ := argsT_get rs ts i u (by simpa using hl) (by simpa [argsT] using h)
    exact ⟨v, by simpa using h1, by simpa using h2⟩
  | none :: rs, t :: ts, i + 1, u, hl, h => by
    obtain ⟨v, h1, h2⟩ := argsT_get rs ts i u (by simpa using hl) (by simpa [argsT] using h)
    exact ⟨v, by simpa using h1, by simpa using h2⟩
theorem kPar_own (k : Kd) : kPar k ≠ .own := by
  unfold kPar
  split <;> (intro h; cases h)
theorem argsT_owns (g : Gc) : ∀ (rs : List (Option Nat)) (ts : List T), ts.length = rs.length → (ownsC (cellsL g (argsT rs ts))).Sublist (ownsC (cellsL g ts))
  | [], [], _ => List.Sublist.refl _
  | [], _ :: _, h => by simp at h
  | none :: _, [], h => by simp at h
  | some _ :: _, [], h => by simp at h
  | some _ :: rs, t :: ts, h => by
    simp only [argsT, cellsL, ownsC_append]
    exact List.Sublist.append (List.Sublist.refl _) (argsT_owns g rs ts (by simpa using h))
  | none :: rs, t :: ts, h => by
    simp only [argsT, cellsL, ownsC_append]
    have : ownsC ((t.mk kPar).cells g) = [] := owns_none fun c hc => by
      rw [cells_mk] at hc
      obtain ⟨d, _, rfl⟩ := List.mem_map.mp hc
      exact kPar_own d.1
    rw [this, List.nil_append]
    exact (argsT_owns g rs ts (by simpa using h)).trans (List.sublist_append_right _ _)
theorem mem_cellsL {g : Gc} {ts : List T} {c : Cell} (h : c ∈ cellsL g ts) : ∃ (i : Nat) (t : T), ts[i]? = some t ∧ c ∈ t.cells g := by
  rw [cellsL_eq, List.mem_flatMap] at h
  obtain ⟨t, ht, hc⟩ := h
  obtain ⟨i, hi, e⟩ := List.getElem_of_mem ht
  exact ⟨i, t, by rw [List.getElem?_eq_getElem hi, e], hc⟩
theorem cellsL_mem {g : Gc} {ts : List T} {c : Cell} {i : Nat} {t : T} (h : ts[i]? = some t) (hc : c ∈ t.cells g) : c ∈ cellsL g ts := by
  rw [cellsL_eq, List.mem_flatMap]
  exact ⟨t, List.mem_of_getElem? h, hc⟩
section
variable {g : Gc} {n : Nat} {W : WX} {Γ : Gh} {A A' A'' B : List (Option T)} {σ : L2.St} {H H' : Hp} {t : T} {M M1 M2 M3 : List Nat}
theorem Rel.callOk {rs : List (Option Nat)} {ts : List T} (Rr : Rel g Γ n (A ++ ts.map some) σ H) (hn : n ≤ A.length) (hl : ts.length = rs.length) (hof : ∀ (i r : Nat) t, rs[i]? = some (some r) → ts[i]? = some t → ofD t.er = true) :
    CallOk g H (rs.map Option.isSome) (argsT rs ts) := by
  have atB : ∀ {i t c}, ts[i]? = some t → c ∈ t.cells g → CellAt g (A ++ ts.map some) (A.length + i) c := fun {i t c} h hc => cellAt_append.mpr (.inr ⟨by omega, t, by rw [Nat.add_sub_cancel_left, List.getElem?_map, h]; rfl, hc⟩)
  have src : ∀ c ∈ cellsL g (argsT rs ts), ∃ (i : Nat) (t : T) (d : Cell), ts[i]? = some t ∧ d ∈ t.cells g ∧ d.2 = c.2 ∧ (((∃ r, rs[i]? = some (some r)) ∧ c.1 = d.1) ∨ (rs[i]? = some none ∧ c.1 = kPar d.1)) := fun c hc => by
    obtain ⟨i, u, hu, hcu⟩ := mem_cellsL hc
    obtain ⟨t, ht, ⟨r, h1, rfl⟩ | ⟨h1, rfl⟩⟩ := argsT_get rs ts i u hl hu
    · exact ⟨i, u, c, ht, hcu, rfl, .inl ⟨⟨r, h1⟩, rfl⟩⟩
    · rw [cells_mk] at hcu
      obtain ⟨d, hd, rfl⟩ := List.mem_map.mp hcu
      exact ⟨i, t, d, ht, hd, rfl, .inr ⟨h1, rfl⟩⟩
  refine ⟨by rw [argsT_length rs ts hl, List.length_map], fun c hc => ?_, fun i u hu c hc => ?_, ?_, fun c hc d hd hown hadr => ?_⟩
  · obtain ⟨i, t, d, ht, hd, e, _⟩ := src c hc
    rw [← e]
    exact Rr.hold _ d (atB ht hd)
  · obtain ⟨t, ht, ⟨r, h1, rfl⟩ | ⟨h1, rfl⟩⟩ := argsT_get rs ts i u hl hu
    · rcases (ofD_iff (g := g)).mp (hof i r u h1 ht) c hc with z | z
      · exact .inr (.inl ⟨by rw [List.getElem?_map, h1]; rfl, z⟩)
      · exact .inl z
    · rw [cells_mk] at hc
      obtain ⟨d, hd, rfl⟩ := List.mem_map.mp hc
      by_cases z : d.1 = .frz
      · exact .inl (by simp [kPar, z])
      · exact .inr (.inr ⟨by rw [List.getElem?_map, h1]; rfl, by simp [kPar, z]⟩)
  · have := Rr.ndB hn
    rw [flat_owns] at this
    exact (argsT_owns g rs ts hl).nodup this
  · obtain ⟨i, t, c', ht, hc', ec, hk⟩ := src c hc
    obtain ⟨j, u, d', hu, hd', ed, hk'⟩ := src d hd
    have oc : c'.1 = .own := by
      rcases hk with ⟨_, z⟩ | ⟨_, z⟩
      · rw [← z]; exact hown
      · exact absurd (z ▸ hown) (kPar_own _)
    rcases Rr.sep _ _ c' d' (atB ht hc') (atB hu hd') oc (by rw [ed, ec]; exact hadr) with ⟨e, z⟩ | ⟨_, z⟩
    · have : i = j := by omega
      subst this
      rcases hk' with ⟨_, z'⟩ | ⟨z1, _⟩
      · rw [z']; exact z
      · rcases hk with ⟨⟨r, z2⟩, _⟩ | ⟨_, z2⟩
        · rw [z1] at z2; cases z2
        · exact absurd (z2 ▸ hown) (kPar_own _)
    · have := Rr.lab _ _ _ (atB hu hd') z
      omega
/-- behind the call -/
theorem Rel.back {rs : List (Option Nat)} {ts us : List T} (Rr : Rel g Γ n (A ++ ts.map some) σ H) (hn : n ≤ A.length) (hl : ts.length = rs.length) (hnd : (rs.filterMap id).Nodup)
    (hk : ∀ (i r : Nat), rs[i]? = some (some r) → ∃ t, ts[i]? = some t ∧ σ[r]? = some (some t.root) ∧ A[r]? = some none ∧ r < n)
    (b : BackOk g H H' (rs.map Option.isSome) (argsT rs ts) t us) : Rel g Γ n (setAll A (rs.filterMap id) (us.map some) ++ [some t]) σ H' := by
  have atB : ∀ {i t c}, ts[i]? = some t → c ∈ t.cells g → CellAt g (A ++ ts.map some) (A.length + i) c := fun {i t c} h hc => cellAt_append.mpr (.inr ⟨by omega, t, by rw [Nat.add_sub_cancel_left, List.getElem?_map, h]; rfl, hc⟩)
  have atA : ∀ {i c}, CellAt g A i c → CellAt g (A ++ ts.map some) i c := fun h => cellAt_left h
  have slots : ∀ {i}, i ∈ rs.filterMap id → i < n := fun {i} h => by
    obtain ⟨o, ho, e⟩ := List.mem_filterMap.mp h
    have e : o = some i := e
    subst e
    obtain ⟨j, hj, ej⟩ := List.getElem_of_mem ho
    obtain ⟨_, _, _, _, q⟩ := hk j i (by rw [List.getElem?_eq_getElem hj, ej])
    exact q
  have ulen : us.length = (rs.filterMap id).length := by
    have := congrArg List.length b.root
    rw [List.length_map, List.length_map] at this
    rw [this]
    have q : (argsT rs ts).length = rs.length := argsT_length rs ts hl
    exact refs_length rs (argsT rs ts) q
  have src : ∀ c ∈ cellsL g (argsT rs ts), ∃ i d, CellAt g (A ++ ts.map some) (A.length + i) d ∧ d.2 = c.2 ∧ (c.1 = d.1 ∨ c.1 = kPar d.1) := fun c hc => by
    obtain ⟨i, u, hu, hcu⟩ := mem_cellsL hc
    obtain ⟨t, ht, ⟨r, h1, rfl⟩ | ⟨h1, rfl⟩⟩ := argsT_get rs ts i u hl hu
    · exact ⟨i, c, atB ht hcu, rfl, .inl rfl⟩
    · rw [cells_mk] at hcu
      obtain ⟨d, hd, rfl⟩ := List.mem_map.mp hcu
      exact ⟨i, d, atB ht hd, rfl, .inr rfl⟩
  have ownsrc : ∀ {a}, a ∈ ownsC (cellsL g (argsT rs ts)) → ∃ i d, CellAt g (A ++ ts.map some) (A.length + i) d ∧ d.1 = .own ∧ d.2.1 = a := fun {a} h => by
    obtain ⟨c, hc, k1, k2⟩ := mem_ownsC.mp h
    obtain ⟨i, d, x, e, z⟩ := src c hc
    refine ⟨i, d, x, ?_, by rw [e]; exact k2⟩
    rcases z with z | z
    · rw [← z]; exact k1
    · exact absurd (z ▸ k1) (kPar_own _)
  -- what stands in the slots is not changed by the call
  have notown : ∀ {i c}, CellAt g A i c → c.2.1 ∉ ownsC (cellsL g (argsT rs ts)) := fun {i c} x h => by
    obtain ⟨j, d, y, k, e⟩ := ownsrc h
    have := x.lt
    rcases Rr.sep _ i d c y (atA x) k e.symm with ⟨z, _⟩ | ⟨_, z⟩
    · omega
    · have := Rr.lab _ _ _ (atA x) z
      omega
  have split : ∀ {i c}, CellAt g (setAll A (rs.filterMap id) (us.map some) ++ [some t]) i c → (CellAt g A i c ∧ i ∉ rs.filterMap id) ∨ (∃ k u, (t :: us)[k]? = some u ∧ c ∈ u.cells g ∧ ((k = 0 ∧ i = A.length) ∨ ∃ k', k = k' + 1 ∧ (rs.filterMap id)[k']? = some i ∧ i < A.length)) := fun {i c} x => by
    rcases cellAt_snoc.mp x with x | ⟨e, x⟩
    · by_cases hi : i ∈ rs.filterMap id
      · obtain ⟨k, hk', ek⟩ := List.getElem_of_mem hi
        have hku : k < us.length := by omega
        obtain ⟨u, eu, hu⟩ := x
        have := setAll_in A (rs.filterMap id) (us.map some) k i (some us[k]) hnd (by rw [List.getElem?_eq_getElem hk', ek]) (by rw [List.getElem?_map, List.getElem?_eq_getElem hku]; rfl) (Nat.lt_of_lt_of_le (slots hi) hn)
        rw [this] at eu
        have : us[k] = u := by simpa using eu
        exact .inr ⟨k + 1, u, by simp [← this, List.getElem?_eq_getElem hku], hu, .inr ⟨k, rfl, by rw [List.getElem?_eq_getElem hk', ek], Nat.lt_of_lt_of_le (slots hi) hn⟩⟩
      · obtain ⟨u, eu, hu⟩ := x
        rw [setAll_out _ _ _ _ hi] at eu
        exact .inl ⟨⟨u, eu, hu⟩, hi⟩
    · exact .inr ⟨0, t, rfl, x, .inl ⟨rfl, by rw [e, setAll_length]⟩⟩
  have inb : ∀ {k : Nat} {u : T} {c : Cell}, (t :: us)[k]? = some u → c ∈ u.cells g → c ∈ t.cells g ++ cellsL g us := fun {k u c} h hc => by
    have : c ∈ cellsL g (t :: us) := cellsL_mem h hc
    simpa [cellsL] using this
  have flat : ((t :: us).flatMap fun u => ownsC (u.cells g)).Nodup := by
    have e : ((t :: us).flatMap fun u => ownsC (u.cells g)) = ownsC (t.cells g ++ cellsL g us) := by
      have : ∀ l : List T, (l.flatMap fun u => ownsC (u.cells g)) = ownsC (cellsL g l) := fun l => by
        induction l with
        | nil => rfl
        | cons x r ih => rw [List.flatMap_cons, cellsL, ownsC_append, ih]
      rw [this]; rfl
    rw [e]; exact b.nd
  have newA : ∀ {j : Nat} {c d : Cell}, CellAt g A j d → c ∈ t.cells g ++ cellsL g us → c.1 = .own → d.2.1 ≠ c.2.1 := fun {j c d} x hc k e => by
    rcases b.own c hc with z | z | ⟨z, _⟩
    · exact notown x (by rw [e]; exact z)
    · rw [← e, Rr.hold j d (atA x)] at z; cases z
    · rw [k] at z; cases z
  refine ⟨by rw [List.length_append, setAll_length]; simp; omega, Rr.slen, ?_, ?_, ?_, ?_, ?_, ?_, ?_, ?_, Rr.pin⟩
  · intro i u hi e
    rw [List.getElem?_append_left (by rw [setAll_length]; omega)] at e
    by_cases hm : i ∈ rs.filterMap id
    · obtain ⟨k, hk', ek⟩ := List.getElem_of_mem hm
      have hki : (rs.filterMap id)[k]? = some i := by rw [List.getElem?_eq_getElem hk', ek]
      have hku : k < us.length := by omega
      have := setAll_in A (rs.filterMap id) (us.map some) k i (some us[k]) hnd hki (by rw [List.getElem?_map, List.getElem?_eq_getElem hku]; rfl) (by omega)
      rw [this] at e
      have eu : us[k] = u := by simpa using e
      obtain ⟨j, w, h1, h2, h3⟩ := refs_get rs (argsT rs ts) k i hki (argsT_length rs ts hl)
      obtain ⟨v, hv, hs, _⟩ := hk j i h1
      have hroot : u.root = w.root := by
        have := congrArg (fun l => l[k]?) b.root
        simp only [List.getElem?_map] at this
        rw [List.getElem?_eq_getElem hku, eu, h3] at this
        simpa using this
      obtain ⟨v', hv', ⟨r, _, z⟩ | ⟨z, _⟩⟩ := argsT_get rs ts j w hl h2
      · rw [hv] at hv'
        have : v = v' := by simpa using hv'
        subst this
        rw [hs, hroot, z]
      · rw [h1] at z; cases z
    · rw [setAll_out _ _ _ _ hm] at e
      exact Rr.val i u hi (by rw [List.getElem?_append_left (by omega)]; exact e)
  · intro i c x
    rcases split x with ⟨x, _⟩ | ⟨k, u, hu, hc, _⟩
    · exact b.frame _ _ (Rr.hold i c (atA x)) (notown x)
    · exact b.hold c (inb hu hc)
  · intro i c r x q
    rcases split x with ⟨x, _⟩ | ⟨k, u, hu, hc, _⟩
    · exact Rr.lab i c r (atA x) q
    · rcases b.kind c (inb hu hc) with z | z <;> (rw [z] at q; cases q)
  · intro i u e
    rcases snoc_get e with ⟨hi, e⟩ | ⟨_, e⟩
    · by_cases hm : i ∈ rs.filterMap id
      · obtain ⟨k, hk', ek⟩ := List.getElem_of_mem hm
        have hku : k < us.length := by omega
        have := setAll_in A (rs.filterMap id) (us.map some) k i (some us[k]) hnd (by rw [List.getElem?_eq_getElem hk', ek]) (by rw [List.getElem?_map, List.getElem?_eq_getElem hku]; rfl) (by rw [setAll_length] at hi; exact hi)
        rw [this] at e
        have eu : us[k] = u := by simpa using e
        rw [← eu]
        have hs : (us[k].cells g).Sublist (t.cells g ++ cellsL g us) := (at_sub (List.getElem?_eq_getElem hku)).trans (List.sublist_append_right _ _)
        exact (owns_sublist hs).nodup b.nd
      · rw [setAll_out _ _ _ _ hm] at e
        exact Rr.nd i u (by rw [List.getElem?_append_left (List.getElem?_eq_some_iff.mp e).1]; exact e)
    · rw [e]
      exact (owns_sublist (List.sublist_append_left _ _)).nodup b.nd
  · intro i j c d x y hown hadr
    rcases split x with ⟨x, hxi⟩ | ⟨k, u, hu, hc, hpos⟩
    · rcases split y with ⟨y, hyj⟩ | ⟨l, v, hv, hd, hpos'⟩
      · exact Rr.sep i j c d (atA x) (atA y) hown hadr
      · exfalso
        rcases b.own d (inb hv hd) with z | z | ⟨_, e, he, k1, k2⟩
        · exact notown x (by rw [← hadr]; exact z)
        · rw [hadr, Rr.hold i c (atA x)] at z; cases z
        · obtain ⟨m, e', y', q1, q2⟩ := src e he
          have fr : e'.1 = .frz := by
            rcases q2 with q2 | q2
            · rw [← q2]; exact k1
            · have : kPar e'.1 = .frz := by rw [← q2]; exact k1
              unfold kPar at this
              by_cases z : e'.1 = .frz
              · exact z
              · rw [if_neg z] at this; cases this
          rcases Rr.sep i _ c e' (atA x) y' hown (by rw [q1, k2]; exact hadr) with ⟨z, _⟩ | ⟨_, z⟩
          · have := x.lt; omega
          · rw [fr] at z; cases z
    · rcases split y with ⟨y, hyj⟩ | ⟨l, v, hv, hd, hpos'⟩
      · exact absurd hadr (newA y (inb hu hc) hown)
      · have od := b.sep c (inb hu hc) d (inb hv hd) hown hadr
        have : k = l := nodup_flat flat hu hv (mem_ownsC.mpr ⟨c, hc, hown, rfl⟩) (mem_ownsC.mpr ⟨d, hd, od, hadr⟩)
        subst this
        refine .inl ⟨?_, od⟩
        rcases hpos with ⟨h0, h1⟩ | ⟨k', h0, h1, _⟩
        · rcases hpos' with ⟨_, h2⟩ | ⟨k'', h2, _⟩
          · rw [h1, h2]
          · omega
        · rcases hpos' with ⟨h2, _⟩ | ⟨k'', h2, h3, _⟩
          · omega
          · have : k' = k'' := by omega
            subst this
            rw [h1] at h3
            exact Option.some.inj h3
  · intro a o h1 h2
    refine b.frame a o (Rr.frame a o h1 h2) fun hm => ?_
    obtain ⟨i, d, y, k, e⟩ := ownsrc hm
    rcases Rr.gown _ d y with z | z | z | z
    · rw [k] at z; cases z
    · rw [k] at z; cases z
    · rw [e] at z; exact h2 z
    · rw [e, h1] at z; cases z
  · intro i c x
    rcases split x with ⟨x, _⟩ | ⟨k, u, hu, hc, _⟩
    · exact Rr.gown i c (atA x)
    · rcases b.own c (inb hu hc) with z | z | ⟨z, _⟩
      · obtain ⟨j, d, y, k1, e⟩ := ownsrc z
        have := Rr.gown _ d y
        rw [k1, e] at this
        rcases this with q | q | q
        · cases q
        · cases q
        · exact .inr (.inr q)
      · exact .inr (.inr (Rr.fresh z))
      · exact .inl z
  · intro i c x q
    rcases split x with ⟨x, _⟩ | ⟨k, u, hu, hc, _⟩
    · exact Rr.gfrz i c (atA x) q
    · rcases b.own c (inb hu hc) with z | z | ⟨_, e, he, k1, k2⟩
      · obtain ⟨j, d, y, k1, e⟩ := ownsrc z
        have := Rr.gown _ d y
        rw [k1, e] at this
        rcases this with q | q | q
        · cases q
        · cases q
        · exact q.elim .inl fun z => .inr (.inl z)
      · exact (Rr.fresh z).elim .inl fun z => .inr (.inl z)
      · obtain ⟨m, e', y', q1, q2⟩ := src e he
        have fr : e'.1 = .frz := by
          rcases q2 with q2 | q2
          · rw [← q2]; exact k1
          · have : kPar e'.1 = .frz := by rw [← q2]; exact k1
            unfold kPar at this
            by_cases z : e'.1 = .frz
            · exact z
            · rw [if_neg z] at this; cases this
        have := Rr.gfrz _ e' y' fr
        rw [q1, k2] at this
        exact this
/-! ### the call -/
def backS (rs : List (Option Nat)) (ms : List D) (S : Sg) : Sg := setAll S (rs.filterMap id) (ms.map some)
def callR (rs : List (Option Nat)) (sem : FSem) (ds : List D) (S : Sg) : R D :=
  if ds.length = rs.length then match sem (argsD rs ds) with
    | .ok d ms => .ok d (backS rs ms S)
    | .exc c d ms => .exc c d (backS rs ms S)
    | .bad => .bad
  else .bad
def cCall (rs : List (Option Nat)) (fr : Sg → R (List D)) (sem : FSem) : Sg → R D := fun S => (fr S).bind fun ds S1 => if (List.zip rs ds).all (fun p => p.1.isNone || ofD p.2) then callR rs sem ds S1 else .bad
theorem call_core {rs : List (Option Nat)} {sem : FSem} {ts : List T} {Q : VK} {S1 : Sg} (Rr : Rel g Γ n (A' ++ ts.map some) σ H) (hn : n ≤ A'.length) (x : NextM n M A A') (hm : ∀ r ∈ rs.filterMap id, r ∈ M) (e : ers n A' = S1) (hnd : (rs.filterMap id).Nodup)
    (hof : ((List.zip rs (ts.map T.er)).all fun p => p.1.isNone || ofD p.2) = true)
    (hk : ∀ (i r : Nat), rs[i]? = some (some r) → ∃ t, ts[i]? = some t ∧ σ[r]? = some (some t.root) ∧ A'[r]? = some none ∧ r < n)
    (h : PostE g n W M Γ A σ Q (callR rs sem (ts.map T.er) S1)) : spOf g (rs.map Option.isSome) sem (ts.map T.root) H Q (WE W σ) := by
  unfold callR at h
  by_cases hl : (ts.map T.er).length = rs.length
  · rw [if_pos hl] at h
    have hl' : ts.length = rs.length := by simpa using hl
    have slots : ∀ r ∈ rs.filterMap id, r < n := fun r hr => by
      obtain ⟨o, ho, e⟩ := List.mem_filterMap.mp hr
      have e : o = some r := e
      subst e
      obtain ⟨j, hj, ej⟩ := List.getElem_of_mem ho
      obtain ⟨_, _, _, _, q⟩ := hk j r (by rw [List.getElem?_eq_getElem hj, ej])
      exact q
    have of2 : ∀ (i r : Nat) t, rs[i]? = some (some r) → ts[i]? = some t → ofD t.er = true := fun i r t h1 h2 => by
      have hz : (List.zip rs (ts.map T.er))[i]? = some (some r, t.er) := by
        rw [List.getElem?_zip_eq_some]
        exact ⟨h1, by rw [List.getElem?_map, h2]; rfl⟩
      have := List.all_eq_true.mp hof _ (List.mem_of_getElem? hz)
      simpa using this
    refine ⟨argsT rs ts, (argsT_root rs ts hl').symm, Rr.callOk hn hl' of2, ?_⟩
    rw [argsT_er]
    have nx : ∀ us : List T, us.length = us.length → NextM n M A (setAll A' (rs.filterMap id) (us.map some)) := fun us _ => by
      refine ⟨⟨by rw [setAll_length]; exact x.len, by rw [setAll_drop _ _ _ slots]; exact x.tmp⟩, fun i hi hmi => ?_⟩
      rw [setAll_out _ _ _ _ fun z => hmi (hm i z)]
      exact x.slot i hi hmi
    have es : ∀ us : List T, ers n (setAll A' (rs.filterMap id) (us.map some)) = backS rs (us.map T.er) S1 := fun us => by
      unfold ers backS
      rw [setAll_take _ _ _ slots, setAll_map, List.map_map]
      have : (List.take n A').map (Option.map T.er) = S1 := e
      rw [this, List.map_map]
      rfl
    cases q : sem (argsD rs (ts.map T.er)) with
    | bad => rw [q] at h; exact h
    | ok d ms =>
      rw [q] at h
      intro H' t us b et eu
      exact h _ t H' (Rr.back hn hl' hnd hk b) (nx us rfl) (by rw [es us, eu]) et
    | exc c d ms =>
      rw [q] at h
      intro H' t us b et eu
      exact h _ t H' (Rr.back hn hl' hnd hk b) (nx us rfl).toNext (by rw [es us, eu]) et
  · rw [if_neg hl] at h; exact h.elim
theorem mean_call {rs : List (Option Nat)} {ta : TA} {fr : Sg → R (List D)} {sem : FSem} (ha : MeanC g n W rs M1 ta fr) (hm : ∀ r ∈ rs.filterMap id, r ∈ M1) (hnd : (rs.filterMap id).Nodup) : MeanE g n W M1 (tCallS (spOf g (rs.map Option.isSome) sem) (WE W) ta) (cCall rs fr sem) := by
  intro Γ A σ H Q Rr cl h
  refine ha Γ A σ H _ Rr cl ?_
  unfold cCall at h
  cases ea : fr (ers n A) with
  | bad => rw [ea] at h; exact h.elim
  | exc c d S => rw [ea] at h; exact h
  | ok ds S1 =>
    rw [ea] at h
    dsimp only [Lin.R.bind] at h
    intro A1 ts H1 R1 x1 e1 d1 hk
    split at h
    · rename_i hof
      rw [← d1] at h hof
      exact call_core R1 (by rw [x1.len]; exact Rr.len) x1 hm e1 hnd hof hk h
    · exact h.elim
end
end Lin
end
section
namespace Lin
open PySem L2
/-! ### a def's body as the def's meaning -/
def kRet (mr : List Bool) : Kd → Kd
  | .bor r => if mr[r]? = some true then .bor r else .frz
  | k => k
def usOf {α : Type} : List Bool → List (Option α) → Option (List α)
  | [], _ => some []
  | true :: mr, some d :: S => (usOf mr S).map (d :: ·)
  | false :: mr, _ :: S => usOf mr S
  | _, _ => none
def fin (mr : List Bool) (d : D) (S : Sg) (k : D → List D → Rc) : Rc := match usOf mr S with
  | some ms => if ofD (d.mk (kRet mr)) && ms.all ofD then k (d.mk (kRet mr)) ms else .bad
  | none => .bad
def semOf (n : Nat) (mr : List Bool) (f : Sg → R Fl) : FSem := fun ds => match f (ds.map some ++ List.replicate (n - ds.length) none) with
  | .ok .nx S => fin mr (.im .non) S .ok
  | .ok (.ret d) S => fin mr d S .ok
  | .exc c d S => fin mr d S (.exc c)
  | _ => .bad
theorem usOf_map {α β : Type} (f : α → β) : ∀ (mr : List Bool) (S : List (Option α)), usOf mr (S.map (Option.map f)) = (usOf mr S).map (List.map f)
  | [], _ => rfl
  | true :: mr, [] => rfl
  | false :: mr, [] => rfl
  | true :: mr, none :: S => rfl
  | true :: mr, some d :: S => by
    simp only [List.map_cons, Option.map_some, usOf, usOf_map f mr S]
    cases usOf mr S <;> rfl
  | false :: mr, o :: S => by
    simp only [List.map_cons, usOf, usOf_map f mr S]
theorem usOf_take {α : Type} : ∀ (mr : List Bool) (S : List (Option α)) (n : Nat), mr.length ≤ n → usOf mr (S.take n) = usOf mr S
  | [], _, _, _ => rfl
  | true :: mr, [], n, _ => by simp
  | false :: mr, [], n, _ => by simp
  | true :: mr, none :: S, n + 1, h => by simp [usOf]
  | true :: mr, some d :: S, n + 1, h => by
    simp only [List.take_succ_cons, usOf]
    rw [usOf_take mr S n (by simpa using h)]
  | false :: mr, o :: S, n + 1, h => by
    simp only [List.take_succ_cons, usOf]
    rw [usOf_take mr S n (by simpa using h)]
section
variable {g : Gc} {Γ : Gh} {n : Nat} {A : List (Option T)} {σ : L2.St} {H : Hp} {t : T}
/-- the trees by reference: where they stand, and apart -/
theorem us_facts (Rr : Rel g Γ n A σ H) : ∀ (mr : List Bool) (B : List (Option T)) (k : Nat) (us : List T), (∀ i : Nat, B[i]? = A[k + i]?) → usOf mr B = some us →
    (us.flatMap fun u => ownsC (u.cells g)).Nodup ∧ ∀ u ∈ us, ∃ i, mr[i]? = some true ∧ A[k + i]? = some (some u)
  | [], B, k, us, _, h => by
    have : us = [] := by simpa [usOf] using h.symm
    subst this
    exact ⟨by simp, fun u hu => nomatch hu⟩
  | true :: mr, [], k, us, _, h => by simp [usOf] at h
  | false :: mr, [], k, us, _, h => by simp [usOf] at h
  | true :: mr, none :: B, k, us, _, h => by simp [usOf] at h
  | true :: mr, some d :: B, k, us, hB, h => by
    simp only [usOf] at h
    cases e : usOf mr B with
    | none => rw [e] at h; cases h
    | some vs =>
      rw [e] at h
      have h : d :: vs = us := by simpa using h
      subst h
      obtain ⟨n1, n2⟩ := us_facts Rr mr B (k + 1) vs (fun i => by have := hB (i + 1); rw [List.getElem?_cons_succ] at this; rw [this]; congr 1; omega) e
      have hd : A[k]? = some (some d) := by have := hB 0; simpa using this.symm
      refine ⟨?_, fun u hu => ?_⟩
      · rw [List.flatMap_cons, List.nodup_append]
        refine ⟨Rr.nd k d hd, n1, fun a ha b hb q => ?_⟩
        subst q
        obtain ⟨c, hc, k1, k2⟩ := mem_ownsC.mp ha
        obtain ⟨v, hv, hb⟩ := List.mem_flatMap.mp hb
        obtain ⟨i, _, hi⟩ := n2 v hv
        obtain ⟨c', hc', k3, k4⟩ := mem_ownsC.mp hb
        rcases Rr.sep k (k + 1 + i) c c' ⟨d, hd, hc⟩ ⟨v, hi, hc'⟩ k1 (by rw [k4, k2]) with ⟨z, _⟩ | ⟨_, z⟩
        · omega
        · rw [k3] at z; cases z
      · rcases List.mem_cons.mp hu with rfl | hu
        · exact ⟨0, rfl, hd⟩
        · obtain ⟨i, h1, h2⟩ := n2 u hu
          exact ⟨i + 1, by simpa using h1, by rw [show k + (i + 1) = k + 1 + i by omega]; exact h2⟩
  | false :: mr, o :: B, k, us, hB, h => by
    simp only [usOf] at h
    obtain ⟨n1, n2⟩ := us_facts Rr mr B (k + 1) us (fun i => by have := hB (i + 1); rw [List.getElem?_cons_succ] at this; rw [this]; congr 1; omega) h
    refine ⟨n1, fun u hu => ?_⟩
    obtain ⟨i, h1, h2⟩ := n2 u hu
    exact ⟨i + 1, by simpa using h1, by rw [show k + (i + 1) = k + 1 + i by omega]; exact h2⟩
theorem us_roots (P : Nat → T → T → Prop) : ∀ (mr : List Bool) (B : List (Option T)) (ts : List T) (k : Nat) (us : List T), usOf mr B = some us → ts.length = mr.length →
    (∀ (i : Nat) u t, mr[i]? = some true → B[i]? = some (some u) → ts[i]? = some t → u.root = t.root) → us.map T.root = (refs mr ts).map T.root
  | [], B, ts, k, us, h, _, _ => by
    have : us = [] := by simpa [usOf] using h.symm
    subst this
    cases ts <;> rfl
  | true :: mr, [], ts, k, us, h, _, _ => by simp [usOf] at h
  | false :: mr, [], ts, k, us, h, _, _ => by simp [usOf] at h
  | true :: mr, none :: B, ts, k, us, h, _, _ => by simp [usOf] at h
  | b :: mr, o :: B, [], k, us, h, hl, _ => by simp at hl
  | true :: mr, some d :: B, x :: ts, k, us, h, hl, hr => by
    simp only [usOf] at h
    cases e : usOf mr B with
    | none => rw [e] at h; cases h
    | some vs =>
      rw [e] at h
      have h : d :: vs = us := by simpa using h
      subst h
      simp only [refs, List.map_cons]
      rw [hr 0 d x rfl rfl rfl, us_roots P mr B ts (k + 1) vs e (by simpa using hl) fun i u t h1 h2 h3 => hr (i + 1) u t (by simpa using h1) (by simpa using h2) (by simpa using h3)]
  | false :: mr, o :: B, x :: ts, k, us, h, hl, hr => by
    simp only [usOf] at h
    simp only [refs]
    exact us_roots P mr B ts (k + 1) us h (by simpa using hl) fun i u t h1 h2 h3 => hr (i + 1) u t (by simpa using h1) (by simpa using h2) (by simpa using h3)
theorem dictOf_mk (f : Kd → Kd) (t : T) : dictOf (t.mk f) = dictOf t := by cases t <;> rfl
end
def ghost (g : Gc) (H : Hp) (ts : List T) : Gh := ⟨H, fun a => a ∈ ownsC (cellsL g ts), fun a => ∃ d ∈ cellsL g ts, d.1 = .frz ∧ d.2.1 = a⟩
section
variable {g : Gc} {H H' : Hp} {mr : List Bool} {ts : List T}
theorem CallOk.rel {N : List Str} (hph : ∀ Γ, g.ph Γ) (c : CallOk g H mr ts) (hN : ts.length ≤ N.length) : Rel g (ghost g H ts) N.length (ts.map some ++ List.replicate (N.length - ts.length) none) (L2.start N (ts.map T.root)) H := by
  have get : ∀ {i : Nat} {t : T}, (ts.map some ++ List.replicate (N.length - ts.length) none)[i]? = some (some t) → ts[i]? = some t := fun {i t} h => by
    by_cases hi : i < ts.length
    · rw [List.getElem?_append_left (by simpa using hi), List.getElem?_map] at h
      cases e : ts[i]? with
      | none => rw [e] at h; cases h
      | some u => rw [e] at h; simpa using h
    · rw [List.getElem?_append_right (by simpa using hi), List.getElem?_replicate] at h
      split at h <;> cases h
  have cell : ∀ {i : Nat} {c : Cell}, CellAt g (ts.map some ++ List.replicate (N.length - ts.length) none) i c → ∃ t, ts[i]? = some t ∧ c ∈ t.cells g := fun ⟨t, e, h⟩ => ⟨t, get e, h⟩
  have flat : (ts.flatMap fun u => ownsC (u.cells g)).Nodup := by
    have : ∀ l : List T, (l.flatMap fun u => ownsC (u.cells g)) = ownsC (cellsL g l) := fun l => by
      induction l with
      | nil => rfl
      | cons x r ih => rw [List.flatMap_cons, cellsL, ownsC_append, ih]
    rw [this]; exact c.nd
  refine ⟨by simp; omega, by simp [L2.start]; omega, ?_, ?_, ?_, ?_, ?_, fun a o h _ => h, ?_, ?_, hph _⟩
  · intro i t hi e
    have ht := get e
    have hi2 : i < ts.length := (List.getElem?_eq_some_iff.mp ht).1
    unfold L2.start
    rw [List.getElem?_append_left (by simpa using hi2), List.getElem?_map, List.getElem?_map, ht]
    rfl
  · intro i cl x
    obtain ⟨t, ht, hc⟩ := cell x
    exact c.hold cl (cellsL_mem ht hc)
  · intro i cl r x q
    obtain ⟨t, ht, hc⟩ := cell x
    rcases c.kind i t ht cl hc with z | ⟨_, z⟩ | ⟨_, z⟩ <;> (rw [z] at q; cases q)
  · intro i t e
    exact (owns_sublist (at_sub (get e))).nodup c.nd
  · intro i j cl d x y hown hadr
    obtain ⟨t, ht, hc⟩ := cell x
    obtain ⟨u, hu, hd⟩ := cell y
    have od := c.sep cl (cellsL_mem ht hc) d (cellsL_mem hu hd) hown hadr
    exact .inl ⟨nodup_flat flat ht hu (mem_ownsC.mpr ⟨cl, hc, hown, rfl⟩) (mem_ownsC.mpr ⟨d, hd, od, hadr⟩), od⟩
  · intro i cl x
    obtain ⟨t, ht, hc⟩ := cell x
    rcases c.kind i t ht cl hc with z | ⟨_, z⟩ | ⟨_, z⟩
    · exact .inl z
    · exact .inr (.inr (.inl (mem_ownsC.mpr ⟨cl, cellsL_mem ht hc, z, rfl⟩)))
    · exact .inr (.inl z)
  · intro i cl x q
    obtain ⟨t, ht, hc⟩ := cell x
    exact .inr (.inr ⟨cl, cellsL_mem ht hc, q, rfl⟩)
theorem back_of {n : Nat} {A A' : List (Option T)} {σ σ' : L2.St} {M : List Nat} {t : T} {us : List T} (c : CallOk g H mr ts) (hn : mr.length ≤ n) (Rr : Rel g (ghost g H ts) n (A' ++ [some t]) σ' H') (hA : n ≤ A'.length)
    (hσ : ∀ (i : Nat) u, ts[i]? = some u → mr[i]? = some true → σ'[i]? = some (some u.root)) (hu : usOf mr (A'.take n) = some us) (hof : ofD (t.mk (kRet mr)).er = true) (hofs : ∀ u ∈ us, ofD u.er = true) :
    BackOk g H H' mr ts (t.mk (kRet mr)) us := by
  have RA := Rr.drop hA
  have hu2 : usOf mr A' = some us := by rw [← usOf_take mr A' n hn]; exact hu
  obtain ⟨n1, n2⟩ := us_facts RA mr A' 0 us (fun i => by rw [Nat.zero_add]) hu2
  have slot : ∀ {i : Nat}, mr[i]? = some true → i < n := fun {i} h => Nat.lt_of_lt_of_le (List.getElem?_eq_some_iff.mp h).1 hn
  have atA : ∀ {i c}, CellAt g A' i c → CellAt g (A' ++ [some t]) i c := fun h => cellAt_left h
  have atT : ∀ {c}, c ∈ t.cells g → CellAt g (A' ++ [some t]) A'.length c := fun h => cellAt_snoc.mpr (.inr ⟨rfl, h⟩)
  -- where the cells of the result come from
  have src : ∀ c ∈ (t.mk (kRet mr)).cells g ++ cellsL g us, ∃ i d, CellAt g (A' ++ [some t]) i d ∧ d.2 = c.2 ∧ (c.1 = d.1 ∨ (c.1 = .frz ∧ ∃ r, d.1 = .bor r ∧ mr[r]? ≠ some true)) ∧ ((i = A'.length ∧ c ∈ (t.mk (kRet mr)).cells g) ∨ mr[i]? = some true) := fun c hc => by
    rcases List.mem_append.mp hc with hc | hc
    · have hc0 := hc
      rw [cells_mk] at hc
      obtain ⟨d, hd, rfl⟩ := List.mem_map.mp hc
      refine ⟨A'.length, d, atT hd, rfl, ?_, .inl ⟨rfl, hc0⟩⟩
      have of := (ofD_iff (g := g)).mp hof _ hc0
      dsimp only at of ⊢
      cases q : d.1 with
      | bor r =>
        rw [q] at of
        dsimp only [kRet] at of ⊢
        by_cases hm : mr[r]? = some true
        · rw [if_pos hm] at of
          rcases of with z | z <;> cases z
        · rw [if_neg hm]
          exact .inr ⟨rfl, r, rfl, hm⟩
      | frz => exact .inl rfl
      | own => exact .inl rfl
      | par => exact .inl rfl
    · rw [cellsL_eq, List.mem_flatMap] at hc
      obtain ⟨u, hu3, hcu⟩ := hc
      obtain ⟨i, h1, h2⟩ := n2 u hu3
      rw [Nat.zero_add] at h2
      exact ⟨i, c, atA ⟨u, h2, hcu⟩, rfl, .inl rfl, .inr h1⟩
  have kinds : ∀ c ∈ (t.mk (kRet mr)).cells g ++ cellsL g us, c.1 = .own ∨ c.1 = .frz := fun c hc => by
    rcases List.mem_append.mp hc with hc | hc
    · exact (ofD_iff (g := g)).mp hof c hc
    · rw [cellsL_eq, List.mem_flatMap] at hc
      obtain ⟨u, hu3, hcu⟩ := hc
      exact (ofD_iff (g := g)).mp (hofs u hu3) c hcu
  have own_of : ∀ {c d : Cell}, (c.1 = d.1 ∨ (c.1 = .frz ∧ ∃ r, d.1 = .bor r ∧ mr[r]? ≠ some true)) → c.1 = .own → d.1 = .own := fun {c d} h k => by
    rcases h with h | ⟨h, _⟩
    · rw [← h]; exact k
    · rw [k] at h; cases h
  have sepx : ∀ c ∈ (t.mk (kRet mr)).cells g ++ cellsL g us, ∀ d ∈ (t.mk (kRet mr)).cells g ++ cellsL g us, c.1 = .own → d.2.1 = c.2.1 → d.1 = .own := fun c hc d hd hown hadr => by
    obtain ⟨i, c', x, ex, kx, px⟩ := src c hc
    obtain ⟨j, d', y, ey, ky, py⟩ := src d hd
    rcases Rr.sep i j c' d' x y (own_of kx hown) (by rw [ex, ey]; exact hadr) with ⟨_, z⟩ | ⟨_, z⟩
    · rcases ky with ky | ⟨_, r, ky, _⟩
      · rw [ky]; exact z
      · rw [z] at ky; cases ky
    · exfalso
      rcases px with ⟨px, _⟩ | px
      · have := Rr.lab _ _ _ y z
        omega
      · rcases ky with ky | ⟨_, r, ky, hr⟩
        · rcases kinds d hd with q | q <;> (rw [ky, z] at q; cases q)
        · rw [z] at ky
          cases ky
          exact hr px
  refine ⟨fun a o h hm => Rr.frame a o h hm, fun c hc => ?_, kinds, ?_, sepx, fun c hc => ?_, ?_⟩
  · obtain ⟨i, d, x, e, _⟩ := src c hc
    rw [← e]
    exact Rr.hold i d x
  · rw [ownsC_append, List.nodup_append]
    refine ⟨?_, ?_, fun a ha b hb q => ?_⟩
    · have e : ownsC ((t.mk (kRet mr)).cells g) = ownsC (t.cells g) := by
        rw [cells_mk]
        unfold ownsC
        rw [List.filterMap_map]
        congr 1
        funext c
        have : ∀ k, (kRet mr k = .own) ↔ k = .own := fun k => by
          cases k with
          | bor r =>
            dsimp only [kRet]
            split
            · exact ⟨(fun z => nomatch z), (fun z => nomatch z)⟩
            · exact ⟨(fun z => nomatch z), (fun z => nomatch z)⟩
          | _ => exact Iff.rfl
        by_cases z : c.1 = .own
        · simp [this, z]
        · simp [this, z]
      rw [e]
      exact Rr.nd A'.length t (by simp)
    · have : ∀ l : List T, (l.flatMap fun u => ownsC (u.cells g)) = ownsC (cellsL g l) := fun l => by
        induction l with
        | nil => rfl
        | cons x r ih => rw [List.flatMap_cons, cellsL, ownsC_append, ih]
      rw [← this]; exact n1
    · subst q
      obtain ⟨c, hc, k1, k2⟩ := mem_ownsC.mp ha
      obtain ⟨d, hd, k3, k4⟩ := mem_ownsC.mp hb
      rw [cells_mk] at hc
      obtain ⟨c', hc', rfl⟩ := List.mem_map.mp hc
      rw [cellsL_eq, List.mem_flatMap] at hd
      obtain ⟨u, hu3, hdu⟩ := hd
      obtain ⟨i, h1, h2⟩ := n2 u hu3
      rw [Nat.zero_add] at h2
      have hlt : i < A'.length := (List.getElem?_eq_some_iff.mp h2).1
      rcases Rr.sep i A'.length d c' (atA ⟨u, h2, hdu⟩) (atT hc') k3 (by rw [k4]; exact k2) with ⟨z, _⟩ | ⟨_, z⟩
      · omega
      · have k1 : kRet mr c'.1 = .own := k1
        rw [z] at k1
        dsimp only [kRet] at k1
        split at k1 <;> cases k1
  · obtain ⟨i, d, x, e, k, _⟩ := src c hc
    rcases kinds c hc with q | q
    · have od := own_of k q
      rcases Rr.gown i d x with z | z | z | z
      · rw [od] at z; cases z
      · rw [od] at z; cases z
      · rw [e] at z; exact .inl z
      · rw [e] at z; exact .inr (.inl z)
    · rcases k with k | ⟨_, r, k, _⟩
      · rcases Rr.gfrz i d x (by rw [← k]; exact q) with z | z | z
        · rw [e] at z; exact .inl z
        · rw [e] at z; exact .inr (.inl z)
        · rw [e] at z; exact .inr (.inr ⟨q, z⟩)
      · rcases Rr.gown i d x with z | z | z | z
        · rw [k] at z; cases z
        · rw [k] at z; cases z
        · rw [e] at z; exact .inl z
        · rw [e] at z; exact .inr (.inl z)
  · refine us_roots (fun _ _ _ => True) mr A' ts 0 us hu2 c.len fun i u v h1 h2 h3 => ?_
    have q1 := RA.val i u (slot h1) h2
    rw [hσ i v h3 h1] at q1
    have : v.root = u.root := by simpa using q1
    exact this.symm
end
section
variable {P : Program} {w : World} {K : PySem.W.Frag} {mg : Str → Option Value} {base : Heap} {g : Gc}
/-- THE RULE for a def: its body's meaning is the def's -/
theorem fn_ok {x qual : Str} {st : Stmt} {f : Addr} {fd : FuncData} {N ps : List Str} {k : Nat} {M : List Nat} {fb : Sg → R Fl} (hph : ∀ Γ, g.ph Γ) (F : Fun K x qual st f fd) (S : FnScope N ps (defScope st)) (mr : List Bool) (hmr : mr.length = ps.length) (hM : ∀ i : Nat, mr[i]? = some true → N.length + i ∉ M)
    (hb : ∀ (cdv : Value) (A : Around) (outer : List Env) (s : Shared) (H : Hp) (E : XK), Room k (A.deeper (PyProof.Rows.envOfC qual (defScope st) s.heap.objs.size f cdv)) →
      ∃ t, SdSs (cxOf (L2.CX P w) P w K mg base N qual (defScope st) f cdv A outer s H E) g (fun cls d _ H => E cls d H) M (defBody st) t fb) :
    FnOk P w K mg base (L2.CX P w) (k + 1) f fd ps (spOf g mr (semOf N.length mr fb)) := by
  have hpl : ps.length ≤ N.length := by have := congrArg List.length S.pre; rw [List.length_take] at this; omega
  refine F.okX S (fun vs H Q E h => ?_) fun cdv A outer s H vs Q E hr h => ?_
  · obtain ⟨ts, rfl, c, _⟩ := h
    rw [List.length_map, c.len, hmr]
  · obtain ⟨ts, rfl, c, h⟩ := h
    obtain ⟨t, sd⟩ := hb cdv A outer s H E hr
    have hl : ts.length ≤ N.length := by rw [c.len, hmr]; exact hpl
    have R0 := CallOk.rel (N := N) hph c hl
    refine ⟨t, sd.ps, ?_⟩
    refine sd.mn (ghost g H ts) _ _ H _ R0 (fun r _ i cl hi ⟨u, e, hc⟩ => ?_) ?_
    · rw [List.getElem?_eq_none (by show _ ≤ i; have hi : N.length ≤ i := hi; simp; omega)] at e
      cases e
    · have e0 : ers N.length (ts.map some ++ List.replicate (N.length - ts.length) none) = (ts.map T.er).map some ++ List.replicate (N.length - (ts.map T.er).length) none := by
        unfold ers
        rw [List.take_of_length_le (by simp; omega), List.map_append, List.map_map, List.map_replicate, List.length_map, List.map_map]
        rfl
      show PostS g N.length _ M _ _ _ _ (fb (ers N.length _))
      rw [e0]
      unfold semOf at h
      have hσ : ∀ {σ' : L2.St} {A' : List (Option T)}, NextS N.length M (ts.map some ++ List.replicate (N.length - ts.length) none) A' (L2.start N (ts.map T.root)) σ' → ∀ (i : Nat) u, ts[i]? = some u → mr[i]? = some true → σ'[i]? = some (some u.root) := fun {σ' A'} x i u hu hm => by
        rw [x.keep i (hM i hm)]
        have hi2 : i < ts.length := (List.getElem?_eq_some_iff.mp hu).1
        unfold L2.start
        rw [List.getElem?_append_left (by simpa using hi2), List.getElem?_map, List.getElem?_map, hu]
        rfl
      have done : ∀ {A' : List (Option T)} {t : T} {σ' : L2.St} {H' : Hp} {d : D} {S : Sg} {kk : D → List D → Rc}, Rel g (ghost g H ts) N.length (A' ++ [some t]) σ' H' → NextS N.length M (ts.map some ++ List.replicate (N.length - ts.length) none) A' (L2.start N (ts.map T.root)) σ' →
          ers N.length A' = S → t.er = d → fin mr d S kk ≠ .bad → ∃ us, BackOk g H H' mr ts (t.mk (kRet mr)) us ∧ fin mr d S kk = kk (t.mk (kRet mr)).er (us.map T.er) := fun {A' t σ' H' d S kk} R x e et hne => by
        have hA : N.length ≤ A'.length := by have := x.len; rw [this]; simp; omega
        unfold fin at hne ⊢
        rw [← e] at hne ⊢
        unfold ers at hne ⊢
        rw [usOf_map] at hne ⊢
        cases q : usOf mr (A'.take N.length) with
        | none => rw [q] at hne; exact absurd rfl hne
        | some us =>
          rw [q] at hne
          dsimp only [Option.map_some] at hne ⊢
          by_cases hof : (ofD (d.mk (kRet mr)) && (us.map T.er).all ofD) = true
          · rw [if_pos hof]
            rw [Bool.and_eq_true] at hof
            have h1 : ofD (t.mk (kRet mr)).er = true := by rw [er_mk, et]; exact hof.1
            have h2 : ∀ u ∈ us, ofD u.er = true := fun u hu => List.all_eq_true.mp hof.2 _ (List.mem_map_of_mem hu)
            exact ⟨us, back_of (A := []) (σ := []) (M := M) c (by rw [hmr]; exact hpl) R hA (hσ x) q h1 h2, by rw [er_mk, et]⟩
          · rw [if_neg hof] at hne; exact absurd rfl hne
      cases q : fb ((ts.map T.er).map some ++ List.replicate (N.length - (ts.map T.er).length) none) with
      | bad => rw [q] at h; exact h.elim
      | exc cc d S =>
        rw [q] at h
        dsimp only at h
        intro A' t σ' H' R x e et
        have hne : fin mr d S (.exc cc) ≠ .bad := fun z => by rw [z] at h; exact h
        obtain ⟨us, b, e2⟩ := done R x e et hne
        rw [e2] at h
        have := h H' _ us b rfl rfl
        rw [dictOf_mk] at this
        exact this
      | ok fl S =>
        rw [q] at h
        cases fl with
        | nx =>
          dsimp only at h
          intro A' σ' H' R x e
          have hne : fin mr (.im .non) S .ok ≠ .bad := fun z => by rw [z] at h; exact h
          have hA : N.length ≤ A'.length := by have := x.len; rw [this]; simp; omega
          obtain ⟨us, b, e2⟩ := done (t := .im .non) (d := .im .non) ((show Rel g _ N.length (A' ++ []) σ' H' by rw [List.append_nil]; exact R).imm hA _) x e rfl hne
          rw [e2] at h
          exact h H' _ us b rfl rfl
        | brk => exact h.elim
        | cnt => exact h.elim
        | ret d =>
          dsimp only at h
          intro A' t σ' H' R x e et
          have hne : fin mr d S .ok ≠ .bad := fun z => by rw [z] at h; exact h
          obtain ⟨us, b, e2⟩ := done R x e et hne
          rw [e2] at h
          have := h H' _ us b rfl rfl
          rw [root_mk] at this
          exact this
end
end Lin
end
section
namespace Lin
open PySem L2
/-! ### list comprehensions -/
def wipeS {α : Type} (xs : List Nat) (S : List (Option α)) : List (Option α) := xs.foldr (fun x s => s.set x none) S
theorem wipeS_length {α : Type} : ∀ (xs : List Nat) (S : List (Option α)), (wipeS xs S).length = S.length
  | [], S => rfl
  | x :: xs, S => by
    show ((wipeS xs S).set x none).length = _
    rw [List.length_set, wipeS_length]
theorem wipeS_some {α : Type} : ∀ (xs : List Nat) (S : List (Option α)) (i : Nat) (t : α), (wipeS xs S)[i]? = some (some t) → S[i]? = some (some t) ∧ i ∉ xs
  | [], S, i, t, h => ⟨h, by simp⟩
  | x :: xs, S, i, t, h => by
    have h : ((wipeS xs S).set x none)[i]? = some (some t) := h
    by_cases hi : i = x
    · subst hi
      by_cases hl : i < (wipeS xs S).length
      · rw [List.getElem?_set_self hl] at h; cases h
      · rw [List.getElem?_eq_none (by rw [List.length_set]; omega)] at h; cases h
    · rw [List.getElem?_set_ne (Ne.symm hi)] at h
      obtain ⟨h1, h2⟩ := wipeS_some xs S i t h
      exact ⟨h1, by simp [hi, h2]⟩
theorem wipeS_map {α β : Type} (f : α → β) : ∀ (xs : List Nat) (S : List (Option α)), (wipeS xs S).map (Option.map f) = wipeS xs (S.map (Option.map f))
  | [], S => rfl
  | x :: xs, S => by
    show ((wipeS xs S).set x none).map _ = (wipeS xs (S.map _)).set x none
    rw [List.map_set, wipeS_map f xs S]
    rfl
theorem wipeS_take {α : Type} {n : Nat} : ∀ (xs : List Nat) (S : List (Option α)), (wipeS xs S).take n = wipeS xs (S.take n)
  | [], S => rfl
  | x :: xs, S => by
    show ((wipeS xs S).set x none).take n = (wipeS xs (S.take n)).set x none
    rw [List.take_set, wipeS_take xs S]
theorem wipeS_drop {α : Type} {n : Nat} : ∀ (xs : List Nat) (S : List (Option α)), (∀ x ∈ xs, x < n) → (wipeS xs S).drop n = S.drop n
  | [], S, _ => rfl
  | x :: xs, S, h => by
    show ((wipeS xs S).set x none).drop n = _
    rw [List.drop_set_of_lt (h x List.mem_cons_self), wipeS_drop xs S fun y hy => h y (List.mem_cons_of_mem _ hy)]
theorem wipeS_append {α : Type} : ∀ (xs : List Nat) (S R : List (Option α)), (∀ x ∈ xs, x < S.length) → wipeS xs (S ++ R) = wipeS xs S ++ R
  | [], S, R, _ => rfl
  | x :: xs, S, R, h => by
    show (wipeS xs (S ++ R)).set x none = (wipeS xs S).set x none ++ R
    rw [wipeS_append xs S R fun y hy => h y (List.mem_cons_of_mem _ hy), List.set_append_left _ _ (by rw [wipeS_length]; exact h x List.mem_cons_self)]
theorem wipe_eq (σ : L2.St) : ∀ xs : List Nat, wipe σ xs = wipeS xs σ
  | [] => rfl
  | x :: xs => by
    show (wipe σ xs).set x none = (wipeS xs σ).set x none
    rw [wipe_eq σ xs]
theorem wipe_ext {σ σ' : L2.St} {xs : List Nat} (hl : σ'.length = σ.length) (h : ∀ j : Nat, j ∉ xs → σ'[j]? = σ[j]?) : wipe σ' xs = wipe σ xs := by
  rw [wipe_eq, wipe_eq]
  apply List.ext_getElem?
  intro j
  suffices hh : ∀ xs : List Nat, (∀ j : Nat, j ∉ xs → σ'[j]? = σ[j]?) → ∀ j : Nat, (wipeS xs σ')[j]? = (wipeS xs σ)[j]? ∨ True by
    have key : ∀ (ys : List Nat) (j : Nat), (j ∈ ys ∨ σ'[j]? = σ[j]?) → (wipeS ys σ')[j]? = (wipeS ys σ)[j]? := by
      intro ys
      induction ys with
      | nil => intro j hj; exact hj.elim (fun z => nomatch z) id
      | cons y ys ih =>
        intro j hj
        show ((wipeS ys σ').set y none)[j]? = ((wipeS ys σ).set y none)[j]?
        by_cases e : j = y
        · subst e
          by_cases hlt : j < σ.length
          · rw [List.getElem?_set_self (by rw [wipeS_length]; omega), List.getElem?_set_self (by rw [wipeS_length]; omega)]
          · rw [List.getElem?_eq_none (by rw [List.length_set, wipeS_length]; omega), List.getElem?_eq_none (by rw [List.length_set, wipeS_length]; omega)]
        · rw [List.getElem?_set_ne (Ne.symm e), List.getElem?_set_ne (Ne.symm e)]
          refine ih j (hj.elim (fun z => ?_) .inr)
          rcases List.mem_cons.mp z with z | z
          · exact absurd z e
          · exact .inl z
    by_cases hj : j ∈ xs
    · exact key xs j (.inl hj)
    · exact key xs j (.inr (h j hj))
  exact fun _ _ _ => .inr trivial
def lcL (xs : List Nat) (Me : List Nat) (tg : D → Sg → Option Sg) (ft : Sg → R Bool) (fe : Sg → R D) : List D → Sg → List D → R (List D)
  | [], S, acc => .ok acc S
  | d :: r, S, acc => match tg d S with
    | none => .bad
    | some S0 => match ft S0 with
      | .ok b S1 => if b = true then match fe S1 with
          | .ok y S2 => if acc.length < sizeLine ∧ cleanD Me y = true then lcL xs Me tg ft fe r (wipeS xs S2) (acc ++ [y]) else .bad
          | _ => .bad
        else lcL xs Me tg ft fe r (wipeS xs S1) acc
      | _ => .bad
def cLc (xs : List Nat) (Me : List Nat) (tg : D → Sg → Option Sg) (fi : Sg → R (D × List D)) (ft : Sg → R Bool) (fe : Sg → R D) : Sg → R D := fun S => (fi S).bind fun p S1 => if cleanD Me p.1 = true then
    match lcL xs Me tg ft fe p.2 (wipeS xs S1) [] with
    | .ok ds S2 => .ok (.nd .own .lst ds) S2
    | _ => .bad
  else .bad
section
variable {g : Gc} {n : Nat} {W : WX} {Γ : Gh} {A A' A'' B : List (Option T)} {σ : L2.St} {H H' : Hp} {t : T} {M M1 M2 M3 : List Nat}
theorem Rel.wipe {xs : List Nat} (Rr : Rel g Γ n A σ H) {σ' : L2.St} (hl : σ'.length = σ.length) (h : ∀ j : Nat, j ∉ xs → σ'[j]? = σ[j]?) : Rel g Γ n (wipeS xs A) σ' H :=
  (Rr.less (by rw [wipeS_length]; exact Rr.len) fun i t e => (wipeS_some xs A i t e).1).reslot hl fun i t e _ => h i (wipeS_some xs A i t e).2
theorem wipe_get {σ : L2.St} {xs : List Nat} {j : Nat} (h : j ∉ xs) : (L2.wipe σ xs)[j]? = σ[j]? := by
  induction xs with
  | nil => rfl
  | cons x xs ih =>
    rw [List.mem_cons, not_or] at h
    show ((L2.wipe σ xs).set x none)[j]? = _
    rw [List.getElem?_set_ne (Ne.symm h.1)]
    exact ih h.2
/-- a temp list takes one more item -/
theorem Rel.push {a dx : Addr} {ts : List T} {u : T} (Rr : Rel g Γ n (A ++ [some (.nd a .own .lst dx ts)] ++ [some u]) σ H) (hn : n ≤ A.length) : Rel g Γ n (A ++ [some (.nd a .own .lst dx (ts ++ [u]))]) σ (upd H a (.lst (ts.map T.root ++ [u.root]))) := by
  have hb : ∀ i c, CellAt g (A ++ [some (T.nd a .own .lst dx ts)] ++ [u].map some) i c → c.1 ≠ .bor A.length := fun i c x q => by have := Rr.lab i c _ x q; omega
  have e : (A ++ [some (T.nd a .own .lst dx ts)])[A.length]? = some (some (.nd a .own .lst dx ts)) := by simp
  have := (show Rel g Γ n (A ++ [some (T.nd a .own .lst dx ts)] ++ [u].map some) σ H from Rr).mutAt (r := A.length) (p := []) (s' := .lst) (ts' := ts ++ [u]) (res := .im .non) (dropped := []) (by simp; omega) e hb rfl (by
    simp [cellsL_append, cellsL, T.cells])
  have R2 := this.drop (A := (A ++ [some (T.nd a .own .lst dx ts)]).set A.length (some ((T.nd a .own .lst dx ts).put [] (.nd a .own .lst dx (ts ++ [u]))))) (by simp; omega)
  simp only [T.put, List.map_append, List.map_cons, List.map_nil, ho] at R2
  rw [List.set_append_right _ _ (Nat.le_refl _)] at R2
  simpa using R2
theorem nextM_wipe {xs : List Nat} (hx : ∀ x ∈ xs, x < n) (x : NextM n M A A') : NextM n (M ++ xs) A (wipeS xs A') := by
  refine ⟨⟨by rw [wipeS_length]; exact x.len, by rw [wipeS_drop xs A' hx]; exact x.tmp⟩, fun i hi hm => ?_⟩
  rw [List.mem_append, not_or] at hm
  have : (wipeS xs A')[i]? = A'[i]? := by
    clear x hx
    induction xs with
    | nil => rfl
    | cons y ys ih =>
      show ((wipeS ys A').set y none)[i]? = _
      have h2 := hm.2
      rw [List.mem_cons, not_or] at h2
      rw [List.getElem?_set_ne (Ne.symm h2.1)]
      exact ih ⟨hm.1, h2.2⟩
  rw [this]
  exact x.slot i hi hm.1
theorem mean_lc {xs : List Nat} {wi : TI} {g1 : TG} {tt : TT} {te : TE} {fi : Sg → R (D × List D)} {tg : D → Sg → Option Sg} {ft : Sg → R Bool} {fe : Sg → R D} (hx : ∀ x ∈ xs, x < n) (hi : MeanI g n W M1 wi fi) (hg : MeanG g n xs g1 tg)
    (ht : MeanT g n (fun _ _ _ _ => False) M2 tt ft) (he : MeanE g n (fun _ _ _ _ => False) M3 te fe) : MeanE g n W (M1 ++ (M2 ++ M3) ++ xs) (tLc wi g1 tt te xs) (cLc xs (M2 ++ M3) tg fi ft fe) := by
  intro Γ A σ H Q Rr cl h
  refine hi Γ A σ H _ Rr cl.left.left ?_
  unfold cLc at h
  cases ei : fi (ers n A) with
  | bad => rw [ei] at h; exact h.elim
  | exc c d S => rw [ei] at h; exact h
  | ok p S0 =>
    rw [ei] at h
    dsimp only [Lin.R.bind] at h
    by_cases hc : cleanD (M2 ++ M3) p.1 = true
    · rw [if_pos hc] at h
      intro A0 t us J H0 R0 x0 e0 d0 du hus hJ Dd hD
      have n0 : n ≤ A0.length := by rw [x0.len]; exact Rr.len
      have hx0 : ∀ x ∈ xs, x < A0.length := fun x hxx => Nat.lt_of_lt_of_le (hx x hxx) n0
      have sl := Rr.slen
      cases eL : lcL xs (M2 ++ M3) tg ft fe p.2 (wipeS xs S0) [] with
      | bad => rw [eL] at h; exact h.elim
      | exc c d S => rw [eL] at h; exact h.elim
      | ok ds S9 =>
        rw [eL] at h
        dsimp only at h
        have wl : (L2.wipe σ xs).length = σ.length := wipe_length σ xs
        -- the start
        have Rw : Rel g Γ n (wipeS xs A0 ++ [some t]) (L2.wipe σ xs) H0 := by
          have := R0.wipe (xs := xs) (σ' := L2.wipe σ xs) wl fun j hj => wipe_get hj
          rw [wipeS_append xs A0 _ hx0] at this
          exact this
        have nw : n ≤ (wipeS xs A0 ++ [some t]).length := by rw [List.length_append, wipeS_length]; omega
        have RD := (show Rel g Γ n (wipeS xs A0 ++ [some t] ++ []) (L2.wipe σ xs) H0 by rw [List.append_nil]; exact Rw).node (p := Dd) (ts := []) nw hD .lst 0 (fun c hc => by simp [cellsL] at hc) (by simp [cellsL, ownsC])
        refine ⟨fun i m H' => m = us.length - i ∧ i ≤ us.length ∧ ∃ A' ts, Rel g Γ n (A' ++ [some t] ++ [some (.nd Dd .own .lst 0 ts)]) (L2.wipe σ xs) H' ∧ NextM n (M1 ++ (M2 ++ M3) ++ xs) A A' ∧ (∀ u ∈ ts, cleanD (M2 ++ M3) u.er = true) ∧
            lcL xs (M2 ++ M3) tg ft fe (p.2.drop i) (ers n A') (ts.map T.er) = .ok ds S9,
          ⟨us.length, by simp, Nat.zero_le _, wipeS xs A0, [], RD, (nextM_wipe hx x0).mono fun r hr => by
            rcases List.mem_append.mp hr with z | z
            · exact List.mem_append_left _ (List.mem_append_left _ z)
            · exact List.mem_append_right _ z, fun u hu => (nomatch hu), by
            unfold ers
            rw [wipeS_take, wipeS_map]
            have : (List.take n A0).map (Option.map T.er) = S0 := e0
            rw [this, List.drop_zero]
            exact eL⟩, ?_⟩
        rintro i m H1 ⟨rfl, hi, A1, ts, R1, x1, cts, e1⟩
        have n1 : n ≤ A1.length := by rw [x1.len]; exact Rr.len
        have hx1 : ∀ x ∈ xs, x < A1.length := fun x hxx => Nat.lt_of_lt_of_le (hx x hxx) n1
        have hold : ∀ c ∈ t.cells g, H1 c.2.1 = some c.2.2 := fun c hc => R1.hold A1.length c (cellAt_left (cellAt_snoc.mpr (.inr ⟨rfl, hc⟩)))
        have fol := hJ H1 hold
        by_cases hlt : i < us.length
        · obtain ⟨go, yl⟩ := fol.go i us[i] (by simp [hlt])
          refine .inr ⟨go, fun H' => ∃ A' ts, Rel g Γ n (A' ++ [some t] ++ [some (.nd Dd .own .lst 0 ts)]) (L2.wipe σ xs) H' ∧ NextM n (M1 ++ (M2 ++ M3) ++ xs) A A' ∧ (∀ u ∈ ts, cleanD (M2 ++ M3) u.er = true) ∧
              lcL xs (M2 ++ M3) tg ft fe (p.2.drop (i + 1)) (ers n A') (ts.map T.er) = .ok ds S9, fun H' ⟨A', ts, r1, r2, r3, r4⟩ => ⟨us.length - (i + 1), by omega, rfl, hlt, A', ts, r1, r2, r3, r4⟩, fun x H' y => ?_⟩
          obtain ⟨rfl, rfl⟩ := yl x H' y
          have hp : p.2.drop i = us[i].er :: p.2.drop (i + 1) := by
            have hl : i < p.2.length := by rw [← du, List.length_map]; exact hlt
            have : us[i].er = p.2[i] := by simp [← du]
            rw [this, List.getElem_cons_drop]
          rw [hp, lcL] at e1
          -- the pending temps
          have nP : n ≤ (A1 ++ [some t] ++ [some (T.nd Dd .own .lst 0 ts)]).length := by simp; omega
          have Rd : Rel g Γ n (A1 ++ [some t] ++ [some (T.nd Dd .own .lst 0 ts)] ++ [some us[i]]) (L2.wipe σ xs) H' := R1.dup fun c hc => by
            obtain ⟨q1, q2⟩ := hus us[i] (List.getElem_mem hlt) c hc
            exact ⟨q1, A1.length, cellAt_left (cellAt_snoc.mpr (.inr ⟨rfl, q2⟩))⟩
          have ersP : ∀ {B : List (Option T)}, n ≤ B.length → ∀ o : Option T, ers n (B ++ [some t] ++ [o]) = ers n B := fun {B} hB o => by
            rw [ers_append (by simp; omega), ers_append hB]
          have clP : ∀ {B : List (Option T)}, NextM n (M1 ++ (M2 ++ M3) ++ xs) A B → Clean g n (M2 ++ M3) (B ++ [some t] ++ [some (T.nd Dd .own .lst 0 ts)]) := fun {B} xB => by
            refine ((cl.left.right.next xB.toNext Rr.len).snoc (by rw [d0]; exact hc)).snoc ?_
            refine (cleanD_iff (g := g)).mpr fun r hr c hcc => ?_
            rw [T.cells] at hcc
            rcases List.mem_cons.mp hcc with rfl | hcc
            · intro z; cases z
            · rw [cellsL_eq, List.mem_flatMap] at hcc
              obtain ⟨u, hu, hcu⟩ := hcc
              exact cleanD_iff.mp (cts u hu) r hr c hcu
          cases et : tg us[i].er (ers n A1) with
          | none => rw [et] at e1; cases e1
          | some S1 =>
            rw [et] at e1
            dsimp only at e1
            refine hg Γ _ us[i] _ H' _ S1 Rd nP (by rw [ersP n1]; exact et) fun A2 σ2 H2 R2 x2 e2 hk => ?_
            have l2 : σ2.length = σ.length := by rw [R2.slen, sl]
            have l2w : σ2.length = (L2.wipe σ xs).length := by rw [l2, wl]
            have wk : wipe σ2 xs = wipe σ xs := by
              refine wipe_ext l2 fun j hj => ?_
              rw [hk j hj, wipe_get hj]
            refine ⟨wk, ?_⟩
            -- split off the pending temps
            have out : ∀ {M5 : List Nat} {A3 B3 : List (Option T)}, n ≤ B3.length → NextM n M5 (B3 ++ [some t] ++ [some (T.nd Dd .own .lst 0 ts)]) A3 → NextM n M5 B3 (A3.take B3.length) ∧ A3 = A3.take B3.length ++ [some t] ++ [some (.nd Dd .own .lst 0 ts)] ∧ n ≤ (A3.take B3.length).length := fun {M5 A3 B3} hB x3 => by
              have x3' := x3
              rw [List.append_assoc] at x3'
              obtain ⟨y3, z3⟩ := x3'.left hB
              exact ⟨y3, by rw [List.append_assoc]; exact z3, by rw [y3.len]; exact hB⟩
            have inAll : ∀ {M5 : List Nat} {B3 B4 : List (Option T)}, NextM n (M1 ++ (M2 ++ M3) ++ xs) A B3 → NextM n M5 B3 B4 → (∀ r ∈ M5, r ∈ M1 ++ (M2 ++ M3) ++ xs) → NextM n (M1 ++ (M2 ++ M3) ++ xs) A B4 := fun a b hm => (a.trans b).mono fun r hr => (List.mem_append.mp hr).elim id (hm r)
            obtain ⟨y2, z2, n2⟩ := out n1 x2
            have x12 := inAll x1 y2 fun r hr => List.mem_append_right _ hr
            rw [z2] at R2 e2
            rw [ersP n2] at e2
            refine ht Γ _ σ2 H2 _ R2 ((clP x12).mono fun r hr => List.mem_append_left _ hr) ?_
            rw [ersP n2, e2]
            cases eft : ft S1 with
            | bad => rw [eft] at e1; cases e1
            | exc c d S => rw [eft] at e1; cases e1
            | ok b S2 =>
              rw [eft] at e1
              dsimp only at e1
              intro A3 H3 R3 x3 e3
              obtain ⟨y3, z3, n3⟩ := out n2 x3
              have x13 := inAll x12 y3 fun r hr => List.mem_append_left _ (List.mem_append_right _ (List.mem_append_left _ hr))
              rw [z3] at R3 e3
              rw [ersP n3] at e3
              have back : ∀ {B : List (Option T)} {us' : List T} {Hb : Hp}, n ≤ B.length → Rel g Γ n (B ++ [some t] ++ [some (T.nd Dd .own .lst 0 us')]) σ2 Hb → Rel g Γ n (wipeS xs B ++ [some t] ++ [some (T.nd Dd .own .lst 0 us')]) (L2.wipe σ xs) Hb := fun {B us' Hb} hB r => by
                have hxB : ∀ x ∈ xs, x < B.length := fun x hxx => Nat.lt_of_lt_of_le (hx x hxx) hB
                have := r.wipe (xs := xs) (σ' := L2.wipe σ xs) (by rw [wl, l2]) fun j hj => by rw [hk j hj]
                rw [List.append_assoc, wipeS_append xs B _ hxB, ← List.append_assoc] at this
                exact this
              have wnext : ∀ {B : List (Option T)}, NextM n (M1 ++ (M2 ++ M3) ++ xs) A B → NextM n (M1 ++ (M2 ++ M3) ++ xs) A (wipeS xs B) := fun {B} y => (nextM_wipe hx y).mono fun r hr => (List.mem_append.mp hr).elim id fun z => List.mem_append_right _ z
              have wers : ∀ {B : List (Option T)}, ers n (wipeS xs B) = wipeS xs (ers n B) := fun {B} => by
                unfold ers
                rw [wipeS_take, wipeS_map]
              cases b with
              | false =>
                rw [if_neg Bool.false_ne_true] at e1 ⊢
                exact ⟨_, ts, back n3 R3, wnext x13, cts, by rw [wers, e3]; exact e1⟩
              | true =>
                rw [if_pos rfl] at e1 ⊢
                refine he Γ _ σ2 H3 _ R3 ((clP x13).mono fun r hr => List.mem_append_right _ hr) ?_
                rw [ersP n3, e3]
                cases efe : fe S2 with
                | bad => rw [efe] at e1; cases e1
                | exc c d S => rw [efe] at e1; cases e1
                | ok yd S3 =>
                  rw [efe] at e1
                  dsimp only at e1
                  intro A4 ty H4 R4 x4 e4 d4
                  obtain ⟨y4, z4, n4⟩ := out n3 x4
                  have x14 := inAll x13 y4 fun r hr => List.mem_append_left _ (List.mem_append_right _ (List.mem_append_right _ hr))
                  rw [z4] at R4 e4
                  rw [ersP n4] at e4
                  by_cases hcond : (ts.map T.er).length < sizeLine ∧ cleanD (M2 ++ M3) yd = true
                  · rw [if_pos hcond] at e1
                    have hD4 : H4 Dd = some (.lst (ts.map T.root)) := R4.top2
                    refine ⟨_, hD4, by simpa using hcond.1, ?_⟩
                    have R5 := R4.push (by rw [List.length_append]; exact Nat.le_trans n4 (Nat.le_add_right _ _))
                    refine ⟨_, ts ++ [ty], back n4 R5, wnext x14, fun u hu => ?_, ?_⟩
                    · rcases List.mem_append.mp hu with z | z
                      · exact cts u z
                      · have : u = ty := by simpa using z
                        rw [this, d4]; exact hcond.2
                    · rw [wers, e4, List.map_append, List.map_cons, List.map_nil, d4]
                      exact e1
                  · rw [if_neg hcond] at e1; cases e1
        · have ei' : i = us.length := by omega
          subst ei'
          refine .inl ⟨fol.stop, ?_⟩
          rw [List.drop_of_length_le (by rw [← du, List.length_map]; exact Nat.le_refl _), lcL] at e1
          have e2 : ts.map T.er = ds ∧ ers n A1 = S9 := by
            cases e1
            exact ⟨rfl, rfl⟩
          have R2 : Rel g Γ n (A1 ++ [some (T.nd Dd .own .lst 0 ts)]) (L2.wipe σ xs) H1 := R1.mid n1
          have R3 : Rel g Γ n (A1 ++ [some (T.nd Dd .own .lst 0 ts)]) σ H1 := R2.reslot (by rw [wl]) fun i t e hi => by
            have := R2.val i t hi e
            rw [this]
            exact (wipe_some this).1
          exact h A1 (.nd Dd .own .lst 0 ts) H1 R3 x1 e2.2 (by simp [T.er, erL_eq, e2.1])
    · rw [if_neg hc] at h; exact h.elim
end
end Lin
end
section
namespace Lin
open PySem L2
/-! ### lists changed by their methods -/
def mAppend (s : Sh) (ds us : List D) : Option (Sh × List D × D) := match s, us with
  | .lst, [y] => if ds.length < sizeLine then some (.lst, ds ++ [y], .im .non) else none
  | _, _ => none
def mClear (s : Sh) (ds us : List D) : Option (Sh × List D × D) := match s, us with
  | .lst, [] => some (.lst, [], .im .non)
  | _, _ => none
def mPop (s : Sh) (ds us : List D) : Option (Sh × List D × D) := match s, us with
  | .lst, [] => match ds[ds.length - 1]? with
    | some y => some (.lst, ds.dropLast, y)
    | none => none
  | _, _ => none
def mPopAt (s : Sh) (ds us : List D) : Option (Sh × List D × D) := match s, us with
  | .lst, [.im (.int i)] => if -(2 ^ 63) ≤ i ∧ i < 2 ^ 63 then match seqIndex? i ds.length with
      | some k => match ds[k]? with
        | some y => some (.lst, ds.eraseIdx k, y)
        | none => none
      | none => none
    else none
  | _, _ => none
section
variable {g : Gc}
theorem cellsL_perm {a b : List T} (h : a.Perm b) : (cellsL g a).Perm (cellsL g b) := by
  rw [cellsL_eq, cellsL_eq]
  exact h.flatMap_right _
theorem er_nil {ts : List T} (h : ts.map T.er = []) : ts = [] := by simpa using h
theorem mum_append : MuM g rAppend mAppend := by
  intro H a dx s ts us s' ds' dres hH ho
  unfold mAppend at ho
  split at ho
  · rename_i y eu
    obtain ⟨u, rfl, hu⟩ := er_one eu
    split at ho
    · rename_i hz
      cases ho
      refine ⟨ts ++ [u], .im .non, [], by simp [hu], rfl, by simp [cellsL_append, cellsL, T.cells], fun Q q => ?_⟩
      refine ⟨a, ts.map T.root, u.root, rfl, rfl, hH, by simpa using hz, ?_⟩
      have q' := q
      simp only [Lin.ho, List.map_append, List.map_cons, List.map_nil] at q'
      exact q'
    · cases ho
  · cases ho
theorem mum_clear : MuM g rClear mClear := by
  intro H a dx s ts us s' ds' dres hH ho
  unfold mClear at ho
  split at ho
  · rename_i eu
    have := er_nil eu
    subst this
    cases ho
    refine ⟨[], .im .non, cellsL g ts, rfl, rfl, by simp [cellsL, T.cells], fun Q q => ?_⟩
    exact ⟨a, ts.map T.root, rfl, rfl, hH, q⟩
  · cases ho
theorem erase_perm {ts : List T} {k : Nat} {u : T} (h : ts[k]? = some u) : (cellsL g (ts.eraseIdx k) ++ u.cells g).Perm (cellsL g ts) := by
  obtain ⟨hk, e⟩ := List.getElem?_eq_some_iff.mp h
  have e1 : ts = ts.take k ++ u :: ts.drop (k + 1) := by rw [← e, List.getElem_cons_drop, List.take_append_drop]
  rw [List.eraseIdx_eq_take_drop_succ, cellsL_append]
  conv => rhs; rw [e1, cellsL_append, cellsL]
  rw [List.append_assoc]
  exact List.Perm.append_left _ List.perm_append_comm
theorem map_erase {α β : Type} (f : α → β) (l : List α) (k : Nat) : (l.eraseIdx k).map f = (l.map f).eraseIdx k := by
  simp [List.eraseIdx_eq_take_drop_succ, List.map_take, List.map_drop]
theorem mum_popAt : MuM g rPopAt mPopAt := by
  intro H a dx s ts us s' ds' dres hH ho
  unfold mPopAt at ho
  split at ho
  · rename_i i eu
    obtain ⟨u, rfl, hu⟩ := er_one eu
    split at ho
    · rename_i hb
      rw [List.length_map] at ho
      cases ek : seqIndex? i ts.length with
      | none => rw [ek] at ho; cases ho
      | some k =>
        rw [ek] at ho
        dsimp only at ho
        rw [List.getElem?_map] at ho
        cases ey : ts[k]? with
        | none => rw [ey] at ho; cases ho
        | some y =>
          rw [ey] at ho
          cases ho
          refine ⟨ts.eraseIdx k, y, [], map_erase _ _ _, rfl, ?_, fun Q q => ?_⟩
          · rw [List.append_nil, er_im hu]
            simpa [cellsL, T.cells] using erase_perm (g := g) ey
          · rw [er_im hu]
            refine ⟨a, ts.map T.root, i, k, y.root, rfl, rfl, hH, hb.1, hb.2, by rw [List.length_map]; exact ek, by rw [List.getElem?_map, ey]; rfl, ?_⟩
            rw [← map_erase]
            exact q
    · cases ho
  · cases ho
theorem mum_pop : MuM g rPop mPop := by
  intro H a dx s ts us s' ds' dres hH ho
  unfold mPop at ho
  split at ho
  · rename_i eu
    have := er_nil eu
    subst this
    rw [List.length_map, List.getElem?_map] at ho
    cases ey : ts[ts.length - 1]? with
    | none => rw [ey] at ho; cases ho
    | some y =>
      rw [ey] at ho
      cases ho
      have hne : ts.length ≠ 0 := fun z => by
        have : ts = [] := List.length_eq_zero_iff.mp z
        subst this; simp at ey
      have e1 : ts.eraseIdx (ts.length - 1) = ts.dropLast := by rw [List.eraseIdx_length_sub_one]
      refine ⟨ts.dropLast, y, [], by rw [List.map_dropLast], rfl, ?_, fun Q q => ?_⟩
      · rw [List.append_nil, ← e1]
        simpa [cellsL] using erase_perm (g := g) ey
      · refine ⟨a, ts.map T.root, y.root, rfl, rfl, hH, by rw [List.length_map, List.getElem?_map, ey]; rfl, ?_⟩
        rw [← List.map_dropLast]
        exact q
  · cases ho
def isLst (s : Sh) : Bool := match s with
  | .lst => true
  | _ => false
theorem lst_ty {K : PySem.W.Frag} {H : Hp} {a dx : Addr} {s : Sh} {vs : List V} (h : isLst s = true) (e : H a = some (ho g s dx vs)) : tyV K "list" (.ref a) H := by
  cases s with
  | lst => exact .inl ⟨rfl, _, SqL.of e⟩
  | _ => cases h
end
/-! ### path[i] = e; path.f = e -/
/-- the node's new content, from the value v at the place i -/
def cSetAt (r : Nat) (M2 : List Nat) (fe : Sg → R D) (fp : Sg → R (List Nat)) (fi : Sg → R D) (op : Sh → List D → D → D → Option (Sh × List D)) : Sg → R Fl := fun S => (fe S).bind fun v S1 => if cleanD M2 v = true ∧ hasBor r v = false then (fp S1).bind fun p S2 => if r ∈ M2 then .bad else
  (fi S2).bind fun i S3 => if hasBor r i = false then match nodeAt ((S3.map (killD r))) r p with
    | some (.nd .own s ds) => match op s ds i v with
      | some (s', ds') => match (S3.map (killD r))[r]? with
        | some (some d) => .ok .nx ((S3.map (killD r)).set r (some (d.put p (.nd .own s' ds'))))
        | _ => .bad
      | none => .bad
    | _ => .bad
  else .bad
  else .bad
def StM (g : Gc) (rs : V → V → V → Hp → (Hp → Prop) → Prop) (op : Sh → List D → D → D → Option (Sh × List D)) : Prop :=
  ∀ (H : Hp) (a dx : Addr) (s : Sh) (ts : List T) (i v : T) (s' : Sh) (ds' : List D), (∀ c ∈ i.cells g, H c.2.1 = some c.2.2) → H a = some (ho g s dx (ts.map T.root)) → op s (ts.map T.er) i.er v.er = some (s', ds') →
    ∃ (ts' : List T) (dropped : List Cell), ts'.map T.er = ds' ∧ (cellsL g ts' ++ dropped).Perm (cellsL g ts ++ cellsL g [v, i]) ∧ ∀ Q : Hp → Prop, Q (upd H a (ho g s' dx (ts'.map T.root))) → rs (.ref a) i.root v.root H Q
section
variable {g : Gc} {n : Nat} {W : WX} {Γ : Gh} {A A' A'' B : List (Option T)} {σ : L2.St} {H H' : Hp} {t : T} {M M1 M2 M3 M4 : List Nat}
theorem mean_setAt {r : Nat} {te tp ti : TE} {fe fi : Sg → R D} {fp : Sg → R (List Nat)} {rs : TSet} {op : Sh → List D → D → D → Option (Sh × List D)} (he : MeanE g n W M1 te fe) (hp : MeanP g n W r M2 tp fp) (hi : MeanE g n W M3 ti fi) (ho : StM g rs op) :
    MeanS g n W (M1 ++ (M2 ++ M3) ++ [r]) (tAsg te (gSub tp ti rs)) (cSetAt r (M2 ++ M3) fe fp fi op) := by
  intro Γ A σ H Dn Rr cl h
  refine he Γ A σ H _ Rr cl.left.left ?_
  unfold cSetAt at h
  cases ea : fe (ers n A) with
  | bad => rw [ea] at h; exact h.elim
  | exc c d S => rw [ea] at h; exact fun A' t H' R x e => h A' t σ H' R (x.toS _ _) e
  | ok v S1 =>
    rw [ea] at h
    dsimp only [Lin.R.bind] at h
    intro A1 tv H1 R1 x1 e1 d1
    have n1 : n ≤ A1.length := by rw [x1.len]; exact Rr.len
    by_cases hcv : cleanD (M2 ++ M3) v = true ∧ hasBor r v = false
    · rw [if_pos hcv] at h
      have cl1 := cl.next x1.toNext Rr.len
      have clv : Clean g n (M2 ++ M3) (A1 ++ [some tv]) := cl1.left.right.snoc (by rw [d1]; exact hcv.1)
      have nv : n ≤ (A1 ++ [some tv]).length := by rw [List.length_append]; omega
      refine hp Γ (A1 ++ [some tv]) σ H1 _ R1 clv.left ?_
      rw [ers_append n1, e1]
      cases eb : fp S1 with
      | bad => rw [eb] at h; exact h.elim
      | exc c d S =>
        rw [eb] at h
        intro A2 t2 H2 R2 x2 e2 d2
        obtain ⟨y, z⟩ := x2.left n1
        have n3 : n ≤ (A2.take A1.length).length := by rw [y.len]; exact n1
        rw [z] at R2 e2
        exact h _ t2 σ H2 (R2.mid n3) ((x1.toNext.trans y).toS _ _) (by rw [ers_append n3] at e2; exact e2) d2
      | ok p S2 =>
        rw [eb] at h
        dsimp only [Lin.R.bind] at h
        by_cases hm : r ∈ M2 ++ M3
        · rw [if_pos hm] at h; exact h.elim
        · rw [if_neg hm] at h
          rw [List.mem_append, not_or] at hm
          intro A2 H2 t u R2 x2 e2 et eu
          obtain ⟨y2, z2⟩ := x2.left n1
          have l2 : (A2.take A1.length).length = A1.length := y2.len
          have n2 : n ≤ (A2.take A1.length).length := by rw [l2]; exact n1
          have nA2 : n ≤ A2.length := by rw [x2.len]; exact nv
          refine hi Γ A2 σ H2 _ R2 ((clv.next x2.toNext nv).right) ?_
          rw [e2]
          cases ec : fi S2 with
          | bad => rw [ec] at h; exact h.elim
          | exc c d S =>
            rw [ec] at h
            intro A3 t3 H3 R3 x3 e3 d3
            have x23 := x2.toNext.trans x3
            obtain ⟨y, z⟩ := x23.left n1
            have n3 : n ≤ (A3.take A1.length).length := by rw [y.len]; exact n1
            rw [z] at R3 e3
            exact h _ t3 σ H3 (R3.mid n3) ((x1.toNext.trans y).toS _ _) (by rw [ers_append n3] at e3; exact e3) d3
          | ok i S3 =>
            rw [ec] at h
            dsimp only [Lin.R.bind] at h
            by_cases hbi : hasBor r i = false
            · rw [if_pos hbi] at h
              intro A3 ti H3 R3 x3 e3 d3
              have x23 : NextM n (M2 ++ M3) (A1 ++ [some tv]) A3 := x2.trans x3
              obtain ⟨y, z⟩ := x23.left n1
              have l3 : (A3.take A1.length).length = A1.length := y.len
              have n3 : n ≤ (A3.take A1.length).length := by rw [l3]; exact n1
              have e3' : ers n (A3.take A1.length) = S3 := by rw [z, ers_append n3] at e3; exact e3
              rw [← e3', ← ers_kill n3] at h
              split at h
              · rename_i s ds en
                obtain ⟨t', u', et', eu', ed, hr⟩ := nodeAt_some en
                have et2 := (kill_get et').1
                have hrA : r < A1.length := by omega
                have : t' = t := by
                  have q0 : A3[r]? = some (some t') := by
                    rw [z, List.getElem?_append_left (by rw [l3]; exact hrA)]; exact et2
                  rcases x3.slot r hr hm.2 with q | q
                  · rw [q0, et] at q; simpa using q
                  · rw [q0] at q; cases q
                subst this
                have : u' = u := by rw [eu] at eu'; exact (Option.some.inj eu').symm
                subst this
                obtain ⟨a, dx, ts, hu, hds⟩ := er_nd ed
                subst hu
                split at h
                · rename_i s' ds' eo
                  rw [z, List.append_assoc] at R3
                  have R3k : Rel g Γ n (kill n r (A3.take A1.length) ++ [tv, ti].map some) σ H3 := by
                    have := R3.kill r
                    rw [kill_append n3] at this
                    exact this
                  have hH : H3 a = some (Lin.ho g s dx (ts.map T.root)) := R3k.holdAt (r := r) (t := t') (by rw [List.getElem?_append_left (by rw [kill_length, l3]; exact hrA)]; exact et') eu
                  have hti : ∀ c ∈ ti.cells g, H3 c.2.1 = some c.2.2 := fun c hc => R3k.hold ((kill n r (A3.take A1.length)).length + 1) c (cellAt_append.mpr (.inr ⟨by omega, ti, by rw [show (kill n r (A3.take A1.length)).length + 1 - (kill n r (A3.take A1.length)).length = 1 by omega]; rfl, hc⟩))
                  obtain ⟨ts', dropped, k1, k3, k4⟩ := ho H3 a dx s ts ti tv s' ds' hti hH (by rw [hds, d3, d1]; exact eo)
                  have nbA : ∀ i c, CellAt g (kill n r (A3.take A1.length) ++ [tv, ti].map some) i c → c.1 ≠ .bor r := fun j c x => by
                    rcases cellAt_append.mp x with x | ⟨_, x⟩
                    · exact kill_clean ((cl1.right).next y.toNext n1) j c x
                    · intro q
                      have hmem : c ∈ cellsL g [tv, ti] := cellAt_map.mp ⟨_, x⟩
                      simp only [cellsL, List.append_nil] at hmem
                      rcases List.mem_append.mp hmem with w | w
                      · have := (hasBor_iff (g := g)).mpr ⟨c, w, q⟩
                        rw [d1, hcv.2] at this; cases this
                      · have := (hasBor_iff (g := g)).mpr ⟨c, w, q⟩
                        rw [d3, hbi] at this; cases this
                  have R4 := R3k.mutAt (s' := s') (ts' := ts') (res := .im .non) (dropped := dropped) (by rw [kill_length]; exact n3) et' nbA eu (by simpa [T.cells] using k3)
                  refine k4 _ ?_
                  have ers1 : (ers n (kill n r (A3.take A1.length)))[r]? = some (some t'.er) := by rw [ers_get hr, et']; rfl
                  rw [ers1] at h
                  dsimp only at h
                  refine h _ σ _ (R4.drop (by rw [List.length_set, kill_length]; exact n3)) (Next.toS ⟨?_, ?_⟩ _ _) ?_
                  · rw [List.length_set, kill_length, l3, x1.len]
                  · rw [List.drop_set_of_lt hr]
                    exact (nextM_kill (r := r) n3 (x1.trans y)).tmp
                  · rw [ers_set hr, Option.map_some, er_put]
                    simp only [T.er, erL_eq, k1]
                · exact h.elim
              · exact h.elim
            · rw [if_neg hbi] at h; exact h.elim
    · rw [if_neg hcv] at h; exact h.elim
/-- lists -/
def sLst (s : Sh) (ds : List D) (i v : D) : Option (Sh × List D) := match s, i with
  | .lst, .im (.int k) => (ixN ds.length k).map fun j => (.lst, ds.set j v)
  | _, _ => none
theorem stm_lst : StM g rSetL sLst := by
  intro H a dx s ts i v s' ds' _ hH ho
  unfold sLst at ho
  split at ho
  · rename_i k ei
    rw [List.length_map] at ho
    cases ej : ixN ts.length k with
    | none => rw [ej] at ho; cases ho
    | some j =>
      rw [ej] at ho
      cases ho
      obtain ⟨_, hj, _⟩ := ixN_seq ej
      refine ⟨ts.set j v, (ts[j]).cells g ++ i.cells g, by rw [List.map_set], ?_, fun Q q => ?_⟩
      · have e1 : ts = ts.take j ++ ts[j] :: ts.drop (j + 1) := by rw [List.getElem_cons_drop, List.take_append_drop]
        have e2 : ts.set j v = ts.take j ++ v :: ts.drop (j + 1) := List.set_eq_take_append_cons_drop.trans (by rw [if_pos hj])
        have e3 : cellsL g ts = cellsL g (ts.take j) ++ ((ts[j]).cells g ++ cellsL g (ts.drop (j + 1))) := by
          conv => lhs; rw [e1, cellsL_append, cellsL]
        rw [e2, e3, cellsL_append]
        simp only [cellsL, List.append_nil]
        classical
        refine List.perm_iff_count.mpr fun c => ?_
        simp only [List.count_append]
        omega
      · rw [er_im ei]
        refine ⟨a, ts.map T.root, k, j, rfl, rfl, hH, by rw [List.length_map]; exact ej, ?_⟩
        rw [← List.map_set]
        exact q
  · cases ho
end
end Lin
end
section
namespace Lin
open PySem L2
/-! ### fields -/
theorem lookup_map {α β : Type} (h : α → β) (f : Str) : ∀ (ns : List Str) (xs : List α), (ns.zip (xs.map h)).lookup f = ((ns.zip xs).lookup f).map h
  | [], _ => by simp
  | _ :: _, [] => by simp
  | n :: ns, x :: xs => by
    simp only [List.map_cons, List.zip_cons_cons, List.lookup_cons]
    cases f == n with
    | true => rfl
    | false => exact lookup_map h f ns xs
theorem lookup_mem {α : Type} (f : Str) : ∀ (ns : List Str) (xs : List α) (x : α), (ns.zip xs).lookup f = some x → ∃ i : Nat, xs[i]? = some x
  | [], _, x, h => by simp at h
  | _ :: _, [], x, h => by simp at h
  | n :: ns, y :: xs, x, h => by
    simp only [List.zip_cons_cons, List.lookup_cons] at h
    cases e : f == n with
    | true => rw [e] at h; exact ⟨0, by simpa using h⟩
    | false =>
      rw [e] at h
      obtain ⟨i, hi⟩ := lookup_mem f ns xs x h
      exact ⟨i + 1, by simpa using hi⟩
def dFld (c : Nat) (f : Str) (d : D) : Option D := match d with
  | .nd _ (.obj c' ns) ds => if c' = c then (ns.zip ds).lookup f else none
  | _ => none
def rFld (K : PySem.W.Frag) (f : Str) : V → Hp → VK → Prop := fun x H1 Q => ∃ a C dx fs v, x = .ref a ∧ H1 a = some (.ins C dx fs) ∧ Cls K C ∧ NoAttr K C f ∧ fs.lookup f = some v ∧ Q v H1
section
variable {g : Gc} {n : Nat} {W : WX} {Γ : Gh} {A A' A'' B : List (Option T)} {σ : L2.St} {H H' : Hp} {t : T} {M M1 M2 M3 M4 : List Nat}
theorem unm_fld {K : PySem.W.Frag} {c : Nat} {f : Str} (hc : Cls K (g.cl c)) (hf : NoAttr K (g.cl c) f) : UnM g n (rFld K f) (dFld c f) := by
  intro Γ A ta σ H Q d Rr hn eo hq
  unfold dFld at eo
  split at eo
  · rename_i k c' ns ds e
    split at eo
    · rename_i hcc
      subst hcc
      obtain ⟨a, dx, ts, rfl, h1⟩ := er_nd e
      rw [← h1, lookup_map] at eo
      cases q : (ns.zip ts).lookup f with
      | none => rw [q] at eo; cases eo
      | some u =>
        rw [q] at eo
        obtain ⟨i, hi⟩ := lookup_mem f ns ts u q
        refine ⟨a, g.cl c', dx, _, u.root, rfl, Rr.top1, hc, hf, by rw [lookup_map, q]; rfl, hq u H (Rr.sub1 hn ((at_sub hi).trans child_sub)) (by simpa using eo)⟩
    · cases eo
  · cases eo
/-! ### path.f = e -/
def putL {α : Type} (f : Str) : List Str → List α → α → List Str × List α
  | n :: ns, x :: xs, v => if n = f then (n :: ns, v :: xs) else (n :: (putL f ns xs v).1, x :: (putL f ns xs v).2)
  | _, _, v => ([f], [v])
theorem putL_map {α β : Type} (h : α → β) (f : Str) : ∀ (ns : List Str) (xs : List α) (v : α), (putL f ns (xs.map h) (h v)).1 = (putL f ns xs v).1 ∧ (putL f ns (xs.map h) (h v)).2 = (putL f ns xs v).2.map h
  | [], xs, v => by cases xs <;> simp [putL]
  | _ :: _, [], v => by simp [putL]
  | n :: ns, x :: xs, v => by
    obtain ⟨h1, h2⟩ := putL_map h f ns xs v
    simp only [List.map_cons, putL]
    by_cases e : n = f
    · rw [if_pos e, if_pos e]; exact ⟨rfl, rfl⟩
    · rw [if_neg e, if_neg e]; simp [h1, h2]
theorem putL_zip (f : Str) : ∀ (ns : List Str) (vs : List V) (v : V), ns.length = vs.length → putF f v (ns.zip vs) = (putL f ns vs v).1.zip (putL f ns vs v).2
  | [], [], v, _ => rfl
  | [], _ :: _, v, h => by simp at h
  | _ :: _, [], v, h => by simp at h
  | n :: ns, x :: vs, v, h => by
    have ih := putL_zip f ns vs v (by simpa using h)
    simp only [List.zip_cons_cons, putF, putL]
    by_cases e : n = f
    · rw [if_pos e, if_pos e]; rfl
    · rw [if_neg e, if_neg e, ih]; rfl
theorem putL_perm (f : Str) : ∀ (ns : List Str) (ts : List T) (v : T), ns.length = ts.length → ∃ dropped, (cellsL g (putL f ns ts v).2 ++ dropped).Perm (cellsL g ts ++ v.cells g)
  | [], [], v, _ => ⟨[], by simp [putL, cellsL]⟩
  | [], _ :: _, v, h => by simp at h
  | _ :: _, [], v, h => by simp at h
  | n :: ns, x :: ts, v, h => by
    obtain ⟨dr, p⟩ := putL_perm f ns ts v (by simpa using h)
    simp only [putL]
    by_cases e : n = f
    · rw [if_pos e]
      refine ⟨x.cells g, ?_⟩
      simp only [cellsL]
      classical
      refine List.perm_iff_count.mpr fun c => ?_
      simp only [List.count_append]
      omega
    · rw [if_neg e]
      refine ⟨dr, ?_⟩
      simp only [cellsL, List.append_assoc]
      exact p.append_left _
def sAttr (c : Nat) (f : Str) (s : Sh) (ds : List D) (i v : D) : Option (Sh × List D) := match s with
  | .obj c' ns => if c' = c ∧ ns.length = ds.length ∧ ns.length < 1000 then some (.obj c' (putL f ns ds v).1, (putL f ns ds v).2) else none
  | _ => none
def rAttr (K : PySem.W.Frag) (f : Str) : TSet := fun o _ v H Q => ∃ a C dx fs, o = .ref a ∧ H a = some (.ins C dx fs) ∧ Cls K C ∧ NoAttr K C f ∧ fs.length < 1000 ∧ Q (upd H a (.ins C dx (putF f v fs)))
theorem stm_attr {K : PySem.W.Frag} {c : Nat} {f : Str} (hc : Cls K (g.cl c)) (hf : NoAttr K (g.cl c) f) : StM g (rAttr K f) (sAttr c f) := by
  intro H a dx s ts i v s' ds' _ hH ho
  unfold sAttr at ho
  split at ho
  · rename_i c' ns
    split at ho
    · rename_i hh
      obtain ⟨rfl, hl, h1000⟩ := hh
      cases ho
      rw [List.length_map] at hl
      obtain ⟨dr, p⟩ := putL_perm (g := g) f ns ts v hl
      obtain ⟨m1, m2⟩ := putL_map T.er f ns ts v
      obtain ⟨k1, k2⟩ := putL_map T.root f ns ts v
      refine ⟨(putL f ns ts v).2, dr ++ i.cells g, m2.symm, ?_, fun Q q => ?_⟩
      · simp only [cellsL, List.append_nil]
        rw [← List.append_assoc, ← List.append_assoc]
        exact p.append_right _
      · refine ⟨a, g.cl c', dx, _, rfl, hH, hc, hf, by simpa [hl] using (show ts.length < 1000 by omega), ?_⟩
        rw [putL_zip f ns _ _ (by rw [List.length_map]; exact hl), k1, k2]
        rw [m1] at q
        exact q
    · cases ho
  · cases ho
/-! ### C(..) -/
def tMakeS (C : Addr) (sp : Sp) (E : L2.St → XK) (t : TA) : TE := fun σ H Q => t σ H fun vs H1 => ∀ x dx, H1 x = none → H1 dx = none → dx ≠ x →
  sp (.ref x :: vs) (upd (upd H1 dx (.own x)) x (.ins C dx [])) (fun v H2 => v = .non ∧ Q (.ref x) H2) (E σ)
def cMk (c : Nat) (rs : List (Option Nat)) (fr : Sg → R (List D)) (sem : FSem) : Sg → R D := fun S => (fr S).bind fun ds S1 => if ds.length = rs.length ∧ ((List.zip rs ds).all fun p => p.1.isNone || ofD p.2) = true then
    match sem (.nd .own (.obj c []) [] :: argsD rs ds) with
    | .ok (.im .non) (d :: ms) => .ok d (backS rs ms S1)
    | .exc e d (_ :: ms) => .exc e d (backS rs ms S1)
    | _ => .bad
  else .bad
theorem back_mk {H1 : Hp} {x dx : Addr} {c : Nat} {mr : List Bool} {ats us : List T} {t self' : T} (hx : H1 x = none) (hdx : H1 dx = none) (ne : dx ≠ x) (ht : ∀ c ∈ t.cells g, c.1 = .own ∨ c.1 = .frz)
    (b : BackOk g (upd (upd H1 dx (.own x)) x (.ins (g.cl c) dx [])) H' (true :: mr) (T.nd x .own (.obj c []) dx [] :: ats) t (self' :: us)) :
    (t.cells g = [] → BackOk g H1 H' mr ats self' us) ∧ BackOk g H1 H' mr ats t us ∧ self'.root = .ref x := by
  have fr : ∀ a o, H1 a = some o → (upd (upd H1 dx (.own x)) x (.ins (g.cl c) dx [])) a = some o := fun a o h => by
    rw [upd_ne (ne_of_none h hx), upd_ne (ne_of_none h hdx)]; exact h
  have fn : ∀ a, (upd (upd H1 dx (.own x)) x (.ins (g.cl c) dx [])) a = none → H1 a = none := fun a h => by
    cases q : H1 a with
    | none => rfl
    | some o => rw [fr a o q] at h; cases h
  have owns : ∀ a, a ∈ ownsC (cellsL g (T.nd x .own (.obj c []) dx [] :: ats)) → a = x ∨ a ∈ ownsC (cellsL g ats) := fun a h => by
    rw [cellsL, ownsC_append] at h
    rcases List.mem_append.mp h with z | z
    · left
      rw [T.cells] at z
      simpa [ownsC, cellsL] using z
    · exact .inr z
  have frame : ∀ a o, H1 a = some o → a ∉ ownsC (cellsL g ats) → H' a = some o := fun a o h hm => b.frame a o (fr a o h) fun z => by
    rcases owns a z with rfl | z
    · rw [hx] at h; cases h
    · exact hm z
  have own : ∀ c' : Cell, (c'.2.1 ∈ ownsC (cellsL g (T.nd x .own (.obj c []) dx [] :: ats)) ∨ (upd (upd H1 dx (.own x)) x (.ins (g.cl c) dx [])) c'.2.1 = none ∨ (c'.1 = .frz ∧ ∃ d ∈ cellsL g (T.nd x .own (.obj c []) dx [] :: ats), d.1 = .frz ∧ d.2.1 = c'.2.1)) →
      c'.2.1 ∈ ownsC (cellsL g ats) ∨ H1 c'.2.1 = none ∨ (c'.1 = .frz ∧ ∃ d ∈ cellsL g ats, d.1 = .frz ∧ d.2.1 = c'.2.1) := fun c' h => by
    rcases h with z | z | ⟨z, d, hd, k1, k2⟩
    · rcases owns _ z with z | z
      · rw [z]; exact .inr (.inl hx)
      · exact .inl z
    · exact .inr (.inl (fn _ z))
    · refine .inr (.inr ⟨z, d, ?_, k1, k2⟩)
      rw [cellsL, T.cells] at hd
      rcases List.mem_append.mp hd with y | y
      · simp only [cellsL, List.mem_singleton] at y
        rw [y] at k1; cases k1
      · exact y
  have root := b.root
  simp only [refs, List.map_cons, List.cons.injEq] at root
  have mem1 : ∀ c ∈ self'.cells g ++ cellsL g us, c ∈ t.cells g ++ cellsL g (self' :: us) := fun c h => by rw [cellsL]; exact List.mem_append_right _ h
  have mem2 : ∀ c ∈ t.cells g ++ cellsL g us, c ∈ t.cells g ++ cellsL g (self' :: us) := fun c h => by
    rw [cellsL]
    rcases List.mem_append.mp h with z | z
    · exact List.mem_append_left _ z
    · exact List.mem_append_right _ (List.mem_append_right _ z)
  refine ⟨fun _ => ⟨frame, fun c h => b.hold c (mem1 c h), fun c h => b.kind c (mem1 c h), ?_, fun c h d hd => b.sep c (mem1 c h) d (mem1 d hd), fun c h => own c (b.own c (mem1 c h)), root.2⟩,
    ⟨frame, fun c h => b.hold c (mem2 c h), fun c h => b.kind c (mem2 c h), ?_, fun c h d hd => b.sep c (mem2 c h) d (mem2 d hd), fun c h => own c (b.own c (mem2 c h)), root.2⟩, root.1⟩
  · refine (owns_sublist ?_).nodup b.nd
    rw [cellsL]
    exact List.sublist_append_right _ _
  · refine (owns_sublist ?_).nodup b.nd
    rw [cellsL]
    exact List.Sublist.append (List.Sublist.refl _) (List.sublist_append_right _ _)
theorem mean_mk {c : Nat} {rs : List (Option Nat)} {ta : TA} {fr : Sg → R (List D)} {sem : FSem} (ha : MeanC g n W rs M1 ta fr) (hm : ∀ r ∈ rs.filterMap id, r ∈ M1) (hnd : (rs.filterMap id).Nodup) :
    MeanE g n W M1 (tMakeS (g.cl c) (spOf g (true :: rs.map Option.isSome) sem) (WE W) ta) (cMk c rs fr sem) := by
  intro Γ A σ H Q Rr cl h
  refine ha Γ A σ H _ Rr cl ?_
  unfold cMk at h
  cases ea : fr (ers n A) with
  | bad => rw [ea] at h; exact h.elim
  | exc c d S => rw [ea] at h; exact h
  | ok ds S1 =>
    rw [ea] at h
    dsimp only [Lin.R.bind] at h
    intro A1 ts H1 R1 x1 e1 d1 hk x dx hx hdx ne
    split at h
    · rename_i hof
      have n1 : n ≤ A1.length := by rw [x1.len]; exact Rr.len
      rw [← d1] at h hof
      have hl' : ts.length = rs.length := by simpa using hof.1
      have slots : ∀ r ∈ rs.filterMap id, r < n := fun r hr => by
        obtain ⟨o, ho, e⟩ := List.mem_filterMap.mp hr
        have e : o = some r := e
        subst e
        obtain ⟨j, hj, ej⟩ := List.getElem_of_mem ho
        obtain ⟨_, _, _, _, q⟩ := hk j r (by rw [List.getElem?_eq_getElem hj, ej])
        exact q
      have of2 : ∀ (i r : Nat) t, rs[i]? = some (some r) → ts[i]? = some t → ofD t.er = true := fun i r t h1 h2 => by
        have hz : (List.zip rs (ts.map T.er))[i]? = some (some r, t.er) := by
          rw [List.getElem?_zip_eq_some]
          exact ⟨h1, by rw [List.getElem?_map, h2]; rfl⟩
        have := List.all_eq_true.mp hof.2 _ (List.mem_of_getElem? hz)
        simpa using this
      have co := R1.callOk n1 hl' of2
      have fr2 : ∀ a o, H1 a = some o → (upd (upd H1 dx (.own x)) x (.ins (g.cl c) dx [])) a = some o := fun a o h => by
        rw [upd_ne (ne_of_none h hx), upd_ne (ne_of_none h hdx)]; exact h
      have cells1 : cellsL g (T.nd x .own (.obj c []) dx [] :: argsT rs ts) = (Kd.own, x, HO.ins (g.cl c) dx []) :: cellsL g (argsT rs ts) := by
        rw [cellsL, T.cells]; rfl
      refine ⟨T.nd x .own (.obj c []) dx [] :: argsT rs ts, by rw [List.map_cons, argsT_root rs ts hl']; rfl, ?_, ?_⟩
      · refine ⟨by simp [co.len], fun cl hc => ?_, fun i u hu cl hc => ?_, ?_, fun cl hc d hd hown hadr => ?_⟩
        · rw [cells1] at hc
          rcases List.mem_cons.mp hc with rfl | hc
          · exact upd_same
          · exact fr2 _ _ (co.hold cl hc)
        · cases i with
          | zero =>
            have hu : T.nd x .own (.obj c []) dx [] = u := by simpa using hu
            subst hu
            rw [T.cells] at hc
            have : cl = (Kd.own, x, ho g (.obj c []) dx ([].map T.root)) := by simpa [cellsL] using hc
            exact .inr (.inl ⟨rfl, by rw [this]⟩)
          | succ i =>
            have := co.kind i u (by simpa using hu) cl hc
            simpa using this
        · rw [cells1]
          have : ownsC ((Kd.own, x, HO.ins (g.cl c) dx []) :: cellsL g (argsT rs ts)) = x :: ownsC (cellsL g (argsT rs ts)) := by simp [ownsC]
          rw [this]
          refine List.nodup_cons.mpr ⟨fun hm => ?_, co.nd⟩
          obtain ⟨d, hd, _, k2⟩ := mem_ownsC.mp hm
          have := co.hold d hd
          rw [k2, hx] at this; cases this
        · rw [cells1] at hc hd
          rcases List.mem_cons.mp hc with rfl | hc
          · rcases List.mem_cons.mp hd with rfl | hd
            · rfl
            · have := co.hold d hd
              rw [hadr, hx] at this; cases this
          · rcases List.mem_cons.mp hd with rfl | hd
            · rfl
            · exact co.sep cl hc d hd hown hadr
      · rw [List.map_cons, argsT_er]
        have eself : (T.nd x .own (.obj c []) dx []).er = .nd .own (.obj c []) [] := by simp [T.er, erL]
        rw [eself]
        have nx : ∀ us : List T, NextM n M1 A (setAll A1 (rs.filterMap id) (us.map some)) := fun us => by
          refine ⟨⟨by rw [setAll_length]; exact x1.len, by rw [setAll_drop _ _ _ slots]; exact x1.tmp⟩, fun i hi hmi => ?_⟩
          rw [setAll_out _ _ _ _ fun z => hmi (hm i z)]
          exact x1.slot i hi hmi
        have es : ∀ us : List T, ers n (setAll A1 (rs.filterMap id) (us.map some)) = backS rs (us.map T.er) S1 := fun us => by
          unfold ers backS
          rw [setAll_take _ _ _ slots, setAll_map, List.map_map]
          have : (List.take n A1).map (Option.map T.er) = S1 := e1
          rw [this, List.map_map]
          rfl
        split at h
        · rename_i d ms q
          rw [q]
          intro H' t us b et eu
          cases us with
          | nil => simp at eu
          | cons self' us =>
            simp only [List.map_cons, List.cons.injEq] at eu
            have ht := er_im et
            subst ht
            obtain ⟨b1, _, hr⟩ := back_mk hx hdx ne (fun c hc => by simp [T.cells] at hc) b
            refine ⟨rfl, ?_⟩
            have := h _ self' H' (R1.back n1 hl' hnd hk (b1 (by simp [T.cells]))) (nx us) (by rw [es us, eu.2]) eu.1
            rw [hr] at this
            exact this
        · rename_i e d d' ms q
          rw [q]
          intro H' t us b et eu
          cases us with
          | nil => simp at eu
          | cons self' us =>
            simp only [List.map_cons, List.cons.injEq] at eu
            have hk1 : ∀ c ∈ t.cells g, c.1 = .own ∨ c.1 = .frz := fun c hc => b.kind c (List.mem_append_left _ hc)
            obtain ⟨_, b2, _⟩ := back_mk hx hdx ne hk1 b
            exact h _ t H' (R1.back n1 hl' hnd hk b2) (nx us).toNext (by rw [es us, eu.2]) et
        · exact h.elim
    · exact h.elim
/-! ### o.m(..): the receiver is looked at ahead of the arguments -/
def tChk (P : V → Hp → Prop) (ta : TE) (tr : TA) : TA := fun σ H Q => ta σ H fun x H1 => P x H1 ∧ tr σ H1 fun xs H2 => Q (x :: xs) H2
/-- an instance of the class c that has no attribute m of its own -/
def isObjD (c : Nat) (m : Str) (d : D) : Bool := match d with
  | .nd _ (.obj c' ns) _ => c' == c && !(ns.contains m)
  | _ => false
def rObj (C : Addr) (m : Str) : V → Hp → Prop := fun x H => ∃ a dx fs, x = .ref a ∧ H a = some (.ins C dx fs) ∧ fs.lookup m = none
theorem zip_lookup_none {α : Type} (m : Str) : ∀ (ns : List Str) (xs : List α), ns.contains m = false → (ns.zip xs).lookup m = none
  | [], _, _ => by simp
  | _ :: _, [], _ => by simp
  | n :: ns, x :: xs, h => by
    rw [List.contains_cons, Bool.or_eq_false_iff] at h
    simp only [List.zip_cons_cons, List.lookup_cons]
    rw [h.1]
    exact zip_lookup_none m ns xs h.2
theorem obj_of {c : Nat} {m : Str} (Rr : Rel g Γ n (A ++ [some t]) σ H) (h : isObjD c m t.er = true) : rObj (g.cl c) m t.root H := by
  unfold isObjD at h
  split at h
  · rename_i k c' ns ds e
    rw [Bool.and_eq_true] at h
    have hc : c' = c := by simpa using h.1
    subst hc
    obtain ⟨a, dx, ts, rfl, h1⟩ := er_nd e
    exact ⟨a, dx, _, rfl, Rr.top1, zip_lookup_none m ns _ (by simpa using h.2)⟩
  · cases h
def cConsK (P : D → Bool) (M2 : List Nat) (fa : Sg → R D) (fr : Sg → R (List D)) : Sg → R (List D) := fun S => (fa S).bind fun da S1 => if cleanD M2 da = true ∧ P da = true then (fr S1).bind fun ds S2 => .ok (da :: ds) S2 else .bad
theorem meanc_valK {rs : List (Option Nat)} {ta : TE} {tr : TA} {fa : Sg → R D} {fr : Sg → R (List D)} {P : V → Hp → Prop} {Pd : D → Bool} (hP : ∀ Γ A t σ H, Rel g Γ n (A ++ [some t]) σ H → Pd t.er = true → P t.root H) (ha : MeanE g n W M1 ta fa) (hr : MeanC g n W rs M2 tr fr) :
    MeanC g n W (none :: rs) (M1 ++ M2) (tChk P ta tr) (cConsK Pd M2 fa fr) := by
  intro Γ A σ H Q Rr cl h
  refine ha Γ A σ H _ Rr cl.left ?_
  unfold cConsK at h
  cases ea : fa (ers n A) with
  | bad => rw [ea] at h; exact h.elim
  | exc c d S => rw [ea] at h; exact h
  | ok da S1 =>
    rw [ea] at h
    dsimp only [Lin.R.bind] at h
    intro A1 t1 H1 R1 x1 e1 d1
    by_cases hc : cleanD M2 da = true ∧ Pd da = true
    · rw [if_pos hc] at h
      have n1 : n ≤ A1.length := by rw [x1.len]; exact Rr.len
      refine ⟨hP Γ A1 t1 σ H1 R1 (by rw [d1]; exact hc.2), hr Γ (A1 ++ [some t1]) σ H1 _ R1 ((cl.right.next x1.toNext Rr.len).snoc (by rw [d1]; exact hc.1)) ?_⟩
      rw [ers_append n1, e1]
      cases eb : fr S1 with
      | bad => rw [eb] at h; exact h.elim
      | exc c d S =>
        rw [eb] at h
        intro A2 t2 H2 R2 x2 e2 d2
        obtain ⟨y, z⟩ := x2.left n1
        have n3 : n ≤ (A2.take A1.length).length := by rw [y.len]; exact n1
        rw [z] at R2 e2
        exact h (A2.take A1.length) t2 H2 (R2.mid n3) (x1.toNext.trans y) (by rw [ers_append n3] at e2; exact e2) d2
      | ok ds S2 =>
        rw [eb] at h
        dsimp only [Lin.R.bind] at h
        intro A2 ts H2 R2 x2 e2 d2 hk
        obtain ⟨y, z⟩ := x2.left n1
        have n3 : n ≤ (A2.take A1.length).length := by rw [y.len]; exact n1
        rw [z, List.append_assoc] at R2
        have := h (A2.take A1.length) (t1 :: ts) H2 (by simpa using R2) (x1.trans y) (by rw [z, ers_append n3] at e2; exact e2) (by simp [d1, d2]) (fun i r e => by
          cases i with
          | zero => simp at e
          | succ i =>
            obtain ⟨u, h1, h2, h3, h4⟩ := hk i r (by simpa using e)
            refine ⟨u, by simpa using h1, h2, ?_, h4⟩
            rw [z, List.getElem?_append_left (by omega)] at h3
            exact h3)
        exact this
    · rw [if_neg hc] at h; exact h.elim
end
end Lin
end
section
namespace Lin
open PySem L2
/-! ### calls as values, in the text -/
section
variable {X : Cx} {k : Nat} {f C : Addr} {fd : FuncData} {ps : List Str} {sp : Sp} {E : L2.St → XK} {x m : Str} {p pos apos : Pos} {e o : Expr} {es : List Expr} {ta : TE} {t : TA}
theorem pe_call0S {CX : CXT} (F : FnOk X.prog X.w X.K X.mg X.base CX k f fd ps sp) (hr : Room k X.A) (hg : Gl X x) (hm : X.mg x = some (.ref f)) (hk : PySem.W.keepIn X.K (.ref f) = true) (hb : Binds X.K fd ps []) (hx : ∀ σ, PassesAt CX X σ (E σ))
    (hdb : (x == ("__debug__" : Str)) = false := by decide) : PE X (.Call (.Name x p) [] [] pos) (tCallS sp E tNil) := by
  refine ⟨fun pins s σ H Q I h => ?_⟩
  refine wpAny_Call_Name_kw (ld_glob I hg hm ?_ hdb)
  exact PySem.W.callWith_K0 I.kIn hk (run_fnS (us := []) F hr hb (hx σ) I .nil h)
theorem pe_methS {CX : CXT} {pl : Sem Bool} (he : PE X o ta) (c : Cls X.K C) (hm : Meth X.K C m f) (F : FnOk X.prog X.w X.K X.mg X.base CX k f fd ps sp) (hr : Room k X.A) (hb : Binds X.K fd ps []) (hx : ∀ σ, PassesAt CX X σ (E σ)) (ha : PA X (e :: es) t)
    (hst : starEach (e :: es) X.env = (false, eval e X.env) :: starEach es X.env := by rfl) (hpl : (backTo pos (starEach es X.env)).any (·.1) = false := by rfl)
    (ht : eval (.Call (.Attribute o m apos) (e :: es) [] pos) X.env = (do
      let ov ← eval o X.env
      standAt apos.atName
      let (f, first) ← holding [ov] (getMethod ov m pl)
      callWith pos f first (backTo pos (starEach (e :: es) X.env)) (backToKw pos (keywordEach [] X.env))) := by rfl) :
    PE X (.Call (.Attribute o m apos) (e :: es) [] pos) (tCallS sp E (tChk (rObj C m) ta t)) := by
  refine ⟨fun pins s σ H Q I h => ?_⟩
  refine PySem.W.methodCall_KW (pl := pl) (thn (he.run pins s σ H _ I h) fun u s1 ⟨x, H1, I1, rx, ⟨a, dx, fs, ex, ea, l⟩, q⟩ => ?_) ht
  subst ex
  obtain rfl : u = Value.ref a := rx
  refine getmeth_ok I1 ea c hm l ?_
  refine PySem.W.callWith_K (first := [.ref a]) (h₀ := X.base) I.ok.mod.kin hm.kp (thn (ha.run pos pins s1 σ H1 _ I1 q) fun us s2 ⟨vs, H2, I2, r, q2⟩ => ⟨I2.kIn, ?_⟩) hst hpl
  exact run_fnS (us := .ref a :: us) (vs := .ref a :: vs) F hr hb (hx σ) I2 (.cons rfl r) q2
theorem pe_meth0S {CX : CXT} {pl : Sem Bool} (he : PE X o ta) (c : Cls X.K C) (hm : Meth X.K C m f) (F : FnOk X.prog X.w X.K X.mg X.base CX k f fd ps sp) (hr : Room k X.A) (hb : Binds X.K fd ps []) (hx : ∀ σ, PassesAt CX X σ (E σ))
    (ht : eval (.Call (.Attribute o m apos) [] [] pos) X.env = (do
      let ov ← eval o X.env
      standAt apos.atName
      let (f, first) ← holding [ov] (getMethod ov m pl)
      callWith pos f first (backTo pos (starEach [] X.env)) (backToKw pos (keywordEach [] X.env))) := by rfl) :
    PE X (.Call (.Attribute o m apos) [] [] pos) (tCallS sp E (tChk (rObj C m) ta tNil)) := by
  refine ⟨fun pins s σ H Q I h => ?_⟩
  refine PySem.W.methodCall_KW (pl := pl) (thn (he.run pins s σ H _ I h) fun u s1 ⟨x, H1, I1, rx, ⟨a, dx, fs, ex, ea, l⟩, q⟩ => ?_) ht
  subst ex
  obtain rfl : u = Value.ref a := rx
  refine getmeth_ok I1 ea c hm l ?_
  exact PySem.W.callWith_K0 (first := [.ref a]) I1.kIn hm.kp (run_fnS (us := [.ref a]) (vs := [.ref a]) F hr hb (hx σ) I1 (.cons rfl .nil) q)
theorem run_makeS {CX : CXT} {pins : List (Addr × Obj)} {σ : L2.St} {H : Hp} {s : Shared} {Q : VK} {us : List Value} {vs : List V} (M : Mk X.K C f) (F : FnOk X.prog X.w X.K X.mg X.base CX k f fd ps sp) (hr : Room (k + 1) X.A) (hb : Binds X.K fd ps [])
    (hx : PassesAt CX X σ (E σ)) (I : Inv X pins σ H s) (r : Vals vs us)
    (h : ∀ x dx, H x = none → H dx = none → dx ≠ x → sp (.ref x :: vs) (upd (upd H dx (.own x)) x (.ins C dx [])) (fun v H2 => v = .non ∧ Q (.ref x) H2) (E σ)) :
    wpAny (model X.prog X.w) X.A (call (.ref C) us) (EP X pins σ Q) X.xe s := by
  have hq := h (s.heap.objs.size + 1) s.heap.objs.size (I.hok.fresh (Nat.le_succ _)) (I.hok.fresh (Nat.le_refl _)) (Nat.ne_of_lt (Nat.lt_succ_self _))
  have I2 := Inv.made (C := C) I
  have r2 : Vals (V.ref (s.heap.objs.size + 1) :: vs) (Value.ref (s.heap.objs.size + 1) :: us) := .cons rfl r
  have hl : (Value.ref (s.heap.objs.size + 1) :: us ++ []).length = ps.length := by
    have e := r2.length
    rw [F.len _ _ _ _ hq] at e
    rw [List.append_nil]
    exact e.symm
  have b := hb _ (Value.ref (s.heap.objs.size + 1) :: us) I2.kIn hl
  rw [List.append_nil] at b
  refine wpAny_call (make_map (f := f) I.kIn M.makes M.init (beq_iff_eq.mp M.fn) (codeAny_mono (F.run _ X.stack _ _ ⟨Value.ref (s.heap.objs.size + 1) :: us, []⟩ (Value.ref (s.heap.objs.size + 1) :: us) _ _ (E σ) (hr.make C us [])
    (I2.env0.make C us []) b r2 hq) fun r s' hq' => ?_))
  cases r with
  | error e => exact hx pins _ _ e s' I2 hq'
  | ok fl =>
    cases fl with
    | ret u =>
      obtain ⟨v, H', I3, rv, ev, q3⟩ := I2.after hq'
      subst ev
      exact ⟨rv, ⟨V.ref (s.heap.objs.size + 1), H', I3, rfl, q3⟩⟩
    | next => exact False.elim hq'
    | brk => exact False.elim hq'
    | cont => exact False.elim hq'
theorem pe_makeS {CX : CXT} (M : Mk X.K C f) (F : FnOk X.prog X.w X.K X.mg X.base CX k f fd ps sp) (hr : Room (k + 1) X.A) (hg : Gl X x) (hm : X.mg x = some (.ref C)) (hb : Binds X.K fd ps []) (hx : ∀ σ, PassesAt CX X σ (E σ))
    (ha : PA X (e :: es) t) (hdb : (x == ("__debug__" : Str)) = false := by decide) (he : starEach (e :: es) X.env = (false, eval e X.env) :: starEach es X.env := by rfl) (hpl : (backTo pos (starEach es X.env)).any (·.1) = false := by rfl) :
    PE X (.Call (.Name x p) (e :: es) [] pos) (tMakeS C sp E t) := by
  refine ⟨fun pins s σ H Q I h => ?_⟩
  refine wpAny_Call_Name_kw (ld_glob I hg hm ?_ hdb)
  refine PySem.W.callWith_K (h₀ := X.base) I.ok.mod.kin M.kp (thn (ha.run pos pins s σ H _ I h) fun us s1 ⟨vs, H1, I1, r, q⟩ => ⟨I1.kIn, ?_⟩) he hpl
  exact run_makeS M F hr hb (hx σ) I1 r q
/-- an instance of C -/
def rIns (C : Addr) : V → Hp → Prop := fun x H => ∃ a dx fs, x = .ref a ∧ H a = some (.ins C dx fs)
/-- o(e, ..), o an expression that gives an instance -/
def tInst (C : Addr) (sp : Sp) (E : L2.St → XK) (ta : TE) (t : TA) : TE := fun σ H Q => ta σ H fun x H1 => t σ H1 fun vs H2 => rIns C x H2 ∧ sp (x :: vs) H2 Q (E σ)
theorem pe_instS {CX : CXT} {fe : Expr} (hf : PE X fe ta) (c : StX.CallO X.K C f) (F : FnOk X.prog X.w X.K X.mg X.base CX k f fd ps sp) (hr : Room k X.A) (hb : Binds X.K fd ps []) (hx : ∀ σ, PassesAt CX X σ (E σ)) (hsp : ∀ vs H Q E, sp vs H Q E → ∃ a r, vs = .ref a :: r) (ha : PA X (e :: es) t)
    (ht : eval (.Call fe (e :: es) [] pos) X.env = (do callWith pos (← eval fe X.env) [] (backTo pos (starEach (e :: es) X.env)) (backToKw pos (keywordEach [] X.env))) := by rfl)
    (he : starEach (e :: es) X.env = (false, eval e X.env) :: starEach es X.env := by rfl) (hpl : (backTo pos (starEach es X.env)).any (·.1) = false := by rfl)
    (hra : ∀ σ H Q, ta σ H Q → ta σ H fun x H1 => (∃ a, x = .ref a) ∧ Q x H1) : PE X (.Call fe (e :: es) [] pos) (tInst C sp E ta t) := by
  refine ⟨fun pins s σ H Q I h => ?_⟩
  refine PyProof.Rows.Call_ (thn (hf.run pins s σ H _ I (hra σ H _ h)) fun u s1 ⟨y, H1, I1, ry, ⟨a, ey⟩, q⟩ => ?_) ht
  subst ey
  obtain rfl : u = Value.ref a := ry
  refine StX.callO_with (thn (ha.run pos pins s1 σ H1 _ I1 q) fun us s2 ⟨vs, H2, I2, r, hi, q2⟩ => ?_) he hpl
  obtain ⟨a', dx, fs, e1, ea⟩ := hi
  cases e1
  obtain ⟨mA, O, _⟩ := ins_get I2.hok ea
  obtain ⟨od, J, _⟩ := O.look
  refine ⟨⟨C, _, _, J, rfl⟩, ?_⟩
  have r2 : Vals (V.ref a :: vs) (Value.ref a :: us) := .cons rfl r
  have hl : (Value.ref a :: us).length = ps.length := by rw [← r2.length]; exact F.len _ _ _ _ q2
  have b := hb s2 (Value.ref a :: us) I2.kIn (by rw [List.append_nil]; exact hl)
  rw [List.append_nil] at b
  refine wpAny_call (PySem.W.kco_code I2.kIn J rfl c.at_ c.fn c.fi (codeAny_mono (F.run X.A X.stack s2 H2 ⟨Value.ref a :: us, []⟩ (Value.ref a :: us) (V.ref a :: vs) Q (E σ) hr I2.env0 b r2 q2) fun r s' hq => ?_))
  cases r with
  | error e => exact hx σ pins H2 s2 e s' I2 hq
  | ok fl =>
    cases fl with
    | ret u => exact I2.after hq
    | next => exact False.elim hq
    | brk => exact False.elim hq
    | cont => exact False.elim hq
/-- x in o -/
structure Spec1 (K : PySem.W.Frag) (C : Addr) (m : Str) (f : Addr) : Prop where
  at_ : PySem.W.findIn K (.ref C) m = some (some (.ref f))
  fn : PySem.W.isFn K (.ref f) = true
def rInO (C : Addr) (sp : Sp) (neg : Bool) : R2 := fun x y H Q => rIns C y H ∧ sp [y, x] H (fun v H' => ∃ b, v = .bl b ∧ Q (.bl (if neg then !b else b)) H') E0
theorem op_inO (c : Spec1 X.K C "__contains__" f) (F : FnOk X.prog X.w X.K X.mg X.base (L2.CX X.prog X.w) k f fd ps sp) (hr : Room k X.A) (hb : Binds X.K fd ps []) : OpR X (compareOp .In) (rInO C sp false) := by
  intro pins s σ H x y v u Q I rx ry h
  obtain ⟨⟨a, dx, fs, rfl, ea⟩, q⟩ := h
  cases ry
  obtain ⟨mA, O, _⟩ := ins_get I.hok ea
  obtain ⟨od, J, _⟩ := O.look
  obtain ⟨m, fr⟩ := I.fr
  refine PySem.W.in_K fr I.ok.mod.kin J c.at_ c.fn (thn (run_fnS (E := fun _ => E0) (us := [.ref a, v]) (vs := [.ref a, x]) F hr hb (fun pins H s e s' I c => passL pins σ H s e s' I c) I (.cons rfl (.cons rx .nil)) q) fun r s1 ⟨z, H1, I1, rz, b, ez, q1⟩ => ?_)
  subst ez
  cases rz
  exact wpAny_truthy_bool ⟨.bl b, H1, I1, rfl, q1⟩
theorem op_notInO (c : Spec1 X.K C "__contains__" f) (F : FnOk X.prog X.w X.K X.mg X.base (L2.CX X.prog X.w) k f fd ps sp) (hr : Room k X.A) (hb : Binds X.K fd ps []) : OpR X (compareOp .NotIn) (rInO C sp true) := by
  intro pins s σ H x y v u Q I rx ry h
  obtain ⟨⟨a, dx, fs, rfl, ea⟩, q⟩ := h
  cases ry
  obtain ⟨mA, O, _⟩ := ins_get I.hok ea
  obtain ⟨od, J, _⟩ := O.look
  obtain ⟨m, fr⟩ := I.fr
  refine PySem.W.notIn_K fr I.ok.mod.kin J c.at_ c.fn (thn (run_fnS (E := fun _ => E0) (us := [.ref a, v]) (vs := [.ref a, x]) F hr hb (fun pins H s e s' I c => passL pins σ H s e s' I c) I (.cons rfl (.cons rx .nil)) q) fun r s1 ⟨z, H1, I1, rz, b, ez, q1⟩ => ?_)
  subst ez
  cases rz
  exact wpAny_truthy_bool ⟨.bl (!b), H1, I1, rfl, q1⟩
/-- len(o) -/
def rLenO (C : Addr) (sp : Sp) : List V → Hp → VK → Prop := fun xs H Q => ∃ y, xs = [y] ∧ rIns C y H ∧ sp [y] H (fun v H' => ∃ n, v = .int n ∧ 0 ≤ n ∧ n < 2 ^ 63 ∧ Q (.int n) H') E0
theorem call_lenO (c : Spec1 X.K C "__len__" f) (F : FnOk X.prog X.w X.K X.mg X.base (L2.CX X.prog X.w) k f fd ps sp) (hr : Room (k + 1) X.A) (hb : Binds X.K fd ps []) : CallR X (.builtin "len") (rLenO C sp) := by
  intro pins s σ H xs us Q I r h
  obtain ⟨y, rfl, ⟨a, dx, fs, rfl, ea⟩, q⟩ := h
  obtain ⟨u, rfl, rx⟩ := vals1 r
  cases rx
  obtain ⟨mA, O, _⟩ := ins_get I.hok ea
  obtain ⟨od, J, _⟩ := O.look
  obtain ⟨m, fr⟩ := I.fr
  refine PySem.W.len_K fr I.ok.mod.kin J c.at_ c.fn ?_
  have hl : ([Value.ref a] : List Value).length = ps.length := F.len _ _ _ _ q
  have b := hb s [Value.ref a] I.kIn (by rw [List.append_nil]; exact hl)
  rw [List.append_nil] at b
  refine wpAny_call (codeAny_mono (F.run X.A.in1 X.stack s H ⟨[.ref a], []⟩ [.ref a] [.ref a] _ E0 hr.in1 I.env0.in1 b (.cons rfl .nil) q) fun r s' hq => ?_)
  cases r with
  | error e => exact (passL (X := X.wish (fun _ _ => False)) pins σ H s e s' (I.wish _) hq).elim
  | ok fl =>
    cases fl with
    | ret u =>
      obtain ⟨v, H', I3, rv, n, ev, h0, h1, q3⟩ := I.after hq
      subst ev
      obtain ⟨tk, rfl⟩ := rv
      exact ⟨⟨h0, h1⟩, ⟨.int n, H', I3.tok _, ⟨_, rfl⟩, q3⟩⟩
    | next => exact False.elim hq
    | brk => exact False.elim hq
    | cont => exact False.elim hq
end
end Lin
end
section
namespace Lin
open PySem L2
/-! ### calls of built-ins: an immediate result -/
def immV (o : List D → Option V) : List D → Option D := fun ds => (o ds).map .im
section
variable {g : Gc} {n : Nat}
theorem cam_imm {r : List V → Hp → VK → Prop} {o : List D → Option V}
    (h : ∀ (H : Hp) (ts : List T) (v : V) (Q : VK), (∀ c ∈ cellsL g ts, H c.2.1 = some c.2.2) → o (ts.map T.er) = some v → Q v H → r (ts.map T.root) H Q) : CaM g n r (immV o) := by
  intro Γ A ts σ H Q d Rr hn eo hq
  unfold immV at eo
  cases e : o (ts.map T.er) with
  | none => rw [e] at eo; cases eo
  | some v =>
    rw [e] at eo
    cases eo
    refine h H ts v Q (fun c hc => ?_) e (hq (.im v) H (Rr.imm hn _) rfl)
    obtain ⟨i, x⟩ := cellAt_map.mpr hc
    obtain ⟨t, e1, e2⟩ := x
    exact Rr.hold (A.length + i) c ⟨t, by rw [List.getElem?_append_right (by omega)]; simpa using e1, e2⟩
theorem CaM.or {r1 r2 : List V → Hp → VK → Prop} {o1 o2 : List D → Option D} (h1 : CaM g n r1 o1) (h2 : CaM g n r2 o2) : CaM g n (fun xs H Q => r1 xs H Q ∨ r2 xs H Q) (fun ds => (o1 ds).or (o2 ds)) := by
  intro Γ A ts σ H Q d Rr hn eo hq
  dsimp only at eo
  cases e : o1 (ts.map T.er) with
  | some d' =>
    rw [e] at eo
    have : d' = d := by simpa using eo
    subst this
    exact .inl (h1 Γ A ts σ H Q _ Rr hn e hq)
  | none =>
    rw [e] at eo
    exact .inr (h2 Γ A ts σ H Q _ Rr hn (by simpa using eo) hq)
theorem er1 {ts : List T} {x : D} (h : ts.map T.er = [x]) : ∃ t, ts = [t] ∧ t.er = x := er_one h
theorem holdNd {H : Hp} {a : Addr} {k : Kd} {s : Sh} {dx : Addr} {ts us : List T} (h : ∀ c ∈ cellsL g (.nd a k s dx ts :: us), H c.2.1 = some c.2.2) : H a = some (ho g s dx (ts.map T.root)) :=
  h (k, a, ho g s dx (ts.map T.root)) (by rw [cellsL, T.cells]; simp)

def dInts : List D → Option (List Int)
  | [] => some []
  | .im (.int i) :: r => (dInts r).map (i :: ·)
  | _ => none
def dBls : List D → Option (List Bool)
  | [] => some []
  | .im (.bl i) :: r => (dBls r).map (i :: ·)
  | _ => none
theorem ints_root : ∀ (ts : List T) (ns : List Int), dInts (ts.map T.er) = some ns → ts = ns.map fun i => T.im (.int i)
  | [], ns, h => by
    simp [dInts] at h
    subst h; rfl
  | t :: r, ns, h => by
    rw [List.map_cons] at h
    unfold dInts at h
    split at h
    · cases ‹_ = []›
    · rename_i i r' e
      obtain ⟨e1, e2⟩ := List.cons.inj e
      subst e2
      cases q : dInts (r.map T.er) with
      | none => rw [q] at h; cases h
      | some ms =>
        rw [q] at h
        cases h
        rw [er_im e1, ints_root r ms q]; rfl
    · cases h
theorem bls_root : ∀ (ts : List T) (ns : List Bool), dBls (ts.map T.er) = some ns → ts = ns.map fun i => T.im (.bl i)
  | [], ns, h => by
    simp [dBls] at h
    subst h; rfl
  | t :: r, ns, h => by
    rw [List.map_cons] at h
    unfold dBls at h
    split at h
    · cases ‹_ = []›
    · rename_i i r' e
      obtain ⟨e1, e2⟩ := List.cons.inj e
      subst e2
      cases q : dBls (r.map T.er) with
      | none => rw [q] at h; cases h
      | some ms =>
        rw [q] at h
        cases h
        rw [er_im e1, bls_root r ms q]; rfl
    · cases h
theorem ints_map (ns : List Int) : dInts (ns.map fun i => D.im (.int i)) = some ns := by
  induction ns with
  | nil => rfl
  | cons i r ih => simp [dInts, ih]
theorem bls_map (ns : List Bool) : dBls (ns.map fun i => D.im (.bl i)) = some ns := by
  induction ns with
  | nil => rfl
  | cons i r ih => simp [dBls, ih]
theorem roots_int (ns : List Int) : (ns.map fun i => T.im (.int i)).map T.root = ns.map V.int := by simp [T.root, Function.comp_def]
theorem roots_bl (ns : List Bool) : (ns.map fun i => T.im (.bl i)).map T.root = ns.map V.bl := by simp [T.root, Function.comp_def]
theorem ers_int (ns : List Int) : (ns.map fun i => T.im (.int i)).map T.er = ns.map fun i => D.im (.int i) := by simp [T.er, Function.comp_def]
theorem cells_int (ns : List Int) : cellsL g (ns.map fun i => T.im (.int i)) = [] := by
  induction ns with
  | nil => rfl
  | cons i r ih => simp [cellsL, T.cells, ih]
/-! len -/
def vLen (ds : List D) : Option V := match ds with
  | [.nd _ .lst xs] => some (.int xs.length)
  | [.nd _ .tup xs] => some (.int xs.length)
  | _ => none
theorem cam_len {K : PySem.W.Frag} : CaM g n (fun xs H Q => ∃ p ys, xs = [V.ref p] ∧ (SqL K H p ys ∨ SqT K H p ys) ∧ Q (.int ys.length) H) (immV vLen) :=
  cam_imm fun H ts v Q hc e hq => by
    unfold vLen at e
    split at e
    · rename_i k xs q
      obtain ⟨t, rfl, q'⟩ := er1 q
      obtain ⟨a, dx, us, rfl, h1⟩ := er_nd q'
      cases e
      exact ⟨a, us.map T.root, rfl, .inl (SqL.of (holdNd hc)), by rw [← h1] at hq; simpa using hq⟩
    · rename_i k xs q
      obtain ⟨t, rfl, q'⟩ := er1 q
      obtain ⟨a, dx, us, rfl, h1⟩ := er_nd q'
      cases e
      exact ⟨a, us.map T.root, rfl, .inr (SqT.of (holdNd hc)), by rw [← h1] at hq; simpa using hq⟩
    · cases e
def vLenD (ds : List D) : Option V := match ds with
  | [.nd _ (.dic ks) xs] => if ks.length = xs.length then some (.int ks.length) else none
  | _ => none
def rLenD : List V → Hp → VK → Prop := fun xs H Q => ∃ a kvs, xs = [V.ref a] ∧ Rd H a (.dK kvs) ∧ Q (.int kvs.length) H
theorem call_lenD {X : Cx} : CallR X (.builtin "len") rLenD := by
  intro pins s σ H xs us Q I r h
  obtain ⟨a, kvs, rfl, e, q⟩ := h
  rw [Vals.ref1 r]
  exact d_len I e fun t s' I' => ⟨.int kvs.length, H, I', ⟨t, rfl⟩, q⟩
theorem cam_lenD : CaM g n rLenD (immV vLenD) :=
  cam_imm fun H ts v Q hc e hq => by
    unfold vLenD at e
    split at e
    · rename_i k ks xs q
      obtain ⟨t, rfl, q'⟩ := er1 q
      obtain ⟨a, dx, us, rfl, h1⟩ := er_nd q'
      split at e
      · rename_i hl
        cases e
        refine ⟨a, _, rfl, .inl (holdNd hc), ?_⟩
        rw [List.length_zip, List.length_map]
        have : us.length = ks.length := by rw [hl, ← h1]; simp
        rw [this, Nat.min_self]
        exact hq
      · cases e
    · cases e

def vInt1 (f : Int → V) (ds : List D) : Option V := match ds with
  | [.im (.int i)] => some (f i)
  | _ => none
def vInt2 (f : Int → Int → V) (ds : List D) : Option V := match ds with
  | [.im (.int i), .im (.int j)] => some (f i j)
  | _ => none
theorem cam_int1 {f : Int → V} : CaM g n (fun xs H Q => ∃ i, xs = [V.int i] ∧ Q (f i) H) (immV (vInt1 f)) :=
  cam_imm fun H ts v Q hc e hq => by
    unfold vInt1 at e
    split at e
    · rename_i i q
      obtain ⟨t, rfl, q'⟩ := er1 q
      cases e
      exact ⟨i, by rw [er_im q']; rfl, hq⟩
    · cases e
theorem cam_int2 {f : Int → Int → V} : CaM g n (fun xs H Q => ∃ i j, xs = [V.int i, V.int j] ∧ Q (f i j) H) (immV (vInt2 f)) :=
  cam_imm fun H ts v Q hc e hq => by
    unfold vInt2 at e
    split at e
    · rename_i i j q
      obtain ⟨t, u, rfl, q1, q2⟩ := er_two q
      cases e
      exact ⟨i, j, by rw [er_im q1, er_im q2]; rfl, hq⟩
    · cases e
def vToInt (ds : List D) : Option V := match ds with
  | [.im (.int i)] => some (.int i)
  | [.im (.bl k)] => some (.int (if k then 1 else 0))
  | _ => none
theorem cam_toInt : CaM g n (fun xs H Q => (∃ i, xs = [V.int i] ∧ Q (.int i) H) ∨ ∃ k, xs = [V.bl k] ∧ Q (.int (if k then 1 else 0)) H) (immV vToInt) :=
  cam_imm fun H ts v Q hc e hq => by
    unfold vToInt at e
    split at e
    · rename_i i q
      obtain ⟨t, rfl, q'⟩ := er1 q
      cases e
      exact .inl ⟨i, by rw [er_im q']; rfl, hq⟩
    · rename_i i q
      obtain ⟨t, rfl, q'⟩ := er1 q
      cases e
      exact .inr ⟨i, by rw [er_im q']; rfl, hq⟩
    · cases e
/-! sum, all, any, max, min of a list -/
def vSum (ds : List D) : Option V := match ds with
  | [.nd _ .lst xs] => (dInts xs).map fun ns => .int ns.sum
  | _ => none
def vAll (ds : List D) : Option V := match ds with
  | [.nd _ .lst xs] => (dBls xs).map fun ns => .bl (ns.all id)
  | _ => none
def vAny (ds : List D) : Option V := match ds with
  | [.nd _ .lst xs] => (dBls xs).map fun ns => .bl (ns.any id)
  | _ => none
def vMaxL (ds : List D) : Option V := match ds with
  | [.nd _ .lst xs] => (dInts xs).bind fun ns => ns.max?.map .int
  | _ => none
def vMinL (ds : List D) : Option V := match ds with
  | [.nd _ .lst xs] => (dInts xs).bind fun ns => ns.min?.map .int
  | _ => none
theorem listInts {K : PySem.W.Frag} {H : Hp} {ts : List T} {k : Kd} {xs : List D} {ns : List Int} (hc : ∀ c ∈ cellsL g ts, H c.2.1 = some c.2.2) (q : ts.map T.er = [.nd k .lst xs]) (e : dInts xs = some ns) : ∃ a, ts.map T.root = [V.ref a] ∧ H a = some (.lst (ns.map V.int)) := by
  obtain ⟨t, rfl, q'⟩ := er1 q
  obtain ⟨a, dx, us, rfl, h1⟩ := er_nd q'
  rw [← h1] at e
  have := ints_root us ns e
  refine ⟨a, rfl, ?_⟩
  have h := holdNd hc
  rw [this, roots_int] at h
  exact h
theorem listBls {K : PySem.W.Frag} {H : Hp} {ts : List T} {k : Kd} {xs : List D} {ns : List Bool} (hc : ∀ c ∈ cellsL g ts, H c.2.1 = some c.2.2) (q : ts.map T.er = [.nd k .lst xs]) (e : dBls xs = some ns) : ∃ a, ts.map T.root = [V.ref a] ∧ H a = some (.lst (ns.map V.bl)) := by
  obtain ⟨t, rfl, q'⟩ := er1 q
  obtain ⟨a, dx, us, rfl, h1⟩ := er_nd q'
  rw [← h1] at e
  have := bls_root us ns e
  refine ⟨a, rfl, ?_⟩
  have h := holdNd hc
  rw [this, roots_bl] at h
  exact h
theorem cam_sum {K : PySem.W.Frag} : CaM g n (rSum K) (immV vSum) :=
  cam_imm fun H ts v Q hc e hq => by
    unfold vSum at e
    split at e
    · rename_i k xs q
      cases e2 : dInts xs with
      | none => rw [e2] at e; cases e
      | some ns =>
        rw [e2] at e; cases e
        obtain ⟨a, h1, h2⟩ := listInts (K := K) hc q e2
        exact ⟨a, ns, h1, SqL.of h2, hq⟩
    · cases e
theorem cam_all {K : PySem.W.Frag} : CaM g n (rAll K) (immV vAll) :=
  cam_imm fun H ts v Q hc e hq => by
    unfold vAll at e
    split at e
    · rename_i k xs q
      cases e2 : dBls xs with
      | none => rw [e2] at e; cases e
      | some ns =>
        rw [e2] at e; cases e
        obtain ⟨a, h1, h2⟩ := listBls (K := K) hc q e2
        exact ⟨a, ns, h1, SqL.of h2, hq⟩
    · cases e
theorem cam_any {K : PySem.W.Frag} : CaM g n (rAny K) (immV vAny) :=
  cam_imm fun H ts v Q hc e hq => by
    unfold vAny at e
    split at e
    · rename_i k xs q
      cases e2 : dBls xs with
      | none => rw [e2] at e; cases e
      | some ns =>
        rw [e2] at e; cases e
        obtain ⟨a, h1, h2⟩ := listBls (K := K) hc q e2
        exact ⟨a, ns, h1, SqL.of h2, hq⟩
    · cases e
theorem cam_maxL {K : PySem.W.Frag} : CaM g n (rMax K) (immV vMaxL) :=
  cam_imm fun H ts v Q hc e hq => by
    unfold vMaxL at e
    split at e
    · rename_i k xs q
      cases e2 : dInts xs with
      | none => rw [e2] at e; cases e
      | some ns =>
        rw [e2] at e
        cases e3 : ns.max? with
        | none => rw [Option.bind_some, e3] at e; cases e
        | some m =>
          rw [Option.bind_some, e3] at e; cases e
          obtain ⟨a, h1, h2⟩ := listInts (K := K) hc q e2
          obtain ⟨z1, z2⟩ := List.max?_eq_some_iff.mp e3
          refine ⟨a, ns, h1, SqL.of h2, List.length_pos_of_mem z1, fun m' y1 y2 => ?_⟩
          have := z2 m' y1
          have := y2 m z1
          rw [show m' = m by omega]; exact hq
    · cases e
theorem cam_minL {K : PySem.W.Frag} : CaM g n (rMin K) (immV vMinL) :=
  cam_imm fun H ts v Q hc e hq => by
    unfold vMinL at e
    split at e
    · rename_i k xs q
      cases e2 : dInts xs with
      | none => rw [e2] at e; cases e
      | some ns =>
        rw [e2] at e
        cases e3 : ns.min? with
        | none => rw [Option.bind_some, e3] at e; cases e
        | some m =>
          rw [Option.bind_some, e3] at e; cases e
          obtain ⟨a, h1, h2⟩ := listInts (K := K) hc q e2
          obtain ⟨z1, z2⟩ := List.min?_eq_some_iff.mp e3
          refine ⟨a, ns, h1, SqL.of h2, List.length_pos_of_mem z1, fun m' y1 y2 => ?_⟩
          have := z2 m' y1
          have := y2 m z1
          rw [show m' = m by omega]; exact hq
    · cases e
/-! isinstance -/
def tyN (d : D) : Option String := match d with
  | .im .non => some "NoneType"
  | .im (.bl _) => some "bool"
  | .im (.int _) => some "int"
  | .im (.str _) => some "str"
  | .nd _ .lst _ => some "list"
  | .nd _ .tup _ => some "tuple"
  | .nd _ (.dic _) _ => some "dict"
  | .nd _ (.dtu _) _ => some "dict"
  | _ => none
def vIsi (ds : List D) : Option V := match ds with
  | [d, .im (.ty m)] => (tyN d).bind fun a => (kitB a m).map .bl
  | _ => none
theorem ty_of {K : PySem.W.Frag} {H : Hp} {t : T} {a : String} (hc : ∀ c ∈ t.cells g, H c.2.1 = some c.2.2) (h : tyN t.er = some a) : TyX K H t.root (.type a) := by
  unfold tyN at h
  split at h
  · rename_i e; rw [er_im e]; cases h; exact .base .non
  · rename_i e; rw [er_im e]; cases h; exact .base (.bl _)
  · rename_i e; rw [er_im e]; cases h; exact .base (.int _)
  · rename_i e; rw [er_im e]; cases h; exact .base (.str _)
  · rename_i e
    obtain ⟨b, dx, us, rfl, h1⟩ := er_nd e
    cases h
    exact .base (.lst (hc _ (by rw [T.cells]; exact List.mem_cons_self)))
  · rename_i e
    obtain ⟨b, dx, us, rfl, h1⟩ := er_nd e
    cases h
    exact .base (.tup (hc _ (by rw [T.cells]; exact List.mem_cons_self)))
  · rename_i e
    obtain ⟨b, dx, us, rfl, h1⟩ := er_nd e
    cases h
    exact .base (.dK (hc _ (by rw [T.cells]; exact List.mem_cons_self)))
  · rename_i e
    obtain ⟨b, dx, us, rfl, h1⟩ := er_nd e
    cases h
    exact .base (.dT (hc _ (by rw [T.cells]; exact List.mem_cons_self)))
  · cases h
theorem cam_isi {K : PySem.W.Frag} : CaM g n (rIsi K) (immV vIsi) :=
  cam_imm fun H ts v Q hc e hq => by
    unfold vIsi at e
    split at e
    · rename_i d m q
      obtain ⟨t, u, rfl, q1, q2⟩ := er_two q
      cases e1 : tyN d with
      | none => rw [e1] at e; cases e
      | some a =>
        rw [e1] at e
        cases e2 : kitB a m with
        | none => rw [Option.bind_some, e2] at e; cases e
        | some b =>
          rw [Option.bind_some, e2] at e; cases e
          refine ⟨t.root, .ty m, .type a, .type m, b, by rw [er_im q2]; rfl, .ty m, ty_of (g := g) (fun c h => hc c (by rw [cellsL]; exact List.mem_append_left _ h)) (by rw [q1]; exact e1), kit_ty e2, hq⟩
    · cases e
end
end Lin
end
section
namespace Lin
open PySem L2
section
variable {g : Gc} {n : Nat} {W : WX} {Γ : Gh} {A A' A'' B : List (Option T)} {σ : L2.St} {H H' : Hp} {t : T} {M M1 M2 M3 : List Nat}
/-! ### list(x), tuple(x), sorted(x) -/
def dListOf (ds : List D) : Option D := match ds with
  | [.nd _ .lst xs] => some (.nd .own .lst xs)
  | [.nd _ .tup xs] => some (.nd .own .lst xs)
  | _ => none
theorem cam_listOf {K : PySem.W.Frag} : CaM g n (fun xs H Q => ∃ p ys, xs = [V.ref p] ∧ (SqL K H p ys ∨ SqT K H p ys) ∧ ∀ l, H l = none → Q (.ref l) (upd H l (.lst ys))) dListOf := by
  intro Γ A ts σ H Q d Rr hn eo hq
  unfold dListOf at eo
  split at eo
  · rename_i k xs q
    obtain ⟨t, rfl, q'⟩ := er1 q
    obtain ⟨a, dx, us, rfl, h1⟩ := er_nd q'
    cases eo
    exact ⟨a, us.map T.root, rfl, .inl (SqL.of Rr.top1), fun p hp => hq (.nd p .own .lst 0 us) _ (Rr.node1 hn hp .lst 0 child_sub) (by rw [T.er, erL_eq, h1])⟩
  · rename_i k xs q
    obtain ⟨t, rfl, q'⟩ := er1 q
    obtain ⟨a, dx, us, rfl, h1⟩ := er_nd q'
    cases eo
    exact ⟨a, us.map T.root, rfl, .inr (SqT.of Rr.top1), fun p hp => hq (.nd p .own .lst 0 us) _ (Rr.node1 hn hp .lst 0 child_sub) (by rw [T.er, erL_eq, h1])⟩
  · cases eo
def dTupOf (ds : List D) : Option D := match ds with
  | [.nd _ .lst xs] => some (.nd .own .tup xs)
  | [.nd k .tup xs] => some (.nd k .tup xs)
  | _ => none
theorem cam_tupOf {K : PySem.W.Frag} : CaM g n (fun xs H Q => ∃ p ys, xs = [V.ref p] ∧ ((SqL K H p ys ∧ ∀ l, H l = none → Q (.ref l) (upd H l (.tup ys))) ∨ (SqT K H p ys ∧ Q (.ref p) H))) dTupOf := by
  intro Γ A ts σ H Q d Rr hn eo hq
  unfold dTupOf at eo
  split at eo
  · rename_i k xs q
    obtain ⟨t, rfl, q'⟩ := er1 q
    obtain ⟨a, dx, us, rfl, h1⟩ := er_nd q'
    cases eo
    exact ⟨a, us.map T.root, rfl, .inl ⟨SqL.of Rr.top1, fun p hp => hq (.nd p .own .tup 0 us) _ (Rr.node1 hn hp .tup 0 child_sub) (by rw [T.er, erL_eq, h1])⟩⟩
  · rename_i k xs q
    obtain ⟨t, rfl, q'⟩ := er1 q
    obtain ⟨a, dx, us, rfl, h1⟩ := er_nd q'
    cases eo
    exact ⟨a, us.map T.root, rfl, .inr ⟨SqT.of Rr.top1, hq _ _ Rr q'⟩⟩
  · cases eo
/-- a new list of ints in place of temps -/
theorem Rel.newInts {p : Addr} (Rr : Rel g Γ n (A ++ B) σ H) (hn : n ≤ A.length) (hp : H p = none) (ns : List Int) : Rel g Γ n (A ++ [some (.nd p .own .lst 0 (ns.map fun i => T.im (.int i)))]) σ (upd H p (.lst (ns.map V.int))) := by
  have := Rr.node (p := p) (ts := ns.map fun i => T.im (.int i)) hn hp .lst 0 (by rw [cells_int]; exact fun c h => nomatch h) (by rw [cells_int]; exact List.nil_sublist _)
  rw [roots_int] at this
  exact this
def intsD (ns : List Int) : D := .nd .own .lst (ns.map fun i => .im (.int i))
theorem intsD_er (p : Addr) (ns : List Int) : (T.nd p .own .lst 0 (ns.map fun i => T.im (.int i))).er = intsD ns := by rw [T.er, erL_eq, ers_int]; rfl
def sortI (ns : List Int) : List Int := ns.mergeSort (fun a b => decide (a ≤ b))
theorem sortI_perm (ns : List Int) : (sortI ns).Perm ns := List.mergeSort_perm _ _
theorem sortI_pw (ns : List Int) : (sortI ns).Pairwise (· ≤ ·) := by
  have := List.pairwise_mergeSort (le := fun a b : Int => decide (a ≤ b)) (fun a b c h1 h2 => by simp at *; omega) (fun a b => by simp; omega) ns
  exact this.imp fun h => by simpa using h
theorem sortI_uniq {ns ms : List Int} (h : ms.Perm ns) (p : ms.Pairwise (· ≤ ·)) : ms = sortI ns :=
  List.Perm.eq_of_pairwise (le := (· ≤ ·)) (fun a b _ _ h1 h2 => by omega) p (sortI_pw ns) (h.trans (sortI_perm ns).symm)
def dSorted (ds : List D) : Option D := match ds with
  | [.nd _ .lst xs] => (dInts xs).map fun ns => intsD (sortI ns)
  | _ => none
theorem cam_sorted {K : PySem.W.Frag} : CaM g n (rSortedI K) dSorted := by
  intro Γ A ts σ H Q d Rr hn eo hq
  unfold dSorted at eo
  split at eo
  · rename_i k xs q
    obtain ⟨t, rfl, q'⟩ := er1 q
    obtain ⟨a, dx, us, rfl, h1⟩ := er_nd q'
    cases e2 : dInts xs with
    | none => rw [e2] at eo; cases eo
    | some ns =>
      rw [e2] at eo
      cases eo
      have hu : us = ns.map fun i => T.im (.int i) := ints_root us ns (by rw [h1]; exact e2)
      have hh : H a = some (.lst (us.map T.root)) := Rr.top1
      rw [hu, roots_int] at hh
      refine ⟨a, ns, rfl, SqL.of hh, fun ns' p hp hw hf => ?_⟩
      rw [sortI_uniq hp hw]
      exact hq _ _ (Rr.newInts hn hf (sortI ns)) (intsD_er _ _)
  · cases eo
/-- keys of a dict, all ints -/
def kInts : List Key → Option (List Int)
  | [] => some []
  | .inl i :: r => (kInts r).map (i :: ·)
  | _ => none
theorem kInts_eq : ∀ (ks : List Key) (ns : List Int), kInts ks = some ns → ks = ns.map Sum.inl
  | [], ns, h => by simp [kInts] at h; subst h; rfl
  | .inl i :: r, ns, h => by
    simp only [kInts] at h
    cases e : kInts r with
    | none => rw [e] at h; cases h
    | some ms => rw [e] at h; cases h; rw [kInts_eq r ms e]; rfl
  | .inr _ :: r, ns, h => by simp [kInts] at h
theorem kInts_map (ns : List Int) : kInts (ns.map Sum.inl) = some ns := by
  induction ns with
  | nil => rfl
  | cons i r ih => simp [kInts, ih]
theorem zip_fst {α β : Type} : ∀ (ks : List α) (vs : List β), ks.length = vs.length → (ks.zip vs).map (·.1) = ks
  | [], _, _ => by simp
  | _ :: _, [], h => by simp at h
  | k :: ks, v :: vs, h => by simp [zip_fst ks vs (by simpa using h)]
def dSortedD (ds : List D) : Option D := match ds with
  | [.nd _ (.dic ks) xs] => if ks.length = xs.length ∧ ks.length < 64 then (kInts ks).map fun ns => intsD (sortI ns) else none
  | _ => none
def rSortedDI : List V → Hp → VK → Prop := fun xs H Q => ∃ (a : Addr) (kvs : List (Key × V)) (ks : List Int), xs = [.ref a] ∧ Rd H a (.dK kvs) ∧ kvs.map (·.1) = ks.map Sum.inl ∧ ks.length < 64 ∧
    ∀ (ys : List Int) (p : Addr), ys.Perm ks → ys.Pairwise (· ≤ ·) → H p = none → Q (.ref p) (upd H p (.lst (ys.map V.int)))
theorem cam_sortedD : CaM g n rSortedDI dSortedD := by
  intro Γ A ts σ H Q d Rr hn eo hq
  unfold dSortedD at eo
  split at eo
  · rename_i k ks xs q
    obtain ⟨t, rfl, q'⟩ := er1 q
    obtain ⟨a, dx, us, rfl, h1⟩ := er_nd q'
    split at eo
    · rename_i hl
      cases e2 : kInts ks with
      | none => rw [e2] at eo; cases eo
      | some ns =>
        rw [e2] at eo
        cases eo
        have hk := kInts_eq ks ns e2
        have hh : H a = some (.dK (ks.zip (us.map T.root))) := Rr.top1
        refine ⟨a, _, ns, rfl, .inl hh, ?_, ?_, fun ns' p hp hw hf => ?_⟩
        · rw [zip_fst _ _ (by rw [hl.1, ← h1]; simp)]; exact hk
        · have := hl.2; rw [hk, List.length_map] at this; exact this
        · rw [sortI_uniq hp hw]
          exact hq _ _ (Rr.newInts hn hf (sortI ns)) (intsD_er _ _)
    · cases eo
  · cases eo
def keyD (k : Key) : D := .im (kV k)
def dListD (ds : List D) : Option D := match ds with
  | [.nd _ (.dic ks) xs] => if ks.length = xs.length then some (.nd .own .lst (ks.map keyD)) else none
  | _ => none
theorem cells_im (vs : List V) : cellsL g (vs.map T.im) = [] := by
  induction vs with
  | nil => rfl
  | cons i r ih => simp [cellsL, T.cells, ih]
theorem cam_listD : CaM g n rListD dListD := by
  intro Γ A ts σ H Q d Rr hn eo hq
  unfold dListD at eo
  split at eo
  · rename_i k ks xs q
    obtain ⟨t, rfl, q'⟩ := er1 q
    obtain ⟨a, dx, us, rfl, h1⟩ := er_nd q'
    split at eo
    · rename_i hl
      cases eo
      have hh : H a = some (.dK (ks.zip (us.map T.root))) := Rr.top1
      refine ⟨a, _, rfl, hh, fun p hp => ?_⟩
      have e : ((ks.zip (us.map T.root)).map fun kv => kV kv.1) = ks.map kV := by
        have := zip_fst ks (us.map T.root) (by rw [hl, ← h1]; simp)
        have e2 := congrArg (List.map kV) this
        rw [List.map_map] at e2
        exact e2
      rw [e]
      have R2 := Rr.node (p := p) (ts := (ks.map kV).map T.im) hn hp .lst 0 (by rw [cells_im]; exact fun c h => nomatch h) (by rw [cells_im]; exact List.nil_sublist _)
      have e3 : ((ks.map kV).map T.im).map T.root = ks.map kV := by simp [T.root, Function.comp_def]
      rw [e3] at R2
      exact hq _ _ R2 (by rw [T.er, erL_eq]; simp [T.er, keyD, Function.comp_def])
    · cases eo
  · cases eo
/-! ### list(range(..)) -/
theorem rgV_eq (a b : Int) : rgV a b = ((List.range (b - a).toNat).map fun k : Nat => a + (k : Int)).map V.int := by unfold rgV; rw [List.map_map]; rfl
def rgI (a b : Int) : List Int := (List.range (b - a).toNat).map fun k : Nat => a + (k : Int)
def dRg1 (d : D) : Option D := match d with
  | .im (.int j) => if rngOk j = true ∧ j ≤ 16777216 then some (intsD (rgI 0 j)) else none
  | _ => none
def dRg2 (a b : D) : Option D := match a, b with
  | .im (.int i), .im (.int j) => if rngOk i = true ∧ rngOk j = true ∧ j - i ≤ 16777216 then some (intsD (rgI i j)) else none
  | _, _ => none
theorem mean_lstRg1 {ta : TE} {fa : Sg → R D} (ha : MeanE g n W M1 ta fa) : MeanE g n W M1 (tLstRg (tRg1 ta)) (cOne fa dRg1) :=
  mean_one (r := fun x H1 Q => ∃ m, x = .int m ∧ RgOk 0 m ∧ ∀ q, H1 q = none → Q (.ref q) (upd H1 q (.lst (rgV 0 m)))) ha fun Γ A ta σ H Q d Rr hn eo hq => by
    unfold dRg1 at eo
    split at eo
    · rename_i j e
      split at eo
      · rename_i hj
        cases eo
        rw [er_im e]
        obtain ⟨r1, r2⟩ := rngOk_iff hj.1
        refine ⟨j, rfl, ⟨by omega, by omega, r1, r2, by have := hj.2; omega⟩, fun p hp => ?_⟩
        rw [rgV_eq]
        exact hq _ _ (Rr.newInts hn hp _) (intsD_er _ _)
      · cases eo
    · cases eo
theorem mean_lstRg2 {ta tb : TE} {fa fb : Sg → R D} (ha : MeanE g n W M1 ta fa) (hb : MeanE g n W M2 tb fb) : MeanE g n W (M1 ++ M2) (tLstRg (tRg2 ta tb)) (cTwo M2 fa fb dRg2) :=
  mean_two (r := fun x y H2 Q => ∃ i j, x = .int i ∧ y = .int j ∧ RgOk i j ∧ ∀ q, H2 q = none → Q (.ref q) (upd H2 q (.lst (rgV i j)))) ha hb fun Γ A ta tb σ H Q d Rr hn eo hq => by
    unfold dRg2 at eo
    split at eo
    · rename_i i j e1 e2
      split at eo
      · rename_i hj
        cases eo
        rw [er_im e1, er_im e2]
        obtain ⟨r1, r2⟩ := rngOk_iff hj.1
        obtain ⟨r3, r4⟩ := rngOk_iff hj.2.1
        refine ⟨i, j, rfl, rfl, ⟨r1, r2, r3, r4, by have := hj.2.2; omega⟩, fun p hp => ?_⟩
        rw [rgV_eq]
        rw [List.append_assoc] at Rr
        exact hq _ _ (Rr.newInts hn hp _) (intsD_er _ _)
      · cases eo
    · cases eo
/-! ### dicts: d[k], k in d, d[k] = v -/
def valP {κ α : Type} [DecidableEq κ] (k : κ) : List κ → List α → Option α
  | k' :: ks, x :: xs => if k' = k then some x else valP k ks xs
  | _, _ => none
theorem valP_map {κ α β : Type} [DecidableEq κ] (f : α → β) (k : κ) : ∀ (ks : List κ) (xs : List α), valP k ks (xs.map f) = (valP k ks xs).map f
  | [], _ => by simp [valP]
  | _ :: _, [] => by simp [valP]
  | k' :: ks, x :: xs => by
    simp only [List.map_cons, valP]
    by_cases e : k' = k
    · rw [if_pos e, if_pos e]; rfl
    · rw [if_neg e, if_neg e]; exact valP_map f k ks xs
theorem valP_valV {κ : Type} [DecidableEq κ] (k : κ) : ∀ (ks : List κ) (vs : List V), valV (ks.zip vs) k = valP k ks vs
  | [], _ => by simp [valP, valV]
  | _ :: _, [] => by simp [valP, valV]
  | k' :: ks, x :: xs => by
    have ih := valP_valV k ks xs
    unfold valV at ih ⊢
    simp only [List.zip_cons_cons, List.find?_cons, valP]
    by_cases e : k' = k
    · simp [e]
    · simp only [e, decide_false, if_false]; exact ih
theorem valP_get {κ α : Type} [DecidableEq κ] (k : κ) : ∀ (ks : List κ) (xs : List α) (x : α), valP k ks xs = some x → ∃ i : Nat, xs[i]? = some x
  | [], _, x, h => by simp [valP] at h
  | _ :: _, [], x, h => by simp [valP] at h
  | k' :: ks, y :: xs, x, h => by
    simp only [valP] at h
    by_cases e : k' = k
    · rw [if_pos e] at h; exact ⟨0, by simpa using h⟩
    · rw [if_neg e] at h
      obtain ⟨i, hi⟩ := valP_get k ks xs x h
      exact ⟨i + 1, by simpa using hi⟩
def keyOf (d : D) : Option Key := match d with
  | .im (.int i) => some (.inl i)
  | .im (.str x) => some (.inr x)
  | _ => none
theorem keyOf_root {d : T} {k : Key} (h : keyOf d.er = some k) : d = .im (kV k) := by
  unfold keyOf at h
  split at h
  · rename_i e; cases h; exact er_im e
  · rename_i e; cases h; exact er_im e
  · cases h
def keyTs : List D → Option (List Key)
  | [] => some []
  | d :: r => match keyOf d, keyTs r with
    | some k, some ks => some (k :: ks)
    | _, _ => none
def keyT (d : D) : Option (List Key) := match d with
  | .nd _ .tup ds => keyTs ds
  | _ => none
theorem keyTs_root : ∀ (ts : List T) (ks : List Key), keyTs (ts.map T.er) = some ks → ts.map T.root = ks.map kV
  | [], ks, h => by simp [keyTs] at h; subst h; rfl
  | t :: r, ks, h => by
    simp only [List.map_cons, keyTs] at h
    cases e1 : keyOf t.er with
    | none => rw [e1] at h; cases h
    | some k =>
      cases e2 : keyTs (r.map T.er) with
      | none => rw [e1, e2] at h; cases h
      | some ms =>
        rw [e1, e2] at h
        cases h
        rw [List.map_cons, List.map_cons, keyTs_root r ms e2, keyOf_root e1]; rfl
/-- what stands at a key: none if this is no dict with such a key kind -/
def dGetO (d y : D) : Option (Option D) := match d with
  | .nd _ (.dic ks) ds => (keyOf y).map fun k => valP k ks ds
  | .nd _ (.dtu ks) ds => (keyT y).map fun k => valP k ks ds
  | _ => none
theorem dgetO_of {H : Hp} {td ty : T} {o : Option D} (hd : ∀ c ∈ td.cells g, H c.2.1 = some c.2.2) (hy : ∀ c ∈ ty.cells g, H c.2.1 = some c.2.2) (h : dGetO td.er ty.er = some o) :
    ∃ a k s dx ts, td = .nd a k s dx ts ∧ ∃ u : Option T, u.map T.er = o ∧ DGet H a ty.root (u.map T.root) ∧ ∀ x, u = some x → ∃ i : Nat, ts[i]? = some x := by
  unfold dGetO at h
  split at h
  · rename_i k ks ds e
    obtain ⟨a, dx, ts, rfl, h1⟩ := er_nd e
    cases ek : keyOf ty.er with
    | none => rw [ek] at h; cases h
    | some key =>
      rw [ek] at h
      have hh : H a = some (.dK (ks.zip (ts.map T.root))) := hd _ (by rw [T.cells]; exact List.mem_cons_self)
      refine ⟨a, k, _, dx, ts, rfl, valP key ks ts, ?_, ?_, fun x hx => valP_get key ks ts x hx⟩
      · rw [← valP_map, h1]; simpa using h
      · rw [keyOf_root ek, ← valP_map, ← valP_valV]
        exact DGet.k hh
  · rename_i k ks ds e
    obtain ⟨a, dx, ts, rfl, h1⟩ := er_nd e
    cases ek : keyT ty.er with
    | none => rw [ek] at h; cases h
    | some key =>
      rw [ek] at h
      have hh : H a = some (.dT (ks.zip (ts.map T.root))) := hd _ (by rw [T.cells]; exact List.mem_cons_self)
      unfold keyT at ek
      split at ek
      · rename_i k' ds' e'
        obtain ⟨b, dy, us, rfl, h2⟩ := er_nd e'
        have hb : H b = some (.tup (us.map T.root)) := hy _ (by rw [T.cells]; exact List.mem_cons_self)
        rw [keyTs_root us key (by rw [h2]; exact ek)] at hb
        refine ⟨a, k, _, dx, ts, rfl, valP key ks ts, ?_, ?_, fun x hx => valP_get key ks ts x hx⟩
        · rw [← valP_map, h1]; simpa using h
        · rw [← valP_map, ← valP_valV]
          exact DGet.t hh hb
      · cases ek
  · cases h
def rDGet : R2 := fun x y H Q => ∃ a v, x = .ref a ∧ DGet H a y (some v) ∧ Q v H
def rDIn (neg : Bool) : R2 := fun y x H Q => ∃ a o, x = .ref a ∧ DGet H a y o ∧ Q (.bl (if neg then !o.isSome else o.isSome)) H
def dDGet (d y : D) : Option D := (dGetO d y).bind id
def dDIn (neg : Bool) (y d : D) : Option D := (dGetO d y).map fun o => .im (.bl (if neg then !o.isSome else o.isSome))
theorem hold2a {ta tb : T} (Rr : Rel g Γ n (A ++ [some ta] ++ [some tb]) σ H) : ∀ c ∈ ta.cells g, H c.2.1 = some c.2.2 := fun c hc => Rr.hold A.length c ⟨ta, by simp, hc⟩
theorem hold2b {ta tb : T} (Rr : Rel g Γ n (A ++ [some ta] ++ [some tb]) σ H) : ∀ c ∈ tb.cells g, H c.2.1 = some c.2.2 := fun c hc => Rr.hold (A.length + 1) c ⟨tb, by simp, hc⟩
theorem opm_dget : OpM g n rDGet dDGet := by
  intro Γ A ta tb σ H Q d Rr hn eo hq
  unfold dDGet at eo
  cases e : dGetO ta.er tb.er with
  | none => rw [e] at eo; cases eo
  | some o =>
    rw [e] at eo
    obtain ⟨a, k, s, dx, ts, rfl, u, h1, h2, h3⟩ := dgetO_of (hold2a Rr) (hold2b Rr) e
    have eo : o = some d := eo
    subst eo
    cases u with
    | none => cases h1
    | some x =>
      obtain ⟨i, hi⟩ := h3 x rfl
      refine ⟨a, x.root, rfl, h2, hq x H ?_ (by simpa using h1)⟩
      have hs : (x.cells g).Sublist ((T.nd a k s dx ts).cells g) := (at_sub hi).trans child_sub
      rw [List.append_assoc] at Rr
      exact Rr.part hn (fun c hc => ⟨0, _, rfl, hs.subset hc⟩) (by
        simp only [List.cons_append, List.nil_append, List.flatMap_cons, List.flatMap_nil, List.append_nil, ownsO]
        exact (owns_sublist hs).trans (List.sublist_append_left _ _))
theorem opm_din (neg : Bool) : OpM g n (rDIn neg) (dDIn neg) := by
  intro Γ A ta tb σ H Q d Rr hn eo hq
  unfold dDIn at eo
  cases e : dGetO tb.er ta.er with
  | none => rw [e] at eo; cases eo
  | some o =>
    rw [e] at eo
    obtain ⟨a, k, s, dx, ts, rfl, u, h1, h2, h3⟩ := dgetO_of (hold2b Rr) (hold2a Rr) e
    cases eo
    rw [List.append_assoc] at Rr
    refine ⟨a, _, rfl, h2, ?_⟩
    have : (u.map T.root).isSome = o.isSome := by rw [← h1]; cases u <;> rfl
    rw [this]
    exact hq (.im _) H (Rr.imm hn _) rfl
end
section
open PySem.Spec PyProof.Rows
variable {X : Cx}
theorem ix_dget (hu : X.A.units + 1 < cLine) : IxR X rDGet := by
  intro value slice pins s σ H x y v u Q I rx ry h hs
  obtain ⟨a, w, rfl, gg, q⟩ := h
  obtain rfl : v = Value.ref a := rx
  have ht := dict_typeIs I gg
  unfold subscriptTail
  refine wpAny_bind ?_
  rw [getitemInPython_of_ne ht.not_modules]
  refine wpAny_bind (wpAny_specialOf ht PySem.F.slot_dict_getitem.lookup ?_)
  have fin : wpAny (model X.prog X.w) X.A (subscripted slice false (.ref a) u) (fun r s₃ => wpAny (model X.prog X.w) X.A (letTemporaryGo value (.ref a) r >>= fun _ => pure r) (EP X pins σ Q) X.xe s₃) X.xe s := by
    rw [hs]
    exact wpAny_operating (d_getItem hu I gg ry fun w' s3 I3 rw' => wpAny_bind (wpAny_letTemporaryGo (wpAny_pure ⟨w, H, I3, rw', q⟩)))
  first
    | exact wpAny_pure (wpAny_bind fin)
    | exact wpAny_bind (wpAny_pure (wpAny_bind fin))
    | exact wpAny_bind fin
theorem op_din (hu : X.A.units + 1 < cLine) : OpR X (compareOp .In) (rDIn false) := by
  intro pins s σ H x y v u Q I rx ry h
  obtain ⟨a, o, rfl, gg, q⟩ := h
  obtain rfl : u = Value.ref a := ry
  exact d_in hu I gg rx fun s' I' => ⟨.bl o.isSome, H, I', rfl, q⟩
theorem op_dnotin (hu : X.A.units + 1 < cLine) : OpR X (compareOp .NotIn) (rDIn true) := by
  intro pins s σ H x y v u Q I rx ry h
  obtain ⟨a, o, rfl, gg, q⟩ := h
  obtain rfl : u = Value.ref a := ry
  exact d_notIn hu I gg rx fun s' I' => ⟨.bl (!o.isSome), H, I', rfl, q⟩
def rDSet : TSet := fun o i v H Q => ∃ a H4, o = .ref a ∧ DPut H a i v H4 ∧ Q H4
theorem pset_dict (hu : X.A.units + 1 < cLine) : PSet X rDSet := by
  intro pins s σ H x y v ov iv u Q I rx ry rv h
  obtain ⟨a, H4, rfl, gg, q⟩ := h
  obtain rfl : ov = Value.ref a := rx
  exact d_setItem hu I gg ry rv fun s' I' => ⟨H4, I', q⟩
theorem PSet.or {r r' : TSet} (h : PSet X r) (h' : PSet X r') : PSet X (fun o i v H Q => r o i v H Q ∨ r' o i v H Q) := by
  intro pins s σ H x y v ov iv u Q I rx ry rv q
  rcases q with q | q
  · exact h pins s σ H x y v ov iv u Q I rx ry rv q
  · exact h' pins s σ H x y v ov iv u Q I rx ry rv q
end
end Lin
end
section
namespace Lin
open PySem L2
def putP {κ α : Type} [DecidableEq κ] (f : κ) : List κ → List α → α → List κ × List α
  | n :: ns, x :: xs, v => if n = f then (n :: ns, v :: xs) else (n :: (putP f ns xs v).1, x :: (putP f ns xs v).2)
  | _, _, v => ([f], [v])
section
variable {g : Gc} {n : Nat} {W : WX} {Γ : Gh} {A A' A'' B : List (Option T)} {σ : L2.St} {H H' : Hp} {t : T} {M M1 M2 M3 : List Nat} {κ : Type} [DecidableEq κ]
theorem putP_map {α β : Type} (h : α → β) (f : κ) : ∀ (ns : List κ) (xs : List α) (v : α), (putP f ns (xs.map h) (h v)).1 = (putP f ns xs v).1 ∧ (putP f ns (xs.map h) (h v)).2 = (putP f ns xs v).2.map h
  | [], xs, v => by cases xs <;> simp [putP]
  | _ :: _, [], v => by simp [putP]
  | n :: ns, x :: xs, v => by
    obtain ⟨h1, h2⟩ := putP_map h f ns xs v
    simp only [List.map_cons, putP]
    by_cases e : n = f
    · rw [if_pos e, if_pos e]; exact ⟨rfl, rfl⟩
    · rw [if_neg e, if_neg e]; simp [h1, h2]
theorem putK_cons (k k' : κ) (v x : V) (kvs : List (κ × V)) (hn : k' ∉ kvs.map (·.1)) : putK ((k', x) :: kvs) k v = if k' = k then (k', v) :: kvs else (k', x) :: putK kvs k v := by
  unfold putK
  by_cases e : k' = k
  · subst e
    rw [if_pos rfl]
    simp only [List.any_cons, decide_true, Bool.true_or, if_true, List.map_cons]
    congr 1
    conv => rhs; rw [← List.map_id kvs]
    apply List.map_congr_left
    intro kv hkv
    have : kv.1 ≠ k' := fun z => hn (List.mem_map.mpr ⟨kv, hkv, z⟩)
    rw [if_neg this]; rfl
  · rw [if_neg e]
    simp only [List.any_cons, e, decide_false, Bool.false_or, List.map_cons, if_false]
    split <;> rfl
theorem putP_zip (f : κ) : ∀ (ns : List κ) (vs : List V) (v : V), ns.length = vs.length → ns.Nodup → putK (ns.zip vs) f v = (putP f ns vs v).1.zip (putP f ns vs v).2
  | [], [], v, _, _ => rfl
  | [], _ :: _, v, h, _ => by simp at h
  | _ :: _, [], v, h, _ => by simp at h
  | n :: ns, x :: vs, v, h, nd => by
    obtain ⟨nd1, nd2⟩ := List.nodup_cons.mp nd
    have hl : ns.length = vs.length := by simpa using h
    have ih := putP_zip f ns vs v hl nd2
    rw [List.zip_cons_cons, putK_cons _ _ _ _ _ (by rw [zip_fst _ _ hl]; exact nd1)]
    simp only [putP]
    by_cases e : n = f
    · rw [if_pos e, if_pos e]; rfl
    · rw [if_neg e, if_neg e, ih]; rfl
theorem putP_perm (f : κ) : ∀ (ns : List κ) (ts : List T) (v : T), ns.length = ts.length → ∃ dropped, (cellsL g (putP f ns ts v).2 ++ dropped).Perm (cellsL g ts ++ v.cells g)
  | [], [], v, _ => ⟨[], by simp [putP, cellsL]⟩
  | [], _ :: _, v, h => by simp at h
  | _ :: _, [], v, h => by simp at h
  | n :: ns, x :: ts, v, h => by
    obtain ⟨dr, p⟩ := putP_perm f ns ts v (by simpa using h)
    simp only [putP]
    by_cases e : n = f
    · rw [if_pos e]
      refine ⟨x.cells g, ?_⟩
      simp only [cellsL]
      classical
      refine List.perm_iff_count.mpr fun c => ?_
      simp only [List.count_append]
      omega
    · rw [if_neg e]
      refine ⟨dr, ?_⟩
      simp only [cellsL, List.append_assoc]
      exact p.append_left _
theorem putP_fst {α : Type} (f : κ) : ∀ (ns : List κ) (xs : List α) (v : α), ns.length = xs.length → (putP f ns xs v).1 = if f ∈ ns then ns else ns ++ [f]
  | [], [], v, _ => by simp [putP]
  | [], _ :: _, v, h => by simp at h
  | _ :: _, [], v, h => by simp at h
  | n :: ns, x :: xs, v, h => by
    have ih := putP_fst f ns xs v (by simpa using h)
    simp only [putP]
    by_cases e : n = f
    · rw [if_pos e]; subst e; simp
    · rw [if_neg e]
      simp only [ih, List.mem_cons, Ne.symm e, false_or]
      split <;> rfl
theorem putP_len {α : Type} (f : κ) : ∀ (ns : List κ) (xs : List α) (v : α), ns.length = xs.length → (putP f ns xs v).1.length = (putP f ns xs v).2.length
  | [], [], v, _ => by simp [putP]
  | [], _ :: _, v, h => by simp at h
  | _ :: _, [], v, h => by simp at h
  | n :: ns, x :: xs, v, h => by
    have ih := putP_len f ns xs v (by simpa using h)
    simp only [putP]
    by_cases e : n = f
    · rw [if_pos e]; simpa using h
    · rw [if_neg e]; simp [ih]
theorem valP_put {α : Type} (f k : κ) : ∀ (ns : List κ) (xs : List α) (v : α), ns.length = xs.length → valP k (putP f ns xs v).1 (putP f ns xs v).2 = if k = f then some v else valP k ns xs
  | [], [], v, _ => by simp [putP, valP, eq_comm]
  | [], _ :: _, v, h => by simp at h
  | _ :: _, [], v, h => by simp at h
  | n :: ns, x :: xs, v, h => by
    have ih := valP_put f k ns xs v (by simpa using h)
    simp only [putP]
    by_cases e : n = f
    · rw [if_pos e]
      subst e
      simp only [valP]
      by_cases e2 : n = k
      · subst e2; simp
      · simp [e2, Ne.symm e2]
    · rw [if_neg e]
      simp only [valP, ih]
      by_cases e2 : n = k
      · subst e2; simp [e]
      · simp [e2]
def sDic (s : Sh) (ds : List D) (i v : D) : Option (Sh × List D) := match s with
  | .dic ks => (keyOf i).bind fun k => if ks.length = ds.length ∧ ks.Nodup ∧ ks.length < sizeLine then some (.dic (putP k ks ds v).1, (putP k ks ds v).2) else none
  | .dtu ks => (keyT i).bind fun k => if ks.length = ds.length ∧ ks.Nodup ∧ ks.length < sizeLine then some (.dtu (putP k ks ds v).1, (putP k ks ds v).2) else none
  | _ => none
theorem stm_dic : StM g rDSet sDic := by
  intro H a dx s ts i v s' ds' hi hH ho
  unfold sDic at ho
  split at ho
  · rename_i ks
    cases ek : keyOf i.er with
    | none => rw [ek] at ho; cases ho
    | some k =>
      rw [ek, Option.bind_some] at ho
      split at ho
      · rename_i hh
        obtain ⟨hl, hnd, hz⟩ := hh
        rw [List.length_map] at hl
        cases ho
        obtain ⟨dr, p⟩ := putP_perm (g := g) k ks ts v hl
        obtain ⟨m1, m2⟩ := putP_map T.er k ks ts v
        obtain ⟨k1, k2⟩ := putP_map T.root k ks ts v
        refine ⟨(putP k ks ts v).2, dr ++ i.cells g, m2.symm, ?_, fun Q q => ?_⟩
        · simp only [cellsL, List.append_nil]
          rw [← List.append_assoc, ← List.append_assoc]
          exact p.append_right _
        · refine ⟨a, _, rfl, ?_, q⟩
          rw [keyOf_root ek]
          have := DPut.k (H := H) (a := a) (k := k) (v := v.root) hH (by rw [List.length_zip, List.length_map]; omega)
          rw [putP_zip k ks _ _ (by rw [List.length_map]; exact hl) hnd, k1, k2, ← m1] at this
          exact this
      · cases ho
  · rename_i ks
    cases ek : keyT i.er with
    | none => rw [ek] at ho; cases ho
    | some k =>
      rw [ek, Option.bind_some] at ho
      split at ho
      · rename_i hh
        obtain ⟨hl, hnd, hz⟩ := hh
        rw [List.length_map] at hl
        cases ho
        obtain ⟨dr, p⟩ := putP_perm (g := g) k ks ts v hl
        obtain ⟨m1, m2⟩ := putP_map T.er k ks ts v
        obtain ⟨k1, k2⟩ := putP_map T.root k ks ts v
        refine ⟨(putP k ks ts v).2, dr ++ i.cells g, m2.symm, ?_, fun Q q => ?_⟩
        · simp only [cellsL, List.append_nil]
          rw [← List.append_assoc, ← List.append_assoc]
          exact p.append_right _
        · refine ⟨a, _, rfl, ?_, q⟩
          unfold keyT at ek
          split at ek
          · rename_i k' ds' e'
            obtain ⟨b, dy, us, rfl, h2⟩ := er_nd e'
            have hb : H b = some (.tup (us.map T.root)) := hi _ (by rw [T.cells]; exact List.mem_cons_self)
            rw [keyTs_root us k (by rw [h2]; exact ek)] at hb
            have := DPut.t (H := H) (a := a) (b := b) (k := k) (v := v.root) hH hb (by rw [List.length_zip, List.length_map]; omega)
            rw [putP_zip k ks _ _ (by rw [List.length_map]; exact hl) hnd, k1, k2, ← m1] at this
            exact this
          · cases ek
      · cases ho
  · cases ho
theorem StM.or {r1 r2 : TSet} {o1 o2 : Sh → List D → D → D → Option (Sh × List D)} (h1 : StM g r1 o1) (h2 : StM g r2 o2) : StM g (fun o i v H Q => r1 o i v H Q ∨ r2 o i v H Q) (fun s ds i v => (o1 s ds i v).or (o2 s ds i v)) := by
  intro H a dx s ts i v s' ds' hi hH ho
  dsimp only at ho
  cases e : o1 s (ts.map T.er) i.er v.er with
  | some p =>
    rw [e] at ho
    have : p = (s', ds') := by simpa using ho
    subst this
    obtain ⟨ts', dr, h3, h4, h5⟩ := h1 H a dx s ts i v s' ds' hi hH e
    exact ⟨ts', dr, h3, h4, fun Q q => .inl (h5 Q q)⟩
  | none =>
    rw [e] at ho
    obtain ⟨ts', dr, h3, h4, h5⟩ := h2 H a dx s ts i v s' ds' hi hH (by simpa using ho)
    exact ⟨ts', dr, h3, h4, fun Q q => .inr (h5 Q q)⟩
/-! ### x in xs; is None -/
def dFlat (d : D) : Option V := match d with
  | .im v => if flatV v = true then some v else none
  | _ => none
def flats : List D → Option (List V)
  | [] => some []
  | d :: r => match dFlat d, flats r with
    | some x, some xs => some (x :: xs)
    | _, _ => none
theorem dFlat_root {t : T} {v : V} (h : dFlat t.er = some v) : t = .im v ∧ flatV v = true := by
  unfold dFlat at h
  split at h
  · rename_i w e
    split at h
    · rename_i hf; cases h; exact ⟨er_im e, hf⟩
    · cases h
  · cases h
theorem flats_root : ∀ (ts : List T) (vs : List V), flats (ts.map T.er) = some vs → ts.map T.root = vs ∧ vs.all flatV = true
  | [], vs, h => by simp [flats] at h; subst h; exact ⟨rfl, rfl⟩
  | t :: r, vs, h => by
    simp only [List.map_cons, flats] at h
    cases e1 : dFlat t.er with
    | none => rw [e1] at h; cases h
    | some k =>
      cases e2 : flats (r.map T.er) with
      | none => rw [e1, e2] at h; cases h
      | some ms =>
        rw [e1, e2] at h
        cases h
        obtain ⟨h1, h2⟩ := flats_root r ms e2
        obtain ⟨h3, h4⟩ := dFlat_root e1
        rw [List.map_cons, h1, h3]
        exact ⟨rfl, by rw [List.all_cons, h4, h2]; rfl⟩
def dIn (neg : Bool) (x y : D) : Option D := match y with
  | .nd _ .lst ds => match dFlat x, flats ds with
    | some v, some vs => some (.im (.bl (if neg then !inV v vs else inV v vs)))
    | _, _ => none
  | .nd _ .tup ds => match dFlat x, flats ds with
    | some v, some vs => some (.im (.bl (if neg then !inV v vs else inV v vs)))
    | _, _ => none
  | _ => none
theorem opm_in {K : PySem.W.Frag} (neg : Bool) : OpM g n (rIn K neg) (dIn neg) := by
  intro Γ A ta tb σ H Q d Rr hn eo hq
  have h2 := hold2b Rr
  rw [List.append_assoc] at Rr
  unfold dIn at eo
  split at eo
  · rename_i k ds e
    obtain ⟨a, dx, ts, rfl, h1⟩ := er_nd e
    split at eo
    · rename_i v vs e1 e2
      cases eo
      obtain ⟨f1, f2⟩ := dFlat_root e1
      obtain ⟨f3, f4⟩ := flats_root ts vs (by rw [h1]; exact e2)
      have hh := h2 _ (by rw [T.cells]; exact List.mem_cons_self)
      refine ⟨a, vs, rfl, .inl (SqL.of (by rw [← f3]; exact hh)), by rw [f1]; exact f2, f4, ?_⟩
      rw [f1]
      exact hq (.im _) H (Rr.imm hn _) rfl
    · cases eo
  · rename_i k ds e
    obtain ⟨a, dx, ts, rfl, h1⟩ := er_nd e
    split at eo
    · rename_i v vs e1 e2
      cases eo
      obtain ⟨f1, f2⟩ := dFlat_root e1
      obtain ⟨f3, f4⟩ := flats_root ts vs (by rw [h1]; exact e2)
      have hh := h2 _ (by rw [T.cells]; exact List.mem_cons_self)
      refine ⟨a, vs, rfl, .inr (SqT.of (by rw [← f3]; exact hh)), by rw [f1]; exact f2, f4, ?_⟩
      rw [f1]
      exact hq (.im _) H (Rr.imm hn _) rfl
    · cases eo
  · cases eo
def isNon (d : D) : Bool := match d with
  | .im .non => true
  | _ => false
def dIsN (neg : Bool) (x y : D) : Option D := match y with
  | .im .non => some (.im (.bl (if neg then !isNon x else isNon x)))
  | _ => none
theorem isNon_root (t : T) : isNon t.er = decide (t.root = .non) := by
  cases t with
  | im v => cases v <;> simp [isNon, T.er, T.root]
  | nd a k s dx ts => simp [isNon, T.er, T.root]
theorem opm_isN : OpM g n (fun x y H Q => y = .non ∧ Q (.bl (decide (x = .non))) H) (dIsN false) := by
  intro Γ A ta tb σ H Q d Rr hn eo hq
  rw [List.append_assoc] at Rr
  unfold dIsN at eo
  split at eo
  · rename_i e
    cases eo
    refine ⟨by rw [er_im e]; rfl, ?_⟩
    rw [← isNon_root]
    exact hq (.im _) H (Rr.imm hn _) rfl
  · cases eo
theorem opm_notN : OpM g n (fun x y H Q => y = .non ∧ Q (.bl (!decide (x = .non))) H) (dIsN true) := by
  intro Γ A ta tb σ H Q d Rr hn eo hq
  rw [List.append_assoc] at Rr
  unfold dIsN at eo
  split at eo
  · rename_i e
    cases eo
    refine ⟨by rw [er_im e]; rfl, ?_⟩
    rw [← isNon_root]
    exact hq (.im _) H (Rr.imm hn _) rfl
  · cases eo
def dNeg (d : D) : Option D := match d with
  | .im (.int i) => some (.im (.int (-i)))
  | _ => none
theorem unm_neg : UnM g n (rU fun i => .int (-i)) dNeg := by
  intro Γ A ta σ H Q d Rr hn eo hq
  unfold dNeg at eo
  split at eo
  · rename_i i e
    cases eo
    rw [er_im e]
    exact ⟨i, rfl, hq (.im _) H (Rr.imm hn _) rfl⟩
  · cases eo
/-! ### a op b op' c -/
def cChain (Mb Mc : List Nat) (fa fb fc : Sg → R D) (o o' : D → D → Option D) : Sg → R D := fun S => (fa S).bind fun da S1 => if cleanD Mb da = true then (fb S1).bind fun db S2 => match db with
  | .im vb => match o da db with
    | some (.im (.bl true)) => (fc S2).bind fun dc S3 => R.lift (o' db dc) S3
    | some (.im (.bl false)) => .ok (.im (.bl false)) S2
    | _ => .bad
  | _ => .bad else .bad
theorem mean_chain {ta tb tc : TE} {fa fb fc : Sg → R D} {r r' : R2} {o o' : D → D → Option D} (ha : MeanE g n W M1 ta fa) (hb : MeanE g n W M2 tb fb) (hc : MeanE g n W M3 tc fc) (h1 : OpM g n r o) (h2 : OpM g n r' o') :
    MeanE g n W (M1 ++ (M2 ++ M3)) (tChain r r' ta tb tc) (cChain M2 M3 fa fb fc o o') := by
  intro Γ A σ H Q Rr cl h
  refine ha Γ A σ H _ Rr cl.left ?_
  unfold cChain at h
  cases ea : fa (ers n A) with
  | bad => rw [ea] at h; exact h.elim
  | exc c d S => rw [ea] at h; exact h
  | ok da S1 =>
    rw [ea] at h
    dsimp only [Lin.R.bind] at h
    intro A1 t1 H1 R1 x1 e1 d1
    by_cases hcl : cleanD M2 da = true
    · rw [if_pos hcl] at h
      have n1 : n ≤ A1.length := by rw [x1.len]; exact Rr.len
      refine hb Γ (A1 ++ [some t1]) σ H1 _ R1 ((cl.right.left.next x1.toNext Rr.len).snoc (by rw [d1]; exact hcl)) ?_
      rw [ers_append n1, e1]
      cases eb : fb S1 with
      | bad => rw [eb] at h; exact h.elim
      | exc c d S =>
        rw [eb] at h
        intro A2 t2 H2 R2 x2 e2 d2
        obtain ⟨y, z⟩ := x2.left n1
        have n3 : n ≤ (A2.take A1.length).length := by rw [y.len]; exact n1
        refine h (A2.take A1.length) t2 H2 ?_ (x1.toNext.trans y) ?_ d2
        · rw [z, List.append_assoc] at R2
          refine R2.subst (t := t2) n3 (fun _ _ q => q) (fun c hc => .inr ⟨1, ⟨t2, by simp, hc⟩⟩) ⟨[], by simp, by simp, ?_⟩
          simp [ownsO]
        · rw [z, ers_append n3] at e2; exact e2
      | ok db S2 =>
        rw [eb] at h
        dsimp only [Lin.R.bind] at h
        intro A2 t2 H2 R2 x2 e2 d2
        obtain ⟨y, z⟩ := x2.left n1
        have n3 : n ≤ (A2.take A1.length).length := by rw [y.len]; exact n1
        have e2' : ers n (A2.take A1.length) = S2 := by rw [z, ers_append n3] at e2; exact e2
        rw [z] at R2
        have x12 := x1.trans y
        split at h
        · rename_i vb
          have ht2 := er_im d2
          subst ht2
          split at h
          · rename_i eo
            refine h1 Γ (A2.take A1.length) t1 (.im vb) σ H2 _ _ R2 n3 (by rw [d1]; exact eo) fun t H' R' et => ?_
            rw [er_im et]
            refine ⟨true, rfl, ?_⟩
            rw [if_pos rfl]
            have R3 : Rel g Γ n (A2.take A1.length ++ [some (.im vb)]) σ H' := R'.imm n3 vb
            have cl3 : Clean g n M3 (A2.take A1.length ++ [some (.im vb)]) := (cl.right.right.next x12.toNext Rr.len).snoc (by
              unfold cleanD; rw [List.all_eq_true]; intro r _; simp [T.er, hasBor, D.kinds])
            refine hc Γ _ σ H' _ R3 cl3 ?_
            rw [ers_append n3, e2']
            cases ec : fc S2 with
            | bad => rw [ec] at h; exact h.elim
            | exc c d S =>
              rw [ec] at h
              intro A4 t4 H4 R4 x4 e4 d4
              obtain ⟨y4, z4⟩ := x4.left n3
              have n5 : n ≤ (A4.take (A2.take A1.length).length).length := by rw [y4.len]; exact n3
              refine h (A4.take (A2.take A1.length).length) t4 H4 ?_ (x12.toNext.trans y4) ?_ d4
              · rw [z4] at R4; exact R4.mid n5
              · rw [z4, ers_append n5] at e4; exact e4
            | ok dc S3 =>
              rw [ec] at h
              dsimp only [Lin.R.bind] at h
              intro A4 t4 H4 R4 x4 e4 d4
              obtain ⟨y4, z4⟩ := x4.left n3
              have n5 : n ≤ (A4.take (A2.take A1.length).length).length := by rw [y4.len]; exact n3
              cases eo' : o' (.im vb) dc with
              | none => rw [eo'] at h; exact h.elim
              | some d =>
                rw [eo'] at h
                rw [z4] at R4
                refine h2 Γ _ (.im vb) t4 σ H4 Q d R4 n5 (by rw [d4]; exact eo') fun t H' R' et => ?_
                refine h _ t H' R' ((x12.trans y4).mono fun r hr => by simpa [List.append_assoc] using hr) (by rw [z4, ers_append n5] at e4; exact e4) et
          · rename_i eo
            refine h1 Γ (A2.take A1.length) t1 (.im vb) σ H2 _ _ R2 n3 (by rw [d1]; exact eo) fun t H' R' et => ?_
            rw [er_im et]
            refine ⟨false, rfl, ?_⟩
            rw [if_neg Bool.false_ne_true]
            rw [er_im et] at R'
            exact h _ (.im (.bl false)) H' R' (x12.mono fun r hr => by
              rw [List.mem_append] at hr ⊢
              exact hr.elim .inl fun z => .inr (List.mem_append_left _ z)) e2' rfl
          · exact h.elim
        · exact h.elim
    · rw [if_neg hcl] at h; exact h.elim
end
end Lin
end
section
namespace Lin
open PySem L2
section
variable {g : Gc} {n : Nat} {W : WX} {Γ : Gh} {A A' A'' B C : List (Option T)} {σ : L2.St} {H H' : Hp} {t : T} {M M1 M2 M3 : List Nat}
/-- temps without own marks, parts of the temps that stood -/
theorem Rel.view (Rr : Rel g Γ n (A ++ B) σ H) (hn : n ≤ A.length) (h : ∀ i c, CellAt g C i c → c.1 ≠ .own ∧ ∃ j, CellAt g B j c) : Rel g Γ n (A ++ C) σ H := by
  have inA : ∀ {i c}, CellAt g A i c → CellAt g (A ++ B) i c := fun x => cellAt_left x
  have inB : ∀ {i c}, CellAt g B i c → CellAt g (A ++ B) (A.length + i) c := fun x => cellAt_append.mpr (.inr ⟨by omega, by rw [Nat.add_sub_cancel_left]; exact x⟩)
  have src : ∀ {i c}, CellAt g (A ++ C) i c → ∃ j, CellAt g (A ++ B) j c ∧ ((j = i ∧ i < A.length) ∨ (A.length ≤ i ∧ A.length ≤ j ∧ c.1 ≠ .own)) := fun {i c} x => by
    rcases cellAt_append.mp x with x | ⟨hi, x⟩
    · exact ⟨i, inA x, .inl ⟨rfl, x.lt⟩⟩
    · obtain ⟨no, j, y⟩ := h _ c x
      exact ⟨_, inB y, .inr ⟨hi, by omega, no⟩⟩
  refine ⟨by simp; omega, Rr.slen, ?_, ?_, ?_, ?_, ?_, Rr.frame, ?_, ?_, Rr.pin⟩
  · intro j w hj q
    rw [List.getElem?_append_left (by omega)] at q
    exact Rr.val j w hj (by rw [List.getElem?_append_left (by omega)]; exact q)
  · intro i c x
    obtain ⟨j, y, _⟩ := src x
    exact Rr.hold j c y
  · intro i c r x k
    obtain ⟨j, y, _⟩ := src x
    exact Rr.lab j c r y k
  · intro i w q
    by_cases hi : i < A.length
    · rw [List.getElem?_append_left hi] at q
      exact Rr.nd i w (by rw [List.getElem?_append_left hi]; exact q)
    · rw [List.getElem?_append_right (by omega)] at q
      rw [owns_none fun c hc => (h _ c ⟨w, q, hc⟩).1]; exact List.nodup_nil
  · intro i l c d x y hown hadr
    obtain ⟨j1, y1, z1⟩ := src x
    obtain ⟨j2, y2, z2⟩ := src y
    rcases z1 with ⟨rfl, hi⟩ | ⟨_, _, no⟩
    · rcases Rr.sep _ _ c d y1 y2 hown hadr with ⟨q1, q2⟩ | ⟨q1, q2⟩
      · rcases z2 with ⟨rfl, _⟩ | ⟨_, _, no⟩
        · exact .inl ⟨q1, q2⟩
        · exact absurd q2 no
      · rcases z2 with ⟨rfl, _⟩ | ⟨a1, _, _⟩
        · exact .inr ⟨q1, q2⟩
        · exact .inr ⟨by omega, q2⟩
    · exact absurd hown no
  · intro i c x
    obtain ⟨j, y, _⟩ := src x
    exact Rr.gown j c y
  · intro i c x k
    obtain ⟨j, y, _⟩ := src x
    exact Rr.gfrz j c y k
theorem kFz_own (k : Kd) : kFz k ≠ .own := by unfold kFz; split <;> simp_all
/-- a node's children, frozen -/
theorem Rel.spread {a : Addr} {k : Kd} {s : Sh} {dx : Addr} {ts : List T} (Rr : Rel g Γ n (A ++ [some (.nd a k s dx ts)]) σ H) (hn : n ≤ A.length) : Rel g Γ n (A ++ (ts.map (T.mk kFz)).map some) σ H := by
  refine (Rr.freeze hn).view hn fun i c ⟨u, e, hc⟩ => ?_
  rw [List.getElem?_map, List.getElem?_map] at e
  cases q : ts[i]? with
  | none => rw [q] at e; cases e
  | some w =>
    rw [q] at e
    have : w.mk kFz = u := by simpa using e
    subst this
    have m : c ∈ cellsL g (ts.map (T.mk kFz)) := by rw [cellsL_eq]; exact List.mem_flatMap.mpr ⟨_, List.mem_map.mpr ⟨w, List.mem_of_getElem? q, rfl⟩, hc⟩
    refine ⟨?_, 0, _, rfl, ?_⟩
    · rw [cells_mk] at hc
      obtain ⟨d, _, rfl⟩ := List.mem_map.mp hc
      exact kFz_own _
    · rw [T.mk, T.cells, mkL_eq]; exact List.mem_cons_of_mem _ m
theorem kFz_ers (ts : List T) : (ts.map (T.mk kFz)).map T.er = (ts.map T.er).map (D.mk kFz) := by simp [er_mk, Function.comp_def]
theorem kFz_roots (ts : List T) : (ts.map (T.mk kFz)).map T.root = ts.map T.root := by simp [root_mk, Function.comp_def]
/-! ### *xs -/
def seqD (d : D) : Option (List D) := match d with
  | .nd _ .lst ds => some ds
  | .nd _ .tup ds => some ds
  | _ => none
def cStar (M2 : List Nat) (fa : Sg → R D) (fr : Sg → R (List D)) : Sg → R (List D) := fun S => (fa S).bind fun da S1 => match seqD da with
  | some ds => if (ds.map (D.mk kFz)).all (cleanD M2) = true then (fr S1).bind fun ds2 S2 => .ok (ds.map (D.mk kFz) ++ ds2) S2 else .bad
  | none => .bad
theorem Clean.snocs (c : Clean g n M A) {us : List T} (h : (us.map T.er).all (cleanD M) = true) : Clean g n M (A ++ us.map some) := fun r hr i cl hi x => by
  rcases cellAt_append.mp x with x | ⟨_, x⟩
  · exact c r hr i cl hi x
  · obtain ⟨t, e, hc⟩ := x
    rw [List.getElem?_map] at e
    cases q : us[i - A.length]? with
    | none => rw [q] at e; cases e
    | some w =>
      rw [q] at e
      have : w = t := by simpa using e
      subst this
      rw [List.all_eq_true] at h
      exact cleanD_iff.mp (h w.er (List.mem_map.mpr ⟨w, List.mem_of_getElem? q, rfl⟩)) r hr cl hc
theorem mean_star {K : PySem.W.Frag} {ta : TE} {tr : TA} {fa : Sg → R D} {fr : Sg → R (List D)} (ha : MeanE g n W M1 ta fa) (hr : MeanA g n W M2 tr fr) : MeanA g n W (M1 ++ M2) (StX.tStar K ta tr) (cStar M2 fa fr) := by
  intro Γ A σ H Q Rr cl h
  refine ha Γ A σ H _ Rr cl.left ?_
  unfold cStar at h
  cases ea : fa (ers n A) with
  | bad => rw [ea] at h; exact h.elim
  | exc c d S => rw [ea] at h; exact h
  | ok da S1 =>
    rw [ea] at h
    dsimp only [Lin.R.bind] at h
    intro A1 t1 H1 R1 x1 e1 d1
    have n1 : n ≤ A1.length := by rw [x1.len]; exact Rr.len
    cases es : seqD da with
    | none => rw [es] at h; exact h.elim
    | some ds =>
      rw [es] at h
      dsimp only at h
      have : ∃ a k s dx ts, t1 = .nd a k s dx ts ∧ ts.map T.er = ds ∧ (SqT K H1 a (ts.map T.root) ∨ SqL K H1 a (ts.map T.root)) := by
        unfold seqD at es
        split at es
        · rename_i k xs
          obtain ⟨a, dx, ts, rfl, h1⟩ := er_nd d1
          cases es
          exact ⟨a, k, _, dx, ts, rfl, h1, .inr (SqL.of R1.top1)⟩
        · rename_i k xs
          obtain ⟨a, dx, ts, rfl, h1⟩ := er_nd d1
          cases es
          exact ⟨a, k, _, dx, ts, rfl, h1, .inl (SqT.of R1.top1)⟩
        · cases es
      obtain ⟨a, k, s, dx, ts, rfl, hts, hsq⟩ := this
      refine ⟨a, _, rfl, hsq, ?_⟩
      by_cases hcl : (ds.map (D.mk kFz)).all (cleanD M2) = true
      · rw [if_pos hcl] at h
        have R2 := R1.spread n1
        have hz : (ts.map (T.mk kFz)).map T.er = ds.map (D.mk kFz) := by rw [kFz_ers, hts]
        refine hr Γ _ σ H1 _ R2 ((cl.right.next x1.toNext Rr.len).snocs (by rw [hz]; exact hcl)) ?_
        rw [ers_append n1, e1]
        cases eb : fr S1 with
        | bad => rw [eb] at h; exact h.elim
        | exc c d S =>
          rw [eb] at h
          intro A2 t2 H2 R3 x2 e2 d2
          obtain ⟨y, z⟩ := x2.left n1
          have n3 : n ≤ (A2.take A1.length).length := by rw [y.len]; exact n1
          refine h (A2.take A1.length) t2 H2 ?_ (x1.toNext.trans y) ?_ d2
          · rw [z, List.append_assoc] at R3
            refine R3.subst (t := t2) n3 (fun _ _ q => q) (fun c hc => .inr ⟨(ts.map (T.mk kFz)).length, ⟨t2, by simp, hc⟩⟩) ⟨[], by simp, by simp, ?_⟩
            simp [ownsO, List.flatMap_append]
          · rw [z, ers_append n3] at e2; exact e2
        | ok ds2 S2 =>
          rw [eb] at h
          dsimp only [Lin.R.bind] at h
          intro A2 ts2 H2 R3 x2 e2 d2
          obtain ⟨y, z⟩ := x2.left n1
          have n3 : n ≤ (A2.take A1.length).length := by rw [y.len]; exact n1
          rw [z, List.append_assoc, ← List.map_append] at R3
          have := h (A2.take A1.length) (ts.map (T.mk kFz) ++ ts2) H2 R3 (x1.trans y) (by rw [z, ers_append n3] at e2; exact e2) (by rw [List.map_append, hz, d2])
          rw [List.map_append, kFz_roots] at this
          exact this
      · rw [if_neg hcl] at h; exact h.elim
/-! ### a, b = .. -/
def MeanGs (g : Gc) (n : Nat) (xs : List Nat) (tg : TGs) (f : List D → Sg → Option Sg) : Prop := ∀ Γ A (ts : List T) σ H Q S', Rel g Γ n (A ++ ts.map some) σ H → (∀ c ∈ cellsL g ts, c.1 ≠ .own) → n ≤ A.length → f (ts.map T.er) (ers n A) = some S' →
  (∀ A' σ' H', Rel g Γ n A' σ' H' → NextM n xs A A' → ers n A' = S' → (∀ j : Nat, j ∉ xs → σ'[j]? = σ[j]?) → Q σ' H') → tg (ts.map T.root) σ H Q
def gsNil : List D → Sg → Option Sg := fun ds S => if ds.isEmpty = true then some S else none
def gsCons (f : D → Sg → Option Sg) (h : List D → Sg → Option Sg) : List D → Sg → Option Sg
  | d :: r, S => (f d S).bind fun S1 => h r S1
  | [], _ => none
theorem meangs_nil : MeanGs g n [] gNil gsNil := by
  intro Γ A ts σ H Q S' Rr _ hn e h
  unfold gsNil at e
  split at e
  · rename_i he
    cases e
    have : ts = [] := by simpa using he
    subst this
    exact ⟨rfl, h A σ H (by simpa using Rr) (.refl _ _) rfl fun _ _ => rfl⟩
  · cases e
theorem meangs_cons {xs ys : List Nat} {t1 : TG} {t2 : TGs} {f : D → Sg → Option Sg} {f2 : List D → Sg → Option Sg} (h1 : MeanG g n xs t1 f) (h2 : MeanGs g n ys t2 f2) : MeanGs g n (xs ++ ys) (gCons t1 t2) (gsCons f f2) := by
  intro Γ A ts σ H Q S' Rr no hn e h
  cases ts with
  | nil => cases e
  | cons u us =>
    simp only [List.map_cons, gsCons] at e
    cases e1 : f u.er (ers n A) with
    | none => rw [e1] at e; cases e
    | some S1 =>
      rw [e1, Option.bind_some] at e
      refine ⟨u.root, us.map T.root, rfl, ?_⟩
      have no1 : ∀ c ∈ u.cells g, c.1 ≠ .own := fun c hc => no c (by rw [cellsL]; exact List.mem_append_left _ hc)
      have no2 : ∀ c ∈ cellsL g us, c.1 ≠ .own := fun c hc => no c (by rw [cellsL]; exact List.mem_append_right _ hc)
      have R2 : Rel g Γ n ((A ++ us.map some) ++ [some u]) σ H := by
        rw [List.append_assoc]
        refine Rr.view hn fun i c x => ?_
        rcases cellAt_append.mp x with x | ⟨_, x⟩
        · have m := cellAt_map.mp ⟨i, x⟩
          obtain ⟨j, y⟩ := cellAt_map.mpr (show c ∈ cellsL g (u :: us) by rw [cellsL]; exact List.mem_append_right _ m)
          exact ⟨no2 c m, j, y⟩
        · have m : c ∈ u.cells g := by
            obtain ⟨w, ew, hc⟩ := x
            have : w = u := by
              cases hq : i - (us.map some).length with
              | zero => rw [hq] at ew; simpa using ew.symm
              | succ k => rw [hq] at ew; simp at ew
            rw [this] at hc; exact hc
          exact ⟨no1 c m, 0, u, rfl, m⟩
      refine h1 Γ (A ++ us.map some) u σ H _ S1 R2 (by simp; omega) (by rw [ers_append hn]; exact e1) fun A1 σ1 H1 R3 x3 e3 k3 => ?_
      obtain ⟨y, z⟩ := x3.left hn
      have n3 : n ≤ (A1.take A.length).length := by rw [y.len]; exact hn
      rw [z] at R3
      refine h2 Γ _ us σ1 H1 Q S' R3 no2 n3 (by rw [z, ers_append n3] at e3; rw [e3]; exact e) fun A2 σ2 H2 R4 x4 e4 k4 => ?_
      exact h A2 σ2 H2 R4 (y.trans x4) e4 fun j hj => by
        rw [List.mem_append, not_or] at hj
        rw [k4 j hj.2, k3 j hj.1]
def gTupF (m : Nat) (f : List D → Sg → Option Sg) : D → Sg → Option Sg := fun d S => match d with
  | .nd _ .tup ds => if ds.length = m then f (ds.map (D.mk kFz)) S else none
  | _ => none
theorem meang_tup {K : PySem.W.Frag} {m : Nat} {xs : List Nat} {tg : TGs} {f : List D → Sg → Option Sg} (h : MeanGs g n xs tg f) : MeanG g n xs (gTup K m tg) (gTupF m f) := by
  intro Γ A t σ H Q S' Rr hn e hq
  unfold gTupF at e
  split at e
  · rename_i k ds ed
    split at e
    · rename_i hl
      obtain ⟨a, dx, ts, rfl, h1⟩ := er_nd ed
      refine ⟨a, _, rfl, SqT.of Rr.top1, by rw [List.length_map, ← hl, ← h1]; simp, ?_⟩
      rw [← kFz_roots]
      refine h Γ A _ σ H Q S' (Rr.spread hn) (fun c hc => ?_) hn (by rw [kFz_ers, h1]; exact e) hq
      rw [← mkL_eq, cellsL_mk] at hc
      obtain ⟨d, _, rfl⟩ := List.mem_map.mp hc
      exact kFz_own _
    · cases e
  · cases e
/-! ### {k: v, ..} -/
def taPairs (trs : List (TE × TE)) : TA := fun σ H Q => tPairs trs σ H fun ps H' => Q (ps.flatMap fun p => [p.1, p.2]) H'
theorem meana_pnil : MeanA g n W [] (taPairs []) cNil := mean_nil
theorem meana_pcons {tk tv : TE} {trs : List (TE × TE)} {fk fv : Sg → R D} {fr : Sg → R (List D)} (hk : MeanE g n W M1 tk fk) (hv : MeanE g n W M2 tv fv) (hr : MeanA g n W M3 (taPairs trs) fr) :
    MeanA g n W (M1 ++ (M2 ++ M3)) (taPairs ((tk, tv) :: trs)) (cCons (M2 ++ M3) fk (cCons M3 fv fr)) := mean_cons hk (mean_cons hv hr)
def pairsK : List D → Option (List Key × List D)
  | [] => some ([], [])
  | [_] => none
  | k :: v :: r => match keyOf k, pairsK r with
    | some k, some (ks, vs) => some (k :: ks, v :: vs)
    | _, _ => none
theorem pairsK_of : ∀ (ts : List T) (ks : List Key) (vs : List D) (ps : List (V × V)), pairsK (ts.map T.er) = some (ks, vs) → (ps.flatMap fun p => [p.1, p.2]) = ts.map T.root →
    ∃ us : List T, us.map T.er = vs ∧ ks.length = us.length ∧ ps = (ks.zip (us.map T.root)).map (fun kv => (kV kv.1, kv.2)) ∧ cellsL g us = cellsL g ts
  | [], ks, vs, ps, h, e => by
    simp [pairsK] at h
    obtain ⟨rfl, rfl⟩ := h
    cases ps with
    | nil => exact ⟨[], rfl, rfl, rfl, rfl⟩
    | cons p r => simp at e
  | [t], ks, vs, ps, h, e => by simp [pairsK] at h
  | t :: u :: r, ks, vs, ps, h, e => by
    simp only [List.map_cons, pairsK] at h
    cases e1 : keyOf t.er with
    | none => rw [e1] at h; cases h
    | some k =>
      cases e2 : pairsK (r.map T.er) with
      | none => rw [e1, e2] at h; cases h
      | some p =>
        obtain ⟨ks', vs'⟩ := p
        rw [e1, e2] at h
        cases h
        cases ps with
        | nil => simp at e
        | cons p ps =>
          simp only [List.flatMap_cons, List.map_cons, List.cons_append, List.nil_append, List.cons.injEq] at e
          obtain ⟨us, h1, h2, h3, h4⟩ := pairsK_of r ks' vs' ps e2 e.2.2
          refine ⟨u :: us, by rw [List.map_cons, h1], by simp [h2], ?_, ?_⟩
          · rw [List.map_cons, List.zip_cons_cons, List.map_cons, ← h3]
            congr 1
            rw [← e.2.1]
            have := e.1
            rw [keyOf_root e1] at this
            show p = (kV k, p.2)
            rw [← show p.1 = kV k from this]
          · rw [keyOf_root e1]
            simp only [cellsL, T.cells, List.nil_append, h4]
def cDisp (fr : Sg → R (List D)) : Sg → R D := fun S => (fr S).bind fun ds S1 => match pairsK ds with
  | some (ks, vs) => if ks.Nodup ∧ ks.length ≤ 15 then .ok (.nd .own (.dic ks) vs) S1 else .bad
  | none => .bad
theorem merge_nodup (kvs : List (Key × V)) : ∀ acc : List (Key × V), (acc ++ kvs).map (·.1) |>.Nodup → mergeK acc kvs = acc ++ kvs := by
  induction kvs with
  | nil => intro acc _; simp [mergeK]
  | cons p r ih =>
    intro acc h
    have e : putK acc p.1 p.2 = acc ++ [p] := by
      unfold putK
      rw [if_neg]
      rw [Bool.not_eq_true, List.any_eq_false]
      intro x hx
      simp only [decide_eq_true_eq]
      intro q
      rw [List.map_append, List.map_cons, List.nodup_append] at h
      exact h.2.2 x.1 (List.mem_map.mpr ⟨x, hx, rfl⟩) p.1 (by simp) q
    show mergeK (putK acc p.1 p.2) r = _
    rw [e, ih (acc ++ [p]) (by simpa using h)]
    simp
def unfl : List V → List (V × V)
  | a :: b :: r => (a, b) :: unfl r
  | _ => []
theorem unfl_flat (ps : List (V × V)) : unfl (ps.flatMap fun p => [p.1, p.2]) = ps := by
  induction ps with
  | nil => rfl
  | cons p r ih => simp [unfl, ih]
theorem flat_unfl : ∀ (ts : List T) (ks : List Key) (vs : List D), pairsK (ts.map T.er) = some (ks, vs) → ((unfl (ts.map T.root)).flatMap fun p => [p.1, p.2]) = ts.map T.root
  | [], _, _, _ => rfl
  | [t], ks, vs, h => by simp [pairsK] at h
  | t :: u :: r, ks, vs, h => by
    simp only [List.map_cons, pairsK] at h
    cases e1 : keyOf t.er with
    | none => rw [e1] at h; cases h
    | some k =>
      cases e2 : pairsK (r.map T.er) with
      | none => rw [e1, e2] at h; cases h
      | some p => simp [unfl, flat_unfl r p.1 p.2 e2]
theorem mean_disp {trs : List (TE × TE)} {fr : Sg → R (List D)} (hr : MeanA g n W M1 (taPairs trs) fr) : MeanE g n W M1 (tDisp trs) (cDisp fr) := by
  intro Γ A σ H Q Rr cl h p hp
  have R0 : Rel g Γ n (A ++ [some (.nd p .own (.dic []) 0 [])]) σ (upd H p (.dK [])) :=
    (show Rel g Γ n (A ++ []) σ H by rw [List.append_nil]; exact Rr).node (ts := []) Rr.len hp (.dic []) 0 (fun c hc => nomatch hc) (List.nil_sublist _)
  have cl0 : Clean g n M1 (A ++ [some (.nd p .own (.dic []) 0 [])]) := cl.snoc (by unfold cleanD; rw [List.all_eq_true]; intro r _; simp [T.er, erL, hasBor, D.kinds, kindsL])
  have key := hr Γ _ σ _ (fun vs H2 => H2 p = some (.dK []) ∧ ∃ kvs : List (Key × V), unfl vs = kvs.map (fun kv => (kV kv.1, kv.2)) ∧ kvs.length ≤ 15 ∧ Q (.ref p) (upd H2 p (.dK (mergeK [] kvs)))) R0 cl0 (by
    rw [ers_append Rr.len]
    unfold cDisp at h
    cases ea : fr (ers n A) with
    | bad => rw [ea] at h; exact h.elim
    | exc c d S =>
      rw [ea] at h
      intro A2 t2 H2 R2 x2 e2 d2
      obtain ⟨y, z⟩ := x2.left Rr.len
      have n3 : n ≤ (A2.take A.length).length := by rw [y.len]; exact Rr.len
      rw [z] at R2 e2
      exact h _ t2 H2 (R2.mid n3) y (by rw [ers_append n3] at e2; exact e2) d2
    | ok ds S1 =>
      rw [ea] at h
      dsimp only [Lin.R.bind] at h
      intro A2 ts H2 R2 x2 e2 d2
      obtain ⟨y, z⟩ := x2.left Rr.len
      have n3 : n ≤ (A2.take A.length).length := by rw [y.len]; exact Rr.len
      rw [z] at R2 e2
      rw [ers_append n3] at e2
      split at h
      · rename_i ks vs ek
        split at h
        · rename_i hh
          obtain ⟨us, u1, u2, u3, u4⟩ := pairsK_of (g := g) ts ks vs _ (by rw [d2]; exact ek) (flat_unfl ts ks vs (by rw [d2]; exact ek))
          have hold : H2 p = some (.dK []) := R2.hold (A2.take A.length).length (.own, p, .dK []) ⟨.nd p .own (.dic []) 0 [], by
            rw [List.append_assoc, List.getElem?_append_right (Nat.le_refl _), Nat.sub_self]; rfl, by rw [T.cells]; exact List.mem_cons_self⟩
          refine ⟨hold, ks.zip (us.map T.root), u3, by rw [List.length_zip, List.length_map]; omega, ?_⟩
          rw [merge_nodup _ [] (by rw [List.nil_append, zip_fst _ _ (by rw [List.length_map]; exact u2)]; exact hh.1), List.nil_append]
          have hb : ∀ i c, CellAt g (A2.take A.length ++ [some (T.nd p .own (.dic []) 0 [])] ++ ts.map some) i c → c.1 ≠ .bor (A2.take A.length).length := fun i c x q => by have := R2.lab i c _ x q; omega
          have e : (A2.take A.length ++ [some (T.nd p .own (.dic []) 0 [])])[(A2.take A.length).length]? = some (some (.nd p .own (.dic []) 0 [])) := by
            rw [List.getElem?_append_right (Nat.le_refl _), Nat.sub_self]; rfl
          have := R2.mutAt (r := (A2.take A.length).length) (p := []) (s' := .dic ks) (ts' := us) (res := .im .non) (dropped := []) (by rw [List.length_append]; omega) e hb rfl (by
            simp [cellsL, T.cells, u4])
          have R3 := this.drop (A := (A2.take A.length ++ [some (T.nd p .own (.dic []) 0 [])]).set (A2.take A.length).length (some ((T.nd p .own (.dic []) 0 []).put [] (.nd p .own (.dic ks) 0 us)))) (by simp only [List.length_set, List.length_append]; omega)
          rw [List.set_append_right _ _ (Nat.le_refl _), Nat.sub_self] at R3
          exact h _ (.nd p .own (.dic ks) 0 us) _ R3 y e2 (by rw [T.er, erL_eq, u1])
        · exact h.elim
      · exact h.elim)
  unfold taPairs at key
  simp only [unfl_flat] at key
  exact key
end
end Lin
end
section
namespace Lin
open PySem L2
/-! ### the text's rules, with their meanings -/
structure CxE (X : Cx) (W : WX) : Prop where
  calm : X.calm = true
  takes : Takes X W
  nd : X.N.Nodup
  room : Room 0 X.A
structure CxS (X : Cx) (W : WX) : Prop extends CxE X W where
  pass : PassesOwn (model X.prog X.w) X.A X.env X.xe
section
variable (g : Gc) (n : Nat) (W : WX) (M : List Nat)
/-- the reading that a meaning has -/
def tE (f : Sg → R D) : TE := fun σ H Q => ∃ Γ A, Rel g Γ n A σ H ∧ Clean g n M A ∧ PostE g n W M Γ A σ Q (f (ers n A))
def tT (f : Sg → R Bool) : TT := fun σ H Q => ∃ Γ A, Rel g Γ n A σ H ∧ Clean g n M A ∧ PostT g n W M Γ A σ Q (f (ers n A))
def tA (f : Sg → R (List D)) : TA := fun σ H Q => ∃ Γ A, Rel g Γ n A σ H ∧ Clean g n M A ∧ PostA g n W M Γ A σ Q (f (ers n A))
def tCA (rs : List (Option Nat)) (f : Sg → R (List D)) : TA := fun σ H Q => ∃ Γ A, Rel g Γ n A σ H ∧ Clean g n M A ∧ PostC g n W rs M Γ A σ Q (f (ers n A))
def tI (f : Sg → R (D × List D)) : TI := fun σ H Q => ∃ Γ A, Rel g Γ n A σ H ∧ Clean g n M A ∧ PostI g n W M Γ A σ Q (f (ers n A))
def tP (r : Nat) (f : Sg → R (List Nat)) : TE := fun σ H Q => ∃ Γ A, Rel g Γ n A σ H ∧ Clean g n M A ∧ PostP g n W r M Γ A σ Q (f (ers n A))
def tS (f : Sg → R Fl) : TS := fun Dn σ H => ∃ Γ A, Rel g Γ n A σ H ∧ Clean g n M A ∧ PostS g n W M Γ A σ Dn (f (ers n A))
def tG (xs : List Nat) (f : D → Sg → Option Sg) : TG := fun v σ H Q => ∃ Γ A t S', v = t.root ∧ Rel g Γ n (A ++ [some t]) σ H ∧ n ≤ A.length ∧ f t.er (ers n A) = some S' ∧
  (∀ A' σ' H', Rel g Γ n A' σ' H' → NextM n xs A A' → ers n A' = S' → (∀ j : Nat, j ∉ xs → σ'[j]? = σ[j]?) → Q σ' H')
def tGs (xs : List Nat) (f : List D → Sg → Option Sg) : TGs := fun vs σ H Q => ∃ Γ A, ∃ ts : List T, ∃ S', vs = ts.map T.root ∧ Rel g Γ n (A ++ ts.map some) σ H ∧ (∀ c ∈ cellsL g ts, c.1 ≠ .own) ∧ n ≤ A.length ∧ f (ts.map T.er) (ers n A) = some S' ∧
  (∀ A' σ' H', Rel g Γ n A' σ' H' → NextM n xs A A' → ers n A' = S' → (∀ j : Nat, j ∉ xs → σ'[j]? = σ[j]?) → Q σ' H')
end
section
theorem mn_E {g : Gc} {n : Nat} {W : WX} {M : List Nat} {f : Sg → R D} : MeanE g n W M (tE g n W M f) f := fun Γ A σ H Q r c p => ⟨Γ, A, r, c, p⟩
theorem mn_T {g : Gc} {n : Nat} {W : WX} {M : List Nat} {f : Sg → R Bool} : MeanT g n W M (tT g n W M f) f := fun Γ A σ H Q r c p => ⟨Γ, A, r, c, p⟩
theorem mn_A {g : Gc} {n : Nat} {W : WX} {M : List Nat} {f : Sg → R (List D)} : MeanA g n W M (tA g n W M f) f := fun Γ A σ H Q r c p => ⟨Γ, A, r, c, p⟩
theorem mn_C {g : Gc} {n : Nat} {W : WX} {M : List Nat} {rs : List (Option Nat)} {f : Sg → R (List D)} : MeanC g n W rs M (tCA g n W M rs f) f := fun Γ A σ H Q r c p => ⟨Γ, A, r, c, p⟩
theorem mn_I {g : Gc} {n : Nat} {W : WX} {M : List Nat} {f : Sg → R (D × List D)} : MeanI g n W M (tI g n W M f) f := fun Γ A σ H Q r c p => ⟨Γ, A, r, c, p⟩
theorem mn_P {g : Gc} {n : Nat} {W : WX} {M : List Nat} {r : Nat} {f : Sg → R (List Nat)} : MeanP g n W r M (tP g n W M r f) f := fun Γ A σ H Q r c p => ⟨Γ, A, r, c, p⟩
theorem mn_S {g : Gc} {n : Nat} {W : WX} {M : List Nat} {f : Sg → R Fl} : MeanS g n W M (tS g n W M f) f := fun Γ A σ H Q r c p => ⟨Γ, A, r, c, p⟩
theorem mn_G {g : Gc} {n : Nat} {xs : List Nat} {f : D → Sg → Option Sg} : MeanG g n xs (tG g n xs f) f := fun Γ A t σ H Q S' r hn e q => ⟨Γ, A, t, S', rfl, r, hn, e, q⟩
theorem mn_Gs {g : Gc} {n : Nat} {xs : List Nat} {f : List D → Sg → Option Sg} : MeanGs g n xs (tGs g n xs f) f := fun Γ A ts σ H Q S' r no hn e q => ⟨Γ, A, ts, S', rfl, r, no, hn, e, q⟩
end
section
variable (X : Cx) (g : Gc) (W : WX) (M : List Nat)
def QE (e : Expr) (f : Sg → R D) : Prop := PE X e (tE g X.N.length W M f)
def QT (e : Expr) (f : Sg → R Bool) : Prop := PT X e (tT g X.N.length W M f)
def QW (e : Expr) (f : Sg → R Bool) : Prop := PW X e (tT g X.N.length W M f)
def QTs (es : List Expr) (f : Sg → R Bool) : Prop := PTs X es (tT g X.N.length W M f)
def QA (es : List Expr) (f : Sg → R (List D)) : Prop := PA X es (tA g X.N.length W M f)
def QC (rs : List (Option Nat)) (es : List Expr) (f : Sg → R (List D)) : Prop := PA X es (tCA g X.N.length W M rs f)
def QI (tg e : Expr) (f : Sg → R (D × List D)) : Prop := PI X tg e (tI g X.N.length W M f)
def QP (r : Nat) (e : Expr) (f : Sg → R (List Nat)) : Prop := PE X e (tP g X.N.length W M r f)
def QS (s : Stmt) (f : Sg → R Fl) : Prop := PS X s (tS g X.N.length W M f)
def QSs (s : List Stmt) (f : Sg → R Fl) : Prop := PSs X s (tS g X.N.length W M f)
def QG (xs : List Nat) (tg : Expr) (f : D → Sg → Option Sg) : Prop := PG X tg (tG g X.N.length xs f)
def QGs (xs : List Nat) (tg : List Expr) (f : List D → Sg → Option Sg) : Prop := PGs X tg (tGs g X.N.length xs f)
end
section
variable {X : Cx} {g : Gc} {W : WX} {M : List Nat}
theorem qE {e : Expr} {te : TE} {f : Sg → R D} (h : PE X e te) (m : MeanE g X.N.length W M te f) : QE X g W M e f := ⟨fun pins s σ H Q I ⟨Γ, A, r, c, p⟩ => h.run pins s σ H Q I (m Γ A σ H Q r c p)⟩
theorem qT {e : Expr} {te : TT} {f : Sg → R Bool} (h : PT X e te) (m : MeanT g X.N.length W M te f) : QT X g W M e f := ⟨fun pins s σ H Q I ⟨Γ, A, r, c, p⟩ => h.run pins s σ H Q I (m Γ A σ H Q r c p)⟩
theorem qW {e : Expr} {te : TT} {f : Sg → R Bool} (h : PW X e te) (m : MeanT g X.N.length W M te f) : QW X g W M e f := ⟨fun wh pins s σ H Q I ⟨Γ, A, r, c, p⟩ => h.run wh pins s σ H Q I (m Γ A σ H Q r c p)⟩
theorem qTs {e : List Expr} {te : TT} {f : Sg → R Bool} (h : PTs X e te) (m : MeanT g X.N.length W M te f) : QTs X g W M e f := ⟨fun pins s σ H Q I ⟨Γ, A, r, c, p⟩ => h.run pins s σ H Q I (m Γ A σ H Q r c p)⟩
theorem qA {e : List Expr} {te : TA} {f : Sg → R (List D)} (h : PA X e te) (m : MeanA g X.N.length W M te f) : QA X g W M e f := ⟨fun pos pins s σ H Q I ⟨Γ, A, r, c, p⟩ => h.run pos pins s σ H Q I (m Γ A σ H Q r c p)⟩
theorem qC {rs : List (Option Nat)} {e : List Expr} {te : TA} {f : Sg → R (List D)} (h : PA X e te) (m : MeanC g X.N.length W rs M te f) : QC X g W M rs e f := ⟨fun pos pins s σ H Q I ⟨Γ, A, r, c, p⟩ => h.run pos pins s σ H Q I (m Γ A σ H Q r c p)⟩
theorem qI {tg e : Expr} {te : TI} {f : Sg → R (D × List D)} (h : PI X tg e te) (m : MeanI g X.N.length W M te f) : QI X g W M tg e f := ⟨fun pins s σ H Q I ⟨Γ, A, r, c, p⟩ => h.run pins s σ H Q I (m Γ A σ H Q r c p)⟩
theorem qP {r : Nat} {e : Expr} {te : TE} {f : Sg → R (List Nat)} (h : PE X e te) (m : MeanP g X.N.length W r M te f) : QP X g W M r e f := ⟨fun pins s σ H Q I ⟨Γ, A, r, c, p⟩ => h.run pins s σ H Q I (m Γ A σ H Q r c p)⟩
theorem qS {e : Stmt} {te : TS} {f : Sg → R Fl} (h : PS X e te) (m : MeanS g X.N.length W M te f) : QS X g W M e f := ⟨fun pins s σ H Q I ⟨Γ, A, r, c, p⟩ => h.run pins s σ H Q I (m Γ A σ H Q r c p)⟩
theorem qSs {e : List Stmt} {te : TS} {f : Sg → R Fl} (h : PSs X e te) (m : MeanS g X.N.length W M te f) : QSs X g W M e f := ⟨fun pins s σ H Q I ⟨Γ, A, r, c, p⟩ => h.run pins s σ H Q I (m Γ A σ H Q r c p)⟩
theorem qG {xs : List Nat} {e : Expr} {te : TG} {f : D → Sg → Option Sg} (h : PG X e te) (m : MeanG g X.N.length xs te f) : QG X g xs e f := ⟨fun pins s σ H v u Q I rv ⟨Γ, A, t, S', e1, r, hn, ef, q⟩ => h.run pins s σ H v u Q I rv (by rw [e1]; exact m Γ A t σ H Q S' r hn ef q)⟩
theorem qGs {xs : List Nat} {e : List Expr} {te : TGs} {f : List D → Sg → Option Sg} (h : PGs X e te) (m : MeanGs g X.N.length xs te f) : QGs X g xs e f := ⟨fun pins s σ H v u Q I rv ⟨Γ, A, ts, S', e1, r, no, hn, ef, q⟩ => h.run pins s σ H v u Q I rv (by rw [e1]; exact m Γ A ts σ H Q S' r no hn ef q)⟩
end
theorem CxE.un {X : Cx} {W : WX} (c : CxE X W) : X.A.units + 199 < cLine := by have := c.room.un; omega
theorem CxE.blk {X : Cx} {W : WX} (c : CxE X W) (s : Shared) (H : Hp) (scope : Scope) (env : Env) (fp : List Addr) : CxE (X.blk s H scope env fp) (fun _ _ _ _ => False) :=
  ⟨c.calm, fun u s' ⟨a, B, sI, pins, σ, H, cls, d, e, I, nb, up, sky, na, os, ag, w⟩ => w.elim, c.nd, c.room⟩
theorem CxE.at {X : Cx} {W : WX} (c : CxE X W) (σ : L2.St) : PassesAt (L2.CX X.prog X.w) X σ (WE W σ) :=
  fun pins H s e s' I cx => c.takes e s' (XE.of_call I (fun cls d H' h => h) cx)
def cYes : Sg → R Bool := fun S => .ok true S
theorem mean_yes {g : Gc} {n : Nat} {W : WX} : MeanT g n W [] tYes cYes := fun Γ A σ H Q r c p => p A H r (.refl _ _) rfl
def oAdd (a b : D) : Option D := (dI2 (fun i j => some (.int (i + j))) a b).or (dCat a b)
def oSub : D → D → Option D := dI2 fun i j => some (.int (i - j))
def fMul (i j : Int) : Option V := if (-(2 ^ 64) < i ∧ i < 2 ^ 64) ∨ (-(2 ^ 64) < j ∧ j < 2 ^ 64) then some (.int (i * j)) else none
def oMul : D → D → Option D := dI2 fMul
def fDiv (i j : Int) : Option V := if 0 < j ∧ j < 1000000000000000000000000000000 then some (.int (i / j)) else none
def oDiv : D → D → Option D := dI2 fDiv
def fMod (i j : Int) : Option V := if 0 < j then some (.int (i % j)) else none
def oMod : D → D → Option D := dI2 fMod
def fPow (i j : Int) : Option V := if 0 ≤ j ∧ j ≤ 1000000 ∧ i.natAbs < 2 ^ 64 then some (.int (i ^ j.toNat)) else none
def oPow : D → D → Option D := dI2 fPow
def oLt : D → D → Option D := dI2 fun i j => some (.bl (decide (i < j)))
def oLe : D → D → Option D := dI2 fun i j => some (.bl (decide (i ≤ j)))
def oGt : D → D → Option D := dI2 fun i j => some (.bl (decide (j < i)))
def oGe : D → D → Option D := dI2 fun i j => some (.bl (decide (j ≤ i)))
def oEq : D → D → Option D := fun a b => (eqD a b).map fun k => .im (.bl k)
def oNe : D → D → Option D := fun a b => (eqD a b).map fun k => .im (.bl (!k))
def oIn : D → D → Option D := fun a b => (dIn false a b).or (dDIn false a b)
def oNotIn : D → D → Option D := fun a b => (dIn true a b).or (dDIn true a b)
def oIx : D → D → Option D := fun a b => (dIx a b).or (dDGet a b)
/-- an operator's rule, with its meaning -/
def BinM (X : Cx) (g : Gc) (op : Operator) (f : D → D → Option D) : Prop := ∃ r : R2, OpR X (binaryOp op) r ∧ OpM g X.N.length r f
def CmpM (X : Cx) (g : Gc) (op : CmpOp) (f : D → D → Option D) : Prop := ∃ r : R2, OpR X (compareOp op) r ∧ OpM g X.N.length r f
section
variable {Mz : List Nat} {X : Cx} {g : Gc} {W : WX} {M M1 M2 M3 M4 : List Nat} {a b c e o : Expr} {es : List Expr} {pos p apos p2 : Pos} {fa fb fc fe : Sg → R D} {ft fu : Sg → R Bool} {fr : Sg → R (List D)}
/-! names and constants -/
theorem sd_var (i : Nat) {x : Str} (hN : X.N[i]? = some x := by rfl) (hv : Vis X.env.scope x := by first | exact Or.inl rfl | exact Or.inr (Or.inl rfl) | exact Or.inr (Or.inr rfl)) (hd : (x == ("__debug__" : Str)) = false := by decide)
    (hcd : (x == ("__classdict__" : Str)) = false := by decide) : QE X g W [] (.Name x pos) (cVar i) := qE (pe_var hN hv hd hcd) (mean_var i)
theorem sd_mv (i : Nat) {x : Str} (hN : X.N[i]? = some x := by rfl) (hv : Vis X.env.scope x := by first | exact Or.inl rfl | exact Or.inr (Or.inl rfl) | exact Or.inr (Or.inr rfl)) (hd : (x == ("__debug__" : Str)) = false := by decide)
    (hcd : (x == ("__classdict__" : Str)) = false := by decide) : QE X g W [i] (.Name x pos) (cMv i) := qE (pe_var hN hv hd hcd) (mean_mv i)
theorem sd_int {i : Int} {j} : QE X g W [] (.Constant (.int i) j pos) (cLit (.int i)) := qE pe_int (mean_lit _)
theorem sd_bl {i : Bool} {j} : QE X g W [] (.Constant (.bool i) j pos) (cLit (.bl i)) := qE pe_bl (mean_lit _)
theorem sd_non {j} : QE X g W [] (.Constant .none j pos) (cLit .non) := qE pe_non (mean_lit _)
theorem sd_str {x : Str} {j} : QE X g W [] (.Constant (.str x) j pos) (cLit (.str x)) := qE pe_str (mean_lit _)
theorem sd_glob {x : Str} {v : V} {u : Value} (hm : X.mg x = some u) (r : RelV v u) (hg : Gl X x := by rfl) (hd : (x == ("__debug__" : Str)) = false := by decide) : QE X g W [] (.Name x pos) (cLit v) := qE (pe_glob hg hm r hd) (mean_lit _)
theorem sd_ty {x : Str} {n : String} (hm : X.mg x = none) (hv : bootBuiltins x = some (.type n) := by rfl) (hg : Gl X x := by rfl) (hn : x ≠ "__name__" := by decide) (hd : (x == ("__debug__" : Str)) = false := by decide) : QE X g W [] (.Name x pos) (cLit (.ty n)) := qE (pe_bltn (v := .ty n) hg hm hv rfl hn hd) (mean_lit _)
/-! operators -/
theorem sd_op {op : Operator} {f : D → D → Option D} (ho : BinM X g op f) (ha : QE X g W M1 a fa) (hb : QE X g W M2 b fb) (hMz : Mz = (M1 ++ M2) := by rfl) : QE X g W Mz (.BinOp a op b pos) (cTwo M2 fa fb f) := by
  subst hMz
  exact (let ⟨_, h1, h2⟩ := ho; qE (pe_op h1 ha hb) (mean_two mn_E mn_E h2))
theorem bm_add : BinM X g .Add oAdd := ⟨_, op_add.or op_cat, opm_int0.or opm_cat⟩
theorem bm_sub : BinM X g .Sub oSub := ⟨_, op_sub, opm_int0⟩
theorem bm_mul : BinM X g .Mult oMul := ⟨_, op_mul, opm_int fun i j v h => by
    unfold fMul at h
    split at h
    · rename_i hc; cases h; exact ⟨hc, rfl⟩
    · cases h⟩
theorem bm_fdiv : BinM X g .FloorDiv oDiv := ⟨_, op_fdivW, opm_int fun i j v h => by
    unfold fDiv at h
    split at h
    · rename_i hc; cases h; exact ⟨wide_div (b := 100) hc.1 (Nat.lt_of_lt_of_le (show j.natAbs < 1000000000000000000000000000000 by have := hc.2; omega) (by decide)) (by decide) (by decide), rfl⟩
    · cases h⟩
theorem bm_mod : BinM X g .Mod oMod := ⟨_, op_mod, opm_int fun i j v h => by
    unfold fMod at h
    split at h
    · rename_i hc; cases h; exact ⟨hc, rfl⟩
    · cases h⟩
theorem bm_pow : BinM X g .Pow oPow := ⟨_, op_pow, opm_int fun i j v h => by
    unfold fPow at h
    split at h
    · rename_i hc; cases h; exact ⟨hc, rfl⟩
    · cases h⟩
theorem sd_neg (ha : QE X g W M1 a fa) : QE X g W M1 (.UnaryOp .USub a pos) (cOne fa dNeg) := qE (pe_un un_neg ha) (mean_one mn_E unm_neg)
/-! comparisons -/
theorem cm_lt : CmpM X g .Lt oLt := ⟨_, op_lt, opm_int0⟩
theorem cm_le : CmpM X g .LtE oLe := ⟨_, op_le, opm_int0⟩
theorem cm_gt : CmpM X g .Gt oGt := ⟨_, op_gt, opm_int0⟩
theorem cm_ge : CmpM X g .GtE oGe := ⟨_, op_ge, opm_int0⟩
theorem cm_eq (c : CxE X W) : CmpM X g .Eq oEq := ⟨_, op_eqD (by have := c.un; omega), opm_eq⟩
theorem cm_ne (c : CxE X W) : CmpM X g .NotEq oNe := ⟨_, op_neD (by have := c.un; omega), opm_ne⟩
theorem cm_in (c : CxE X W) : CmpM X g .In oIn := ⟨_, op_in_seq.or (op_din (by have := c.un; omega)), (opm_in false).or (opm_din false)⟩
theorem cm_notIn (c : CxE X W) : CmpM X g .NotIn oNotIn := ⟨_, op_notIn_seq.or (op_dnotin (by have := c.un; omega)), (opm_in true).or (opm_din true)⟩
theorem cm_is : CmpM X g .Is (dIsN false) := ⟨_, op_isN, opm_isN⟩
theorem cm_isNot : CmpM X g .IsNot (dIsN true) := ⟨_, op_notN, opm_notN⟩
theorem sd_cmp {op : CmpOp} {f : D → D → Option D} (h : CmpM X g op f) (ha : QE X g W M1 a fa) (hb : QE X g W M2 b fb) (hm : behindInMarks op b = false := by first | exact nobehind _ (by decide) (by decide) | rfl) (hMz : Mz = (M1 ++ M2) := by rfl) : QE X g W Mz (.Compare a [op] [b] pos) (cTwo M2 fa fb f) := by
  subst hMz
  exact (let ⟨_, h1, h2⟩ := h; qE (pe_cmpR h1 ha hb hm) (mean_two mn_E mn_E h2))
theorem sdt_cmp {op : CmpOp} {f : D → D → Option D} (h : CmpM X g op f) (ha : QE X g W M1 a fa) (hb : QE X g W M2 b fb) (hm : behindInMarks op b = false := by first | exact nobehind _ (by decide) (by decide) | rfl) (hMz : Mz = (M1 ++ M2) := by rfl) : QT X g W Mz (.Compare a [op] [b] pos) (cTest (cTwo M2 fa fb f) dBool) := by
  subst hMz
  exact (let ⟨_, h1, h2⟩ := h; qT (pt_cmpR h1 ha hb hm) (mean_test (mean_two mn_E mn_E h2) tsm_bool))
theorem sd_chain {op op' : CmpOp} {f f' : D → D → Option D} (h : CmpM X g op f) (h' : CmpM X g op' f') (ha : QE X g W M1 a fa) (hb : QE X g W M2 b fb) (hc : QE X g W M3 c fc)
    (hm : lastMarks [op, op'] [b, c] = false := by with_unfolding_all rfl) (hMz : Mz = (M1 ++ (M2 ++ M3)) := by rfl) : QE X g W Mz (.Compare a [op, op'] [b, c] pos) (cChain M2 M3 fa fb fc f f') := by
  subst hMz
  exact (let ⟨_, h1, h2⟩ := h; let ⟨_, h3, h4⟩ := h'; qE (pe_chain h1 h3 ha hb hc hm) (mean_chain mn_E mn_E mn_E h2 h4))
theorem sdt_chain {op op' : CmpOp} {f f' : D → D → Option D} (h : CmpM X g op f) (h' : CmpM X g op' f') (ha : QE X g W M1 a fa) (hb : QE X g W M2 b fb) (hc : QE X g W M3 c fc)
    (hm : lastMarks [op, op'] [b, c] = false := by with_unfolding_all rfl) (hMz : Mz = (M1 ++ (M2 ++ M3)) := by rfl) : QT X g W Mz (.Compare a [op, op'] [b, c] pos) (cTest (cChain M2 M3 fa fb fc f f') dBool) := by
  subst hMz
  exact (let ⟨_, h1, h2⟩ := h; let ⟨_, h3, h4⟩ := h'; qT (pt_chain h1 h3 ha hb hc hm) (mean_test (mean_chain mn_E mn_E mn_E h2 h4) tsm_bool))
/-! tests -/
theorem sdt_val (ha : QE X g W M1 a fa) (he : ∀ whole, isTrue a X.env whole = (do let v ← whole; standAt a.pos; holding [v] (truthy v)) := by intro _; rfl) : QT X g W M1 a (cTest fa dTru) :=
  qT (pt_truth ha he) (mean_test mn_E tsm_tru)
theorem sdt_not (ha : QT X g W M1 a ft) : QT X g W M1 (.UnaryOp .Not a pos) (cNot ft) := qT (pt_not ha) (mean_not mn_T)
theorem sdw_and1 (ha : QT X g W M1 a ft) : QW X g W M1 (.BoolOp .And [a] pos) ft := qW (pw_and1 ha) mn_T
theorem sdw_or1 (ha : QT X g W M1 a ft) : QW X g W M1 (.BoolOp .Or [a] pos) ft := qW (pw_or1 ha) mn_T
theorem sdw_and (ha : QT X g W M1 a ft) (hb : QW X g W M2 (.BoolOp .And (b :: es) pos) fu) (hMz : Mz = (M1 ++ M2) := by rfl) : QW X g W Mz (.BoolOp .And (a :: b :: es) pos) (cAnd ft fu) := by
  subst hMz
  exact (qW (pw_and ha hb) (mean_and mn_T mn_T))
theorem sdw_or (ha : QT X g W M1 a ft) (hb : QW X g W M2 (.BoolOp .Or (b :: es) pos) fu) (hMz : Mz = (M1 ++ M2) := by rfl) : QW X g W Mz (.BoolOp .Or (a :: b :: es) pos) (cOr ft fu) := by
  subst hMz
  exact (qW (pw_or ha hb) (mean_or mn_T mn_T))
theorem sdt_w (h : QW X g W M1 a ft) : QT X g W M1 a ft := qT h.pt mn_T
theorem sd_one {op} (h : QE X g W M1 a fa) : QE X g W M1 (.BoolOp op [a] pos) fa := qE (pe_one h) mn_E
theorem sd_and (ha : QE X g W M1 a fa) (hb : QE X g W M2 (.BoolOp .And (b :: es) pos) fb) (hMz : Mz = (M1 ++ M2) := by rfl) : QE X g W Mz (.BoolOp .And (a :: b :: es) pos) (cAndV fa fb) := by
  subst hMz
  exact (qE (pe_and ha hb) (mean_andV mn_E mn_E))
theorem sd_or (ha : QE X g W M1 a fa) (hb : QE X g W M2 (.BoolOp .Or (b :: es) pos) fb) (hMz : Mz = (M1 ++ M2) := by rfl) : QE X g W Mz (.BoolOp .Or (a :: b :: es) pos) (cOrV fa fb) := by
  subst hMz
  exact (qE (pe_or ha hb) (mean_orV mn_E mn_E))
theorem sd_not (ha : QE X g W M1 a fa) : QE X g W M1 (.UnaryOp .Not a pos) (cOne fa dNot) := qE (pe_not ha) (mean_notV mn_E)
theorem sd_ifE (hc : QT X g W M1 c ft) (ha : QE X g W M2 a fa) (hb : QE X g W M3 b fb) (hMz : Mz = (M1 ++ (M2 ++ M3)) := by rfl) : QE X g W Mz (.IfExp c a b pos) (cIfE ft fa fb) := by
  subst hMz
  exact (qE (pe_ifExp hc ha hb) (mean_ifE mn_T mn_E mn_E))
/-! arguments, displays -/
theorem sda_nil : QA X g W [] [] cNil := qA pa_nil mean_nil
theorem sda_cons (ha : QE X g W M1 a fa) (hr : QA X g W M2 es fr) (hs : starEach (a :: es) X.env = (false, eval a X.env) :: starEach es X.env := by rfl) (hMz : Mz = (M1 ++ M2) := by rfl) : QA X g W Mz (a :: es) (cCons M2 fa fr) := by
  subst hMz
  exact (qA (pa_cons ha hr hs) (mean_cons mn_E mn_A))
theorem sda_star (ha : QE X g W M1 a fa) (hr : QA X g W M2 es fr) (hs : starEach (.Starred a p :: es) X.env = (true, eval a X.env) :: starEach es X.env := by rfl) (hMz : Mz = (M1 ++ M2) := by rfl) : QA X g W Mz (.Starred a p :: es) (cStar M2 fa fr) := by
  subst hMz
  exact (qA (StX.pa_star ha hr hs) (mean_star mn_E mn_A))
theorem sd_lst (h : QA X g W M1 es fr) : QE X g W M1 (.List es pos) (cMany fr dLst) := qE (pe_lst h) (mean_lst mn_A)
theorem sd_tup {k} (h : QA X g W M1 es fr) : QE X g W M1 (.Tuple es k pos) (cMany fr dTup) := qE (pe_tup h) (mean_tup mn_A)
theorem sd_ix (cx : CxE X W) (ha : QE X g W M1 a fa) (hb : QE X g W M2 b fb) (hs : PlainIx b := by intro _ _; rfl) (hMz : Mz = (M1 ++ M2) := by rfl) : QE X g W Mz (.Subscript a b pos) (cTwo M2 fa fb oIx) := by
  subst hMz
  exact (qE (pe_ix ((ix_list.or ix_tup).or (ix_dget (by have := cx.un; omega))) ha hb hs) (mean_two mn_E mn_E (opm_ix.or opm_dget)))
def QD (X : Cx) (g : Gc) (W : WX) (M : List Nat) (pos : Pos) (keys : List (Option Expr)) (values : List Expr) (f : Sg → R (List D)) : Prop := ∃ trs, PPs X pos keys values trs ∧ MeanA g X.N.length W M (taPairs trs) f
theorem sdd_nil : QD X g W [] pos [] [] cNil := ⟨_, pps_nil, meana_pnil⟩
theorem sdd_cons {ks : List (Option Expr)} {vs : List Expr} (hk : QE X g W M1 a fa) (hv : QE X g W M2 b fb) (hr : QD X g W M3 pos ks vs fr) (hMz : Mz = (M1 ++ (M2 ++ M3)) := by rfl) : QD X g W Mz pos (some a :: ks) (b :: vs) (cCons (M2 ++ M3) fa (cCons M3 fb fr)) := by
  subst hMz
  exact (let ⟨_, h1, h2⟩ := hr; ⟨_, pps_cons hk hv h1, meana_pcons mn_E mn_E h2⟩)
theorem sd_disp {ks : List (Option Expr)} {vs : List Expr} (h : QD X g W M1 pos ks vs fr) (hall : ks.all (·.isSome) = true := by rfl) (hl : ks.length = vs.length := by rfl) (h0 : ks ≠ [] := by exact List.cons_ne_nil _ _) (h15 : ks.length ≤ 15 := by decide) : QE X g W M1 (.Dict ks vs pos) (cDisp fr) :=
  let ⟨_, h1, h2⟩ := h; qE (pe_disp h1 hall hl h0 h15) (mean_disp h2)
def cNewK : Sg → R D := fun S => .ok (.nd .own (.dic []) []) S
def cNewT : Sg → R D := fun S => .ok (.nd .own (.dtu []) []) S
theorem sd_dnewK : QE X g W [] (.Dict [] [] pos) cNewK := qE pe_dnewK fun Γ A σ H Q r c q p hp => q A _ _ ((show Rel g Γ X.N.length (A ++ []) σ H by rw [List.append_nil]; exact r).node (ts := []) r.len hp (.dic []) 0 (fun c hc => nomatch hc) (List.nil_sublist _)) (.refl _ _) rfl rfl
theorem sd_dnewT : QE X g W [] (.Dict [] [] pos) cNewT := qE pe_dnewT fun Γ A σ H Q r c q p hp => q A _ _ ((show Rel g Γ X.N.length (A ++ []) σ H by rw [List.append_nil]; exact r).node (ts := []) r.len hp (.dtu []) 0 (fun c hc => nomatch hc) (List.nil_sublist _)) (.refl _ _) rfl rfl
/-! fields -/
theorem sd_fld {k : Nat} {f : Str} (hc : Cls X.K (g.cl k)) (hf : NoAttr X.K (g.cl k) f) (ha : QE X g W M1 a fa) (hb : attributeBase a f X.env (eval a X.env) = eval a X.env := by rfl) : QE X g W M1 (.Attribute a f pos) (cOne fa (dFld k f)) :=
  qE (pe_fld ha hb) (mean_one mn_E (unm_fld hc hf))
end
end Lin
end
section
namespace Lin
open PySem L2
/-- a def of the module, as its meaning -/
def Df (P : Program) (w : World) (K : PySem.W.Frag) (mg : Str → Option Value) (base : Heap) (g : Gc) (x : Str) (ps : List Str) (k : Nat) (mr : List Bool) (sem : FSem) : Prop :=
  ∃ f fd, FnOk P w K mg base (L2.CX P w) k f fd ps (spOf g mr sem) ∧ mg x = some (.ref f) ∧ PySem.W.keepIn K (.ref f) = true ∧ Binds K fd ps []
/-- a method of class c -/
def Dm (P : Program) (w : World) (K : PySem.W.Frag) (mg : Str → Option Value) (base : Heap) (g : Gc) (c : Nat) (m : Str) (ps : List Str) (k : Nat) (mr : List Bool) (sem : FSem) : Prop :=
  ∃ f fd, FnOk P w K mg base (L2.CX P w) k f fd ps (spOf g mr sem) ∧ Cls K (g.cl c) ∧ Meth K (g.cl c) m f ∧ Binds K fd ps []
/-- a class's constructor -/
def Dk (P : Program) (w : World) (K : PySem.W.Frag) (mg : Str → Option Value) (base : Heap) (g : Gc) (c : Nat) (x : Str) (ps : List Str) (k : Nat) (mr : List Bool) (sem : FSem) : Prop :=
  ∃ f fd, FnOk P w K mg base (L2.CX P w) k f fd ps (spOf g mr sem) ∧ Mk K (g.cl c) f ∧ mg x = some (.ref (g.cl c)) ∧ Binds K fd ps []
/-- a built-in function or type, called -/
def BuF (X : Cx) (g : Gc) (v : Value) (op : List D → Option D) : Prop := ∃ r, CallR X v r ∧ CaM g X.N.length r op
section
variable {Mz : List Nat} {X : Cx} {g : Gc} {W : WX} {M M1 M2 M3 M4 : List Nat} {a b c e o tg iter : Expr} {es : List Expr} {pos p apos p2 pos' : Pos} {fa fb fc fe : Sg → R D} {ft fu : Sg → R Bool} {fr : Sg → R (List D)} {rs : List (Option Nat)} {x m : Str} {ps : List Str} {k : Nat} {mr : List Bool} {sem : FSem} {cn : Nat} {f1 f2 : Sg → R Fl} {st : Stmt} {sts sts' : List Stmt}
theorem sdc_nil : QC X g W [] [] [] cNil := qC pa_nil meanc_nil
theorem sdc_val (ha : QE X g W M1 a fa) (hr : QC X g W M2 rs es fr) (hs : starEach (a :: es) X.env = (false, eval a X.env) :: starEach es X.env := by rfl) (hMz : Mz = (M1 ++ M2) := by rfl) : QC X g W Mz (none :: rs) (a :: es) (cCons M2 fa fr) := by
  subst hMz
  exact (qC (pa_cons ha hr hs) (meanc_val mn_E mn_C))
theorem sdc_ref (r : Nat) {y : Str} (hr : QC X g W M2 rs es fr) (hm : r ∉ M2 := by decide) (hN : X.N[r]? = some y := by rfl) (hv : Vis X.env.scope y := by first | exact Or.inl rfl | exact Or.inr (Or.inl rfl) | exact Or.inr (Or.inr rfl)) (hd : (y == ("__debug__" : Str)) = false := by decide)
    (hcd : (y == ("__classdict__" : Str)) = false := by decide) (hs : starEach (.Name y pos :: es) X.env = (false, eval (.Name y pos) X.env) :: starEach es X.env := by rfl) (hMz : Mz = ([r] ++ M2) := by rfl) : QC X g W Mz (some r :: rs) (.Name y pos :: es) (cRefs r fr) := by
  subst hMz
  exact (qC (pa_cons (pe_var hN hv hd hcd) hr hs) (meanc_ref mn_C hm))
theorem sd_call (cx : CxE X W) (F : Df X.prog X.w X.K X.mg X.base g x ps k (rs.map Option.isSome) sem) (hr : Room k X.A) (ha : QC X g W M1 rs (e :: es) fr) (hM : ∀ r ∈ rs.filterMap id, r ∈ M1 := by decide) (hnd : (rs.filterMap id).Nodup := by decide) (hg : Gl X x := by rfl) (hdb : (x == ("__debug__" : Str)) = false := by decide)
    (he : starEach (e :: es) X.env = (false, eval e X.env) :: starEach es X.env := by rfl) (hpl : (backTo pos (starEach es X.env)).any (·.1) = false := by rfl) : QE X g W M1 (.Call (.Name x p) (e :: es) [] pos) (cCall rs fr sem) :=
  let ⟨_, _, h1, h2, h3, h4⟩ := F; qE (pe_callS h1 hr hg h2 h3 h4 cx.at ha hdb he hpl) (mean_call mn_C hM hnd)
theorem sd_call0 (cx : CxE X W) (F : Df X.prog X.w X.K X.mg X.base g x ps k [] sem) (hr : Room k X.A) (hg : Gl X x := by rfl) (hdb : (x == ("__debug__" : Str)) = false := by decide) : QE X g W [] (.Call (.Name x p) [] [] pos) (cCall [] cNil sem) :=
  let ⟨_, _, h1, h2, h3, h4⟩ := F; qE (pe_call0S h1 hr hg h2 h3 h4 cx.at hdb) (mean_call meanc_nil (by simp) (by simp))
theorem sd_meth {pl : Sem Bool} (cx : CxE X W) (F : Dm X.prog X.w X.K X.mg X.base g cn m ps k (false :: rs.map Option.isSome) sem) (hr : Room k X.A) (ho : QE X g W M1 o fa) (ha : QC X g W M2 rs (e :: es) fr) (hM : ∀ r ∈ rs.filterMap id, r ∈ M1 ++ M2 := by decide) (hnd : (rs.filterMap id).Nodup := by decide)
    (hst : starEach (e :: es) X.env = (false, eval e X.env) :: starEach es X.env := by rfl) (hpl : (backTo pos (starEach es X.env)).any (·.1) = false := by rfl)
    (ht : eval (.Call (.Attribute o m apos) (e :: es) [] pos) X.env = (do
      let ov ← eval o X.env
      standAt apos.atName
      let (f, first) ← holding [ov] (getMethod ov m pl)
      callWith pos f first (backTo pos (starEach (e :: es) X.env)) (backToKw pos (keywordEach [] X.env))) := by rfl) (hMz : Mz = (M1 ++ M2) := by rfl) : QE X g W Mz (.Call (.Attribute o m apos) (e :: es) [] pos) (cCall (none :: rs) (cConsK (isObjD cn m) M2 fa fr) sem) := by
  subst hMz
  exact (let ⟨_, _, h1, h2, h3, h4⟩ := F; qE (pe_methS (pl := pl) ho h2 h3 h1 hr h4 cx.at ha hst hpl ht) (mean_call (rs := none :: rs) (meanc_valK (fun Γ A t σ H R h => obj_of R h) mn_E mn_C) (by simpa using hM) (by simpa using hnd)))
theorem sd_meth0 {pl : Sem Bool} (cx : CxE X W) (F : Dm X.prog X.w X.K X.mg X.base g cn m ps k [false] sem) (hr : Room k X.A) (ho : QE X g W M1 o fa)
    (ht : eval (.Call (.Attribute o m apos) [] [] pos) X.env = (do
      let ov ← eval o X.env
      standAt apos.atName
      let (f, first) ← holding [ov] (getMethod ov m pl)
      callWith pos f first (backTo pos (starEach [] X.env)) (backToKw pos (keywordEach [] X.env))) := by rfl) (hMz : Mz = (M1 ++ []) := by rfl) : QE X g W Mz (.Call (.Attribute o m apos) [] [] pos) (cCall [none] (cConsK (isObjD cn m) [] fa cNil) sem) := by
  subst hMz
  exact (let ⟨_, _, h1, h2, h3, h4⟩ := F; qE (pe_meth0S (pl := pl) ho h2 h3 h1 hr h4 cx.at ht) (mean_call (rs := [none]) (meanc_valK (fun Γ A t σ H R h => obj_of R h) mn_E meanc_nil) (by simp) (by simp)))
theorem sd_make (cx : CxE X W) (F : Dk X.prog X.w X.K X.mg X.base g cn x ps k (true :: rs.map Option.isSome) sem) (hr : Room (k + 1) X.A) (ha : QC X g W M1 rs (e :: es) fr) (hM : ∀ r ∈ rs.filterMap id, r ∈ M1 := by decide) (hnd : (rs.filterMap id).Nodup := by decide) (hg : Gl X x := by rfl) (hdb : (x == ("__debug__" : Str)) = false := by decide)
    (he : starEach (e :: es) X.env = (false, eval e X.env) :: starEach es X.env := by rfl) (hpl : (backTo pos (starEach es X.env)).any (·.1) = false := by rfl) : QE X g W M1 (.Call (.Name x p) (e :: es) [] pos) (cMk cn rs fr sem) :=
  let ⟨_, _, h1, h2, h3, h4⟩ := F; qE (pe_makeS h2 h1 hr hg h3 h4 cx.at ha hdb he hpl) (mean_mk mn_C hM hnd)
/-! built-ins -/
theorem sd_callB {id : String} {op : List D → Option D} (hb : BuF X g (.builtin id) op) (ha : QA X g W M1 (e :: es) fr) (hm : X.mg x = none) (hv : bootBuiltins x = some (.builtin id) := by rfl) (hg : Gl X x := by rfl) (hn : x ≠ "__name__" := by decide) (hdb : (x == ("__debug__" : Str)) = false := by decide)
    (he : starEach (e :: es) X.env = (false, eval e X.env) :: starEach es X.env := by rfl) (hpl : (backTo pos (starEach es X.env)).any (·.1) = false := by rfl) : QE X g W M1 (.Call (.Name x p) (e :: es) [] pos) (cMany fr op) :=
  let ⟨_, h1, h2⟩ := hb; qE (pe_callB h1 hg hm hv ha hn hdb he hpl) (mean_many mn_A h2)
theorem sd_callTy {id : String} {op : List D → Option D} (hb : BuF X g (.type id) op) (ha : QA X g W M1 (e :: es) fr) (hm : X.mg x = none) (hv : bootBuiltins x = some (.type id) := by rfl) (hg : Gl X x := by rfl) (hn : x ≠ "__name__" := by decide) (hdb : (x == ("__debug__" : Str)) = false := by decide)
    (he : starEach (e :: es) X.env = (false, eval e X.env) :: starEach es X.env := by rfl) (hpl : (backTo pos (starEach es X.env)).any (·.1) = false := by rfl) : QE X g W M1 (.Call (.Name x p) (e :: es) [] pos) (cMany fr op) :=
  let ⟨_, h1, h2⟩ := hb; qE (pe_callTy h1 hg hm hv ha hn hdb he hpl) (mean_many mn_A h2)
def bLen : List D → Option D := fun ds => (immV vLen ds).or (immV vLenD ds)
def bAbs : List D → Option D := immV (vInt1 fun i => .int (if i < 0 then -i else i))
def bMax : List D → Option D := fun ds => (immV (vInt2 fun i j => .int (if j > i then j else i)) ds).or (immV vMaxL ds)
def bMin : List D → Option D := fun ds => (immV (vInt2 fun i j => .int (if j < i then j else i)) ds).or (immV vMinL ds)
def bSorted : List D → Option D := fun ds => (dSorted ds).or (dSortedD ds)
def bList : List D → Option D := fun ds => (dListOf ds).or (dListD ds)
theorem bu_len : BuF X g (.builtin "len") bLen := ⟨_, call_len_seq.or call_lenD, cam_len.or cam_lenD⟩
theorem bu_abs : BuF X g (.builtin "abs") bAbs := ⟨_, call_abs, cam_int1⟩
theorem bu_max (cx : CxE X W) : BuF X g (.builtin "max") bMax := ⟨_, (call_max2 cx.calm).or (cr_max cx.calm), cam_int2.or cam_maxL⟩
theorem bu_min (cx : CxE X W) : BuF X g (.builtin "min") bMin := ⟨_, (call_min2 cx.calm).or (cr_min cx.calm), cam_int2.or cam_minL⟩
theorem bu_sum (cx : CxE X W) : BuF X g (.builtin "sum") (immV vSum) := ⟨_, cr_sum cx.calm, cam_sum⟩
theorem bu_all (cx : CxE X W) : BuF X g (.builtin "all") (immV vAll) := ⟨_, cr_all cx.calm, cam_all⟩
theorem bu_any (cx : CxE X W) : BuF X g (.builtin "any") (immV vAny) := ⟨_, cr_any cx.calm, cam_any⟩
theorem bu_isi : BuF X g (.builtin "isinstance") (immV vIsi) := ⟨_, call_isi, cam_isi⟩
theorem bu_sorted (cx : CxE X W) : BuF X g (.builtin "sorted") bSorted := ⟨_, cr_sortedI.or (show CallR X (.builtin "sorted") rSortedDI from call_sortedDI cx.calm), cam_sorted.or cam_sortedD⟩
theorem bu_int : BuF X g (.type "int") (immV vToInt) := ⟨_, call_int1, cam_toInt⟩
theorem bu_list (cx : CxE X W) : BuF X g (.type "list") bList := ⟨_, call_list_of.or (call_list_dK cx.calm), cam_listOf.or cam_listD⟩
theorem bu_tuple : BuF X g (.type "tuple") dTupOf := ⟨_, call_tuple_of, cam_tupOf⟩
theorem sd_lstRg1 {p1 p3 : Pos} (cx : CxE X W) (ha : QE X g W M1 a fa) (hl : X.mg "list" = none) (hr : X.mg "range" = none) (hg1 : Gl X "list" := by rfl) (hg2 : Gl X "range" := by rfl) (na : starEach [a] X.env = (false, eval a X.env) :: starEach [] X.env := by rfl)
    (nb : starEach [.Call (.Name "range" p1) [a] [] p3] X.env = (false, eval (.Call (.Name "range" p1) [a] [] p3) X.env) :: starEach [] X.env := by rfl) : QE X g W M1 (.Call (.Name "list" p) [.Call (.Name "range" p1) [a] [] p3] [] pos) (cOne fa dRg1) :=
  qE (pe_listRg cx.calm hg1 hl (prg_1 hg2 hr ha na) nb) (mean_lstRg1 mn_E)
theorem sd_lstRg2 {p1 p3 : Pos} (cx : CxE X W) (ha : QE X g W M1 a fa) (hb : QE X g W M2 b fb) (hl : X.mg "list" = none) (hr : X.mg "range" = none) (hg1 : Gl X "list" := by rfl) (hg2 : Gl X "range" := by rfl) (na : starEach [a, b] X.env = (false, eval a X.env) :: starEach [b] X.env := by rfl)
    (nc : starEach [b] X.env = (false, eval b X.env) :: starEach [] X.env := by rfl) (np : (backTo p3 (starEach [b] X.env)).any (·.1) = false := by rfl)
    (nb : starEach [.Call (.Name "range" p1) [a, b] [] p3] X.env = (false, eval (.Call (.Name "range" p1) [a, b] [] p3) X.env) :: starEach [] X.env := by rfl) (hMz : Mz = (M1 ++ M2) := by rfl) : QE X g W Mz (.Call (.Name "list" p) [.Call (.Name "range" p1) [a, b] [] p3] [] pos) (cTwo M2 fa fb dRg2) := by
  subst hMz
  exact (qE (pe_listRg cx.calm hg1 hl (prg_2 hg2 hr ha hb na nc np) nb) (mean_lstRg2 mn_E mn_E))
/-! paths, methods of lists -/
theorem sdp_var (r : Nat) {y : Str} (hN : X.N[r]? = some y := by rfl) (hv : Vis X.env.scope y := by first | exact Or.inl rfl | exact Or.inr (Or.inl rfl) | exact Or.inr (Or.inr rfl)) (hd : (y == ("__debug__" : Str)) = false := by decide)
    (hcd : (y == ("__classdict__" : Str)) = false := by decide) : QP X g W [] r (.Name y pos) (pVar r) := qP (pe_var hN hv hd hcd) (meanp_var r)
theorem sd_bm {r : Nat} {fp : Sg → R (List Nat)} {id : String} {rr : V → List V → Hp → VK → Prop} {op : Sh → List D → List D → Option (Sh × List D × D)} (slot : PySem.Slot "list" m id) (hty : typeOf (.builtin id) = pure (.type "method_descriptor")) (hm : MtR X id rr) (ho : MuM g rr op) (hp : QP X g W M1 r o fp) (ha : QA X g W M2 (e :: es) fr)
    (hbase : attributeBase o m X.env (eval o X.env) = eval o X.env := by rfl)
    (hfew : ((backTo pos (starEach (e :: es) X.env)).all (fun x => !x.1) && (backToKw pos (keywordEach [] X.env)).all (fun x => x.1.isSome)
      && decide ((e :: es).length + ([] : List Keyword).length + (if ([] : List Keyword).isEmpty then 0 else 1) < 30)) = true := by rfl)
    (hline : (apos.endLine == pos.line) = true := by rfl) (hs : starEach (e :: es) X.env = (false, eval e X.env) :: starEach es X.env := by rfl) (hplain : (backTo pos (starEach es X.env)).any (·.1) = false := by rfl) (hMz : Mz = (M1 ++ M2 ++ [r]) := by rfl) : QE X g W Mz (.Call (.Attribute o m apos) (e :: es) [] pos) (cMutM isLst r M2 fp fr op) := by
  subst hMz
  exact (qE (pe_bm PySem.F.plainAttrs_list slot hty hm hp ha hbase hfew hline hs hplain) (mean_mutM mn_P mn_A ho fun H a dx s vs h e => lst_ty h e))
theorem sd_bm0 {r : Nat} {fp : Sg → R (List Nat)} {id : String} {rr : V → List V → Hp → VK → Prop} {op : Sh → List D → List D → Option (Sh × List D × D)} (slot : PySem.Slot "list" m id) (hty : typeOf (.builtin id) = pure (.type "method_descriptor")) (hm : MtR X id rr) (ho : MuM g rr op) (hp : QP X g W M1 r o fp)
    (hbase : attributeBase o m X.env (eval o X.env) = eval o X.env := by rfl) (hline : (apos.endLine == pos.line) = true := by rfl) (hMz : Mz = (M1 ++ [] ++ [r]) := by rfl) : QE X g W Mz (.Call (.Attribute o m apos) [] [] pos) (cMutM isLst r [] fp cNil op) := by
  subst hMz
  exact (qE (pe_bm0 PySem.F.plainAttrs_list slot hty hm hp hbase hline) (mean_mutM mn_P mean_nil ho fun H a dx s vs h e => lst_ty h e))
theorem sd_append {r : Nat} {fp : Sg → R (List Nat)} (hp : QP X g W M1 r o fp) (ha : QA X g W M2 [e] fr)
    (hbase : attributeBase o "append" X.env (eval o X.env) = eval o X.env := by rfl)
    (hfew : ((backTo pos (starEach [e] X.env)).all (fun x => !x.1) && (backToKw pos (keywordEach [] X.env)).all (fun x => x.1.isSome)
      && decide ([e].length + ([] : List Keyword).length + (if ([] : List Keyword).isEmpty then 0 else 1) < 30)) = true := by rfl)
    (hline : (apos.endLine == pos.line) = true := by rfl) (hs : starEach [e] X.env = (false, eval e X.env) :: starEach [] X.env := by rfl) (hMz : Mz = (M1 ++ M2 ++ [r]) := by rfl) : QE X g W Mz (.Call (.Attribute o "append" apos) [e] [] pos) (cMutM isLst r M2 fp fr mAppend) := by
  subst hMz
  exact (sd_bm PySem.F.slot_list_append PySem.F.type_list_append mt_append mum_append hp ha hbase hfew hline hs rfl)
theorem sd_popAt {r : Nat} {fp : Sg → R (List Nat)} (hp : QP X g W M1 r o fp) (ha : QA X g W M2 [e] fr)
    (hbase : attributeBase o "pop" X.env (eval o X.env) = eval o X.env := by rfl)
    (hfew : ((backTo pos (starEach [e] X.env)).all (fun x => !x.1) && (backToKw pos (keywordEach [] X.env)).all (fun x => x.1.isSome)
      && decide ([e].length + ([] : List Keyword).length + (if ([] : List Keyword).isEmpty then 0 else 1) < 30)) = true := by rfl)
    (hline : (apos.endLine == pos.line) = true := by rfl) (hs : starEach [e] X.env = (false, eval e X.env) :: starEach [] X.env := by rfl) (hMz : Mz = (M1 ++ M2 ++ [r]) := by rfl) : QE X g W Mz (.Call (.Attribute o "pop" apos) [e] [] pos) (cMutM isLst r M2 fp fr mPopAt) := by
  subst hMz
  exact (sd_bm PySem.F.slot_list_pop PySem.F.type_list_pop mt_popAt mum_popAt hp ha hbase hfew hline hs rfl)
theorem sd_pop {r : Nat} {fp : Sg → R (List Nat)} (hp : QP X g W M1 r o fp) (hbase : attributeBase o "pop" X.env (eval o X.env) = eval o X.env := by rfl) (hline : (apos.endLine == pos.line) = true := by rfl) (hMz : Mz = (M1 ++ [] ++ [r]) := by rfl) : QE X g W Mz (.Call (.Attribute o "pop" apos) [] [] pos) (cMutM isLst r [] fp cNil mPop) := by
  subst hMz
  exact (sd_bm0 PySem.F.slot_list_pop PySem.F.type_list_pop mt_pop mum_pop hp hbase hline)
theorem sd_clear {r : Nat} {fp : Sg → R (List Nat)} (hp : QP X g W M1 r o fp) (hbase : attributeBase o "clear" X.env (eval o X.env) = eval o X.env := by rfl) (hline : (apos.endLine == pos.line) = true := by rfl) (hMz : Mz = (M1 ++ [] ++ [r]) := by rfl) : QE X g W Mz (.Call (.Attribute o "clear" apos) [] [] pos) (cMutM isLst r [] fp cNil mClear) := by
  subst hMz
  exact (sd_bm0 PySem.F.slot_list_clear PySem.F.type_list_clear mt_clear mum_clear hp hbase hline)
/-! targets, iterables, comprehensions -/
theorem sdg_name (z : Bool) (i : Nat) {y : Str} (cx : X.N.Nodup) (hi : X.N[i]? = some y := by rfl) (hx : Loc X.env.scope y := by first | exact Or.inl rfl | exact Or.inr rfl) (hf : X.fn y = true ∨ X.env.scope.names.lookup y = some .local := by first | exact .inl rfl | exact .inr rfl) : QG X g [i] (.Name y pos) (gSet z i) :=
  qG (pg_name cx hi hx hf) (meang_name (List.getElem?_eq_some_iff.mp hi).1)
theorem sdgs_nil : QGs X g [] [] gsNil := qGs pgs_nil meangs_nil
theorem sdgs_cons {xs ys : List Nat} {f : D → Sg → Option Sg} {h : List D → Sg → Option Sg} (h1 : QG X g xs e f) (h2 : QGs X g ys es h) (hs : (assignEach (e :: es) X.env).map (·.2) = assign e X.env :: (assignEach es X.env).map (·.2) := by rfl) (hMz : Mz = (xs ++ ys) := by rfl) : QGs X g Mz (e :: es) (gsCons f h) := by
  subst hMz
  exact (qGs (pgs_cons h1 h2 hs) (meangs_cons mn_G mn_Gs))
theorem sdg_tup {xs : List Nat} {n : Nat} {j} {f : List D → Sg → Option Sg} (hc : X.calm = true) (h : QGs X g xs es f) (hn : (assignEach es X.env).length = n := by rfl) (hst : (assignEach es X.env).findIdx? (·.1) = none := by rfl) : QG X g xs (.Tuple es j pos) (gTupF n f) :=
  qG (pg_tup hc h hn hst) (meang_tup mn_Gs)
theorem sdi_list (ha : QE X g W M1 a fa) : QI X g W M1 tg a (iSeq fa .lst) := qI (pi_list ha) (meani_list mn_E)
theorem sdi_tup (ha : QE X g W M1 a fa) : QI X g W M1 tg a (iSeq fa .tup) := qI (pi_tup ha) (meani_tup mn_E)
theorem sdi_rng1 (ha : QA X g W M1 [a] fr) (hm : X.mg "range" = none) (hg : Gl X "range" := by rfl) (hs : starEach [a] X.env = [(false, eval a X.env)] := by rfl) : QI X g W M1 tg (.Call (.Name "range" p) [a] [] pos) (iRng1F fr) := qI (pi_range1 hg hm ha hs) (meani_rng1 mn_A)
theorem sdi_rng2 (ha : QA X g W M1 [a, b] fr) (hm : X.mg "range" = none) (hg : Gl X "range" := by rfl) (hs : starEach [a, b] X.env = [(false, eval a X.env), (false, eval b X.env)] := by rfl) (hs2 : starEach [b] X.env = [(false, eval b X.env)] := by rfl) :
    QI X g W M1 tg (.Call (.Name "range" p) [a, b] [] pos) (iRng2F fr) := qI (pi_range2 hg hm ha hs hs2) (meani_rng2 mn_A)
theorem sdts_nil : QTs X g W [] [] cYes := qTs pts_nil mean_yes
theorem sdts_one (h : QT X g W M1 c ft) : QTs X g W M1 [c] ft := qTs (pts_one h) mn_T
theorem sd_lc {ifs : List Expr} {scope : Scope} (own : List (Str × Nat)) {fi : Sg → R (D × List D)} {tf : D → Sg → Option Sg} (cx : CxE X W) (hi : QI X g W M1 tg iter fi) (ok : BlkOk X.N X.env.scope scope own)
    (hg : ∀ (s : Shared) (H : Hp) (C : Addr) (cl : List (Str × Addr)) (fp : List Addr), CxE (X.blk s H scope (compEnvC scope cl C X.env) fp) (fun _ _ _ _ => False) → QG (X.blk s H scope (compEnvC scope cl C X.env) fp) g (own.map (·.2)) tg tf)
    (ht : ∀ (s : Shared) (H : Hp) (C : Addr) (cl : List (Str × Addr)) (fp : List Addr), CxE (X.blk s H scope (compEnvC scope cl C X.env) fp) (fun _ _ _ _ => False) → QTs (X.blk s H scope (compEnvC scope cl C X.env) fp) g (fun _ _ _ _ => False) M2 ifs ft)
    (he : ∀ (s : Shared) (H : Hp) (C : Addr) (cl : List (Str × Addr)) (fp : List Addr), CxE (X.blk s H scope (compEnvC scope cl C X.env) fp) (fun _ _ _ _ => False) → QE (X.blk s H scope (compEnvC scope cl C X.env) fp) g (fun _ _ _ _ => False) M3 a fa)
    (hs : ∀ x, foldedSetIterable iter X.env x = pure x := by intro _; rfl) (hMz : Mz = (M1 ++ (M2 ++ M3) ++ own.map (·.2)) := by rfl) : QE X g W Mz (.ListComp a [⟨tg, iter, ifs, 0⟩] scope pos) (cLc (own.map (·.2)) (M2 ++ M3) tf fi ft fa) := by
  subst hMz
  exact (qE (pe_lc (g := tG g X.N.length (own.map Prod.snd) tf) (tt := tT g X.N.length (fun _ _ _ _ => False) M2 ft) (te := tE g X.N.length (fun _ _ _ _ => False) M3 fa) cx.calm cx.nd hi ok (fun s H C cl fp => hg s H C cl fp (cx.blk ..)) (fun s H C cl fp => ht s H C cl fp (cx.blk ..)) (fun s H C cl fp => he s H C cl fp (cx.blk ..)) hs) (mean_lc (fun x hx => by
    obtain ⟨q, hq, rfl⟩ := List.mem_map.mp hx
    exact (List.getElem?_eq_some_iff.mp (ok.ix q hq)).1) mn_I mn_G mn_T mn_E))
/-! statements -/
theorem sds_asg {xs : List Nat} {f : D → Sg → Option Sg} (he : QE X g W M1 e fe) (hg : QG X g xs tg f) (hs : swapsWithSole [tg] e pos.line X.env = pure false := by rfl) (hw : swappedStores [tg] e X.env = pure none := by rfl)
    (h1 : (assignEach [tg] X.env).map (·.2) = [assign tg X.env] := by rfl) (hMz : Mz = (M1 ++ xs.map (X.N.length + ·)) := by rfl) : QS X g W Mz (.Assign [tg] e pos) (cAsg f fe) := by
  subst hMz
  exact (qS (ps_asg he hg hs hw h1) (mean_asg mn_E mn_G))
theorem sds_set (z : Bool) (i : Nat) {y : Str} (cx : X.N.Nodup) (he : QE X g W M1 e fe) (hi : X.N[i]? = some y := by rfl) (hx : Loc X.env.scope y := by first | exact Or.inl rfl | exact Or.inr rfl) (hs : swapsWith e (some (.Name y pos')) pos.line X.env = pure false := by rfl)
    (hf : X.fn y = true ∨ X.env.scope.names.lookup y = some .local := by first | exact .inl rfl | exact .inr rfl) (hMz : Mz = (M1 ++ [i].map (X.N.length + ·)) := by rfl) : QS X g W Mz (.Assign [.Name y pos'] e pos) (cAsg (gSet z i) fe) := by
  subst hMz
  exact (qS (ps_set cx hi hx he hs hf) (mean_asg mn_E (meang_name (List.getElem?_eq_some_iff.mp hi).1)))
theorem sds_setLc (z : Bool) (i : Nat) {y : Str} {ifs : List Expr} {scope : Scope} (own : List (Str × Nat)) {fi : Sg → R (D × List D)} {tf : D → Sg → Option Sg} (cx : CxE X W) (hi : QI X g W M1 tg iter fi) (ok : BlkOk X.N X.env.scope scope own)
    (hg : ∀ (s : Shared) (H : Hp) (C : Addr) (cl : List (Str × Addr)) (fp : List Addr), CxE (X.blk s H scope (compEnvC scope cl C X.env) fp) (fun _ _ _ _ => False) → QG (X.blk s H scope (compEnvC scope cl C X.env) fp) g (own.map (·.2)) tg tf)
    (ht : ∀ (s : Shared) (H : Hp) (C : Addr) (cl : List (Str × Addr)) (fp : List Addr), CxE (X.blk s H scope (compEnvC scope cl C X.env) fp) (fun _ _ _ _ => False) → QTs (X.blk s H scope (compEnvC scope cl C X.env) fp) g (fun _ _ _ _ => False) M2 ifs ft)
    (he : ∀ (s : Shared) (H : Hp) (C : Addr) (cl : List (Str × Addr)) (fp : List Addr), CxE (X.blk s H scope (compEnvC scope cl C X.env) fp) (fun _ _ _ _ => False) → QE (X.blk s H scope (compEnvC scope cl C X.env) fp) g (fun _ _ _ _ => False) M3 a fa)
    (hy : X.N[i]? = some y := by rfl) (hyl : X.env.scope.names.lookup y = some .local := by rfl) (hsw : swapsWith (.ListComp a [⟨tg, iter, ifs, 0⟩] scope p) (some (.Name y pos')) pos.line X.env = pure true := by rfl)
    (hs : ∀ x, foldedSetIterable iter X.env x = pure x := by intro _; rfl) (hMz : Mz = ((M1 ++ (M2 ++ M3) ++ own.map (·.2)) ++ [i].map (X.N.length + ·)) := by rfl) : QS X g W Mz (.Assign [.Name y pos'] (.ListComp a [⟨tg, iter, ifs, 0⟩] scope p) pos) (cAsg (gSet z i) (cLc (own.map (·.2)) (M2 ++ M3) tf fi ft fa)) := by
  subst hMz
  exact (qS (ps_setLc (g := tG g X.N.length (own.map Prod.snd) tf) (tt := tT g X.N.length (fun _ _ _ _ => False) M2 ft) (te := tE g X.N.length (fun _ _ _ _ => False) M3 fa) cx.calm cx.nd hy hyl hsw hi ok (fun s H C cl fp => hg s H C cl fp (cx.blk ..)) (fun s H C cl fp => ht s H C cl fp (cx.blk ..)) (fun s H C cl fp => he s H C cl fp (cx.blk ..)) hs) (mean_asg (mean_lc (fun x hx => by
    obtain ⟨q, hq, rfl⟩ := List.mem_map.mp hx
    exact (List.getElem?_eq_some_iff.mp (ok.ix q hq)).1) mn_I mn_G mn_T mn_E) (meang_name (List.getElem?_eq_some_iff.mp hy).1)))
def oSet (s : Sh) (ds : List D) (i v : D) : Option (Sh × List D) := (sLst s ds i v).or (sDic s ds i v)
theorem sds_setAt {r : Nat} {fp : Sg → R (List Nat)} (cx : CxE X W) (he : QE X g W M1 e fe) (hp : QP X g W M2 r o fp) (hi : QE X g W M3 b fb) (hs : swapsWithSole [.Subscript o b pos'] e pos.line X.env = pure false := by rfl) (hw : swappedStores [.Subscript o b pos'] e X.env = pure none := by rfl)
    (h1 : (assignEach [.Subscript o b pos'] X.env).map (·.2) = [assign (.Subscript o b pos') X.env] := by rfl)
    (ha : ∀ v, assign (.Subscript o b pos') X.env v = (do
      let ov ← holding [v] (eval o X.env)
      let iv ← holding [v, ov] (eval b X.env)
      standAt pos'
      holding [v, ov, iv] (setItem ov iv v)
      release [v, ov, iv] []) := by intro _; rfl) (hMz : Mz = (M1 ++ (M2 ++ M3) ++ [r]) := by rfl) : QS X g W Mz (.Assign [.Subscript o b pos'] e pos) (cSetAt r (M2 ++ M3) fe fp fb oSet) := by
  subst hMz
  exact (qS (ps_asg he (pg_sub hp hi (PSet.or set_list (pset_dict (by have := cx.un; omega))) ha) hs hw h1) (mean_setAt mn_E mn_P mn_E (stm_lst.or stm_dic)))
theorem sds_fld {r : Nat} {f : Str} {fp : Sg → R (List Nat)} (hc : Cls X.K (g.cl cn)) (hf : NoAttr X.K (g.cl cn) f) (he : QE X g W M1 e fe) (hp : QP X g W M2 r o fp) (hs : swapsWith e (some (.Attribute o f pos')) pos.line X.env = pure false := by rfl) (hMz : Mz = (M1 ++ (M2 ++ []) ++ [r]) := by rfl) : QS X g W Mz (.Assign [.Attribute o f pos'] e pos) (cSetAt r (M2 ++ []) fe fp (cLit .non) (sAttr cn f)) := by
  subst hMz
  exact (qS (ps_fld hp he hs) (mean_setAt mn_E mn_P (mean_lit .non) (stm_attr hc hf)))
theorem sds_expr (he : QE X g W M1 e fe) (hs : swapsWith e none pos.line X.env = pure false := by rfl) : QS X g W M1 (.Expr e pos) (cExpr fe) := qS (ps_expr he hs) (mean_expr mn_E)
theorem sds_ret (he : QE X g W M1 e fe) : QS X g W M1 (.Return (some e) pos) (cRet fe) := qS (ps_ret he) (mean_ret mn_E)
theorem sds_retN : QS X g W [] (.Return none pos) cRetN := qS ps_retN mean_retN
theorem sds_pass : QS X g W [] (.Pass pos) cNext := qS ps_pass mean_next
theorem sds_brk : QS X g W [] (.Break pos) cBrk := qS ps_break mean_brk
theorem sds_cnt : QS X g W [] (.Continue pos) cCnt := qS ps_continue mean_cnt
theorem sds_never : QS X g W [] st cBad := qS ps_never mean_never
theorem sds_if (hc : QT X g W M1 c ft) (h1 : QSs X g W M2 sts f1) (h2 : QSs X g W M3 sts' f2) (hMz : Mz = (M1 ++ (M2 ++ M3)) := by rfl) : QS X g W Mz (.If c sts sts' pos) (cIf ft f1 f2) := by
  subst hMz
  exact (qS (ps_if hc h1 h2) (mean_if mn_T mn_S mn_S))
theorem sds_while (k : Nat) (cx : CxS X W) (hc : QT X g W M1 c ft) (h1 : QSs X g W M2 sts f1) (hMz : Mz = (M1 ++ M2) := by rfl) : QS X g W Mz (.While c sts [] pos) (whileL ft f1 k) := by
  subst hMz
  exact (qS (ps_while cx.pass hc h1) (mean_while k mn_T mn_S))
theorem sds_for {xs : List Nat} {fi : Sg → R (D × List D)} {tf : D → Sg → Option Sg} (cx : CxS X W) (hi : QI X g W M1 tg iter fi) (hg : QG X g xs tg tf) (hb : QSs X g W M2 sts f1) (hs : ∀ x, foldedSetIterable iter X.env x = pure x := by intro _; rfl) (hMz : Mz = (M1 ++ (xs.map (X.N.length + ·) ++ M2)) := by rfl) : QS X g W Mz (.For tg iter sts [] pos) (cFor M2 tf fi f1) := by
  subst hMz
  exact (qS (ps_for cx.pass cx.calm hi hg hb hs) (mean_for mn_I mn_G mn_S))
theorem sdb_nil : QSs X g W [] [] cNext := qSs pss_nil mean_next
theorem sdb_one (h : QS X g W M1 st f1) : QSs X g W M1 [st] f1 := qSs (pss_one h) mn_S
theorem sdb_cons (h1 : QS X g W M1 st f1) (h2 : QSs X g W M2 sts f2) (hMz : Mz = (M1 ++ M2) := by rfl) : QSs X g W Mz (st :: sts) (cSeq f1 f2) := by
  subst hMz
  exact (qSs (pss_cons h1 h2) (mean_seq mn_S mn_S))
end
/-! ### defs -/
section
variable {P : Program} {w : World} {K : PySem.W.Frag} {mg : Str → Option Value} {base : Heap} {g : Gc}
theorem cx_ok {N ps : List Str} {sc : Scope} (S : FnScope N ps sc) {qual : Str} {f : Addr} {cdv : Value} {A : Around} {outer : List Env} {s : Shared} {H : Hp} {E : XK} {k : Nat} (hr : Room k (A.deeper (PyProof.Rows.envOfC qual sc s.heap.objs.size f cdv))) :
    CxS (cxOf (L2.CX P w) P w K mg base N qual sc f cdv A outer s H E) (fun cls d _ H => E cls d H) :=
  ⟨⟨rfl, takes_of rfl rfl rfl rfl, S.nd, hr.mono (Nat.zero_le _)⟩, passes_of rfl⟩
theorem def_ok {x qual : Str} {st : Stmt} {f : Addr} {fd : FuncData} {N ps : List Str} {k : Nat} (hph : ∀ Γ, g.ph Γ) (M : List Nat) {fb : Sg → R Fl} (F : Fun K x qual st f fd) (S : FnScope N ps (defScope st)) (mr : List Bool) (hmr : mr.length = ps.length) (hM : ∀ i : Nat, mr[i]? = some true → N.length + i ∉ M)
    (hb : ∀ (cdv : Value) (A : Around) (outer : List Env) (s : Shared) (H : Hp) (E : XK), Room k (A.deeper (PyProof.Rows.envOfC qual (defScope st) s.heap.objs.size f cdv)) →
      CxS (cxOf (L2.CX P w) P w K mg base N qual (defScope st) f cdv A outer s H E) (fun cls d _ H => E cls d H) →
      QSs (cxOf (L2.CX P w) P w K mg base N qual (defScope st) f cdv A outer s H E) g (fun cls d _ H => E cls d H) M (defBody st) fb) :
    FnOk P w K mg base (L2.CX P w) (k + 1) f fd ps (spOf g mr (semOf N.length mr fb)) :=
  fn_ok hph F S mr hmr hM fun cdv A outer s H E hr => ⟨_, hb cdv A outer s H E hr (cx_ok S hr), mn_S⟩
end
end Lin
end
section
namespace Lin
open PySem L2
theorem keep_of {mr : List Bool} {n : Nat} {M : List Nat} (h : (mr.zipIdx.all fun p => !p.1 || !M.contains (n + p.2)) = true) : ∀ i : Nat, mr[i]? = some true → n + i ∉ M := by
  intro i hi hm
  rw [List.all_eq_true] at h
  have := h (true, i) (by
    rw [List.mem_iff_getElem?]
    exact ⟨i, by rw [List.getElem?_zipIdx, hi]; simp⟩)
  simp [hm] at this
/-! ### a slot by reference that the arguments behind it use too -/
section
variable {g : Gc} {n : Nat} {W : WX} {Γ : Gh} {A A' A'' B : List (Option T)} {σ : L2.St} {H H' : Hp} {t : T} {M M1 M2 M3 Mz : List Nat}
/-- places of temps do not matter -/
theorem Rel.reix (Rr : Rel g Γ n A σ H) (f : Nat → Nat) (hn : n ≤ A'.length) (inj : ∀ i j, f i = f j → i = j) (fx : ∀ i, i < n → f i = i) (h : ∀ (i : Nat) t, A'[i]? = some (some t) → A[f i]? = some (some t)) : Rel g Γ n A' σ H := by
  have hc : ∀ {i c}, CellAt g A' i c → CellAt g A (f i) c := fun ⟨t, e, m⟩ => ⟨t, h _ _ e, m⟩
  refine ⟨hn, Rr.slen, fun i t hi e => Rr.val i t hi (by have := h i t e; rw [fx i hi] at this; exact this), fun i c x => Rr.hold _ c (hc x), fun i c r x => Rr.lab _ c r (hc x), fun i t e => Rr.nd _ t (h i t e), fun i j c d x y ho ha => ?_, Rr.frame, fun i c x => Rr.gown _ c (hc x), fun i c x => Rr.gfrz _ c (hc x), Rr.pin⟩
  rcases Rr.sep _ _ c d (hc x) (hc y) ho ha with ⟨e, k⟩ | ⟨e, k⟩
  · exact .inl ⟨inj _ _ e, k⟩
  · have hl := Rr.lab _ d _ (hc y) k
    have : f i = i := inj _ _ (fx _ hl)
    rw [this] at k
    exact .inr ⟨fun z => e (by rw [z]), k⟩
theorem Rel.rot {o : Option T} (Rr : Rel g Γ n (A ++ B ++ [o]) σ H) (hn : n ≤ A.length) : Rel g Γ n (A ++ [o] ++ B) σ H := by
  refine Rr.reix (fun i => if i < A.length then i else if i = A.length then A.length + B.length else if i ≤ A.length + B.length then i - 1 else i) (by simp; omega) (fun i j e => ?_) (fun i hi => if_pos (by omega)) fun i t e => ?_
  · repeat' split at e
    all_goals omega
  · by_cases h1 : i < A.length
    · rw [if_pos h1]
      rw [List.append_assoc, List.getElem?_append_left h1] at e
      rw [List.append_assoc, List.getElem?_append_left h1]
      exact e
    · rw [if_neg h1]
      by_cases h2 : i = A.length
      · rw [if_pos h2]
        subst h2
        rw [List.append_assoc, List.getElem?_append_right (Nat.le_refl _), Nat.sub_self] at e
        have e2 : o = some t := by simpa using e
        rw [List.getElem?_append_right (by simp)]
        simp [e2]
      · rw [if_neg h2]
        rw [List.append_assoc, List.getElem?_append_right (by omega)] at e
        obtain ⟨k, hk⟩ : ∃ k, i - A.length = k + 1 := ⟨i - A.length - 1, by omega⟩
        rw [hk] at e
        have e2 : B[k]? = some (some t) := by simpa using e
        have hkB : k < B.length := (List.getElem?_eq_some_iff.mp e2).1
        rw [if_pos (by omega), List.getElem?_append_left (by simp; omega), List.getElem?_append_right (by omega), show i - 1 - A.length = k by omega]
        exact e2
def cRefsL (r : Nat) (fr : Sg → R (List D)) : Sg → R (List D) := fun S => match S[r]? with
  | some (some _) => (fr S).bind fun ds S1 => if ds.all (fun d => !hasBor r d) = true then (cMv r S1).bind fun d S2 => if ofD d = true then .ok (d :: ds) S2 else .bad else .bad
  | _ => .bad
theorem meanc_refL {rs : List (Option Nat)} {r : Nat} {tr : TA} {fr : Sg → R (List D)} (hr : MeanC g n W rs M2 tr fr) : MeanC g n W (some r :: rs) (M2 ++ [r]) (tCons (tVar r) tr) (cRefsL r fr) := by
  intro Γ A σ H Q Rr cl h
  unfold cRefsL at h
  show tVar r σ H _
  split at h
  · rename_i d0 e
    obtain ⟨t0, e1, _, hi⟩ := ers_some e
    refine ⟨_, Rr.val r t0 hi e1, ?_⟩
    refine hr Γ A σ H _ Rr cl.left ?_
    cases eb : fr (ers n A) with
    | bad => rw [eb] at h; exact h.elim
    | exc c d S => rw [eb] at h; exact h
    | ok ds S1 =>
      rw [eb] at h
      dsimp only [Lin.R.bind] at h
      intro A1 ts H1 R1 x1 e3 d1 rf
      by_cases hds : ds.all (fun d => !hasBor r d) = true
      · rw [if_pos hds] at h
        unfold cMv at h
        rcases e4 : S1[r]? with _ | o
        · rw [e4] at h; exact h.elim
        rcases o with _ | d
        · rw [e4] at h; exact h.elim
        · rw [e4] at h
          dsimp only [Lin.R.bind] at h
          rw [← e3] at e4
          obtain ⟨t, e5, e6, _⟩ := ers_some e4
          have n1 : n ≤ A1.length := by rw [x1.len]; exact Rr.len
          have hv : t0.root = t.root := by
            have q1 := Rr.val r t0 hi e1
            have q2 := R1.val r t hi (by rw [List.getElem?_append_left (by omega)]; exact e5)
            rw [q1] at q2
            simpa using q2
          by_cases hb : hasBor r d = true
          · rw [if_pos hb] at h; exact h.elim
          · rw [if_neg hb] at h
            dsimp only at h
            by_cases hof : ofD d = true
            · rw [if_pos hof] at h
              have hb' : hasBor r t.er = false := by rw [e6]; simpa using hb
              have clk : Clean g n [r] (A1 ++ ts.map some) := (cl.right.next x1.toNext Rr.len).snocs (by
                rw [d1, List.all_eq_true]
                intro y hy
                rw [List.all_eq_true] at hds
                unfold cleanD
                rw [List.all_cons, List.all_nil, Bool.and_true]
                exact hds y hy)
              have ek : kill n r (A1 ++ ts.map some) = kill n r A1 ++ ts.map some := by
                unfold kill
                rw [List.take_append_of_le_length n1, List.drop_append_of_le_length n1, List.append_assoc]
              have hkl : n ≤ (kill n r A1).length := by rw [kill_length]; exact n1
              have e7 : (kill n r A1)[r]? = some (some t) := by
                unfold kill
                rw [List.getElem?_append_left (by simp; omega), List.getElem?_map, List.getElem?_take_of_lt hi, e5]
                show some (if hasBor r t.er then none else some t) = _
                rw [hb']; rfl
              have R2 := (R1.kill r).move (t := t) hi (by rw [ek, List.getElem?_append_left (by omega)]; exact e7) (kill_clean clk)
              rw [ek, List.set_append_left _ _ (by omega)] at R2
              have R3 := R2.rot (by rw [List.length_set]; exact hkl)
              have x2 : NextM n [r] A1 ((kill n r A1).set r none) := by
                refine ⟨⟨by rw [List.length_set, kill_length], ?_⟩, fun j hj hm => ?_⟩
                · rw [List.drop_set_of_lt hi]
                  exact (nextM_kill (r := r) (M := []) n1 (.refl _ _)).tmp
                · have : j ≠ r := by simpa using hm
                  rw [List.getElem?_set_ne (Ne.symm this)]
                  exact kill_slot n1 hj
              have nK : n ≤ ((kill n r A1).set r none).length := by rw [List.length_set]; exact hkl
              have := h ((kill n r A1).set r none) (t :: ts) H1 (by simpa using R3) (x1.trans x2) (by
                rw [ers_set hi, ers_kill n1, e3]; rfl) (by rw [List.map_cons, e6, d1]) fun i q hq => ?_
              · rw [hv]; exact this
              · cases i with
                | zero =>
                  have : r = q := by simpa using hq
                  subst this
                  exact ⟨t, rfl, by rw [← hv]; exact Rr.val r t0 hi e1, List.getElem?_set_self (by omega), hi⟩
                | succ i =>
                  obtain ⟨u, z1, z2, z3, z4⟩ := rf i q (by simpa using hq)
                  refine ⟨u, by simpa using z1, z2, ?_, z4⟩
                  by_cases hqr : q = r
                  · subst hqr; exact List.getElem?_set_self (by omega)
                  · rw [List.getElem?_set_ne (Ne.symm hqr)]
                    rcases kill_slot (r := r) n1 z4 with y | y
                    · rw [y]; exact z3
                    · exact y
            · rw [if_neg hof] at h; exact h.elim
      · rw [if_neg hds] at h; exact h.elim
  · exact h.elim
end
theorem sdc_refL {Mz : List Nat} {X : Cx} {g : Gc} {W : WX} {M2 : List Nat} {es : List Expr} {pos : Pos} {fr : Sg → R (List D)} {rs : List (Option Nat)} (r : Nat) {y : Str} (hr : QC X g W M2 rs es fr) (hN : X.N[r]? = some y := by rfl) (hv : Vis X.env.scope y := by first | exact Or.inl rfl | exact Or.inr (Or.inl rfl) | exact Or.inr (Or.inr rfl)) (hd : (y == ("__debug__" : Str)) = false := by decide)
    (hcd : (y == ("__classdict__" : Str)) = false := by decide) (hs : starEach (.Name y pos :: es) X.env = (false, eval (.Name y pos) X.env) :: starEach es X.env := by rfl) (hMz : Mz = M2 ++ [r] := by rfl) : QC X g W Mz (some r :: rs) (.Name y pos :: es) (cRefsL r fr) := by
  subst hMz
  exact qC (pa_cons (pe_var hN hv hd hcd) hr hs) (meanc_refL mn_C)
/-! ### the script -/
def bListS (sa : Option Addr) (ns : List Int) (ds : List D) : Option D := match ds with
  | [.nd _ .scr _] => some (intsD ns)
  | [.im (.ref b)] => if sa = some b then some (intsD ns) else none
  | _ => none
/-- what list(script) needs: known to the heap, or one of the module's own objects -/
structure ScrOk (K : PySem.W.Frag) (g : Gc) (sa : Option Addr) (ns : List Int) : Prop where
  h : ∀ (H : Hp) (b : Addr), H b = some g.scr → SqL K H b (ns.map V.int)
  k : ∀ b, sa = some b → ∀ H : Hp, SqL K H b (ns.map V.int)
theorem cam_listS {K : PySem.W.Frag} {g : Gc} {n : Nat} {sa : Option Addr} {ns : List Int} (hS : ScrOk K g sa ns) : CaM g n (fun xs H Q => ∃ p ys, xs = [V.ref p] ∧ (SqL K H p ys ∨ SqT K H p ys) ∧ ∀ l, H l = none → Q (.ref l) (upd H l (.lst ys))) (bListS sa ns) := by
  intro Γ A ts σ H Q d Rr hn eo hq
  unfold bListS at eo
  split at eo
  · rename_i k xs q
    obtain ⟨t, rfl, q'⟩ := er1 q
    obtain ⟨a, dx, us, rfl, h1⟩ := er_nd q'
    cases eo
    exact ⟨a, _, rfl, .inl (hS.h H a Rr.top1), fun p hp => hq _ _ (Rr.newInts hn hp ns) (intsD_er _ _)⟩
  · rename_i b q
    obtain ⟨t, rfl, q'⟩ := er1 q
    split at eo
    · rename_i hb
      cases eo
      rw [er_im q'] at Rr ⊢
      exact ⟨b, _, rfl, .inl (hS.k b hb H), fun p hp => hq _ _ (Rr.newInts hn hp ns) (intsD_er _ _)⟩
    · cases eo
  · cases eo
theorem bu_listS {X : Cx} {g : Gc} {sa : Option Addr} {ns : List Int} (hS : ScrOk X.K g sa ns) : BuF X g (.type "list") (bListS sa ns) := ⟨_, call_list_of, cam_listS hS⟩
/-! ### the law -/
def spScr (K : PySem.W.Frag) : Sp := fun vs H Q _ => ∃ (a : Addr) (ns : List Int), vs = [.ref a] ∧ SqL K H a (ns.map V.int) ∧ Only H ∧ ns.length ≤ 63 ∧ (∀ z ∈ ns, Builtin.Int.intBits z ≤ 1048576) ∧ ∀ H', Q (.bl true) H'
theorem law_fin {P : Program} {w : World} {K : PySem.W.Frag} {mg : Str → Option Value} {base : Heap} {k : Nat} {f : Addr} {fd : FuncData} {x : Str} (cl : Nat → Addr) {m : Option Addr → List Int → FSem}
    (F : ∀ scr sa ns, ScrOk K ⟨cl, scr, fun _ => True⟩ sa ns → FnOk P w K mg base (L2.CX P w) k f fd [x] (spOf ⟨cl, scr, fun _ => True⟩ [false] (m sa ns)))
    (hp : ∀ sa ns d, ns.length ≤ 63 → (∀ z ∈ ns, Builtin.Int.intBits z ≤ 1048576) → (d = .nd .frz .scr [] ∨ ∃ b, sa = some b ∧ d = .im (.ref b)) → m sa ns [d] = .ok (.im (.bl true)) []) :
    FnOk P w K mg base (L2.CX P w) k f fd [x] (spScr K) := by
  have key : ∀ vs H Q E, spScr K vs H Q E → ∃ sp', FnOk P w K mg base (L2.CX P w) k f fd [x] sp' ∧ sp' vs H Q E := by
    rintro vs H Q E ⟨a, ns, rfl, hS, hO, hl, hb, hq⟩
    have mk : ∀ (scr : HO) (sa : Option Addr) (t : T), ScrOk K ⟨cl, scr, fun _ => True⟩ sa ns → t.root = .ref a → (t.er = .nd .frz .scr [] ∨ ∃ b, sa = some b ∧ t.er = .im (.ref b)) → (∀ c ∈ t.cells ⟨cl, scr, fun _ => True⟩, H c.2.1 = some c.2.2) → (∀ c ∈ t.cells ⟨cl, scr, fun _ => True⟩, c.1 = .frz) →
        ∃ sp', FnOk P w K mg base (L2.CX P w) k f fd [x] sp' ∧ sp' [.ref a] H Q E := fun scr sa t hs hr he hh hf => by
      have hc : ∀ c ∈ cellsL ⟨cl, scr, fun _ => True⟩ [t], c ∈ t.cells ⟨cl, scr, fun _ => True⟩ := fun c h => by simpa [cellsL] using h
      refine ⟨_, F scr sa ns hs, [t], by simp [hr], ⟨rfl, fun c h => hh c (hc c h), fun i u hu c h => ?_, ?_, fun c h d _ ho => ?_⟩, ?_⟩
      · cases i with
        | zero => have : t = u := by simpa using hu
                  subst this; exact .inl (hf c h)
        | succ i => simp at hu
      · have : ownsC (cellsL ⟨cl, scr, fun _ => True⟩ [t]) = [] := owns_none fun c h => by rw [hf c (hc c h)]; simp
        rw [this]; exact List.nodup_nil
      · rw [hf c (hc c h)] at ho; cases ho
      · have e := hp sa ns t.er hl hb he
        rw [List.map_cons, List.map_nil, e]
        intro H' t' us _ et _
        rw [er_im et]
        exact hq H'
    rcases hS with (h1 | ⟨o, h1⟩) | h1
    · rcases hO a with z | ⟨o, xs, z⟩ <;> (rw [h1] at z; cases z)
    · refine mk (.frz o (.lst (ns.map V.int))) none (.nd a .frz .scr 0 []) ⟨fun H b e => .inl (.inr ⟨o, e⟩), fun b e => nomatch e⟩ rfl (.inl rfl) (fun c h => ?_) (fun c h => ?_)
      · have : c = (.frz, a, .frz o (.lst (ns.map V.int))) := by simpa [T.cells, cellsL, ho] using h
        rw [this]; exact h1
      · have : c = (.frz, a, .frz o (.lst (ns.map V.int))) := by simpa [T.cells, cellsL, ho] using h
        rw [this]
    · exact mk (.frz default (.lst (ns.map V.int))) (some a) (.im (.ref a)) ⟨fun H b e => .inl (.inr ⟨_, e⟩), fun b e H => by cases e; exact .inr h1⟩ rfl (.inr ⟨a, rfl, rfl⟩) (fun c h => by simp [T.cells] at h) (fun c h => by simp [T.cells] at h)
  refine ⟨fun vs H Q E h => ?_, fun A outer s H args us vs Q E hr e0 hb r hsp => ?_⟩
  · obtain ⟨a, ns, rfl, _⟩ := h; rfl
  · obtain ⟨_, F', q⟩ := key vs H Q E hsp
    exact F'.run A outer s H args us vs Q E hr e0 hb r q
theorem law_walk {l : PySem.W.OpenLaw} {k : Nat} {x : Str} {q : Program} {loose : List Str} {XP : (Str → Option Value) → Heap → Prop} {YP : World → Heap → Prop} {d : DefRec} {K : Params → PySem.W.Frag} (hn : l.most = some 63) (hdf : d.params.defaults = []) (hr : Room k callerA)
    (hY : ∀ (w : World) (h : Heap), YP w h → (K w.params).In h)
    (F : ∀ (w : World) (mg : Str → Option Value) (fa : Addr) (h : Heap), (K w.params).In h → h.Ns mainGlobals mg → mg d.name = some (.ref fa) →
      ∃ fd : FuncData, (∀ (s : Shared) (u : Value), BindsTo s fd ⟨[u], []⟩ [(x, u)]) ∧ ∀ base : Heap, (K w.params).In base → base.Ns mainGlobals mg → FnOk l.prog w (K w.params) mg base (L2.CX l.prog w) k fa fd [x] (spScr (K w.params))) :
    PySem.W.WalkO q loose XP YP l.row.toRowW d [] (fun f vs => PySem.call f vs) :=
  L2.walk_ofB (n := 63) (k := k) (x := x) (CX := fun w => L2.CX l.prog w) (sp := fun w => spScr (K w.params)) hn (by decide) hdf hr hY F (fun _ H a ns hl hb hO hS => ⟨a, ns, rfl, hS, hO, hl, hb, fun _ => rfl⟩) fun _ _ _ _ _ ⟨_, _, _, _, _, _, _, _, _, _, _, _, z⟩ => z
end Lin
end
section
namespace Lin.V0
open PySem L2 Lin
/-! ### the plain side: what a meaning gives, by a wish behind it -/
/-- what is wished of an error -/
abbrev EX := Nat → D → Sg → Prop
abbrev EC := Nat → D → List D → Prop
def OkE {α : Type} (E : EX) (x : R α) (Q : α → Sg → Prop) : Prop := match x with
  | .ok a S => Q a S
  | .exc c d S => E c d S
  | .bad => False
def OkCE (E : EC) (x : Rc) (Q : D → List D → Prop) : Prop := match x with
  | .ok d ms => Q d ms
  | .exc c d ms => E c d ms
  | .bad => False
def E0 : EX := fun _ _ _ => False
def EC0 : EC := fun _ _ _ => False
abbrev Ok {α : Type} (x : R α) (Q : α → Sg → Prop) : Prop := OkE E0 x Q
abbrev OkC (x : Rc) (Q : D → List D → Prop) : Prop := OkCE EC0 x Q
def So {α : Type} (x : Option α) (Q : α → Prop) : Prop := match x with
  | some a => Q a
  | none => False
def OkF (Q : Fl → Sg → Prop) (K : Sg → Prop) : Fl → Sg → Prop := fun fl S => match fl with
  | .nx => K S
  | fl => Q fl S
section
variable {α β : Type} {E : EX} {Ec : EC}
theorem ok_ok {a : α} {S : Sg} {Q : α → Sg → Prop} : OkE E (.ok a S) Q = Q a S := rfl
theorem ok_bad {Q : α → Sg → Prop} : OkE E (.bad) Q = False := rfl
theorem so_some {a : α} {Q : α → Prop} : So (some a) Q = Q a := rfl
theorem so_none {Q : α → Prop} : So none Q = False := rfl
theorem ok_bind {x : R α} {f : α → Sg → R β} {Q : β → Sg → Prop} : OkE E (x.bind f) Q = OkE E x fun a S => OkE E (f a S) Q := by cases x <;> rfl
theorem ok_lift {o : Option α} {S : Sg} {Q : α → Sg → Prop} : OkE E (R.lift o S) Q = So o fun a => Q a S := by cases o <;> rfl
theorem Ok.mono {x : R α} {Q Q' : α → Sg → Prop} (h : OkE E x Q) (m : ∀ a S, Q a S → Q' a S) : OkE E x Q' := by
  cases x with
  | ok a S => exact m a S h
  | exc c d S => exact h
  | bad => exact h
theorem OkC.mono {x : Rc} {Q Q' : D → List D → Prop} (h : OkCE Ec x Q) (m : ∀ d ms, Q d ms → Q' d ms) : OkCE Ec x Q' := by
  cases x with
  | ok a S => exact m a S h
  | exc c d S => exact h
  | bad => exact h
theorem OkE.monoE {E' : EX} {x : R α} {Q Q' : α → Sg → Prop} (h : OkE E x Q) (m : ∀ a S, Q a S → Q' a S) (me : ∀ c d S, E c d S → E' c d S) : OkE E' x Q' := by
  cases x with
  | ok a S => exact m a S h
  | exc c d S => exact me c d S h
  | bad => exact h
theorem OkE.mono {x : R α} {Q Q' : α → Sg → Prop} (h : OkE E x Q) (m : ∀ a S, Q a S → Q' a S) : OkE E x Q' := Ok.mono h m
theorem OkCE.mono {x : Rc} {Q Q' : D → List D → Prop} (h : OkCE Ec x Q) (m : ∀ d ms, Q d ms → Q' d ms) : OkCE Ec x Q' := OkC.mono h m
theorem Ok.get {x : R α} {Q : α → Sg → Prop} (h : Ok x Q) : ∃ a S, x = .ok a S ∧ Q a S := by
  cases x with
  | ok a S => exact ⟨a, S, rfl, h⟩
  | exc c d S => exact False.elim h
  | bad => exact False.elim h
theorem OkC.get {x : Rc} {Q : D → List D → Prop} (h : OkC x Q) : ∃ d ms, x = .ok d ms ∧ Q d ms := by
  cases x with
  | ok a S => exact ⟨a, S, rfl, h⟩
  | exc c d S => exact False.elim h
  | bad => exact False.elim h
theorem So.get {x : Option α} {Q : α → Prop} (h : So x Q) : ∃ a, x = some a ∧ Q a := by
  cases x with
  | some a => exact ⟨a, rfl, h⟩
  | none => exact False.elim h
theorem So.mono {x : Option α} {Q Q' : α → Prop} (h : So x Q) (m : ∀ a, Q a → Q' a) : So x Q' := by
  cases x with
  | some a => exact m a h
  | none => exact h
theorem so_or {x y : Option α} {Q : α → Prop} : So (x.or y) Q = match x with | some a => Q a | none => So y Q := by cases x <;> rfl
theorem so_map {f : α → β} {x : Option α} {Q : β → Prop} : So (x.map f) Q = So x fun a => Q (f a) := by cases x <;> rfl
theorem so_bind {f : α → Option β} {x : Option α} {Q : β → Prop} : So (x.bind f) Q = So x fun a => So (f a) Q := by cases x <;> rfl
theorem so_ite {c : Prop} [Decidable c] {x y : Option α} {Q : α → Prop} : So (if c then x else y) Q = if c then So x Q else So y Q := by split <;> rfl
theorem ok_ite {c : Prop} [Decidable c] {x y : R α} {Q : α → Sg → Prop} : OkE E (if c then x else y) Q = if c then OkE E x Q else OkE E y Q := by split <;> rfl
end
section
variable {E : EX} {Ec : EC} {S : Sg} {Q : D → Sg → Prop} {QB : Bool → Sg → Prop} {QL : List D → Sg → Prop} {QF : Fl → Sg → Prop} {fa fb fc fe : Sg → R D} {ft fu : Sg → R Bool} {fr : Sg → R (List D)} {f h : Sg → R Fl} {M M2 : List Nat}
theorem ok_var {i : Nat} : OkE E (cVar i S) Q = So (S[i]?) fun o => So o fun d => Q (d.mk (kBo i)) S := by
  unfold cVar
  rcases e : S[i]? with _ | _ | d <;> rfl
theorem ok_mv {i : Nat} : OkE E (cMv i S) Q = So (S[i]?) fun o => So o fun d => if hasBor i d = true then False else Q d ((S.map (killD i)).set i none) := by
  unfold cMv
  rcases e : S[i]? with _ | _ | d
  · rfl
  · rfl
  · show OkE E (if hasBor i d then R.bad else _) Q = if hasBor i d = true then False else _
    split <;> rfl
theorem ok_lit {v : V} : OkE E (cLit v S) Q = Q (.im v) S := rfl
theorem ok_two {op : D → D → Option D} : OkE E (cTwo M2 fa fb op S) Q = OkE E (fa S) fun da S1 => if cleanD M2 da = true then OkE E (fb S1) fun db S2 => So (op da db) fun d => Q d S2 else False := by
  unfold cTwo
  rw [ok_bind]
  congr; funext da S1
  split
  · rw [ok_bind]; congr; funext db S2; rw [ok_lift]
  · rfl
theorem ok_one {op : D → Option D} : OkE E (cOne fa op S) Q = OkE E (fa S) fun da S1 => So (op da) fun d => Q d S1 := by
  unfold cOne
  rw [ok_bind]; congr; funext da S1; rw [ok_lift]
theorem ok_test {op : D → Option Bool} : OkE E (cTest fa op S) QB = OkE E (fa S) fun da S1 => So (op da) fun d => QB d S1 := by
  unfold cTest
  rw [ok_bind]; congr; funext da S1; rw [ok_lift]
theorem ok_nil : OkE E (cNil S) QL = QL [] S := rfl
theorem ok_cons : OkE E (cCons M2 fa fr S) QL = OkE E (fa S) fun da S1 => if cleanD M2 da = true then OkE E (fr S1) fun ds S2 => QL (da :: ds) S2 else False := by
  unfold cCons
  rw [ok_bind]; congr; funext da S1
  split
  · rw [ok_bind]; rfl
  · rfl
theorem ok_consK {P : D → Bool} : OkE E (cConsK P M2 fa fr S) QL = OkE E (fa S) fun da S1 => if cleanD M2 da = true ∧ P da = true then OkE E (fr S1) fun ds S2 => QL (da :: ds) S2 else False := by
  unfold cConsK
  rw [ok_bind]; congr; funext da S1
  split
  · rw [ok_bind]; rfl
  · rfl
theorem ok_star : OkE E (cStar M2 fa fr S) QL = OkE E (fa S) fun da S1 => So (seqD da) fun ds => if (ds.map (D.mk kFz)).all (cleanD M2) = true then OkE E (fr S1) fun ds2 S2 => QL (ds.map (D.mk kFz) ++ ds2) S2 else False := by
  unfold cStar
  rw [ok_bind]; congr; funext da S1
  cases seqD da with
  | none => rfl
  | some ds =>
    show OkE E (if _ then _ else _) QL = if _ then _ else _
    split
    · rw [ok_bind]; rfl
    · rfl
theorem ok_many {op : List D → Option D} : OkE E (cMany fr op S) Q = OkE E (fr S) fun ds S1 => So (op ds) fun d => Q d S1 := by
  unfold cMany
  rw [ok_bind]; congr; funext da S1; rw [ok_lift]
theorem ok_and : OkE E (cAnd ft fu S) QB = OkE E (ft S) fun b S1 => if b = true then OkE E (fu S1) QB else QB false S1 := by
  unfold cAnd
  rw [ok_bind]; congr; funext b S1; cases b <;> rfl
theorem ok_or : OkE E (cOr ft fu S) QB = OkE E (ft S) fun b S1 => if b = true then QB true S1 else OkE E (fu S1) QB := by
  unfold cOr
  rw [ok_bind]; congr; funext b S1; cases b <;> rfl
theorem ok_not : OkE E (cNot ft S) QB = OkE E (ft S) fun b S1 => QB (!b) S1 := by
  unfold cNot
  rw [ok_bind]; rfl
theorem ok_ifE : OkE E (cIfE ft fa fb S) Q = OkE E (ft S) fun b S1 => if b = true then OkE E (fa S1) Q else OkE E (fb S1) Q := by
  unfold cIfE
  rw [ok_bind]; congr; funext b S1; cases b <;> rfl
theorem ok_andV : OkE E (cAndV fa fb S) Q = OkE E (fa S) fun d S1 => So (dBool d) fun b => if b = true then OkE E (fb S1) Q else Q (.im (.bl false)) S1 := by
  unfold cAndV
  rw [ok_bind]; congr; funext d S1
  unfold dBool
  split
  · rfl
  · rfl
  · rename_i h1 h2
    split
    · rename_i b; cases b
      · exact (h2 rfl).elim
      · exact (h1 rfl).elim
    · rfl
theorem ok_orV : OkE E (cOrV fa fb S) Q = OkE E (fa S) fun d S1 => So (dBool d) fun b => if b = true then Q (.im (.bl true)) S1 else OkE E (fb S1) Q := by
  unfold cOrV
  rw [ok_bind]; congr; funext d S1
  unfold dBool
  split
  · rfl
  · rfl
  · rename_i h1 h2
    split
    · rename_i b; cases b
      · exact (h2 rfl).elim
      · exact (h1 rfl).elim
    · rfl
theorem ok_next : OkE E (cNext S) QF = QF .nx S := rfl
theorem ok_seq : OkE E (cSeq f h S) QF = OkE E (f S) (OkF QF fun S1 => OkE E (h S1) QF) := by
  unfold cSeq
  rw [ok_bind]; congr; funext fl S1; cases fl <;> rfl
theorem okF_nx {K : Sg → Prop} : OkF QF K .nx S = K S := rfl
theorem okF_ret {K : Sg → Prop} {d : D} : OkF QF K (.ret d) S = QF (.ret d) S := rfl
theorem okF_brk {K : Sg → Prop} : OkF QF K .brk S = QF .brk S := rfl
theorem okF_cnt {K : Sg → Prop} : OkF QF K .cnt S = QF .cnt S := rfl
theorem ok_if : OkE E (cIf ft f h S) QF = OkE E (ft S) fun b S1 => if b = true then OkE E (f S1) QF else OkE E (h S1) QF := by
  unfold cIf
  rw [ok_bind]; congr; funext b S1; cases b <;> rfl
theorem ok_ret : OkE E (cRet fa S) QF = OkE E (fa S) fun d S1 => QF (.ret d) S1 := by unfold cRet; rw [ok_bind]; rfl
theorem ok_retN : OkE E (cRetN S) QF = QF (.ret (.im .non)) S := rfl
theorem ok_expr : OkE E (cExpr fa S) QF = OkE E (fa S) fun _ S1 => QF .nx S1 := by unfold cExpr; rw [ok_bind]; rfl
theorem ok_cbad : OkE E (cBad S) QF = False := rfl
theorem ok_asg {tg : D → Sg → Option Sg} : OkE E (cAsg tg fa S) QF = OkE E (fa S) fun d S1 => So (tg d S1) fun S2 => QF .nx S2 := by
  unfold cAsg
  rw [ok_bind]; congr; funext d S1; cases tg d S1 <;> rfl
theorem so_gset {z : Bool} {i : Nat} {d : D} {Q : Sg → Prop} : So (gSet z i d S) Q = Q (S.set i (some (fzIf z d))) := rfl
theorem ok_pvar {r : Nat} {Q : List Nat → Sg → Prop} : OkE E (pVar r S) Q = So (S[r]?) fun o => So o fun _ => Q [] S := by
  unfold pVar
  rcases e : S[r]? with _ | _ | d <;> rfl
theorem ok_setAt {r : Nat} {fp : Sg → R (List Nat)} {op : Sh → List D → D → D → Option (Sh × List D)} : OkE E (cSetAt r M2 fe fp fb op S) QF = OkE E (fe S) fun v S1 => if cleanD M2 v = true ∧ hasBor r v = false then OkE E (fp S1) fun p S2 => if r ∈ M2 then False else OkE E (fb S2) fun i S3 => if hasBor r i = false then
    So (nodeAt (S3.map (killD r)) r p) fun d => match d with
      | .nd .own s ds => So (op s ds i v) fun q => So ((S3.map (killD r))[r]?) fun o => So o fun d => QF .nx ((S3.map (killD r)).set r (some (d.put p (.nd .own q.1 q.2))))
      | _ => False
    else False else False := by
  unfold cSetAt
  rw [ok_bind]; congr; funext v S1
  split
  · rw [ok_bind]; congr; funext p S2
    split
    · rfl
    · rw [ok_bind]; congr; funext i S3
      split
      · rcases nodeAt (S3.map (killD r)) r p with _ | d
        · rfl
        · cases d with
          | im v => rfl
          | nd k s ds =>
            cases k with
            | own =>
              simp only [so_some]
              rcases op s ds i v with _ | ⟨s', ds'⟩
              · rfl
              · rcases e : (S3.map (killD r))[r]? with _ | _ | d <;> simp [so_some, so_none, e, OkE, So]
            | _ => rfl
      · rfl
  · rfl
theorem ok_mutM {okS : Sh → Bool} {r : Nat} {fp : Sg → R (List Nat)} {op : Sh → List D → List D → Option (Sh × List D × D)} : OkE E (cMutM okS r M2 fp fr op S) Q = OkE E (fp S) fun p S1 => if r ∈ M2 ∨ nodeOk okS S1 r p = false then False else OkE E (fr S1) fun us S2 =>
    if us.all (fun d => !hasBor r d) = true then So (nodeAt (S2.map (killD r)) r p) fun d => match d with
      | .nd .own s ds => So (op s ds us) fun q => So ((S2.map (killD r))[r]?) fun o => So o fun d => Q q.2.2 ((S2.map (killD r)).set r (some (d.put p (.nd .own q.1 q.2.1))))
      | _ => False
    else False := by
  unfold cMutM
  rw [ok_bind]; congr; funext p S1
  split
  · rfl
  · rw [ok_bind]; congr; funext us S2
    split
    · rcases nodeAt (S2.map (killD r)) r p with _ | d
      · rfl
      · cases d with
        | im v => rfl
        | nd k s ds =>
          cases k with
          | own =>
            simp only [so_some]
            rcases op s ds us with _ | ⟨s', ds', res⟩
            · rfl
            · rcases e : (S2.map (killD r))[r]? with _ | _ | d <;> simp [so_some, so_none, e, OkE, So]
          | _ => rfl
    · rfl
theorem ok_call {rs : List (Option Nat)} {sem : FSem} : OkE E (cCall rs fr sem S) Q = OkE E (fr S) fun ds S1 => if (List.zip rs ds).all (fun p => p.1.isNone || ofD p.2) = true ∧ ds.length = rs.length then OkCE (fun c d ms => E c d (backS rs ms S1)) (sem (argsD rs ds)) fun d ms => Q d (backS rs ms S1) else False := by
  unfold cCall
  rw [ok_bind]; congr; funext ds S1
  by_cases h1 : (List.zip rs ds).all (fun p => p.1.isNone || ofD p.2) = true
  · rw [if_pos h1]
    unfold callR
    by_cases h2 : ds.length = rs.length
    · rw [if_pos h2, if_pos ⟨h1, h2⟩]
      cases sem (argsD rs ds) <;> rfl
    · rw [if_neg h2, if_neg fun z => h2 z.2]; rfl
  · rw [if_neg h1, if_neg fun z => h1 z.1]; rfl
theorem ok_refs {r : Nat} : OkE E (cRefs r fr S) QL = OkE E (cMv r S) fun d S1 => if ofD d = true then OkE E (fr S1) fun ds S2 => QL (d :: ds) S2 else False := by
  unfold cRefs
  rw [ok_bind]; congr; funext d S1
  split
  · rw [ok_bind]; rfl
  · rfl
theorem ok_refsL {r : Nat} : OkE E (cRefsL r fr S) QL = So (S[r]?) fun o => So o fun _ => OkE E (fr S) fun ds S1 => if ds.all (fun d => !hasBor r d) = true then OkE E (cMv r S1) fun d S2 => if ofD d = true then QL (d :: ds) S2 else False else False := by
  unfold cRefsL
  rcases e : S[r]? with _ | _ | d
  · rfl
  · rfl
  · show OkE E (R.bind (fr S) _) QL = OkE E (fr S) _
    rw [ok_bind]; congr; funext ds S1
    split
    · rw [ok_bind]; congr; funext d S2; split <;> rfl
    · rfl
theorem ok_for {tg : D → Sg → Option Sg} {fi : Sg → R (D × List D)} : OkE E (cFor M tg fi f S) QF = OkE E (fi S) fun p S1 => if cleanD M p.1 = true then OkE E (forL tg f p.2 S1) QF else False := by
  unfold cFor
  rw [ok_bind]; congr; funext p S1; split <;> rfl
theorem ok_forNil {tg : D → Sg → Option Sg} : OkE E (forL tg f [] S) QF = QF .nx S := rfl
theorem ok_forCons {tg : D → Sg → Option Sg} {d : D} {r : List D} : OkE E (forL tg f (d :: r) S) QF = So (tg d S) fun S0 => OkE E (f S0) fun fl S1 => match fl with
      | .nx => OkE E (forL tg f r S1) QF
      | .cnt => OkE E (forL tg f r S1) QF
      | .brk => QF .nx S1
      | .ret d => QF (.ret d) S1 := by
  rw [forL]
  cases tg d S with
  | none => rfl
  | some S0 =>
    show OkE E (R.bind _ _) QF = OkE E _ _
    rw [ok_bind]; congr; funext fl S1; cases fl <;> rfl
/-- a loop's invariant -/
theorem forL_inv {tg : D → Sg → Option Sg} (Inv : Nat → Sg → Prop) (ds : List D) (QF : Fl → Sg → Prop) (hb : ∀ (i : Nat) d S, ds[i]? = some d → Inv i S → So (tg d S) fun S0 => OkE E (f S0) fun fl S1 => match fl with
      | .nx => Inv (i + 1) S1
      | .cnt => Inv (i + 1) S1
      | .brk => QF .nx S1
      | .ret d => QF (.ret d) S1) (hz : ∀ S, Inv ds.length S → QF .nx S) (h0 : Inv 0 S) : OkE E (forL tg f ds S) QF := by
  have key : ∀ (rest : List D) (i : Nat) (S : Sg), ds.drop i = rest → i ≤ ds.length → Inv i S → OkE E (forL tg f rest S) QF := by
    intro rest
    induction rest with
    | nil =>
      intro i S e hi hv
      have : i = ds.length := by
        have := List.drop_eq_nil_iff.mp e; omega
      subst this
      exact hz S hv
    | cons d r ih =>
      intro i S e hi hv
      have hd : ds[i]? = some d := by
        have := congrArg List.head? e
        rw [List.head?_drop] at this; exact this
      have hlt : i < ds.length := (List.getElem?_eq_some_iff.mp hd).1
      have er : ds.drop (i + 1) = r := by
        rw [← List.tail_drop, e]; rfl
      rw [ok_forCons]
      refine (hb i d S hd hv).mono fun S0 h0 => h0.mono fun fl S1 h1 => ?_
      cases fl with
      | nx => exact ih (i + 1) S1 er hlt h1
      | cnt => exact ih (i + 1) S1 er hlt h1
      | brk => exact h1
      | ret d => exact h1
  exact key ds 0 S rfl (Nat.zero_le _) h0
/-- a while's invariant: m bounds the turns that are left -/
theorem while_inv (Inv : Nat → Sg → Prop) (QF : Fl → Sg → Prop) (hb : ∀ m S, Inv m S → OkE E (ft S) fun b S1 => if b = true then OkE E (f S1) fun fl S2 => match fl with
      | .nx => ∃ m', m' < m ∧ Inv m' S2
      | .cnt => ∃ m', m' < m ∧ Inv m' S2
      | .brk => QF .nx S2
      | .ret d => QF (.ret d) S2
    else QF .nx S1) : ∀ (k m : Nat) (S : Sg), m < k → Inv m S → OkE E (whileL ft f k S) QF := by
  intro k
  induction k with
  | zero => intro m S h; omega
  | succ k ih =>
    intro m S hk hv
    rw [whileL, ok_bind]
    refine (hb m S hv).mono fun b S1 h1 => ?_
    cases b with
    | false => exact h1
    | true =>
      rw [if_pos rfl] at h1 ⊢
      rw [ok_bind]
      refine h1.mono fun fl S2 h2 => ?_
      cases fl with
      | nx => obtain ⟨m', hm, h3⟩ := h2; exact ih m' S2 (by omega) h3
      | cnt => obtain ⟨m', hm, h3⟩ := h2; exact ih m' S2 (by omega) h3
      | brk => exact h2
      | ret d => exact h2
theorem ok_iseq {s : Sh} {Q : D × List D → Sg → Prop} : OkE E (iSeq fa s S) Q = OkE E (fa S) fun d S1 => match d with
    | .nd k s' ds => if s' = s then Q (D.mk kFz (.nd k s' ds), ds.map (D.mk kFz)) S1 else False
    | _ => False := by
  unfold iSeq
  rw [ok_bind]; congr; funext d S1
  cases d with
  | im v => rfl
  | nd k s' ds => by_cases hh : s' = s <;> simp [hh, OkE]
theorem ok_rng1 {Q : D × List D → Sg → Prop} : OkE E (iRng1F fr S) Q = OkE E (fr S) fun ds S1 => match ds with
    | [.im (.int hi)] => if rngOk hi = true then Q (iRng 0 hi) S1 else False
    | _ => False := by
  unfold iRng1F
  rw [ok_bind]; congr; funext ds S1
  split
  · rename_i j; by_cases hh : rngOk j = true <;> simp [hh, OkE]
  · rename_i h
    first
      | rfl
      | (split
         · rename_i hi; exact (h hi rfl).elim
         · rfl)
theorem ok_rng2 {Q : D × List D → Sg → Prop} : OkE E (iRng2F fr S) Q = OkE E (fr S) fun ds S1 => match ds with
    | [.im (.int lo), .im (.int hi)] => if (rngOk lo && rngOk hi) = true then Q (iRng lo hi) S1 else False
    | _ => False := by
  unfold iRng2F
  rw [ok_bind]; congr; funext ds S1
  split
  · rename_i i j; by_cases hh : (rngOk i && rngOk j) = true <;> simp [hh, OkE]
  · rename_i h
    first
      | rfl
      | (split
         · rename_i lo hi; exact (h lo hi rfl).elim
         · rfl)
theorem ok_yes : OkE E (cYes S) QB = QB true S := rfl
/-- a comprehension: its items by an invariant of the rest of the state -/
theorem ok_lc {xs Me : List Nat} {tg : D → Sg → Option Sg} {fi : Sg → R (D × List D)} : OkE E (cLc xs Me tg fi ft fe S) Q = OkE E (fi S) fun p S1 => if cleanD Me p.1 = true then Ok (lcL xs Me tg ft fe p.2 (wipeS xs S1) []) fun ds S2 => Q (.nd .own .lst ds) S2 else False := by
  unfold cLc
  rw [ok_bind]; congr; funext p S1
  split
  · cases lcL xs Me tg ft fe p.2 (wipeS xs S1) [] <;> rfl
  · rfl
theorem lcL_inv {xs Me : List Nat} {tg : D → Sg → Option Sg} (Inv : Nat → Sg → List D → Prop) (ds : List D) (QL : List D → Sg → Prop)
    (hb : ∀ (i : Nat) d S acc, ds[i]? = some d → Inv i S acc → So (tg d S) fun S0 => Ok (ft S0) fun b S1 => if b = true then Ok (fe S1) fun y S2 => (acc.length < sizeLine ∧ cleanD Me y = true) ∧ Inv (i + 1) (wipeS xs S2) (acc ++ [y]) else Inv (i + 1) (wipeS xs S1) acc)
    (hz : ∀ S acc, Inv ds.length S acc → QL acc S) (h0 : Inv 0 S []) : Ok (lcL xs Me tg ft fe ds S []) QL := by
  have key : ∀ (rest : List D) (i : Nat) (S : Sg) (acc : List D), ds.drop i = rest → i ≤ ds.length → Inv i S acc → Ok (lcL xs Me tg ft fe rest S acc) QL := by
    intro rest
    induction rest with
    | nil =>
      intro i S acc e hi hv
      have : i = ds.length := by
        have := List.drop_eq_nil_iff.mp e; omega
      subst this
      exact hz S acc hv
    | cons d r ih =>
      intro i S acc e hi hv
      have hd : ds[i]? = some d := by
        have := congrArg List.head? e
        rw [List.head?_drop] at this; exact this
      have hlt : i < ds.length := (List.getElem?_eq_some_iff.mp hd).1
      have er : ds.drop (i + 1) = r := by
        rw [← List.tail_drop, e]; rfl
      rw [lcL]
      obtain ⟨S0, e0, h1⟩ := (hb i d S acc hd hv).get
      rw [e0]
      obtain ⟨b, S1, e1, h2⟩ := h1.get
      dsimp only
      rw [e1]
      dsimp only
      cases b with
      | false => exact ih (i + 1) _ acc er hlt h2
      | true =>
        rw [if_pos rfl] at h2 ⊢
        obtain ⟨y, S2, e2, h3, h4⟩ := h2.get
        rw [e2]
        dsimp only
        rw [if_pos h3]
        exact ih (i + 1) _ _ er hlt h4
  exact key ds 0 S [] rfl (Nat.zero_le _) h0
theorem okC_sem {n : Nat} {mr : List Bool} {ds : List D} {Qc : D → List D → Prop} : OkCE Ec (semOf n mr f ds) Qc = OkE (fun c d S => OkCE Ec (fin mr d S (.exc c)) Qc) (f (ds.map some ++ List.replicate (n - ds.length) none)) fun fl S => match fl with
    | .nx => OkCE Ec (fin mr (.im .non) S .ok) Qc
    | .ret d => OkCE Ec (fin mr d S .ok) Qc
    | _ => False := by
  unfold semOf
  cases f (ds.map some ++ List.replicate (n - ds.length) none) with
  | ok fl S => cases fl <;> rfl
  | exc c d S => rfl
  | bad => rfl
theorem okC_finx {mr : List Bool} {c : Nat} {d : D} {Qc : D → List D → Prop} : OkCE Ec (fin mr d S (.exc c)) Qc = So (usOf mr S) fun ms => if (ofD (d.mk (kRet mr)) && ms.all ofD) = true then Ec c (d.mk (kRet mr)) ms else False := by
  unfold fin
  cases usOf mr S with
  | none => rfl
  | some ms => show OkCE Ec (if _ then _ else _) Qc = if _ then _ else _; split <;> rfl
theorem okC_fin {mr : List Bool} {d : D} {Qc : D → List D → Prop} : OkCE Ec (fin mr d S .ok) Qc = So (usOf mr S) fun ms => if (ofD (d.mk (kRet mr)) && ms.all ofD) = true then Qc (d.mk (kRet mr)) ms else False := by
  unfold fin
  cases usOf mr S with
  | none => rfl
  | some ms => show OkCE Ec (if _ then _ else _) Qc = if _ then _ else _; split <;> rfl
end
end Lin.V0
end
section
namespace Lin
open PySem L2
/-! the plain side, its wishes closed against unfolding -/
structure Tag {β : Type} (q : β) : Type where
abbrev EX := V0.EX
abbrev EC := V0.EC
structure OkE {α : Type} (E : EX) (x : R α) (Q : α → Sg → Prop) (t : Tag (E, Q) := ⟨⟩) : Prop where
  out : V0.OkE E x Q
structure OkCE (E : EC) (x : Rc) (Q : D → List D → Prop) (t : Tag (E, Q) := ⟨⟩) : Prop where
  out : V0.OkCE E x Q
structure So {α : Type} (x : Option α) (Q : α → Prop) (t : Tag Q := ⟨⟩) : Prop where
  out : V0.So x Q
abbrev NoX : EX := V0.E0
abbrev NoC : EC := V0.EC0
abbrev OkF := V0.OkF
theorem ok_def {α : Type} {E : EX} {x : R α} {Q : α → Sg → Prop} : OkE E x Q = V0.OkE E x Q := propext ⟨fun h => h.out, fun h => ⟨h⟩⟩
theorem okC_def {Ec : EC} {x : Rc} {Q : D → List D → Prop} : OkCE Ec x Q = V0.OkCE Ec x Q := propext ⟨fun h => h.out, fun h => ⟨h⟩⟩
theorem so_def {α : Type} {x : Option α} {Q : α → Prop} : So x Q = V0.So x Q := propext ⟨fun h => h.out, fun h => ⟨h⟩⟩
section
variable {α β : Type} {E : EX} {Ec : EC}
theorem ok_ok {a : α} {S : Sg} {Q : α → Sg → Prop} : OkE E (.ok a S) Q = Q a S := by
  first
    | (simp only [ok_def, okC_def, so_def]; exact V0.ok_ok)
    | exact V0.ok_ok
theorem ok_bad {Q : α → Sg → Prop} : OkE E (.bad) Q = False := by
  first
    | (simp only [ok_def, okC_def, so_def]; exact V0.ok_bad)
    | exact V0.ok_bad
theorem so_some {a : α} {Q : α → Prop} : So (some a) Q = Q a := by
  first
    | (simp only [ok_def, okC_def, so_def]; exact V0.so_some)
    | exact V0.so_some
theorem so_none {Q : α → Prop} : So none Q = False := by
  first
    | (simp only [ok_def, okC_def, so_def]; exact V0.so_none)
    | exact V0.so_none
theorem ok_bind {x : R α} {f : α → Sg → R β} {Q : β → Sg → Prop} : OkE E (x.bind f) Q = OkE E x fun a S => OkE E (f a S) Q := by
  first
    | (simp only [ok_def, okC_def, so_def]; exact V0.ok_bind)
    | exact V0.ok_bind
theorem ok_lift {o : Option α} {S : Sg} {Q : α → Sg → Prop} : OkE E (R.lift o S) Q = So o fun a => Q a S := by
  first
    | (simp only [ok_def, okC_def, so_def]; exact V0.ok_lift)
    | exact V0.ok_lift
theorem Ok.mono {x : R α} {Q Q' : α → Sg → Prop} (h : OkE E x Q) (m : ∀ a S, Q a S → Q' a S) : OkE E x Q' := by
  first
    | (simp only [ok_def, okC_def, so_def] at h ⊢; exact V0.Ok.mono h m)
    | (simp only [ok_def, okC_def, so_def] at h; exact V0.Ok.mono h)
theorem OkC.mono {x : Rc} {Q Q' : D → List D → Prop} (h : OkCE Ec x Q) (m : ∀ d ms, Q d ms → Q' d ms) : OkCE Ec x Q' := by
  first
    | (simp only [ok_def, okC_def, so_def] at h ⊢; exact V0.OkC.mono h m)
    | (simp only [ok_def, okC_def, so_def] at h; exact V0.OkC.mono h)
theorem OkE.monoE {E' : EX} {x : R α} {Q Q' : α → Sg → Prop} (h : OkE E x Q) (m : ∀ a S, Q a S → Q' a S) (me : ∀ c d S, E c d S → E' c d S) : OkE E' x Q' := by
  simp only [ok_def, okC_def, so_def] at h ⊢; exact V0.OkE.monoE h m me
theorem OkE.mono {x : R α} {Q Q' : α → Sg → Prop} (h : OkE E x Q) (m : ∀ a S, Q a S → Q' a S) : OkE E x Q' := Ok.mono h m
theorem OkCE.mono {x : Rc} {Q Q' : D → List D → Prop} (h : OkCE Ec x Q) (m : ∀ d ms, Q d ms → Q' d ms) : OkCE Ec x Q' := OkC.mono h m
theorem OkE.get {x : R α} {Q : α → Sg → Prop} (h : OkE NoX x Q) : ∃ a S, x = .ok a S ∧ Q a S := by
  first
    | (simp only [ok_def, okC_def, so_def] at h ⊢; exact V0.Ok.get h)
    | (simp only [ok_def, okC_def, so_def] at h; exact V0.Ok.get h)
theorem OkCE.get {x : Rc} {Q : D → List D → Prop} (h : OkCE NoC x Q) : ∃ d ms, x = .ok d ms ∧ Q d ms := by
  first
    | (simp only [ok_def, okC_def, so_def] at h ⊢; exact V0.OkC.get h)
    | (simp only [ok_def, okC_def, so_def] at h; exact V0.OkC.get h)
theorem So.get {x : Option α} {Q : α → Prop} (h : So x Q) : ∃ a, x = some a ∧ Q a := by
  first
    | (simp only [ok_def, okC_def, so_def] at h ⊢; exact V0.So.get h m)
    | (simp only [ok_def, okC_def, so_def] at h; exact V0.So.get h)
theorem So.mono {x : Option α} {Q Q' : α → Prop} (h : So x Q) (m : ∀ a, Q a → Q' a) : So x Q' := by
  first
    | (simp only [ok_def, okC_def, so_def] at h ⊢; exact V0.So.mono h m)
    | (simp only [ok_def, okC_def, so_def] at h; exact V0.So.mono h)
theorem so_or {x y : Option α} {Q : α → Prop} : So (x.or y) Q = match x with | some a => Q a | none => So y Q := by
  first
    | (simp only [ok_def, okC_def, so_def]; exact V0.so_or)
    | exact V0.so_or
theorem so_map {f : α → β} {x : Option α} {Q : β → Prop} : So (x.map f) Q = So x fun a => Q (f a) := by
  first
    | (simp only [ok_def, okC_def, so_def]; exact V0.so_map)
    | exact V0.so_map
theorem so_bind {f : α → Option β} {x : Option α} {Q : β → Prop} : So (x.bind f) Q = So x fun a => So (f a) Q := by
  first
    | (simp only [ok_def, okC_def, so_def]; exact V0.so_bind)
    | exact V0.so_bind
theorem so_ite {c : Prop} [Decidable c] {x y : Option α} {Q : α → Prop} : So (if c then x else y) Q = if c then So x Q else So y Q := by
  first
    | (simp only [ok_def, okC_def, so_def]; exact V0.so_ite)
    | exact V0.so_ite
theorem ok_ite {c : Prop} [Decidable c] {x y : R α} {Q : α → Sg → Prop} : OkE E (if c then x else y) Q = if c then OkE E x Q else OkE E y Q := by
  first
    | (simp only [ok_def, okC_def, so_def]; exact V0.ok_ite)
    | exact V0.ok_ite
end
section
variable {E : EX} {Ec : EC} {S : Sg} {Q : D → Sg → Prop} {QB : Bool → Sg → Prop} {QL : List D → Sg → Prop} {QF : Fl → Sg → Prop} {fa fb fc fe : Sg → R D} {ft fu : Sg → R Bool} {fr : Sg → R (List D)} {f h : Sg → R Fl} {M M2 : List Nat}
theorem ok_var {i : Nat} : OkE E (cVar i S) Q = So (S[i]?) fun o => So o fun d => Q (d.mk (kBo i)) S := by
  first
    | (simp only [ok_def, okC_def, so_def]; exact V0.ok_var)
    | exact V0.ok_var
theorem ok_mv {i : Nat} : OkE E (cMv i S) Q = So (S[i]?) fun o => So o fun d => if hasBor i d = true then False else Q d ((S.map (killD i)).set i none) := by
  first
    | (simp only [ok_def, okC_def, so_def]; exact V0.ok_mv)
    | exact V0.ok_mv
theorem ok_lit {v : V} : OkE E (cLit v S) Q = Q (.im v) S := by
  first
    | (simp only [ok_def, okC_def, so_def]; exact V0.ok_lit)
    | exact V0.ok_lit
theorem ok_two {op : D → D → Option D} : OkE E (cTwo M2 fa fb op S) Q = OkE E (fa S) fun da S1 => if cleanD M2 da = true then OkE E (fb S1) fun db S2 => So (op da db) fun d => Q d S2 else False := by
  first
    | (simp only [ok_def, okC_def, so_def]; exact V0.ok_two)
    | exact V0.ok_two
theorem ok_one {op : D → Option D} : OkE E (cOne fa op S) Q = OkE E (fa S) fun da S1 => So (op da) fun d => Q d S1 := by
  first
    | (simp only [ok_def, okC_def, so_def]; exact V0.ok_one)
    | exact V0.ok_one
theorem ok_test {op : D → Option Bool} : OkE E (cTest fa op S) QB = OkE E (fa S) fun da S1 => So (op da) fun d => QB d S1 := by
  first
    | (simp only [ok_def, okC_def, so_def]; exact V0.ok_test)
    | exact V0.ok_test
theorem ok_nil : OkE E (cNil S) QL = QL [] S := by
  first
    | (simp only [ok_def, okC_def, so_def]; exact V0.ok_nil)
    | exact V0.ok_nil
theorem ok_cons : OkE E (cCons M2 fa fr S) QL = OkE E (fa S) fun da S1 => if cleanD M2 da = true then OkE E (fr S1) fun ds S2 => QL (da :: ds) S2 else False := by
  first
    | (simp only [ok_def, okC_def, so_def]; exact V0.ok_cons)
    | exact V0.ok_cons
theorem ok_consK {P : D → Bool} : OkE E (cConsK P M2 fa fr S) QL = OkE E (fa S) fun da S1 => if cleanD M2 da = true ∧ P da = true then OkE E (fr S1) fun ds S2 => QL (da :: ds) S2 else False := by
  first
    | (simp only [ok_def, okC_def, so_def]; exact V0.ok_consK)
    | exact V0.ok_consK
theorem ok_star : OkE E (cStar M2 fa fr S) QL = OkE E (fa S) fun da S1 => So (seqD da) fun ds => if (ds.map (D.mk kFz)).all (cleanD M2) = true then OkE E (fr S1) fun ds2 S2 => QL (ds.map (D.mk kFz) ++ ds2) S2 else False := by
  first
    | (simp only [ok_def, okC_def, so_def]; exact V0.ok_star)
    | exact V0.ok_star
theorem ok_many {op : List D → Option D} : OkE E (cMany fr op S) Q = OkE E (fr S) fun ds S1 => So (op ds) fun d => Q d S1 := by
  first
    | (simp only [ok_def, okC_def, so_def]; exact V0.ok_many)
    | exact V0.ok_many
theorem ok_and : OkE E (cAnd ft fu S) QB = OkE E (ft S) fun b S1 => if b = true then OkE E (fu S1) QB else QB false S1 := by
  first
    | (simp only [ok_def, okC_def, so_def]; exact V0.ok_and)
    | exact V0.ok_and
theorem ok_or : OkE E (cOr ft fu S) QB = OkE E (ft S) fun b S1 => if b = true then QB true S1 else OkE E (fu S1) QB := by
  first
    | (simp only [ok_def, okC_def, so_def]; exact V0.ok_or)
    | exact V0.ok_or
theorem ok_not : OkE E (cNot ft S) QB = OkE E (ft S) fun b S1 => QB (!b) S1 := by
  first
    | (simp only [ok_def, okC_def, so_def]; exact V0.ok_not)
    | exact V0.ok_not
theorem ok_ifE : OkE E (cIfE ft fa fb S) Q = OkE E (ft S) fun b S1 => if b = true then OkE E (fa S1) Q else OkE E (fb S1) Q := by
  first
    | (simp only [ok_def, okC_def, so_def]; exact V0.ok_ifE)
    | exact V0.ok_ifE
theorem ok_andV : OkE E (cAndV fa fb S) Q = OkE E (fa S) fun d S1 => So (dBool d) fun b => if b = true then OkE E (fb S1) Q else Q (.im (.bl false)) S1 := by
  first
    | (simp only [ok_def, okC_def, so_def]; exact V0.ok_andV)
    | exact V0.ok_andV
theorem ok_orV : OkE E (cOrV fa fb S) Q = OkE E (fa S) fun d S1 => So (dBool d) fun b => if b = true then Q (.im (.bl true)) S1 else OkE E (fb S1) Q := by
  first
    | (simp only [ok_def, okC_def, so_def]; exact V0.ok_orV)
    | exact V0.ok_orV
theorem ok_next : OkE E (cNext S) QF = QF .nx S := by
  first
    | (simp only [ok_def, okC_def, so_def]; exact V0.ok_next)
    | exact V0.ok_next
theorem ok_seq : OkE E (cSeq f h S) QF = OkE E (f S) (OkF QF fun S1 => OkE E (h S1) QF) := by
  first
    | (simp only [ok_def, okC_def, so_def]; exact V0.ok_seq)
    | exact V0.ok_seq
theorem okF_nx {K : Sg → Prop} : OkF QF K .nx S = K S := by
  first
    | (simp only [ok_def, okC_def, so_def]; exact V0.okF_nx)
    | exact V0.okF_nx
theorem okF_ret {K : Sg → Prop} {d : D} : OkF QF K (.ret d) S = QF (.ret d) S := by
  first
    | (simp only [ok_def, okC_def, so_def]; exact V0.okF_ret)
    | exact V0.okF_ret
theorem okF_brk {K : Sg → Prop} : OkF QF K .brk S = QF .brk S := by
  first
    | (simp only [ok_def, okC_def, so_def]; exact V0.okF_brk)
    | exact V0.okF_brk
theorem okF_cnt {K : Sg → Prop} : OkF QF K .cnt S = QF .cnt S := by
  first
    | (simp only [ok_def, okC_def, so_def]; exact V0.okF_cnt)
    | exact V0.okF_cnt
theorem ok_if : OkE E (cIf ft f h S) QF = OkE E (ft S) fun b S1 => if b = true then OkE E (f S1) QF else OkE E (h S1) QF := by
  first
    | (simp only [ok_def, okC_def, so_def]; exact V0.ok_if)
    | exact V0.ok_if
theorem ok_ret : OkE E (cRet fa S) QF = OkE E (fa S) fun d S1 => QF (.ret d) S1 := by
  first
    | (simp only [ok_def, okC_def, so_def]; exact V0.ok_ret)
    | exact V0.ok_ret
theorem ok_retN : OkE E (cRetN S) QF = QF (.ret (.im .non)) S := by
  first
    | (simp only [ok_def, okC_def, so_def]; exact V0.ok_retN)
    | exact V0.ok_retN
theorem ok_expr : OkE E (cExpr fa S) QF = OkE E (fa S) fun _ S1 => QF .nx S1 := by
  first
    | (simp only [ok_def, okC_def, so_def]; exact V0.ok_expr)
    | exact V0.ok_expr
theorem ok_cbad : OkE E (cBad S) QF = False := by
  first
    | (simp only [ok_def, okC_def, so_def]; exact V0.ok_cbad)
    | exact V0.ok_cbad
theorem ok_asg {tg : D → Sg → Option Sg} : OkE E (cAsg tg fa S) QF = OkE E (fa S) fun d S1 => So (tg d S1) fun S2 => QF .nx S2 := by
  first
    | (simp only [ok_def, okC_def, so_def]; exact V0.ok_asg)
    | exact V0.ok_asg
theorem so_gset {z : Bool} {i : Nat} {d : D} {Q : Sg → Prop} : So (gSet z i d S) Q = Q (S.set i (some (fzIf z d))) := by
  first
    | (simp only [ok_def, okC_def, so_def]; exact V0.so_gset)
    | exact V0.so_gset
theorem ok_pvar {r : Nat} {Q : List Nat → Sg → Prop} : OkE E (pVar r S) Q = So (S[r]?) fun o => So o fun _ => Q [] S := by
  first
    | (simp only [ok_def, okC_def, so_def]; exact V0.ok_pvar)
    | exact V0.ok_pvar
theorem ok_setAt {r : Nat} {fp : Sg → R (List Nat)} {op : Sh → List D → D → D → Option (Sh × List D)} : OkE E (cSetAt r M2 fe fp fb op S) QF = OkE E (fe S) fun v S1 => if cleanD M2 v = true ∧ hasBor r v = false then OkE E (fp S1) fun p S2 => if r ∈ M2 then False else OkE E (fb S2) fun i S3 => if hasBor r i = false then
    So (nodeAt (S3.map (killD r)) r p) fun d => match d with
      | .nd .own s ds => So (op s ds i v) fun q => So ((S3.map (killD r))[r]?) fun o => So o fun d => QF .nx ((S3.map (killD r)).set r (some (d.put p (.nd .own q.1 q.2))))
      | _ => False
    else False else False := by
  first
    | (simp only [ok_def, okC_def, so_def]; exact V0.ok_setAt)
    | exact V0.ok_setAt
theorem ok_mutM {okS : Sh → Bool} {r : Nat} {fp : Sg → R (List Nat)} {op : Sh → List D → List D → Option (Sh × List D × D)} : OkE E (cMutM okS r M2 fp fr op S) Q = OkE E (fp S) fun p S1 => if r ∈ M2 ∨ nodeOk okS S1 r p = false then False else OkE E (fr S1) fun us S2 =>
    if us.all (fun d => !hasBor r d) = true then So (nodeAt (S2.map (killD r)) r p) fun d => match d with
      | .nd .own s ds => So (op s ds us) fun q => So ((S2.map (killD r))[r]?) fun o => So o fun d => Q q.2.2 ((S2.map (killD r)).set r (some (d.put p (.nd .own q.1 q.2.1))))
      | _ => False
    else False := by
  first
    | (simp only [ok_def, okC_def, so_def]; exact V0.ok_mutM)
    | exact V0.ok_mutM
theorem ok_call {rs : List (Option Nat)} {sem : FSem} : OkE E (cCall rs fr sem S) Q = OkE E (fr S) fun ds S1 => if (List.zip rs ds).all (fun p => p.1.isNone || ofD p.2) = true ∧ ds.length = rs.length then OkCE (fun c d ms => E c d (backS rs ms S1)) (sem (argsD rs ds)) fun d ms => Q d (backS rs ms S1) else False := by
  first
    | (simp only [ok_def, okC_def, so_def]; exact V0.ok_call)
    | exact V0.ok_call
theorem ok_refs {r : Nat} : OkE E (cRefs r fr S) QL = OkE E (cMv r S) fun d S1 => if ofD d = true then OkE E (fr S1) fun ds S2 => QL (d :: ds) S2 else False := by
  first
    | (simp only [ok_def, okC_def, so_def]; exact V0.ok_refs)
    | exact V0.ok_refs
theorem ok_refsL {r : Nat} : OkE E (cRefsL r fr S) QL = So (S[r]?) fun o => So o fun _ => OkE E (fr S) fun ds S1 => if ds.all (fun d => !hasBor r d) = true then OkE E (cMv r S1) fun d S2 => if ofD d = true then QL (d :: ds) S2 else False else False := by
  first
    | (simp only [ok_def, okC_def, so_def]; exact V0.ok_refsL)
    | exact V0.ok_refsL
theorem ok_for {tg : D → Sg → Option Sg} {fi : Sg → R (D × List D)} : OkE E (cFor M tg fi f S) QF = OkE E (fi S) fun p S1 => if cleanD M p.1 = true then OkE E (forL tg f p.2 S1) QF else False := by
  first
    | (simp only [ok_def, okC_def, so_def]; exact V0.ok_for)
    | exact V0.ok_for
theorem ok_forNil {tg : D → Sg → Option Sg} : OkE E (forL tg f [] S) QF = QF .nx S := by
  first
    | (simp only [ok_def, okC_def, so_def]; exact V0.ok_forNil)
    | exact V0.ok_forNil
theorem ok_forCons {tg : D → Sg → Option Sg} {d : D} {r : List D} : OkE E (forL tg f (d :: r) S) QF = So (tg d S) fun S0 => OkE E (f S0) fun fl S1 => match fl with
      | .nx => OkE E (forL tg f r S1) QF
      | .cnt => OkE E (forL tg f r S1) QF
      | .brk => QF .nx S1
      | .ret d => QF (.ret d) S1 := by
  first
    | (simp only [ok_def, okC_def, so_def]; exact V0.ok_forCons)
    | exact V0.ok_forCons
/-- a loop's invariant -/
theorem forL_inv {tg : D → Sg → Option Sg} (Inv : Nat → Sg → Prop) (ds : List D) (QF : Fl → Sg → Prop) (hb : ∀ (i : Nat) d S, ds[i]? = some d → Inv i S → So (tg d S) fun S0 => OkE E (f S0) fun fl S1 => match fl with
      | .nx => Inv (i + 1) S1
      | .cnt => Inv (i + 1) S1
      | .brk => QF .nx S1
      | .ret d => QF (.ret d) S1) (hz : ∀ S, Inv ds.length S → QF .nx S) (h0 : Inv 0 S) : OkE E (forL tg f ds S) QF := by
  simp only [ok_def, okC_def, so_def] at hb ⊢
  exact V0.forL_inv Inv ds QF hb hz h0
/-- a while's invariant: m bounds the turns that are left -/
theorem while_inv (Inv : Nat → Sg → Prop) (QF : Fl → Sg → Prop) (hb : ∀ m S, Inv m S → OkE E (ft S) fun b S1 => if b = true then OkE E (f S1) fun fl S2 => match fl with
      | .nx => ∃ m', m' < m ∧ Inv m' S2
      | .cnt => ∃ m', m' < m ∧ Inv m' S2
      | .brk => QF .nx S2
      | .ret d => QF (.ret d) S2
    else QF .nx S1) : ∀ (k m : Nat) (S : Sg), m < k → Inv m S → OkE E (whileL ft f k S) QF := by
  simp only [ok_def, okC_def, so_def] at hb ⊢
  exact V0.while_inv Inv QF hb
theorem ok_iseq {s : Sh} {Q : D × List D → Sg → Prop} : OkE E (iSeq fa s S) Q = OkE E (fa S) fun d S1 => match d with
    | .nd k s' ds => if s' = s then Q (D.mk kFz (.nd k s' ds), ds.map (D.mk kFz)) S1 else False
    | _ => False := by
  first
    | (simp only [ok_def, okC_def, so_def]; exact V0.ok_iseq)
    | exact V0.ok_iseq
theorem ok_rng1 {Q : D × List D → Sg → Prop} : OkE E (iRng1F fr S) Q = OkE E (fr S) fun ds S1 => match ds with
    | [.im (.int hi)] => if rngOk hi = true then Q (iRng 0 hi) S1 else False
    | _ => False := by
  first
    | (simp only [ok_def, okC_def, so_def]; exact V0.ok_rng1)
    | exact V0.ok_rng1
theorem ok_rng2 {Q : D × List D → Sg → Prop} : OkE E (iRng2F fr S) Q = OkE E (fr S) fun ds S1 => match ds with
    | [.im (.int lo), .im (.int hi)] => if (rngOk lo && rngOk hi) = true then Q (iRng lo hi) S1 else False
    | _ => False := by
  first
    | (simp only [ok_def, okC_def, so_def]; exact V0.ok_rng2)
    | exact V0.ok_rng2
theorem ok_yes : OkE E (cYes S) QB = QB true S := by
  first
    | (simp only [ok_def, okC_def, so_def]; exact V0.ok_yes)
    | exact V0.ok_yes
/-- a comprehension: its items by an invariant of the rest of the state -/
theorem ok_lc {xs Me : List Nat} {tg : D → Sg → Option Sg} {fi : Sg → R (D × List D)} : OkE E (cLc xs Me tg fi ft fe S) Q = OkE E (fi S) fun p S1 => if cleanD Me p.1 = true then OkE NoX (lcL xs Me tg ft fe p.2 (wipeS xs S1) []) fun ds S2 => Q (.nd .own .lst ds) S2 else False := by
  first
    | (simp only [ok_def, okC_def, so_def]; exact V0.ok_lc)
    | exact V0.ok_lc
theorem lcL_inv {xs Me : List Nat} {tg : D → Sg → Option Sg} (Inv : Nat → Sg → List D → Prop) (ds : List D) (QL : List D → Sg → Prop)
    (hb : ∀ (i : Nat) d S acc, ds[i]? = some d → Inv i S acc → So (tg d S) fun S0 => OkE NoX (ft S0) fun b S1 => if b = true then OkE NoX (fe S1) fun y S2 => (acc.length < sizeLine ∧ cleanD Me y = true) ∧ Inv (i + 1) (wipeS xs S2) (acc ++ [y]) else Inv (i + 1) (wipeS xs S1) acc)
    (hz : ∀ S acc, Inv ds.length S acc → QL acc S) (h0 : Inv 0 S []) : OkE NoX (lcL xs Me tg ft fe ds S []) QL := by
  simp only [ok_def, okC_def, so_def] at hb ⊢
  exact V0.lcL_inv Inv ds QL hb hz h0
theorem okC_sem {n : Nat} {mr : List Bool} {ds : List D} {Qc : D → List D → Prop} : OkCE Ec (semOf n mr f ds) Qc = OkE (fun c d S => OkCE Ec (fin mr d S (.exc c)) Qc) (f (ds.map some ++ List.replicate (n - ds.length) none)) fun fl S => match fl with
    | .nx => OkCE Ec (fin mr (.im .non) S .ok) Qc
    | .ret d => OkCE Ec (fin mr d S .ok) Qc
    | _ => False := by
  simp only [ok_def, okC_def, so_def]; exact V0.okC_sem
theorem okC_finx {mr : List Bool} {c : Nat} {d : D} {Qc : D → List D → Prop} : OkCE Ec (fin mr d S (.exc c)) Qc = So (usOf mr S) fun ms => if (ofD (d.mk (kRet mr)) && ms.all ofD) = true then Ec c (d.mk (kRet mr)) ms else False := by
  simp only [ok_def, okC_def, so_def]; exact V0.okC_finx
theorem okC_fin {mr : List Bool} {d : D} {Qc : D → List D → Prop} : OkCE Ec (fin mr d S .ok) Qc = So (usOf mr S) fun ms => if (ofD (d.mk (kRet mr)) && ms.all ofD) = true then Qc (d.mk (kRet mr)) ms else False := by
  first
    | (simp only [ok_def, okC_def, so_def]; exact V0.okC_fin)
    | exact V0.okC_fin
end
end Lin
end
section
namespace Lin
open PySem L2
/-! ### frozen data, ints -/
abbrev I (i : Int) : D := .im (.int i)
abbrev B (b : Bool) : D := .im (.bl b)
/-- only frozen marks -/
def Fz (d : D) : Prop := ∀ k ∈ d.kinds, k = .frz
theorem fz_im (v : V) : Fz (.im v) := fun k h => by simp [D.kinds] at h
theorem fz_nd {s : Sh} {ds : List D} (h : ∀ d ∈ ds, Fz d) : Fz (.nd .frz s ds) := fun k hk => by
  rw [D.kinds, List.mem_cons, kindsL_eq, List.mem_flatMap] at hk
  rcases hk with rfl | ⟨d, hd, hk⟩
  · rfl
  · exact h d hd k hk
theorem fz_child {k : Kd} {s : Sh} {ds : List D} (h : Fz (.nd k s ds)) : k = .frz ∧ ∀ d ∈ ds, Fz d := by
  refine ⟨h k (by rw [D.kinds]; exact List.mem_cons_self), fun d hd q hq => h q ?_⟩
  rw [D.kinds, kindsL_eq]
  exact List.mem_cons_of_mem _ (List.mem_flatMap.mpr ⟨d, hd, hq⟩)
mutual
theorem mk_id (f : Kd → Kd) : ∀ d : D, (∀ k ∈ d.kinds, f k = k) → d.mk f = d
  | .im _, _ => rfl
  | .nd k s ds, h => by
    rw [D.mk, h k (by rw [D.kinds]; exact List.mem_cons_self), mk_idL f ds fun q hq => h q (by rw [D.kinds]; exact List.mem_cons_of_mem _ hq)]
theorem mk_idL (f : Kd → Kd) : ∀ ds : List D, (∀ k ∈ kindsL ds, f k = k) → mkDL f ds = ds
  | [], _ => rfl
  | d :: r, h => by
    rw [mkDL, mk_id f d fun q hq => h q (by rw [kindsL]; exact List.mem_append_left _ hq), mk_idL f r fun q hq => h q (by rw [kindsL]; exact List.mem_append_right _ hq)]
end
theorem fz_bo {d : D} (h : Fz d) (i : Nat) : d.mk (kBo i) = d := mk_id _ d fun k hk => by rw [h k hk]; rfl
theorem fz_fz {d : D} (h : Fz d) : d.mk kFz = d := mk_id _ d fun k hk => by rw [h k hk]; rfl
theorem fz_par {d : D} (h : Fz d) : d.mk kPar = d := mk_id _ d fun k hk => by rw [h k hk]; rfl
theorem fz_ret {d : D} (h : Fz d) (mr : List Bool) : d.mk (kRet mr) = d := mk_id _ d fun k hk => by rw [h k hk]; rfl
theorem fz_of {d : D} (h : Fz d) : ofD d = true := by
  unfold ofD
  rw [List.all_eq_true]
  intro k hk
  rw [h k hk]; rfl
theorem fz_bor {d : D} (h : Fz d) (r : Nat) : hasBor r d = false := by
  unfold hasBor
  rw [Bool.eq_false_iff]
  intro q
  rw [List.contains_iff_mem] at q
  cases h _ q
theorem fz_clean {d : D} (h : Fz d) (M : List Nat) : cleanD M d = true := by
  unfold cleanD
  rw [List.all_eq_true]
  intro r _
  rw [fz_bor h]; rfl
theorem fz_kill {d : D} (h : Fz d) (r : Nat) : killD r (some d) = some d := by
  show (if hasBor r d then none else some d) = some d
  rw [fz_bor h]; rfl
theorem kill_none (r : Nat) : killD r none = none := rfl
theorem kill_im (r : Nat) (v : V) : killD r (some (.im v)) = some (.im v) := fz_kill (fz_im v) r
theorem clean_nil (d : D) : cleanD [] d = true := rfl
theorem clean_im (M : List Nat) (v : V) : cleanD M (.im v) = true := fz_clean (fz_im v) M
theorem bor_im (r : Nat) (v : V) : hasBor r (.im v) = false := fz_bor (fz_im v) r
theorem of_im (v : V) : ofD (.im v) = true := fz_of (fz_im v)
theorem mk_im (f : Kd → Kd) (v : V) : (D.im v).mk f = .im v := rfl
theorem fzIf_im (z : Bool) (v : V) : fzIf z (.im v) = .im v := by cases z <;> rfl
/-! lists of ints -/
def iL (k : Kd) (ns : List Int) : D := .nd k .lst (ns.map fun i => I i)
theorem kinds_iL (k : Kd) (ns : List Int) : (iL k ns).kinds = [k] := by
  unfold iL
  rw [D.kinds, kindsL_eq]
  congr 1
  rw [List.flatMap_eq_nil_iff]
  intro d hd
  obtain ⟨i, _, rfl⟩ := List.mem_map.mp hd
  rfl
theorem iL_mk (f : Kd → Kd) (k : Kd) (ns : List Int) : (iL k ns).mk f = iL (f k) ns := by
  unfold iL
  rw [D.mk, mk_idL]
  intro q hq
  have := kinds_iL k ns
  unfold iL at this
  rw [D.kinds] at this
  have e : kindsL (ns.map fun i => I i) = [] := by simpa using this
  rw [e] at hq; cases hq
theorem fz_iL (ns : List Int) : Fz (iL .frz ns) := fun k h => by rw [kinds_iL] at h; simpa using h
theorem intsD_eq (ns : List Int) : intsD ns = iL .own ns := rfl
theorem of_iL (ns : List Int) : ofD (iL .own ns) = true := by unfold ofD; rw [kinds_iL]; rfl
theorem bor_iL (r : Nat) (k : Kd) (ns : List Int) : hasBor r (iL k ns) = decide (Kd.bor r = k) := by
  unfold hasBor
  rw [kinds_iL]
  simp
/-! operators at ints -/
theorem add_I (a b : Int) : oAdd (I a) (I b) = some (I (a + b)) := rfl
theorem sub_I (a b : Int) : oSub (I a) (I b) = some (I (a - b)) := rfl
theorem lt_I (a b : Int) : oLt (I a) (I b) = some (B (decide (a < b))) := rfl
theorem le_I (a b : Int) : oLe (I a) (I b) = some (B (decide (a ≤ b))) := rfl
theorem gt_I (a b : Int) : oGt (I a) (I b) = some (B (decide (b < a))) := rfl
theorem ge_I (a b : Int) : oGe (I a) (I b) = some (B (decide (b ≤ a))) := rfl
theorem eq_I (a b : Int) : oEq (I a) (I b) = some (B (decide (a = b))) := by
  simp [oEq, eqD, toPy, SeqAt.shaped, PyData.eqv, Bool.beq_eq_decide_eq, PyData.canLay0, PyData.depth]
theorem ne_I (a b : Int) : oNe (I a) (I b) = some (B (!decide (a = b))) := by
  simp [oNe, eqD, toPy, SeqAt.shaped, PyData.eqv, Bool.beq_eq_decide_eq, PyData.canLay0, PyData.depth]
theorem mod_I {a b : Int} (h : 0 < b) : oMod (I a) (I b) = some (I (a % b)) := by
  show (fMod a b).map D.im = _
  unfold fMod; rw [if_pos h]; rfl
theorem div_I {a b : Int} (h : 0 < b) (h2 : b < 1000000000000000000000000000000) : oDiv (I a) (I b) = some (I (a / b)) := by
  show (fDiv a b).map D.im = _
  unfold fDiv; rw [if_pos ⟨h, h2⟩]; rfl
theorem mul_l {a b : Int} (h : -18446744073709551616 < a) (h2 : a < 18446744073709551616) : oMul (I a) (I b) = some (I (a * b)) := by
  show (fMul a b).map D.im = _
  unfold fMul; rw [if_pos (.inl ⟨by omega, by omega⟩)]; rfl
theorem mul_r {a b : Int} (h : -18446744073709551616 < b) (h2 : b < 18446744073709551616) : oMul (I a) (I b) = some (I (a * b)) := by
  show (fMul a b).map D.im = _
  unfold fMul; rw [if_pos (.inr ⟨by omega, by omega⟩)]; rfl
theorem pow_I {a b : Int} (h : 0 ≤ b) (h2 : b ≤ 1000000) (h3 : a.natAbs < 18446744073709551616) : oPow (I a) (I b) = some (I (a ^ b.toNat)) := by
  show (fPow a b).map D.im = _
  unfold fPow; rw [if_pos ⟨h, h2, by omega⟩]; rfl
theorem len_iL (k : Kd) (ns : List Int) : bLen [iL k ns] = some (I ns.length) := by
  simp [bLen, immV, vLen, iL]
theorem len_lst (k : Kd) (ds : List D) : bLen [.nd k .lst ds] = some (I ds.length) := rfl
theorem ix_iL {k : Kd} {ns : List Int} {i : Int} {x : Int} (h0 : 0 ≤ i) (h : ns[i.toNat]? = some x) : oIx (iL k ns) (I i) = some (I x) := by
  have hl := (List.getElem?_eq_some_iff.mp h).1
  unfold oIx dIx iL
  dsimp only
  simp only [atI, ixN, List.length_map, if_pos h0, if_pos (show i < (ns.length : Int) by omega), List.getElem?_map, h, Option.bind_some, Option.map_some, Option.some_or]
theorem ix_lst {k : Kd} {ds : List D} {i : Int} {x : D} (h0 : 0 ≤ i) (h : ds[i.toNat]? = some x) : oIx (.nd k .lst ds) (I i) = some x := by
  have hl := (List.getElem?_eq_some_iff.mp h).1
  unfold oIx dIx
  dsimp only
  simp only [atI, ixN, if_pos h0, if_pos (show i < (ds.length : Int) by omega), h, Option.bind_some, Option.some_or]
theorem ix_tup {k : Kd} {ds : List D} {i : Int} {x : D} (h0 : 0 ≤ i) (h : ds[i.toNat]? = some x) : oIx (.nd k .tup ds) (I i) = some x := by
  have hl := (List.getElem?_eq_some_iff.mp h).1
  unfold oIx dIx
  dsimp only
  simp only [atI, ixN, if_pos h0, if_pos (show i < (ds.length : Int) by omega), h, Option.bind_some, Option.some_or]
theorem dbool_B (b : Bool) : dBool (B b) = some b := rfl
theorem dtru_B (b : Bool) : dTru (B b) = some b := rfl
theorem toInt_I (i : Int) : immV vToInt [I i] = some (I i) := rfl
theorem toInt_B (b : Bool) : immV vToInt [B b] = some (I (if b then 1 else 0)) := rfl
theorem abs_I (i : Int) : bAbs [I i] = some (I (if i < 0 then -i else i)) := rfl
end Lin
namespace Lin
open PySem L2
/-- own and frozen marks alone -/
def Cl (d : D) : Prop := ∀ k ∈ d.kinds, k = .own ∨ k = .frz
theorem Fz.cl {d : D} (h : Fz d) : Cl d := fun k hk => .inr (h k hk)
theorem cl_nd {k : Kd} {s : Sh} {ds : List D} (hk : k = .own ∨ k = .frz) (h : ∀ d ∈ ds, Cl d) : Cl (.nd k s ds) := fun q hq => by
  rw [D.kinds, List.mem_cons, kindsL_eq, List.mem_flatMap] at hq
  rcases hq with rfl | ⟨d, hd, hq⟩
  · exact hk
  · exact h d hd q hq
theorem cl_of {d : D} (h : Cl d) : ofD d = true := by
  unfold ofD
  rw [List.all_eq_true]
  intro k hk
  rcases h k hk with e | e <;> rw [e] <;> rfl
theorem cl_bor {d : D} (h : Cl d) (r : Nat) : hasBor r d = false := by
  unfold hasBor
  rw [Bool.eq_false_iff]
  intro q
  rw [List.contains_iff_mem] at q
  rcases h _ q with e | e <;> cases e
theorem cl_clean {d : D} (h : Cl d) (M : List Nat) : cleanD M d = true := by
  unfold cleanD
  rw [List.all_eq_true]
  intro r _
  rw [cl_bor h]; rfl
theorem cl_kill {d : D} (h : Cl d) (r : Nat) : killD r (some d) = some d := by
  show (if hasBor r d then none else some d) = some d
  rw [cl_bor h]; rfl
theorem cl_ret {d : D} (h : Cl d) (mr : List Bool) : d.mk (kRet mr) = d := mk_id _ d fun k hk => by rcases h k hk with e | e <;> rw [e] <;> rfl
mutual
theorem mk_mk (f h : Kd → Kd) : ∀ d : D, (d.mk f).mk h = d.mk (h ∘ f)
  | .im _ => rfl
  | .nd k s ds => by rw [D.mk, D.mk, D.mk, mk_mkL f h ds]; rfl
theorem mk_mkL (f h : Kd → Kd) : ∀ ds : List D, mkDL h (mkDL f ds) = mkDL (h ∘ f) ds
  | [] => rfl
  | d :: r => by rw [mkDL, mkDL, mkDL, mk_mk f h d, mk_mkL f h r]
end
mutual
theorem kinds_mk (f : Kd → Kd) : ∀ d : D, (d.mk f).kinds = d.kinds.map f
  | .im _ => rfl
  | .nd k s ds => by rw [D.mk, D.kinds, D.kinds, kinds_mkL f ds]; rfl
theorem kinds_mkL (f : Kd → Kd) : ∀ ds : List D, kindsL (mkDL f ds) = (kindsL ds).map f
  | [] => rfl
  | d :: r => by rw [mkDL, kindsL, kindsL, kinds_mk f d, kinds_mkL f r, List.map_append]
end
/-- closed data, frozen -/
theorem cl_fz {d : D} (h : Cl d) : Fz (d.mk kFz) := fun k hk => by
  rw [kinds_mk] at hk
  obtain ⟨q, hq, rfl⟩ := List.mem_map.mp hk
  rcases h q hq with e | e <;> rw [e] <;> rfl
theorem fzIf_t {d : D} : fzIf true d = d.mk kFz := rfl
theorem fzIf_f {d : D} : fzIf false d = d := rfl
/-- an own list of frozen things -/
def oL (ds : List D) : D := .nd .own .lst ds
theorem oL_cl {ds : List D} (h : ∀ d ∈ ds, Fz d) : Cl (oL ds) := cl_nd (.inl rfl) fun d hd => (h d hd).cl
theorem fzL_mk {f : Kd → Kd} (hf : f .frz = .frz) {ds : List D} (h : ∀ d ∈ ds, Fz d) : mkDL f ds = ds := mk_idL _ _ fun k hk => by
  rw [kindsL_eq, List.mem_flatMap] at hk
  obtain ⟨d, hd, hk⟩ := hk
  rw [h d hd k hk]; exact hf
theorem oL_bo {ds : List D} (h : ∀ d ∈ ds, Fz d) (i : Nat) : (oL ds).mk (kBo i) = .nd (.bor i) .lst ds := by
  unfold oL; rw [D.mk, fzL_mk rfl h]; rfl
theorem oL_fz {ds : List D} (h : ∀ d ∈ ds, Fz d) : (oL ds).mk kFz = .nd .frz .lst ds := by
  unfold oL; rw [D.mk, fzL_mk rfl h]; rfl
theorem oL_par {ds : List D} (h : ∀ d ∈ ds, Fz d) : (oL ds).mk kPar = .nd .par .lst ds := by
  unfold oL; rw [D.mk, fzL_mk rfl h]; rfl
theorem fzs_map {ds : List D} (h : ∀ d ∈ ds, Fz d) : ds.map (D.mk kFz) = ds := by
  conv => rhs; rw [← List.map_id ds]
  exact List.map_congr_left fun d hd => fz_fz (h d hd)
end Lin
namespace Lin
open PySem L2
section
variable {S : Sg} {Q : D → Sg → Prop} {fr : Sg → R (List D)} {M2 : List Nat} {r : Nat}
theorem kill_at {S : Sg} {d : D} (h : S[r]? = some (some d)) (hb : hasBor r d = false) : (S.map (killD r))[r]? = some (some d) := by
  rw [List.getElem?_map, h]
  show some (if hasBor r d then none else some d) = _
  rw [hb]; rfl
theorem ok_mutS {okS : Sh → Bool} {op : Sh → List D → List D → Option (Sh × List D × D)} {k0 : Kd} {s0 : Sh} {ds0 : List D} (hr : r ∉ M2) (h0 : S[r]? = some (some (.nd k0 s0 ds0))) (hok : okS s0 = true)
    (he : OkE NoX (fr S) fun us S2 => us.all (fun d => !hasBor r d) = true ∧ ∃ s ds q, S2[r]? = some (some (.nd .own s ds)) ∧ hasBor r (.nd .own s ds) = false ∧ op s ds us = some q ∧ Q q.2.2 ((S2.map (killD r)).set r (some (.nd .own q.1 q.2.1)))) : OkE NoX (cMutM okS r M2 (pVar r) fr op S) Q := by
  rw [ok_mutM, ok_pvar, h0, so_some, so_some, if_neg (by
    rintro (z | z)
    · exact hr z
    · unfold nodeOk nodeAt at z; rw [h0] at z; exact absurd (hok.symm.trans z) (by decide))]
  refine he.mono ?_
  rintro us S2 ⟨hus, s, ds, q, h2, h3, e, hq⟩
  rw [if_pos hus]
  have hk := kill_at h2 h3
  have hn : nodeAt (S2.map (killD r)) r [] = some (.nd .own s ds) := by unfold nodeAt; rw [hk]; rfl
  rw [hn, so_some]
  dsimp only
  rw [e, so_some, hk, so_some, so_some]
  exact hq
theorem ok_app {ds0 : List D} (hr : r ∉ M2) (h0 : S[r]? = some (some (oL ds0)))
    (he : OkE NoX (fr S) fun us S2 => ∃ y ds, us = [y] ∧ hasBor r y = false ∧ S2[r]? = some (some (oL ds)) ∧ hasBor r (oL ds) = false ∧ ds.length < sizeLine ∧ Q (.im .non) ((S2.map (killD r)).set r (some (oL (ds ++ [y]))))) : OkE NoX (cMutM isLst r M2 (pVar r) fr mAppend S) Q := by
  refine ok_mutS hr h0 rfl (he.mono ?_)
  rintro us S2 ⟨y, ds, rfl, hy, h2, h3, hz, q⟩
  exact ⟨by simp [hy], .lst, ds, (.lst, ds ++ [y], .im .non), h2, h3, by unfold mAppend; dsimp only; rw [if_pos hz], q⟩
theorem popAt_eq {ds : List D} {i : Nat} {y : D} (hi : ds[i]? = some y) (hz : ds.length < 4611686018427387904) : mPopAt .lst ds [I i] = some (.lst, ds.eraseIdx i, y) := by
  have hlt := (List.getElem?_eq_some_iff.mp hi).1
  have e1 : seqIndex? (i : Int) ds.length = some i := by
    unfold seqIndex?
    have h1 : ¬ ((i : Int) < 0) := by omega
    have h2 : (i : Int) < (ds.length : Int) := by omega
    have h3 : (0 : Int) ≤ (i : Int) := by omega
    simp only [h1, if_false, h2, h3, decide_true, Bool.and_self, if_true, Int.toNat_natCast]
  have h63 : (2 : Int) ^ 63 = 9223372036854775808 := by rfl
  simp only [mPopAt, h63, e1, hi]
  rw [if_pos ⟨by omega, by omega⟩]
theorem ok_popAt {ds0 : List D} (hr : r ∉ M2) (h0 : S[r]? = some (some (oL ds0)))
    (he : OkE NoX (fr S) fun us S2 => ∃ i : Nat, ∃ y ds, us = [I i] ∧ S2[r]? = some (some (oL ds)) ∧ hasBor r (oL ds) = false ∧ ds[i]? = some y ∧ ds.length < 4611686018427387904 ∧ Q y ((S2.map (killD r)).set r (some (oL (ds.eraseIdx i))))) : OkE NoX (cMutM isLst r M2 (pVar r) fr mPopAt S) Q := by
  refine ok_mutS hr h0 rfl (he.mono ?_)
  rintro us S2 ⟨i, y, ds, rfl, h2, h3, hi, hz, q⟩
  exact ⟨by simp [bor_im], .lst, ds, _, h2, h3, popAt_eq hi hz, q⟩
theorem ok_clear {ds0 : List D} (h0 : S[r]? = some (some (oL ds0))) (h3 : hasBor r (oL ds0) = false) (hq : Q (.im .non) ((S.map (killD r)).set r (some (oL [])))) : OkE NoX (cMutM isLst r [] (pVar r) cNil mClear S) Q := by
  refine ok_mutS (by simp) h0 rfl ?_
  rw [ok_nil]
  exact ⟨rfl, .lst, ds0, (.lst, [], .im .non), h0, h3, rfl, hq⟩
end
end Lin
namespace Lin
open PySem L2
section
variable {S : Sg} {QF : Fl → Sg → Prop} {fr : Sg → R (List D)} {f : Sg → R Fl} {M : List Nat} {tg : D → Sg → Option Sg}
theorem rngOk_of {n : Int} (h0 : -4611686018427387904 ≤ n) (h1 : n < 4611686018427387904) : rngOk n = true := by
  unfold rngOk
  have e : (2 : Int) ^ 62 = 4611686018427387904 := by rfl
  rw [e, Bool.and_eq_true]
  exact ⟨decide_eq_true h0, decide_eq_true h1⟩
theorem ok_rngA {Q : D × List D → Sg → Prop} (he : OkE NoX (fr S) fun ds S1 => ∃ n, ds = [I n] ∧ rngOk n = true ∧ Q (iRng 0 n) S1) : OkE NoX (iRng1F fr S) Q := by
  rw [ok_rng1]
  refine he.mono ?_
  rintro ds S1 ⟨n, rfl, h, q⟩
  dsimp only
  rw [if_pos h]
  exact q
theorem ok_rngB {Q : D × List D → Sg → Prop} (he : OkE NoX (fr S) fun ds S1 => ∃ m n, ds = [I m, I n] ∧ rngOk m = true ∧ rngOk n = true ∧ Q (iRng m n) S1) : OkE NoX (iRng2F fr S) Q := by
  rw [ok_rng2]
  refine he.mono ?_
  rintro ds S1 ⟨m, n, rfl, h1, h2, q⟩
  dsimp only
  rw [if_pos (by rw [h1, h2]; rfl)]
  exact q
def upto (n : Nat) : List D := (List.range n).map fun k : Nat => I k
theorem iRng_upto (n : Nat) : iRng 0 (n : Int) = (.im .non, upto n) := by
  unfold iRng upto
  simp
theorem upto_get {n i : Nat} {d : D} (h : (upto n)[i]? = some d) : d = I i ∧ i < n := by
  unfold upto at h
  rw [List.getElem?_map] at h
  cases q : (List.range n)[i]? with
  | none => rw [q] at h; cases h
  | some k =>
    rw [q] at h
    obtain ⟨h1, h2⟩ := List.getElem?_eq_some_iff.mp q
    rw [List.getElem_range] at h2
    subst h2
    exact ⟨by simpa using h.symm, by simpa using h1⟩
theorem upto_len (n : Nat) : (upto n).length = n := by unfold upto; simp
theorem ok_for1 (n : Nat) (hn : n < 1000000) (he : OkE NoX (fr S) fun ds S1 => ds = [I n] ∧ S1 = S) (h : OkE NoX (forL tg f (upto n) S) QF) : OkE NoX (cFor M tg (iRng1F fr) f S) QF := by
  rw [ok_for]
  refine ok_rngA (he.mono ?_)
  rintro ds S1 ⟨rfl, rfl⟩
  refine ⟨n, rfl, rngOk_of (by omega) (by omega), ?_⟩
  rw [iRng_upto]
  dsimp only
  rw [if_pos (clean_im M .non)]
  exact h
end
end Lin
namespace Lin
open PySem L2
theorem small_size {m : Nat} (h : m < 1000000) : m < sizeLine := by rw [sizeLine_eq]; omega
theorem small_size' {m : Nat} (h : m < 1000000) : m ≤ sizeLine := Nat.le_of_lt (small_size h)
end Lin
namespace Lin
open PySem L2
section
variable {S : Sg} {Q : D → Sg → Prop} {fa fe : Sg → R D} {i : Nat}
/-- [e for x in xs], the items one by one, the state as it was -/
theorem ok_lcMap {ds ys : List D} {k : Kd} (hi : i < S.length) (hS : S[i]? = some none) (ha : OkE NoX (fa S) fun d S1 => d = .nd k .lst ds ∧ S1 = S) (hf : ∀ d ∈ ds, d.mk kFz = d) (hl : ds.length < 1000000) (hy : ys.length = ds.length)
    (he : ∀ (j : Nat) d y, ds[j]? = some d → ys[j]? = some y → OkE NoX (fe (S.set i (some d))) fun y' S' => y' = y ∧ S' = S.set i (some d)) (hq : Q (.nd .own .lst ys) S) :
    OkE NoX (cLc [i] [] (gSet true i) (iSeq fa .lst) cYes fe S) Q := by
  rw [ok_lc, ok_iseq]
  refine ha.mono ?_
  rintro d S1 ⟨rfl, rfl⟩
  dsimp only
  rw [if_pos rfl, show ds.map (D.mk kFz) = ds from by
    conv => rhs; rw [← List.map_id ds]
    exact List.map_congr_left hf, clean_nil, if_pos rfl]
  have hw : ∀ o, wipeS [i] (S1.set i o) = S1 := fun o => by
    show (S1.set i o).set i none = S1
    rw [List.set_set]
    refine List.ext_getElem? fun j => ?_
    by_cases e : i = j
    · subst e; rw [List.getElem?_set_self hi, hS]
    · rw [List.getElem?_set_ne e]
  have hw0 : wipeS [i] S1 = S1 := by
    have := hw none
    rw [show S1.set i none = S1 from by
      refine List.ext_getElem? fun j => ?_
      by_cases e : i = j
      · subst e; rw [List.getElem?_set_self hi, hS]
      · rw [List.getElem?_set_ne e]] at this
    exact this
  rw [hw0]
  refine lcL_inv (Inv := fun j S acc => S = S1 ∧ acc = ys.take j) ds _ ?_ ?_ ⟨rfl, by simp⟩
  · rintro j d S acc hd ⟨rfl, rfl⟩
    have hj := (List.getElem?_eq_some_iff.mp hd).1
    have hyj : ys[j]? = some (ys[j]'(by omega)) := List.getElem?_eq_getElem _
    rw [so_gset, ok_yes, if_pos rfl]
    have fd := hf d (List.mem_of_getElem? hd)
    rw [show fzIf true d = d from fd]
    refine (he j d _ hd hyj).mono ?_
    rintro y S' ⟨rfl, rfl⟩
    refine ⟨⟨small_size (by rw [List.length_take]; omega), clean_nil _⟩, hw _, ?_⟩
    rw [List.take_add_one, hyj]; rfl
  · rintro S acc ⟨rfl, rfl⟩
    rw [← hy, List.take_length]
    exact hq
end
end Lin
namespace Lin
open PySem L2
theorem ok_chain {S : Sg} {Q : D → Sg → Prop} {fa fb fc : Sg → R D} {Mb Mc : List Nat} {o o' : D → D → Option D} (h : OkE NoX (fa S) fun da S1 => cleanD Mb da = true ∧ OkE NoX (fb S1) fun db S2 => ∃ v, db = .im v ∧ So (o da db) fun r => So (dBool r) fun b =>
    if b = true then OkE NoX (fc S2) fun dc S3 => So (o' db dc) fun d => Q d S3 else Q (B false) S2) : OkE NoX (cChain Mb Mc fa fb fc o o' S) Q := by
  unfold cChain
  rw [ok_bind]
  refine h.mono ?_
  rintro da S1 ⟨hc, h⟩
  rw [if_pos hc, ok_bind]
  refine h.mono ?_
  rintro db S2 ⟨v, rfl, h⟩
  dsimp only
  obtain ⟨r, e, h⟩ := h.get
  rw [e]
  obtain ⟨b, eb, h4⟩ := h.get
  have : r = .im (.bl b) := by
    unfold dBool at eb
    split at eb
    · cases eb; rfl
    · cases eb
  subst this
  cases b with
  | true =>
    dsimp only
    rw [if_pos rfl] at h4
    rw [ok_bind]
    refine h4.mono fun dc S3 h => ?_
    rw [ok_lift]
    exact h
  | false =>
    dsimp only
    rw [if_neg Bool.false_ne_true] at h4
    rw [ok_ok]
    exact h4
end Lin
end
section
namespace Lin
open PySem L2
/-! ### plain values and their marked forms -/
inductive P where
  | im (v : V)
  | nd (s : Sh) (vs : List P)
mutual
def P.all (c : Kd) : P → D
  | .im v => .im v
  | .nd s vs => .nd c s (P.allL c vs)
def P.allL (c : Kd) : List P → List D
  | [] => []
  | v :: r => P.all c v :: P.allL c r
end
theorem allL_eq (c : Kd) (vs : List P) : P.allL c vs = vs.map (P.all c) := by
  induction vs with
  | nil => rfl
  | cons v r ih => simp [P.allL, ih]
/-- root k, the rest c -/
def en (k c : Kd) (v : P) : D := match v with
  | .im v => .im v
  | .nd s vs => .nd k s (vs.map (P.all c))
theorem en_self (c : Kd) (v : P) : P.all c v = en c c v := by cases v <;> simp [P.all, en, allL_eq]
mutual
theorem all_mk (f : Kd → Kd) (c : Kd) : ∀ v : P, (P.all c v).mk f = P.all (f c) v
  | .im _ => rfl
  | .nd s vs => by simp only [P.all, D.mk]; rw [allL_mk f c vs]
theorem allL_mk (f : Kd → Kd) (c : Kd) : ∀ vs : List P, mkDL f (P.allL c vs) = P.allL (f c) vs
  | [] => rfl
  | v :: r => by simp only [P.allL, mkDL]; rw [all_mk f c v, allL_mk f c r]
end
theorem en_mk (f : Kd → Kd) (k c : Kd) (v : P) : (en k c v).mk f = en (f k) (f c) v := by
  cases v with
  | im v => rfl
  | nd s vs => simp only [en, D.mk, ← allL_eq, allL_mk]
theorem bo_own (i : Nat) : kBo i .own = .bor i := rfl
theorem bo_frz (i : Nat) : kBo i .frz = .frz := rfl
theorem bo_par (i : Nat) : kBo i .par = .par := rfl
theorem bo_bor (i j : Nat) : kBo i (.bor j) = .bor j := rfl
theorem fz_own : kFz .own = .frz := rfl
theorem fz_frz : kFz .frz = .frz := rfl
theorem fz_par' : kFz .par = .par := rfl
theorem fz_bor' (j : Nat) : kFz (.bor j) = .bor j := rfl
theorem pa_own : kPar .own = .par := rfl
theorem pa_frz : kPar .frz = .frz := rfl
theorem pa_par : kPar .par = .par := rfl
theorem pa_bor (j : Nat) : kPar (.bor j) = .par := rfl
theorem re_own (mr : List Bool) : kRet mr .own = .own := rfl
theorem re_frz (mr : List Bool) : kRet mr .frz = .frz := rfl
theorem re_par (mr : List Bool) : kRet mr .par = .par := rfl
theorem re_bor (mr : List Bool) (j : Nat) : kRet mr (.bor j) = if mr[j]? = some true then .bor j else .frz := rfl
mutual
theorem all_kinds (c : Kd) : ∀ v : P, ∀ k ∈ (P.all c v).kinds, k = c
  | .im _, k, h => by simp [P.all, D.kinds] at h
  | .nd s vs, k, h => by
    simp only [P.all, D.kinds, List.mem_cons] at h
    rcases h with h | h
    · exact h
    · exact allL_kinds c vs k h
theorem allL_kinds (c : Kd) : ∀ vs : List P, ∀ k ∈ kindsL (P.allL c vs), k = c
  | [], k, h => by simp [P.allL, kindsL] at h
  | v :: r, k, h => by
    simp only [P.allL, kindsL, List.mem_append] at h
    rcases h with h | h
    · exact all_kinds c v k h
    · exact allL_kinds c r k h
end
theorem en_kinds {k c : Kd} {v : P} {q : Kd} (h : q ∈ (en k c v).kinds) : q = k ∨ q = c := by
  cases v with
  | im v => simp [en, D.kinds] at h
  | nd s vs =>
    simp only [en, D.kinds, List.mem_cons, ← allL_eq] at h
    rcases h with h | h
    · exact .inl h
    · exact .inr (allL_kinds c vs q h)
theorem bor_en {r : Nat} {k c : Kd} (h1 : k ≠ .bor r) (h2 : c ≠ .bor r) (v : P) : hasBor r (en k c v) = false := by
  unfold hasBor
  rw [Bool.eq_false_iff]
  intro q
  rw [List.contains_iff_mem] at q
  rcases en_kinds q with e | e
  · exact h1 e.symm
  · exact h2 e.symm
theorem kill_en {r : Nat} {k c : Kd} (h1 : k ≠ .bor r) (h2 : c ≠ .bor r) (v : P) : killD r (some (en k c v)) = some (en k c v) := by
  show (if hasBor r _ then none else some _) = _
  rw [bor_en h1 h2]; rfl
theorem kill_opt {r : Nat} {k c : Kd} (h1 : k ≠ .bor r) (h2 : c ≠ .bor r) (o : Option P) : killD r (o.map (en k c)) = o.map (en k c) := by
  cases o with
  | none => rfl
  | some v => exact kill_en h1 h2 v
theorem of_en {k c : Kd} (h1 : k = .own ∨ k = .frz) (h2 : c = .own ∨ c = .frz) (v : P) : ofD (en k c v) = true := by
  unfold ofD
  rw [List.all_eq_true]
  intro q hq
  rcases en_kinds hq with e | e
  · rcases h1 with h | h <;> rw [e, h] <;> rfl
  · rcases h2 with h | h <;> rw [e, h] <;> rfl
theorem clean_cons (r : Nat) (M : List Nat) (d : D) : cleanD (r :: M) d = (!hasBor r d && cleanD M d) := rfl
theorem cl_en {k c : Kd} (h1 : k = .own ∨ k = .frz) (h2 : c = .own ∨ c = .frz) (v : P) : Cl (en k c v) := fun q hq => by
  rcases en_kinds hq with e | e
  · rw [e]; exact h1
  · rw [e]; exact h2
theorem fz_en (v : P) : Fz (en .frz .frz v) := fun q hq => by rcases en_kinds hq with e | e <;> exact e
/-! forms -/
abbrev pN (n : Nat) : P := .im (.int n)
abbrev pZ (i : Int) : P := .im (.int i)
abbrev pB (b : Bool) : P := .im (.bl b)
def pL {α : Type} (f : α → P) (xs : List α) : P := .nd .lst (xs.map f)
def pT (vs : List P) : P := .nd .tup vs
def pO (c : Nat) (ns : List Str) (vs : List P) : P := .nd (.obj c ns) vs
def kN (n : Nat) : Key := .inl (n : Int)
def pD {α : Type} (f : α → P) (E : List (Nat × α)) : P := .nd (.dic (E.map fun e => kN e.1)) (E.map fun e => f e.2)
theorem en_im (k c : Kd) (v : V) : en k c (.im v) = .im v := rfl
theorem en_pL {α : Type} (k c : Kd) (f : α → P) (xs : List α) : en k c (pL f xs) = .nd k .lst (xs.map fun x => en c c (f x)) := by
  simp [en, pL, en_self]
theorem en_pT (k c : Kd) (vs : List P) : en k c (pT vs) = .nd k .tup (vs.map (en c c)) := by
  simp [en, pT, en_self]
theorem en_pO (k c : Kd) (j : Nat) (ns : List Str) (vs : List P) : en k c (pO j ns vs) = .nd k (.obj j ns) (vs.map (en c c)) := by
  simp [en, pO, en_self]
theorem en_pD {α : Type} (k c : Kd) (f : α → P) (E : List (Nat × α)) : en k c (pD f E) = .nd k (.dic (E.map fun e => kN e.1)) (E.map fun e => en c c (f e.2)) := by
  simp [en, pD, en_self]
/-! operations -/
section
variable {α : Type} {k c k' c' : Kd} {f : α → P} {xs : List α}
theorem len_en : bLen [en k c (pL f xs)] = some (I xs.length) := by rw [en_pL, len_lst]; simp
theorem len_enT {vs : List P} : bLen [en k c (pT vs)] = some (I vs.length) := by rw [en_pT]; simp [bLen, immV, vLen]
theorem len_enD {E : List (Nat × α)} : bLen [en k c (pD f E)] = some (I E.length) := by rw [en_pD]; simp [bLen, immV, vLen, vLenD]
theorem ix_en {i : Nat} (h : i < xs.length) : oIx (en k c (pL f xs)) (I (i : Int)) = some (en c c (f xs[i])) := by
  rw [en_pL]; exact ix_lst (by omega) (by simp [h])
theorem ix_enq {i : Nat} {x : α} (h : xs[i]? = some x) : oIx (en k c (pL f xs)) (I (i : Int)) = some (en c c (f x)) := by
  rw [en_pL]; exact ix_lst (by omega) (by simp [h])
theorem ix_en1 {x : α} (h : xs.getLast? = some x) : oIx (en k c (pL f xs)) (I (-1)) = some (en c c (f x)) := by
  rw [en_pL]
  have hl : 0 < xs.length := by cases xs with | nil => simp at h | cons a r => simp
  have h1 : xs[xs.length - 1]? = some x := by rw [← List.getLast?_eq_getElem?]; exact h
  unfold oIx dIx
  dsimp only
  simp only [atI, ixN, List.length_map]
  rw [if_neg (by omega), if_pos (by omega)]
  simp [show (-1 + (xs.length : Int)).toNat = xs.length - 1 by omega, h1]
theorem ix_enT0 {v : P} {vs : List P} : oIx (en k c (pT (v :: vs))) (I 0) = some (en c c v) := by
  rw [en_pT]; exact ix_tup (by omega) (by simp)
theorem ix_enT1 {v w : P} {vs : List P} : oIx (en k c (pT (v :: w :: vs))) (I 1) = some (en c c w) := by
  rw [en_pT]; exact ix_tup (by omega) (by simp)
theorem list_en : bList [en k c (pL f xs)] = some (en .own c (pL f xs)) := by rw [en_pL, en_pL]; rfl
theorem dcat_en {ys : List α} (h : xs.length + ys.length < 1000000) : oAdd (en k c (pL f xs)) (en k' c (pL f ys)) = some (en .own c (pL f (xs ++ ys))) := by
  rw [en_pL, en_pL, en_pL]
  simp only [oAdd, dI2, dCat, List.length_map, if_pos (small_size' h), List.map_append, Option.or]
theorem isi_en : immV vIsi [en k c (pL f xs), .im (.ty "list")] = some (B true) := by
  rw [en_pL]; simp [immV, vIsi, tyN, show kitB "list" "list" = some true by first | rfl | decide +kernel]
theorem tru_en : dTru (en k c (pL f xs)) = some (!xs.isEmpty) := by rw [en_pL]; simp [dTru]
theorem isn_en {b : Bool} : dIsN b (en k c (pL f xs)) (.im .non) = some (B b) := by rw [en_pL]; cases b <;> rfl
theorem isn_non {b : Bool} : dIsN b (.im .non) (.im .non) = some (B (!b)) := by cases b <;> rfl
theorem isn_I {b : Bool} {i : Int} : dIsN b (I i) (.im .non) = some (B b) := by cases b <;> rfl
theorem seq_en : seqD (en k c (pL f xs)) = some (xs.map fun x => en c c (f x)) := by rw [en_pL]; rfl
theorem isi_int (i : Int) : immV vIsi [I i, .im (.ty "int")] = some (B true) := by simp [immV, vIsi, tyN, show kitB "int" "int" = some true by first | rfl | decide +kernel]
theorem isi_bool (i : Int) : immV vIsi [I i, .im (.ty "bool")] = some (B false) := by simp [immV, vIsi, tyN, show kitB "int" "bool" = some false by first | rfl | decide +kernel]
theorem not_B (b : Bool) : dNot (B b) = some (B (!b)) := rfl
theorem neg_I (i : Int) : dNeg (I i) = some (I (-i)) := rfl
theorem min_I (i j : Int) : bMin [I i, I j] = some (I (if j < i then j else i)) := rfl
theorem max_I (i j : Int) : bMax [I i, I j] = some (I (if j > i then j else i)) := rfl
/-! dicts -/
theorem key_N (n : Nat) : keyOf (I (n : Int)) = some (kN n) := rfl
theorem kN_inj {a b : Nat} : kN a = kN b ↔ a = b := by
  unfold kN
  rw [Sum.inl.injEq]
  omega
theorem val_lookup {β : Type} (E : List (Nat × α)) (n : Nat) (h : α → β) : valP (kN n) (E.map fun e => kN e.1) (E.map fun e => h e.2) = (E.lookup n).map h := by
  induction E with
  | nil => rfl
  | cons e r ih =>
    obtain ⟨a, b⟩ := e
    simp only [List.map_cons, valP, List.lookup_cons]
    by_cases q : a = n
    · subst q; simp
    · have : ¬ kN a = kN n := fun z => q (kN_inj.mp z)
      have q' : (n == a) = false := by simpa using fun z => q z.symm
      rw [if_neg this, ih, q']
theorem get_en {E : List (Nat × α)} {n : Nat} {x : α} (h : E.lookup n = some x) : oIx (en k c (pD f E)) (I (n : Int)) = some (en c c (f x)) := by
  rw [en_pD]
  simp only [oIx, dIx, dDGet, dGetO, key_N, Option.map_some, val_lookup E n (fun x => en c c (f x)), h]
  rfl
theorem lookup_some_iff {E : List (Nat × α)} {n : Nat} : (E.lookup n).isSome = decide (n ∈ E.map Prod.fst) := by
  induction E with
  | nil => rfl
  | cons e r ih =>
    obtain ⟨a, b⟩ := e
    simp only [List.map_cons, List.lookup_cons, List.mem_cons]
    by_cases q : n = a
    · subst q; simp
    · have q' : (n == a) = false := by simpa using q
      rw [q']; simp only [ih, q, false_or]
theorem in_en {E : List (Nat × α)} {n : Nat} : oIn (I (n : Int)) (en k c (pD f E)) = some (B (decide (n ∈ E.map Prod.fst))) := by
  rw [en_pD]
  simp only [oIn, dIn, dDIn, dGetO, key_N, Option.map_some, val_lookup E n (fun x => en c c (f x)), Option.isSome_map, lookup_some_iff]
  rfl
theorem notIn_en {E : List (Nat × α)} {n : Nat} : oNotIn (I (n : Int)) (en k c (pD f E)) = some (B (!decide (n ∈ E.map Prod.fst))) := by
  rw [en_pD]
  simp only [oNotIn, dIn, dDIn, dGetO, key_N, Option.map_some, val_lookup E n (fun x => en c c (f x)), Option.isSome_map, lookup_some_iff]
  rfl
theorem putP_new {κ β : Type} [DecidableEq κ] (q : κ) (v : β) : ∀ (ks : List κ) (vs : List β), ks.length = vs.length → q ∉ ks → putP q ks vs v = (ks ++ [q], vs ++ [v])
  | [], [], _, _ => rfl
  | a :: ks, b :: vs, h, hn => by
    rw [putP, if_neg (fun z => hn (by simp [z])), putP_new q v ks vs (by simpa using h) (fun z => hn (by simp [z]))]
    rfl
theorem set_new {E : List (Nat × α)} {n : Nat} {x : α} (hn : n ∉ E.map Prod.fst) (hd : (E.map Prod.fst).Nodup) (hl : E.length < 1000000) :
    oSet (.dic (E.map fun e => kN e.1)) (E.map fun e => en c c (f e.2)) (I (n : Int)) (en c c (f x)) = some (.dic ((E ++ [(n, x)]).map fun e => kN e.1), (E ++ [(n, x)]).map fun e => en c c (f e.2)) := by
  have e0 : (E.map fun e => kN e.1) = (E.map Prod.fst).map kN := by simp
  have h1 : kN n ∉ E.map fun e => kN e.1 := by
    rw [e0]; intro z
    obtain ⟨m, hm, q⟩ := List.mem_map.mp z
    exact hn (kN_inj.mp q ▸ hm)
  have h2 : (E.map fun e => kN e.1).Nodup := by
    rw [e0]
    rw [List.Nodup, List.pairwise_map]
    exact hd.imp fun h z => h (kN_inj.mp z)
  simp only [oSet, sLst, sDic, key_N, Option.bind_some, Option.none_or, List.length_map]
  rw [if_pos ⟨trivial, h2, small_size hl⟩, putP_new _ _ _ _ (by simp) h1]
  simp
/-! lists in and out -/
theorem dInts_N (ns : List Nat) : dInts (ns.map fun n : Nat => I (n : Int)) = some (ns.map fun n : Nat => (n : Int)) := by
  induction ns with
  | nil => rfl
  | cons n r ih => simp [dInts, ih]
def sortN (ns : List Nat) : List Nat := ns.mergeSort (fun a b => decide (a ≤ b))
theorem sortI_N (ns : List Nat) : sortI (ns.map fun n : Nat => (n : Int)) = (sortN ns).map fun n : Nat => (n : Int) := by
  unfold sortI sortN
  rw [List.map_mergeSort]
  intro a _ b _
  simp
theorem ints_N (ns : List Nat) : intsD (ns.map fun n : Nat => (n : Int)) = en .own .frz (pL pN ns) := by
  rw [en_pL]; simp [intsD, en_im]
theorem sorted_en {ns : List Nat} : bSorted [en k c (pL pN ns)] = some (en .own .frz (pL pN (sortN ns))) := by
  rw [en_pL]
  have e : (ns.map fun x => en c c (pN x)) = ns.map fun n : Nat => I (n : Int) := rfl
  simp only [bSorted, dSorted, e, dInts_N, Option.map_some, sortI_N, ints_N, Option.or]
theorem kInts_N (ns : List Nat) : kInts (ns.map kN) = some (ns.map fun n : Nat => (n : Int)) := by
  induction ns with
  | nil => rfl
  | cons n r ih => simp only [List.map_cons, kN, kInts]; rw [ih]; rfl
theorem sorted_enD {E : List (Nat × α)} (h : E.length < 64) : bSorted [en k c (pD f E)] = some (en .own .frz (pL pN (sortN (E.map Prod.fst)))) := by
  rw [en_pD]
  have e : (E.map fun e => kN e.1) = (E.map Prod.fst).map kN := by simp
  simp only [bSorted, dSorted, dSortedD, List.length_map, Option.none_or]
  rw [if_pos ⟨trivial, h⟩, e, kInts_N, Option.map_some, sortI_N, ints_N]
theorem list_enD {E : List (Nat × α)} : bList [en k c (pD f E)] = some (en .own .frz (pL pN (E.map Prod.fst))) := by
  rw [en_pD, en_pL]
  simp only [bList, dListOf, dListD, List.length_map, if_true, Option.none_or, List.map_map]
  rfl
theorem rg1_N {n : Nat} (h : n < 1000000) : dRg1 (I (n : Int)) = some (en .own .frz (pL pN (List.range n))) := by
  unfold dRg1
  dsimp only
  rw [if_pos ⟨rngOk_of (by omega) (by omega), by omega⟩, ← ints_N]
  simp [rgI]
theorem flats_N (ns : List Nat) : flats (ns.map fun n : Nat => I (n : Int)) = some (ns.map fun n : Nat => V.int (n : Int)) := by
  induction ns with
  | nil => rfl
  | cons n r ih => simp only [List.map_cons, flats, dFlat, flatV, if_true, ih]
end
end Lin
end
section
namespace Lin
open PySem L2
/-! ### equality of encoded values -/
structure Eqs {α : Type} [DecidableEq α] (f : α → P) (m : Nat) : Prop where
  py : ∃ d : α → PyData, (∀ k c x, toPy (en k c (f x)) = some (d x)) ∧ (∀ x y, PyData.eqv (d x) (d y) = decide (x = y)) ∧ (∀ x, (d x).canLay0 = true) ∧ ∀ x, (d x).depth ≤ m
theorem eqs_Z : Eqs pZ 1 := ⟨fun i => .int i, fun _ _ _ => rfl, fun x y => by simp [PyData.eqv, Bool.beq_eq_decide_eq], fun _ => rfl, fun _ => by simp [PyData.depth]⟩
theorem eqs_N : Eqs pN 1 := ⟨fun i => .int i, fun _ _ _ => rfl, fun x y => by simp only [PyData.eqv, Bool.beq_eq_decide_eq]; congr 1; exact propext Int.ofNat_inj, fun _ => rfl, fun _ => by simp [PyData.depth]⟩
theorem eqs_B : Eqs pB 1 := ⟨fun i => .bool i, fun _ _ _ => rfl, fun x y => by simp [PyData.eqv, Bool.beq_eq_decide_eq], fun _ => rfl, fun _ => by simp [PyData.depth]⟩
theorem toPyL_map {α : Type} {g : α → D} {d : α → PyData} (h : ∀ x, toPy (g x) = some (d x)) : ∀ xs : List α, toPyL (xs.map g) = some (xs.map d)
  | [] => rfl
  | x :: r => by simp only [List.map_cons, toPyL, h x, toPyL_map h r]
theorem eqvAll_map' {α : Type} [DecidableEq α] {d : α → PyData} (h : ∀ x y, PyData.eqv (d x) (d y) = decide (x = y)) : ∀ xs ys : List α, PyData.eqvAll (xs.map d) (ys.map d) = decide (xs = ys)
  | [], [] => by simp [PyData.eqvAll]
  | [], _ :: _ => by simp [PyData.eqvAll]
  | _ :: _, [] => by simp [PyData.eqvAll]
  | x :: xs, y :: ys => by simp [PyData.eqvAll, h, eqvAll_map' h xs ys, Bool.decide_and]
theorem lay_map {α : Type} {d : α → PyData} (h : ∀ x, (d x).canLay0 = true) : ∀ xs : List α, PyData.canLayAll0 (xs.map d) = true
  | [] => rfl
  | x :: r => by simp [PyData.canLayAll0, h x, lay_map h r]
theorem depth_map {α : Type} {d : α → PyData} {m : Nat} (h : ∀ x, (d x).depth ≤ m) : ∀ xs : List α, PyData.depthAll (xs.map d) ≤ m
  | [] => by simp [PyData.depthAll]
  | x :: r => by
    have := h x
    have := depth_map h r
    simp [PyData.depthAll]; omega
theorem eqs_L {α : Type} [DecidableEq α] {f : α → P} {m : Nat} (h : Eqs f m) : Eqs (pL f) (m + 1) := by
  obtain ⟨d, h1, h2, h3, h4⟩ := h.py
  refine ⟨fun xs => .list (xs.map d), fun k c xs => ?_, fun xs ys => ?_, fun xs => ?_, fun xs => ?_⟩
  · rw [en_pL, toPy, toPyL_map (fun x => h1 c c x)]; rfl
  · rw [PyData.eqv]; exact eqvAll_map' h2 xs ys
  · exact lay_map h3 xs
  · have := depth_map h4 xs
    simp [PyData.depth]; omega
theorem eq_en {α : Type} [DecidableEq α] {f : α → P} {m : Nat} (h : Eqs f m) (hm : m ≤ 64) {k c k' c' : Kd} {x y : α} : oEq (en k c (f x)) (en k' c' (f y)) = some (B (decide (x = y))) := by
  obtain ⟨d, h1, h2, h3, h4⟩ := h.py
  have s1 := h4 x
  have s2 := h4 y
  simp only [oEq, eqD, h1, SeqAt.shaped, h3, Bool.true_and]
  rw [decide_eq_true (by omega), decide_eq_true (by omega)]
  simp [h2]
theorem ne_en {α : Type} [DecidableEq α] {f : α → P} {m : Nat} (h : Eqs f m) (hm : m ≤ 64) {k c k' c' : Kd} {x y : α} : oNe (en k c (f x)) (en k' c' (f y)) = some (B (!decide (x = y))) := by
  obtain ⟨d, h1, h2, h3, h4⟩ := h.py
  have s1 := h4 x
  have s2 := h4 y
  simp only [oNe, eqD, h1, SeqAt.shaped, h3, Bool.true_and]
  rw [decide_eq_true (by omega), decide_eq_true (by omega)]
  simp [h2]
section
variable {k c k' c' : Kd}
theorem eq_LN {x y : List Nat} : oEq (en k c (pL pN x)) (en k' c' (pL pN y)) = some (B (decide (x = y))) := eq_en (eqs_L eqs_N) (by decide)
theorem ne_LN {x y : List Nat} : oNe (en k c (pL pN x)) (en k' c' (pL pN y)) = some (B (!decide (x = y))) := ne_en (eqs_L eqs_N) (by decide)
theorem eq_LLN {x y : List (List Nat)} : oEq (en k c (pL (pL pN) x)) (en k' c' (pL (pL pN) y)) = some (B (decide (x = y))) := eq_en (eqs_L (eqs_L eqs_N)) (by decide)
theorem ne_LLN {x y : List (List Nat)} : oNe (en k c (pL (pL pN) x)) (en k' c' (pL (pL pN) y)) = some (B (!decide (x = y))) := ne_en (eqs_L (eqs_L eqs_N)) (by decide)
theorem in_LN {n : Nat} {xs : List Nat} : oIn (I (n : Int)) (en k c (pL pN xs)) = some (B (decide (n ∈ xs))) := by
  rw [en_pL]
  have e : (xs.map fun x => en c c (pN x)) = xs.map fun n : Nat => I (n : Int) := rfl
  have q : inV (V.int (n : Int)) (xs.map fun n : Nat => V.int (n : Int)) = decide (n ∈ xs) := by
    unfold inV
    rw [List.any_map]
    induction xs with
    | nil => rfl
    | cons a r ih =>
      rw [List.any_cons, ih rfl]
      simp only [Function.comp, eqV, List.mem_cons]
      by_cases h : n = a
      · subst h; simp
      · have : ((a : Int) == (n : Int)) = false := by simp; omega
        rw [this]; simp [h]
  simp only [oIn, dIn, e, flats_N, dFlat, flatV, if_true, q, Option.or]
  rfl
theorem notIn_LN {n : Nat} {xs : List Nat} : oNotIn (I (n : Int)) (en k c (pL pN xs)) = some (B (!decide (n ∈ xs))) := by
  have h := in_LN (k := k) (c := c) (n := n) (xs := xs)
  rw [en_pL] at h ⊢
  have e : (xs.map fun x => en c c (pN x)) = xs.map fun n : Nat => I (n : Int) := rfl
  simp only [oIn, oNotIn, dIn, e, flats_N, dFlat, flatV, if_true, Option.or] at h ⊢
  simpa using h
end
/-! ### evaluator forms -/
section
variable {E : EX} {Ec : EC} {S : Sg} {Q : D → Sg → Prop} {QB : Bool → Sg → Prop} {QL : List D → Sg → Prop} {QF : Fl → Sg → Prop} {fa fb fc fe : Sg → R D} {ft fu : Sg → R Bool} {fr : Sg → R (List D)} {f h : Sg → R Fl} {M M2 : List Nat} {r : Nat}
theorem ok_cg {α : Type} {x : R α} {Q Q' : α → Sg → Prop} (h : ∀ a S, Q a S = Q' a S) : OkE E x Q = OkE E x Q' := by
  have : Q = Q' := funext fun a => funext fun S => h a S
  subst this; rfl
theorem so_cg {α : Type} {x : Option α} {Q Q' : α → Prop} (h : ∀ a, Q a = Q' a) : So x Q = So x Q' := by
  have : Q = Q' := funext fun a => h a
  subst this; rfl
def MutAt (op : Sh → List D → List D → Option (Sh × List D × D)) (d : D) (us : List D) (K : D → D → Prop) : Prop := match d with
  | .nd .own s ds => So (op s ds us) fun q => K (.nd .own q.1 q.2.1) q.2.2
  | _ => False
def shOk (okS : Sh → Bool) (d : D) : Bool := match d with
  | .nd _ s _ => okS s
  | _ => false
theorem nodeAt_nil {S : Sg} {d : D} (h : S[r]? = some (some d)) : nodeAt S r [] = some d := by unfold nodeAt; rw [h]; cases d <;> rfl
theorem ok_mutE {okS : Sh → Bool} {op : Sh → List D → List D → Option (Sh × List D × D)} : OkE E (cMutM okS r M2 (pVar r) fr op S) Q = So S[r]? fun o => So o fun d0 => if r ∈ M2 ∨ shOk okS d0 = false then False else OkE E (fr S) fun us S2 =>
    if us.all (fun d => !hasBor r d) = true then So ((S2.map (killD r))[r]?) fun o => So o fun d => MutAt op d us fun d' res => Q res ((S2.map (killD r)).set r (some d')) else False := by
  rw [ok_mutM, ok_pvar]
  rcases e : S[r]? with _ | _ | d0
  · rw [so_none, so_none]
  · rw [so_some, so_some, so_none, so_none]
  · simp only [so_some]
    have e2 : nodeOk okS S r [] = shOk okS d0 := by
      unfold nodeOk; rw [nodeAt_nil e]; cases d0 <;> rfl
    rw [e2]
    by_cases c : r ∈ M2 ∨ shOk okS d0 = false
    · rw [if_pos c, if_pos c]
    · rw [if_neg c, if_neg c]
      refine ok_cg fun us S2 => ?_
      by_cases c2 : us.all (fun d => !hasBor r d) = true
      · rw [if_pos c2, if_pos c2]
        rcases e3 : (S2.map (killD r))[r]? with _ | _ | d
        · have : nodeAt (S2.map (killD r)) r [] = none := by unfold nodeAt; rw [e3]
          rw [this, so_none, so_none]
        · have : nodeAt (S2.map (killD r)) r [] = none := by unfold nodeAt; rw [e3]
          rw [this, so_some, so_none, so_none]
        · rw [nodeAt_nil e3, so_some, so_some, so_some]
          cases d with
          | im v => rfl
          | nd k s ds =>
            cases k with
            | own =>
              show So _ _ = So _ _
              refine so_cg fun q => ?_
              simp only [so_some]
              rfl
            | _ => rfl
      · rw [if_neg c2, if_neg c2]
def SetAt (op : Sh → List D → D → D → Option (Sh × List D)) (d i v : D) (K : D → Prop) : Prop := match d with
  | .nd .own s ds => So (op s ds i v) fun q => K (.nd .own q.1 q.2)
  | _ => False
theorem ok_setE {op : Sh → List D → D → D → Option (Sh × List D)} : OkE E (cSetAt r M2 fe (pVar r) fb op S) QF = OkE E (fe S) fun v S1 => if cleanD M2 v = true ∧ hasBor r v = false then So S1[r]? fun o => So o fun _ => if r ∈ M2 then False else OkE E (fb S1) fun i S3 =>
    if hasBor r i = false then So ((S3.map (killD r))[r]?) fun o => So o fun d => SetAt op d i v fun d' => QF .nx ((S3.map (killD r)).set r (some d')) else False else False := by
  rw [ok_setAt]
  refine ok_cg fun v S1 => ?_
  by_cases c1 : cleanD M2 v = true ∧ hasBor r v = false
  · rw [if_pos c1, if_pos c1, ok_pvar]
    refine so_cg fun o => so_cg fun d0 => ?_
    by_cases c2 : r ∈ M2
    · rw [if_pos c2, if_pos c2]
    · rw [if_neg c2, if_neg c2]
      refine ok_cg fun i S3 => ?_
      by_cases c3 : hasBor r i = false
      · rw [if_pos c3, if_pos c3]
        rcases e3 : (S3.map (killD r))[r]? with _ | _ | d
        · have : nodeAt (S3.map (killD r)) r [] = none := by unfold nodeAt; rw [e3]
          rw [this, so_none, so_none]
        · have : nodeAt (S3.map (killD r)) r [] = none := by unfold nodeAt; rw [e3]
          rw [this, so_some, so_none, so_none]
        · rw [nodeAt_nil e3, so_some, so_some, so_some]
          cases d with
          | im v => rfl
          | nd k s ds =>
            cases k with
            | own =>
              show So _ _ = So _ _
              refine so_cg fun q => ?_
              simp only [so_some]
              rfl
            | _ => rfl
      · rw [if_neg c3, if_neg c3]
  · rw [if_neg c1, if_neg c1]
end
end Lin
end
section
namespace Lin
open PySem L2
section
variable {E : EX} {Ec : EC} {S : Sg} {Q : D → Sg → Prop} {QB : Bool → Sg → Prop} {QL : List D → Sg → Prop} {QF : Fl → Sg → Prop} {fa fb fc fe : Sg → R D} {ft fu : Sg → R Bool} {fr : Sg → R (List D)} {f h : Sg → R Fl} {M M2 : List Nat} {r : Nat}
variable {α : Type} {k c k' c' : Kd} {g : α → P} {xs : List α} {K2 : D → D → Prop} {K1 : D → Prop}
theorem shOk_L : shOk isLst (en k c (pL g xs)) = true := by rw [en_pL]; rfl
theorem shOk_nd {ds : List D} : shOk isLst (.nd k .lst ds) = true := rfl
theorem mut_app {x : α} (hl : xs.length < 1000000) : MutAt mAppend (en .own c (pL g xs)) [en c c (g x)] K2 = K2 (en .own c (pL g (xs ++ [x]))) (.im .non) := by
  rw [en_pL, en_pL]
  simp only [MutAt, mAppend, List.length_map, if_pos (small_size hl), so_some, List.map_append, List.map_cons, List.map_nil]
theorem mut_appN {ns : List Nat} {n : Nat} (hl : ns.length < 1000000) : MutAt mAppend (en .own c (pL pN ns)) [I (n : Int)] K2 = K2 (en .own c (pL pN (ns ++ [n]))) (.im .non) := mut_app (g := pN) (x := n) hl
theorem mut_appZ {ns : List Int} {n : Int} (hl : ns.length < 1000000) : MutAt mAppend (en .own c (pL pZ ns)) [I n] K2 = K2 (en .own c (pL pZ (ns ++ [n]))) (.im .non) := mut_app (g := pZ) (x := n) hl
theorem mut_clear : MutAt mClear (en .own c (pL g xs)) [] K2 = K2 (en .own c (pL g [])) (.im .non) := by
  rw [en_pL, en_pL]
  simp only [MutAt, mClear, so_some, List.map_nil]
theorem mut_popAt {i : Nat} {x : α} (hi : xs[i]? = some x) (hl : xs.length < 1000000) : MutAt mPopAt (en .own c (pL g xs)) [I (i : Int)] K2 = K2 (en .own c (pL g (xs.eraseIdx i))) (en c c (g x)) := by
  rw [en_pL, en_pL]
  have e : (xs.map fun x => en c c (g x))[i]? = some (en c c (g x)) := by simp [hi]
  simp only [MutAt, popAt_eq e (by simp; omega), so_some]
  congr 2
  rw [List.eraseIdx_eq_take_drop_succ, List.eraseIdx_eq_take_drop_succ]
  simp
theorem mut_pop0 {x : α} {r : List α} (hl : (x :: r).length < 1000000) : MutAt mPopAt (en .own c (pL g (x :: r))) [I 0] K2 = K2 (en .own c (pL g r)) (en c c (g x)) := by
  have := mut_popAt (c := c) (g := g) (K2 := K2) (xs := x :: r) (i := 0) (x := x) rfl hl
  simpa using this
theorem mut_pop {x : α} {r : List α} : MutAt mPop (en .own c (pL g (r ++ [x]))) [] K2 = K2 (en .own c (pL g r)) (en c c (g x)) := by
  rw [en_pL, en_pL]
  simp [MutAt, mPop, so_some]
theorem set_lst {i : Nat} {x : α} (h : i < xs.length) : SetAt oSet (en .own c (pL g xs)) (I (i : Int)) (en c c (g x)) K1 = K1 (en .own c (pL g (xs.set i x))) := by
  rw [en_pL, en_pL]
  have e : ixN (xs.map fun x => en c c (g x)).length (i : Int) = some i := by
    simp only [ixN, List.length_map]; rw [if_pos (by omega), if_pos (by omega)]; simp
  simp only [SetAt, oSet, sLst, e, Option.map_some, Option.or, so_some]
  congr 2
  rw [List.map_set]
theorem set_lstN {ns : List Nat} {i n : Nat} (h : i < ns.length) : SetAt oSet (en .own c (pL pN ns)) (I (i : Int)) (I (n : Int)) K1 = K1 (en .own c (pL pN (ns.set i n))) := set_lst (g := pN) (x := n) h
theorem set_dic {E : List (Nat × α)} {n : Nat} {x : α} (hn : n ∉ E.map Prod.fst) (hd : (E.map Prod.fst).Nodup) (hl : E.length < 1000000) :
    SetAt oSet (en .own c (pD g E)) (I (n : Int)) (en c c (g x)) K1 = K1 (en .own c (pD g (E ++ [(n, x)]))) := by
  rw [en_pD, en_pD]
  show So (oSet _ _ _ _) _ = _
  rw [set_new hn hd hl, so_some]
theorem set_dicN {E : List (Nat × Nat)} {n x : Nat} (hn : n ∉ E.map Prod.fst) (hd : (E.map Prod.fst).Nodup) (hl : E.length < 1000000) :
    SetAt oSet (en .own c (pD pN E)) (I (n : Int)) (I (x : Int)) K1 = K1 (en .own c (pD pN (E ++ [(n, x)]))) := set_dic (g := pN) (x := x) hn hd hl
/-! iteration -/
def itD (s : Sh) (d : D) : Option (D × List D) := match d with
  | .nd k s' ds => if s' = s then some (D.mk kFz (.nd k s' ds), ds.map (D.mk kFz)) else none
  | _ => none
theorem ok_iseqE {s : Sh} {Q : D × List D → Sg → Prop} : OkE E (iSeq fa s S) Q = OkE E (fa S) fun d S1 => So (itD s d) fun p => Q p S1 := by
  rw [ok_iseq]
  refine ok_cg fun d S1 => ?_
  cases d with
  | im v => simp only [itD, so_none]
  | nd k s' ds =>
    simp only [itD]
    by_cases e : s' = s
    · rw [if_pos e, if_pos e, so_some]
    · rw [if_neg e, if_neg e, so_none]
theorem it_en : itD .lst (en k c (pL g xs)) = some (en (kFz k) (kFz c) (pL g xs), xs.map fun x => en (kFz c) (kFz c) (g x)) := by
  have e : (en k c (pL g xs)).mk kFz = en (kFz k) (kFz c) (pL g xs) := en_mk _ _ _ _
  rw [en_pL] at e ⊢
  simp only [itD, if_true, e, List.map_map]
  congr 2
  exact List.map_congr_left fun x _ => en_mk _ _ _ _
def rg1 (ds : List D) : Option (D × List D) := match ds with
    | [.im (.int hi)] => if rngOk hi = true then some (iRng 0 hi) else none
    | _ => none
def rg2 (ds : List D) : Option (D × List D) := match ds with
    | [.im (.int lo), .im (.int hi)] => if (rngOk lo && rngOk hi) = true then some (iRng lo hi) else none
    | _ => none
theorem ok_rg1 {Q : D × List D → Sg → Prop} : OkE E (iRng1F fr S) Q = OkE E (fr S) fun ds S1 => So (rg1 ds) fun p => Q p S1 := by
  have e : iRng1F fr S = (fr S).bind fun ds S1 => R.lift (rg1 ds) S1 := by
    unfold iRng1F
    congr 1; funext ds S1
    unfold rg1
    split
    · first
        | (split <;> rfl)
        | (dsimp only; split <;> rfl)
        | (split <;> simp_all [R.lift])
    · first
        | rfl
        | (split <;> simp_all [R.lift])
  rw [e, ok_bind]
  exact ok_cg fun ds S1 => ok_lift
theorem ok_rg2 {Q : D × List D → Sg → Prop} : OkE E (iRng2F fr S) Q = OkE E (fr S) fun ds S1 => So (rg2 ds) fun p => Q p S1 := by
  have e : iRng2F fr S = (fr S).bind fun ds S1 => R.lift (rg2 ds) S1 := by
    unfold iRng2F
    congr 1; funext ds S1
    unfold rg2
    split
    · first
        | (split <;> rfl)
        | (dsimp only; split <;> rfl)
        | (split <;> simp_all [R.lift])
    · first
        | rfl
        | (split <;> simp_all [R.lift])
  rw [e, ok_bind]
  exact ok_cg fun ds S1 => ok_lift
theorem rg1_eq {n : Nat} (h : n < 1000000) : rg1 [I (n : Int)] = some (.im .non, (List.range n).map fun k : Nat => I (k : Int)) := by
  unfold rg1
  dsimp only
  rw [if_pos (rngOk_of (by omega) (by omega)), iRng_upto]; rfl
theorem rg2_eq {m n : Nat} (hm : m < 1000000) (h : n < 1000000) : rg2 [I (m : Int), I (n : Int)] = some (.im .non, (List.range (n - m)).map fun k : Nat => I ((m + k : Nat) : Int)) := by
  unfold rg2
  dsimp only
  rw [if_pos (by rw [rngOk_of (by omega) (by omega), rngOk_of (by omega) (by omega)]; rfl)]
  unfold iRng
  rw [show ((n : Int) - (m : Int)).toNat = n - m by omega]
  congr 2
theorem clean_non : cleanD M (.im .non) = true := clean_im _ _
/-- a loop over what is told by a list -/
theorem for_inv {β : Type} {tg : D → Sg → Option Sg} {e : β → D} {ys : List β} (Inv : Nat → Sg → Prop) (hb : ∀ (i : Nat) y S, ys[i]? = some y → Inv i S → So (tg (e y) S) fun S0 => OkE E (f S0) fun fl S1 => match fl with
      | .nx => Inv (i + 1) S1
      | .cnt => Inv (i + 1) S1
      | .brk => QF .nx S1
      | .ret d => QF (.ret d) S1) (hz : ∀ S, Inv ys.length S → QF .nx S) (h0 : Inv 0 S) : OkE E (forL tg f (ys.map e) S) QF := by
  refine forL_inv Inv _ _ ?_ ?_ h0
  · intro i d S hd hi
    rw [List.getElem?_map] at hd
    cases q : ys[i]? with
    | none => rw [q] at hd; cases hd
    | some y =>
      rw [q] at hd
      cases hd
      exact hb i y S q hi
  · intro S hi
    rw [List.length_map] at hi
    exact hz S hi
/-- a comprehension over what is told by a list -/
theorem lc_inv {β : Type} {ws Me : List Nat} {tg : D → Sg → Option Sg} {e : β → D} {ys : List β} (Inv : Nat → Sg → List D → Prop)
    (hb : ∀ (i : Nat) y S acc, ys[i]? = some y → Inv i S acc → So (tg (e y) S) fun S0 => OkE NoX (ft S0) fun b S1 => if b = true then OkE NoX (fe S1) fun z S2 => (acc.length < sizeLine ∧ cleanD Me z = true) ∧ Inv (i + 1) (wipeS ws S2) (acc ++ [z]) else Inv (i + 1) (wipeS ws S1) acc)
    (hz : ∀ S acc, Inv ys.length S acc → QL acc S) (h0 : Inv 0 S []) : OkE NoX (lcL ws Me tg ft fe (ys.map e) S []) QL := by
  refine lcL_inv Inv _ _ ?_ ?_ h0
  · intro i d S acc hd hi
    rw [List.getElem?_map] at hd
    cases q : ys[i]? with
    | none => rw [q] at hd; cases hd
    | some y =>
      rw [q] at hd
      cases hd
      exact hb i y S acc q hi
  · intro S acc hi
    rw [List.length_map] at hi
    exact hz S acc hi
/-- the plain case: one result for each item, the state as it was -/
theorem lc_map {β γ : Type} {i : Nat} {Me : List Nat} {e : β → D} {ys : List β} (h : γ → D) (w : β → γ) (hl : ys.length < 1000000) (hS : S.set i none = S)
    (hf : ∀ y ∈ ys, (e y).mk kFz = e y)
    (hb : ∀ y ∈ ys, OkE NoX (fe (S.set i (some (e y)))) fun z S2 => z = h (w y) ∧ cleanD Me z = true ∧ S2.set i none = S)
    (hz : QL ((ys.map w).map h) S) : OkE NoX (lcL [i] Me (gSet true i) cYes fe (ys.map e) S []) QL := by
  refine lc_inv (Inv := fun j S' acc => S' = S ∧ acc = ((ys.map w).map h).take j) ?_ ?_ ⟨rfl, by simp⟩
  · rintro j y S' acc hy ⟨rfl, rfl⟩
    have hm := List.mem_of_getElem? hy
    have hj := (List.getElem?_eq_some_iff.mp hy).1
    rw [so_gset, ok_yes, if_pos rfl, show fzIf true (e y) = e y from hf y hm]
    refine (hb y hm).mono ?_
    rintro z S2 ⟨rfl, h2, h3⟩
    refine ⟨⟨small_size (by rw [List.length_take]; omega), h2⟩, h3, ?_⟩
    rw [List.take_add_one]
    congr 1
    simp [hy]
  · rintro S' acc ⟨rfl, rfl⟩
    rw [show ys.length = ((ys.map w).map h).length by simp, List.take_length]
    exact hz
/-! more forms -/
theorem ok_chainE {Mb Mc : List Nat} {o o' : D → D → Option D} : OkE E (cChain Mb Mc fa fb fc o o' S) Q = OkE E (fa S) fun da S1 => if cleanD Mb da = true then OkE E (fb S1) fun db S2 => So (match db with | .im v => some v | _ => none) fun v => So (o da (.im v)) fun r => So (dBool r) fun b =>
    if b = true then OkE E (fc S2) fun dc S3 => So (o' (.im v) dc) fun d => Q d S3 else Q (B false) S2 else False := by
  unfold cChain
  rw [ok_bind]
  refine ok_cg fun da S1 => ?_
  by_cases c1 : cleanD Mb da = true
  · rw [if_pos c1, if_pos c1, ok_bind]
    refine ok_cg fun db S2 => ?_
    cases db with
    | nd k s ds => dsimp only; rw [so_none, ok_bad]
    | im v =>
      dsimp only
      rw [so_some]
      rcases e : o da (.im v) with _ | r
      · dsimp only; rw [so_none, ok_bad]
      · rw [so_some]
        cases r with
        | nd k s ds => dsimp only [dBool]; rw [so_none, ok_bad]
        | im u =>
          cases u with
          | bl b =>
            dsimp only [dBool]
            cases b with
            | true => dsimp only; rw [so_some, if_pos rfl, ok_bind]; refine ok_cg fun dc S3 => ?_; rw [ok_lift]
            | false => dsimp only; rw [so_some, if_neg Bool.false_ne_true, ok_ok]
          | _ => dsimp only [dBool]; rw [so_none, ok_bad]
  · rw [if_neg c1, if_neg c1, ok_bad]
def imV (d : D) : Option V := match d with | .im v => some v | _ => none
theorem ok_chn {Mb Mc : List Nat} {o o' : D → D → Option D} : OkE E (cChain Mb Mc fa fb fc o o' S) Q = OkE E (fa S) fun da S1 => if cleanD Mb da = true then OkE E (fb S1) fun db S2 => So (imV db) fun v => So (o da (.im v)) fun r => So (dBool r) fun b =>
    if b = true then OkE E (fc S2) fun dc S3 => So (o' (.im v) dc) fun d => Q d S3 else Q (B false) S2 else False := ok_chainE
theorem imV_im (v : V) : imV (.im v) = some v := rfl
def dispD (ds : List D) : Option D := match pairsK ds with
  | some (ks, vs) => if ks.Nodup ∧ ks.length ≤ 15 then some (.nd .own (.dic ks) vs) else none
  | none => none
theorem ok_disp : OkE E (cDisp fr S) Q = OkE E (fr S) fun ds S1 => So (dispD ds) fun d => Q d S1 := by
  unfold cDisp
  rw [ok_bind]
  refine ok_cg fun ds S1 => ?_
  unfold dispD
  rcases pairsK ds with _ | ⟨ks, vs⟩
  · dsimp only; rw [so_none, ok_bad]
  · dsimp only
    by_cases c : ks.Nodup ∧ ks.length ≤ 15
    · rw [if_pos c, if_pos c, so_some, ok_ok]
    · rw [if_neg c, if_neg c, so_none, ok_bad]
theorem disp1 {n : Nat} {d : D} : dispD [I (n : Int), d] = some (.nd .own (.dic [kN n]) [d]) := by
  simp [dispD, pairsK, key_N]
theorem ok_newK : OkE E (cNewK S) Q = Q (.nd .own (.dic []) []) S := by unfold cNewK; rw [ok_ok]
def OkM (E : EC) (x : Rc) (Q : D → List D → Prop) : Prop := OkCE (fun c d ms => match ms with
  | _ :: ms => E c d ms
  | [] => False) x fun d ms => d = .im .non ∧ match ms with
  | m :: ms => Q m ms
  | [] => False
theorem ok_mk {j : Nat} {rs : List (Option Nat)} {sem : FSem} : OkE E (cMk j rs fr sem S) Q = OkE E (fr S) fun ds S1 => if ds.length = rs.length ∧ ((List.zip rs ds).all fun p => p.1.isNone || ofD p.2) = true then
    OkM (fun c d ms => E c d (backS rs ms S1)) (sem (.nd .own (.obj j []) [] :: argsD rs ds)) fun d ms => Q d (backS rs ms S1) else False := by
  unfold cMk
  rw [ok_bind]
  refine ok_cg fun ds S1 => ?_
  by_cases c : ds.length = rs.length ∧ ((List.zip rs ds).all fun p => p.1.isNone || ofD p.2) = true
  · rw [if_pos c, if_pos c]
    unfold OkM
    rcases e : sem (.nd .own (.obj j []) [] :: argsD rs ds) with ⟨d, ms⟩ | ⟨c', d, ms⟩ | _
    · rw [okC_def]
      show _ = (d = .im .non ∧ _)
      cases d with
      | nd k s ds => simp [ok_bad]
      | im v =>
        cases ms with
        | nil => cases v <;> simp [ok_bad]
        | cons m ms => cases v <;> simp [ok_bad, ok_ok]
    · rw [okC_def, ok_def]
      cases ms <;> rfl
    · rw [okC_def, ok_def]; rfl
  · rw [if_neg c, if_neg c, ok_bad]
theorem okC_of {x : Rc} {d : D} {ms : List D} {Q : D → List D → Prop} (e : x = .ok d ms) : OkCE Ec x Q = Q d ms := by rw [e, okC_def]; rfl
theorem okC_ex {x : Rc} {c : Nat} {d : D} {ms : List D} {Q : D → List D → Prop} (e : x = .exc c d ms) : OkCE Ec x Q = Ec c d ms := by rw [e, okC_def]; rfl
theorem of_okCE {x : Rc} {c : Nat} {d : D} {ms : List D} (h : OkCE (fun c' d' ms' => c' = c ∧ d' = d ∧ ms' = ms) x fun _ _ => False) : x = .exc c d ms := by
  rw [okC_def] at h
  cases x with
  | ok a S => exact h.elim
  | bad => exact h.elim
  | exc c' d' ms' => obtain ⟨rfl, rfl, rfl⟩ := h; rfl
theorem of_okC {x : Rc} {d : D} {ms : List D} (h : OkCE NoC x fun d' ms' => d' = d ∧ ms' = ms) : x = .ok d ms := by
  obtain ⟨d', ms', e, rfl, rfl⟩ := h.get
  exact e
theorem en_LNp {ns : List Nat} : en k .par (pL pN ns) = en k .frz (pL pN ns) := by rw [en_pL, en_pL]; rfl
theorem en_LNo {ns : List Nat} : en k .own (pL pN ns) = en k .frz (pL pN ns) := by rw [en_pL, en_pL]; rfl
theorem en_LNb {ns : List Nat} {j : Nat} : en k (.bor j) (pL pN ns) = en k .frz (pL pN ns) := by rw [en_pL, en_pL]; rfl
theorem fold_LL {t : List (List Nat)} : D.nd k .lst (t.map fun r => en c .frz (pL pN r)) = en k c (pL (pL pN) t) := by
  rw [en_pL]
  congr 1
  refine List.map_congr_left fun r _ => ?_
  rw [en_pL, en_pL]; rfl
theorem fold_L : D.nd k .lst (xs.map fun x => en c c (g x)) = en k c (pL g xs) := by rw [en_pL]
theorem fold_LN {ns : List Nat} : D.nd k .lst (ns.map fun n : Nat => I (n : Int)) = en k .frz (pL pN ns) := by rw [en_pL]; rfl
theorem bor_nd {s : Sh} {ds : List D} : hasBor r (.nd k s ds) = (decide (Kd.bor r = k) || ds.any (hasBor r)) := by
  unfold hasBor
  rw [D.kinds, List.contains_cons, kindsL_eq]
  congr 1
  rw [Bool.eq_iff_iff, List.contains_iff_mem, List.any_eq_true, List.mem_flatMap]
  simp only [List.contains_iff_mem]
theorem kill_d {d : D} (h : hasBor r d = false) : killD r (some d) = some d := by
  show (if hasBor r d then none else some d) = some d
  rw [h]; rfl
theorem of_nd {s : Sh} {ds : List D} : ofD (.nd k s ds) = ((k == .own || k == .frz) && ds.all ofD) := by
  unfold ofD
  rw [D.kinds, List.all_cons, kindsL_eq]
  congr 1
  rw [Bool.eq_iff_iff, List.all_eq_true, List.all_eq_true]
  simp only [List.mem_flatMap, List.all_eq_true]
  exact ⟨fun h d hd q hq => h q ⟨d, hd, hq⟩, fun h q ⟨d, hd, hq⟩ => h d hd q hq⟩
/-- a cut between two statements -/
theorem seq_cut (A : Sg → Prop) (h1 : OkE E (f S) (OkF QF A)) (h2 : ∀ S1, A S1 → OkE E (h S1) QF) : OkE E (cSeq f h S) QF := by
  rw [ok_seq]
  refine h1.mono fun fl S1 q => ?_
  cases fl with
  | nx => exact h2 S1 q
  | _ => exact q
theorem dLst_s {ds : List D} (h : ds.length < 1000000) : dLst ds = some (.nd .own .lst ds) := by unfold dLst; rw [if_pos (small_size' h)]
theorem dTup_s {ds : List D} (h : ds.length < 1000000) : dTup ds = some (.nd .own .tup ds) := by unfold dTup; rw [if_pos (small_size' h)]
theorem en_L0 : en k c (pL g []) = .nd k .lst [] := rfl
theorem cat_raw {xs ys : List D} (h : xs.length + ys.length < 1000000) : oAdd (.nd k .lst xs) (.nd k' .lst ys) = some (.nd .own .lst (xs ++ ys)) := by
  simp only [oAdd, dI2, dCat, if_pos (small_size' h), Option.or]
theorem okM_ex {x : Rc} {c : Nat} {m d : D} {ms : List D} {Q : D → List D → Prop} (e : x = .exc c d (m :: ms)) : OkM Ec x Q = Ec c d ms := by
  unfold OkM; rw [okC_ex e]
theorem okM_of {x : Rc} {m : D} {ms : List D} {Q : D → List D → Prop} (e : x = .ok (.im .non) (m :: ms)) : OkM Ec x Q = Q m ms := by
  unfold OkM; rw [okC_of e]; simp
theorem all_clean {ds : List D} : ds.all (cleanD []) = true := by simp [List.all_eq_true, clean_nil]
theorem star_N {ns : List Nat} {i : Nat} : D.nd k .lst ((ns.map fun x : Nat => I (x : Int)).map (D.mk kFz) ++ [I (i : Int)]) = en k .frz (pL pN (ns ++ [i])) := by
  rw [en_pL]; simp [mk_im, en_im]
theorem set_dicL {E : List (Nat × List Nat)} {n : Nat} {x : List Nat} (hn : n ∉ E.map Prod.fst) (hd : (E.map Prod.fst).Nodup) (hl : E.length < 1000000) :
    SetAt oSet (en .own .own (pD (pL pN) E)) (I (n : Int)) (en .own .frz (pL pN x)) K1 = K1 (en .own .own (pD (pL pN) (E ++ [(n, x)]))) := by
  rw [← en_LNo]; exact set_dic hn hd hl
theorem cat_fz {ys : List α} {Q1 : D → Prop} (hl : xs.length + ys.length < 1000000) (h1 : kFz c = .frz) (h2 : kFz c' = .frz) (h : ∀ d, d.mk kFz = en .frz .frz (pL g (xs ++ ys)) → Q1 d) : So (oAdd (en k c (pL g xs)) (en k' c' (pL g ys))) Q1 := by
  rw [en_pL, en_pL, cat_raw (by simpa using hl), so_some]
  refine h _ ?_
  rw [D.mk, mkDL_eq, en_pL, List.map_append, List.map_append, List.map_map, List.map_map]
  congr 1
  congr 1
  · exact List.map_congr_left fun x _ => by simp only [Function.comp, en_mk, h1]
  · exact List.map_congr_left fun x _ => by simp only [Function.comp, en_mk, h2]
theorem mk_nd (q : Kd → Kd) (k : Kd) (s : Sh) (ds : List D) : D.mk q (.nd k s ds) = .nd (q k) s (ds.map (D.mk q)) := by rw [D.mk, mkDL_eq]
end
end Lin
end
section
namespace Lin
open PySem L2
/-! ### len(o), o.p, o(..) of own classes -/
def isInsD (c : Nat) (d : D) : Bool := match d with
  | .nd _ (.obj c' _) _ => c' == c
  | _ => false
def W0 : WX := fun _ _ _ _ => False
section
variable {g : Gc} {n : Nat} {W : WX} {Γ : Gh} {A A' A'' B : List (Option T)} {σ : L2.St} {H H' : Hp} {t : T} {M M1 M2 : List Nat}
theorem ins_of {c : Nat} (Rr : Rel g Γ n (A ++ [some t]) σ H) (h : isInsD c t.er = true) : rIns (g.cl c) t.root H := by
  unfold isInsD at h
  split at h
  · rename_i k c' ns ds e
    have hc : c' = c := by simpa using h
    subst hc
    obtain ⟨a, dx, ts, rfl, h1⟩ := er_nd e
    exact ⟨a, dx, _, rfl, Rr.top1⟩
  · cases h
def ownR (P ok : D → Bool) (sem : FSem) (d : D) (S : Sg) : R D := if P d = true then match callR [none] sem [d] S with
    | .ok r S2 => if ok r = true then .ok r S2 else .bad
    | _ => .bad
  else .bad
theorem own_core {c : Nat} {ok : D → Bool} {okv : V → Prop} {sem : FSem} {Q : VK} {S1 : Sg} (hok : ∀ t : T, ok t.er = true → okv t.root) (R1 : Rel g Γ n (A' ++ [some t]) σ H) (hn : n ≤ A'.length) (x : NextM n M A A') (e : ers n A' = S1)
    (h : PostE g n W M Γ A σ Q (ownR (isInsD c) ok sem t.er S1)) : rIns (g.cl c) t.root H ∧ spOf g [false] sem [t.root] H (fun v H' => okv v ∧ Q v H') (WE W0 σ) := by
  unfold ownR at h
  by_cases hp : isInsD c t.er = true
  · rw [if_pos hp] at h
    refine ⟨ins_of R1 hp, call_core (W := W0) (rs := [none]) (ts := [t]) (M := M) (A := A) R1 hn x (by simp) e (by simp) (by simp) (fun i r hr => ?_) ?_⟩
    · cases i <;> simp at hr
    · show PostE g n W0 M Γ A σ _ (callR [none] sem [t.er] S1)
      cases q : callR [none] sem [t.er] S1 with
      | bad => rw [q] at h; exact h
      | exc c d S => rw [q] at h; exact h.elim
      | ok r S2 =>
        rw [q] at h
        dsimp only at h
        by_cases ho : ok r = true
        · rw [if_pos ho] at h
          exact fun A2 t2 H2 R2 x2 e2 d2 => ⟨hok t2 (by rw [d2]; exact ho), h A2 t2 H2 R2 x2 e2 d2⟩
        · rw [if_neg ho] at h; exact h.elim
  · rw [if_neg hp] at h; exact h.elim
def cOwn (c : Nat) (ok : D → Bool) (fa : Sg → R D) (sem : FSem) : Sg → R D := fun S => (fa S).bind fun d S1 => ownR (isInsD c) ok sem d S1
def tOwn (C : Addr) (okv : V → Prop) (sp : Sp) (ta : TE) : TE := fun σ H Q => ta σ H fun x H1 => rIns C x H1 ∧ sp [x] H1 (fun v H' => okv v ∧ Q v H') (WE W0 σ)
theorem mean_own {c : Nat} {ok : D → Bool} {okv : V → Prop} {sem : FSem} {ta : TE} {fa : Sg → R D} (hok : ∀ t : T, ok t.er = true → okv t.root) (ha : MeanE g n W M ta fa) : MeanE g n W M (tOwn (g.cl c) okv (spOf g [false] sem) ta) (cOwn c ok fa sem) := by
  intro Γ A σ H Q Rr cl h
  refine ha Γ A σ H _ Rr cl ?_
  unfold cOwn at h
  cases ea : fa (ers n A) with
  | bad => rw [ea] at h; exact h.elim
  | exc c d S => rw [ea] at h; exact h
  | ok da S1 =>
    rw [ea] at h
    dsimp only [Lin.R.bind] at h
    intro A1 t1 H1 R1 x1 e1 d1
    subst d1
    exact own_core hok R1 (by rw [x1.len]; exact Rr.len) x1 e1 h
def isLenD (d : D) : Bool := match d with
  | .im (.int i) => decide (0 ≤ i) && decide (i < 9223372036854775808)
  | _ => false
theorem isLen_of (t : T) (h : isLenD t.er = true) : ∃ i, t.root = .int i ∧ 0 ≤ i ∧ i < 2 ^ 63 := by
  unfold isLenD at h
  split at h
  · rename_i i e
    have := er_im e
    subst this
    rw [Bool.and_eq_true] at h
    exact ⟨i, rfl, of_decide_eq_true h.1, of_decide_eq_true h.2⟩
  · cases h
/-- the arguments' check behind them, too -/
def tChk2 (P : V → Hp → Prop) (ta : TE) (tr : TA) : TA := fun σ H Q => ta σ H fun x H1 => P x H1 ∧ tr σ H1 fun xs H2 => P x H2 ∧ Q (x :: xs) H2
theorem meanc_valK2 {rs : List (Option Nat)} {ta : TE} {tr : TA} {fa : Sg → R D} {fr : Sg → R (List D)} {P : V → Hp → Prop} {Pd : D → Bool} (hP : ∀ Γ A t σ H, Rel g Γ n (A ++ [some t]) σ H → Pd t.er = true → P t.root H) (ha : MeanE g n W M1 ta fa) (hr : MeanC g n W rs M2 tr fr) :
    MeanC g n W (none :: rs) (M1 ++ M2) (tChk2 P ta tr) (cConsK Pd M2 fa fr) := by
  intro Γ A σ H Q Rr cl h
  refine ha Γ A σ H _ Rr cl.left ?_
  unfold cConsK at h
  cases ea : fa (ers n A) with
  | bad => rw [ea] at h; exact h.elim
  | exc c d S => rw [ea] at h; exact h
  | ok da S1 =>
    rw [ea] at h
    dsimp only [Lin.R.bind] at h
    intro A1 t1 H1 R1 x1 e1 d1
    by_cases hc : cleanD M2 da = true ∧ Pd da = true
    · rw [if_pos hc] at h
      have n1 : n ≤ A1.length := by rw [x1.len]; exact Rr.len
      refine ⟨hP Γ A1 t1 σ H1 R1 (by rw [d1]; exact hc.2), hr Γ (A1 ++ [some t1]) σ H1 _ R1 ((cl.right.next x1.toNext Rr.len).snoc (by rw [d1]; exact hc.1)) ?_⟩
      rw [ers_append n1, e1]
      cases eb : fr S1 with
      | bad => rw [eb] at h; exact h.elim
      | exc c d S =>
        rw [eb] at h
        intro A2 t2 H2 R2 x2 e2 d2
        obtain ⟨y, z⟩ := x2.left n1
        have n3 : n ≤ (A2.take A1.length).length := by rw [y.len]; exact n1
        rw [z] at R2 e2
        exact h (A2.take A1.length) t2 H2 (R2.mid n3) (x1.toNext.trans y) (by rw [ers_append n3] at e2; exact e2) d2
      | ok ds S2 =>
        rw [eb] at h
        dsimp only [Lin.R.bind] at h
        intro A2 ts H2 R2 x2 e2 d2 hk
        obtain ⟨y, z⟩ := x2.left n1
        have n3 : n ≤ (A2.take A1.length).length := by rw [y.len]; exact n1
        rw [z] at R2
        refine ⟨hP Γ (A2.take A1.length) t1 σ H2 (R2.drop (by rw [List.length_append]; omega)) (by rw [d1]; exact hc.2), ?_⟩
        rw [List.append_assoc] at R2
        have := h (A2.take A1.length) (t1 :: ts) H2 (by simpa using R2) (x1.trans y) (by rw [z, ers_append n3] at e2; exact e2) (by simp [d1, d2]) (fun i r e => by
          cases i with
          | zero => simp at e
          | succ i =>
            obtain ⟨u, h1, h2, h3, h4⟩ := hk i r (by simpa using e)
            refine ⟨u, by simpa using h1, h2, ?_, h4⟩
            rw [z, List.getElem?_append_left (by omega)] at h3
            exact h3)
        exact this
    · rw [if_neg hc] at h; exact h.elim
end
section
variable {X : Cx} {k : Nat} {f C : Addr} {fd : FuncData} {ps : List Str} {sp : Sp} {E : L2.St → XK} {x m : Str} {p pos apos : Pos} {e o fe : Expr} {es : List Expr} {ta : TE} {t : TA}
/-- o(e, ..), o an expression that gives an instance -/
theorem pe_inst2 {CX : CXT} (hf : PE X fe ta) (c : StX.CallO X.K C f) (F : FnOk X.prog X.w X.K X.mg X.base CX k f fd ps sp) (hr : Room k X.A) (hb : Binds X.K fd ps []) (hx : ∀ σ, PassesAt CX X σ (E σ)) (ha : PA X (e :: es) t)
    (ht : eval (.Call fe (e :: es) [] pos) X.env = (do callWith pos (← eval fe X.env) [] (backTo pos (starEach (e :: es) X.env)) (backToKw pos (keywordEach [] X.env))) := by rfl)
    (he : starEach (e :: es) X.env = (false, eval e X.env) :: starEach es X.env := by rfl) (hpl : (backTo pos (starEach es X.env)).any (·.1) = false := by rfl) : PE X (.Call fe (e :: es) [] pos) (tCallS sp E (tChk2 (rIns C) ta t)) := by
  refine ⟨fun pins s σ H Q I h => ?_⟩
  refine PyProof.Rows.Call_ (thn (hf.run pins s σ H _ I h) fun u s1 ⟨y, H1, I1, ry, ⟨a, dx0, fs0, ey, _⟩, q⟩ => ?_) ht
  subst ey
  obtain rfl : u = Value.ref a := ry
  refine StX.callO_with (thn (ha.run pos pins s1 σ H1 _ I1 q) fun us s2 ⟨vs, H2, I2, r, hi, q2⟩ => ?_) he hpl
  obtain ⟨a', dx, fs, e1, ea⟩ := hi
  cases e1
  obtain ⟨mA, O, _⟩ := ins_get I2.hok ea
  obtain ⟨od, J, _⟩ := O.look
  refine ⟨⟨C, _, _, J, rfl⟩, ?_⟩
  have r2 : Vals (V.ref a :: vs) (Value.ref a :: us) := .cons rfl r
  have hl : (Value.ref a :: us).length = ps.length := by rw [← r2.length]; exact F.len _ _ _ _ q2
  have b := hb s2 (Value.ref a :: us) I2.kIn (by rw [List.append_nil]; exact hl)
  rw [List.append_nil] at b
  refine wpAny_call (PySem.W.kco_code I2.kIn J rfl c.at_ c.fn c.fi (codeAny_mono (F.run X.A X.stack s2 H2 ⟨Value.ref a :: us, []⟩ (Value.ref a :: us) (V.ref a :: vs) Q (E σ) hr I2.env0 b r2 q2) fun r s' hq => ?_))
  cases r with
  | error e => exact hx σ pins H2 s2 e s' I2 hq
  | ok fl =>
    cases fl with
    | ret u => exact I2.after hq
    | next => exact False.elim hq
    | brk => exact False.elim hq
    | cont => exact False.elim hq
end
/-- an own __len__, a property's getter, an own __call__ -/
def Dl (P : Program) (w : World) (K : PySem.W.Frag) (mg : Str → Option Value) (base : Heap) (g : Gc) (c : Nat) (k : Nat) (sem : FSem) : Prop :=
  ∃ f fd ps, FnOk P w K mg base (L2.CX P w) k f fd ps (spOf g [false] sem) ∧ Spec1 K (g.cl c) "__len__" f ∧ Binds K fd ps []
def Dp (P : Program) (w : World) (K : PySem.W.Frag) (mg : Str → Option Value) (base : Heap) (g : Gc) (c : Nat) (m : Str) (k : Nat) (sem : FSem) : Prop :=
  ∃ f fd ps p, FnOk P w K mg base (L2.CX P w) k f fd ps (spOf g [false] sem) ∧ Cls K (g.cl c) ∧ PropOf K (g.cl c) m p f ∧ Binds K fd ps []
def Do (P : Program) (w : World) (K : PySem.W.Frag) (mg : Str → Option Value) (base : Heap) (g : Gc) (c : Nat) (ps : List Str) (k : Nat) (mr : List Bool) (sem : FSem) : Prop :=
  ∃ f fd, FnOk P w K mg base (L2.CX P w) k f fd ps (spOf g mr sem) ∧ StX.CallO K (g.cl c) f ∧ Binds K fd ps []
section
variable {Mz : List Nat} {X : Cx} {g : Gc} {W : WX} {M M1 M2 M3 M4 : List Nat} {a b c e o fe lo hi : Expr} {es : List Expr} {pos p apos p2 p3 pos' : Pos} {fa fb fc : Sg → R D} {fr : Sg → R (List D)} {rs : List (Option Nat)} {x m : Str} {cn k : Nat} {ps : List Str} {sem : FSem}
theorem passNox {K0 : XK} (h : ∀ cls d H, K0 cls d H → False) : Passes (L2.CX X.prog X.w) X.nox K0 := fun pins σ H s e s' I c =>
  (passL (X := X.nox) pins σ H s e s' I (by
    have : K0 = E0 := by funext cls d H'; exact propext ⟨fun z => (h _ _ _ z).elim, fun z => z.elim⟩
    rw [← this]; exact c))
theorem tE_mono {g : Gc} {n : Nat} {W : WX} {M : List Nat} {f : Sg → R D} {σ : L2.St} {H : Hp} {Q Q' : VK} (h : tE g n W M f σ H Q) (m : ∀ v H', Q v H' → Q' v H') : tE g n W M f σ H Q' := by
  obtain ⟨Γ, A, r, cl, p⟩ := h
  refine ⟨Γ, A, r, cl, ?_⟩
  cases e : f (ers n A) with
  | bad => rw [e] at p; exact p
  | exc c d S => rw [e] at p; exact p
  | ok d S => rw [e] at p; exact fun A' t H' R x e1 e2 => m _ _ (p A' t H' R x e1 e2)
theorem spOf_mono {g : Gc} {mr : List Bool} {sem : FSem} {vs : List V} {H : Hp} {Q Q' : VK} {E E' : XK} (h : spOf g mr sem vs H Q E) (hq : ∀ v H', Q v H' → Q' v H') (he : ∀ c d H', E c d H' → E' c d H') : spOf g mr sem vs H Q' E' := by
  obtain ⟨ts, e1, c, h⟩ := h
  refine ⟨ts, e1, c, ?_⟩
  cases q : sem (ts.map T.er) with
  | bad => rw [q] at h; exact h
  | ok d ms => rw [q] at h; exact fun H' t us b e2 e3 => hq _ _ (h H' t us b e2 e3)
  | exc c d ms => rw [q] at h; exact fun H' t us b e2 e3 => he _ _ _ (h H' t us b e2 e3)
theorem sd_lenO (F : Dl X.prog X.w X.K X.mg X.base g cn k sem) (hr : Room (k + 1) X.A) (ha : QE X g W M1 e fa) (hm : X.mg "len" = none) (hg : Gl X "len" := by rfl)
    (he : starEach [e] X.env = (false, eval e X.env) :: starEach [] X.env := by rfl) (hpl : (backTo pos (starEach [] X.env)).any (·.1) = false := by rfl) : QE X g W M1 (.Call (.Name "len" p) [e] [] pos) (cOwn cn isLenD fa sem) := by
  obtain ⟨f, fd, ps, h1, h2, h3⟩ := F
  have pe := pe_callB (p := p) (pos := pos) (x := "len") (call_lenO h2 h1 hr h3) hg hm (by rfl) (pa_cons ha pa_nil he) (by decide) (by decide) he hpl
  refine qE pe (fun Γ A σ H Q r cl h => ?_)
  have key := mean_own (c := cn) (W := W) (sem := sem) (okv := fun v => ∃ i, v = .int i ∧ 0 ≤ i ∧ i < 2 ^ 63) isLen_of (mn_E (g := g) (n := X.N.length) (W := W) (M := M1) (f := fa)) Γ A σ H Q r cl h
  refine tE_mono key fun v H' ⟨q1, q2⟩ => ?_
  refine ⟨v, rfl, q1, ?_⟩
  refine spOf_mono q2 (fun u H2 ⟨⟨i, hi, h0, h1⟩, q⟩ => ⟨i, hi, h0, h1, by rw [← hi]; exact q⟩) (fun _ _ _ z => z)
theorem sd_prop (F : Dp X.prog X.w X.K X.mg X.base g cn m k sem) (hr : Room (k + 1) X.A) (ha : QE X g W M1 e fa) (hab : attributeBase e m X.env (eval e X.env) = eval e X.env := by rfl) : QE X g W M1 (.Attribute e m pos) (cOwn cn (fun _ => true) fa sem) := by
  obtain ⟨f, fd, ps, p', h1, h2, h3, h4⟩ := F
  refine qE (pe_prop (pos := pos) (E := E0) (dvs := []) ha h2 h3 h1 hr h4 .nil (passNox fun _ _ _ z => z) hab) (fun Γ A σ H Q r cl h => ?_)
  have key := mean_own (c := cn) (W := W) (sem := sem) (ok := fun _ => true) (okv := fun v => True) (fun _ _ => trivial) (mn_E (g := g) (n := X.N.length) (W := W) (M := M1) (f := fa)) Γ A σ H Q r cl h
  refine tE_mono key fun v H' ⟨⟨a, dx, fs, q0, q1⟩, q2⟩ => ?_
  subst q0
  exact ⟨a, dx, fs, rfl, q1, spOf_mono q2 (fun u H2 q => q.2) (fun _ _ _ z => z)⟩
theorem sd_inst (cx : CxE X W) (F : Do X.prog X.w X.K X.mg X.base g cn ps k (false :: rs.map Option.isSome) sem) (hr : Room k X.A) (ho : QE X g W M1 fe fa) (ha : QC X g W M2 rs (e :: es) fr) (hM : ∀ r ∈ rs.filterMap id, r ∈ M1 ++ M2 := by decide) (hnd : (rs.filterMap id).Nodup := by decide)
    (ht : eval (.Call fe (e :: es) [] pos) X.env = (do callWith pos (← eval fe X.env) [] (backTo pos (starEach (e :: es) X.env)) (backToKw pos (keywordEach [] X.env))) := by rfl)
    (he : starEach (e :: es) X.env = (false, eval e X.env) :: starEach es X.env := by rfl) (hpl : (backTo pos (starEach es X.env)).any (·.1) = false := by rfl) (hMz : Mz = (M1 ++ M2) := by rfl) : QE X g W Mz (.Call fe (e :: es) [] pos) (cCall (none :: rs) (cConsK (isInsD cn) M2 fa fr) sem) := by
  subst hMz
  exact (let ⟨_, _, h1, h2, h3⟩ := F; qE (pe_inst2 ho h2 h1 hr h3 cx.at ha ht he hpl) (mean_call (rs := none :: rs) (meanc_valK2 (fun Γ A t σ H R h => ins_of R h) mn_E mn_C) (by simpa using hM) (by simpa using hnd)))
/-! ### slices -/
def cutD (xs : List D) (lo hi : Option Int) : List D := (xs.drop (HT.sIx xs.length 0 lo)).take (HT.sIx xs.length xs.length hi - HT.sIx xs.length 0 lo)
def dCutH (a b : D) : Option D := match a, b with
  | .nd _ .lst xs, .im (.int i) => some (.nd .own .lst (cutD xs none (some i)))
  | _, _ => none
def dCutL (a b : D) : Option D := match a, b with
  | .nd _ .lst xs, .im (.int i) => some (.nd .own .lst (cutD xs (some i) none))
  | _, _ => none
def dRev (a : D) : Option D := match a with
  | .nd _ .lst xs => some (.nd .own .lst xs.reverse)
  | _ => none
end
section
variable {g : Gc} {n : Nat} {W : WX} {Γ : Gh} {A A' A'' B : List (Option T)} {σ : L2.St} {H H' : Hp} {t : T} {M M1 M2 : List Nat}
def cutT (xs : List T) (lo hi : Option Int) : List T := (xs.drop (HT.sIx xs.length 0 lo)).take (HT.sIx xs.length xs.length hi - HT.sIx xs.length 0 lo)
theorem cutT_root (xs : List T) (lo hi : Option Int) : (cutT xs lo hi).map T.root = cutV (xs.map T.root) lo hi := by simp [cutT, cutV, List.map_take, List.map_drop]
theorem cutT_er (xs : List T) (lo hi : Option Int) : (cutT xs lo hi).map T.er = cutD (xs.map T.er) lo hi := by simp [cutT, cutD, List.map_take, List.map_drop]
theorem cutT_sub (xs : List T) (lo hi : Option Int) : (cutT xs lo hi).Sublist xs := (List.take_sublist _ _).trans (List.drop_sublist _ _)
theorem opm_cut {K : PySem.W.Frag} {fL fH : Int → Option Int} {op : D → D → Option D} (hop : ∀ a b d, op a b = some d → ∃ k xs i, a = .nd k .lst xs ∧ b = .im (.int i) ∧ d = .nd .own .lst (cutD xs (fL i) (fH i))) :
    OpM g n (fun x y H Q => ∃ i, y = .int i ∧ rSlL K x (fL i) (fH i) H Q) op := by
  intro Γ A ta tb σ H Q d Rr hn eo hq
  obtain ⟨k, xs, i, e1, e2, rfl⟩ := hop _ _ _ eo
  obtain ⟨a, dx, us, rfl, h1⟩ := er_nd e1
  have := er_im e2
  subst this
  refine ⟨i, rfl, a, us.map T.root, rfl, SqL.of Rr.top2, fun p hp => ?_⟩
  have R1 : Rel g Γ n (A ++ [some (T.nd a k .lst dx us)]) σ H := Rr.drop (by rw [List.length_append]; omega)
  have := R1.node1 (p := p) (ts := cutT us (fL i) (fH i)) hn hp .lst 0 ((cells_sublist (cutT_sub us (fL i) (fH i))).trans child_sub)
  have e3 : ho g .lst 0 ((cutT us (fL i) (fH i)).map T.root) = .lst (cutV (us.map T.root) (fL i) (fH i)) := by rw [cutT_root]; rfl
  rw [e3] at this
  exact hq _ _ this (by rw [T.er, erL_eq, cutT_er, h1])
theorem cutH_ok (a b d : D) (h : dCutH a b = some d) : ∃ k xs i, a = .nd k .lst xs ∧ b = .im (.int i) ∧ d = .nd .own .lst (cutD xs none (some i)) := by
  unfold dCutH at h
  split at h
  · cases h; exact ⟨_, _, _, rfl, rfl, rfl⟩
  · cases h
theorem cutL_ok (a b d : D) (h : dCutL a b = some d) : ∃ k xs i, a = .nd k .lst xs ∧ b = .im (.int i) ∧ d = .nd .own .lst (cutD xs (some i) none) := by
  unfold dCutL at h
  split at h
  · cases h; exact ⟨_, _, _, rfl, rfl, rfl⟩
  · cases h
end
section
variable {Mz : List Nat} {X : Cx} {g : Gc} {W : WX} {M M1 M2 M3 M4 : List Nat} {a b c e o fe : Expr} {es : List Expr} {pos p apos p2 p3 pos' : Pos} {fa fb fc : Sg → R D}
theorem sd_slH (ha : QE X g W M1 a fa) (hb : QE X g W M2 b fb) (hMz : Mz = (M1 ++ M2) := by rfl) : QE X g W Mz (.Subscript a (.Slice none (some b) none p2) pos) (cTwo M2 fa fb dCutH) := by
  subst hMz
  exact qE (pe_slice sl_list ha po_none (po_some hb)) (mean_two mn_E mn_E (opm_cut (fL := fun _ => none) (fH := fun i => some i) cutH_ok))
theorem sd_slL (ha : QE X g W M1 a fa) (hb : QE X g W M2 b fb) (hMz : Mz = (M1 ++ M2) := by rfl) : QE X g W Mz (.Subscript a (.Slice (some b) none none p2) pos) (cTwo M2 fa fb dCutL) := by
  subst hMz
  exact qE (pe_slice sl_list ha (po_some hb) po_none) (mean_two mn_E mn_E (opm_cut (fL := fun i => some i) (fH := fun _ => none) cutL_ok))
end
end Lin
end
section
namespace Lin
open PySem L2
/-! ### raise -/
abbrev veB : List Value := [.type "ValueError", .type "Exception", .type "BaseException", .type "object"]
/-- an own exception class without own __init__ -/
structure Ex0 (K : PySem.W.Frag) (C : Addr) : Prop where
  ex : PySem.W.excIn K C veB "ValueError.__new__" = true
  kp : PySem.W.keepIn K (.ref C) = true
  sb : PySem.W.subIn K (.ref C) (.type "BaseException") = some true
  ty : PySem.W.typeIn K (.ref C) = some (.type "type")
theorem pmk_own0 {X : Cx} {C : Addr} {x : Str} {p pos : Pos} (T : Ex0 X.K C) (gC : X.mg x = some (.ref C)) (hg : Gl X x) (hdb : (x == ("__debug__" : Str)) = false) : PMk X (.Call (.Name x p) [] [] pos) (fun _ H Q => Q (.ref C) none H) := by
  intro pins s σ H Q I h
  refine wpAny_Call_Name_kw (ld_glob I hg gC ?_ hdb)
  refine PySem.W.callWith_K0 I.kIn T.kp ?_
  obtain ⟨bm, N, nm, qn, bs, hdct, sn, sub, ab, col, dd, k0, k1, k2, k3, k5, mN, hC, hN, hni, Tl⟩ := exc_obj I.kIn T.ex
  exact wpAny_call_exc_subT PySem.F.excBase_ValueError Tl hC hN hni (fun h' e hm => mk_of I hm (raises_own T.sb T.ty) h (I.hok.gone hm.new)) (Nat.zero_le _)
def cRaise0 (c : Nat) : Sg → R Fl := fun S => .exc c (.im .non) S
/-- an own exception class whose __init__ keeps one value in the field f -/
structure Ex1 (K : PySem.W.Frag) (C : Addr) (f : Str) (fI : Addr) : Prop where
  cl : OexC K C
  ini : PySem.W.findIn K (.ref C) "__init__" = some (some (.ref fI))
  fn : PySem.W.typeIn K (.ref fI) = some (.type "function")
  no : PySem.W.findIn K (.ref C) f = some none
def spX (K : PySem.W.Frag) (f : Str) (Pv : V → Prop) : Sp := fun vs H Q _ => ∃ (a C : Addr) (v : V), vs = [.ref a, v] ∧ OexC K C ∧ PySem.W.findIn K (.ref C) f = some none ∧ H a = some (exo a C none) ∧ Pv v ∧
  ∀ dx, H dx = none → dx ≠ a → Q .non (upd (upd H dx (exd dx [(f, v)])) a (exo a C (some dx)))
def cRaise1 (c : Nat) (f : Str) (P : V → Bool) (fa : Sg → R D) : Sg → R Fl := fun S => (fa S).bind fun d S1 => match d with
  | .im v => if P v = true then .exc c (.nd .own (.xd [f]) [.im v]) S1 else .bad
  | _ => .bad
section
variable {g : Gc} {n : Nat} {W : WX} {Γ : Gh} {A A' A'' B : List (Option T)} {σ : L2.St} {H H' : Hp} {t : T} {M M1 M2 : List Nat}
theorem mean_raise0 {c : Nat} : MeanS g n W [] (fun _ σ H => W (.ref (g.cl c)) none σ H) (cRaise0 c) := by
  intro Γ A σ H Dn Rr cl h
  exact h A (.im .non) σ H ((show Rel g Γ n (A ++ []) σ H by rw [List.append_nil]; exact Rr).imm Rr.len .non) (NextS.refl [] A σ) rfl rfl
theorem mean_raise1 {K : PySem.W.Frag} {c : Nat} {f : Str} {fI : Addr} {P : V → Bool} {ta : TE} {fa : Sg → R D} (Tx : Ex1 K (g.cl c) f fI) (ha : MeanE g n W M ta fa) :
    MeanS g n W M (fun _ σ H => tMkO (g.cl c) (spX K f fun v => P v = true) [] (tCons ta tNil) σ H fun cls d H' => W cls d σ H') (cRaise1 c f P fa) := by
  intro Γ A σ H Dn Rr cl h
  refine ha Γ A σ H _ Rr cl ?_
  unfold cRaise1 at h
  cases ea : fa (ers n A) with
  | bad => rw [ea] at h; exact h.elim
  | exc c d S =>
    rw [ea] at h
    exact fun A' t H' R x e1 e2 => h A' t σ H' R (x.toS M σ) e1 e2
  | ok da S1 =>
    rw [ea] at h
    dsimp only [Lin.R.bind] at h
    intro A1 t1 H1 R1 x1 e1 d1
    cases da with
    | nd k s ds => exact h.elim
    | im v =>
      dsimp only at h
      by_cases hp : P v = true
      · rw [if_pos hp] at h
        have et := er_im d1
        subst et
        refine ⟨by simp, fun a na => ?_⟩
        refine ⟨a, g.cl c, v, rfl, Tx.cl, Tx.no, upd_same, hp, fun dx nd hne => ?_⟩
        have nd1 : H1 dx = none := by rw [upd_ne hne] at nd; exact nd
        refine ⟨rfl, dx, [(f, v)], upd_same, by rw [upd_ne hne, upd_same], nd1, ?_⟩
        have eH : upd (del (upd (upd (upd H1 a (exo a (g.cl c) none)) dx (exd dx [(f, v)])) a (exo a (g.cl c) (some dx))) a) dx (.xd [(f, v)]) = upd H1 dx (.xd [(f, v)]) := by
          funext b
          by_cases hb : b = dx
          · rw [hb, upd_same, upd_same]
          · rw [upd_ne hb, upd_ne hb]
            by_cases hba : b = a
            · rw [hba, del_same, na]
            · rw [del_ne hba, upd_ne hba, upd_ne hb, upd_ne hba]
        rw [eH]
        have n1 : n ≤ A1.length := by rw [x1.len]; exact Rr.len
        have R2 := R1.node1 (p := dx) (ts := [.im v]) n1 nd1 (.xd [f]) 0 (by simp [cellsL, T.cells])
        exact h A1 _ σ _ R2 (x1.toNext.toS M σ) e1 rfl
      · rw [if_neg hp] at h; exact h.elim
end
section
variable {Mz : List Nat} {X : Cx} {g : Gc} {W : WX} {M M1 M2 : List Nat} {e : Expr} {pos p pos' : Pos} {fa : Sg → R D} {x : Str} {c k : Nat}
theorem sds_raise0 (cx : CxS X W) (T : Ex0 X.K (g.cl c)) (gC : X.mg x = some (.ref (g.cl c))) (hg : Gl X x := by rfl) (hdb : (x == ("__debug__" : Str)) = false := by decide) : QS X g W [] (.Raise (some (.Call (.Name x p) [] [] pos)) none pos') (cRaise0 c) :=
  qS (ps_raise cx.calm cx.takes (pmk_own0 T gC hg hdb)) mean_raise0
/-- the __init__ of such a class, as its rule -/
def Dx (P : Program) (w : World) (K : PySem.W.Frag) (mg : Str → Option Value) (base : Heap) (g : Gc) (c : Nat) (x f : Str) (Pv : V → Bool) : Prop :=
  ∃ fI fd par, FnOk P w K mg base (L2.CX P w) 1 fI fd ["self", par] (spX K f fun v => Pv v = true) ∧ Ex1 K (g.cl c) f fI ∧ mg x = some (.ref (g.cl c)) ∧ Binds K fd ["self", par] []
theorem sds_raise1 {f : Str} {Pv : V → Bool} (cx : CxS X W) (F : Dx X.prog X.w X.K X.mg X.base g c x f Pv) (hr : Room 2 X.A) (ha : QE X g W M e fa) (hg : Gl X x := by rfl) (hdb : (x == ("__debug__" : Str)) = false := by decide)
    (he : starEach [e] X.env = (false, eval e X.env) :: starEach [] X.env := by rfl) (hpl : (backTo pos (starEach [] X.env)).any (·.1) = false := by rfl) : QS X g W M (.Raise (some (.Call (.Name x p) [e] [] pos)) none pos') (cRaise1 c f Pv fa) := by
  obtain ⟨fI, fd, par, h1, h2, h3, h4⟩ := F
  exact qS (ps_raise cx.calm cx.takes (pmk_oex h2.cl h2.ini h2.fn h1 hr h4 .nil passL hg h3 (pa_cons ha pa_nil he) hdb he hpl)) (mean_raise1 h2 mn_E)
end
/-! ### such an __init__: Base.__init__(self, ..), self.f = par -/
/-- what the class Base must have -/
structure BaseC (K : PySem.W.Frag) (mg : Str → Option Value) (x : Str) (B : Addr) : Prop where
  gl : mg x = some (.ref B)
  ga : PySem.W.specialIn K (.ref B) "__getattribute__" = some (some (.builtin "type.__getattribute__"))
  rd : PySem.W.readsIn K B (.type "type") = true
  fd : PySem.W.findCls K (.ref B) (.type "type") "__init__" = some (.val (.builtin "ValueError.__init__"))
section
variable {X : Cx} {e : Expr} {es : List Expr} {ta : TA} {x : Str} {B : Addr} {p1 p2 pos : Pos}
theorem pe_baseInit {pl : Sem Bool} (T : BaseC X.K X.mg x B) (hg : Gl X x) (ha : PA X (e :: es) ta) (hdb : (x == ("__debug__" : Str)) = false)
    (hc : eval (.Call (.Attribute (.Name x p1) "__init__" p2) (e :: es) [] pos) X.env = (do
      let ov ← eval (.Name x p1) X.env
      standAt p2.atName
      let (f, first) ← holding [ov] (getMethod ov "__init__" pl)
      callWith pos f first (backTo pos (starEach (e :: es) X.env)) (backToKw pos (keywordEach [] X.env))))
    (he : starEach (e :: es) X.env = (false, eval e X.env) :: starEach es X.env) (hpl : (backTo pos (starEach es X.env)).any (·.1) = false) :
    PE X (.Call (.Attribute (.Name x p1) "__init__" p2) (e :: es) [] pos) (tVeI X.K ta) := by
  refine ⟨fun pins s σ H Q I h => ?_⟩
  refine PySem.W.methodCall_KW (ld_glob I hg T.gl ?_ hdb) hc
  refine PySem.W.method_cls I.kIn T.ga (PySem.W.cls_value I.kIn T.rd T.fd (by decide +kernel) ?_)
  refine PyProof.Rows.callWith_method1 (thn (ha.run pos pins _ σ H _ (I.tok _) h) fun us s1 ⟨vs, H1, I1, r1, a, C, ws, ev, hl, T', ea, q⟩ => ?_) he hpl
  subst ev
  cases r1 with
  | @cons _ u0 _ ur ra rw' =>
    have hu0 : u0 = Value.ref a := ra
    subst hu0
    have hlen : ur.length ≤ sizeLine := by
      have := Paired.length rw'
      rw [← this, sizeLine_eq]; omega
    exact oinit_ok T' I1 ea hlen fun s' J => ⟨.non, H1, J, rfl, q⟩
end
section
variable {P : Program} {w : World} {K : PySem.W.Frag} {mg : Str → Option Value} {base : Heap}
theorem exinit_ok {x qual par f bx : Str} {st : Stmt} {fA B : Addr} {fd : FuncData} {msg : Expr} {p1 p2 p3 p4 p5 q1 q2 q3 q4 : Pos} {Pv : V → Bool} (F : Fun K x qual st fA fd) (S : FnScope ["self", par] ["self", par] (defScope st)) (T : BaseC K mg bx B)
    (hbody : defBody st = [.Expr (.Call (.Attribute (.Name bx p1) "__init__" p2) [.Name "self" p3, msg] [] p4) p5, .Assign [.Attribute (.Name "self" q1) f q2] (.Name par q3) q4])
    (hb : ∀ (cdv : Value) (A : Around) (outer : List Env) (s : Shared) (H : Hp) (E : XK), Room 0 (A.deeper (PyProof.Rows.envOfC qual (defScope st) s.heap.objs.size fA cdv)) →
      ∃ tm : TE, (∀ σ H' Q v, σ[1]? = some (some v) → Pv v = true → (∀ u, Q u H') → tm σ H' Q) ∧ PSs (cxOf (L2.CX P w) P w K mg base ["self", par] qual (defScope st) fA cdv A outer s H E) (defBody st)
        (tSeq (tDrop (tVeI K (tCons (tVar 0) (tCons tm tNil)))) (tOst K f (tVar 0) (tVar 1)))) :
    FnOk P w K mg base (L2.CX P w) 1 fA fd ["self", par] (spX K f fun v => Pv v = true) := by
  refine F.okX (k := 0) S (fun vs H Q E h => ?_) fun cdv A outer s H vs Q E hr h => ?_
  · obtain ⟨a, C, v, rfl, _⟩ := h; rfl
  · obtain ⟨a, C, v, rfl, hC, hno, ha, hv, hq⟩ := h
    obtain ⟨tm, h1, h2⟩ := hb cdv A outer s H E hr
    refine ⟨_, h2, ?_⟩
    refine ⟨.ref a, rfl, h1 _ _ _ v rfl hv fun u => ?_⟩
    refine ⟨a, C, [u], rfl, by simp, hC, ha, ?_⟩
    refine ⟨v, rfl, .ref a, rfl, a, C, rfl, hC, hno, .inl ⟨ha, fun dx n1 n2 => hq dx n1 n2⟩⟩
end
end Lin
end
section
set_option maxHeartbeats 4000000
namespace Lin
open PySem PySem.Spec PySem.Calls PyProof.Rows L2
/-! ### isinstance of a caught error, its dict being there or not -/
section
variable {prog : Program} {w : World} {A : Around} {E : Value → Shared → Prop} {s : Shared} {K : PySem.W.Frag} {x C : Addr} {ox : Obj} {od : Option Obj}
theorem fo_class (T : ExcC K C) : PySem.W.findObj K C od "__class__" = some (.bind (.builtin "getset_descriptor.__get__") (.builtin "object.__class__")) := by
  obtain ⟨cd, hcd, _⟩ := PySem.W.any_some T.hd
  unfold PySem.W.findObj
  rw [hcd, Option.bind_some, T.ha, Option.bind_some]
  simp [T.hn, T.ht]
theorem exc_class {Q : Option Value → Shared → Prop} (T : ExcC K C) (X : K.In s.heap) (J : PySem.W.InstAt s.heap x ox C od) (h : Q (some (.ref C)) { s with toks := s.toks + 1 }) : wpAny (model prog w) A (getAttr? (.ref x) "__class__") Q E s := by
  obtain ⟨hp, gs, dr, tk, os⟩ := s
  have ty0 := J.type (M := model prog w)
  have lg := PySem.W.looks_findIn (M := model prog w) X T.hg
  have lk := PySem.W.looks_findIn (M := model prog w) X T.hk
  have lf := PySem.W.looks_find (M := model prog w) X J (fo_class T)
  have sb : PySem.W.Looks (model prog w) hp (isInstance (.ref x) (.type "BaseException")) true := ty0.andThen (PySem.W.looks_subIn X T.hs)
  have n0 : (false && onTheHeap (Value.builtin "BaseException.__getattribute__")) = false := rfl
  have n1 : (onTheHeap (Value.ref C) && (Value.builtin "BaseException.__getattribute__" == Value.builtin "object.__getattribute__")) = false := by
    rw [show (Value.builtin "BaseException.__getattribute__" == Value.builtin "object.__getattribute__") = false by decide +kernel]; rfl
  unfold getAttr? getAttrBy? getAttrBy
  refine wpAny_bind (wpAny_mkText (wpAny_bind (wpAny_attempt (wpAny_holding (wpAny_bind (ty0.at (wpAny_bind (lg.at ?_))))))))
  change wpAny _ _ (if (onTheHeap (Value.ref C) && (Value.builtin "BaseException.__getattribute__" == Value.builtin "object.__getattribute__")) = true then _ else _) _ _ _
  rw [n1, if_neg Bool.false_ne_true]
  unfold getAttrByItsOwn hookBefore
  refine wpAny_bind ?_
  rw [if_pos (by rfl : onTheHeap (Value.ref C) = true)]
  refine lk.at (wpAny_bind (wpAny_attempt (wpAny_holding ?_)))
  unfold callGetattribute
  rw [n0, if_neg Bool.false_ne_true]
  unfold boundAndCalled
  rw [PySem.F.excAttr_ValueError.ga.bind (.ref x)]
  refine wpAny_bind (wpAny_pure ?_)
  change wpAny _ _ (call (.builtin "BaseException.__getattribute__") [.ref x, .str "__class__" tk]) _ _ _
  refine wpAny_call (codeAny_call_builtin PySem.F.excAttr_ValueError.ga.plain PySem.F.entry_bexc_ga (@PySem.W.check_slot (model prog w) _ _ ⟨hp, gs, dr, tk + 1, os⟩ "BaseException.__getattribute__" "BaseException" "__getattribute__" (.ref x) [.str "__class__" tk] [] _ (by decide +kernel) (by decide +kernel) sb (PySem.F.args_bexc_ga (.ref x) (.str "__class__" tk)) ?_))
  unfold Builtin.«object.__getattribute__»
  refine wpAny_bind (wpAny_of_eq (a := ((Value.ref x : Value), [Value.str "__class__" tk])) (by first | rfl | (simp only [slotArgs]; rfl)) (wpAny_bind (wpAny_pure (wpAny_bind (ty0.at (wpAny_bind (lf.at ?_)))))))
  change wpAny _ _ (holding [Value.builtin "object.__class__"] (call (.builtin "getset_descriptor.__get__") [.builtin "object.__class__", .ref x, .ref C]) >>= ret) _ _ _
  refine wpAny_bind (wpAny_holding (wpAny_call (PySem.W.class_get (s := ⟨hp, gs, dr, tk + 1, os⟩) (ox := ox) (od := od) X J T.hm (wpAny_pure ?_))))
  change wpAny _ _ (handedOut (.ref C)) _ _ _
  rw [PySem.W.handedOut_of (v := .ref C) rfl]
  first
    | exact wpAny_pure (wpAny_pure h)
    | exact wpAny_pure h
    | exact wpAny_pure (wpAny_bind (wpAny_pure (wpAny_pure h)))
theorem kit_exc (T : ExcC K C) : PySem.W.KitX K (.ref x) (.ref C) (fun h => PySem.W.InstAt h x ox C od) := by
  obtain ⟨cd, hcd, _⟩ := PySem.W.any_some T.hd
  unfold PySem.W.clsIn at hcd
  split at hcd
  · rename_i c' d' cd' sl' hl
    refine ⟨fun _ _ _ J => J.type, fun _ _ X _ A' Q' E' s' k q => ?_, fun h tp dd its n sl X htp => ?_, fun X J k => exc_class T X J k⟩
    · unfold isType loadHead
      exact wpAny_bind (wpAny_loadPart (k _ _ (X _ _ hl)) (wpAny_pure q))
    · rw [Bool.eq_false_iff]
      intro q
      have e := Value.ref.inj (beq_iff_eq.mp q)
      subst e
      have z := (X _ _ hl).symm.trans htp
      cases z
  · cases hcd
/-- isinstance(e, c), e the exception that the suite holds -/
def rIsX (K : PySem.W.Frag) (D a : Addr) (d : Option Addr) : List V → Hp → VK → Prop := fun xs H Q => ∃ (c : V) (cv : Value) (b : Bool), xs = [.ref a, c] ∧ (∀ u, RelV c u → u = cv) ∧ PySem.W.kitOne K (.ref D) cv = some b ∧ (∀ dd, d = some dd → ∃ fs, H dd = some (.xd fs)) ∧ Q (.bl b) H
theorem call_isX {X : Cx} {a D : Addr} {oe : Obj} {pn : List (Addr × Obj)} {d : Option Addr} (T : ExcC X.K D) (hz : Zc (.ref D) d oe) (hf : ∃ vs, oe.data = .fields vs) : CallR (X.suite a ((a, oe) :: pn)) (.builtin "isinstance") (rIsX X.K D a d) := by
  intro pins s σ H xs us Q I r h
  obtain ⟨c, cv, b, rfl, hcv, e, hd, q⟩ := h
  cases r with
  | cons rx rr =>
    cases rr with
    | cons rt rr =>
      cases rr
      cases rx
      have ec := hcv _ rt
      subst ec
      obtain ⟨hget, _⟩ := I.pin (a, oe) (List.mem_append.mpr (.inl List.mem_cons_self))
      obtain ⟨vs, hv⟩ := hf
      have J : ∃ od, PySem.W.InstAt s.heap a oe D od := by
        cases d with
        | none => exact ⟨none, hget, hz.1, by unfold PySem.W.notCls; rw [hv] <;> rfl, by rw [hz.2]; trivial⟩
        | some dd =>
          obtain ⟨fs, hx⟩ := hd dd rfl
          obtain ⟨u, hu⟩ := objOk_get (I.hok dd _ hx)
          exact ⟨some u, hget, hz.1, by unfold PySem.W.notCls; rw [hv] <;> rfl, by rw [hz.2]; exact hu⟩
      obtain ⟨od, J⟩ := J
      exact PySem.W.kia_one (kit_exc T) I.kIn J e (fun z => nomatch z) fun tk => ⟨.bl b, H, I.kept (t' := tk) fun _ _ z => z, rfl, q⟩
end
end Lin
end
section
namespace Lin
open PySem L2
/-! ### try: .. except X as e: .. -/
/-- the caught error's dict, held fast -/
def pinH (d : Option Addr) (fs : List (Str × V)) (Γ : Gh) : Prop := ∀ dd, d = some dd → Γ.H0 dd = some (.xd fs) ∧ ¬ Γ.W dd
def gPin (g : Gc) (d : Option Addr) (fs : List (Str × V)) : Gc := ⟨g.cl, g.scr, pinH d fs⟩
theorem ho_pin (g : Gc) (d : Option Addr) (fs : List (Str × V)) (s : Sh) (dx : Addr) (vs : List V) : ho (gPin g d fs) s dx vs = ho g s dx vs := by cases s <;> rfl
mutual
theorem cells_pin (g : Gc) (d : Option Addr) (fs : List (Str × V)) : ∀ t : T, t.cells (gPin g d fs) = t.cells g
  | .im _ => rfl
  | .nd a k s dx ts => by rw [T.cells, T.cells, ho_pin, cellsL_pin g d fs ts]
theorem cellsL_pin (g : Gc) (d : Option Addr) (fs : List (Str × V)) : ∀ ts : List T, cellsL (gPin g d fs) ts = cellsL g ts
  | [] => rfl
  | t :: r => by rw [cellsL, cellsL, cells_pin g d fs t, cellsL_pin g d fs r]
end
section
variable {g : Gc} {n : Nat} {W : WX} {Γ : Gh} {A A' A'' B : List (Option T)} {σ : L2.St} {H H' : Hp} {t : T} {M M1 M2 : List Nat} {d : Option Addr} {fs : List (Str × V)}
theorem cellAt_pin {i : Nat} {c : Cell} : CellAt (gPin g d fs) A i c ↔ CellAt g A i c := by
  unfold CellAt
  simp only [cells_pin]
def ghPin (Γ : Gh) (d : Option Addr) (fs : List (Str × V)) : Gh := ⟨fun b => if some b = d then some (.xd fs) else Γ.H0 b, fun b => Γ.W b ∧ some b ≠ d, Γ.F⟩
/-- from the moment of the catch on: the error's dict is let go and held fast -/
theorem Rel.pinX (R : Rel g Γ n (A ++ [some t]) σ H) (hn : n ≤ A.length) (hd : dictOf t = d) (hfs : ∀ dd, d = some dd → H dd = some (.xd fs)) (hown : ∀ a k s dx ts, t = .nd a k s dx ts → k = .own) : Rel (gPin g d fs) (ghPin Γ d fs) n A σ H := by
  have R0 := R.drop hn
  have nodd : ∀ {i c}, CellAt g A i c → some c.2.1 ≠ d := fun {i c} x e => by
    cases t with
    | im v => rw [← hd] at e; cases e
    | nd a k s dx ts =>
      have hk := hown a k s dx ts rfl
      subst hk
      rw [← hd] at e
      have ha : c.2.1 = a := Option.some.inj e
      have y : CellAt g (A ++ [some (T.nd a .own s dx ts)]) A.length (.own, a, ho g s dx (ts.map T.root)) := ⟨T.nd a .own s dx ts, by simp, by rw [T.cells]; exact List.mem_cons_self⟩
      rcases R.sep A.length i _ c y (cellAt_left x) rfl ha with ⟨e1, _⟩ | ⟨_, e1⟩
      · have := x.lt; omega
      · have := R.lab i c _ (cellAt_left x) e1; omega
  refine ⟨R0.len, R0.slen, R0.val, fun i c x => R0.hold i c (cellAt_pin.mp x), fun i c r x => R0.lab i c r (cellAt_pin.mp x), fun i u e => by rw [cells_pin]; exact R0.nd i u e, fun i j c e x y => R0.sep i j c e (cellAt_pin.mp x) (cellAt_pin.mp y), fun a o h1 h2 => ?_, fun i c x => ?_, fun i c x hf => ?_, fun dd e => ⟨?_, fun z => z.2 e.symm⟩⟩
  · dsimp only [ghPin] at h1 h2
    by_cases e : some a = d
    · rw [if_pos e] at h1
      cases h1
      exact hfs a e.symm
    · rw [if_neg e] at h1
      exact R0.frame a o h1 fun z => h2 ⟨z, e⟩
  · have x' := cellAt_pin.mp x
    rcases R0.gown i c x' with h | h | h | h
    · exact .inl h
    · exact .inr (.inl h)
    · exact .inr (.inr (.inl ⟨h, nodd x'⟩))
    · refine .inr (.inr (.inr ?_))
      dsimp only [ghPin]
      rw [if_neg (nodd x')]; exact h
  · have x' := cellAt_pin.mp x
    rcases R0.gfrz i c x' hf with h | h | h
    · exact .inl ⟨h, nodd x'⟩
    · refine .inr (.inl ?_)
      dsimp only [ghPin]
      rw [if_neg (nodd x')]; exact h
    · exact .inr (.inr h)
  · dsimp only [ghPin]
    rw [if_pos e.symm]
/-- and back -/
theorem Rel.unpin (hp : g.ph Γ) (hf : ∀ a o, Γ.H0 a = some o → ¬ Γ.W a → some a = d → o = .xd fs) (R : Rel (gPin g d fs) (ghPin Γ d fs) n A σ H) : Rel g Γ n A σ H := by
  refine ⟨R.len, R.slen, R.val, fun i c x => R.hold i c (cellAt_pin.mpr x), fun i c r x => R.lab i c r (cellAt_pin.mpr x), fun i u e => by have := R.nd i u e; rw [cells_pin] at this; exact this, fun i j c e x y => R.sep i j c e (cellAt_pin.mpr x) (cellAt_pin.mpr y), fun a o h1 h2 => ?_, fun i c x => ?_, fun i c x hf => ?_, hp⟩
  · by_cases e : some a = d
    · have q := hf a o h1 h2 e
      subst q
      refine R.frame a _ ?_ fun z => z.2 e
      dsimp only [ghPin]; rw [if_pos e]
    · refine R.frame a o ?_ fun z => h2 z.1
      dsimp only [ghPin]; rw [if_neg e]; exact h1
  · rcases R.gown i c (cellAt_pin.mpr x) with h | h | h | h
    · exact .inl h
    · exact .inr (.inl h)
    · exact .inr (.inr (.inl h.1))
    · refine .inr (.inr (.inr ?_))
      dsimp only [ghPin] at h
      split at h
      · cases h
      · exact h
  · rcases R.gfrz i c (cellAt_pin.mpr x) hf with h | h | h
    · exact .inl h.1
    · refine .inr (.inl ?_)
      dsimp only [ghPin] at h
      split at h
      · cases h
      · exact h
    · exact .inr (.inr h)
end
/-- the fields of an error -/
def xfL : List D → Option (List V)
  | [] => some []
  | .im v :: r => (xfL r).map (v :: ·)
  | _ => none
def xfOf : D → Option (List (Str × V))
  | .im .non => some []
  | .nd .own (.xd ns) ds => (xfL ds).map fun vs => ns.zip vs
  | _ => none
/-- what does not hang on the error's address -/
noncomputable def uni (F : Addr → R Fl) : R Fl := open Classical in if h : ∃ r, ∀ a, F a = r then h.choose else .bad
theorem uni_eq {F : Addr → R Fl} {r : R Fl} (h : ∀ a, F a = r) : uni F = r := by
  have hx : ∃ r, ∀ a, F a = r := ⟨r, h⟩
  unfold uni
  rw [dif_pos hx]
  exact (hx.choose_spec 0).symm.trans (h 0)
theorem uni_of {F : Addr → R Fl} (h : uni F ≠ .bad) (a : Addr) : F a = uni F := by
  unfold uni at h ⊢
  by_cases hx : ∃ r, ∀ a, F a = r
  · rw [dif_pos hx] at h ⊢
    exact hx.choose_spec a
  · rw [dif_neg hx] at h
    exact absurd rfl h
def endH (i : Nat) (x : R Fl) : R Fl := match x with
  | .ok fl S => .ok fl (S.set i none)
  | _ => .bad
noncomputable def cTry (i : Nat) (mt : Nat → Option Bool) (fh : Nat → List (Str × V) → Addr → Sg → R Fl) (fb : Sg → R Fl) : Sg → R Fl := fun S => match fb S with
  | .exc c d S1 => match mt c with
    | some true => match xfOf d with
      | some fs => uni fun a => endH i (fh c fs a (S1.set i (some (.im (.ref a)))))
      | none => .bad
    | some false => .exc c d S1
    | none => .bad
  | x => x
theorem xfL_root : ∀ (ts : List T) (vs : List V), xfL (ts.map T.er) = some vs → ts.map T.root = vs
  | [], vs, h => by cases h; rfl
  | .im v :: r, vs, h => by
    rw [List.map_cons] at h
    have h' : (xfL (r.map T.er)).map (v :: ·) = some vs := h
    cases e : xfL (r.map T.er) with
    | none => rw [e] at h'; cases h'
    | some us =>
      rw [e] at h'
      cases h'
      rw [List.map_cons, xfL_root r us e]; rfl
  | .nd a k s dx ts :: r, vs, h => by cases h
theorem xf_of {t : T} {fs : List (Str × V)} (h : xfOf t.er = some fs) : (t = .im .non ∧ fs = []) ∨ ∃ a dx ns ts, t = .nd a .own (.xd ns) dx ts ∧ fs = ns.zip (ts.map T.root) := by
  cases t with
  | im v =>
    cases v with
    | non => cases h; exact .inl ⟨rfl, rfl⟩
    | _ => cases h
  | nd a k s dx ts =>
    rw [T.er] at h
    cases k with
    | own =>
      cases s with
      | xd ns =>
        have h' : (xfL (erL ts)).map (fun vs => ns.zip vs) = some fs := h
        rw [erL_eq] at h'
        cases e : xfL (ts.map T.er) with
        | none => rw [e] at h'; cases h'
        | some us =>
          rw [e] at h'
          cases h'
          exact .inr ⟨a, dx, ns, ts, rfl, by rw [xfL_root ts us e]⟩
      | _ => cases h
    | _ => cases h
section
variable {X : Cx} {g : Gc} {W : WX} {Mb Mh Mz : List Nat} {x nm : Str} {c i : Nat} {body suite : List Stmt} {b₀ : Stmt} {np pos pos' : Pos} {fb : Sg → R Fl} {fh : Nat → List (Str × V) → Addr → Sg → R Fl} {mt : Nat → Option Bool}
/-- the reading of the suite -/
def tHd (g : Gc) (n : Nat) (Mh : List Nat) (mt : Nat → Option Bool) (fh : Nat → List (Str × V) → Addr → Sg → R Fl) (a : Addr) (cls : Value) (d : Option Addr) : TS := fun D σ H =>
  ∃ c fs, cls = .ref (g.cl c) ∧ mt c = some true ∧ (d = none → fs = []) ∧ tS (gPin g d fs) n W0 Mh (fh c fs a) D σ H
theorem CxS.tr (cx : CxS X W) {W' : WX} {pn : List (Addr × Obj)} {xe : Value → Shared → Prop} (tk : Takes (X.tr pn xe) W') (ps : PassesOwn (model X.prog X.w) X.A X.env xe) : CxS (X.tr pn xe) W' := ⟨⟨cx.calm, tk, cx.nd, cx.room⟩, ps⟩
theorem sds_try (cx : CxS X W) (i : Nat) (hi : X.N[i]? = some nm) (hc : Names X x (.ref (g.cl c))) (hmt : ∀ c' b, mt c' = some b → PySem.W.exmOne X.K (.ref (g.cl c')) (.ref (g.cl c)) = some b)
    (hb : ∀ (W' : WX) (pn : List (Addr × Obj)) (xe : Value → Shared → Prop), CxS (X.tr pn xe) W' → QSs (X.tr pn xe) g W' Mb body fb)
    (hsu : ∀ (a : Addr) (oe : Obj) (c' : Nat) (d : Option Addr) (pn : List (Addr × Obj)) (fs : List (Str × V)), mt c' = some true → Zc (.ref (g.cl c')) d oe → (∃ vs, oe.data = .fields vs) → (d = none → fs = []) → QSs (X.suite a ((a, oe) :: pn)) (gPin g d fs) W0 Mh (b₀ :: suite) (fh c' fs a))
    (hs : X.stack = X.env :: X.outer := by rfl) (hf : X.env.frame = some X.env.locals := by rfl) (hln : X.env.kindOf nm = some .local := by rfl) (hMz : Mz = Mb ++ Mh ++ [X.N.length + i] := by rfl) :
    QS X g W Mz (.Try body [.ExceptHandler (some (.Name x np)) (some nm) (b₀ :: suite) pos'] [] [] pos) (cTry i mt fh fb) := by
  subst hMz
  have hiN : i < X.N.length := (List.getElem?_eq_some_iff.mp hi).1
  refine qS (ps_try_as (Wout := W) (tb := fun W' => tS g X.N.length W' Mb fb) (ts := tHd g X.N.length Mh mt fh) hs hf cx.nd hi hln hc cx.takes (fun W' pn xe tk ps => hb W' pn xe (cx.tr tk ps)) (fun a oe cls d pn hz hv => ⟨fun pins s σ H D I ⟨c', fs, e1, e2, e3, e4⟩ => ?_⟩)) ?_
  · subst e1
    exact (hsu a oe c' d pn fs e2 hz hv e3).run pins s σ H D I e4
  · intro Γ A σ H Dn Rr cl h
    refine ⟨Γ, A, Rr, cl.left.left, ?_⟩
    unfold cTry at h
    have monoS : ∀ {A' : List (Option T)} {σ' : L2.St}, NextS X.N.length Mb A A' σ σ' → NextS X.N.length (Mb ++ Mh ++ [X.N.length + i]) A A' σ σ' := fun z => z.mono fun r hr => by simp [hr]
    cases e : fb (ers X.N.length A) with
    | bad => rw [e] at h; exact h
    | ok fl S1 =>
      rw [e] at h
      cases fl with
      | nx => exact fun A' σ' H' R' x' e' => h A' σ' H' R' (monoS x') e'
      | brk => exact fun A' σ' H' R' x' e' => h A' σ' H' R' (monoS x') e'
      | cnt => exact fun A' σ' H' R' x' e' => h A' σ' H' R' (monoS x') e'
      | ret d => exact fun A' t σ' H' R' x' e' e2 => h A' t σ' H' R' (monoS x') e' e2
    | exc c' d S1 =>
      rw [e] at h
      dsimp only at h
      intro A' t σ' H' R' x' e' e2
      cases em : mt c' with
      | none => rw [em] at h; exact h.elim
      | some b =>
        rw [em] at h
        refine ⟨b, hmt c' b em, ?_, ?_⟩
        · rintro rfl
          intro a na
          dsimp only at h
          cases ex : xfOf d with
          | none => rw [ex] at h; exact h.elim
          | some fs =>
            rw [ex] at h
            dsimp only at h
            have nA : X.N.length ≤ A'.length := by rw [x'.len]; exact Rr.len
            have hx := xf_of (t := t) (by rw [e2]; exact ex)
            have hne : uni (fun a => endH i (fh c' fs a (S1.set i (some (.im (.ref a)))))) ≠ .bad := fun z => by rw [z] at h; exact h
            have hua := uni_of hne a
            have hdict : dictOf t = none → fs = [] := fun z => by
              rcases hx with ⟨rfl, q⟩ | ⟨a', dx, ns, ts, rfl, _⟩
              · exact q
              · cases z
            have hfs : ∀ dd, dictOf t = some dd → H' dd = some (.xd fs) := fun dd z => by
              rcases hx with ⟨rfl, q⟩ | ⟨a', dx, ns, ts, rfl, q⟩
              · cases z
              · have : a' = dd := Option.some.inj z
                subst this
                rw [q]
                exact R'.top1
            have hown : ∀ a k s dx ts, t = .nd a k s dx ts → k = .own := fun a1 k s dx ts z => by
              rcases hx with ⟨rfl, q⟩ | ⟨a', dx', ns, ts', rfl, q⟩
              · cases z
              · cases z; rfl
            have hfr : ∀ a1 o, Γ.H0 a1 = some o → ¬ Γ.W a1 → some a1 = dictOf t → o = .xd fs := fun a1 o z1 z2 z3 => by
              have q1 := R'.frame a1 o z1 z2
              rw [hfs a1 z3.symm] at q1
              exact (Option.some.inj q1).symm
            have P := R'.pinX nA rfl hfs hown
            have P2 : Rel (gPin g (dictOf t) fs) (ghPin Γ (dictOf t) fs) X.N.length (A'.set i (some (.im (.ref a)))) (σ'.set i (some (.ref a))) H' :=
              ((show Rel (gPin g (dictOf t) fs) (ghPin Γ (dictOf t) fs) X.N.length (A' ++ []) σ' H' by rw [List.append_nil]; exact P).imm nA (.ref a)).assign nA hiN
            have un : ∀ {A2 : List (Option T)} {σ2 : L2.St} {H2 : Hp}, Rel (gPin g (dictOf t) fs) (ghPin Γ (dictOf t) fs) X.N.length A2 σ2 H2 → Rel g Γ X.N.length A2 σ2 H2 := fun R2 => Rel.unpin Rr.pin hfr R2
            have es : ers X.N.length (A'.set i (some (.im (.ref a)))) = S1.set i (some (.im (.ref a))) := by rw [ers_set hiN, e']; rfl
            have nx0 : NextS X.N.length (Mb ++ Mh ++ [X.N.length + i]) A (A'.set i (some (.im (.ref a)))) σ (σ'.set i (some (.ref a))) := by
              refine ⟨⟨by rw [List.length_set]; exact x'.len, by rw [List.drop_set_of_lt hiN]; exact x'.tmp⟩, fun j hj => ?_⟩
              have hji : i ≠ j := fun z => hj (by subst z; simp)
              rw [List.getElem?_set_ne hji]
              exact x'.keep j fun z => hj (by simp [z])
            have nx1 : ∀ {A3 : List (Option T)} {σ3 : L2.St}, NextS X.N.length Mh (A'.set i (some (.im (.ref a)))) A3 (σ'.set i (some (.ref a))) σ3 → NextS X.N.length (Mb ++ Mh ++ [X.N.length + i]) A A3 σ σ3 := fun z => (nx0.trans z).mono fun r hr => by
              rcases List.mem_append.mp hr with hr | hr
              · exact hr
              · simp [hr]
            have nx2 : ∀ {A3 : List (Option T)} {σ3 : L2.St}, NextS X.N.length (Mb ++ Mh ++ [X.N.length + i]) A A3 σ σ3 → NextS X.N.length (Mb ++ Mh ++ [X.N.length + i]) A (A3.set i none) σ (σ3.set i none) := fun z => by
              refine ⟨⟨by rw [List.length_set]; exact z.len, by rw [List.drop_set_of_lt hiN]; exact z.tmp⟩, fun j hj => ?_⟩
              have hji : i ≠ j := fun z => hj (by subst z; simp)
              rw [List.getElem?_set_ne hji]
              exact z.keep j hj
            have gone : ∀ {A3 : List (Option T)} {σ3 : L2.St} {H3 : Hp}, Rel g Γ X.N.length A3 σ3 H3 → Rel g Γ X.N.length (A3.set i none) (σ3.set i none) H3 := fun {A3 σ3 H3} R3 => by
              have R4 : Rel g Γ X.N.length (A3.set i none) σ3 H3 := R3.less (by rw [List.length_set]; exact R3.len) fun j u q => by
                by_cases hji : i = j
                · subst hji
                  rw [List.getElem?_set_self (by have := R3.len; omega)] at q
                  cases q
                · rw [List.getElem?_set_ne hji] at q; exact q
              refine R4.reslot (by simp) fun j u q hj => ?_
              have hji : i ≠ j := fun z => by
                subst z
                rw [List.getElem?_set_self (by have := R3.len; omega)] at q
                cases q
              rw [List.getElem?_set_ne hji]
            refine ⟨c', fs, rfl, em, hdict, ghPin Γ (dictOf t) fs, _, P2, ?_, ?_⟩
            · intro r hr j cl' hj y
              have y' := cellAt_pin.mp y
              have hji : i ≠ j := by omega
              have y2 : CellAt g A' j cl' := by
                rcases (cellAt_set (by omega)).mp y' with ⟨z, _⟩ | ⟨_, z⟩
                · omega
                · exact z
              exact (cl.left.right.next x'.toNext Rr.len) r hr j cl' hj y2
            · rw [es]
              rw [← hua] at h hne
              cases er : fh c' fs a (S1.set i (some (.im (.ref a)))) with
              | bad => rw [er] at hne; exact absurd rfl hne
              | exc c2 d2 S2 => rw [er] at hne; exact absurd rfl hne
              | ok fl S2 =>
                rw [er] at h
                cases fl with
                | nx => exact fun A3 σ3 H3 R3 x3 e3 => h _ _ _ (gone (un R3)) (nx2 (nx1 x3)) (by rw [ers_set hiN, e3]; rfl)
                | brk => exact fun A3 σ3 H3 R3 x3 e3 => h _ _ _ (gone (un R3)) (nx2 (nx1 x3)) (by rw [ers_set hiN, e3]; rfl)
                | cnt => exact fun A3 σ3 H3 R3 x3 e3 => h _ _ _ (gone (un R3)) (nx2 (nx1 x3)) (by rw [ers_set hiN, e3]; rfl)
                | ret d3 =>
                  intro A3 t3 σ3 H3 R3 x3 e3 e4
                  have z3 := nx1 x3
                  have hA3 : X.N.length ≤ A3.length := by rw [z3.len]; exact Rr.len
                  refine h (A3.set i none) t3 σ3 H3 ((un R3).less (by rw [List.length_append, List.length_set]; omega) fun j u q => ?_) ⟨⟨by rw [List.length_set]; exact z3.len, by rw [List.drop_set_of_lt hiN]; exact z3.tmp⟩, z3.keep⟩ (by rw [ers_set hiN, e3]; rfl) e4
                  by_cases hj : j < A3.length
                  · rw [List.getElem?_append_left (by rw [List.length_set]; exact hj)] at q
                    rw [List.getElem?_append_left hj]
                    by_cases hji : i = j
                    · subst hji
                      rw [List.getElem?_set_self hj] at q; cases q
                    · rw [List.getElem?_set_ne hji] at q; exact q
                  · rw [List.getElem?_append_right (by rw [List.length_set]; omega), List.length_set] at q
                    rw [List.getElem?_append_right (by omega)]; exact q
        · rintro rfl
          exact h A' t σ' H' R' (monoS x') e' e2
end
end Lin
end
section
namespace Lin
open PySem L2
/-! ### in the suite: e.f, isinstance(e, C), == -/
def cExF (a : Addr) (o : Option V) (fa : Sg → R D) : Sg → R D := fun S => (fa S).bind fun dd S1 => match dd, o with
  | .im (.ref b), some v => if b = a then .ok (.im v) S1 else .bad
  | _, _ => .bad
def cIsX (a : Addr) (fa : Sg → R D) : Sg → R D := fun S => (fa S).bind fun dd S1 => match dd with
  | .im (.ref b) => if b = a then .ok (.im (.bl true)) S1 else .bad
  | _ => .bad
section
variable {X : Cx} {g : Gc} {W : WX} {M M1 : List Nat} {e : Expr} {pos p p2 : Pos} {fa : Sg → R D} {x : Str} {c : Nat} {a : Addr} {oe : Obj} {pn : List (Addr × Obj)} {d : Option Addr} {fs : List (Str × V)}
theorem cm_eqS {W' : WX} (cx : CxE X W') : CmpM (X.suite a pn) g .Eq oEq := ⟨_, op_eqD (by have := cx.un; show (X.A.mark _).units + _ < _; have e : (X.A.mark (some (.ref a))).units = X.A.units := rfl; omega), opm_eq⟩
theorem cm_neS {W' : WX} (cx : CxE X W') : CmpM (X.suite a pn) g .NotEq oNe := ⟨_, op_neD (by have := cx.un; show (X.A.mark _).units + _ < _; have e : (X.A.mark (some (.ref a))).units = X.A.units := rfl; omega), opm_ne⟩
theorem held_pin {Γ : Gh} {n : Nat} {A : List (Option T)} {σ : L2.St} {H : Hp} (R : Rel (gPin g d fs) Γ n A σ H) (dd : Addr) (hd : d = some dd) : H dd = some (.xd fs) := by
  obtain ⟨h1, h2⟩ := R.pin dd hd
  exact R.frame dd _ h1 h2
theorem sd_xf {at_ : Str} (Tx : XfC X.K (g.cl c)) (hno : PySem.W.findIn X.K (.ref (g.cl c)) at_ = some none) (hz : Zc (.ref (g.cl c)) d oe) (hv : ∃ vs, oe.data = .fields vs) (hd : d = none → fs = [])
    (ha : QE (X.suite a ((a, oe) :: pn)) (gPin g d fs) W M e fa) (hb : attributeBase e at_ X.env (eval e X.env) = eval e X.env := by rfl) : QE (X.suite a ((a, oe) :: pn)) (gPin g d fs) W M (.Attribute e at_ pos) (cExF a (fs.lookup at_) fa) := by
  refine qE (pe_xf Tx hno hz hv ha hb) fun Γ A σ H Q Rr cl h => ?_
  refine mn_E Γ A σ H _ Rr cl ?_
  unfold cExF at h
  cases ea : fa (ers _ A) with
  | bad => rw [ea] at h; exact h.elim
  | exc c d S => rw [ea] at h; exact h
  | ok da S1 =>
    rw [ea] at h
    dsimp only [Lin.R.bind] at h
    intro A1 t1 H1 R1 x1 e1 d1
    split at h
    · rename_i b v hl
      split at h
      · rename_i hab
        have et := er_im d1
        subst et hab
        refine ⟨rfl, rfl, ?_⟩
        cases d with
        | none => rw [hd rfl] at hl; cases hl
        | some dd => exact ⟨dd, fs, v, rfl, held_pin R1 dd rfl, hl, h A1 (.im v) H1 (R1.imm (by rw [x1.len]; exact Rr.len) v) x1 e1 rfl⟩
      · exact h.elim
    · exact h.elim
theorem sd_isX {B : Addr} (Tx : ExcC X.K (g.cl c)) (hz : Zc (.ref (g.cl c)) d oe) (hv : ∃ vs, oe.data = .fields vs) (hm : X.mg "isinstance" = none) (hB : X.mg x = some (.ref B)) (hk : PySem.W.kitOne X.K (.ref (g.cl c)) (.ref B) = some true)
    (ha : QE (X.suite a ((a, oe) :: pn)) (gPin g d fs) W M e fa) (hgB : Gl X x := by rfl) (hg : Gl X "isinstance" := by rfl) (hdb : (x == ("__debug__" : Str)) = false := by decide)
    (he : starEach [e, .Name x p2] X.env = (false, eval e X.env) :: starEach [.Name x p2] X.env := by rfl) (he2 : starEach [.Name x p2] X.env = (false, eval (.Name x p2) X.env) :: starEach [] X.env := by rfl) (hpl : (backTo pos (starEach [.Name x p2] X.env)).any (·.1) = false := by rfl) :
    QE (X.suite a ((a, oe) :: pn)) (gPin g d fs) W M (.Call (.Name "isinstance" p) [e, .Name x p2] [] pos) (cIsX a fa) := by
  refine qE (pe_callB (call_isX Tx hz hv) hg hm (by rfl) (pa_cons ha (pa_cons (pe_glob (v := .ref B) hgB hB rfl hdb) pa_nil he2) he) (by decide) (by decide) he hpl) fun Γ A σ H Q Rr cl h => ?_
  refine mn_E Γ A σ H _ Rr cl ?_
  unfold cIsX at h
  cases ea : fa (ers _ A) with
  | bad => rw [ea] at h; exact h.elim
  | exc c d S => rw [ea] at h; exact h
  | ok da S1 =>
    rw [ea] at h
    dsimp only [Lin.R.bind] at h
    intro A1 t1 H1 R1 x1 e1 d1
    split at h
    · rename_i b
      split at h
      · rename_i hab
        have et := er_im d1
        subst et hab
        exact ⟨.ref B, .ref B, true, rfl, fun u hu => hu, hk, fun dd hd => ⟨fs, held_pin R1 dd hd⟩, h A1 (.im (.bl true)) H1 (R1.imm (by rw [x1.len]; exact Rr.len) (.bl true)) x1 e1 rfl⟩
      · exact h.elim
    · exact h.elim
end
end Lin
namespace Lin
open PySem L2
/-! ### messages -/
def smallV (v : V) : Bool := match v with
  | .int i => decide (0 ≤ i) && decide (i < 1000)
  | _ => false
theorem digits_fit : (List.range 1000).all (fun n => decide ((Str.empty ++ (toString (n : Int) : Str)).length ≤ 8)) = true := by decide +kernel
def tFm1 (i : Nat) (m : Str) : TE := fun σ H Q => tJs [tFmt (tVar i), tC (.str m)] Str.empty σ H fun out H1 => Q (.str out) H1
theorem fm1_ok {i : Nat} {m : Str} (hm : m.length ≤ 1000) {σ : L2.St} {H : Hp} {Q : VK} {v : V} (h : σ[i]? = some (some v)) (hv : smallV v = true) (hq : ∀ u, Q u H) : tFm1 i m σ H Q := by
  unfold smallV at hv
  split at hv
  · rename_i j
    rw [Bool.and_eq_true] at hv
    have h0 := of_decide_eq_true hv.1
    have h1 := of_decide_eq_true hv.2
    obtain ⟨k, rfl⟩ := Int.eq_ofNat_of_zero_le h0
    have hk : k < 1000 := by omega
    have fit : (Str.empty ++ (toString (k : Int) : Str)).length ≤ 8 := of_decide_eq_true (List.all_eq_true.mp digits_fit k (by simpa using hk))
    have hlog : ((k : Int).natAbs).log2 < 1920 := by
      have : (k : Int).natAbs = k := by omega
      rw [this]
      by_cases hk0 : k = 0
      · subst hk0; decide
      · have := (Nat.log2_lt hk0 (k := 10)).mpr (by omega)
        omega
    refine ⟨.int (k : Int), h, .inr ⟨(k : Int), rfl, hlog, ?_⟩⟩
    refine ⟨_, rfl, by rw [sizeLine_eq]; omega, ?_⟩
    refine ⟨m, rfl, ?_, hq _⟩
    rw [sizeLine_eq, Str.length_append]
    omega
  · cases hv
end Lin
namespace Lin
open PySem L2
/-- one except clause for one class -/
noncomputable def cTry1 (i c : Nat) (mt : Nat → Option Bool) (fh : List (Str × V) → Addr → Sg → R Fl) (fb : Sg → R Fl) : Sg → R Fl := cTry i mt (fun _ => fh) fb
theorem sds_try1 {X : Cx} {g : Gc} {W : WX} {Mb Mh Mz : List Nat} {x nm : Str} {c : Nat} {body suite : List Stmt} {b₀ : Stmt} {np pos pos' : Pos} {fb : Sg → R Fl} {fh : List (Str × V) → Addr → Sg → R Fl} {mt : Nat → Option Bool} (hone : ∀ c', mt c' = some true → c' = c)
    (cx : CxS X W) (i : Nat) (hi : X.N[i]? = some nm) (hc : Names X x (.ref (g.cl c))) (hmt : ∀ c' b, mt c' = some b → PySem.W.exmOne X.K (.ref (g.cl c')) (.ref (g.cl c)) = some b)
    (hb : ∀ (W' : WX) (pn : List (Addr × Obj)) (xe : Value → Shared → Prop), CxS (X.tr pn xe) W' → QSs (X.tr pn xe) g W' Mb body fb)
    (hsu : ∀ (a : Addr) (oe : Obj) (d : Option Addr) (pn : List (Addr × Obj)) (fs : List (Str × V)), Zc (.ref (g.cl c)) d oe → (∃ vs, oe.data = .fields vs) → (d = none → fs = []) → QSs (X.suite a ((a, oe) :: pn)) (gPin g d fs) W0 Mh (b₀ :: suite) (fh fs a))
    (hs : X.stack = X.env :: X.outer := by rfl) (hf : X.env.frame = some X.env.locals := by rfl) (hln : X.env.kindOf nm = some .local := by rfl) (hMz : Mz = Mb ++ Mh ++ [X.N.length + i] := by rfl) :
    QS X g W Mz (.Try body [.ExceptHandler (some (.Name x np)) (some nm) (b₀ :: suite) pos'] [] [] pos) (cTry1 i c mt fh fb) :=
  sds_try (fh := fun _ => fh) cx i hi hc hmt hb (fun a oe c' d pn fs e hz hv hd => by
    have := hone c' e
    subst this
    exact hsu a oe d pn fs hz hv hd) hs hf hln hMz
def baseA (mg : Str → Option Value) : Addr := match mg "ClaimError" with
  | some (.ref B) => B
  | _ => 0
theorem baseA_of {mg : Str → Option Value} {B : Addr} (h : mg "ClaimError" = some (.ref B)) : baseA mg = B := by unfold baseA; rw [h]
theorem baseC_of {K : PySem.W.Frag} {mg : Str → Option Value} {B : Addr} (h : mg "ClaimError" = some (.ref B)) (h1 : PySem.W.specialIn K (.ref B) "__getattribute__" = some (some (.builtin "type.__getattribute__"))) (h2 : PySem.W.readsIn K B (.type "type") = true)
    (h3 : PySem.W.findCls K (.ref B) (.type "type") "__init__" = some (.val (.builtin "ValueError.__init__"))) : BaseC K mg "ClaimError" (baseA mg) := by
  rw [baseA_of h]; exact ⟨h, h1, h2, h3⟩
end Lin
namespace Lin
open PySem L2
theorem kitOne_of {K : PySem.W.Frag} {C B : Addr} (h1 : PySem.W.hasDictIn K B = true) (h2 : PySem.W.typeIn K (.ref B) = some (.type "type")) (h3 : PySem.W.subIn K (.ref C) (.ref B) = some true) : PySem.W.kitOne K (.ref C) (.ref B) = some true := by
  obtain ⟨cd, hc, _⟩ := PySem.W.any_some h1
  unfold PySem.W.kitOne
  split
  · rfl
  · unfold PySem.W.kitCls
    simp [hc, h2, h3]
end Lin
end
section
namespace Lin
open PySem L2
/-! ### plain forms of the new parts -/
section
variable {E : EX} {Ec : EC} {S : Sg} {Q : D → Sg → Prop} {QF : Fl → Sg → Prop} {fa : Sg → R D} {fr : Sg → R (List D)} {f h : Sg → R Fl} {α : Type} {k c k' c' : Kd} {g : α → P} {xs : List α}
theorem ok_own {j : Nat} {ok : D → Bool} {sem : FSem} : OkE E (cOwn j ok fa sem S) Q = OkE E (fa S) fun d S1 => if isInsD j d = true then OkCE NoC (sem [d.mk kPar]) (fun r ms => if ok r = true then Q r S1 else False) else False := by
  unfold cOwn
  rw [ok_bind]
  refine ok_cg fun d S1 => ?_
  unfold ownR
  by_cases h1 : isInsD j d = true
  · rw [if_pos h1, if_pos h1]
    have e : callR [none] sem [d] S1 = match sem [d.mk kPar] with
      | .ok r ms => .ok r S1
      | .exc c r ms => .exc c r S1
      | .bad => .bad := by
      unfold callR
      rw [if_pos (by rfl)]
      have ea : argsD [none] [d] = [d.mk kPar] := rfl
      have eb : ∀ ms, backS [none] ms S1 = S1 := fun ms => by cases ms <;> rfl
      rw [ea]
      cases sem [d.mk kPar] <;> simp [eb]
    rw [e]
    cases q : sem [d.mk kPar] with
    | bad => rw [okC_def, ok_def]; rfl
    | exc c r ms => rw [okC_def, ok_def]; rfl
    | ok r ms =>
      rw [okC_of rfl]
      dsimp only
      by_cases h2 : ok r = true
      · rw [if_pos h2, if_pos h2, ok_ok]
      · rw [if_neg h2, if_neg h2, ok_bad]
  · rw [if_neg h1, if_neg h1, ok_bad]
theorem isLen_N {n : Nat} (h : n < 1000000) : isLenD (I (n : Int)) = true := by
  unfold isLenD
  rw [Bool.and_eq_true]
  exact ⟨decide_eq_true (by omega), decide_eq_true (by omega)⟩
theorem ins_pO {j : Nat} {ns : List Str} {vs : List P} : isInsD j (en k c (pO j ns vs)) = true := by
  rw [en_pO]; simp [isInsD]
theorem cutH1 : dCutH (en k c (pL g xs)) (I (-1)) = some (en .own c (pL g xs.dropLast)) := by
  rw [en_pL, en_pL]
  simp only [dCutH, cutD, List.length_map]
  congr 2
  have e1 : HT.sIx xs.length 0 none = 0 := rfl
  have e2 : HT.sIx xs.length xs.length (some (-1)) = xs.length - 1 := by
    show (if (-1 : Int) < 0 then ((-1 : Int) + (xs.length : Int)).toNat else min (-1 : Int).toNat xs.length) = _
    rw [if_pos (by decide)]; omega
  rw [e1, e2, List.drop_zero, Nat.sub_zero, List.dropLast_eq_take, List.map_take]
theorem cutHN {n : Nat} : dCutH (en k c (pL g xs)) (I (n : Int)) = some (en .own c (pL g (xs.take n))) := by
  rw [en_pL, en_pL]
  simp only [dCutH, cutD, List.length_map]
  congr 2
  have e1 : HT.sIx xs.length 0 none = 0 := rfl
  rw [HT.sIx_nat, e1, List.drop_zero, Nat.sub_zero, List.map_take]
  by_cases hn : n ≤ xs.length
  · rw [Nat.min_eq_left hn]
  · rw [Nat.min_eq_right (by omega), List.take_of_length_le (by simp), List.take_of_length_le (by simp; omega)]
/-! a try -/
/-- what a try wishes of its body's errors -/
def TryX (i : Nat) (mt : Nat → Option Bool) (fh : List (Str × V) → Addr → Sg → R Fl) (E : EX) (QF : Fl → Sg → Prop) : EX := fun c d S1 => (mt c = some true ∧ ∃ fs fl S2, xfOf d = some fs ∧ (∀ a, OkE NoX (fh fs a (S1.set i (some (.im (.ref a))))) fun fl' S' => fl' = fl ∧ S'.set i none = S2) ∧ QF fl S2) ∨ (mt c = some false ∧ E c d S1)
theorem ok_try {i j : Nat} {mt : Nat → Option Bool} {fh : List (Str × V) → Addr → Sg → R Fl} (hb : OkE (TryX i mt fh E QF) (f S) QF) : OkE E (cTry1 i j mt fh f S) QF := by
  rw [ok_def] at hb
  unfold cTry1 cTry
  cases e : f S with
  | bad => rw [e] at hb; exact hb.elim
  | ok fl S1 => rw [e] at hb; dsimp only; rw [ok_ok]; exact hb
  | exc c d S1 =>
    rw [e] at hb
    dsimp only
    rcases hb with ⟨hm, fs, fl, S2, hx, hh, hq⟩ | ⟨hm, he⟩
    · rw [hm]
      dsimp only
      rw [hx]
      dsimp only
      rw [uni_eq (r := .ok fl S2) fun a => ?_, ok_ok]
      · exact hq
      · obtain ⟨fl', S', e2, rfl, rfl⟩ := (hh a).get
        rw [e2]; rfl
    · rw [hm]
      dsimp only
      rw [ok_def]; exact he
theorem ok_raise0 {c : Nat} : OkE E (cRaise0 c S) QF = E c (.im .non) S := by unfold cRaise0; rw [ok_def]; rfl
def raiV (P : V → Bool) (d : D) : Option V := match d with
  | .im v => if P v = true then some v else none
  | _ => none
theorem ok_raise1 {c : Nat} {n : Str} {P : V → Bool} : OkE E (cRaise1 c n P fa S) QF = OkE E (fa S) fun d S1 => So (raiV P d) fun v => E c (.nd .own (.xd [n]) [.im v]) S1 := by
  unfold cRaise1
  rw [ok_bind]
  refine ok_cg fun d S1 => ?_
  cases d with
  | nd k s ds => simp only [raiV, so_none, ok_bad]
  | im v =>
    simp only [raiV]
    by_cases h : P v = true
    · rw [if_pos h, if_pos h, so_some, ok_def]; rfl
    · rw [if_neg h, if_neg h, so_none, ok_bad]
theorem raiV_t {v : V} : raiV (fun _ => true) (.im v) = some v := rfl
theorem raiV_s {v : V} (h : smallV v = true) : raiV smallV (.im v) = some v := by simp [raiV, h]
theorem try_exc {i j c : Nat} {mt : Nat → Option Bool} {fh : List (Str × V) → Addr → Sg → R Fl} {d : D} {S1 S2 : Sg} {fs : List (Str × V)} {fl : Fl} (hb : f S = .exc c d S1) (hm : mt c = some true) (hx : xfOf d = some fs)
    (hh : ∀ a, OkE NoX (fh fs a (S1.set i (some (.im (.ref a))))) fun fl' S' => fl' = fl ∧ S'.set i none = S2) : cTry1 i j mt fh f S = .ok fl S2 := by
  unfold cTry1 cTry
  rw [hb]
  dsimp only
  rw [hm]
  dsimp only
  rw [hx]
  refine uni_eq fun a => ?_
  obtain ⟨fl', S', e, rfl, rfl⟩ := (hh a).get
  rw [e]; rfl
def xfD (a : Addr) (o : Option V) (dd : D) : Option D := match dd, o with | .im (.ref b), some v => if b = a then some (D.im v) else none | _, _ => none
theorem ok_xfE {a : Addr} {o : Option V} : OkE E (cExF a o fa S) Q = OkE E (fa S) fun dd S1 => So (xfD a o dd) fun r => Q r S1 := by
  have e : cExF a o fa S = (fa S).bind fun dd S1 => R.lift (xfD a o dd) S1 := by
    unfold cExF
    congr 1; funext dd S1
    cases dd with
    | nd k s ds => cases o <;> rfl
    | im v =>
      cases v with
      | ref b =>
        cases o with
        | none => rfl
        | some v => by_cases h : b = a <;> simp [xfD, h, R.lift]
      | _ => cases o <;> rfl
  rw [e, ok_bind]
  exact ok_cg fun dd S1 => ok_lift
theorem xfD_some {a : Addr} {v : V} : xfD a (some v) (.im (.ref a)) = some (.im v) := by simp [xfD]
def isXD (a : Addr) (dd : D) : Option D := match dd with | .im (.ref b) => if b = a then some (B true) else none | _ => none
theorem ok_isX {a : Addr} : OkE E (cIsX a fa S) Q = OkE E (fa S) fun dd S1 => So (isXD a dd) fun r => Q r S1 := by
  have e : cIsX a fa S = (fa S).bind fun dd S1 => R.lift (isXD a dd) S1 := by
    unfold cIsX
    congr 1; funext dd S1
    cases dd with
    | nd k s ds => rfl
    | im v =>
      cases v with
      | ref b => by_cases h : b = a <;> simp [isXD, h, R.lift]
      | _ => rfl
  rw [e, ok_bind]
  exact ok_cg fun dd S1 => ok_lift
theorem isXD_a {a : Addr} : isXD a (.im (.ref a)) = some (B true) := by simp [isXD]
/-! an error on the way -/
theorem seq_exc {c : Nat} {d : D} {S1 : Sg} (h1 : f S = .exc c d S1) : cSeq f h S = .exc c d S1 := by unfold cSeq; rw [h1]; rfl
theorem expr_exc {c : Nat} {d : D} {S1 : Sg} (h1 : fa S = .exc c d S1) : cExpr fa S = .exc c d S1 := by unfold cExpr; rw [h1]; rfl
theorem call_exc {c : Nat} {d : D} {rs : List (Option Nat)} {sem : FSem} {ds ms : List D} {S1 : Sg} (h1 : OkE NoX (fr S) fun ds' S' => ds' = ds ∧ S' = S1) (h2 : ds.length = rs.length) (h3 : (List.zip rs ds).all (fun p => p.1.isNone || ofD p.2) = true) (h4 : sem (argsD rs ds) = .exc c d ms) : cCall rs fr sem S = .exc c d (backS rs ms S1) := by
  obtain ⟨ds', S', e, rfl, rfl⟩ := h1.get
  unfold cCall
  rw [e]
  show (if _ then _ else _) = _
  rw [if_pos h3]
  unfold callR
  rw [if_pos h2, h4]
theorem sem_exc {n : Nat} {mr : List Bool} {ds : List D} {c : Nat} {d : D} {S1 : Sg} (h1 : f (ds.map some ++ List.replicate (n - ds.length) none) = .exc c d S1) {ms : List D} (h2 : usOf mr S1 = some ms) (h3 : ofD (d.mk (kRet mr)) = true) (h4 : ms.all ofD = true) : semOf n mr f ds = .exc c (d.mk (kRet mr)) ms := by
  unfold semOf
  rw [h1]
  dsimp only
  unfold fin
  rw [h2]
  dsimp only
  rw [h3, h4]
  rfl
end
end Lin
end
section
set_option maxHeartbeats 4000000
namespace Lin
open PySem PySem.Spec PyProof.Rows L2
/-! ### several clauses 'except x as n', one name for all -/
abbrev TsH := Addr → Value → Option Addr → TS
def endsN (i : Nat) (D : Ends) : Ends := { nx := fun σ' H' => D.nx (σ'.set i none) H', rt := D.rt, bk := fun σ' H' => D.bk (σ'.set i none) H', ct := fun σ' H' => D.ct (σ'.set i none) H' }
def wAsN (K : PySem.W.Frag) (Wout : WX) (i : Nat) (D : Ends) : List (Value × TsH) → WX
  | [] => Wout
  | (c, ts) :: r => fun cls d σ H => ∃ b, PySem.W.exmOne K cls c = some b ∧ (b = true → ∀ a, H a = none → ts a cls d (endsN i D) (σ.set i (some (.ref a))) H) ∧ (b = false → wAsN K Wout i D r cls d σ H)
inductive HdsA (X : Cx) (n : Str) : List ExceptHandler → List (Value × TsH) → Prop
  | nil : HdsA X n [] []
  | cons {x : Str} {c : Value} {ts : TsH} {b₀ : Stmt} {suite : List Stmt} {np pos' : Pos} {hds : List ExceptHandler} {l : List (Value × TsH)} (hc : Names X x c)
      (hsu : ∀ (a : Addr) (oe : Obj) (cls : Value) (d : Option Addr) (pn : List (Addr × Obj)), Zc cls d oe → (∃ vs, oe.data = .fields vs) → PSs (X.suite a ((a, oe) :: pn)) (b₀ :: suite) (ts a cls d)) (r : HdsA X n hds l) :
      HdsA X n (.ExceptHandler (some (.Name x np)) (some n) (b₀ :: suite) pos' :: hds) ((c, ts) :: l)
section
variable {X : Cx} {n : Str} {i : Nat} {body : List Stmt} {h₀ : ExceptHandler} {hds : List ExceptHandler} {l : List (Value × TsH)} {pos : Pos} {tb : WX → TS} {Wout : WX}
theorem ps_try_asN (hs : X.stack = X.env :: X.outer) (hf : X.env.frame = some X.env.locals) (hN : X.N.Nodup) (hi : X.N[i]? = some n) (hln : X.env.kindOf n = some .local) (tk : Takes X Wout)
    (hb : ∀ (W : WX) (pn : List (Addr × Obj)) (xe : Value → Shared → Prop), Takes (X.tr pn xe) W → PassesOwn (model X.prog X.w) X.A X.env xe → PSs (X.tr pn xe) body (tb W))
    (hh : HdsA X n (h₀ :: hds) l) : PS X (.Try body (h₀ :: hds) [] [] pos) (fun D σ H => tb (wAsN X.K Wout i D l) D σ H) := by
  refine ⟨fun pins s σ H D I h => ?_⟩
  have ok := I.ok
  have hfr : X.A.frames = some (X.env :: X.outer) := by rw [ok.frames, hs]
  have hloc : Loc X.env.scope n := .inl hln
  refine wpAny_Try_except ?_
  refine wpAny_mono ((hb (wAsN X.K Wout i D l) (X.pn ++ pins) (fun e s₁ => wpAny (model X.prog X.w) X.A (noteFrame e X.env) (fun _ s₂ => wpAny (model X.prog X.w) X.A (setFlight e none) (fun _ s₃ =>
    wpAny (model X.prog X.w) X.A (handleBy e X.env (h₀ :: hds)) (SP X pins D) X.xe s₃) X.xe s₂) X.xe s₁) (fun u s' xx => ?_) PassesOwn.looking).run [] s σ H D (I.toTry _) h) (fun f s1 hsp => ?_) (fun e s1 he => he)
  · obtain ⟨a, B, sI, pins', σ', H', cls, d, rfl, J', nb, up, sky, na, os, ag, w⟩ := xx
    have J : Inv X pins σ' H' sI := J'.ofTry ok
    have sky' : Sky B (X.env :: X.outer) a (Zc cls d) X.env.locals s'.heap := by rw [← hs]; exact sky
    show wpAny (model X.prog X.w) X.A (noteFrame (.ref a) X.env) _ _ _
    refine Sky.land Zc.steady hfr hf sky' fun h3 fl3 up3 => ?_
    have J3 : Inv X pins σ' H' { s' with heap := h3 } := J.landed nb fl3.1 (up.trans up3) os ag
    obtain ⟨oe3, vs3, he3, hz3, hd3⟩ := fl3.there
    have nfr : a ∉ frs (X.env :: X.outer) := fun hm => by
      obtain ⟨_, o', e', hnf⟩ := fl3.2.2.1.mem hm
      rw [he3] at e'; cases e'
      exact hnf _ hd3
    have nL : a ≠ X.env.locals := fun z => nfr (List.mem_filterMap.mpr ⟨X.env, List.mem_cons_self, by rw [hf, z]⟩)
    have nF : a ∉ X.fs := fun hm => by
      obtain ⟨e, he, q⟩ := List.mem_filterMap.mp hm
      exact nfr (List.mem_filterMap.mpr ⟨e, List.mem_cons_of_mem _ he, q⟩)
    have S3 := J3.suite he3 hd3 na nL nF
    have go : ∀ {hds' : List ExceptHandler} {l' : List (Value × TsH)}, HdsA X n hds' l' → wAsN X.K Wout i D l' cls d σ' H' →
        wpAny (model X.prog X.w) X.A (handleBy (.ref a) X.env hds') (SP X pins D) X.xe { s' with heap := h3 } := by
      intro hds' l' hk
      induction hk with
      | nil =>
        intro w
        refine wpAny_handleBy_nil ?_
        obtain ⟨k1, k2, k3, oe, vs, T, oT, ts', he, hz, hd, h1, hr⟩ := id fl3
        unfold PySem.passOn
        refine wpAny_bind (wpAny_field he hd h1 ?_)
        rw [if_neg (show ¬ ((Value.ref T == Value.none) = true) from by simp)]
        have fin : wpAny (model X.prog X.w) X.A (setFlight (.ref a) X.env.frame) (fun _ s4 => wpAny (model X.prog X.w) X.A (throw (.ref a) : Sem Flow) (SP X pins D) X.xe s4) X.xe { s' with heap := h3 } := by
          rw [hf]
          refine HandSPX.setFlight_upZ fl3 fun h4 hh4 up4 => wpAny_throw (tk _ _ ?_)
          exact ⟨a, B, sI, pins, σ', H', cls, d, rfl, J, nb, (up.trans up3).trans up4, .inr (.inr (by rw [hs]; exact hh4)), na, os, ag, w⟩
        first
          | exact wpAny_bind (wpAny_pure (wpAny_bind fin))
          | exact wpAny_bind fin
      | @cons x c ts b₀ suite np pos' hds2 l2 hc hsu r ih =>
        intro w
        obtain ⟨b, hb1, hyes, hno⟩ := w
        refine wpAny_handleBy_cons (codeAny_handlers_test ?_) (by intro q; cases q)
        have LT : PySem.W.Looks (model X.prog X.w) h3 (typeOf (.ref a)) cls := fun A Q E s k q => wpAny_typeOf_ref (k _ _ he3) (by rw [hz3.1]; exact q)
        have LM := PySem.W.exm_one (M := model X.prog X.w) (J3.kIn) LT hb1
        have test : ∀ {Q : Value → Shared → Prop} {E : Value → Shared → Prop}, Q c { s' with heap := h3 } → wpAny (model X.prog X.w) (X.A.mark (some (.ref a))) (eval (.Name x np) X.env) Q E { s' with heap := h3 } := fun {Q E} q => by
          obtain ⟨hg, hdbg, hm | ⟨hm, hv, hnn⟩⟩ := hc
          · exact ld_glob (X := X.suite a ((a, oe3) :: (X.pn ++ pins))) S3 hg hm q hdbg
          · exact ld_blt (X := X.suite a ((a, oe3) :: (X.pn ++ pins))) S3 hg hm hv q hnn hdbg
        refine test (LM.here ?_)
        cases b with
        | true =>
          refine codeAny_handlers_suite_as ?_
          refine HandSPX.lands_againZ fl3 fun h4 fl4 up4 => ?_
          have J4 : Inv X pins σ' H' { s' with heap := h4 } := J.landed nb fl4.1 ((up.trans up3).trans up4) os ag
          obtain ⟨oe4, vs4, he4, hz4, hd4⟩ := fl4.there
          have S4 := J4.suite he4 hd4 na nL nF
          refine store_ok (X := X.suite a ((a, oe4) :: (X.pn ++ pins))) (v := .ref a) S4 hN hi hloc rfl (fun s5 S5 => ?_) (.inr hln)
          refine wpAny_mono ((hsu a oe4 cls d (X.pn ++ pins) hz4 ⟨_, hd4⟩).run [] s5 _ H' _ S5 (hyes rfl a na)) (fun f s6 hsp => ?_) (fun _ _ z => False.elim z)
          have end_ : ∀ {σ6 : L2.St} {H6 : Hp} {Q : Shared → Prop}, Inv (X.suite a ((a, oe4) :: (X.pn ++ pins))) [] σ6 H6 s6 → (∀ s7, Inv X pins (σ6.set i none) H6 s7 → Q s7) →
              wpAny (model X.prog X.w) X.A (do bindName X.env n .none; unbindBehindTheSuite X.env n pos') (fun _ s7 => Q s7) X.xe s6 := fun {σ6 H6 Q} S6 hq => gone_ok (S6.unsuite ok) hN hi hln hq
          cases f with
          | next =>
            obtain ⟨σ6, H6, S6, q6⟩ := hsp
            exact end_ S6 fun s7 J7 => ⟨_, _, J7, q6⟩
          | brk =>
            obtain ⟨σ6, H6, S6, q6⟩ := hsp
            exact end_ S6 fun s7 J7 => ⟨_, _, J7, q6⟩
          | cont =>
            obtain ⟨σ6, H6, S6, q6⟩ := hsp
            exact end_ S6 fun s7 J7 => ⟨_, _, J7, q6⟩
          | ret u =>
            obtain ⟨v6, σ6, H6, S6, r6, q6⟩ := hsp
            exact end_ S6 fun s7 J7 => ⟨_, _, _, J7, r6, q6⟩
        | false =>
          show wpAny _ X.A (handleBy (.ref a) X.env hds2) _ _ _
          exact ih (hno rfl)
    exact go hh w
  · cases f with
    | next =>
      obtain ⟨σ', H', J', q⟩ := hsp
      exact wpAny_execs_nil ⟨σ', H', J'.ofTry ok, q⟩
    | brk =>
      obtain ⟨σ', H', J', q⟩ := hsp
      exact ⟨σ', H', J'.ofTry ok, q⟩
    | cont =>
      obtain ⟨σ', H', J', q⟩ := hsp
      exact ⟨σ', H', J'.ofTry ok, q⟩
    | ret u =>
      obtain ⟨v, σ', H', J', r, q⟩ := hsp
      exact ⟨v, σ', H', J'.ofTry ok, r, q⟩
end
end Lin
end
section
set_option maxHeartbeats 4000000
namespace Lin
open PySem L2
abbrev Clz := (Nat → Option Bool) × (Nat → List (Str × V) → Addr → Sg → R Fl)
/-- the clauses, one after the other -/
noncomputable def cHs (i : Nat) : List Clz → Nat → D → Sg → R Fl
  | [], c, d, S1 => .exc c d S1
  | (mt, fh) :: r, c, d, S1 => match mt c with
    | some true => match xfOf d with
      | some fs => uni fun a => endH i (fh c fs a (S1.set i (some (.im (.ref a)))))
      | none => .bad
    | some false => cHs i r c d S1
    | none => .bad
noncomputable def cTryN (i : Nat) (l : List Clz) (fb : Sg → R Fl) : Sg → R Fl := fun S => match fb S with
  | .exc c d S1 => cHs i l c d S1
  | x => x
theorem catch_ok {g : Gc} {n : Nat} {W : WX} {Γ : Gh} {A A' : List (Option T)} {σ σ' : L2.St} {H H' : Hp} {t : T} {Mz Mh : List Nat} {i c : Nat} {d : D} {S1 : Sg} {Dn : Ends} {mt : Nat → Option Bool} {fh : Nat → List (Str × V) → Addr → Sg → R Fl} {fs : List (Str × V)} (hiN : i < n) (Rr : Rel g Γ n A σ H) (x' : NextS n Mz A A' σ σ') (R' : Rel g Γ n (A' ++ [some t]) σ' H') (e' : ers n A' = S1) (e2 : t.er = d)
    (hMi : n + i ∈ Mz) (hM : ∀ r ∈ Mh, r ∈ Mz) (clM : Clean g n Mh A) (em : mt c = some true) (ex : xfOf d = some fs) (h : PostS g n W Mz Γ A σ Dn (uni fun a => endH i (fh c fs a (S1.set i (some (.im (.ref a))))))) (a : Addr) (na : H' a = none) :
    tHd g n Mh mt fh a (.ref (g.cl c)) (dictOf t) (endsN i Dn) (σ'.set i (some (.ref a))) H' := by
  have nA : n ≤ A'.length := by rw [x'.len]; exact Rr.len
  have hx := xf_of (t := t) (by rw [e2]; exact ex)
  have hne : uni (fun a => endH i (fh c fs a (S1.set i (some (.im (.ref a)))))) ≠ .bad := fun z => by rw [z] at h; exact h
  have hua := uni_of hne a
  have hdict : dictOf t = none → fs = [] := fun z => by
    rcases hx with ⟨rfl, q⟩ | ⟨a', dx, ns, ts, rfl, _⟩
    · exact q
    · cases z
  have hfs : ∀ dd, dictOf t = some dd → H' dd = some (.xd fs) := fun dd z => by
    rcases hx with ⟨rfl, q⟩ | ⟨a', dx, ns, ts, rfl, q⟩
    · cases z
    · have : a' = dd := Option.some.inj z
      subst this
      rw [q]
      exact R'.top1
  have hown : ∀ a k s dx ts, t = .nd a k s dx ts → k = .own := fun a1 k s dx ts z => by
    rcases hx with ⟨rfl, q⟩ | ⟨a', dx', ns, ts', rfl, q⟩
    · cases z
    · cases z; rfl
  have hfr : ∀ a1 o, Γ.H0 a1 = some o → ¬ Γ.W a1 → some a1 = dictOf t → o = .xd fs := fun a1 o z1 z2 z3 => by
    have q1 := R'.frame a1 o z1 z2
    rw [hfs a1 z3.symm] at q1
    exact (Option.some.inj q1).symm
  have P := R'.pinX nA rfl hfs hown
  have P2 : Rel (gPin g (dictOf t) fs) (ghPin Γ (dictOf t) fs) n (A'.set i (some (.im (.ref a)))) (σ'.set i (some (.ref a))) H' :=
    ((show Rel (gPin g (dictOf t) fs) (ghPin Γ (dictOf t) fs) n (A' ++ []) σ' H' by rw [List.append_nil]; exact P).imm nA (.ref a)).assign nA hiN
  have un : ∀ {A2 : List (Option T)} {σ2 : L2.St} {H2 : Hp}, Rel (gPin g (dictOf t) fs) (ghPin Γ (dictOf t) fs) n A2 σ2 H2 → Rel g Γ n A2 σ2 H2 := fun R2 => Rel.unpin Rr.pin hfr R2
  have es : ers n (A'.set i (some (.im (.ref a)))) = S1.set i (some (.im (.ref a))) := by rw [ers_set hiN, e']; rfl
  have nx0 : NextS n Mz A (A'.set i (some (.im (.ref a)))) σ (σ'.set i (some (.ref a))) := by
    refine ⟨⟨by rw [List.length_set]; exact x'.len, by rw [List.drop_set_of_lt hiN]; exact x'.tmp⟩, fun j hj => ?_⟩
    have hji : i ≠ j := fun z => hj (by subst z; exact hMi)
    rw [List.getElem?_set_ne hji]
    exact x'.keep j hj
  have nx1 : ∀ {A3 : List (Option T)} {σ3 : L2.St}, NextS n Mh (A'.set i (some (.im (.ref a)))) A3 (σ'.set i (some (.ref a))) σ3 → NextS n Mz A A3 σ σ3 := fun z => (nx0.trans z).mono fun r hr => by
    rcases List.mem_append.mp hr with hr | hr
    · exact hr
    · exact hM r hr
  have nx2 : ∀ {A3 : List (Option T)} {σ3 : L2.St}, NextS n Mz A A3 σ σ3 → NextS n Mz A (A3.set i none) σ (σ3.set i none) := fun z => by
    refine ⟨⟨by rw [List.length_set]; exact z.len, by rw [List.drop_set_of_lt hiN]; exact z.tmp⟩, fun j hj => ?_⟩
    have hji : i ≠ j := fun z => hj (by subst z; exact hMi)
    rw [List.getElem?_set_ne hji]
    exact z.keep j hj
  have gone : ∀ {A3 : List (Option T)} {σ3 : L2.St} {H3 : Hp}, Rel g Γ n A3 σ3 H3 → Rel g Γ n (A3.set i none) (σ3.set i none) H3 := fun {A3 σ3 H3} R3 => by
    have R4 : Rel g Γ n (A3.set i none) σ3 H3 := R3.less (by rw [List.length_set]; exact R3.len) fun j u q => by
      by_cases hji : i = j
      · subst hji
        rw [List.getElem?_set_self (by have := R3.len; omega)] at q
        cases q
      · rw [List.getElem?_set_ne hji] at q; exact q
    refine R4.reslot (by simp) fun j u q hj => ?_
    have hji : i ≠ j := fun z => by
      subst z
      rw [List.getElem?_set_self (by have := R3.len; omega)] at q
      cases q
    rw [List.getElem?_set_ne hji]
  refine ⟨c, fs, rfl, em, hdict, ghPin Γ (dictOf t) fs, _, P2, ?_, ?_⟩
  · intro r hr j cl' hj y
    have y' := cellAt_pin.mp y
    have hji : i ≠ j := by omega
    have y2 : CellAt g A' j cl' := by
      rcases (cellAt_set (by omega)).mp y' with ⟨z, _⟩ | ⟨_, z⟩
      · omega
      · exact z
    exact (clM.next x'.toNext Rr.len) r hr j cl' hj y2
  · rw [es]
    rw [← hua] at h hne
    cases er : fh c fs a (S1.set i (some (.im (.ref a)))) with
    | bad => rw [er] at hne; exact absurd rfl hne
    | exc c2 d2 S2 => rw [er] at hne; exact absurd rfl hne
    | ok fl S2 =>
      rw [er] at h
      cases fl with
      | nx => exact fun A3 σ3 H3 R3 x3 e3 => h _ _ _ (gone (un R3)) (nx2 (nx1 x3)) (by rw [ers_set hiN, e3]; rfl)
      | brk => exact fun A3 σ3 H3 R3 x3 e3 => h _ _ _ (gone (un R3)) (nx2 (nx1 x3)) (by rw [ers_set hiN, e3]; rfl)
      | cnt => exact fun A3 σ3 H3 R3 x3 e3 => h _ _ _ (gone (un R3)) (nx2 (nx1 x3)) (by rw [ers_set hiN, e3]; rfl)
      | ret d3 =>
        intro A3 t3 σ3 H3 R3 x3 e3 e4
        have z3 := nx1 x3
        have hA3 : n ≤ A3.length := by rw [z3.len]; exact Rr.len
        refine h (A3.set i none) t3 σ3 H3 ((un R3).less (by rw [List.length_append, List.length_set]; omega) fun j u q => ?_) ⟨⟨by rw [List.length_set]; exact z3.len, by rw [List.drop_set_of_lt hiN]; exact z3.tmp⟩, z3.keep⟩ (by rw [ers_set hiN, e3]; rfl) e4
        by_cases hj : j < A3.length
        · rw [List.getElem?_append_left (by rw [List.length_set]; exact hj)] at q
          rw [List.getElem?_append_left hj]
          by_cases hji : i = j
          · subst hji
            rw [List.getElem?_set_self hj] at q; cases q
          · rw [List.getElem?_set_ne hji] at q; exact q
        · rw [List.getElem?_append_right (by rw [List.length_set]; omega), List.length_set] at q
          rw [List.getElem?_append_right (by omega)]; exact q
inductive HdsQ (X : Cx) (g : Gc) (nm : Str) (Mz : List Nat) : List ExceptHandler → List Clz → Prop
  | nil : HdsQ X g nm Mz [] []
  | cons {x : Str} {c : Nat} {mt : Nat → Option Bool} {fh : Nat → List (Str × V) → Addr → Sg → R Fl} {b₀ : Stmt} {suite : List Stmt} {np pos' : Pos} {hds : List ExceptHandler} {l : List Clz} {Mh : List Nat} (hM : ∀ r ∈ Mh, r ∈ Mz) (hc : Names X x (.ref (g.cl c)))
      (hmt : ∀ c' b, mt c' = some b → PySem.W.exmOne X.K (.ref (g.cl c')) (.ref (g.cl c)) = some b)
      (hsu : ∀ (a : Addr) (oe : Obj) (c' : Nat) (d : Option Addr) (pn : List (Addr × Obj)) (fs : List (Str × V)), mt c' = some true → Zc (.ref (g.cl c')) d oe → (∃ vs, oe.data = .fields vs) → (d = none → fs = []) → QSs (X.suite a ((a, oe) :: pn)) (gPin g d fs) W0 Mh (b₀ :: suite) (fh c' fs a))
      (r : HdsQ X g nm Mz hds l) : HdsQ X g nm Mz (.ExceptHandler (some (.Name x np)) (some nm) (b₀ :: suite) pos' :: hds) ((mt, fh) :: l)
section
variable {X : Cx} {g : Gc} {W : WX} {Mb Mz : List Nat} {x nm : Str} {c i : Nat} {body : List Stmt} {h₀ : ExceptHandler} {hds : List ExceptHandler} {pos : Pos} {fb : Sg → R Fl} {l : List Clz}
theorem hdsQ_run (hi : i < X.N.length) (hMi : X.N.length + i ∈ Mz) (h : HdsQ X g nm Mz hds l) : ∃ l', HdsA X nm hds l' ∧ ∀ {Γ : Gh} {A A' : List (Option T)} {σ σ' : L2.St} {H H' : Hp} {t : T} {c : Nat} {d : D} {S1 : Sg} {Dn : Ends}, Rel g Γ X.N.length A σ H → Clean g X.N.length Mz A → NextS X.N.length Mz A A' σ σ' → Rel g Γ X.N.length (A' ++ [some t]) σ' H' → ers X.N.length A' = S1 → t.er = d →
    PostS g X.N.length W Mz Γ A σ Dn (cHs i l c d S1) → wAsN X.K W i Dn l' (.ref (g.cl c)) (dictOf t) σ' H' := by
  induction h with
  | nil => exact ⟨[], .nil, fun Rr cl x' R' e' e2 h => h _ _ _ _ R' x' e' e2⟩
  | @cons x c0 mt fh b₀ suite np pos' hds l Mh hM hc hmt hsu r ih =>
    obtain ⟨l', h1, h2⟩ := ih
    refine ⟨(.ref (g.cl c0), tHd g X.N.length Mh mt fh) :: l', .cons hc (fun a oe cls d pn hz hv => ⟨fun pins s σ H D I ⟨c', fs, e1, e2, e3, e4⟩ => ?_⟩) h1, fun {Γ A A' σ σ' H H' t c d S1 Dn} Rr cl x' R' e' e2 h => ?_⟩
    · subst e1
      exact (hsu a oe c' d pn fs e2 hz hv e3).run pins s σ H D I e4
    · unfold cHs at h
      cases em : mt c with
      | none => rw [em] at h; exact h.elim
      | some b =>
        rw [em] at h
        refine ⟨b, hmt c b em, ?_, ?_⟩
        · rintro rfl
          intro a na
          dsimp only at h
          cases ex : xfOf d with
          | none => rw [ex] at h; exact h.elim
          | some fs =>
            rw [ex] at h
            exact catch_ok hi Rr x' R' e' e2 hMi hM (fun r hr => cl r (hM r hr)) em ex h a na
        · rintro rfl
          exact h2 Rr cl x' R' e' e2 h
theorem sds_tryN (cx : CxS X W) (i : Nat) (hi : X.N[i]? = some nm) (hMb : ∀ r ∈ Mb, r ∈ Mz) (hMi : X.N.length + i ∈ Mz)
    (hb : ∀ (W' : WX) (pn : List (Addr × Obj)) (xe : Value → Shared → Prop), CxS (X.tr pn xe) W' → QSs (X.tr pn xe) g W' Mb body fb)
    (hh : HdsQ X g nm Mz (h₀ :: hds) l)
    (hs : X.stack = X.env :: X.outer := by rfl) (hf : X.env.frame = some X.env.locals := by rfl) (hln : X.env.kindOf nm = some .local := by rfl) :
    QS X g W Mz (.Try body (h₀ :: hds) [] [] pos) (cTryN i l fb) := by
  have hiN : i < X.N.length := (List.getElem?_eq_some_iff.mp hi).1
  obtain ⟨l', h1, h2⟩ := hdsQ_run (W := W) hiN hMi hh
  refine qS (ps_try_asN (Wout := W) (tb := fun W' => tS g X.N.length W' Mb fb) hs hf cx.nd hi hln cx.takes (fun W' pn xe tk ps => hb W' pn xe (cx.tr tk ps)) h1) ?_
  intro Γ A σ H Dn Rr cl h
  refine ⟨Γ, A, Rr, fun r hr => cl r (hMb r hr), ?_⟩
  unfold cTryN at h
  have monoS : ∀ {A' : List (Option T)} {σ' : L2.St}, NextS X.N.length Mb A A' σ σ' → NextS X.N.length Mz A A' σ σ' := fun z => z.mono hMb
  cases e : fb (ers X.N.length A) with
  | bad => rw [e] at h; exact h
  | ok fl S1 =>
    rw [e] at h
    cases fl with
    | nx => exact fun A' σ' H' R' x' e' => h A' σ' H' R' (monoS x') e'
    | brk => exact fun A' σ' H' R' x' e' => h A' σ' H' R' (monoS x') e'
    | cnt => exact fun A' σ' H' R' x' e' => h A' σ' H' R' (monoS x') e'
    | ret d => exact fun A' t σ' H' R' x' e' e2 => h A' t σ' H' R' (monoS x') e' e2
  | exc c' d S1 =>
    rw [e] at h
    intro A' t σ' H' R' x' e' e2
    exact h2 Rr cl (monoS x') R' e' e2 h
end
end Lin
end
section
namespace Lin
open PySem L2
theorem hdsQ_one {X : Cx} {g : Gc} {nm : Str} {Mz : List Nat} {x : Str} {c : Nat} {mt : Nat → Option Bool} {fh : List (Str × V) → Addr → Sg → R Fl} {b₀ : Stmt} {suite : List Stmt} {np pos' : Pos} {hds : List ExceptHandler} {l : List Clz} {Mh : List Nat} (hone : ∀ c', mt c' = some true → c' = c) (hc : Names X x (.ref (g.cl c)))
    (hmt : ∀ c' b, mt c' = some b → PySem.W.exmOne X.K (.ref (g.cl c')) (.ref (g.cl c)) = some b)
    (hsu : ∀ (a : Addr) (oe : Obj) (d : Option Addr) (pn : List (Addr × Obj)) (fs : List (Str × V)), Zc (.ref (g.cl c)) d oe → (∃ vs, oe.data = .fields vs) → (d = none → fs = []) → QSs (X.suite a ((a, oe) :: pn)) (gPin g d fs) W0 Mh (b₀ :: suite) (fh fs a))
    (r : HdsQ X g nm Mz hds l) (hM : ∀ r ∈ Mh, r ∈ Mz := by decide) : HdsQ X g nm Mz (.ExceptHandler (some (.Name x np)) (some nm) (b₀ :: suite) pos' :: hds) ((mt, fun _ => fh) :: l) :=
  .cons hM hc hmt (fun a oe c' d pn fs e hz hv hd => by
    have := hone c' e
    subst this
    exact hsu a oe d pn fs hz hv hd) r
/-! plain -/
section
variable {E : EX} {S : Sg} {QF : Fl → Sg → Prop} {f : Sg → R Fl}
/-- what the clauses wish of the body's errors -/
def HsX (i : Nat) (E : EX) (QF : Fl → Sg → Prop) : List Clz → EX
  | [] => E
  | (mt, fh) :: r => fun c d S1 => (mt c = some true ∧ ∃ fs fl S2, xfOf d = some fs ∧ (∀ a, OkE NoX (fh c fs a (S1.set i (some (.im (.ref a))))) fun fl' S' => fl' = fl ∧ S'.set i none = S2) ∧ QF fl S2) ∨ (mt c = some false ∧ HsX i E QF r c d S1)
theorem ok_hs {i : Nat} : ∀ {l : List Clz} {c : Nat} {d : D} {S1 : Sg}, HsX i E QF l c d S1 → OkE E (cHs i l c d S1) QF
  | [], c, d, S1, h => by unfold cHs; rw [ok_def]; exact h
  | (mt, fh) :: r, c, d, S1, h => by
    unfold cHs
    rcases h with ⟨hm, fs, fl, S2, hx, hh, hq⟩ | ⟨hm, he⟩
    · rw [hm]
      dsimp only
      rw [hx]
      dsimp only
      rw [uni_eq (r := .ok fl S2) fun a => ?_, ok_ok]
      · exact hq
      · obtain ⟨fl', S', e2, rfl, rfl⟩ := (hh a).get
        rw [e2]; rfl
    · rw [hm]
      exact ok_hs he
theorem ok_tryN {i : Nat} {l : List Clz} (hb : OkE (HsX i E QF l) (f S) QF) : OkE E (cTryN i l f S) QF := by
  rw [ok_def] at hb
  unfold cTryN
  cases e : f S with
  | bad => rw [e] at hb; exact hb.elim
  | ok fl S1 => rw [e] at hb; dsimp only; rw [ok_ok]; exact hb
  | exc c d S1 =>
    rw [e] at hb
    exact ok_hs hb
end
end Lin
end
section
namespace Lin
open PySem L2
/-! ### list * int -/
def dRep (a b : D) : Option D := match a, b with
  | .nd _ .lst xs, .im (.int k) => if 0 ≤ k ∧ k < 2 ^ 63 ∧ xs.length * k.toNat ≤ sizeLine then some (.nd .own .lst (List.replicate k.toNat (mkDL kFz xs)).flatten) else none
  | _, _ => none
theorem map_repl {α β : Type} (f : α → β) (k : Nat) (l : List α) : ((List.replicate k l).flatten).map f = (List.replicate k (l.map f)).flatten := by
  rw [List.map_flatten, List.map_replicate]
theorem cells_repl {g : Gc} {ts : List T} {k : Nat} {c : Cell} (h : c ∈ cellsL g (List.replicate k ts).flatten) : c ∈ cellsL g ts := by
  rw [cellsL_eq, List.mem_flatMap] at h ⊢
  obtain ⟨t, ht, hc⟩ := h
  rw [List.mem_flatten] at ht
  obtain ⟨l, hl, hl2⟩ := ht
  rw [List.eq_of_mem_replicate hl] at hl2
  exact ⟨t, hl2, hc⟩
theorem opm_rep {g : Gc} {n : Nat} : OpM g n rRep dRep := by
  intro Γ A ta tb σ H Q d Rr hn eo hq
  unfold dRep at eo
  split at eo
  · rename_i k xs j e1 e2
    split at eo
    · rename_i hz
      obtain ⟨h0, h1, h2⟩ := hz
      obtain ⟨a, dx, ts, rfl, h3⟩ := er_nd e1
      have et := er_im e2
      subst et
      cases eo
      have c1 : H a = some (.lst (ts.map T.root)) := Rr.top2
      refine ⟨a, j, _, rfl, rfl, c1, by omega, h1, by simpa [← h3] using h2, fun p hp => ?_⟩
      have R1 := (Rr.drop (by simp; omega)).freeze hn
      have noOwn : ∀ c ∈ cellsL g (mkL kFz ts), c.1 ≠ .own := fun c hc => by
        rw [cellsL_mk, List.mem_map] at hc
        obtain ⟨c', _, rfl⟩ := hc
        dsimp only [kFz]
        split
        · exact fun z => nomatch z
        · assumption
      have R2 := R1.node (p := p) (ts := (List.replicate j.toNat (mkL kFz ts)).flatten) hn hp .lst 0 (fun c hc => ⟨0, _, rfl, by rw [T.mk]; exact child_sub.subset (cells_repl hc)⟩) ?_
      · have er : (List.replicate j.toNat (mkL kFz ts)).flatten.map T.root = (List.replicate j.toNat (ts.map T.root)).flatten := by rw [map_repl, roots_mk]
        have hoe : ho g .lst 0 ((List.replicate j.toNat (mkL kFz ts)).flatten.map T.root) = .lst (List.replicate j.toNat (ts.map T.root)).flatten := by rw [er]; rfl
        rw [hoe] at R2
        refine hq _ _ R2 ?_
        rw [T.er, erL_eq, map_repl, ← erL_eq, erL_mk, erL_eq, h3]
      · have : ownsC (cellsL g (List.replicate j.toNat (mkL kFz ts)).flatten) = [] := by
          rw [List.eq_nil_iff_forall_not_mem]
          intro x hx
          obtain ⟨c, hc, ho, _⟩ := mem_ownsC.mp hx
          exact noOwn c (cells_repl hc) ho
        rw [this]
        exact List.nil_sublist _
    · cases eo
  · cases eo
theorem exm_of {K : PySem.W.Frag} {C B : Addr} {b : Bool} (h0 : PySem.W.subIn K (.ref B) (.type "BaseException") = some true) (h1 : PySem.W.hasDictIn K B = true) (h2 : PySem.W.typeIn K (.ref B) = some (.type "type")) (h3 : PySem.W.subIn K (.ref C) (.ref B) = some b) : PySem.W.exmOne K (.ref C) (.ref B) = some b := by
  obtain ⟨cd, hc, _⟩ := PySem.W.any_some h1
  unfold PySem.W.exmOne PySem.W.kitCls
  simp [h0, hc, h2, h3]
theorem bm_rep {X : Cx} {g : Gc} : BinM X g .Mult dRep := ⟨_, op_rep, opm_rep⟩
end Lin
end
section
set_option maxHeartbeats 4000000
namespace Lin
open PySem PySem.Spec PyProof.Rows L2
/-! ### set(..) of a list of ints -/
def emptyS (w : World) : Obj := { cls := .type "set", dict := none, data := .set #[] 0 (.fresh 0 0 (!w.params.followText "set-order")) }
section
variable {P : Program} {w : World} {A : Around} {E : Value → Shared → Prop} {s : Shared}
theorem call_set_listI {l : Addr} {xs : Array Value} (ns : List Int) {Q : Value → Shared → Prop} (hh : A.handled = none) (hl : s.heap.IsList l xs) (hit : IntsAre xs.toList ns) (hb : ns.length + 1 < scanBound)
    (k : ∀ (h' : Heap) (tk c : Nat), SetR w h' s.heap.objs.size (fun j => decide (j ∈ ns)) c → c ≤ ns.length → (∀ b o, s.heap.get? b = some o → h'.get? b = some o) → Q (.ref s.heap.objs.size) { s with heap := h', toks := tk }) :
    wpAny (model P w) A (call (.type "set") [.ref l]) Q E s := by
  have sz : xs.size = ns.length := by have z := IntsAre.length hit; rwa [Array.length_toList] at z
  obtain ⟨c0, tl, hmro⟩ := F.called_set.mro
  have m1 := F.called_set.made
  have m2 := F.called_set.sub
  refine wpAny_call (codeAny_of_tree ?_)
  change wpAny _ _ (callAny (.type "set") _) _ _ _
  refine wpAny_pure ⟨Code.quiet_builtin _ (by decide +kernel), codeAny_builtin F.entry_type_call ?_⟩
  rw [Around.under_plain (weight_type_call_type "set" [.ref l] []) rfl]
  have m3 := F.called_set.notType
  have m4 := F.called_set.canCreate
  have m5 := F.typeCall_set_1 (.ref l)
  repeat (any_goals (first | assumption | wp_step))
  refine codeAny_mono (code_set_led1 (.ref l) (E := E) (Q₁ := fun ob s1 => ob = .ref s.heap.objs.size ∧ s1 = { s with heap := s.heap.push (emptyS w) }) ⟨rfl, rfl⟩) fun r s1 hr => ?_
  cases r with
  | error e => exact hr
  | ok fl =>
    cases fl with
    | ret ob =>
      obtain ⟨rfl, rfl⟩ := hr
      have gS : (s.heap.push (emptyS w)).get? s.heap.objs.size = some (emptyS w) := Heap.get?_push_size _ rfl
      have tS : Shared.TypeIs { s with heap := s.heap.push (emptyS w) } (.ref s.heap.objs.size) "set" := ⟨_, gS, rfl⟩
      have m6 := F.called_set.init.lookup
      have m7 := F.called_set.init.bind (.ref s.heap.objs.size)
      repeat (any_goals (first | assumption | wp_step))
      refine codeAny_mono (codeAny_call_builtin (R := wants (fun r s2 => r = .none ∧ ∃ h' tk c, s2 = { s with heap := h', toks := tk } ∧ SetR w h' s.heap.objs.size (fun j => decide (j ∈ ns)) c ∧ c ≤ ns.length ∧ (∀ b o, s.heap.get? b = some o → h'.get? b = some o)) E) F.called_set.init.plain F.entry_set_init (check_set_init_1 tS ?_)) fun r2 s2 hr2 => ?_
      · obtain ⟨ol, hol, hcl, nl, hdl⟩ := hl
        obtain ⟨oc, od, oda, osl⟩ := ol
        simp only at hcl hdl
        subst hcl; subst hdl
        have gl : (s.heap.push (emptyS w)).get? l = some { cls := .type "list", dict := od, data := .seq xs nl, slots := osl } := Heap.get?_push_of_some _ hol
        have m8 := F.sub_list_set
        have m9 := F.sub_list_frozenset
        have ne1 : (Value.type "list" == Value.type "dict") = false := by decide
        have hl1 : (s.heap.push (emptyS w)).IsList l xs := ⟨_, gl, rfl, nl, rfl⟩
        unfold Builtin.«set.__init__» noKeywords Builtin.Frozenset.updateFrom
        generalize hPI : pyIter = PI
        wp_walk
        subst hPI
        refine wpAny_pyIter_list hl1 (wpAny_bind (wpAny_runValue ?_))
        have lt1 : l < s.heap.objs.size := Heap.lt_size hol
        have h3 : A.in1.in1.in1.handled = none := by simp [hh]
        have ne2 : l ≠ (s.heap.push (emptyS w)).objs.size := by
          rw [Heap.size_push]; exact Nat.ne_of_lt (Nat.lt_succ_of_lt lt1)
        have nin : s.heap.objs.size ∉ [(s.heap.push (emptyS w)).objs.size, l] := by
          rw [Heap.size_push]
          simp only [List.mem_cons, List.not_mem_nil, or_false, not_or]
          exact ⟨Nat.ne_of_lt (Nat.lt_succ_self _), Nat.ne_of_gt lt1⟩
        have vals : ∀ (i : Nat) (v : Value), xs[i]? = some v → ∃ k t, ns[i]? = some k ∧ v = .int k t := fun i v hv => by
          have hi : i < ns.length := by rw [← sz]; exact (Array.getElem?_eq_some_iff.mp hv).1
          obtain ⟨t, e⟩ := PyProof.Rows.IntsAre.int_at hit i v (by rw [Array.getElem?_toList]; exact hv)
          refine ⟨ns[i], t, List.getElem?_eq_getElem hi, ?_⟩
          rw [e, List.getD_eq_getElem?_getD, List.getElem?_eq_getElem hi] <;> rfl
        refine set_update_ints ((Walks.list h3 _ l ne2 xs).toS) s.heap.objs.size nin ns sz hb vals (xs.size - 0) 0 _ (by omega) (Nat.zero_le _) ⟨⟨_, Heap.get?_push_size _ rfl, rfl, rfl⟩, (hl1.push _)⟩ ⟨0, Nat.le_refl 0, setR_new_at (Heap.get?_push_of_some _ gS)⟩ ?_
        intro s' c' hm hc' hS'
        obtain ⟨h', g2, d', tk', os'⟩ := s'
        have e1 : g2 = s.gens := hm.gens
        have e2 : d' = s.drawn := hm.drawn
        have e3 : os' = s.os := hm.os
        subst e1 e2 e3
        refine wpAny_pure ?_
        change wpAny _ _ (ret Value.none) _ _ _
        rw [sz] at hc'
        refine wpAny_pure ⟨rfl, h', tk', c', rfl, hS', hc', fun b o e => ?_⟩
        have b0 : b < s.heap.objs.size := Heap.lt_size e
        refine hm.heap b o ?_ (Heap.get?_push_of_some _ (Heap.get?_push_of_some _ e))
        rw [Heap.size_push]
        simp only [List.mem_cons, List.not_mem_nil, or_false, not_or]
        first | exact ⟨Nat.ne_of_lt b0, Nat.ne_of_lt (Nat.lt_succ_of_lt b0)⟩ | exact ⟨Nat.ne_of_lt (Nat.lt_succ_of_lt b0), Nat.ne_of_lt b0⟩
      · cases r2 with
        | error e => exact hr2
        | ok fl2 =>
          cases fl2 with
          | ret r =>
            obtain ⟨rfl, h', tk, c', rfl, z1, z2, z3⟩ := hr2
            repeat (any_goals (first | assumption | wp_step))
            exact k _ _ _ z1 z2 z3
          | _ => exact hr2.elim
    | _ => exact hr.elim
end
end Lin
end
section
namespace Lin
open PySem PyProof.Rows L2
/-! ### sorted(set(e)), len(set(e)), e a list of ints -/
theorem Rel.grow {g : Gc} {Γ : Gh} {n : Nat} {A : List (Option T)} {σ : L2.St} {H H' : Hp} (R : Rel g Γ n A σ H) (h : ∀ a o, H a = some o → H' a = some o) : Rel g Γ n A σ H' :=
  ⟨R.len, R.slen, R.val, fun i c x => h _ _ (R.hold i c x), R.lab, R.nd, R.sep, fun a o h1 h2 => h _ _ (R.frame a o h1 h2), R.gown, R.gfrz, R.pin⟩
def insI (a : Int) : List Int → List Int
  | [] => [a]
  | b :: r => if a < b then a :: b :: r else if a = b then b :: r else b :: insI a r
def sdI (ns : List Int) : List Int := ns.foldr insI []
theorem mem_insI {a k : Int} : ∀ {l : List Int}, k ∈ insI a l ↔ k = a ∨ k ∈ l
  | [] => by simp [insI]
  | b :: r => by
    unfold insI
    split
    · simp
    · split
      · rename_i h; subst h; simp
      · simp only [List.mem_cons, mem_insI (l := r)]
        constructor
        · rintro (h | h | h)
          · exact .inr (.inl h)
          · exact .inl h
          · exact .inr (.inr h)
        · rintro (h | h | h)
          · exact .inr (.inl h)
          · exact .inl h
          · exact .inr (.inr h)
theorem pw_insI {a : Int} : ∀ {l : List Int}, l.Pairwise (· < ·) → (insI a l).Pairwise (· < ·)
  | [], _ => by simp [insI]
  | b :: r, h => by
    obtain ⟨h1, h2⟩ := List.pairwise_cons.mp h
    unfold insI
    split
    · rename_i hab
      refine List.pairwise_cons.mpr ⟨fun x hx => ?_, h⟩
      rcases List.mem_cons.mp hx with rfl | hx
      · exact hab
      · exact Int.lt_trans hab (h1 x hx)
    · split
      · exact h
      · refine List.pairwise_cons.mpr ⟨fun x hx => ?_, pw_insI h2⟩
        rcases mem_insI.mp hx with rfl | hx
        · omega
        · exact h1 x hx
theorem mem_sdI {k : Int} : ∀ {l : List Int}, k ∈ sdI l ↔ k ∈ l
  | [] => by simp [sdI]
  | b :: r => by
    show k ∈ insI b (sdI r) ↔ _
    rw [mem_insI, mem_sdI (l := r), List.mem_cons]
theorem pw_sdI : ∀ l : List Int, (sdI l).Pairwise (· < ·)
  | [] => .nil
  | b :: r => pw_insI (pw_sdI r)
theorem strict_uniq : ∀ {xs ys : List Int}, xs.Pairwise (· < ·) → ys.Pairwise (· < ·) → (∀ k, k ∈ xs ↔ k ∈ ys) → xs = ys
  | [], [], _, _, _ => rfl
  | [], y :: ys, _, _, h => absurd ((h y).mpr List.mem_cons_self) (by simp)
  | x :: xs, [], _, _, h => absurd ((h x).mp List.mem_cons_self) (by simp)
  | x :: xs, y :: ys, hx, hy, h => by
    obtain ⟨x1, x2⟩ := List.pairwise_cons.mp hx
    obtain ⟨y1, y2⟩ := List.pairwise_cons.mp hy
    have e : x = y := by
      rcases List.mem_cons.mp ((h x).mp List.mem_cons_self) with e | hm
      · exact e
      · rcases List.mem_cons.mp ((h y).mpr List.mem_cons_self) with e | hm2
        · exact e.symm
        · have := y1 x hm
          have := x1 y hm2
          omega
    subst e
    refine congrArg _ (strict_uniq x2 y2 fun k => ⟨fun hk => ?_, fun hk => ?_⟩)
    · rcases List.mem_cons.mp ((h k).mp (List.mem_cons_of_mem _ hk)) with e | hm
      · have := x1 k hk; omega
      · exact hm
    · rcases List.mem_cons.mp ((h k).mpr (List.mem_cons_of_mem _ hk)) with e | hm
      · have := y1 k hk; omega
      · exact hm
def rSetL (K : PySem.W.Frag) (w : World) : List V → Hp → VK → Prop := fun vs H Q => ∃ (p : Addr) (ns : List Int), vs = [V.ref p] ∧ SqL K H p (ns.map V.int) ∧ ns.length < 60 ∧
  ∀ (a : Addr) (n : Nat), n ≤ ns.length → H a = none → Q (.ref a) (upd H a (SetO w a (fun j => decide (j ∈ ns)) n))
theorem cr_setL {X : Cx} (hc : X.calm = true) : CallR X (.type "set") (rSetL X.K X.w) := by
  intro pins s σ H vs us Q I r h
  obtain ⟨p, ns, rfl, hq, hb, q⟩ := h
  rw [Vals.ref1 r]
  obtain ⟨its, r', pl, hz⟩ := I.list hq
  refine call_set_listI ns (I.ok.hd hc) pl.isList (intsAre_of r') ?_ fun h' tk c R hc' kp => ?_
  · have : (62 : Nat) < scanBound := by decide
    omega
  · exact ⟨.ref s.heap.objs.size, _, I.laid (t' := tk) kp (Nat.le_refl _) (setO_new R), rfl, q _ c hc' (I.hok.fresh (Nat.le_refl _))⟩
def rSs (K : PySem.W.Frag) (w : World) : List V → Hp → VK → Prop := fun vs H Q => rSetL K w vs H fun v H1 => rSortedSet w [v] H1 Q
def dSs (ds : List D) : Option D := match ds with
  | [.nd _ .lst xs] => (dInts xs).bind fun ns => if ns.length < 60 then some (intsD (sdI ns)) else none
  | _ => none
theorem cam_ss {g : Gc} {n : Nat} {K : PySem.W.Frag} {w : World} : CaM g n (rSs K w) dSs := by
  intro Γ A ts σ H Q d Rr hn eo hq
  unfold dSs at eo
  split at eo
  · rename_i k xs q
    obtain ⟨t, rfl, q'⟩ := er1 q
    obtain ⟨a, dx, us, rfl, h1⟩ := er_nd q'
    cases e2 : dInts xs with
    | none => rw [e2] at eo; cases eo
    | some ns =>
      rw [e2] at eo
      have eo : (if ns.length < 60 then some (intsD (sdI ns)) else none) = some d := eo
      split at eo
      · rename_i hlen
        cases eo
        have hu : us = ns.map fun i => T.im (.int i) := ints_root us ns (by rw [h1]; exact e2)
        have hh : H a = some (.lst (us.map T.root)) := Rr.top1
        rw [hu, roots_int] at hh
        refine ⟨a, ns, rfl, SqL.of hh, hlen, fun b m hm hb => ⟨b, _, m, rfl, upd_same, by omega, fun ns' p hp hmem hl hf => ?_⟩⟩
        have e3 : ns' = sdI ns := strict_uniq hp (pw_sdI ns) fun k => by rw [hmem k, mem_sdI]; simp
        subst e3
        have R2 := Rr.grow (H' := upd H b (SetO w b (fun j => decide (j ∈ ns)) m)) fun x o e => by rw [upd_ne (ne_of_none e hb)]; exact e
        exact hq _ _ (R2.newInts hn hf (sdI ns)) (intsD_er _ _)
      · cases eo
  · cases eo
section
variable {X : Cx} {g : Gc} {W : WX} {M1 : List Nat} {e : Expr} {p p2 pos pos2 : Pos} {fr : Sg → R (List D)}
theorem sd_sset (cx : CxE X W) (ha : QA X g W M1 [e] fr) (hm : X.mg "sorted" = none) (hm2 : X.mg "set" = none) (hg : Gl X "sorted" := by rfl) (hg2 : Gl X "set" := by rfl)
    (he : starEach [e] X.env = (false, eval e X.env) :: starEach [] X.env := by rfl) (hpl : (backTo pos2 (starEach [] X.env)).any (·.1) = false := by rfl)
    (he2 : starEach [.Call (.Name "set" p2) [e] [] pos2] X.env = (false, eval (.Call (.Name "set" p2) [e] [] pos2) X.env) :: starEach [] X.env := by rfl) (hpl2 : (backTo pos (starEach [] X.env)).any (·.1) = false := by rfl) :
    QE X g W M1 (.Call (.Name "sorted" p) [.Call (.Name "set" p2) [e] [] pos2] [] pos) (cMany fr dSs) :=
  qE (pe_callB (cr_sortedSet cx.calm) hg hm rfl (pa_cons (pe_callTy (cr_setL cx.calm) hg2 hm2 rfl ha (by decide) (by decide) he hpl) pa_nil he2) (by decide) (by decide) he2 hpl2) (mean_many (r := rSs X.K X.w) mn_A cam_ss)
end
end Lin
end
section
namespace Lin
open PySem PyProof.Rows L2
/-! ### tuple(range(n)) -/
def tintsD (ns : List Int) : D := .nd .own .tup (ns.map fun i => .im (.int i))
def dTRg1 (d : D) : Option D := match d with
  | .im (.int j) => if rngOk j = true ∧ j ≤ 16777216 then some (tintsD (rgI 0 j)) else none
  | _ => none
section
variable {g : Gc} {n : Nat} {W : WX} {Γ : Gh} {A B : List (Option T)} {σ : L2.St} {H : Hp} {M1 : List Nat}
theorem Rel.newTInts {p : Addr} (Rr : Rel g Γ n (A ++ B) σ H) (hn : n ≤ A.length) (hp : H p = none) (ns : List Int) : Rel g Γ n (A ++ [some (.nd p .own .tup 0 (ns.map fun i => T.im (.int i)))]) σ (upd H p (.tup (ns.map V.int))) := by
  have := Rr.node (p := p) (ts := ns.map fun i => T.im (.int i)) hn hp .tup 0 (by rw [cells_int]; exact fun c h => nomatch h) (by rw [cells_int]; exact List.nil_sublist _)
  rw [roots_int] at this
  exact this
theorem tintsD_er (p : Addr) (ns : List Int) : (T.nd p .own .tup 0 (ns.map fun i => T.im (.int i))).er = tintsD ns := by rw [T.er, erL_eq, ers_int]; rfl
theorem mean_tupRg1 {ta : TE} {fa : Sg → R D} (ha : MeanE g n W M1 ta fa) : MeanE g n W M1 (tTupRg (tRg1 ta)) (cOne fa dTRg1) :=
  mean_one (r := fun x H1 Q => ∃ m, x = .int m ∧ RgOk 0 m ∧ ∀ q, H1 q = none → Q (.ref q) (upd H1 q (.tup (rgV 0 m)))) ha fun Γ A ta σ H Q d Rr hn eo hq => by
    unfold dTRg1 at eo
    split at eo
    · rename_i j e
      split at eo
      · rename_i hj
        cases eo
        rw [er_im e]
        obtain ⟨r1, r2⟩ := rngOk_iff hj.1
        refine ⟨j, rfl, ⟨by omega, by omega, r1, r2, by have := hj.2; omega⟩, fun p hp => ?_⟩
        rw [rgV_eq]
        exact hq _ _ (Rr.newTInts hn hp _) (tintsD_er _ _)
      · cases eo
    · cases eo
end
section
variable {X : Cx} {g : Gc} {W : WX} {M1 : List Nat} {a : Expr} {p p1 p3 pos : Pos} {fa : Sg → R D}
theorem sd_tupRg1 (cx : CxE X W) (ha : QE X g W M1 a fa) (hl : X.mg "tuple" = none) (hr : X.mg "range" = none) (hg1 : Gl X "tuple" := by rfl) (hg2 : Gl X "range" := by rfl) (na : starEach [a] X.env = (false, eval a X.env) :: starEach [] X.env := by rfl)
    (nb : starEach [.Call (.Name "range" p1) [a] [] p3] X.env = (false, eval (.Call (.Name "range" p1) [a] [] p3) X.env) :: starEach [] X.env := by rfl) : QE X g W M1 (.Call (.Name "tuple" p) [.Call (.Name "range" p1) [a] [] p3] [] pos) (cOne fa dTRg1) :=
  qE (pe_tupRg cx.calm hg1 hl (prg_1 hg2 hr ha na) nb) (mean_tupRg1 mn_E)
end
end Lin
end
section
namespace Lin
open PySem PyProof.Rows L2
section
variable {X : Cx} {g : Gc} {W : WX} {Mz M1 M2 : List Nat} {a b : Expr} {pos : Pos} {fp : Sg → R (List Nat)} {fb : Sg → R D} {r : Nat}
theorem sdp_ix (ha : QP X g W M1 r a fp) (hb : QE X g W M2 b fb) (hs : PlainIx b := by intro _ _; rfl) (hMz : Mz = (M1 ++ M2) := by rfl) : QP X g W Mz r (.Subscript a b pos) (pIx r M2 fp fb) := by
  subst hMz
  exact qP (pe_ix (L2.ix_list.or L2.ix_tup) ha hb hs) (meanp_ix mn_P mn_E)
end
end Lin
end
section
namespace Lin
open PySem L2
/-! ### a call with owned temps by reference -/
structure Back0 (g : Gc) (H H' : Hp) (ts : List T) (t : T) (us : List T) : Prop where
  frame : ∀ a o, H a = some o → a ∉ ownsC (cellsL g ts) → H' a = some o
  hold : ∀ c ∈ t.cells g ++ cellsL g us, H' c.2.1 = some c.2.2
  kind : ∀ c ∈ t.cells g ++ cellsL g us, c.1 = .own ∨ c.1 = .frz
  nd : (ownsC (t.cells g ++ cellsL g us)).Nodup
  sep : ∀ c ∈ t.cells g ++ cellsL g us, ∀ d ∈ t.cells g ++ cellsL g us, c.1 = .own → d.2.1 = c.2.1 → d.1 = .own
  own : ∀ c ∈ t.cells g ++ cellsL g us, c.2.1 ∈ ownsC (cellsL g ts) ∨ H c.2.1 = none ∨ (c.1 = .frz ∧ ∃ d ∈ cellsL g ts, d.1 = .frz ∧ d.2.1 = c.2.1)
theorem cellsL_sub {g : Gc} {us us' : List T} (h : us'.Sublist us) : (cellsL g us').Sublist (cellsL g us) := by
  rw [cellsL_eq, cellsL_eq]
  induction h with
  | slnil => exact List.Sublist.refl _
  | cons a _ ih => rw [List.flatMap_cons]; exact ih.trans (List.sublist_append_right _ _)
  | cons_cons a _ ih => rw [List.flatMap_cons, List.flatMap_cons]; exact List.Sublist.append (List.Sublist.refl _) ih
theorem BackOk.cut {g : Gc} {H H' : Hp} {mr : List Bool} {ts us us' : List T} {t : T} (b : BackOk g H H' mr ts t us) (h : us'.Sublist us) : Back0 g H H' ts t us' := by
  have s : (t.cells g ++ cellsL g us').Sublist (t.cells g ++ cellsL g us) := List.Sublist.append (List.Sublist.refl _) (cellsL_sub h)
  exact ⟨b.frame, fun c hc => b.hold c (s.subset hc), fun c hc => b.kind c (s.subset hc), (owns_sublist s).nodup b.nd, fun c hc d hd => b.sep c (s.subset hc) d (s.subset hd), fun c hc => b.own c (s.subset hc)⟩
abbrev Rt := Option (Option Nat)
def rjoin (rs : List Rt) : List (Option Nat) := rs.map Option.join
def rdum (rs : List Rt) : List (Option Nat) := rs.map fun o => o.map fun _ => 0
def rslots (rs : List Rt) : List Nat := (rjoin rs).filterMap id
def keepU {α : Type} : List Rt → List α → List α
  | none :: rs, us => keepU rs us
  | some none :: rs, _ :: us => keepU rs us
  | some (some _) :: rs, u :: us => u :: keepU rs us
  | _, _ => []
theorem keepU_sub {α : Type} : ∀ (rs : List Rt) (us : List α), (keepU rs us).Sublist us
  | [], us => by simp [keepU]
  | none :: rs, us => by rw [keepU]; exact keepU_sub rs us
  | some none :: rs, [] => by simp [keepU]
  | some (some _) :: rs, [] => by simp [keepU]
  | some none :: rs, u :: us => by rw [keepU]; exact (keepU_sub rs us).trans (List.sublist_cons_self _ _)
  | some (some _) :: rs, u :: us => by rw [keepU]; exact (keepU_sub rs us).cons₂ _
theorem keepU_map {α β : Type} (f : α → β) : ∀ (rs : List Rt) (us : List α), (keepU rs us).map f = keepU rs (us.map f)
  | [], us => by simp [keepU]
  | none :: rs, us => by rw [keepU, keepU]; exact keepU_map f rs us
  | some none :: rs, [] => by simp [keepU]
  | some (some _) :: rs, [] => by simp [keepU]
  | some none :: rs, u :: us => by rw [keepU, List.map_cons, keepU]; exact keepU_map f rs us
  | some (some _) :: rs, u :: us => by rw [keepU, List.map_cons, List.map_cons, keepU]; rw [keepU_map f rs us]
theorem keepU_len {α : Type} : ∀ (rs : List Rt) (us : List α), us.length = (rs.filterMap id).length → (keepU rs us).length = (rslots rs).length
  | [], us, _ => by simp [keepU, rslots, rjoin]
  | none :: rs, us, h => by
    rw [keepU, keepU_len rs us (by simpa using h)]; simp [rslots, rjoin]
  | some none :: rs, [], h => by simp at h
  | some (some _) :: rs, [], h => by simp at h
  | some none :: rs, u :: us, h => by
    rw [keepU, keepU_len rs us (by simpa using h)]; simp [rslots, rjoin]
  | some (some _) :: rs, u :: us, h => by
    rw [keepU, List.length_cons, keepU_len rs us (by simpa using h)]; simp [rslots, rjoin]
/-- a kept one is that of its argument -/
theorem keepU_get : ∀ (rs : List Rt) (ts us : List T) (k i : Nat) (u : T), ts.length = rs.length → us.map T.root = (refs (rs.map Option.isSome) ts).map T.root → (rslots rs)[k]? = some i → (keepU rs us)[k]? = some u → ∃ (j : Nat) (t : T), (rjoin rs)[j]? = some (some i) ∧ ts[j]? = some t ∧ u.root = t.root
  | [], ts, us, k, i, u, _, _, h, _ => by simp [rslots, rjoin] at h
  | _ :: _, [], us, k, i, u, h, _, _, _ => by simp at h
  | none :: rs, x :: ts, us, k, i, u, hl, hr, h1, h2 => by
    obtain ⟨j, t, q1, q2, q3⟩ := keepU_get rs ts us k i u (by simpa using hl) (by simpa [refs] using hr) (by simpa [rslots, rjoin] using h1) (by simpa [keepU] using h2)
    exact ⟨j + 1, t, by simpa [rjoin] using q1, by simpa using q2, q3⟩
  | some none :: rs, x :: ts, [], k, i, u, hl, hr, h1, h2 => by simp [keepU] at h2
  | some (some _) :: rs, x :: ts, [], k, i, u, hl, hr, h1, h2 => by simp [keepU] at h2
  | some none :: rs, x :: ts, v :: us, k, i, u, hl, hr, h1, h2 => by
    simp only [List.map_cons, Option.isSome_some, refs, List.cons.injEq] at hr
    obtain ⟨j, t, q1, q2, q3⟩ := keepU_get rs ts us k i u (by simpa using hl) hr.2 (by simpa [rslots, rjoin] using h1) (by simpa [keepU] using h2)
    exact ⟨j + 1, t, by simpa [rjoin] using q1, by simpa using q2, q3⟩
  | some (some r) :: rs, x :: ts, v :: us, 0, i, u, hl, hr, h1, h2 => by
    simp only [List.map_cons, Option.isSome_some, refs, List.cons.injEq] at hr
    have e1 : r = i := by simpa [rslots, rjoin] using h1
    have e2 : v = u := by simpa [keepU] using h2
    subst e1; subst e2
    exact ⟨0, x, by simp [rjoin], rfl, hr.1⟩
  | some (some r) :: rs, x :: ts, v :: us, k + 1, i, u, hl, hr, h1, h2 => by
    simp only [List.map_cons, Option.isSome_some, refs, List.cons.injEq] at hr
    obtain ⟨j, t, q1, q2, q3⟩ := keepU_get rs ts us k i u (by simpa using hl) hr.2 (by simpa [rslots, rjoin] using h1) (by simpa [keepU] using h2)
    exact ⟨j + 1, t, by simpa [rjoin] using q1, by simpa using q2, q3⟩
theorem rdum_some (rs : List Rt) : (rdum rs).map Option.isSome = rs.map Option.isSome := by
  unfold rdum
  rw [List.map_map]
  exact List.map_congr_left fun o _ => by cases o <;> rfl
theorem refs_dum : ∀ (rs : List Rt) (ts : List T), ts.length = rs.length → (refs (rs.map Option.isSome) (argsT (rdum rs) ts)).map T.root = (refs (rs.map Option.isSome) ts).map T.root
  | [], [], _ => rfl
  | [], _ :: _, h => by simp at h
  | _ :: _, [], h => by simp at h
  | none :: rs, t :: ts, h => by simpa [refs, rdum, argsT] using refs_dum rs ts (by simpa using h)
  | some _ :: rs, t :: ts, h => by simpa [refs, rdum, argsT] using refs_dum rs ts (by simpa using h)
theorem refs_len2 : ∀ (rs : List Rt) (ts : List T), ts.length = rs.length → (refs (rs.map Option.isSome) ts).length = (rs.filterMap id).length
  | [], [], _ => rfl
  | [], _ :: _, h => by simp at h
  | _ :: _, [], h => by simp at h
  | none :: rs, x :: ts, h => by simpa [refs] using refs_len2 rs ts (by simpa using h)
  | some q :: rs, x :: ts, h => by simpa [refs] using refs_len2 rs ts (by simpa using h)
section
variable {g : Gc} {n : Nat} {W : WX} {Γ : Gh} {A A' A'' B : List (Option T)} {σ : L2.St} {H H' : Hp} {t : T} {M M1 M2 M3 : List Nat}
theorem Rel.back2 {rs : List (Option Nat)} {ts us : List T} {rl : List Nat} (Rr : Rel g Γ n (A ++ ts.map some) σ H) (hn : n ≤ A.length) (hl : ts.length = rs.length) (hnd : rl.Nodup) (slots : ∀ i ∈ rl, i < n) (ulen : us.length = rl.length) (hroot : ∀ (k i : Nat) (u : T), rl[k]? = some i → us[k]? = some u → σ[i]? = some (some u.root)) (b : Back0 g H H' (argsT rs ts) t us) : Rel g Γ n (setAll A rl (us.map some) ++ [some t]) σ H' := by
  have atB : ∀ {i t c}, ts[i]? = some t → c ∈ t.cells g → CellAt g (A ++ ts.map some) (A.length + i) c := fun {i t c} h hc => cellAt_append.mpr (.inr ⟨by omega, t, by rw [Nat.add_sub_cancel_left, List.getElem?_map, h]; rfl, hc⟩)
  have atA : ∀ {i c}, CellAt g A i c → CellAt g (A ++ ts.map some) i c := fun h => cellAt_left h
  have src : ∀ c ∈ cellsL g (argsT rs ts), ∃ i d, CellAt g (A ++ ts.map some) (A.length + i) d ∧ d.2 = c.2 ∧ (c.1 = d.1 ∨ c.1 = kPar d.1) := fun c hc => by
    obtain ⟨i, u, hu, hcu⟩ := mem_cellsL hc
    obtain ⟨t, ht, ⟨r, h1, rfl⟩ | ⟨h1, rfl⟩⟩ := argsT_get rs ts i u hl hu
    · exact ⟨i, c, atB ht hcu, rfl, .inl rfl⟩
    · rw [cells_mk] at hcu
      obtain ⟨d, hd, rfl⟩ := List.mem_map.mp hcu
      exact ⟨i, d, atB ht hd, rfl, .inr rfl⟩
  have ownsrc : ∀ {a}, a ∈ ownsC (cellsL g (argsT rs ts)) → ∃ i d, CellAt g (A ++ ts.map some) (A.length + i) d ∧ d.1 = .own ∧ d.2.1 = a := fun {a} h => by
    obtain ⟨c, hc, k1, k2⟩ := mem_ownsC.mp h
    obtain ⟨i, d, x, e, z⟩ := src c hc
    refine ⟨i, d, x, ?_, by rw [e]; exact k2⟩
    rcases z with z | z
    · rw [← z]; exact k1
    · exact absurd (z ▸ k1) (kPar_own _)
  -- what stands in the slots is not changed by the call
  have notown : ∀ {i c}, CellAt g A i c → c.2.1 ∉ ownsC (cellsL g (argsT rs ts)) := fun {i c} x h => by
    obtain ⟨j, d, y, k, e⟩ := ownsrc h
    have := x.lt
    rcases Rr.sep _ i d c y (atA x) k e.symm with ⟨z, _⟩ | ⟨_, z⟩
    · omega
    · have := Rr.lab _ _ _ (atA x) z
      omega
  have split : ∀ {i c}, CellAt g (setAll A rl (us.map some) ++ [some t]) i c → (CellAt g A i c ∧ i ∉ rl) ∨ (∃ k u, (t :: us)[k]? = some u ∧ c ∈ u.cells g ∧ ((k = 0 ∧ i = A.length) ∨ ∃ k', k = k' + 1 ∧ rl[k']? = some i ∧ i < A.length)) := fun {i c} x => by
    rcases cellAt_snoc.mp x with x | ⟨e, x⟩
    · by_cases hi : i ∈ rl
      · obtain ⟨k, hk', ek⟩ := List.getElem_of_mem hi
        have hku : k < us.length := by omega
        obtain ⟨u, eu, hu⟩ := x
        have := setAll_in A rl (us.map some) k i (some us[k]) hnd (by rw [List.getElem?_eq_getElem hk', ek]) (by rw [List.getElem?_map, List.getElem?_eq_getElem hku]; rfl) (Nat.lt_of_lt_of_le (slots _ hi) hn)
        rw [this] at eu
        have : us[k] = u := by simpa using eu
        exact .inr ⟨k + 1, u, by simp [← this, List.getElem?_eq_getElem hku], hu, .inr ⟨k, rfl, by rw [List.getElem?_eq_getElem hk', ek], Nat.lt_of_lt_of_le (slots _ hi) hn⟩⟩
      · obtain ⟨u, eu, hu⟩ := x
        rw [setAll_out _ _ _ _ hi] at eu
        exact .inl ⟨⟨u, eu, hu⟩, hi⟩
    · exact .inr ⟨0, t, rfl, x, .inl ⟨rfl, by rw [e, setAll_length]⟩⟩
  have inb : ∀ {k : Nat} {u : T} {c : Cell}, (t :: us)[k]? = some u → c ∈ u.cells g → c ∈ t.cells g ++ cellsL g us := fun {k u c} h hc => by
    have : c ∈ cellsL g (t :: us) := cellsL_mem h hc
    simpa [cellsL] using this
  have flat : ((t :: us).flatMap fun u => ownsC (u.cells g)).Nodup := by
    have e : ((t :: us).flatMap fun u => ownsC (u.cells g)) = ownsC (t.cells g ++ cellsL g us) := by
      have : ∀ l : List T, (l.flatMap fun u => ownsC (u.cells g)) = ownsC (cellsL g l) := fun l => by
        induction l with
        | nil => rfl
        | cons x r ih => rw [List.flatMap_cons, cellsL, ownsC_append, ih]
      rw [this]; rfl
    rw [e]; exact b.nd
  have newA : ∀ {j : Nat} {c d : Cell}, CellAt g A j d → c ∈ t.cells g ++ cellsL g us → c.1 = .own → d.2.1 ≠ c.2.1 := fun {j c d} x hc k e => by
    rcases b.own c hc with z | z | ⟨z, _⟩
    · exact notown x (by rw [e]; exact z)
    · rw [← e, Rr.hold j d (atA x)] at z; cases z
    · rw [k] at z; cases z
  refine ⟨by rw [List.length_append, setAll_length]; simp; omega, Rr.slen, ?_, ?_, ?_, ?_, ?_, ?_, ?_, ?_, Rr.pin⟩
  · intro i u hi e
    rw [List.getElem?_append_left (by rw [setAll_length]; omega)] at e
    by_cases hm : i ∈ rl
    · obtain ⟨k, hk', ek⟩ := List.getElem_of_mem hm
      have hki : rl[k]? = some i := by rw [List.getElem?_eq_getElem hk', ek]
      have hku : k < us.length := by omega
      have := setAll_in A rl (us.map some) k i (some us[k]) hnd hki (by rw [List.getElem?_map, List.getElem?_eq_getElem hku]; rfl) (by omega)
      rw [this] at e
      have eu : us[k] = u := by simpa using e
      exact hroot k i u hki (by rw [List.getElem?_eq_getElem hku, eu])
    · rw [setAll_out _ _ _ _ hm] at e
      exact Rr.val i u hi (by rw [List.getElem?_append_left (by omega)]; exact e)
  · intro i c x
    rcases split x with ⟨x, _⟩ | ⟨k, u, hu, hc, _⟩
    · exact b.frame _ _ (Rr.hold i c (atA x)) (notown x)
    · exact b.hold c (inb hu hc)
  · intro i c r x q
    rcases split x with ⟨x, _⟩ | ⟨k, u, hu, hc, _⟩
    · exact Rr.lab i c r (atA x) q
    · rcases b.kind c (inb hu hc) with z | z <;> (rw [z] at q; cases q)
  · intro i u e
    rcases snoc_get e with ⟨hi, e⟩ | ⟨_, e⟩
    · by_cases hm : i ∈ rl
      · obtain ⟨k, hk', ek⟩ := List.getElem_of_mem hm
        have hku : k < us.length := by omega
        have := setAll_in A rl (us.map some) k i (some us[k]) hnd (by rw [List.getElem?_eq_getElem hk', ek]) (by rw [List.getElem?_map, List.getElem?_eq_getElem hku]; rfl) (by rw [setAll_length] at hi; exact hi)
        rw [this] at e
        have eu : us[k] = u := by simpa using e
        rw [← eu]
        have hs : (us[k].cells g).Sublist (t.cells g ++ cellsL g us) := (at_sub (List.getElem?_eq_getElem hku)).trans (List.sublist_append_right _ _)
        exact (owns_sublist hs).nodup b.nd
      · rw [setAll_out _ _ _ _ hm] at e
        exact Rr.nd i u (by rw [List.getElem?_append_left (List.getElem?_eq_some_iff.mp e).1]; exact e)
    · rw [e]
      exact (owns_sublist (List.sublist_append_left _ _)).nodup b.nd
  · intro i j c d x y hown hadr
    rcases split x with ⟨x, hxi⟩ | ⟨k, u, hu, hc, hpos⟩
    · rcases split y with ⟨y, hyj⟩ | ⟨l, v, hv, hd, hpos'⟩
      · exact Rr.sep i j c d (atA x) (atA y) hown hadr
      · exfalso
        rcases b.own d (inb hv hd) with z | z | ⟨_, e, he, k1, k2⟩
        · exact notown x (by rw [← hadr]; exact z)
        · rw [hadr, Rr.hold i c (atA x)] at z; cases z
        · obtain ⟨m, e', y', q1, q2⟩ := src e he
          have fr : e'.1 = .frz := by
            rcases q2 with q2 | q2
            · rw [← q2]; exact k1
            · have : kPar e'.1 = .frz := by rw [← q2]; exact k1
              unfold kPar at this
              by_cases z : e'.1 = .frz
              · exact z
              · rw [if_neg z] at this; cases this
          rcases Rr.sep i _ c e' (atA x) y' hown (by rw [q1, k2]; exact hadr) with ⟨z, _⟩ | ⟨_, z⟩
          · have := x.lt; omega
          · rw [fr] at z; cases z
    · rcases split y with ⟨y, hyj⟩ | ⟨l, v, hv, hd, hpos'⟩
      · exact absurd hadr (newA y (inb hu hc) hown)
      · have od := b.sep c (inb hu hc) d (inb hv hd) hown hadr
        have : k = l := nodup_flat flat hu hv (mem_ownsC.mpr ⟨c, hc, hown, rfl⟩) (mem_ownsC.mpr ⟨d, hd, od, hadr⟩)
        subst this
        refine .inl ⟨?_, od⟩
        rcases hpos with ⟨h0, h1⟩ | ⟨k', h0, h1, _⟩
        · rcases hpos' with ⟨_, h2⟩ | ⟨k'', h2, _⟩
          · rw [h1, h2]
          · omega
        · rcases hpos' with ⟨h2, _⟩ | ⟨k'', h2, h3, _⟩
          · omega
          · have : k' = k'' := by omega
            subst this
            rw [h1] at h3
            exact Option.some.inj h3
  · intro a o h1 h2
    refine b.frame a o (Rr.frame a o h1 h2) fun hm => ?_
    obtain ⟨i, d, y, k, e⟩ := ownsrc hm
    rcases Rr.gown _ d y with z | z | z | z
    · rw [k] at z; cases z
    · rw [k] at z; cases z
    · rw [e] at z; exact h2 z
    · rw [e, h1] at z; cases z
  · intro i c x
    rcases split x with ⟨x, _⟩ | ⟨k, u, hu, hc, _⟩
    · exact Rr.gown i c (atA x)
    · rcases b.own c (inb hu hc) with z | z | ⟨z, _⟩
      · obtain ⟨j, d, y, k1, e⟩ := ownsrc z
        have := Rr.gown _ d y
        rw [k1, e] at this
        rcases this with q | q | q
        · cases q
        · cases q
        · exact .inr (.inr q)
      · exact .inr (.inr (Rr.fresh z))
      · exact .inl z
  · intro i c x q
    rcases split x with ⟨x, _⟩ | ⟨k, u, hu, hc, _⟩
    · exact Rr.gfrz i c (atA x) q
    · rcases b.own c (inb hu hc) with z | z | ⟨_, e, he, k1, k2⟩
      · obtain ⟨j, d, y, k1, e⟩ := ownsrc z
        have := Rr.gown _ d y
        rw [k1, e] at this
        rcases this with q | q | q
        · cases q
        · cases q
        · exact q.elim .inl fun z => .inr (.inl z)
      · exact (Rr.fresh z).elim .inl fun z => .inr (.inl z)
      · obtain ⟨m, e', y', q1, q2⟩ := src e he
        have fr : e'.1 = .frz := by
          rcases q2 with q2 | q2
          · rw [← q2]; exact k1
          · have : kPar e'.1 = .frz := by rw [← q2]; exact k1
            unfold kPar at this
            by_cases z : e'.1 = .frz
            · exact z
            · rw [if_neg z] at this; cases this
        have := Rr.gfrz _ e' y' fr
        rw [q1, k2] at this
        exact this

def backT (rs : List Rt) (ms : List D) (S : Sg) : Sg := setAll S (rslots rs) ((keepU rs ms).map some)
def callRT (rs : List Rt) (sem : FSem) (ds : List D) (S : Sg) : R D :=
  if ds.length = rs.length then match sem (argsD (rdum rs) ds) with
    | .ok d ms => .ok d (backT rs ms S)
    | .exc c d ms => .exc c d (backT rs ms S)
    | .bad => .bad
  else .bad
def cCallT (rs : List Rt) (fr : Sg → R (List D)) (sem : FSem) : Sg → R D := fun S => (fr S).bind fun ds S1 => if (List.zip rs ds).all (fun p => p.1.isNone || ofD p.2) then callRT rs sem ds S1 else .bad
theorem call_coreT {rs : List Rt} {sem : FSem} {ts : List T} {Q : VK} {S1 : Sg} (Rr : Rel g Γ n (A' ++ ts.map some) σ H) (hn : n ≤ A'.length) (x : NextM n M A A') (hm : ∀ r ∈ rslots rs, r ∈ M) (e : ers n A' = S1) (hnd : (rslots rs).Nodup)
    (hof : ((List.zip rs (ts.map T.er)).all fun p => p.1.isNone || ofD p.2) = true)
    (hk : ∀ (i r : Nat), (rjoin rs)[i]? = some (some r) → ∃ t, ts[i]? = some t ∧ σ[r]? = some (some t.root) ∧ A'[r]? = some none ∧ r < n)
    (h : PostE g n W M Γ A σ Q (callRT rs sem (ts.map T.er) S1)) : spOf g (rs.map Option.isSome) sem (ts.map T.root) H Q (WE W σ) := by
  unfold callRT at h
  by_cases hl : (ts.map T.er).length = rs.length
  · rw [if_pos hl] at h
    have hl' : ts.length = rs.length := by simpa using hl
    have hl2 : ts.length = (rdum rs).length := by rw [hl']; simp [rdum]
    have slots : ∀ r ∈ rslots rs, r < n := fun r hr => by
      obtain ⟨o, ho, e⟩ := List.mem_filterMap.mp hr
      have e : o = some r := e
      subst e
      obtain ⟨j, hj, ej⟩ := List.getElem_of_mem ho
      obtain ⟨_, _, _, _, q⟩ := hk j r (by rw [List.getElem?_eq_getElem hj, ej])
      exact q
    have of2 : ∀ (i r : Nat) t, (rdum rs)[i]? = some (some r) → ts[i]? = some t → ofD t.er = true := fun i r t h1 h2 => by
      unfold rdum at h1
      rw [List.getElem?_map] at h1
      cases q : rs[i]? with
      | none => rw [q] at h1; simp at h1
      | some o =>
        rw [q] at h1
        cases o with
        | none => simp at h1
        | some o =>
          have hz : (List.zip rs (ts.map T.er))[i]? = some (some o, t.er) := by
            rw [List.getElem?_zip_eq_some]
            exact ⟨q, by rw [List.getElem?_map, h2]; rfl⟩
          have := List.all_eq_true.mp hof _ (List.mem_of_getElem? hz)
          simpa using this
    have cok := Rr.callOk hn hl2 of2
    rw [rdum_some] at cok
    refine ⟨argsT (rdum rs) ts, (argsT_root (rdum rs) ts hl2).symm, cok, ?_⟩
    rw [argsT_er]
    have nx : ∀ us : List T, NextM n M A (setAll A' (rslots rs) (us.map some)) := fun us => by
      refine ⟨⟨by rw [setAll_length]; exact x.len, by rw [setAll_drop _ _ _ slots]; exact x.tmp⟩, fun i hi hmi => ?_⟩
      rw [setAll_out _ _ _ _ fun z => hmi (hm i z)]
      exact x.slot i hi hmi
    have es : ∀ us : List T, ers n (setAll A' (rslots rs) ((keepU rs us).map some)) = backT rs (us.map T.er) S1 := fun us => by
      unfold ers backT
      rw [setAll_take _ _ _ slots, setAll_map, List.map_map]
      have : (List.take n A').map (Option.map T.er) = S1 := e
      rw [this, ← keepU_map, List.map_map]
      rfl
    have bk : ∀ {H' : Hp} {t : T} {us : List T}, BackOk g H H' (rs.map Option.isSome) (argsT (rdum rs) ts) t us → Rel g Γ n (setAll A' (rslots rs) ((keepU rs us).map some) ++ [some t]) σ H' := fun {H' t us} b => by
      have hr : us.map T.root = (refs (rs.map Option.isSome) ts).map T.root := by rw [b.root, refs_dum rs ts hl']
      have hul : us.length = (rs.filterMap id).length := by
        have := congrArg List.length hr
        rw [List.length_map, List.length_map, refs_len2 rs ts hl'] at this
        exact this
      refine Rr.back2 hn hl2 hnd slots (keepU_len rs us hul) (fun k i u h1 h2 => ?_) (b.cut (keepU_sub rs us))
      obtain ⟨j, t', q1, q2, q3⟩ := keepU_get rs ts us k i u hl' hr h1 h2
      obtain ⟨v, hv, hs, _⟩ := hk j i q1
      rw [q2] at hv
      cases hv
      rw [hs, q3]
    cases q : sem (argsD (rdum rs) (ts.map T.er)) with
    | bad => rw [q] at h; exact h
    | ok d ms =>
      rw [q] at h
      intro H' t us b et eu
      exact h _ t H' (bk b) (nx _) (by rw [es us, eu]) et
    | exc c d ms =>
      rw [q] at h
      intro H' t us b et eu
      exact h _ t H' (bk b) (nx _).toNext (by rw [es us, eu]) et
  · rw [if_neg hl] at h; exact h.elim
theorem mean_callT {rs : List Rt} {ta : TA} {fr : Sg → R (List D)} {sem : FSem} (ha : MeanC g n W (rjoin rs) M1 ta fr) (hm : ∀ r ∈ rslots rs, r ∈ M1) (hnd : (rslots rs).Nodup) : MeanE g n W M1 (tCallS (spOf g (rs.map Option.isSome) sem) (WE W) ta) (cCallT rs fr sem) := by
  intro Γ A σ H Q Rr cl h
  refine ha Γ A σ H _ Rr cl ?_
  unfold cCallT at h
  cases ea : fr (ers n A) with
  | bad => rw [ea] at h; exact h.elim
  | exc c d S => rw [ea] at h; exact h
  | ok ds S1 =>
    rw [ea] at h
    dsimp only [Lin.R.bind] at h
    intro A1 ts H1 R1 x1 e1 d1 hk
    split at h
    · rename_i hof
      rw [← d1] at h hof
      exact call_coreT R1 (by rw [x1.len]; exact Rr.len) x1 hm e1 hnd hof hk h
    · exact h.elim
end
section
variable {X : Cx} {g : Gc} {W : WX} {M1 : List Nat} {e : Expr} {es : List Expr} {pos p : Pos} {fr : Sg → R (List D)} {rs : List Rt} {x : Str} {ps : List Str} {k : Nat} {sem : FSem}
theorem sd_callT (cx : CxE X W) (F : Df X.prog X.w X.K X.mg X.base g x ps k (rs.map Option.isSome) sem) (hr : Room k X.A) (ha : QC X g W M1 (rjoin rs) (e :: es) fr) (hM : ∀ r ∈ rslots rs, r ∈ M1 := by decide) (hnd : (rslots rs).Nodup := by decide) (hg : Gl X x := by rfl) (hdb : (x == ("__debug__" : Str)) = false := by decide)
    (he : starEach (e :: es) X.env = (false, eval e X.env) :: starEach es X.env := by rfl) (hpl : (backTo pos (starEach es X.env)).any (·.1) = false := by rfl) : QE X g W M1 (.Call (.Name x p) (e :: es) [] pos) (cCallT rs fr sem) :=
  let ⟨_, _, h1, h2, h3, h4⟩ := F; qE (pe_callS h1 hr hg h2 h3 h4 cx.at ha hdb he hpl) (mean_callT mn_C hM hnd)
end
section
variable {E : EX} {S : Sg} {Q : D → Sg → Prop} {fr : Sg → R (List D)}
theorem ok_callT {rs : List Rt} {sem : FSem} : OkE E (cCallT rs fr sem S) Q = OkE E (fr S) fun ds S1 => if (List.zip rs ds).all (fun p => p.1.isNone || ofD p.2) = true ∧ ds.length = rs.length then OkCE (fun c d ms => E c d (backT rs ms S1)) (sem (argsD (rdum rs) ds)) fun d ms => Q d (backT rs ms S1) else False := by
  unfold cCallT
  rw [ok_bind]
  refine ok_cg fun ds S1 => ?_
  by_cases h1 : (List.zip rs ds).all (fun p => p.1.isNone || ofD p.2) = true
  · rw [if_pos h1]
    unfold callRT
    by_cases h2 : ds.length = rs.length
    · rw [if_pos h2, if_pos ⟨h1, h2⟩]
      cases q : sem (argsD (rdum rs) ds) with
      | bad => rw [okC_def, ok_def]; rfl
      | ok d ms => rw [okC_def, ok_def]; rfl
      | exc c d ms => rw [okC_def, ok_def]; rfl
    · rw [if_neg h2, if_neg fun z => h2 z.2, ok_bad]
  · rw [if_neg h1, if_neg fun z => h1 z.1, ok_bad]
end
end Lin
end
section
namespace Lin
open PySem L2
/-! ### plain forms: paths x[i] -/
section
variable {E : EX} {S : Sg} {Q : D → Sg → Prop} {QP : List Nat → Sg → Prop} {QF : Fl → Sg → Prop} {fb fe : Sg → R D} {fp : Sg → R (List Nat)} {fr : Sg → R (List D)} {M2 : List Nat} {r : Nat} {α : Type} {g : α → P} {xs : List α} {k c : Kd}
theorem nodeAt_b {p : List Nat} : nodeAt S r p = (S[r]?).bind fun o => o.bind fun d => d.at p := by
  unfold nodeAt
  rcases S[r]? with _ | _ | d <;> rfl
theorem nodeOk_b {okS : Sh → Bool} {p : List Nat} : nodeOk okS S r p = (nodeAt S r p).elim false (shOk okS) := by
  unfold nodeOk
  rcases nodeAt S r p with _ | d
  · rfl
  · cases d <;> rfl
theorem ok_pix : OkE E (pIx r M2 fp fb S) QP = OkE E (fp S) fun p S1 => if r ∈ M2 then False else OkE E (fb S1) fun di S2 => So (nodeAt S2 r p) fun nd => So (ixPos nd di) fun j => QP (p ++ [j]) S2 := by
  unfold pIx
  rw [ok_bind]
  refine ok_cg fun p S1 => ?_
  by_cases h : r ∈ M2
  · rw [if_pos h, if_pos h, ok_bad]
  · rw [if_neg h, if_neg h, ok_bind]
    refine ok_cg fun di S2 => ?_
    cases e : nodeAt S2 r p with
    | none => dsimp only; rw [so_none, ok_bad]
    | some nd =>
      dsimp only
      rw [so_some]
      cases e2 : ixPos nd di with
      | none => dsimp only; rw [so_none, ok_bad]
      | some j => dsimp only; rw [so_some, ok_ok]
theorem ok_mutP {okS : Sh → Bool} {op : Sh → List D → List D → Option (Sh × List D × D)} : OkE E (cMutM okS r M2 fp fr op S) Q = OkE E (fp S) fun p S1 => if r ∈ M2 ∨ nodeOk okS S1 r p = false then False else OkE E (fr S1) fun us S2 =>
    if us.all (fun d => !hasBor r d) = true then So (nodeAt (S2.map (killD r)) r p) fun d => MutAt op d us fun d' res => So ((S2.map (killD r))[r]?) fun o => So o fun d0 => Q res ((S2.map (killD r)).set r (some (d0.put p d'))) else False := by
  rw [ok_mutM]
  refine ok_cg fun p S1 => ?_
  by_cases c1 : r ∈ M2 ∨ nodeOk okS S1 r p = false
  · rw [if_pos c1, if_pos c1]
  · rw [if_neg c1, if_neg c1]
    refine ok_cg fun us S2 => ?_
    by_cases c2 : us.all (fun d => !hasBor r d) = true
    · rw [if_pos c2, if_pos c2]
      refine so_cg fun d => ?_
      cases d with
      | im v => rfl
      | nd k s ds => cases k <;> rfl
    · rw [if_neg c2, if_neg c2]
theorem ok_setP {op : Sh → List D → D → D → Option (Sh × List D)} : OkE E (cSetAt r M2 fe fp fb op S) QF = OkE E (fe S) fun v S1 => if cleanD M2 v = true ∧ hasBor r v = false then OkE E (fp S1) fun p S2 => if r ∈ M2 then False else OkE E (fb S2) fun i S3 =>
    if hasBor r i = false then So (nodeAt (S3.map (killD r)) r p) fun d => Lin.SetAt op d i v fun d' => So ((S3.map (killD r))[r]?) fun o => So o fun d0 => QF .nx ((S3.map (killD r)).set r (some (d0.put p d'))) else False else False := by
  rw [ok_setAt]
  refine ok_cg fun v S1 => ?_
  by_cases c1 : cleanD M2 v = true ∧ hasBor r v = false
  · rw [if_pos c1, if_pos c1]
    refine ok_cg fun p S2 => ?_
    by_cases c2 : r ∈ M2
    · rw [if_pos c2, if_pos c2]
    · rw [if_neg c2, if_neg c2]
      refine ok_cg fun i S3 => ?_
      by_cases c3 : hasBor r i = false
      · rw [if_pos c3, if_pos c3]
        refine so_cg fun d => ?_
        cases d with
        | im v => rfl
        | nd k s ds => cases k <;> rfl
      · rw [if_neg c3, if_neg c3]
  · rw [if_neg c1, if_neg c1]
theorem at_0 (d : D) : d.at [] = some d := by cases d <;> rfl
theorem at_en1 {j : Nat} {x : α} (h : xs[j]? = some x) : (en k c (pL g xs)).at [j] = some (en c c (g x)) := by
  rw [en_pL]
  have e : (xs.map fun x => en c c (g x))[j]? = some (en c c (g x)) := by rw [List.getElem?_map, h]; rfl
  simp only [D.at, e, at_0]
theorem put_en1 {j : Nat} {y : α} (h : j < xs.length) : (en k c (pL g xs)).put [j] (en c c (g y)) = en k c (pL g (xs.set j y)) := by
  rw [en_pL, en_pL]
  have e : (xs.map fun x => en c c (g x))[j]? = some (en c c (g xs[j])) := by rw [List.getElem?_map, List.getElem?_eq_getElem h]; rfl
  simp only [D.put, e, List.map_set]
theorem ixPos_en {i : Nat} (h : i < xs.length) : ixPos (en k c (pL g xs)) (I (i : Int)) = some i := by
  rw [en_pL]
  simp only [ixPos, ixN, List.length_map]
  rw [if_pos (by omega), if_pos (by omega)]
  simp
theorem put_en1L {xs : List (List Nat)} {j : Nat} {y : List Nat} (h : j < xs.length) : (en k .own (pL (pL pN) xs)).put [j] (en .own .frz (pL pN y)) = en k .own (pL (pL pN) (xs.set j y)) := by
  rw [← en_LNo]; exact put_en1 h
theorem at_en1L {xs : List (List Nat)} {j : Nat} {y : List Nat} (h : xs[j]? = some y) : (en k .own (pL (pL pN) xs)).at [j] = some (en .own .frz (pL pN y)) := by
  rw [at_en1 h, en_LNo]
end
end Lin
end
section
namespace Lin
open PySem PyProof.Rows L2
/-! ### {k: v}, k a tuple of ints and texts -/
def tDispT (trs : List (TE × TE)) : TE := fun σ H Q => ∀ p, H p = none → tPairs trs σ (upd H p (.dT [])) fun ps H2 => H2 p = some (.dT []) ∧ ∃ (k : List Key) (b : Addr) (v : V), ps = [(.ref b, v)] ∧ H2 b = some (.tup (k.map kV)) ∧ Q (.ref p) (upd H2 p (.dT [(k, v)]))
theorem pe_dispT {X : Cx} {pos : Pos} {keys : List (Option Expr)} {values : List Expr} {trs : List (TE × TE)} (hu : X.A.units + 1 < cLine) (h : PPs X pos keys values trs) (hall : keys.all (·.isSome) = true) (hl : keys.length = values.length) (h0 : keys ≠ [])
    (h15 : keys.length ≤ 15) : PE X (.Dict keys values pos) (tDispT trs) := by
  refine ⟨fun pins s σ H Q I q => ?_⟩
  have hn := I.hok.fresh (Nat.le_refl s.heap.objs.size)
  have I1 := I.laid (a := s.heap.objs.size) (o := .dT []) (h' := s.heap.push { cls := .type "dict", data := .dict #[] }) (t' := s.toks) (fun _ _ q => Heap.get?_push_of_some _ q) (Nat.le_refl _) (dt_empty s.heap I.big)
  refine wpAny_Dict_any hall hl h0 h15 (thn (h.run pins _ σ _ _ I1 (q _ hn)) fun ws s2 ⟨ps, H2, I2, rel, e, k, b, v, ep, eb, q2⟩ => ?_)
  subst ep
  cases rel with
  | @cons p1 w1 _ _ h1 t1 =>
    cases t1
    obtain ⟨u1, u2⟩ := w1
    obtain ⟨h1, h2⟩ := h1
    obtain rfl : u1 = Value.ref b := h1
    obtain ⟨z, hd, xs, rel0, dd⟩ := dt_of I2.hok e
    cases rel0
    unfold storeAll
    rw [List.forIn_cons]
    have hu2 : (tupleKind (mixKind X.prog X.w)).room X.A := show X.A.units < cLine by omega
    refine wpAny_bind (wpAny_bind (wpAny_dictSet_heap (hsz := Nat.zero_le _) (knd := tupleKind (mixKind X.prog X.w)) hu2 (key_of I2.hok eb) dd fun h' dd' hs => wpAny_pure ?_))
    dsimp only
    rw [List.forIn_nil]
    refine wpAny_pure ⟨.ref s.heap.objs.size, _, ?_, rfl, q2⟩
    obtain ⟨o', es, ep, hq, k2, k3, k4, _, k5⟩ := dd'
    refine d_write I2 (by rw [e]; exact True.intro) hs ⟨o', hq⟩ ⟨by rw [sizeLine_eq]; show 1 ≤ 16777216; decide, hd, _, ((show KT H2 [] [] from .nil).put k eb h2).keeps fun c ys ec => ?_, o', es, ep, hq, k2, k3, k4, k5⟩
    rw [upd_ne (ne_of ec e (fun z => nomatch z))]
    exact ec
def dispTD (ds : List D) : Option D := match ds with
  | [dk, dv] => (keyT dk).map fun k => .nd .own (.dtu [k]) [dv]
  | _ => none
def cDispT (fr : Sg → R (List D)) : Sg → R D := fun S => (fr S).bind fun ds S1 => R.lift (dispTD ds) S1
theorem keyT_nd {t : T} {k : List Key} (h : keyT t.er = some k) : ∃ a m dx ts, t = .nd a m .tup dx ts ∧ ts.map T.root = k.map kV := by
  unfold keyT at h
  split at h
  · rename_i m ds e
    obtain ⟨a, dx, ts, rfl, h1⟩ := er_nd e
    exact ⟨a, _, dx, ts, rfl, keyTs_root ts k (by rw [h1]; exact h)⟩
  · cases h
section
variable {g : Gc} {n : Nat} {W : WX} {M1 : List Nat}
theorem mean_dispT {trs : List (TE × TE)} {fr : Sg → R (List D)} (hr : MeanA g n W M1 (taPairs trs) fr) : MeanE g n W M1 (tDispT trs) (cDispT fr) := by
  intro Γ A σ H Q Rr cl h p hp
  have R0 : Rel g Γ n (A ++ [some (.nd p .own (.dtu []) 0 [])]) σ (upd H p (.dT [])) :=
    (show Rel g Γ n (A ++ []) σ H by rw [List.append_nil]; exact Rr).node (ts := []) Rr.len hp (.dtu []) 0 (fun c hc => nomatch hc) (List.nil_sublist _)
  have cl0 : Clean g n M1 (A ++ [some (.nd p .own (.dtu []) 0 [])]) := cl.snoc (by unfold cleanD; rw [List.all_eq_true]; intro r _; simp [T.er, erL, hasBor, D.kinds, kindsL])
  have key := hr Γ _ σ _ (fun vs H2 => H2 p = some (.dT []) ∧ ∃ (k : List Key) (b : Addr) (v : V), unfl vs = [(.ref b, v)] ∧ H2 b = some (.tup (k.map kV)) ∧ Q (.ref p) (upd H2 p (.dT [(k, v)]))) R0 cl0 (by
    rw [ers_append Rr.len]
    unfold cDispT at h
    cases ea : fr (ers n A) with
    | bad => rw [ea] at h; exact h.elim
    | exc c d S =>
      rw [ea] at h
      intro A2 t2 H2 R2 x2 e2 d2
      obtain ⟨y, z⟩ := x2.left Rr.len
      have n3 : n ≤ (A2.take A.length).length := by rw [y.len]; exact Rr.len
      rw [z] at R2 e2
      exact h _ t2 H2 (R2.mid n3) y (by rw [ers_append n3] at e2; exact e2) d2
    | ok ds S1 =>
      rw [ea] at h
      dsimp only [Lin.R.bind] at h
      intro A2 ts H2 R2 x2 e2 d2
      obtain ⟨y, z⟩ := x2.left Rr.len
      have n3 : n ≤ (A2.take A.length).length := by rw [y.len]; exact Rr.len
      rw [z] at R2 e2
      rw [ers_append n3] at e2
      cases ed : dispTD ds with
      | none => rw [ed] at h; exact h.elim
      | some d =>
        rw [ed] at h
        have hx : ∃ tk tv k, ts = [tk, tv] ∧ keyT tk.er = some k ∧ d = .nd .own (.dtu [k]) [tv.er] := by
          unfold dispTD at ed
          split at ed
          · rename_i dk dv
            match ts, d2 with
            | [tk, tv], d2 =>
              simp only [List.map_cons, List.map_nil, List.cons.injEq, and_true] at d2
              obtain ⟨rfl, rfl⟩ := d2
              cases ek : keyT tk.er with
              | none => rw [ek] at ed; cases ed
              | some k => rw [ek] at ed; cases ed; exact ⟨tk, tv, k, rfl, ek, rfl⟩
          · cases ed
        obtain ⟨tk, tv, k, rfl, ek, rfl⟩ := hx
        obtain ⟨b, m, dx, us, rfl, hus⟩ := keyT_nd ek
        have hold : H2 p = some (.dT []) := R2.hold (A2.take A.length).length (.own, p, .dT []) ⟨.nd p .own (.dtu []) 0 [], by
          rw [List.append_assoc, List.getElem?_append_right (Nat.le_refl _), Nat.sub_self]; rfl, by rw [T.cells]; exact List.mem_cons_self⟩
        have hkey : H2 b = some (.tup (k.map kV)) := by
          have := R2.hold ((A2.take A.length).length + 1) (m, b, .tup (us.map T.root)) ⟨.nd b m .tup dx us, by
            rw [List.getElem?_append_right (by rw [List.length_append]; exact Nat.le_refl _)]
            simp, by rw [T.cells]; exact List.mem_cons_self⟩
          rw [hus] at this
          exact this
        refine ⟨hold, k, b, tv.root, rfl, hkey, ?_⟩
        have hb : ∀ i c, CellAt g (A2.take A.length ++ [some (T.nd p .own (.dtu []) 0 [])] ++ [T.nd b m .tup dx us, tv].map some) i c → c.1 ≠ .bor (A2.take A.length).length := fun i c x q => by have := R2.lab i c _ x q; omega
        have e : (A2.take A.length ++ [some (T.nd p .own (.dtu []) 0 [])])[(A2.take A.length).length]? = some (some (.nd p .own (.dtu []) 0 [])) := by
          rw [List.getElem?_append_right (Nat.le_refl _), Nat.sub_self]; rfl
        have := R2.mutAt (r := (A2.take A.length).length) (p := []) (s' := .dtu [k]) (ts' := [tv]) (res := .im .non) (dropped := (T.nd b m .tup dx us).cells g) (by rw [List.length_append]; omega) e hb rfl (by
          simp only [cellsL, T.cells, List.append_nil, List.nil_append]
          exact List.perm_append_comm)
        have R3 := this.drop (A := (A2.take A.length ++ [some (T.nd p .own (.dtu []) 0 [])]).set (A2.take A.length).length (some ((T.nd p .own (.dtu []) 0 []).put [] (.nd p .own (.dtu [k]) 0 [tv])))) (by simp only [List.length_set, List.length_append]; omega)
        rw [List.set_append_right _ _ (Nat.le_refl _), Nat.sub_self] at R3
        exact h _ (.nd p .own (.dtu [k]) 0 [tv]) _ R3 y e2 (by rw [T.er, erL_eq]; rfl))
  unfold taPairs at key
  simp only [unfl_flat] at key
  exact key
end
section
variable {X : Cx} {g : Gc} {W : WX} {M1 : List Nat} {pos : Pos} {fr : Sg → R (List D)}
theorem sd_dispT (cx : CxE X W) {ks : List (Option Expr)} {vs : List Expr} (h : QD X g W M1 pos ks vs fr) (hall : ks.all (·.isSome) = true := by rfl) (hl : ks.length = vs.length := by rfl) (h0 : ks ≠ [] := by exact List.cons_ne_nil _ _) (h15 : ks.length ≤ 15 := by decide) : QE X g W M1 (.Dict ks vs pos) (cDispT fr) :=
  let ⟨_, h1, h2⟩ := h; qE (pe_dispT (by have := cx.un; omega) h1 hall hl h0 h15) (mean_dispT h2)
end
/-! ### what is walked: a list or a tuple -/
def iLT (K : PySem.W.Frag) (tl : TE) : TI := fun σ H R => tl σ H fun x H1 => ∃ a, x = .ref a ∧ (((∃ xs, SqL K H1 a xs) ∧ R (Itl K a) H1) ∨ ((∃ xs, SqT K H1 a xs) ∧ R (Itt K a) H1))
theorem pi_lt {X : Cx} {tg l : Expr} {tl : TE} (hl : PE X l tl) : PI X tg l (iLT X.K tl) := by
  refine ⟨fun pins s σ H R I h => ?_⟩
  refine thn (hl.run pins s σ H _ I h) fun v s1 ⟨x, H1, I1, r1, q1⟩ => ?_
  obtain ⟨a, e, ⟨⟨xs, hq⟩, q⟩ | ⟨⟨xs, hq⟩, q⟩⟩ := q1
  · subst e
    cases r1
    obtain ⟨its, rv, p, hz⟩ := I1.list hq
    refine wpAny_pyIter_list p.isList ?_
    refine ⟨s1.heap.objs.size, [s1.heap.objs.size], _, _, H1, rfl, I1.kept (t' := s1.toks) fun b o e => Heap.get?_push_of_some _ e, turn_list a _, ⟨_, Heap.get?_push_size _ rfl, rfl, rfl⟩, fun b hb => ?_, q⟩
    have e : b = s1.heap.objs.size := by simpa using hb
    subst e
    exact I1.fpOk (Nat.le_refl _) (I1.hok.fresh (Nat.le_refl _))
  · subst e
    cases r1
    obtain ⟨its, rv, p, hz⟩ := I1.tuple hq
    refine wpAny_pyIter_tuple (show s1.heap.IsTuple a its.toArray from p) ?_
    refine ⟨s1.heap.objs.size, [s1.heap.objs.size], _, _, H1, rfl, I1.kept (t' := s1.toks) fun b o e => Heap.get?_push_of_some _ e, turn_tuple a _, ⟨_, Heap.get?_push_size _ rfl, rfl, rfl⟩, fun b hb => ?_, q⟩
    have e : b = s1.heap.objs.size := by simpa using hb
    subst e
    exact I1.fpOk (Nat.le_refl _) (I1.hok.fresh (Nat.le_refl _))
def itA (d : D) : Option (D × List D) := match d with
  | .nd k .lst ds => some (D.mk kFz (.nd k .lst ds), ds.map (D.mk kFz))
  | .nd k .tup ds => some (D.mk kFz (.nd k .tup ds), ds.map (D.mk kFz))
  | _ => none
def iSeqA (fa : Sg → R D) : Sg → R (D × List D) := fun S => (fa S).bind fun d S1 => R.lift (itA d) S1
section
variable {g : Gc} {n : Nat} {W : WX} {M1 : List Nat}
theorem meani_lt {K : PySem.W.Frag} {ta : TE} {fa : Sg → R D} (ha : MeanE g n W M1 ta fa) : MeanI g n W M1 (iLT K ta) (iSeqA fa) := by
  intro Γ A σ H Q Rr cl h
  refine ha Γ A σ H _ Rr cl ?_
  unfold iSeqA at h
  cases ea : fa (ers n A) with
  | bad => rw [ea] at h; exact h.elim
  | exc c d S => rw [ea] at h; exact h
  | ok d S1 =>
    rw [ea] at h
    dsimp only [Lin.R.bind] at h
    intro A1 t1 H1 R1 x1 e1 d1
    have n1 : n ≤ A1.length := by rw [x1.len]; exact Rr.len
    unfold itA at h
    split at h
    · rename_i k ds
      · skip
        obtain ⟨a, dx, ts, rfl, h1⟩ := er_nd d1
        refine ⟨a, rfl, .inl ⟨⟨_, SqL.of R1.top1⟩, ?_⟩⟩
        refine h A1 ((T.nd a k .lst dx ts).mk kFz) (ts.map (T.mk kFz)) (Itl K a) H1 (R1.freeze n1) x1 e1 (by rw [er_mk, d1]) (by rw [← h1]; simp [er_mk]) (fun u hu c hc => cells_child_mk hu hc) fun Hx hx => ?_
        have ha : Hx a = some (.lst (ts.map T.root)) := by
          have := hx ((kFz k), a, ho g .lst dx ((mkL kFz ts).map T.root)) (by rw [T.mk, T.cells]; exact List.mem_cons_self)
          rw [roots_mk] at this
          exact this
        have inj : ∀ xs, SqL K Hx a xs → xs = xs := fun _ _ => rfl
        refine ⟨fun i u hu => ?_, ⟨_, SqL.of ha, by simp⟩⟩
        rw [List.getElem?_map] at hu
        cases q : ts[i]? with
        | none => rw [q] at hu; cases hu
        | some v =>
          rw [q] at hu
          have hu : v.mk kFz = u := by simpa using hu
          have hv : (ts.map T.root)[i]? = some v.root := by rw [List.getElem?_map, q]; rfl
          refine ⟨⟨_, _, SqL.of ha, hv⟩, fun x H' y => ?_⟩
          obtain ⟨e, y⟩ := y
          refine ⟨?_, e⟩
          have := y _ (SqL.of ha)
          rw [hv] at this
          rw [← hu, root_mk]
          exact (Option.some.inj this).symm
    · rename_i k ds
      · skip
        obtain ⟨a, dx, ts, rfl, h1⟩ := er_nd d1
        refine ⟨a, rfl, .inr ⟨⟨_, SqT.of R1.top1⟩, ?_⟩⟩
        refine h A1 ((T.nd a k .tup dx ts).mk kFz) (ts.map (T.mk kFz)) (Itt K a) H1 (R1.freeze n1) x1 e1 (by rw [er_mk, d1]) (by rw [← h1]; simp [er_mk]) (fun u hu c hc => cells_child_mk hu hc) fun Hx hx => ?_
        have ha : Hx a = some (.tup (ts.map T.root)) := by
          have := hx ((kFz k), a, ho g .tup dx ((mkL kFz ts).map T.root)) (by rw [T.mk, T.cells]; exact List.mem_cons_self)
          rw [roots_mk] at this
          exact this
        refine ⟨fun i u hu => ?_, ⟨_, SqT.of ha, by simp⟩⟩
        rw [List.getElem?_map] at hu
        cases q : ts[i]? with
        | none => rw [q] at hu; cases hu
        | some v =>
          rw [q] at hu
          have hu : v.mk kFz = u := by simpa using hu
          have hv : (ts.map T.root)[i]? = some v.root := by rw [List.getElem?_map, q]; rfl
          refine ⟨⟨_, _, SqT.of ha, hv⟩, fun x H' y => ?_⟩
          obtain ⟨e, y⟩ := y
          refine ⟨?_, e⟩
          have := y _ (SqT.of ha)
          rw [hv] at this
          rw [← hu, root_mk]
          exact (Option.some.inj this).symm
    · exact h.elim
end
section
variable {X : Cx} {g : Gc} {W : WX} {M1 : List Nat} {tg a : Expr} {fa : Sg → R D}
theorem sdi_lt (ha : QE X g W M1 a fa) : QI X g W M1 tg a (iSeqA fa) := qI (pi_lt ha) (meani_lt mn_E)
end
section
variable {E : EX} {S : Sg} {Q : D → Sg → Prop} {fa : Sg → R D} {fr : Sg → R (List D)} {α : Type} {g : α → P} {xs : List α} {k c : Kd}
theorem ok_iseqA {Q : D × List D → Sg → Prop} : OkE E (iSeqA fa S) Q = OkE E (fa S) fun d S1 => So (itA d) fun p => Q p S1 := by
  unfold iSeqA
  rw [ok_bind]
  exact ok_cg fun ds S1 => ok_lift
theorem itA_L : itA (en k c (pL g xs)) = some (en (kFz k) (kFz c) (pL g xs), xs.map fun x => en (kFz c) (kFz c) (g x)) := by
  have := it_en (k := k) (c := c) (g := g) (xs := xs)
  rw [en_pL] at this ⊢
  simpa [itD, itA] using this
theorem itA_T {xs : List Nat} : itA (en k c (pT (xs.map pN))) = some (en (kFz k) (kFz c) (pT (xs.map pN)), xs.map fun x : Nat => I (x : Int)) := by
  have e : (en k c (pT (xs.map pN))).mk kFz = en (kFz k) (kFz c) (pT (xs.map pN)) := en_mk _ _ _ _
  rw [en_pT] at e ⊢
  rw [List.map_map] at e ⊢
  simp only [itA, e, List.map_map]
  rfl
theorem ok_dispT : OkE E (cDispT fr S) Q = OkE E (fr S) fun ds S1 => So (dispTD ds) fun d => Q d S1 := by
  unfold cDispT
  rw [ok_bind]
  exact ok_cg fun ds S1 => ok_lift
end
end Lin
end
section
namespace Lin
open PySem L2
/-! ### a temp is frozen -/
def cFz (fa : Sg → R D) : Sg → R D := fun S => (fa S).bind fun d S1 => .ok (d.mk kFz) S1
section
variable {g : Gc} {n : Nat} {W : WX} {M1 : List Nat}
theorem mean_fz {ta : TE} {fa : Sg → R D} (ha : MeanE g n W M1 ta fa) : MeanE g n W M1 ta (cFz fa) := by
  intro Γ A σ H Q Rr cl h
  refine ha Γ A σ H _ Rr cl ?_
  unfold cFz at h
  cases ea : fa (ers n A) with
  | bad => rw [ea] at h; exact h.elim
  | exc c d S => rw [ea] at h; exact h
  | ok da S1 =>
    rw [ea] at h
    dsimp only [Lin.R.bind] at h
    intro A1 t1 H1 R1 x1 e1 d1
    have := h A1 (t1.mk kFz) H1 (R1.freeze (by rw [x1.len]; exact Rr.len)) x1 e1 (by rw [er_mk, d1])
    rw [root_mk] at this
    exact this
end
section
variable {X : Cx} {g : Gc} {W : WX} {M1 : List Nat} {a : Expr} {fa : Sg → R D}
theorem sd_fz (ha : QE X g W M1 a fa) : QE X g W M1 a (cFz fa) := qE ha (mean_fz mn_E)
end
section
variable {E : EX} {S : Sg} {Q : D → Sg → Prop} {fa : Sg → R D}
theorem ok_fz : OkE E (cFz fa S) Q = OkE E (fa S) fun d S1 => Q (d.mk kFz) S1 := by
  unfold cFz
  rw [ok_bind]
  exact ok_cg fun d S1 => ok_ok
end
theorem backT_nil (ms : List D) (S : Sg) : backT [] ms S = S := by
  unfold backT rslots rjoin
  cases keepU [] ms <;> rfl
theorem backT_val (rs : List Rt) (ms : List D) (S : Sg) : backT (none :: rs) ms S = backT rs ms S := by
  simp [backT, rslots, rjoin, keepU]
theorem backT_tmp (rs : List Rt) (m : D) (ms : List D) (S : Sg) : backT (some none :: rs) (m :: ms) S = backT rs ms S := by
  simp [backT, rslots, rjoin, keepU]
theorem backT_ref (rs : List Rt) (r : Nat) (m : D) (ms : List D) (S : Sg) : backT (some (some r) :: rs) (m :: ms) S = backT rs ms (S.set r (some m)) := by
  simp [backT, rslots, rjoin, keepU, setAll]
theorem rdum_nil : rdum [] = [] := rfl
theorem rdum_none (rs : List Rt) : rdum (none :: rs) = none :: rdum rs := rfl
theorem rdum_cons (o : Option Nat) (rs : List Rt) : rdum (some o :: rs) = some 0 :: rdum rs := rfl
end Lin
end
section
namespace Law
open PySem L2 Lin
def fuel : Nat := 100000
def mt_NoClass : Nat → Option Bool := fun c => if c = 100 then some true else none
theorem mt_one_NoClass (c : Nat) (h : mt_NoClass c = some true) : c = 100 := by
  unfold mt_NoClass at h
  (repeat' split at h) <;> simp_all
theorem mtf_NoClass {K : PySem.W.Frag} {g : Gc} (x100 : PySem.W.exmOne K (.ref (g.cl 100)) (.ref (g.cl 100)) = some true) : ∀ c b, mt_NoClass c = some b → PySem.W.exmOne K (.ref (g.cl c)) (.ref (g.cl 100)) = some b := by
  intro c b h
  unfold mt_NoClass at h
  repeat' split at h
  all_goals first | (cases h; done) | (rename_i e; subst e; cases h; assumption)
noncomputable def b__law_bag (scA : Option Addr) (scN : List Int) : Sg → R Fl := cRet (cMany (cCons [] (cMany (cCons [] (cVar 0) (cNil)) (bListS scA scN)) (cCons [] (cLit (.int 0)) (cCons [] (cLit (.int 0)) (cCons [] (cLit (.int 17)) (cCons [] (cLit (.int 0)) (cNil)))))) dLst)
noncomputable def m__law_bag (scA : Option Addr) (scN : List Int) : FSem := semOf 1 [false] (b__law_bag scA scN)
noncomputable def b__law_draw : Sg → R Fl := cSeq (cSetAt 0 [] (cTwo [] (cTwo [] (cVar 0) (cLit (.int 4)) oIx) (cLit (.int 1)) oAdd) (pVar 0) (cLit (.int 4)) oSet) (cSeq (cIf (cAnd (cTest (cTwo [] (cTwo [] (cVar 0) (cLit (.int 2)) oIx) (cLit (.int 0)) oEq) dBool) (cTest (cTwo [] (cTwo [] (cVar 0) (cLit (.int 1)) oIx) (cMany (cCons [] (cTwo [] (cVar 0) (cLit (.int 0)) oIx) (cNil)) (bLen)) oLt) dBool)) (cSeq (cAsg (gSet true 2) (cTwo [] (cTwo [] (cVar 0) (cLit (.int 0)) oIx) (cTwo [] (cVar 0) (cLit (.int 1)) oIx) oIx)) (cSeq (cSetAt 0 [] (cTwo [] (cTwo [] (cVar 0) (cLit (.int 1)) oIx) (cLit (.int 1)) oAdd) (pVar 0) (cLit (.int 1)) oSet) (cSeq (cSetAt 0 [] (cTwo [] (cTwo [] (cTwo [] (cLit (.int 2)) (cMany (cCons [] (cVar 2) (cNil)) (bAbs)) oMul) (cMany (cCons [] (cTwo [] (cVar 2) (cLit (.int 0)) oLt) (cNil)) (immV vToInt)) oAdd) (cMany (cCons [] (cTwo [] (cMany (cCons [] (cVar 2) (cNil)) (bAbs)) (cTwo [] (cLit (.int 10)) (cLit (.int 18)) oPow) oGe) (cNil)) (immV vToInt)) oMul) (pVar 0) (cLit (.int 2)) oSet) (cSetAt 0 [] (cTwo [] (cMany (cCons [] (cTwo [] (cTwo [] (cTwo [] (cTwo [] (cVar 0) (cLit (.int 3)) oIx) (cLit (.int 48271)) oMul) (cTwo [] (cVar 2) (cLit (.int 69621)) oMul) oAdd) (cLit (.int 11)) oAdd) (cNil)) (immV vToInt)) (cLit (.int 2147483647)) oMod) (pVar 0) (cLit (.int 3)) oSet)))) (cNext)) (cSeq (cAsg (gSet true 3) (cTwo [] (cMany (cCons [] (cTwo [] (cVar 0) (cLit (.int 2)) oIx) (cNil)) (immV vToInt)) (cVar 1) oMod)) (cSeq (cIf (cTest (cTwo [] (cTwo [] (cVar 0) (cLit (.int 2)) oIx) (cLit (.int 0)) oGt) dBool) (cSeq (cSetAt 0 [] (cTwo [] (cTwo [] (cVar 0) (cLit (.int 2)) oIx) (cVar 1) oDiv) (pVar 0) (cLit (.int 2)) oSet) (cRet (cVar 3))) (cNext)) (cSeq (cAsg (gSet true 4) (cTwo [] (cMany (cCons [] (cTwo [] (cTwo [] (cVar 0) (cLit (.int 3)) oIx) (cTwo [] (cTwo [] (cVar 0) (cLit (.int 4)) oIx) (cLit (.int 40692)) oMul) oAdd) (cNil)) (immV vToInt)) (cLit (.int 2147483647)) oMod)) (cSeq (cAsg (gSet true 4) (cTwo [] (cMany (cCons [] (cTwo [] (cTwo [] (cTwo [] (cVar 4) (cLit (.int 3)) oPow) (cTwo [] (cTwo [] (cVar 0) (cLit (.int 4)) oIx) (cLit (.int 16807)) oMul) oAdd) (cLit (.int 7)) oAdd) (cNil)) (immV vToInt)) (cLit (.int 2147483629)) oMod)) (cRet (cTwo [] (cTwo [] (cTwo [] (cMany (cCons [] (cTwo [] (cVar 4) (cLit (.int 2)) oPow) (cNil)) (immV vToInt)) (cLit (.int 2147483587)) oMod) (cLit (.int 8)) oDiv) (cVar 1) oMod)))))))
noncomputable def m__law_draw : FSem := semOf 5 [true, false] (b__law_draw)
noncomputable def b__law_scale : Sg → R Fl := cSeq (cAsg (gSet true 3) (cTwo [0] (cLit (.int 1)) (cCall [some 0, none] (cRefs 0 (cCons [] (cVar 1) (cNil))) m__law_draw) oAdd)) (cSeq (cAsg (gSet true 4) (cTwo [0] (cLit (.int 1)) (cCall [some 0, none] (cRefs 0 (cCons [] (cVar 2) (cNil))) m__law_draw) oAdd)) (cSeq (cAsg (gSet true 5) (cTwo [0] (cMany (cCons [] (cLit (.int 3)) (cCons [] (cLit (.int 50)) (cCons [] (cLit (.int 1000001)) (cNil)))) dLst) (cCall [some 0, none] (cRefs 0 (cCons [] (cLit (.int 3)) (cNil))) m__law_draw) oIx)) (cSeq (cAsg (gSet false 6) (cLc [7] [0] (gSet true 7) (iRng1F (cCons [] (cVar 3) (cNil))) (cYes) (cCall [some 0, none] (cRefs 0 (cCons [] (cVar 5) (cNil))) m__law_draw))) (cSeq (cAsg (gSet false 8) (cMany (cNil) dLst)) (cSeq (cFor [0, 10, 21, 0, 10, 21, 8] (gSet true 7) (iRng1F (cCons [] (cVar 3) (cNil))) (cSeq (cAsg (gSet true 9) (cLc [10] [0] (gSet true 10) (iRng1F (cCons [] (cVar 4) (cNil))) (cYes) (cCall [some 0, none] (cRefs 0 (cCons [] (cVar 3) (cNil))) m__law_draw))) (cSeq (cIf (cTest (cTwo [] (cCall [some 0, none] (cRefs 0 (cCons [] (cLit (.int 3)) (cNil))) m__law_draw) (cLit (.int 0)) oEq) dBool) (cAsg (gSet true 9) (cTwo [10] (cMany (cCons [] (cMany (cCons [] (cTwo [] (cVar 7) (cLit (.int 1)) oSub) (cCons [] (cLit (.int 0)) (cNil))) (bMax)) (cNil)) dLst) (cLc [10] [] (gSet true 10) (iRng2F (cCons [] (cLit (.int 1)) (cCons [] (cVar 4) (cNil)))) (cYes) (cMany (cCons [] (cTwo [] (cVar 7) (cVar 10) oAdd) (cCons [] (cTwo [] (cVar 3) (cLit (.int 1)) oSub) (cNil))) (bMin))) oAdd)) (cNext)) (cExpr (cMutM isLst 8 [] (pVar 8) (cCons [] (cVar 9) (cNil)) mAppend))))) (cSeq (cIf (cTest (cTwo [] (cCall [some 0, none] (cRefs 0 (cCons [] (cLit (.int 3)) (cNil))) m__law_draw) (cLit (.int 0)) oEq) dBool) (cAsg (gSet false 6) (cLc [11] [] (gSet true 11) (iSeq (cMany (cCons [] (cVar 6) (cNil)) (bSorted)) .lst) (cYes) (cMany (cCons [] (cVar 11) (cNil)) (immV vToInt)))) (cNext)) (cRet (cMany (cCons [8] (cMv 6) (cCons [] (cMv 8) (cNil))) dTup))))))))
noncomputable def m__law_scale : FSem := semOf 12 [true, false, false] (b__law_scale)
noncomputable def b_is_integer : Sg → R Fl := cRet (cAndV (cMany (cCons [] (cVar 0) (cCons [] (cLit (.ty "int")) (cNil))) (immV vIsi)) (cAndV (cOne (cMany (cCons [] (cVar 0) (cCons [] (cLit (.ty "bool")) (cNil))) (immV vIsi)) dNot) (cTwo [] (cVar 0) (cVar 1) oGe)))
noncomputable def m_is_integer : FSem := semOf 2 [false, false] (b_is_integer)
noncomputable def b_is_premium : Sg → R Fl := cRet (cAndV (cCall [none, none] (cCons [] (cVar 0) (cCons [] (cLit (.int 0)) (cNil))) m_is_integer) (cTwo [] (cVar 0) (cLit (.int 1000000)) oLe))
noncomputable def m_is_premium : FSem := semOf 1 [false] (b_is_premium)
noncomputable def b_are_premiums : Sg → R Fl := cSeq (cIf (cOr (cNot (cTest (cMany (cCons [] (cVar 0) (cCons [] (cLit (.ty "list")) (cNil))) (immV vIsi)) dTru)) (cNot (cTest (cChain [] [] (cLit (.int 1)) (cMany (cCons [] (cVar 0) (cNil)) (bLen)) (cLit (.int 12)) oLe oLe) dBool))) (cRet (cLit (.bl false))) (cNext)) (cRet (cMany (cCons [] (cLc [1] [] (gSet true 1) (iSeq (cVar 0) .lst) (cYes) (cCall [none] (cCons [] (cVar 1) (cNil)) m_is_premium)) (cNil)) (immV vAll)))
noncomputable def m_are_premiums : FSem := semOf 2 [false] (b_are_premiums)
noncomputable def b_are_moves : Sg → R Fl := cSeq (cIf (cOr (cNot (cTest (cMany (cCons [] (cVar 0) (cCons [] (cLit (.ty "list")) (cNil))) (immV vIsi)) dTru)) (cOr (cTest (cTwo [] (cMany (cCons [] (cVar 0) (cNil)) (bLen)) (cVar 2) oNe) dBool) (cNot (cTest (cChain [] [] (cLit (.int 1)) (cVar 2) (cLit (.int 5)) oLe oLe) dBool)))) (cRet (cLit (.bl false))) (cNext)) (cRet (cMany (cCons [] (cLc [3] [] (gSet true 3) (iSeq (cVar 0) .lst) (cYes) (cAndV (cCall [none, none] (cCons [] (cVar 3) (cCons [] (cLit (.int 0)) (cNil))) m_is_integer) (cTwo [] (cVar 3) (cVar 1) oLt))) (cNil)) (immV vAll)))
noncomputable def m_are_moves : FSem := semOf 4 [false, false, false] (b_are_moves)
noncomputable def b_is_table : Sg → R Fl := cSeq (cIf (cOr (cNot (cTest (cMany (cCons [] (cVar 0) (cCons [] (cLit (.ty "list")) (cNil))) (immV vIsi)) dTru)) (cOr (cTest (cTwo [] (cMany (cCons [] (cVar 0) (cNil)) (bLen)) (cVar 1) oNe) dBool) (cNot (cTest (cMany (cCons [] (cTwo [] (cVar 0) (cLit (.int 0)) oIx) (cCons [] (cLit (.ty "list")) (cNil))) (immV vIsi)) dTru)))) (cRet (cLit (.bl false))) (cNext)) (cRet (cMany (cCons [] (cLc [2] [] (gSet true 2) (iSeq (cVar 0) .lst) (cYes) (cCall [none, none, none] (cCons [] (cVar 2) (cCons [] (cVar 1) (cCons [] (cMany (cCons [] (cTwo [] (cVar 0) (cLit (.int 0)) oIx) (cNil)) (bLen)) (cNil)))) m_are_moves)) (cNil)) (immV vAll)))
noncomputable def m_is_table : FSem := semOf 3 [false, false] (b_is_table)
noncomputable def b_Scaledd_initdd : Sg → R Fl := cSeq (cIf (cNot (cTest (cCall [none] (cCons [] (cVar 1) (cNil)) m_are_premiums) dTru)) (cBad) (cNext)) (cSeq (cIf (cNot (cTest (cCall [none, none] (cCons [] (cVar 2) (cCons [] (cMany (cCons [] (cVar 1) (cNil)) (bLen)) (cNil))) m_is_table) dTru)) (cBad) (cNext)) (cSeq (cSetAt 0 [] (cMany (cCons [] (cVar 1) (cNil)) (bList)) (pVar 0) (cLit .non) (sAttr 0 "rates")) (cSetAt 0 [] (cLc [3] [] (gSet true 3) (iSeq (cVar 2) .lst) (cYes) (cMany (cCons [] (cVar 3) (cNil)) (bList))) (pVar 0) (cLit .non) (sAttr 0 "moves"))))
noncomputable def m_Scaledd_initdd : FSem := semOf 4 [true, false, false] (b_Scaledd_initdd)
noncomputable def b__law_made : Sg → R Fl := cRet (cMk 0 [none, none] (cCons [1] (cMany (cCons [] (cTwo [] (cVar 0) (cLit (.int 0)) oIx) (cNil)) (bList)) (cCons [] (cLc [1] [] (gSet true 1) (iSeq (cTwo [] (cVar 0) (cLit (.int 1)) oIx) .lst) (cYes) (cMany (cCons [] (cVar 1) (cNil)) (bList))) (cNil))) m_Scaledd_initdd)
noncomputable def m__law_made : FSem := semOf 2 [false] (b__law_made)
noncomputable def b_Scale_limited : Sg → R Fl := cRet (cMk 0 [none, none] (cCons [2] (cOne (cVar 0) (dFld 0 "rates")) (cCons [] (cLc [2] [] (gSet true 2) (iSeq (cOne (cVar 0) (dFld 0 "moves")) .lst) (cYes) (cTwo [] (cVar 2) (cVar 1) dCutH)) (cNil))) m_Scaledd_initdd)
noncomputable def m_Scale_limited : FSem := semOf 3 [false, false] (b_Scale_limited)
noncomputable def b__law_led : Sg → R Fl := cSeq (cAsg (gSet true 3) (cTwo [] (cTwo [] (cVar 0) (cLit (.int 1)) oIx) (cVar 1) oIx)) (cRet (cTwo [] (cVar 3) (cMany (cCons [] (cVar 2) (cCons [] (cTwo [] (cMany (cCons [] (cVar 3) (cNil)) (bLen)) (cLit (.int 1)) oSub) (cNil))) (bMin)) oIx))
noncomputable def m__law_led : FSem := semOf 4 [false, false, false] (b__law_led)
noncomputable def b__law_led_all : Sg → R Fl := cRet (cMany (cCons [] (cLc [3] [] (gSet true 3) (iSeqA (cVar 1)) (cYes) (cCall [none, none, none] (cCons [] (cVar 0) (cCons [] (cVar 3) (cCons [] (cVar 2) (cNil)))) m__law_led)) (cNil)) dSs)
noncomputable def m__law_led_all : FSem := semOf 4 [false, false, false] (b__law_led_all)
noncomputable def b__law_shortest : Sg → R Fl := cSeq (cAsg (gSet false 2) (cDispT (cCons [] (cFz (cMany (cCons [] (cVar 1) (cNil)) (dTupOf))) (cCons [] (cLit (.int 0)) (cNil))))) (cSeq (cAsg (gSet false 3) (cMany (cCons [] (cFz (cMany (cCons [] (cVar 1) (cNil)) (dTupOf))) (cNil)) dLst)) (cSeq (cAsg (gSet true 4) (cLit (.int 0))) (cSeq (whileL (cTest (cTwo [] (cVar 4) (cMany (cCons [] (cVar 3) (cNil)) (bLen)) oLt) dBool) (cSeq (cIf (cTest (cTwo [] (cMany (cCons [] (cTwo [] (cVar 3) (cVar 4) oIx) (cNil)) (bLen)) (cLit (.int 1)) oEq) dBool) (cRet (cTwo [] (cMv 2) (cTwo [] (cVar 3) (cVar 4) oIx) oIx)) (cNext)) (cSeq (cFor [13, 2, 3] (gSet true 5) (iRng1F (cCons [] (cMany (cCons [] (cTwo [] (cTwo [] (cVar 0) (cLit (.int 1)) oIx) (cLit (.int 0)) oIx) (cNil)) (bLen)) (cNil))) (cSeq (cAsg (gSet true 6) (cFz (cMany (cCons [] (cCall [none, none, none] (cCons [] (cVar 0) (cCons [] (cTwo [] (cVar 3) (cVar 4) oIx) (cCons [] (cVar 5) (cNil)))) m__law_led_all) (cNil)) (dTupOf)))) (cIf (cTest (cTwo [] (cVar 6) (cVar 2) oNotIn) dBool) (cSeq (cSetAt 2 [] (cTwo [] (cTwo [] (cVar 2) (cTwo [] (cVar 3) (cVar 4) oIx) oIx) (cLit (.int 1)) oAdd) (pVar 2) (cVar 6) oSet) (cExpr (cMutM isLst 3 [] (pVar 3) (cCons [] (cVar 6) (cNil)) mAppend))) (cNext)))) (cAsg (gSet true 4) (cTwo [] (cVar 4) (cLit (.int 1)) oAdd)))) fuel) (cRet (cLit .non)))))
noncomputable def m__law_shortest : FSem := semOf 7 [false, false] (b__law_shortest)
noncomputable def b__law_number : Sg → R Fl := cRet (cAndV (cMany (cCons [] (cVar 0) (cCons [] (cLit (.ty "int")) (cNil))) (immV vIsi)) (cOne (cMany (cCons [] (cVar 0) (cCons [] (cLit (.ty "bool")) (cNil))) (immV vIsi)) dNot))
noncomputable def m__law_number : FSem := semOf 1 [false] (b__law_number)
noncomputable def b__law_row_right : Sg → R Fl := cSeq (cIf (cOr (cTest (cTwo [] (cVar 3) (cLit .non) (dIsN false)) dBool) (cTest (cTwo [] (cVar 0) (cLit .non) (dIsN false)) dBool)) (cRet (cAndV (cTwo [] (cVar 3) (cLit .non) (dIsN false)) (cTwo [] (cVar 0) (cLit .non) (dIsN false)))) (cNext)) (cSeq (cIf (cOr (cNot (cTest (cMany (cCons [] (cVar 0) (cCons [] (cLit (.ty "list")) (cNil))) (immV vIsi)) dTru)) (cTest (cTwo [] (cMany (cCons [] (cVar 0) (cNil)) (bLen)) (cVar 3) oNe) dBool)) (cRet (cLit (.bl false))) (cNext)) (cSeq (cFor [7] (gSet true 4) (iSeq (cVar 0) .lst) (cSeq (cIf (cOr (cNot (cTest (cCall [none] (cCons [] (cVar 4) (cNil)) m__law_number) dTru)) (cTest (cTwo [] (cVar 4) (cLit (.int 0)) oLt) dBool)) (cRet (cLit (.bl false))) (cNext)) (cAsg (gSet true 2) (cCall [none, none, none] (cCons [] (cVar 1) (cCons [] (cVar 2) (cCons [] (cVar 4) (cNil)))) m__law_led_all)))) (cSeq (cExpr (cMutM isLst 0 [] (pVar 0) cNil mClear)) (cRet (cTwo [] (cMany (cCons [] (cVar 2) (cNil)) (bLen)) (cLit (.int 1)) oEq)))))
noncomputable def m__law_row_right : FSem := semOf 5 [true, false, false, false] (b__law_row_right)
noncomputable def b__law_mixed : Sg → R Fl := cSeq (cAsg (gSet false 2) (cMany (cCons [] (cVar 1) (cNil)) (bList))) (cSeq (cAsg (gSet false 3) (cMany (cNil) dLst)) (cSeq (cFor [0, 2, 3] (gSet true 4) (iRng1F (cCons [] (cMany (cCons [] (cVar 1) (cNil)) (bLen)) (cNil))) (cExpr (cMutM isLst 3 [0, 2] (pVar 3) (cCons [] (cMutM isLst 2 [0] (pVar 2) (cCons [] (cCall [some 0, none] (cRefs 0 (cCons [] (cMany (cCons [] (cVar 2) (cNil)) (bLen)) (cNil))) m__law_draw) (cNil)) mPopAt) (cNil)) mAppend))) (cRet (cMv 3))))
noncomputable def m__law_mixed : FSem := semOf 5 [true, false] (b__law_mixed)
noncomputable def b_Scale_columns : Sg → R Fl := cRet (cMany (cCons [] (cTwo [] (cOne (cVar 0) (dFld 0 "moves")) (cLit (.int 0)) oIx) (cNil)) (bLen))
noncomputable def m_Scale_columns : FSem := semOf 1 [false] (b_Scale_columns)
noncomputable def b_Scale_check_class : Sg → R Fl := cIf (cOr (cNot (cTest (cCall [none, none] (cCons [] (cVar 1) (cCons [] (cLit (.int 0)) (cNil))) m_is_integer) dTru)) (cTest (cTwo [] (cVar 1) (cMany (cCons [] (cOne (cVar 0) (dFld 0 "rates")) (cNil)) (bLen)) oGe) dBool)) (cRaise1 100 "at" (fun _ => true) (cVar 1)) (cNext)
noncomputable def m_Scale_check_class : FSem := semOf 2 [false, false] (b_Scale_check_class)
noncomputable def b_Scale_led : Sg → R Fl := cSeq (cExpr (cCall (none :: [none]) (cConsK (isObjD 0 "check_class") [] (cVar 0) (cCons [] (cVar 1) (cNil))) m_Scale_check_class)) (cSeq (cIf (cNot (cTest (cCall [none, none] (cCons [] (cVar 2) (cCons [] (cLit (.int 0)) (cNil))) m_is_integer) dTru)) (cBad) (cNext)) (cRet (cTwo [] (cTwo [] (cOne (cVar 0) (dFld 0 "moves")) (cVar 1) oIx) (cMany (cCons [] (cVar 2) (cCons [] (cTwo [] (cMany (cCons [] (cTwo [] (cOne (cVar 0) (dFld 0 "moves")) (cVar 1) oIx) (cNil)) (bLen)) (cLit (.int 1)) oSub) (cNil))) (bMin)) oIx)))
noncomputable def m_Scale_led : FSem := semOf 3 [false, false, false] (b_Scale_led)
noncomputable def b_Scaledd_calldd : Sg → R Fl := cRet (cCall (none :: [none, none]) (cConsK (isObjD 0 "led") [] (cVar 0) (cCons [] (cVar 1) (cCons [] (cVar 2) (cNil)))) m_Scale_led)
noncomputable def m_Scaledd_calldd : FSem := semOf 3 [false, false, false] (b_Scaledd_calldd)
noncomputable def b_led_all : Sg → R Fl := cRet (cFz (cMany (cCons [] (cMany (cCons [] (cLc [3] [] (gSet true 3) (iSeq (cVar 1) .tup) (cYes) (cCall (none :: [none, none]) (cConsK (isInsD 0) [] (cVar 0) (cCons [] (cVar 3) (cCons [] (cVar 2) (cNil)))) m_Scaledd_calldd)) (cNil)) dSs) (cNil)) (dTupOf)))
noncomputable def m_led_all : FSem := semOf 4 [false, false, false] (b_led_all)
noncomputable def b_shortest : Sg → R Fl := cSeq (cAsg (gSet false 2) (cDispT (cCons [] (cVar 1) (cCons [] (cMany (cNil) dLst) (cNil))))) (cSeq (cAsg (gSet false 3) (cMany (cCons [] (cVar 1) (cNil)) dLst)) (cSeq (whileL (cTest (cVar 3) dTru) (cSeq (cAsg (gSet true 4) (cMutM isLst 3 [] (pVar 3) (cCons [] (cLit (.int 0)) (cNil)) mPopAt)) (cSeq (cIf (cTest (cTwo [] (cMany (cCons [] (cVar 4) (cNil)) (bLen)) (cLit (.int 1)) oEq) dBool) (cRet (cTwo [] (cMv 2) (cVar 4) oIx)) (cNext)) (cFor [13, 2, 3] (gSet true 5) (iRng1F (cCons [] (cOwn 0 (fun _ => true) (cVar 0) m_Scale_columns) (cNil))) (cSeq (cAsg (gSet true 6) (cCall [none, none, none] (cCons [] (cVar 0) (cCons [] (cVar 4) (cCons [] (cVar 5) (cNil)))) m_led_all)) (cIf (cTest (cTwo [] (cVar 6) (cVar 2) oNotIn) dBool) (cSeq (cSetAt 2 [] (cMany (cStar [] (cTwo [] (cVar 2) (cVar 4) oIx) (cCons [] (cVar 5) (cNil))) dLst) (pVar 2) (cVar 6) oSet) (cExpr (cMutM isLst 3 [] (pVar 3) (cCons [] (cVar 6) (cNil)) mAppend))) (cNext)))))) fuel) (cRet (cLit .non))))
noncomputable def m_shortest : FSem := semOf 7 [false, false] (b_shortest)
noncomputable def b_Scaledd_lendd : Sg → R Fl := cRet (cMany (cCons [] (cOne (cVar 0) (dFld 0 "rates")) (cNil)) (bLen))
noncomputable def m_Scaledd_lendd : FSem := semOf 1 [false] (b_Scaledd_lendd)
noncomputable def b_uniting_row : Sg → R Fl := cRet (cCall [none, none] (cCons [] (cVar 0) (cCons [] (cFz (cOne (cOwn 0 isLenD (cVar 0) m_Scaledd_lendd) dTRg1)) (cNil))) m_shortest)
noncomputable def m_uniting_row : FSem := semOf 1 [false] (b_uniting_row)
noncomputable def b_meeting_row : Sg → R Fl := cSeq (cExpr (cCall (none :: [none]) (cConsK (isObjD 0 "check_class") [] (cVar 0) (cCons [] (cVar 1) (cNil))) m_Scale_check_class)) (cSeq (cExpr (cCall (none :: [none]) (cConsK (isObjD 0 "check_class") [] (cVar 0) (cCons [] (cVar 2) (cNil))) m_Scale_check_class)) (cRet (cCall [none, none] (cCons [] (cVar 0) (cCons [] (cFz (cMany (cCons [] (cMany (cCons [] (cMany (cCons [] (cVar 1) (cCons [] (cVar 2) (cNil))) dLst) (cNil)) dSs) (cNil)) (dTupOf))) (cNil))) m_shortest)))
noncomputable def m_meeting_row : FSem := semOf 3 [false, false, false] (b_meeting_row)
noncomputable def b__law_scale_right : Sg → R Fl := cSeq (cAsg (gSet true 3) (cMany (cCons [] (cTwo [] (cVar 2) (cLit (.int 0)) oIx) (cNil)) (bLen))) (cSeq (cAsg (gSet true 4) (cCall [none, none] (cCons [] (cVar 2) (cCons [] (cOne (cVar 3) dRg1) (cNil))) m__law_shortest)) (cSeq (cAsg (gSet true 5) (cMany (cNil) dLst)) (cSeq (cFor [7, 17] (gSet true 6) (iRng1F (cCons [] (cVar 3) (cNil))) (cAsg (gSet true 5) (cTwo [7] (cVar 5) (cLc [7] [] (gSet true 7) (iRng2F (cCons [] (cVar 6) (cCons [] (cVar 3) (cNil)))) (cYes) (cMany (cCons [] (cVar 6) (cCons [] (cVar 7) (cNil))) dTup)) oAdd))) (cSeq (cAsg (gSet true 8) (cCall [some 0, none] (cRefs 0 (cCons [] (cLit (.int 2)) (cNil))) m__law_draw)) (cSeq (cIf (cAnd (cTest (cTwo [] (cVar 8) (cLit (.int 0)) oEq) dBool) (cNot (cTest (cCallT [some none, none, none, none] (cCons [] (cCall [none] (cCons [] (cVar 1) (cNil)) m_uniting_row) (cCons [] (cVar 2) (cCons [] (cOne (cVar 3) dRg1) (cCons [] (cVar 4) (cNil))))) m__law_row_right) dTru))) (cRet (cLit (.bl false))) (cNext)) (cSeq (cAsg (gSet true 9) (cLit (.bl true))) (cSeq (cFor [22, 23, 21] (gTupF 2 (gsCons (gSet true 6) (gsCons (gSet true 7) (gsNil)))) (iSeq (cTwo [] (cCall [some 0, none] (cRefs 0 (cCons [] (cVar 5) (cNil))) m__law_mixed) (cLit (.int 12)) dCutH) .lst) (cSeq (cAsg (gSet true 10) (cMany (cCons [] (cMany (cCons [] (cVar 6) (cCons [] (cVar 7) (cNil))) dLst) (cNil)) dSs)) (cSeq (cAsg (gSet true 11) (cCall [none, none] (cCons [] (cVar 2) (cCons [] (cVar 10) (cNil))) m__law_shortest)) (cSeq (cAsg (gSet true 9) (cAndV (cVar 9) (cTwo [] (cVar 11) (cLit .non) (dIsN true)))) (cSeq (cIf (cNot (cTest (cCallT [some none, none, none, none] (cCons [] (cCall [none, none, none] (cCons [] (cVar 1) (cCons [] (cVar 6) (cCons [] (cVar 7) (cNil)))) m_meeting_row) (cCons [] (cVar 2) (cCons [] (cVar 10) (cCons [] (cVar 11) (cNil))))) m__law_row_right) dTru)) (cRet (cLit (.bl false))) (cNext)) (cIf (cNot (cTest (cCallT [some none, none, none, none] (cCons [] (cCall [none, none, none] (cCons [] (cVar 1) (cCons [] (cVar 7) (cCons [] (cVar 6) (cNil)))) m_meeting_row) (cCons [] (cVar 2) (cCons [] (cVar 10) (cCons [] (cVar 11) (cNil))))) m__law_row_right) dTru)) (cRet (cLit (.bl false))) (cNext))))))) (cSeq (cIf (cAnd (cTest (cTwo [] (cVar 4) (cLit .non) (dIsN true)) dBool) (cNot (cTest (cVar 9) dTru))) (cRet (cLit (.bl false))) (cNext)) (cRet (cCallT [some none, none, none, none] (cCons [] (cCall [none] (cCons [] (cVar 1) (cNil)) m_uniting_row) (cCons [] (cVar 2) (cCons [] (cOne (cVar 3) dRg1) (cCons [] (cVar 4) (cNil))))) m__law_row_right))))))))))
noncomputable def m__law_scale_right : FSem := semOf 12 [true, false, false] (b__law_scale_right)
noncomputable def b_Scale_premiums : Sg → R Fl := cRet (cMany (cCons [] (cOne (cVar 0) (dFld 0 "rates")) (cNil)) (bList))
noncomputable def m_Scale_premiums : FSem := semOf 1 [false] (b_Scale_premiums)
noncomputable def b_Scale_table : Sg → R Fl := cRet (cLc [1] [] (gSet true 1) (iSeq (cOne (cVar 0) (dFld 0 "moves")) .lst) (cYes) (cMany (cCons [] (cVar 1) (cNil)) (bList)))
noncomputable def m_Scale_table : FSem := semOf 2 [false] (b_Scale_table)
noncomputable def b__law_like : Sg → R Fl := cRet (cAndV (cTwo [] (cCall [none] (cConsK (isObjD 0 "premiums") [] (cVar 0) cNil) m_Scale_premiums) (cTwo [] (cVar 1) (cLit (.int 0)) oIx) oEq) (cTwo [] (cCall [none] (cConsK (isObjD 0 "table") [] (cVar 0) cNil) m_Scale_table) (cTwo [] (cVar 1) (cLit (.int 1)) oIx) oEq))
noncomputable def m__law_like : FSem := semOf 2 [false, false] (b__law_like)
noncomputable def b__law_refusal : Sg → R Fl := cSeq (cAsg (gSet true 3) (cLit .non)) (cSeq (cTry1 4 100 mt_NoClass (fun fs a => cRet (cMany (cCons [] (cExF a (fs.lookup ("at" : Str)) (cVar 4)) (cCons [] (cAndV (cIsX a (cVar 4)) (cTwo [] (cVar 3) (cLit .non) (dIsN false))) (cNil))) dTup)) (cAsg (gSet true 3) (cCall [none, none, none] (cCons [] (cVar 0) (cCons [] (cVar 1) (cCons [] (cVar 2) (cNil)))) m_meeting_row))) (cRet (cLit .non)))
noncomputable def m__law_refusal : FSem := semOf 5 [false, false, false] (b__law_refusal)
noncomputable def b_law (scA : Option Addr) (scN : List Int) : Sg → R Fl := cSeq (cAsg (gSet false 1) (cCall [none] (cCons [] (cVar 0) (cNil)) (m__law_bag scA scN))) (cSeq (cAsg (gSet true 2) (cCall [some 1, none, none] (cRefsL 1 (cCons [] (cTwo [1] (cMany (cCons [] (cLit (.int 3)) (cCons [] (cLit (.int 7)) (cCons [] (cLit (.int 7)) (cCons [] (cLit (.int 12)) (cNil))))) dLst) (cCall [some 1, none] (cRefs 1 (cCons [] (cLit (.int 4)) (cNil))) m__law_draw) oIx) (cCons [] (cLit (.int 4)) (cNil)))) m__law_scale)) (cSeq (cAsg (gSet true 3) (cCall [none] (cCons [] (cVar 2) (cNil)) m__law_made)) (cSeq (cAsg (gSet true 4) (cMany (cCons [] (cTwo [] (cVar 2) (cLit (.int 0)) oIx) (cNil)) (bLen))) (cSeq (cAsg (gSet true 5) (cTwo [1] (cLit (.int 1)) (cCall [some 1, none] (cRefs 1 (cCons [] (cMany (cCons [] (cTwo [] (cTwo [] (cVar 2) (cLit (.int 1)) oIx) (cLit (.int 0)) oIx) (cNil)) (bLen)) (cNil))) m__law_draw) oAdd)) (cSeq (cAsg (gSet true 6) (cCall (none :: [none]) (cConsK (isObjD 0 "limited") [] (cVar 3) (cCons [] (cVar 5) (cNil))) m_Scale_limited)) (cSeq (cIf (cNot (cTest (cCall [some 1, none, none] (cRefs 1 (cCons [] (cVar 3) (cCons [] (cVar 2) (cNil)))) m__law_scale_right) dTru)) (cRet (cLit (.bl false))) (cNext)) (cSeq (cIf (cNot (cTest (cCall [some 1, none, none] (cRefs 1 (cCons [7] (cVar 6) (cCons [] (cMany (cCons [7] (cTwo [] (cVar 2) (cLit (.int 0)) oIx) (cCons [] (cLc [7] [] (gSet true 7) (iSeq (cTwo [] (cVar 2) (cLit (.int 1)) oIx) .lst) (cYes) (cTwo [] (cVar 7) (cVar 5) dCutH)) (cNil))) dTup) (cNil)))) m__law_scale_right) dTru)) (cRet (cLit (.bl false))) (cNext)) (cSeq (cIf (cAnd (cTest (cTwo [] (cVar 4) (cLit (.int 12)) oLt) dBool) (cNot (cTest (cCall [some 1, none, none] (cRefs 1 (cCons [] (cVar 3) (cCons [] (cVar 2) (cNil)))) m__law_scale_right) dTru))) (cRet (cLit (.bl false))) (cNext)) (cSeq (cFor [] (gSet true 8) (iSeq (cMany (cCons [] (cVar 4) (cCons [] (cOne (cLit (.int 1)) dNeg) (cCons [] (cTwo [] (cLit (.int 10)) (cLit (.int 29)) oPow) (cCons [] (cLit .non) (cCons [] (cLit (.bl true)) (cCons [] (cLit (.str "0")) (cNil))))))) dLst) .lst) (cSeq (cIf (cOr (cTest (cTwo [] (cCall [none, none, none] (cCons [] (cVar 3) (cCons [] (cVar 8) (cCons [] (cOne (cLit (.int 2)) dNeg) (cNil)))) m__law_refusal) (cMany (cCons [] (cVar 8) (cCons [] (cLit (.bl true)) (cNil))) dTup) oNe) dBool) (cTest (cTwo [] (cCall [none, none, none] (cCons [] (cVar 3) (cCons [] (cLit (.int 0)) (cCons [] (cVar 8) (cNil)))) m__law_refusal) (cMany (cCons [] (cVar 8) (cCons [] (cLit (.bl true)) (cNil))) dTup) oNe) dBool)) (cRet (cLit (.bl false))) (cNext)) (cIf (cTest (cTwo [] (cCall [none, none, none] (cCons [] (cVar 3) (cCons [] (cVar 8) (cCons [] (cVar 8) (cNil)))) m__law_refusal) (cMany (cCons [] (cVar 8) (cCons [] (cLit (.bl true)) (cNil))) dTup) oNe) dBool) (cRet (cLit (.bl false))) (cNext)))) (cRet (cAndV (cTwo [] (cCall [none, none, none] (cCons [] (cVar 3) (cCons [] (cTwo [] (cVar 4) (cLit (.int 1)) oSub) (cCons [] (cLit (.int 0)) (cNil)))) m__law_refusal) (cLit .non) (dIsN false)) (cCall [none, none] (cCons [] (cVar 3) (cCons [] (cVar 2) (cNil))) m__law_like))))))))))))
noncomputable def m_law (scA : Option Addr) (scN : List Int) : FSem := semOf 9 [false] (b_law scA scN)
end Law
end
section
open Lin
local macro_rules | `(tactic| simp_arith [$ts,*]) => `(tactic| simp only [ok_var, ok_fz, ok_callT, ok_dispT, ok_iseqA, rdum_nil, rdum_none, rdum_cons, backT_nil, backT_val, backT_tmp, backT_ref, ok_mv, ok_lit, ok_two, ok_one, ok_test, ok_nil, ok_cons, ok_consK, ok_star, ok_many, ok_and, ok_or, ok_not, ok_ifE, ok_andV, ok_orV, ok_next, ok_seq, okF_nx, okF_ret, okF_brk, okF_cnt, ok_if, ok_ret, ok_retN, ok_expr, ok_asg, so_gset, ok_mutE, ok_setE, ok_call, ok_refs, ok_refsL, ok_for, ok_iseqE, ok_rg1, ok_rg2, ok_yes, ok_chn, imV_im, ok_disp, ok_newK, ok_mk, ok_lc, okC_fin, okC_finx, ok_raise0, ok_raise1, raiV_t,
  so_some, if_true, if_false, ite_true, ite_false, reduceIte, Bool.false_eq_true, Bool.true_eq_false, and_self, true_and, and_true, false_and, and_false, or_false, false_or, not_true_eq_false, not_false_eq_true, ne_eq, reduceCtorEq, Bool.not_true, Bool.not_false, Bool.and_true, Bool.true_and, Bool.and_false, Bool.false_and, Bool.or_true, Bool.true_or, Bool.or_false, Bool.false_or, Bool.not_eq_true', Bool.not_eq_false', Bool.not_not, decide_true, decide_false, decide_eq_true_eq, decide_not, decide_eq_false_iff_not,
  List.getElem?_nil, List.getElem?_cons_zero, List.getElem?_cons_succ, List.set_cons_zero, List.set_cons_succ, List.map_cons, List.map_nil, List.cons_append, List.nil_append, List.length_cons, List.length_nil, List.zip_cons_cons, List.zip_nil_right, List.all_cons, List.all_nil, List.filterMap_cons, List.filterMap_nil, List.replicate, List.not_mem_nil, List.mem_cons, Option.isNone_none, Option.isNone_some, Option.map_some, Option.map_none, id_eq, Nat.reduceAdd, Nat.reduceSub, Nat.reduceEqDiff, Nat.zero_ne_one, Kd.bor.injEq, List.foldr_cons, List.foldr_nil,
  clean_nil, clean_cons, clean_non, mk_im, bor_im, kill_im, kill_none, of_im, fzIf_im, fzIf_t, fzIf_f, en_mk, bo_own, bo_frz, bo_par, bo_bor, fz_own, fz_frz, fz_par', fz_bor', pa_own, pa_frz, pa_par, pa_bor, re_own, re_frz, re_par, re_bor, bor_en, kill_en, kill_opt, of_en, en_im,
  len_en, len_enT, len_enD, ix_en, ix_enT0, ix_enT1, list_en, isi_en, isi_int, isi_bool, tru_en, isn_en, isn_non, isn_I, seq_en, not_B, neg_I, min_I, max_I, in_en, notIn_en, in_LN, notIn_LN, sorted_en, list_enD, eq_LN, ne_LN, eq_LLN, ne_LLN, it_en,
  add_I, sub_I, lt_I, le_I, gt_I, ge_I, eq_I, ne_I, dbool_B, dtru_B, toInt_I, toInt_B, abs_I, shOk_L, ok_own, ok_xfE, xfD_some, ok_isX, isXD_a, cutH1, cutHN, all_clean, dLst_s, dTup_s, en_L0, Nat.reduceLT, Nat.reduceLeDiff, Int.reduceLT, Int.reduceLE, Int.reduceEq, Nat.lt_add_left_iff_pos, Nat.zero_add, bor_nd, kill_d, of_nd, mk_nd, List.any_cons, List.any_nil, beq_self_eq_true, en_LNp, en_LNo, en_LNb, mut_clear, argsD, backS, setAll, usOf, wipeS, $ts,*])
namespace Law
open PySem L2 Lin
theorem is_integer_ok (v l : Int) : m_is_integer [I v, I l] = .ok (B (decide (l ≤ v))) [] := by
  refine of_okC ?_
  unfold m_is_integer b_is_integer
  simp_arith [okC_sem]
theorem is_premium_ok (v : Int) : m_is_premium [I v] = .ok (B (decide (0 ≤ v) && decide (v ≤ 1000000))) [] := by
  refine of_okC ?_
  unfold m_is_premium b_is_premium
  simp_arith [okC_sem, okC_of (is_integer_ok _ _)]
  split <;> rename_i h
  · simp [h]
  · simp [h]
theorem bls_true {α : Type} (ns : List α) : dBls ((ns.map fun _ => true).map fun b => B b) = some (ns.map fun _ => true) := by
  induction ns with
  | nil => rfl
  | cons n r ih => simp only [List.map_cons, dBls, ih]; rfl
theorem all_true {α : Type} {k : Kd} (ns : List α) : immV vAll [.nd k .lst ((ns.map fun _ => true).map fun b => B b)] = some (B true) := by
  simp only [immV, vAll, bls_true, Option.map_some]
  simp
theorem are_premiums_ok (k c : Kd) (ns : List Nat) (h1 : 1 ≤ ns.length) (h2 : ns.length ≤ 12) (hp : ∀ x ∈ ns, x ≤ 1000000) : m_are_premiums [en k c (pL pN ns)] = .ok (B true) [] := by
  refine of_okC ?_
  unfold m_are_premiums b_are_premiums
  have e1 : (1 : Int) ≤ (ns.length : Int) := by omega
  have e2 : (ns.length : Int) ≤ 12 := by omega
  simp_arith [okC_sem, e1, e2]
  refine lc_map (e := fun x : Nat => I x) (h := fun b => B b) (w := fun _ => true) (by omega) rfl (fun _ _ => rfl) ?_ ?_
  · intro y hy
    have := hp y hy
    simp_arith [okC_of (is_premium_ok _), show (0 : Int) ≤ (y : Int) by omega, show (y : Int) ≤ 1000000 by omega]
  · simp_arith [all_true]
theorem are_moves_ok (k c' : Kd) (ns : List Nat) (c w : Nat) (hw : ns.length = w) (hw1 : 1 ≤ w) (hw5 : w ≤ 5) (hp : ∀ x ∈ ns, x < c) : m_are_moves [en k c' (pL pN ns), I c, I w] = .ok (B true) [] := by
  refine of_okC ?_
  unfold m_are_moves b_are_moves
  subst hw
  have e1 : (1 : Int) ≤ (ns.length : Int) := by omega
  have e2 : (ns.length : Int) ≤ 5 := by omega
  simp_arith [okC_sem, e1, e2]
  refine lc_map (e := fun x : Nat => I x) (h := fun b => B b) (w := fun _ => true) (by omega) rfl (fun _ _ => rfl) ?_ ?_
  · intro y hy
    have := hp y hy
    simp_arith [okC_of (is_integer_ok _ _), show (0 : Int) ≤ (y : Int) by omega, show (y : Int) < (c : Int) by omega]
  · simp_arith [all_true]
/-- a table that is let -/
structure Tab (t : List (List Nat)) (n w : Nat) : Prop where
  len : t.length = n
  n1 : 1 ≤ n
  n12 : n ≤ 12
  w1 : 1 ≤ w
  w5 : w ≤ 5
  row : ∀ r ∈ t, r.length = w ∧ ∀ x ∈ r, x < n
theorem is_table_ok (k : Kd) {t : List (List Nat)} {n w : Nat} (h : Tab t n w) : m_is_table [en k k (pL (pL pN) t), I n] = .ok (B true) [] := by
  refine of_okC ?_
  unfold m_is_table b_is_table
  have h0 : 0 < t.length := by have := h.len; have := h.n1; omega
  have e0 : oIx (en (kBo 0 k) (kBo 0 k) (pL (pL pN) t)) (D.im (V.int 0)) = some (en (kBo 0 k) (kBo 0 k) (pL pN t[0])) := ix_en (i := 0) h0
  have hl := h.len
  simp_arith [okC_sem, h.len, e0]
  refine lc_map (e := fun r : List Nat => en (kFz (kBo 0 k)) (kFz (kBo 0 k)) (pL pN r)) (h := fun b => B b) (w := fun _ => true) (by have := h.n12; omega) rfl (fun r _ => by rw [en_mk]; congr 1 <;> (cases k <;> rfl)) ?_ ?_
  · intro y hy
    obtain ⟨q1, q2⟩ := h.row y hy
    have w0 : (t[0]).length = w := (h.row _ (List.getElem_mem h0)).1
    simp_arith [okC_of (are_moves_ok _ _ y n w q1 h.w1 h.w5 q2), e0, w0]
  · simp_arith [all_true]
/-- a scale -/
def sc (p : List Nat) (t : List (List Nat)) : P := pO 0 ["rates", "moves"] [pL pN p, pL (pL pN) t]
structure Good (p : List Nat) (t : List (List Nat)) (w : Nat) : Prop where
  tab : Tab t p.length w
  prem : ∀ x ∈ p, x ≤ 1000000
theorem init_ok {p : List Nat} {t : List (List Nat)} {w : Nat} (h : Good p t w) : m_Scaledd_initdd [.nd .own (.obj 0 []) [], en .par .frz (pL pN p), en .par .par (pL (pL pN) t)] = .ok (.im .non) [en .own .own (sc p t)] := by
  refine of_okC ?_
  unfold m_Scaledd_initdd b_Scaledd_initdd
  have e1 : ∀ K d, Lin.SetAt (sAttr 0 "rates") (.nd .own (.obj 0 []) []) (.im .non) d K = K (.nd .own (.obj 0 ["rates"]) [d]) := fun K d => by
    show So _ _ = _
    simp only [sAttr]; rw [if_pos ⟨trivial, rfl, by simp⟩, so_some]; rfl
  have e2 : ∀ K d d', Lin.SetAt (sAttr 0 "moves") (.nd .own (.obj 0 ["rates"]) [d]) (.im .non) d' K = K (.nd .own (.obj 0 ["rates", "moves"]) [d, d']) := fun K d d' => by
    show So _ _ = _
    simp only [sAttr]; rw [if_pos ⟨trivial, rfl, by simp⟩, so_some]; rfl
  simp_arith [okC_sem, okC_of (are_premiums_ok _ _ p h.tab.n1 h.tab.n12 h.prem), okC_of (is_table_ok _ h.tab), e1]
  refine lc_map (h := fun r : List Nat => en .own .frz (pL pN r)) (w := id) (by have := h.tab.len; have := h.tab.n12; omega) rfl (fun r _ => by rw [en_mk]; rfl) ?_ ?_
  · intro y hy
    simp_arith []
  · simp_arith [List.map_id, fold_LL, e2, sc, en_pO]
end Law
end
section
open Lin
local macro_rules | `(tactic| simp_arith [$ts,*]) => `(tactic| simp only [ok_var, ok_fz, ok_callT, ok_dispT, ok_iseqA, rdum_nil, rdum_none, rdum_cons, backT_nil, backT_val, backT_tmp, backT_ref, ok_mv, ok_lit, ok_two, ok_one, ok_test, ok_nil, ok_cons, ok_consK, ok_star, ok_many, ok_and, ok_or, ok_not, ok_ifE, ok_andV, ok_orV, ok_next, ok_seq, okF_nx, okF_ret, okF_brk, okF_cnt, ok_if, ok_ret, ok_retN, ok_expr, ok_asg, so_gset, ok_mutE, ok_setE, ok_call, ok_refs, ok_refsL, ok_for, ok_iseqE, ok_rg1, ok_rg2, ok_yes, ok_chn, imV_im, ok_disp, ok_newK, ok_mk, ok_lc, okC_fin, okC_finx, ok_raise0, ok_raise1, raiV_t,
  so_some, if_true, if_false, ite_true, ite_false, reduceIte, Bool.false_eq_true, Bool.true_eq_false, and_self, true_and, and_true, false_and, and_false, or_false, false_or, not_true_eq_false, not_false_eq_true, ne_eq, reduceCtorEq, Bool.not_true, Bool.not_false, Bool.and_true, Bool.true_and, Bool.and_false, Bool.false_and, Bool.or_true, Bool.true_or, Bool.or_false, Bool.false_or, Bool.not_eq_true', Bool.not_eq_false', Bool.not_not, decide_true, decide_false, decide_eq_true_eq, decide_not, decide_eq_false_iff_not,
  List.getElem?_nil, List.getElem?_cons_zero, List.getElem?_cons_succ, List.set_cons_zero, List.set_cons_succ, List.map_cons, List.map_nil, List.cons_append, List.nil_append, List.length_cons, List.length_nil, List.zip_cons_cons, List.zip_nil_right, List.all_cons, List.all_nil, List.filterMap_cons, List.filterMap_nil, List.replicate, List.not_mem_nil, List.mem_cons, Option.isNone_none, Option.isNone_some, Option.map_some, Option.map_none, id_eq, Nat.reduceAdd, Nat.reduceSub, Nat.reduceEqDiff, Nat.zero_ne_one, Kd.bor.injEq, List.foldr_cons, List.foldr_nil,
  clean_nil, clean_cons, clean_non, mk_im, bor_im, kill_im, kill_none, of_im, fzIf_im, fzIf_t, fzIf_f, en_mk, bo_own, bo_frz, bo_par, bo_bor, fz_own, fz_frz, fz_par', fz_bor', pa_own, pa_frz, pa_par, pa_bor, re_own, re_frz, re_par, re_bor, bor_en, kill_en, kill_opt, of_en, en_im,
  len_en, len_enT, len_enD, ix_en, ix_enT0, ix_enT1, list_en, isi_en, isi_int, isi_bool, tru_en, isn_en, isn_non, isn_I, seq_en, not_B, neg_I, min_I, max_I, in_en, notIn_en, in_LN, notIn_LN, sorted_en, list_enD, eq_LN, ne_LN, eq_LLN, ne_LLN, it_en,
  add_I, sub_I, lt_I, le_I, gt_I, ge_I, eq_I, ne_I, dbool_B, dtru_B, toInt_I, toInt_B, abs_I, shOk_L, ok_own, ok_xfE, xfD_some, ok_isX, isXD_a, cutH1, cutHN, all_clean, dLst_s, dTup_s, en_L0, Nat.reduceLT, Nat.reduceLeDiff, Int.reduceLT, Int.reduceLE, Int.reduceEq, Nat.lt_add_left_iff_pos, Nat.zero_add, bor_nd, kill_d, of_nd, mk_nd, List.any_cons, List.any_nil, beq_self_eq_true, en_LNp, en_LNo, en_LNb, mut_clear, argsD, backS, setAll, usOf, wipeS, $ts,*])
namespace Law
open PySem L2 Lin
def bagD (cs : List Int) (p cur mix cnt : Int) : D := .nd .own .lst [iL .own cs, I p, I cur, I mix, I cnt]
section
variable (cs : List Int) (p cur mix cnt : Int)
theorem bag_kinds : (bagD cs p cur mix cnt).kinds = [.own, .own] := by
  unfold bagD
  simp [D.kinds, kindsL, kinds_iL]
theorem bag_bor (r : Nat) : hasBor r (bagD cs p cur mix cnt) = false := by unfold hasBor; rw [bag_kinds]; rfl
theorem bag_kill (r : Nat) : killD r (some (bagD cs p cur mix cnt)) = some (bagD cs p cur mix cnt) := kill_d (bag_bor cs p cur mix cnt r)
theorem bag_of : ofD (bagD cs p cur mix cnt) = true := by unfold ofD; rw [bag_kinds]; rfl
theorem bag_0 (i : Nat) : oIx ((bagD cs p cur mix cnt).mk (kBo i)) (I 0) = some (iL (.bor i) cs) := by
  unfold bagD; simp [D.mk, mkDL, iL_mk, kBo, oIx, dIx, atI, ixN]
theorem bag_1 (i : Nat) : oIx ((bagD cs p cur mix cnt).mk (kBo i)) (I 1) = some (I p) := by
  unfold bagD; simp [D.mk, mkDL, iL_mk, kBo, oIx, dIx, atI, ixN]
theorem bag_2 (i : Nat) : oIx ((bagD cs p cur mix cnt).mk (kBo i)) (I 2) = some (I cur) := by
  unfold bagD; simp [D.mk, mkDL, iL_mk, kBo, oIx, dIx, atI, ixN]
theorem bag_3 (i : Nat) : oIx ((bagD cs p cur mix cnt).mk (kBo i)) (I 3) = some (I mix) := by
  unfold bagD; simp [D.mk, mkDL, iL_mk, kBo, oIx, dIx, atI, ixN]
theorem bag_4 (i : Nat) : oIx ((bagD cs p cur mix cnt).mk (kBo i)) (I 4) = some (I cnt) := by
  unfold bagD; simp [D.mk, mkDL, iL_mk, kBo, oIx, dIx, atI, ixN]
variable (v : Int) (K : D → Prop)
theorem bag_s1 : Lin.SetAt oSet (bagD cs p cur mix cnt) (I 1) (I v) K = K (bagD cs v cur mix cnt) := by
  simp [bagD, Lin.SetAt, oSet, sLst, ixN, so_some]
theorem bag_s2 : Lin.SetAt oSet (bagD cs p cur mix cnt) (I 2) (I v) K = K (bagD cs p v mix cnt) := by
  simp [bagD, Lin.SetAt, oSet, sLst, ixN, so_some]
theorem bag_s3 : Lin.SetAt oSet (bagD cs p cur mix cnt) (I 3) (I v) K = K (bagD cs p cur v cnt) := by
  simp [bagD, Lin.SetAt, oSet, sLst, ixN, so_some]
theorem bag_s4 : Lin.SetAt oSet (bagD cs p cur mix cnt) (I 4) (I v) K = K (bagD cs p cur mix v) := by
  simp [bagD, Lin.SetAt, oSet, sLst, ixN, so_some]
end
theorem mul1 {a b : Int} (h : b = 0 ∨ b = 1) : oMul (I a) (I b) = some (I (a * b)) := mul_r (by omega) (by omega)
theorem draw_ok (cs : List Int) (p cur mix cnt n : Int) (hp : 0 ≤ p) (hc : 0 ≤ cur) (hn : 0 < n) (hn2 : n < 1000000000000000000000000000000) :
    OkCE NoC (m__law_draw [bagD cs p cur mix cnt, I n]) fun d ms => ∃ v p' cur' mix' cnt', d = I v ∧ ms = [bagD cs p' cur' mix' cnt'] ∧ 0 ≤ p' ∧ 0 ≤ cur' ∧ 0 ≤ v ∧ v < n := by
  unfold m__law_draw b__law_draw
  rw [okC_sem]
  refine seq_cut (A := fun S => S = [some (bagD cs p cur mix (cnt + 1)), some (I n), none, none, none]) ?_ ?_
  · simp_arith [bag_4, bag_s4, bag_kill]
  rintro _ rfl
  refine seq_cut (A := fun S => ∃ p cur mix cnt, ∃ o : Option Int, S = [some (bagD cs p cur mix cnt), some (I n), o.map (fun i => I i), none, none] ∧ 0 ≤ p ∧ 0 ≤ cur) ?_ ?_
  · simp_arith [bag_2, bag_1, bag_0, len_iL]
    by_cases h0 : cur = 0
    · by_cases h1 : p < (cs.length : Int)
      · obtain ⟨x, hx⟩ : ∃ x, cs[p.toNat]? = some x := ⟨cs[p.toNat]'(by omega), List.getElem?_eq_getElem _⟩
        subst h0
        have hx01 : ∀ c : Prop, ∀ _ : Decidable c, (if c then (1 : Int) else 0) = 0 ∨ (if c then (1 : Int) else 0) = 1 := fun c _ => by split <;> simp
        simp_arith [h1, bag_2, bag_1, bag_0, bag_3, ix_iL hp hx, bag_s1, bag_s2, bag_s3, bag_kill, mul_l (a := 2) (by decide) (by decide), pow_I (a := 10) (b := 18) (by decide) (by decide) (by decide), mul1 (hx01 _ _), mul_r (b := 48271) (by decide) (by decide), mul_r (b := 69621) (by decide) (by decide), mod_I (b := 2147483647) (by decide)]
        refine ⟨_, _, _, _, some x, rfl, by omega, Int.mul_nonneg (Int.add_nonneg (Int.mul_nonneg (by decide) (by split <;> omega)) (by split <;> omega)) (by split <;> omega)⟩
      · simp_arith [h0, h1]
        exact ⟨p, 0, mix, cnt + 1, none, by subst h0; rfl, hp, by omega⟩
    · simp_arith [h0]
      exact ⟨p, cur, mix, cnt + 1, none, rfl, hp, hc⟩
  · rintro S ⟨p, cur, mix, cnt, o, rfl, hp, hc⟩
    have ko : ∀ r, killD r (o.map fun i => I i) = o.map fun i => I i := fun r => by cases o <;> rfl
    simp_arith [bag_2, mod_I hn]
    by_cases h0 : 0 < cur
    · simp_arith [h0, bag_2, div_I hn hn2, bag_s2, bag_kill, ko, bag_of]
      have h1 := Int.ediv_nonneg hc (show 0 ≤ n by omega)
      have h2 := Int.emod_nonneg cur (show n ≠ 0 by omega)
      have h3 := Int.emod_lt_of_pos cur hn
      exact ⟨_, _, _, _, _, rfl, rfl, hp, h1, h2, h3⟩
    · have b1 : ∀ z : Int, (z % 2147483647).natAbs < 18446744073709551616 := fun z => by omega
      have b2 : ∀ z : Int, (z % 2147483629).natAbs < 18446744073709551616 := fun z => by omega
      simp_arith [h0, bag_3, bag_4, mul_r (b := 40692) (by decide) (by decide), mod_I (b := 2147483647) (by decide), pow_I (b := 3) (by decide) (by decide) (b1 _), mul_r (b := 16807) (by decide) (by decide), mod_I (b := 2147483629) (by decide), pow_I (b := 2) (by decide) (by decide) (b2 _), mod_I (b := 2147483587) (by decide), div_I (b := 8) (by decide) (by decide), mod_I hn, bag_of]
      exact ⟨_, _, _, _, _, rfl, rfl, hp, hc, Int.emod_nonneg _ (by omega), Int.emod_lt_of_pos _ hn⟩
/-- the bag -/
structure Bag where
  cs : List Int
  p : Int
  cur : Int
  mix : Int
  cnt : Int
  hp : 0 ≤ p
  hc : 0 ≤ cur
def bg (b : Bag) : D := bagD b.cs b.p b.cur b.mix b.cnt
theorem bg_bor (b : Bag) (r : Nat) : hasBor r (bg b) = false := bag_bor ..
theorem bg_kill (b : Bag) (r : Nat) : killD r (some (bg b)) = some (bg b) := bag_kill ..
theorem bg_of (b : Bag) : ofD (bg b) = true := bag_of ..
theorem draw_ex (b : Bag) (n : Int) : ∃ q : Nat × Bag, 0 < n → n < 1000000000000000000000000000000 → m__law_draw [bg b, I n] = .ok (I (q.1 : Int)) [bg q.2] ∧ (q.1 : Int) < n := by
  by_cases hn : 0 < n ∧ n < 1000000000000000000000000000000
  · obtain ⟨d, ms, e, v, p', cur', mix', cnt', rfl, rfl, h1, h2, h3, h4⟩ := (draw_ok b.cs b.p b.cur b.mix b.cnt n b.hp b.hc hn.1 hn.2).get
    refine ⟨(v.toNat, ⟨b.cs, p', cur', mix', cnt', h1, h2⟩), fun _ _ => ⟨?_, by show ((v.toNat : Nat) : Int) < n; omega⟩⟩
    show m__law_draw [bg b, I n] = .ok (I ((v.toNat : Nat) : Int)) _
    rw [Int.toNat_of_nonneg h3]
    exact e
  · exact ⟨(0, b), fun h1 h2 => absurd ⟨h1, h2⟩ hn⟩
noncomputable def dv (b : Bag) (n : Int) : Nat := (draw_ex b n).choose.1
noncomputable def db (b : Bag) (n : Int) : Bag := (draw_ex b n).choose.2
theorem dv_lt {b : Bag} {n : Int} (h1 : 0 < n) (h2 : n < 1000000000000000000000000000000) : (dv b n : Int) < n := ((draw_ex b n).choose_spec h1 h2).2
theorem dv_ltN {b : Bag} {n : Nat} (h1 : 0 < n) (h2 : n < 1000000000000000000000000000000) : dv b (n : Int) < n := by have := dv_lt (b := b) (n := (n : Int)) (by omega) (by omega); omega
theorem okC_draw {Ec : EC} {b : Bag} {n : Int} {Q : D → List D → Prop} (h1 : 0 < n) (h2 : n < 1000000000000000000000000000000) : OkCE Ec (m__law_draw [bg b, I n]) Q = Q (I (dv b n : Int)) [bg (db b n)] := okC_of ((draw_ex b n).choose_spec h1 h2).1
end Law
end
section
open Lin
local macro_rules | `(tactic| simp_arith [$ts,*]) => `(tactic| simp only [ok_var, ok_fz, ok_callT, ok_dispT, ok_iseqA, rdum_nil, rdum_none, rdum_cons, backT_nil, backT_val, backT_tmp, backT_ref, ok_mv, ok_lit, ok_two, ok_one, ok_test, ok_nil, ok_cons, ok_consK, ok_star, ok_many, ok_and, ok_or, ok_not, ok_ifE, ok_andV, ok_orV, ok_next, ok_seq, okF_nx, okF_ret, okF_brk, okF_cnt, ok_if, ok_ret, ok_retN, ok_expr, ok_asg, so_gset, ok_mutE, ok_setE, ok_call, ok_refs, ok_refsL, ok_for, ok_iseqE, ok_rg1, ok_rg2, ok_yes, ok_chn, imV_im, ok_disp, ok_newK, ok_mk, ok_lc, okC_fin, okC_finx, ok_raise0, ok_raise1, raiV_t,
  so_some, if_true, if_false, ite_true, ite_false, reduceIte, Bool.false_eq_true, Bool.true_eq_false, and_self, true_and, and_true, false_and, and_false, or_false, false_or, not_true_eq_false, not_false_eq_true, ne_eq, reduceCtorEq, Bool.not_true, Bool.not_false, Bool.and_true, Bool.true_and, Bool.and_false, Bool.false_and, Bool.or_true, Bool.true_or, Bool.or_false, Bool.false_or, Bool.not_eq_true', Bool.not_eq_false', Bool.not_not, decide_true, decide_false, decide_eq_true_eq, decide_not, decide_eq_false_iff_not,
  List.getElem?_nil, List.getElem?_cons_zero, List.getElem?_cons_succ, List.set_cons_zero, List.set_cons_succ, List.map_cons, List.map_nil, List.cons_append, List.nil_append, List.length_cons, List.length_nil, List.zip_cons_cons, List.zip_nil_right, List.all_cons, List.all_nil, List.filterMap_cons, List.filterMap_nil, List.replicate, List.not_mem_nil, List.mem_cons, Option.isNone_none, Option.isNone_some, Option.map_some, Option.map_none, id_eq, Nat.reduceAdd, Nat.reduceSub, Nat.reduceEqDiff, Nat.zero_ne_one, Kd.bor.injEq, List.foldr_cons, List.foldr_nil,
  clean_nil, clean_cons, clean_non, mk_im, bor_im, kill_im, kill_none, of_im, fzIf_im, fzIf_t, fzIf_f, en_mk, bo_own, bo_frz, bo_par, bo_bor, fz_own, fz_frz, fz_par', fz_bor', pa_own, pa_frz, pa_par, pa_bor, re_own, re_frz, re_par, re_bor, bor_en, kill_en, kill_opt, of_en, en_im,
  len_en, len_enT, len_enD, ix_en, ix_enT0, ix_enT1, list_en, isi_en, isi_int, isi_bool, tru_en, isn_en, isn_non, isn_I, seq_en, not_B, neg_I, min_I, max_I, in_en, notIn_en, in_LN, notIn_LN, sorted_en, list_enD, eq_LN, ne_LN, eq_LLN, ne_LLN, it_en,
  add_I, sub_I, lt_I, le_I, gt_I, ge_I, eq_I, ne_I, dbool_B, dtru_B, toInt_I, toInt_B, abs_I, shOk_L, ok_own, ok_xfE, xfD_some, ok_isX, isXD_a, cutH1, cutHN, all_clean, dLst_s, dTup_s, en_L0, Nat.reduceLT, Nat.reduceLeDiff, Int.reduceLT, Int.reduceLE, Int.reduceEq, Nat.lt_add_left_iff_pos, Nat.zero_add, bor_nd, kill_d, of_nd, mk_nd, List.any_cons, List.any_nil, beq_self_eq_true, en_LNp, en_LNo, en_LNb, mut_clear, argsD, backS, setAll, usOf, wipeS, $ts,*])
namespace Law
open PySem L2 Lin
def pl (p : List Nat) (t : List (List Nat)) : P := pT [pL pN p, pL (pL pN) t]
/-- .. as it is told: its lists are the caller's own -/
def plO (p : List Nat) (t : List (List Nat)) : D := .nd .own .tup [en .own .frz (pL pN p), en .own .frz (pL (pL pN) t)]
theorem plO_mk (p : List Nat) (t : List (List Nat)) : (plO p t).mk kFz = en .frz .frz (pl p t) := by
  unfold plO pl
  rw [mk_nd, en_pT]
  simp only [List.map_cons, List.map_nil, en_mk]
  rfl
theorem plO_fz (p : List Nat) (t : List (List Nat)) : fzIf true (plO p t) = en .frz .frz (pl p t) := plO_mk p t
theorem plO_of (p : List Nat) (t : List (List Nat)) : ofD (plO p t) = true := by
  unfold plO
  rw [of_nd]
  simp only [List.all_cons, List.all_nil, of_en (k := .own) (c := .frz) (.inl rfl) (.inr rfl)]
  rfl
theorem plO_0 (p : List Nat) (t : List (List Nat)) : oIx (plO p t) (I 0) = some (en .own .frz (pL pN p)) := ix_tup (by omega) (by simp)
theorem plO_clean (M : List Nat) (p : List Nat) (t : List (List Nat)) : cleanD M (plO p t) = true := by
  unfold cleanD
  rw [List.all_eq_true]
  intro r _
  unfold plO
  rw [bor_nd]
  simp only [List.any_cons, List.any_nil, bor_en (r := r) (k := .own) (c := .frz) (fun z => nomatch z) (fun z => nomatch z)]
  simp
theorem ixL3 {a b c : D} {k : Kd} {i : Nat} (h : i < 3) {z : D} (hz : [a, b, c][i]? = some z) : oIx (.nd k .lst [a, b, c]) (I (i : Int)) = some z := ix_lst (by omega) (by simpa using hz)
theorem ixL2 {a b : D} {k : Kd} {i : Nat} {z : D} (hz : [a, b][i]? = some z) : oIx (.nd k .lst [a, b]) (I (i : Int)) = some z := ix_lst (by omega) (by simpa using hz)
theorem natI {i : Int} (h : 0 ≤ i) : I i = I ((i.toNat : Nat) : Int) := by rw [Int.toNat_of_nonneg h]
theorem rg2_one {n : Nat} (h : n < 1000000) : rg2 [I 1, I (n : Int)] = some (.im .non, (List.range (n - 1)).map fun k : Nat => I ((1 + k : Nat) : Int)) := rg2_eq (m := 1) (by decide) h
theorem scale_ok (b : Bag) (n m : Nat) (hn : 1 ≤ n) (hn2 : n ≤ 12) (hm : 1 ≤ m) (hm2 : m ≤ 5) : OkCE NoC (m__law_scale [bg b, I n, I m]) fun d ms => ∃ p t w b', d = plO p t ∧ ms = [bg b'] ∧ Good p t w ∧ p.length ≤ n ∧ w ≤ m := by
  unfold m__law_scale b__law_scale
  rw [okC_sem]
  refine seq_cut (A := fun S => ∃ b', ∃ c : Nat, S = [some (bg b'), some (I n), some (I m), some (I c), none, none, none, none, none, none, none, none] ∧ 1 ≤ c ∧ c ≤ n) ?_ ?_
  · have hd : dv b (n : Int) < n := dv_ltN (by omega) (by omega)
    simp_arith [bg_kill, bg_bor, bg_of, okC_draw (b := b) (n := (n : Int)) (by omega) (by omega)]
    exact ⟨_, 1 + dv b n, by rw [Int.natCast_add]; rfl, by omega, by omega⟩
  rintro _ ⟨b, c, rfl, hc1, hc2⟩
  refine seq_cut (A := fun S => ∃ b', ∃ w : Nat, S = [some (bg b'), some (I n), some (I m), some (I c), some (I w), none, none, none, none, none, none, none] ∧ 1 ≤ w ∧ w ≤ m) ?_ ?_
  · have hd : dv b (m : Int) < m := dv_ltN (by omega) (by omega)
    simp_arith [bg_kill, bg_bor, bg_of, okC_draw (b := b) (n := (m : Int)) (by omega) (by omega)]
    exact ⟨_, 1 + dv b m, by rw [Int.natCast_add]; rfl, by omega, by omega⟩
  rintro _ ⟨b, w, rfl, hw1, hw2⟩
  refine seq_cut (A := fun S => ∃ b', ∃ z : Nat, S = [some (bg b'), some (I n), some (I m), some (I c), some (I w), some (I z), none, none, none, none, none, none] ∧ 1 ≤ z ∧ z ≤ 1000001) ?_ ?_
  · have hd := dv_lt (b := b) (n := 3) (by decide) (by decide)
    simp_arith [bg_kill, bg_bor, bg_of, okC_draw (b := b) (n := 3) (by decide) (by decide)]
    generalize dv b 3 = j at hd
    have : j = 0 ∨ j = 1 ∨ j = 2 := by omega
    rcases this with rfl | rfl | rfl
    · rw [ixL3 (z := I 3) (by omega) rfl]; simp_arith []; exact ⟨_, 3, rfl, by omega, by omega⟩
    · rw [ixL3 (z := I 50) (by omega) rfl]; simp_arith []; exact ⟨_, 50, rfl, by omega, by omega⟩
    · rw [ixL3 (z := I 1000001) (by omega) rfl]; simp_arith []; exact ⟨_, 1000001, rfl, by omega, by omega⟩
  rintro _ ⟨b, z, rfl, hz1, hz2⟩
  refine seq_cut (A := fun S => ∃ b', ∃ p : List Nat, S = [some (bg b'), some (I n), some (I m), some (I c), some (I w), some (I z), some (en .own .frz (pL pN p)), none, none, none, none, none] ∧ p.length = c ∧ ∀ x ∈ p, x ≤ 1000000) ?_ ?_
  · simp_arith [rg1_eq (show c < 1000000 by omega)]
    refine lc_inv (Inv := fun j S acc => ∃ b', ∃ p : List Nat, S = [some (bg b'), some (I n), some (I m), some (I c), some (I w), some (I z), none, none, none, none, none, none] ∧ acc = p.map (fun x : Nat => I x) ∧ p.length = j ∧ ∀ x ∈ p, x ≤ 1000000) ?_ ?_ ?_
    · rintro i y S acc hy ⟨b', p, rfl, rfl, hl, hp⟩
      have hd : dv b' (z : Int) < z := dv_ltN (by omega) (by omega)
      have hi := (List.getElem?_eq_some_iff.mp hy).1
      simp_arith [bg_kill, bg_bor, bg_of, okC_draw (b := b') (n := (z : Int)) (by omega) (by omega)]
      refine ⟨small_size (by simp at hi ⊢; omega), _, p ++ [dv b' z], rfl, by simp, by simp [hl], ?_⟩
      intro x hx
      rcases List.mem_append.mp hx with h | h
      · exact hp x h
      · simp at h; omega
    · rintro S acc ⟨b', p, rfl, rfl, hl, hp⟩
      simp_arith [fold_LN]
      exact ⟨_, p, rfl, by simpa using hl, hp⟩
    · exact ⟨b, [], rfl, rfl, rfl, by simp⟩
  rintro _ ⟨b, p, rfl, hpl, hpp⟩
  refine seq_cut (A := fun S => S = [some (bg b), some (I n), some (I m), some (I c), some (I w), some (I z), some (en .own .frz (pL pN p)), none, some (en .own .frz (pL (pL pN) [])), none, none, none]) ?_ ?_
  · simp_arith []
  rintro _ rfl
  refine seq_cut (A := fun S => ∃ b' t, ∃ o7 : Option Nat, ∃ o9 : Option P, S = [some (bg b'), some (I n), some (I m), some (I c), some (I w), some (I z), some (en .own .frz (pL pN p)), o7.map fun i : Nat => I i, some (en .own .frz (pL (pL pN) t)), o9.map (en .frz .frz), none, none] ∧ t.length = c ∧ ∀ r ∈ t, r.length = w ∧ ∀ x ∈ r, x < c) ?_ ?_
  · simp_arith [rg1_eq (show c < 1000000 by omega)]
    refine for_inv (Inv := fun i S => ∃ b' t, ∃ o7 : Option Nat, ∃ o9 : Option P, S = [some (bg b'), some (I n), some (I m), some (I c), some (I w), some (I z), some (en .own .frz (pL pN p)), o7.map fun i : Nat => I i, some (en .own .frz (pL (pL pN) t)), o9.map (en .frz .frz), none, none] ∧ t.length = i ∧ ∀ r ∈ t, r.length = w ∧ ∀ x ∈ r, x < c) ?_ ?_ ?_
    · rintro i y S hy ⟨b, t, o7, o9, rfl, hl, ht⟩
      obtain ⟨hi, hy⟩ := List.getElem?_eq_some_iff.mp hy
      rw [List.getElem_range] at hy
      subst hy
      rw [List.length_range] at hi
      rw [so_gset, fzIf_im]
      refine seq_cut (A := fun S => ∃ b', ∃ r : List Nat, S = [some (bg b'), some (I n), some (I m), some (I c), some (I w), some (I z), some (en .own .frz (pL pN p)), some (I i), some (en .own .frz (pL (pL pN) t)), some (en .frz .frz (pL pN r)), none, none] ∧ r.length = w ∧ ∀ x ∈ r, x < c) ?_ ?_
      · simp_arith [rg1_eq (show w < 1000000 by omega)]
        refine lc_inv (Inv := fun j S acc => ∃ b', ∃ r : List Nat, S = [some (bg b'), some (I n), some (I m), some (I c), some (I w), some (I z), some (en .own .frz (pL pN p)), some (I i), some (en .own .frz (pL (pL pN) t)), o9.map (en .frz .frz), none, none] ∧ acc = r.map (fun x : Nat => I x) ∧ r.length = j ∧ ∀ x ∈ r, x < c) ?_ ?_ ?_
        · rintro j y S acc hy ⟨b', r, rfl, rfl, hl, hr⟩
          have hd : dv b' (c : Int) < c := dv_ltN (by omega) (by omega)
          have hj := (List.getElem?_eq_some_iff.mp hy).1
          simp_arith [bg_kill, bg_bor, bg_of, okC_draw (b := b') (n := (c : Int)) (by omega) (by omega)]
          refine ⟨small_size (by simp at hj ⊢; omega), _, r ++ [dv b' c], rfl, by simp, by simp [hl], ?_⟩
          intro x hx
          rcases List.mem_append.mp hx with h | h
          · exact hr x h
          · simp at h; omega
        · rintro S acc ⟨b', r, rfl, rfl, hl, hr⟩
          simp_arith [fold_LN]
          exact ⟨_, r, rfl, by simpa using hl, hr⟩
        · exact ⟨b, [], rfl, rfl, rfl, by simp⟩
      rintro _ ⟨b, r, rfl, hr1, hr2⟩
      refine seq_cut (A := fun S => ∃ b', ∃ r : List Nat, S = [some (bg b'), some (I n), some (I m), some (I c), some (I w), some (I z), some (en .own .frz (pL pN p)), some (I i), some (en .own .frz (pL (pL pN) t)), some (en .frz .frz (pL pN r)), none, none] ∧ r.length = w ∧ ∀ x ∈ r, x < c) ?_ ?_
      · simp_arith [bg_kill, bg_bor, bg_of, okC_draw (b := b) (n := 3) (by decide) (by decide)]
        split
        · simp_arith [rg2_one (show w < 1000000 by omega)]
          refine lc_map (h := fun x : Nat => I x) (w := fun k => min (i + (1 + k)) (c - 1)) (by simp; omega) rfl (fun _ _ => rfl) ?_ ?_
          · intro y hy
            simp_arith []
            congr 2
            split <;> omega
          · have e : (if (0 : Int) > (i : Int) - 1 then 0 else (i : Int) - 1) = ((i - 1 : Nat) : Int) := by split <;> omega
            rw [e, cat_raw (by simp; omega), so_some, so_gset, okF_nx]
            refine ⟨db b 3, (i - 1) :: (List.range (w - 1)).map (fun k => min (i + (1 + k)) (c - 1)), ?_, by simp; omega, ?_⟩
            · simp only [List.set_cons_succ, List.set_cons_zero, fzIf_t, mk_nd, fz_own, en_pL]
              simp [mk_im, en_im]
            · intro x hx
              rcases List.mem_cons.mp hx with rfl | hx
              · omega
              · obtain ⟨k, _, rfl⟩ := List.mem_map.mp hx
                omega
        · exact ⟨_, r, rfl, hr1, hr2⟩
      rintro _ ⟨b, r, rfl, hr1, hr2⟩
      simp_arith [bg_kill, mut_app (g := pL pN) (show t.length < 1000000 by omega)]
      refine ⟨_, _, some i, some (pL pN r), rfl, by simp [hl], ?_⟩
      intro r' h
      rcases List.mem_append.mp h with h | h
      · exact ht r' h
      · simp at h; subst h; exact ⟨hr1, hr2⟩
    · rintro S ⟨b, t, o7, o9, rfl, hl, ht⟩
      exact ⟨b, t, o7, o9, rfl, by simpa using hl, ht⟩
    · exact ⟨b, [], none, none, rfl, rfl, by simp⟩
  rintro _ ⟨b, t, o7, o9, rfl, htl, htr⟩
  refine seq_cut (A := fun S => ∃ b', ∃ p : List Nat, S = [some (bg b'), some (I n), some (I m), some (I c), some (I w), some (I z), some (en .own .frz (pL pN p)), o7.map fun i : Nat => I i, some (en .own .frz (pL (pL pN) t)), o9.map (en .frz .frz), none, none] ∧ p.length = c ∧ ∀ x ∈ p, x ≤ 1000000) ?_ ?_
  · have k7 : ∀ r, killD r (o7.map fun i : Nat => I i) = o7.map fun i : Nat => I i := fun r => by cases o7 <;> rfl
    simp_arith [bg_kill, bg_bor, bg_of, k7, okC_draw (b := b) (n := 3) (by decide) (by decide)]
    split
    · refine lc_map (h := fun x : Nat => I x) (w := id) (by simp [sortN]; omega) rfl (fun _ _ => rfl) ?_ ?_
      · intro y hy
        simp_arith []
      · simp_arith [List.map_id, fold_LN]
        refine ⟨_, sortN p, rfl, by simp [sortN, hpl], ?_⟩
        intro x hx
        exact hpp x (by simpa [sortN] using hx)
    · exact ⟨_, p, rfl, hpl, hpp⟩
  rintro _ ⟨b, p, rfl, hpl, hpp⟩
  have k7 : ∀ r, killD r (o7.map fun i : Nat => I i) = o7.map fun i : Nat => I i := fun r => by cases o7 <;> rfl
  have k9 : ∀ r, killD r (o9.map (en .frz .frz)) = o9.map (en .frz .frz) := fun r => kill_opt (by simp) (by simp) _
  simp_arith [bg_of, bg_kill, bg_bor, k7, k9]
  refine ⟨p, t, w, b, ?_, rfl, ⟨⟨by omega, by omega, by omega, hw1, by omega, by rw [hpl]; exact htr⟩, hpp⟩, by omega, hw2⟩
  rfl
theorem scale_ex (b : Bag) (n m : Int) : ∃ q : (List Nat × List (List Nat)) × Bag, 1 ≤ n → n ≤ 12 → 1 ≤ m → m ≤ 5 → m__law_scale [bg b, I n, I m] = .ok (plO q.1.1 q.1.2) [bg q.2] ∧ ∃ w : Nat, Good q.1.1 q.1.2 w ∧ (q.1.1.length : Int) ≤ n ∧ (w : Int) ≤ m := by
  by_cases h : (1 ≤ n ∧ n ≤ 12) ∧ 1 ≤ m ∧ m ≤ 5
  · obtain ⟨d, ms, e, p, t, w, b', rfl, rfl, g, h1, h2⟩ := (scale_ok b n.toNat m.toNat (by omega) (by omega) (by omega) (by omega)).get
    rw [Int.toNat_of_nonneg (by omega), Int.toNat_of_nonneg (by omega)] at e
    exact ⟨((p, t), b'), fun _ _ _ _ => ⟨e, w, g, by show (p.length : Int) ≤ n; omega, by omega⟩⟩
  · exact ⟨(([], []), b), fun h1 h2 h3 h4 => absurd ⟨⟨h1, h2⟩, h3, h4⟩ h⟩
noncomputable def scP (b : Bag) (n m : Int) : List Nat := (scale_ex b n m).choose.1.1
noncomputable def scT (b : Bag) (n m : Int) : List (List Nat) := (scale_ex b n m).choose.1.2
noncomputable def scB (b : Bag) (n m : Int) : Bag := (scale_ex b n m).choose.2
theorem okC_scale {Ec : EC} {b : Bag} {n m : Int} {Q : D → List D → Prop} (h1 : 1 ≤ n) (h2 : n ≤ 12) (h3 : 1 ≤ m) (h4 : m ≤ 5) : OkCE Ec (m__law_scale [bg b, I n, I m]) Q = Q (plO (scP b n m) (scT b n m)) [bg (scB b n m)] := okC_of ((scale_ex b n m).choose_spec h1 h2 h3 h4).1
theorem scale_good {b : Bag} {n m : Int} (h1 : 1 ≤ n) (h2 : n ≤ 12) (h3 : 1 ≤ m) (h4 : m ≤ 5) : ∃ w : Nat, Good (scP b n m) (scT b n m) w ∧ ((scP b n m).length : Int) ≤ n ∧ (w : Int) ≤ m := ((scale_ex b n m).choose_spec h1 h2 h3 h4).2
end Law
end
section
open Lin
local macro_rules | `(tactic| simp_arith [$ts,*]) => `(tactic| simp only [ok_var, ok_fz, ok_callT, ok_dispT, ok_iseqA, rdum_nil, rdum_none, rdum_cons, backT_nil, backT_val, backT_tmp, backT_ref, ok_mv, ok_lit, ok_two, ok_one, ok_test, ok_nil, ok_cons, ok_consK, ok_star, ok_many, ok_and, ok_or, ok_not, ok_ifE, ok_andV, ok_orV, ok_next, ok_seq, okF_nx, okF_ret, okF_brk, okF_cnt, ok_if, ok_ret, ok_retN, ok_expr, ok_asg, so_gset, ok_mutE, ok_setE, ok_call, ok_refs, ok_refsL, ok_for, ok_iseqE, ok_rg1, ok_rg2, ok_yes, ok_chn, imV_im, ok_disp, ok_newK, ok_mk, ok_lc, okC_fin, okC_finx, ok_raise0, ok_raise1, raiV_t,
  so_some, if_true, if_false, ite_true, ite_false, reduceIte, Bool.false_eq_true, Bool.true_eq_false, and_self, true_and, and_true, false_and, and_false, or_false, false_or, not_true_eq_false, not_false_eq_true, ne_eq, reduceCtorEq, Bool.not_true, Bool.not_false, Bool.and_true, Bool.true_and, Bool.and_false, Bool.false_and, Bool.or_true, Bool.true_or, Bool.or_false, Bool.false_or, Bool.not_eq_true', Bool.not_eq_false', Bool.not_not, decide_true, decide_false, decide_eq_true_eq, decide_not, decide_eq_false_iff_not,
  List.getElem?_nil, List.getElem?_cons_zero, List.getElem?_cons_succ, List.set_cons_zero, List.set_cons_succ, List.map_cons, List.map_nil, List.cons_append, List.nil_append, List.length_cons, List.length_nil, List.zip_cons_cons, List.zip_nil_right, List.all_cons, List.all_nil, List.filterMap_cons, List.filterMap_nil, List.replicate, List.not_mem_nil, List.mem_cons, Option.isNone_none, Option.isNone_some, Option.map_some, Option.map_none, id_eq, Nat.reduceAdd, Nat.reduceSub, Nat.reduceEqDiff, Nat.zero_ne_one, Kd.bor.injEq, List.foldr_cons, List.foldr_nil,
  clean_nil, clean_cons, clean_non, mk_im, bor_im, kill_im, kill_none, of_im, fzIf_im, fzIf_t, fzIf_f, en_mk, bo_own, bo_frz, bo_par, bo_bor, fz_own, fz_frz, fz_par', fz_bor', pa_own, pa_frz, pa_par, pa_bor, re_own, re_frz, re_par, re_bor, bor_en, kill_en, kill_opt, of_en, en_im,
  len_en, len_enT, len_enD, ix_en, ix_enT0, ix_enT1, list_en, isi_en, isi_int, isi_bool, tru_en, isn_en, isn_non, isn_I, seq_en, not_B, neg_I, min_I, max_I, in_en, notIn_en, in_LN, notIn_LN, sorted_en, list_enD, eq_LN, ne_LN, eq_LLN, ne_LLN, it_en,
  add_I, sub_I, lt_I, le_I, gt_I, ge_I, eq_I, ne_I, dbool_B, dtru_B, toInt_I, toInt_B, abs_I, shOk_L, ok_own, ok_xfE, xfD_some, ok_isX, isXD_a, cutH1, cutHN, all_clean, dLst_s, dTup_s, en_L0, Nat.reduceLT, Nat.reduceLeDiff, Int.reduceLT, Int.reduceLE, Int.reduceEq, Nat.lt_add_left_iff_pos, Nat.zero_add, bor_nd, kill_d, of_nd, mk_nd, List.any_cons, List.any_nil, beq_self_eq_true, en_LNp, en_LNo, en_LNb, mut_clear, argsD, backS, setAll, usOf, wipeS, $ts,*])
namespace Law
open PySem L2 Lin
/-- a scale's fields -/
theorem fld_rates {k c : Kd} {p : List Nat} {t : List (List Nat)} : dFld 0 "rates" (en k c (sc p t)) = some (en c .frz (pL pN p)) := by
  unfold sc; rw [en_pO]
  simp only [dFld, if_true, List.map_cons, List.zip_cons_cons, List.lookup_cons, beq_self_eq_true]
  rw [en_pL, en_pL]; rfl
theorem str_ne : ("moves" : Str) ≠ "rates" := by decide
theorem fld_moves {k c : Kd} {p : List Nat} {t : List (List Nat)} : dFld 0 "moves" (en k c (sc p t)) = some (en c c (pL (pL pN) t)) := by
  unfold sc; rw [en_pO]
  have : (("moves" : Str) == "rates") = false := by simpa using str_ne
  simp only [dFld, if_true, List.map_cons, List.zip_cons_cons, List.lookup_cons, beq_self_eq_true, this]
theorem obj_sc {k c : Kd} {p : List Nat} {t : List (List Nat)} {m : Str} (h : ¬ (["rates", "moves"] : List Str).contains m = true) : isObjD 0 m (en k c (sc p t)) = true := by
  unfold sc; rw [en_pO]
  simp only [isObjD, beq_self_eq_true, Bool.true_and]
  simpa using h
end Law
end
section
open Lin
local macro_rules | `(tactic| simp_arith [$ts,*]) => `(tactic| simp only [ok_var, ok_fz, ok_callT, ok_dispT, ok_iseqA, rdum_nil, rdum_none, rdum_cons, backT_nil, backT_val, backT_tmp, backT_ref, ok_mv, ok_lit, ok_two, ok_one, ok_test, ok_nil, ok_cons, ok_consK, ok_star, ok_many, ok_and, ok_or, ok_not, ok_ifE, ok_andV, ok_orV, ok_next, ok_seq, okF_nx, okF_ret, okF_brk, okF_cnt, ok_if, ok_ret, ok_retN, ok_expr, ok_asg, so_gset, ok_mutE, ok_setE, ok_call, ok_refs, ok_refsL, ok_for, ok_iseqE, ok_rg1, ok_rg2, ok_yes, ok_chn, imV_im, ok_disp, ok_newK, ok_mk, ok_lc, okC_fin, okC_finx, ok_raise0, ok_raise1, raiV_t,
  so_some, if_true, if_false, ite_true, ite_false, reduceIte, Bool.false_eq_true, Bool.true_eq_false, and_self, true_and, and_true, false_and, and_false, or_false, false_or, not_true_eq_false, not_false_eq_true, ne_eq, reduceCtorEq, Bool.not_true, Bool.not_false, Bool.and_true, Bool.true_and, Bool.and_false, Bool.false_and, Bool.or_true, Bool.true_or, Bool.or_false, Bool.false_or, Bool.not_eq_true', Bool.not_eq_false', Bool.not_not, decide_true, decide_false, decide_eq_true_eq, decide_not, decide_eq_false_iff_not,
  List.getElem?_nil, List.getElem?_cons_zero, List.getElem?_cons_succ, List.set_cons_zero, List.set_cons_succ, List.map_cons, List.map_nil, List.cons_append, List.nil_append, List.length_cons, List.length_nil, List.zip_cons_cons, List.zip_nil_right, List.all_cons, List.all_nil, List.filterMap_cons, List.filterMap_nil, List.replicate, List.not_mem_nil, List.mem_cons, Option.isNone_none, Option.isNone_some, Option.map_some, Option.map_none, id_eq, Nat.reduceAdd, Nat.reduceSub, Nat.reduceEqDiff, Nat.zero_ne_one, Kd.bor.injEq, List.foldr_cons, List.foldr_nil,
  clean_nil, clean_cons, clean_non, mk_im, bor_im, kill_im, kill_none, of_im, fzIf_im, fzIf_t, fzIf_f, en_mk, bo_own, bo_frz, bo_par, bo_bor, fz_own, fz_frz, fz_par', fz_bor', pa_own, pa_frz, pa_par, pa_bor, re_own, re_frz, re_par, re_bor, bor_en, kill_en, kill_opt, of_en, en_im,
  len_en, len_enT, len_enD, ix_en, ix_enT0, ix_enT1, list_en, isi_en, isi_int, isi_bool, tru_en, isn_en, isn_non, isn_I, seq_en, not_B, neg_I, min_I, max_I, in_en, notIn_en, in_LN, notIn_LN, sorted_en, list_enD, eq_LN, ne_LN, eq_LLN, ne_LLN, it_en,
  add_I, sub_I, lt_I, le_I, gt_I, ge_I, eq_I, ne_I, dbool_B, dtru_B, toInt_I, toInt_B, abs_I, shOk_L, ok_own, ok_xfE, xfD_some, ok_isX, isXD_a, cutH1, cutHN, all_clean, dLst_s, dTup_s, en_L0, Nat.reduceLT, Nat.reduceLeDiff, Int.reduceLT, Int.reduceLE, Int.reduceEq, Nat.lt_add_left_iff_pos, Nat.zero_add, bor_nd, kill_d, of_nd, mk_nd, List.any_cons, List.any_nil, beq_self_eq_true, en_LNp, en_LNo, en_LNb, mut_clear, argsD, backS, setAll, usOf, wipeS, $ts,*])
namespace Law
open PySem L2 Lin
def optN (o : Option Nat) : Option D := o.map fun i : Nat => I i
theorem optN_kill (o : Option Nat) (r : Nat) : killD r (optN o) = optN o := by cases o <;> rfl
theorem optN_some (n : Nat) : some (D.im (V.int (n : Int))) = optN (some n) := rfl
theorem optN_none : (none : Option D) = optN none := rfl
end Law
end
section
open Lin
local macro_rules | `(tactic| simp_arith [$ts,*]) => `(tactic| simp only [ok_var, ok_fz, ok_callT, ok_dispT, ok_iseqA, rdum_nil, rdum_none, rdum_cons, backT_nil, backT_val, backT_tmp, backT_ref, ok_mv, ok_lit, ok_two, ok_one, ok_test, ok_nil, ok_cons, ok_consK, ok_star, ok_many, ok_and, ok_or, ok_not, ok_ifE, ok_andV, ok_orV, ok_next, ok_seq, okF_nx, okF_ret, okF_brk, okF_cnt, ok_if, ok_ret, ok_retN, ok_expr, ok_asg, so_gset, ok_mutE, ok_setE, ok_call, ok_refs, ok_refsL, ok_for, ok_iseqE, ok_rg1, ok_rg2, ok_yes, ok_chn, imV_im, ok_disp, ok_newK, ok_mk, ok_lc, okC_fin, okC_finx, ok_raise0, ok_raise1, raiV_t,
  so_some, if_true, if_false, ite_true, ite_false, reduceIte, Bool.false_eq_true, Bool.true_eq_false, and_self, true_and, and_true, false_and, and_false, or_false, false_or, not_true_eq_false, not_false_eq_true, ne_eq, reduceCtorEq, Bool.not_true, Bool.not_false, Bool.and_true, Bool.true_and, Bool.and_false, Bool.false_and, Bool.or_true, Bool.true_or, Bool.or_false, Bool.false_or, Bool.not_eq_true', Bool.not_eq_false', Bool.not_not, decide_true, decide_false, decide_eq_true_eq, decide_not, decide_eq_false_iff_not,
  List.getElem?_nil, List.getElem?_cons_zero, List.getElem?_cons_succ, List.set_cons_zero, List.set_cons_succ, List.map_cons, List.map_nil, List.cons_append, List.nil_append, List.length_cons, List.length_nil, List.zip_cons_cons, List.zip_nil_right, List.all_cons, List.all_nil, List.filterMap_cons, List.filterMap_nil, List.replicate, List.not_mem_nil, List.mem_cons, Option.isNone_none, Option.isNone_some, Option.map_some, Option.map_none, id_eq, Nat.reduceAdd, Nat.reduceSub, Nat.reduceEqDiff, Nat.zero_ne_one, Kd.bor.injEq, List.foldr_cons, List.foldr_nil,
  clean_nil, clean_cons, clean_non, mk_im, bor_im, kill_im, kill_none, of_im, fzIf_im, fzIf_t, fzIf_f, en_mk, bo_own, bo_frz, bo_par, bo_bor, fz_own, fz_frz, fz_par', fz_bor', pa_own, pa_frz, pa_par, pa_bor, re_own, re_frz, re_par, re_bor, bor_en, kill_en, kill_opt, of_en, en_im,
  len_en, len_enT, len_enD, ix_en, ix_enT0, ix_enT1, list_en, isi_en, isi_int, isi_bool, tru_en, isn_en, isn_non, isn_I, seq_en, not_B, neg_I, min_I, max_I, in_en, notIn_en, in_LN, notIn_LN, sorted_en, list_enD, eq_LN, ne_LN, eq_LLN, ne_LLN, it_en,
  add_I, sub_I, lt_I, le_I, gt_I, ge_I, eq_I, ne_I, dbool_B, dtru_B, toInt_I, toInt_B, abs_I, shOk_L, ok_own, ok_xfE, xfD_some, ok_isX, isXD_a, cutH1, cutHN, all_clean, dLst_s, dTup_s, en_L0, Nat.reduceLT, Nat.reduceLeDiff, Int.reduceLT, Int.reduceLE, Int.reduceEq, Nat.lt_add_left_iff_pos, Nat.zero_add, bor_nd, kill_d, of_nd, mk_nd, List.any_cons, List.any_nil, beq_self_eq_true, en_LNp, en_LNo, en_LNb, mut_clear, argsD, backS, setAll, usOf, wipeS, $ts,*])
namespace Law
open PySem L2 Lin
theorem oc : ¬ (["rates", "moves"] : List Str).contains "check_class" = true := by decide
theorem ow : ¬ (["rates", "moves"] : List Str).contains "ways" = true := by decide
theorem ow' : ¬ (["rates", "moves"] : List Str).contains "way" = true := by decide
theorem orr : ¬ (["rates", "moves"] : List Str).contains "reached" = true := by decide
theorem op' : ¬ (["rates", "moves"] : List Str).contains "premiums" = true := by decide
theorem ot' : ¬ (["rates", "moves"] : List Str).contains "table" = true := by decide
theorem check_ok {k c : Kd} {p : List Nat} {t : List (List Nat)} {a : Nat} (ha : a < p.length) : m_Scale_check_class [en k c (sc p t), I a] = .ok (.im .non) [] := by
  refine of_okC ?_
  unfold m_Scale_check_class b_Scale_check_class
  have h1 : ¬ ((p.length : Int) ≤ (a : Int)) := by omega
  simp_arith [okC_sem, okC_of (is_integer_ok _ _), show (0 : Int) ≤ (a : Int) by omega, fld_rates, h1]
end Law
end
section
open Lin
local macro_rules | `(tactic| simp_arith [$ts,*]) => `(tactic| simp only [ok_var, ok_fz, ok_callT, ok_dispT, ok_iseqA, rdum_nil, rdum_none, rdum_cons, backT_nil, backT_val, backT_tmp, backT_ref, ok_mv, ok_lit, ok_two, ok_one, ok_test, ok_nil, ok_cons, ok_consK, ok_star, ok_many, ok_and, ok_or, ok_not, ok_ifE, ok_andV, ok_orV, ok_next, ok_seq, okF_nx, okF_ret, okF_brk, okF_cnt, ok_if, ok_ret, ok_retN, ok_expr, ok_asg, so_gset, ok_mutE, ok_setE, ok_call, ok_refs, ok_refsL, ok_for, ok_iseqE, ok_rg1, ok_rg2, ok_yes, ok_chn, imV_im, ok_disp, ok_newK, ok_mk, ok_lc, okC_fin, okC_finx, ok_raise0, ok_raise1, raiV_t,
  so_some, if_true, if_false, ite_true, ite_false, reduceIte, Bool.false_eq_true, Bool.true_eq_false, and_self, true_and, and_true, false_and, and_false, or_false, false_or, not_true_eq_false, not_false_eq_true, ne_eq, reduceCtorEq, Bool.not_true, Bool.not_false, Bool.and_true, Bool.true_and, Bool.and_false, Bool.false_and, Bool.or_true, Bool.true_or, Bool.or_false, Bool.false_or, Bool.not_eq_true', Bool.not_eq_false', Bool.not_not, decide_true, decide_false, decide_eq_true_eq, decide_not, decide_eq_false_iff_not,
  List.getElem?_nil, List.getElem?_cons_zero, List.getElem?_cons_succ, List.set_cons_zero, List.set_cons_succ, List.map_cons, List.map_nil, List.cons_append, List.nil_append, List.length_cons, List.length_nil, List.zip_cons_cons, List.zip_nil_right, List.all_cons, List.all_nil, List.filterMap_cons, List.filterMap_nil, List.replicate, List.not_mem_nil, List.mem_cons, Option.isNone_none, Option.isNone_some, Option.map_some, Option.map_none, id_eq, Nat.reduceAdd, Nat.reduceSub, Nat.reduceEqDiff, Nat.zero_ne_one, Kd.bor.injEq, List.foldr_cons, List.foldr_nil,
  clean_nil, clean_cons, clean_non, mk_im, bor_im, kill_im, kill_none, of_im, fzIf_im, fzIf_t, fzIf_f, en_mk, bo_own, bo_frz, bo_par, bo_bor, fz_own, fz_frz, fz_par', fz_bor', pa_own, pa_frz, pa_par, pa_bor, re_own, re_frz, re_par, re_bor, bor_en, kill_en, kill_opt, of_en, en_im,
  len_en, len_enT, len_enD, ix_en, ix_enT0, ix_enT1, list_en, isi_en, isi_int, isi_bool, tru_en, isn_en, isn_non, isn_I, seq_en, not_B, neg_I, min_I, max_I, in_en, notIn_en, in_LN, notIn_LN, sorted_en, list_enD, eq_LN, ne_LN, eq_LLN, ne_LLN, it_en,
  add_I, sub_I, lt_I, le_I, gt_I, ge_I, eq_I, ne_I, dbool_B, dtru_B, toInt_I, toInt_B, abs_I, shOk_L, ok_own, ok_xfE, xfD_some, ok_isX, isXD_a, cutH1, cutHN, all_clean, dLst_s, dTup_s, en_L0, Nat.reduceLT, Nat.reduceLeDiff, Int.reduceLT, Int.reduceLE, Int.reduceEq, Nat.lt_add_left_iff_pos, Nat.zero_add, bor_nd, kill_d, of_nd, mk_nd, List.any_cons, List.any_nil, beq_self_eq_true, en_LNp, en_LNo, en_LNb, mut_clear, argsD, backS, setAll, usOf, wipeS, $ts,*])
namespace Law
open PySem L2 Lin
theorem Tab.get {t : List (List Nat)} {n w : Nat} (h : Tab t n w) {a : Nat} (ha : a < n) : a < t.length ∧ (t.getD a []).length = w ∧ ∀ x ∈ t.getD a [], x < n := by
  have hl := h.len
  have : a < t.length := by omega
  have e : t.getD a [] = t[a] := by simp [this]
  rw [e]
  exact ⟨this, h.row _ (List.getElem_mem this)⟩
end Law
end
section
namespace Bfs
abbrev Es := List (Nat × List Nat)
def keys (E : Es) : List Nat := E.map Prod.fst
def bRow (row w : List Nat) (E0 : Es) : Nat → Es
  | 0 => E0
  | j + 1 => if row.getD j 0 ∈ keys (bRow row w E0 j) then bRow row w E0 j else bRow row w E0 j ++ [(row.getD j 0, w ++ [j])]
def bNode (t : List (List Nat)) (E : Es) (k : Nat) : Es := match E[k]? with
  | some e => bRow (t.getD e.1 []) e.2 E (t.getD e.1 []).length
  | none => E
def bRun (t : List (List Nat)) (s : Nat) : Nat → Es
  | 0 => [(s, [])]
  | k + 1 => bNode t (bRun t s k) k
def led (t : List (List Nat)) (a c : Nat) : Nat := (t.getD a []).getD (min c ((t.getD a []).length - 1)) 0
def run (t : List (List Nat)) (s : Nat) (w : List Nat) : Nat := w.foldl (led t) s
structure BI (t : List (List Nat)) (n s : Nat) (E : Es) : Prop where
  nd : (keys E).Nodup
  lt : ∀ e ∈ E, e.1 < n
  path : ∀ e ∈ E, run t s e.2 = e.1
  wl : ∀ (i : Nat) e, E[i]? = some e → e.2.length ≤ i
theorem nodup_lt {n : Nat} : ∀ {xs : List Nat}, xs.Nodup → (∀ x ∈ xs, x < n) → xs.length ≤ n := by
  induction n with
  | zero => intro xs _ h; cases xs with | nil => simp | cons a r => exact absurd (h a (by simp)) (by omega)
  | succ n ih =>
    intro xs hn h
    have h1 := ih (xs := xs.erase n) (hn.erase n) (fun x hx => by
      have h2 := h x (List.mem_of_mem_erase hx)
      have h3 : x ≠ n := fun e => by subst e; exact (List.Nodup.not_mem_erase hn) hx
      omega)
    have h4 := List.length_erase (a := n) (l := xs)
    split at h4 <;> omega
theorem BI.len {t : List (List Nat)} {n s : Nat} {E : Es} (h : BI t n s E) : E.length ≤ n := by
  have := nodup_lt h.nd (fun x hx => by
    obtain ⟨e, he, rfl⟩ := List.mem_map.mp hx
    exact h.lt e he)
  simpa [keys] using this
theorem keys_append (A B : Es) : keys (A ++ B) = keys A ++ keys B := by simp [keys]
theorem keys_len (A : Es) : (keys A).length = A.length := by simp [keys]
theorem lookup_of {α : Type} {E : List (Nat × α)} (hn : (E.map Prod.fst).Nodup) {a : Nat} {w : α} (h : (a, w) ∈ E) : E.lookup a = some w := by
  induction E with
  | nil => cases h
  | cons e r ih =>
    obtain ⟨b, v⟩ := e
    rw [List.lookup_cons]
    simp only [List.map_cons, List.nodup_cons] at hn
    rcases List.mem_cons.mp h with h | h
    · cases h; simp
    · have : a ≠ b := fun z => hn.1 (by rw [← z]; exact List.mem_map.mpr ⟨_, h, rfl⟩)
      have q : (a == b) = false := by simpa using this
      rw [q]
      exact ih hn.2 h
section
variable {t : List (List Nat)} {n s : Nat} {row w : List Nat} {E0 : Es}
theorem bRow_pre (j : Nat) : E0 <+: bRow row w E0 j := by
  induction j with
  | zero => exact List.prefix_refl _
  | succ j ih =>
    rw [bRow]
    split
    · exact ih
    · exact ih.trans (List.prefix_append _ _)
theorem bRow_inv {a q : Nat} (h : BI t n s E0) (hq0 : E0[q]? = some (a, w)) (hr : t.getD a [] = row) (hx : ∀ x ∈ row, x < n) : ∀ j, j ≤ row.length → BI t n s (bRow row w E0 j) := by
  intro j
  have ha := List.mem_of_getElem? hq0
  induction j with
  | zero => intro _; exact h
  | succ j ih =>
    intro hj
    have g := ih (by omega)
    have hlen := (bRow_pre (row := row) (w := w) (E0 := E0) j).length_le
    have hq1 := (List.getElem?_eq_some_iff.mp hq0).1
    have hq2 := h.wl q _ hq0
    have hget : row.getD j 0 = row[j] := by simp [show j < row.length by omega]
    rw [bRow]
    split
    · exact g
    · rename_i hq
      refine ⟨?_, ?_, ?_, ?_⟩
      rotate_right
      · intro i e he
        by_cases hi : i < (bRow row w E0 j).length
        · rw [List.getElem?_append_left hi] at he
          exact g.wl i e he
        · rw [List.getElem?_append_right (by omega)] at he
          have h0 : i - (bRow row w E0 j).length = 0 := by
            have := (List.getElem?_eq_some_iff.mp he).1
            simp at this; omega
          rw [h0] at he
          simp at he
          subst he
          show (w ++ [j]).length ≤ i
          simp
          simp at hq2
          omega
      · rw [keys_append, List.nodup_append]
        refine ⟨g.nd, by simp [keys], ?_⟩
        intro x hx y hy
        simp [keys] at hy
        subst hy
        intro z; subst z; exact hq hx
      · intro e he
        rcases List.mem_append.mp he with he | he
        · exact g.lt e he
        · simp at he; subst he; show row.getD j 0 < n; rw [hget]; exact hx _ (List.getElem_mem _)
      · intro e he
        rcases List.mem_append.mp he with he | he
        · exact g.path e he
        · simp at he; subst he
          show run t s (w ++ [j]) = _
          unfold run
          rw [List.foldl_append]
          have hw : run t s w = a := h.path _ ha
          unfold run at hw
          rw [hw]
          show led t a j = _
          unfold led
          rw [hr, show min j (row.length - 1) = j by omega]
          simp [show j < row.length by omega]
theorem bNode_inv (h : BI t n s E0) (hx : ∀ a, a < n → ∀ x ∈ t.getD a [], x < n) (k : Nat) : BI t n s (bNode t E0 k) := by
  unfold bNode
  split
  · rename_i e he
    have hm := List.mem_of_getElem? he
    exact bRow_inv h (a := e.1) (q := k) he rfl (hx _ (h.lt e hm)) _ (Nat.le_refl _)
  · exact h
theorem bRun_inv (hs : s < n) (hx : ∀ a, a < n → ∀ x ∈ t.getD a [], x < n) (k : Nat) : BI t n s (bRun t s k) := by
  induction k with
  | zero => exact ⟨by simp [bRun, keys], fun e he => by simp [bRun] at he; subst he; exact hs, fun e he => by simp [bRun] at he; subst he; rfl, fun i e he => by
    have hm := List.mem_of_getElem? he
    simp [bRun] at hm; subst hm; simp⟩
  | succ k ih => exact bNode_inv ih hx k
theorem bRun_stay {k : Nat} (h : (bRun t s k).length ≤ k) : ∀ m, bRun t s (k + m) = bRun t s k := by
  intro m
  induction m with
  | zero => rfl
  | succ m ih =>
    rw [← Nat.add_assoc, bRun, ih]
    unfold bNode
    rw [List.getElem?_eq_none (by omega)]
def bfs (t : List (List Nat)) (s n : Nat) : Es := bRun t s n
theorem bfs_of {k : Nat} (h : (bRun t s k).length ≤ k) (hk : k ≤ n) : bfs t s n = bRun t s k := by
  unfold bfs
  have := bRun_stay h (n - k)
  rw [show k + (n - k) = n by omega] at this
  exact this
end
end Bfs
end
section
open Lin
local macro_rules | `(tactic| simp_arith [$ts,*]) => `(tactic| simp only [ok_var, ok_fz, ok_callT, ok_dispT, ok_iseqA, rdum_nil, rdum_none, rdum_cons, backT_nil, backT_val, backT_tmp, backT_ref, ok_mv, ok_lit, ok_two, ok_one, ok_test, ok_nil, ok_cons, ok_consK, ok_star, ok_many, ok_and, ok_or, ok_not, ok_ifE, ok_andV, ok_orV, ok_next, ok_seq, okF_nx, okF_ret, okF_brk, okF_cnt, ok_if, ok_ret, ok_retN, ok_expr, ok_asg, so_gset, ok_mutE, ok_setE, ok_call, ok_refs, ok_refsL, ok_for, ok_iseqE, ok_rg1, ok_rg2, ok_yes, ok_chn, imV_im, ok_disp, ok_newK, ok_mk, ok_lc, okC_fin, okC_finx, ok_raise0, ok_raise1, raiV_t,
  so_some, if_true, if_false, ite_true, ite_false, reduceIte, Bool.false_eq_true, Bool.true_eq_false, and_self, true_and, and_true, false_and, and_false, or_false, false_or, not_true_eq_false, not_false_eq_true, ne_eq, reduceCtorEq, Bool.not_true, Bool.not_false, Bool.and_true, Bool.true_and, Bool.and_false, Bool.false_and, Bool.or_true, Bool.true_or, Bool.or_false, Bool.false_or, Bool.not_eq_true', Bool.not_eq_false', Bool.not_not, decide_true, decide_false, decide_eq_true_eq, decide_not, decide_eq_false_iff_not,
  List.getElem?_nil, List.getElem?_cons_zero, List.getElem?_cons_succ, List.set_cons_zero, List.set_cons_succ, List.map_cons, List.map_nil, List.cons_append, List.nil_append, List.length_cons, List.length_nil, List.zip_cons_cons, List.zip_nil_right, List.all_cons, List.all_nil, List.filterMap_cons, List.filterMap_nil, List.replicate, List.not_mem_nil, List.mem_cons, Option.isNone_none, Option.isNone_some, Option.map_some, Option.map_none, id_eq, Nat.reduceAdd, Nat.reduceSub, Nat.reduceEqDiff, Nat.zero_ne_one, Kd.bor.injEq, List.foldr_cons, List.foldr_nil,
  clean_nil, clean_cons, clean_non, mk_im, bor_im, kill_im, kill_none, of_im, fzIf_im, fzIf_t, fzIf_f, en_mk, bo_own, bo_frz, bo_par, bo_bor, fz_own, fz_frz, fz_par', fz_bor', pa_own, pa_frz, pa_par, pa_bor, re_own, re_frz, re_par, re_bor, bor_en, kill_en, kill_opt, of_en, en_im,
  len_en, len_enT, len_enD, ix_en, ix_enT0, ix_enT1, list_en, isi_en, isi_int, isi_bool, tru_en, isn_en, isn_non, isn_I, seq_en, not_B, neg_I, min_I, max_I, in_en, notIn_en, in_LN, notIn_LN, sorted_en, list_enD, eq_LN, ne_LN, eq_LLN, ne_LLN, it_en,
  add_I, sub_I, lt_I, le_I, gt_I, ge_I, eq_I, ne_I, dbool_B, dtru_B, toInt_I, toInt_B, abs_I, shOk_L, ok_own, ok_xfE, xfD_some, ok_isX, isXD_a, cutH1, cutHN, all_clean, dLst_s, dTup_s, en_L0, Nat.reduceLT, Nat.reduceLeDiff, Int.reduceLT, Int.reduceLE, Int.reduceEq, Nat.lt_add_left_iff_pos, Nat.zero_add, bor_nd, kill_d, of_nd, mk_nd, List.any_cons, List.any_nil, beq_self_eq_true, en_LNp, en_LNo, en_LNb, mut_clear, argsD, backS, setAll, usOf, wipeS, $ts,*])
namespace Law
open PySem L2 Lin Bfs
section
variable {p : List Nat} {t : List (List Nat)} {w s : Nat} {k : Kd}
theorem Tab.led_lt (h : Tab t p.length w) {a : Nat} (ha : a < p.length) (c : Nat) : led t a c < p.length := by
  obtain ⟨h1, h2, h3⟩ := h.get ha
  have := h.w1
  unfold led
  have hl : min c ((t.getD a []).length - 1) < (t.getD a []).length := by omega
  generalize t.getD a [] = row at h3 hl
  generalize min c (row.length - 1) = q at hl
  rw [show row.getD q 0 = row[q] by simp [hl]]
  exact h3 _ (List.getElem_mem _)
theorem Tab.run_lt (h : Tab t p.length w) : ∀ (ws : List Nat) {a : Nat}, a < p.length → run t a ws < p.length
  | [], a, ha => ha
  | c :: ws, a, ha => Tab.run_lt h ws (h.led_lt ha c)
theorem led_ok (h : Good p t w) {a c : Nat} (ha : a < p.length) : m__law_led [en .frz .frz (pl p t), I a, I c] = .ok (I (led t a c)) [] := by
  refine of_okC ?_
  unfold m__law_led b__law_led
  obtain ⟨hat, hrl, hrx⟩ := h.tab.get ha
  obtain ⟨row, hrow⟩ : ∃ row, t[a]? = some row := ⟨_, List.getElem?_eq_getElem hat⟩
  have hgd : t.getD a [] = row := by simp [List.getD, hrow]
  rw [hgd] at hrl hrx
  have h1 := h.tab.w1
  have e1 : (if (row.length : Int) - 1 < (c : Int) then (row.length : Int) - 1 else (c : Int)) = ((min c (row.length - 1) : Nat) : Int) := by split <;> omega
  have hl : min c (row.length - 1) < row.length := by omega
  simp_arith [okC_sem, pl, ix_enq hrow, e1, ix_en hl]
  unfold led
  rw [hgd]
  simp [hl]
end
end Law
end
section
open Lin
local macro_rules | `(tactic| simp_arith [$ts,*]) => `(tactic| simp only [ok_var, ok_fz, ok_callT, ok_dispT, ok_iseqA, rdum_nil, rdum_none, rdum_cons, backT_nil, backT_val, backT_tmp, backT_ref, ok_mv, ok_lit, ok_two, ok_one, ok_test, ok_nil, ok_cons, ok_consK, ok_star, ok_many, ok_and, ok_or, ok_not, ok_ifE, ok_andV, ok_orV, ok_next, ok_seq, okF_nx, okF_ret, okF_brk, okF_cnt, ok_if, ok_ret, ok_retN, ok_expr, ok_asg, so_gset, ok_mutE, ok_setE, ok_call, ok_refs, ok_refsL, ok_for, ok_iseqE, ok_rg1, ok_rg2, ok_yes, ok_chn, imV_im, ok_disp, ok_newK, ok_mk, ok_lc, okC_fin, okC_finx, ok_raise0, ok_raise1, raiV_t,
  so_some, if_true, if_false, ite_true, ite_false, reduceIte, Bool.false_eq_true, Bool.true_eq_false, and_self, true_and, and_true, false_and, and_false, or_false, false_or, not_true_eq_false, not_false_eq_true, ne_eq, reduceCtorEq, Bool.not_true, Bool.not_false, Bool.and_true, Bool.true_and, Bool.and_false, Bool.false_and, Bool.or_true, Bool.true_or, Bool.or_false, Bool.false_or, Bool.not_eq_true', Bool.not_eq_false', Bool.not_not, decide_true, decide_false, decide_eq_true_eq, decide_not, decide_eq_false_iff_not,
  List.getElem?_nil, List.getElem?_cons_zero, List.getElem?_cons_succ, List.set_cons_zero, List.set_cons_succ, List.map_cons, List.map_nil, List.cons_append, List.nil_append, List.length_cons, List.length_nil, List.zip_cons_cons, List.zip_nil_right, List.all_cons, List.all_nil, List.filterMap_cons, List.filterMap_nil, List.replicate, List.not_mem_nil, List.mem_cons, Option.isNone_none, Option.isNone_some, Option.map_some, Option.map_none, id_eq, Nat.reduceAdd, Nat.reduceSub, Nat.reduceEqDiff, Nat.zero_ne_one, Kd.bor.injEq, List.foldr_cons, List.foldr_nil,
  clean_nil, clean_cons, clean_non, mk_im, bor_im, kill_im, kill_none, of_im, fzIf_im, fzIf_t, fzIf_f, en_mk, bo_own, bo_frz, bo_par, bo_bor, fz_own, fz_frz, fz_par', fz_bor', pa_own, pa_frz, pa_par, pa_bor, re_own, re_frz, re_par, re_bor, bor_en, kill_en, kill_opt, of_en, en_im,
  len_en, len_enT, len_enD, ix_en, ix_enT0, ix_enT1, list_en, isi_en, isi_int, isi_bool, tru_en, isn_en, isn_non, isn_I, seq_en, not_B, neg_I, min_I, max_I, in_en, notIn_en, in_LN, notIn_LN, sorted_en, list_enD, eq_LN, ne_LN, eq_LLN, ne_LLN, it_en,
  add_I, sub_I, lt_I, le_I, gt_I, ge_I, eq_I, ne_I, dbool_B, dtru_B, toInt_I, toInt_B, abs_I, shOk_L, ok_own, ok_xfE, xfD_some, ok_isX, isXD_a, cutH1, cutHN, all_clean, dLst_s, dTup_s, en_L0, Nat.reduceLT, Nat.reduceLeDiff, Int.reduceLT, Int.reduceLE, Int.reduceEq, Nat.lt_add_left_iff_pos, Nat.zero_add, bor_nd, kill_d, of_nd, mk_nd, List.any_cons, List.any_nil, beq_self_eq_true, en_LNp, en_LNo, en_LNb, mut_clear, argsD, backS, setAll, usOf, wipeS, $ts,*])
namespace Law
open PySem L2 Lin
section
variable {p : List Nat} {t : List (List Nat)} {w s : Nat} {k : Kd}
theorem premiums_ok (hk : k = .frz ∨ k = .par) : m_Scale_premiums [en k k (sc p t)] = .ok (en .own .frz (pL pN p)) [] := by
  refine of_okC ?_
  unfold m_Scale_premiums b_Scale_premiums
  rcases hk with rfl | rfl <;> simp_arith [okC_sem, fld_rates]
theorem table_ok (h : Good p t w) (hk : k = .frz ∨ k = .par) : m_Scale_table [en k k (sc p t)] = .ok (en .own .own (pL (pL pN) t)) [] := by
  refine of_okC ?_
  unfold m_Scale_table b_Scale_table
  have hl := h.tab.len
  have hn := h.tab.n12
  rcases hk with rfl | rfl
  · simp_arith [okC_sem, fld_moves]
    refine lc_map (h := fun r : List Nat => en .own .frz (pL pN r)) (w := id) (by omega) rfl (fun r _ => by rw [en_mk]; rfl) ?_ ?_
    · intro y hy
      simp_arith []
    · simp_arith [List.map_id, fold_LL]
  · simp_arith [okC_sem, fld_moves]
    refine lc_map (h := fun r : List Nat => en .own .frz (pL pN r)) (w := id) (by omega) rfl (fun r _ => by rw [en_mk]; rfl) ?_ ?_
    · intro y hy
      simp_arith []
    · simp_arith [List.map_id, fold_LL]
theorem like_ok (h : Good p t w) : m__law_like [en .frz .frz (sc p t), en .frz .frz (pl p t)] = .ok (B true) [] := by
  refine of_okC ?_
  unfold m__law_like b__law_like
  simp_arith [okC_sem, obj_sc op', obj_sc ot', okC_of (premiums_ok (.inl rfl)), okC_of (table_ok h (.inl rfl)), pl]
end
end Law
end
section
open Lin
local macro_rules | `(tactic| simp_arith [$ts,*]) => `(tactic| simp only [ok_var, ok_fz, ok_callT, ok_dispT, ok_iseqA, rdum_nil, rdum_none, rdum_cons, backT_nil, backT_val, backT_tmp, backT_ref, ok_mv, ok_lit, ok_two, ok_one, ok_test, ok_nil, ok_cons, ok_consK, ok_star, ok_many, ok_and, ok_or, ok_not, ok_ifE, ok_andV, ok_orV, ok_next, ok_seq, okF_nx, okF_ret, okF_brk, okF_cnt, ok_if, ok_ret, ok_retN, ok_expr, ok_asg, so_gset, ok_mutE, ok_setE, ok_call, ok_refs, ok_refsL, ok_for, ok_iseqE, ok_rg1, ok_rg2, ok_yes, ok_chn, imV_im, ok_disp, ok_newK, ok_mk, ok_lc, okC_fin, okC_finx, ok_raise0, ok_raise1, raiV_t,
  so_some, if_true, if_false, ite_true, ite_false, reduceIte, Bool.false_eq_true, Bool.true_eq_false, and_self, true_and, and_true, false_and, and_false, or_false, false_or, not_true_eq_false, not_false_eq_true, ne_eq, reduceCtorEq, Bool.not_true, Bool.not_false, Bool.and_true, Bool.true_and, Bool.and_false, Bool.false_and, Bool.or_true, Bool.true_or, Bool.or_false, Bool.false_or, Bool.not_eq_true', Bool.not_eq_false', Bool.not_not, decide_true, decide_false, decide_eq_true_eq, decide_not, decide_eq_false_iff_not,
  List.getElem?_nil, List.getElem?_cons_zero, List.getElem?_cons_succ, List.set_cons_zero, List.set_cons_succ, List.map_cons, List.map_nil, List.cons_append, List.nil_append, List.length_cons, List.length_nil, List.zip_cons_cons, List.zip_nil_right, List.all_cons, List.all_nil, List.filterMap_cons, List.filterMap_nil, List.replicate, List.not_mem_nil, List.mem_cons, Option.isNone_none, Option.isNone_some, Option.map_some, Option.map_none, id_eq, Nat.reduceAdd, Nat.reduceSub, Nat.reduceEqDiff, Nat.zero_ne_one, Kd.bor.injEq, List.foldr_cons, List.foldr_nil,
  clean_nil, clean_cons, clean_non, mk_im, bor_im, kill_im, kill_none, of_im, fzIf_im, fzIf_t, fzIf_f, en_mk, bo_own, bo_frz, bo_par, bo_bor, fz_own, fz_frz, fz_par', fz_bor', pa_own, pa_frz, pa_par, pa_bor, re_own, re_frz, re_par, re_bor, bor_en, kill_en, kill_opt, of_en, en_im,
  len_en, len_enT, len_enD, ix_en, ix_enT0, ix_enT1, list_en, isi_en, isi_int, isi_bool, tru_en, isn_en, isn_non, isn_I, seq_en, not_B, neg_I, min_I, max_I, in_en, notIn_en, in_LN, notIn_LN, sorted_en, list_enD, eq_LN, ne_LN, eq_LLN, ne_LLN, it_en,
  add_I, sub_I, lt_I, le_I, gt_I, ge_I, eq_I, ne_I, dbool_B, dtru_B, toInt_I, toInt_B, abs_I, shOk_L, ok_own, ok_xfE, xfD_some, ok_isX, isXD_a, cutH1, cutHN, all_clean, dLst_s, dTup_s, en_L0, Nat.reduceLT, Nat.reduceLeDiff, Int.reduceLT, Int.reduceLE, Int.reduceEq, Nat.lt_add_left_iff_pos, Nat.zero_add, bor_nd, kill_d, of_nd, mk_nd, List.any_cons, List.any_nil, beq_self_eq_true, en_LNp, en_LNo, en_LNb, mut_clear, argsD, backS, setAll, usOf, wipeS, $ts,*])
namespace Law
open PySem L2 Lin
def b0 (ns : List Int) : Bag := ⟨ns, 0, 0, 17, 0, by decide, by decide⟩
theorem bag_ok (sa : Option Addr) (ns : List Int) (d : D) (hd : d = .nd .frz .scr [] ∨ ∃ b, sa = some b ∧ d = .im (.ref b)) : m__law_bag sa ns [d] = .ok (bg (b0 ns)) [] := by
  refine of_okC ?_
  unfold m__law_bag b__law_bag
  have e : bListS sa ns [d.mk (kBo 0)] = some (iL .own ns) := by
    rcases hd with rfl | ⟨b, rfl, rfl⟩
    · rfl
    · simp [bListS, D.mk, intsD, iL]
  have o : ofD (iL .own ns) = true := of_iL ns
  have q : (iL .own ns).mk (kRet [false]) = iL .own ns := by rw [iL_mk]; rfl
  simp_arith [okC_sem, e, o, q]
  rfl
theorem scr_par (sa : Option Addr) (d : D) (hd : d = .nd .frz .scr [] ∨ ∃ b, sa = some b ∧ d = .im (.ref b)) : (d.mk (kBo 0)).mk kPar = d ∧ ∀ r, killD r (some d) = some d := by
  rcases hd with rfl | ⟨b, rfl, rfl⟩
  · exact ⟨rfl, fun _ => rfl⟩
  · exact ⟨rfl, fun _ => rfl⟩
end Law
end
section
open Lin
local macro_rules | `(tactic| simp_arith [$ts,*]) => `(tactic| simp only [ok_var, ok_fz, ok_callT, ok_dispT, ok_iseqA, rdum_nil, rdum_none, rdum_cons, backT_nil, backT_val, backT_tmp, backT_ref, ok_mv, ok_lit, ok_two, ok_one, ok_test, ok_nil, ok_cons, ok_consK, ok_star, ok_many, ok_and, ok_or, ok_not, ok_ifE, ok_andV, ok_orV, ok_next, ok_seq, okF_nx, okF_ret, okF_brk, okF_cnt, ok_if, ok_ret, ok_retN, ok_expr, ok_asg, so_gset, ok_mutE, ok_setE, ok_call, ok_refs, ok_refsL, ok_for, ok_iseqE, ok_rg1, ok_rg2, ok_yes, ok_chn, imV_im, ok_disp, ok_newK, ok_mk, ok_lc, okC_fin, okC_finx, ok_raise0, ok_raise1, raiV_t,
  so_some, if_true, if_false, ite_true, ite_false, reduceIte, Bool.false_eq_true, Bool.true_eq_false, and_self, true_and, and_true, false_and, and_false, or_false, false_or, not_true_eq_false, not_false_eq_true, ne_eq, reduceCtorEq, Bool.not_true, Bool.not_false, Bool.and_true, Bool.true_and, Bool.and_false, Bool.false_and, Bool.or_true, Bool.true_or, Bool.or_false, Bool.false_or, Bool.not_eq_true', Bool.not_eq_false', Bool.not_not, decide_true, decide_false, decide_eq_true_eq, decide_not, decide_eq_false_iff_not,
  List.getElem?_nil, List.getElem?_cons_zero, List.getElem?_cons_succ, List.set_cons_zero, List.set_cons_succ, List.map_cons, List.map_nil, List.cons_append, List.nil_append, List.length_cons, List.length_nil, List.zip_cons_cons, List.zip_nil_right, List.all_cons, List.all_nil, List.filterMap_cons, List.filterMap_nil, List.replicate, List.not_mem_nil, List.mem_cons, Option.isNone_none, Option.isNone_some, Option.map_some, Option.map_none, id_eq, Nat.reduceAdd, Nat.reduceSub, Nat.reduceEqDiff, Nat.zero_ne_one, Kd.bor.injEq, List.foldr_cons, List.foldr_nil,
  clean_nil, clean_cons, clean_non, mk_im, bor_im, kill_im, kill_none, of_im, fzIf_im, fzIf_t, fzIf_f, en_mk, bo_own, bo_frz, bo_par, bo_bor, fz_own, fz_frz, fz_par', fz_bor', pa_own, pa_frz, pa_par, pa_bor, re_own, re_frz, re_par, re_bor, bor_en, kill_en, kill_opt, of_en, en_im,
  len_en, len_enT, len_enD, ix_en, ix_enT0, ix_enT1, list_en, isi_en, isi_int, isi_bool, tru_en, isn_en, isn_non, isn_I, seq_en, not_B, neg_I, min_I, max_I, in_en, notIn_en, in_LN, notIn_LN, sorted_en, list_enD, eq_LN, ne_LN, eq_LLN, ne_LLN, it_en,
  add_I, sub_I, lt_I, le_I, gt_I, ge_I, eq_I, ne_I, dbool_B, dtru_B, toInt_I, toInt_B, abs_I, shOk_L, ok_own, ok_xfE, xfD_some, ok_isX, isXD_a, cutH1, cutHN, all_clean, dLst_s, dTup_s, en_L0, Nat.reduceLT, Nat.reduceLeDiff, Int.reduceLT, Int.reduceLE, Int.reduceEq, Nat.lt_add_left_iff_pos, Nat.zero_add, bor_nd, kill_d, of_nd, mk_nd, List.any_cons, List.any_nil, beq_self_eq_true, en_LNp, en_LNo, en_LNb, mut_clear, argsD, backS, setAll, usOf, wipeS, $ts,*])
namespace Law
open PySem L2 Lin
/-! any value, looked at -/
inductive Vis : P → Prop
  | non : Vis (.im .non)
  | bl (b : Bool) : Vis (.im (.bl b))
  | int (i : Int) : Vis (.im (.int i))
  | str (s : Str) : Vis (.im (.str s))
  | lst (vs : List P) : Vis (pL id vs)
  | tup (vs : List P) : Vis (pT vs)
def tyP : P → String
  | .im .non => "NoneType"
  | .im (.bl _) => "bool"
  | .im (.int _) => "int"
  | .im (.str _) => "str"
  | .nd .lst _ => "list"
  | _ => "tuple"
theorem kb : kitB "NoneType" "int" = some false ∧ kitB "bool" "int" = some true ∧ kitB "bool" "bool" = some true ∧ kitB "str" "int" = some false ∧ kitB "list" "int" = some false ∧ kitB "tuple" "int" = some false := by
  refine ⟨?_, ?_, ?_, ?_, ?_, ?_⟩ <;> first | rfl | decide +kernel
theorem kl : kitB "NoneType" "list" = some false ∧ kitB "bool" "list" = some false ∧ kitB "int" "list" = some false ∧ kitB "str" "list" = some false ∧ kitB "tuple" "list" = some false := by
  refine ⟨?_, ?_, ?_, ?_, ?_⟩ <;> first | rfl | decide +kernel
def isL : P → Bool
  | .nd .lst _ => true
  | _ => false
theorem isi_list {k c : Kd} {v : P} (h : Vis v) : immV vIsi [en k c v, .im (.ty "list")] = some (B (isL v)) := by
  obtain ⟨k1, k2, k3, k4, k5⟩ := kl
  cases h with
  | lst vs => rw [isi_en]; rfl
  | tup vs => rw [en_pT]; simp [immV, vIsi, tyN, k5]; rfl
  | _ => simp [en_im, immV, vIsi, tyN, k1, k2, k3, k4]; rfl
def isI : P → Bool
  | .im (.int _) => true
  | .im (.bl _) => true
  | _ => false
theorem isi_intV {k c : Kd} {v : P} (h : Vis v) : immV vIsi [en k c v, .im (.ty "int")] = some (B (isI v)) := by
  obtain ⟨k1, k2, k3, k4, k5, k6⟩ := kb
  cases h with
  | lst vs => rw [en_pL]; simp [immV, vIsi, tyN, k5]; rfl
  | tup vs => rw [en_pT]; simp [immV, vIsi, tyN, k6]; rfl
  | int i => rw [en_im, isi_int]; rfl
  | _ => simp [en_im, immV, vIsi, tyN, k1, k2, k4]; rfl
theorem isi_boolB (b : Bool) : immV vIsi [.im (.bl b), .im (.ty "bool")] = some (B true) := by simp [immV, vIsi, tyN, kb.2.2.1]
def isIntP (l : Int) : P → Bool
  | .im (.int i) => decide (l ≤ i)
  | _ => false
theorem is_integer_v {k c : Kd} {v : P} (h : Vis v) (l : Int) : m_is_integer [en k c v, I l] = .ok (B (isIntP l v)) [] := by
  have hi := fun k c => isi_intV (k := k) (c := c) h
  cases h with
  | int i => rw [en_im]; exact is_integer_ok i l
  | bl b =>
    refine of_okC ?_
    unfold m_is_integer b_is_integer
    simp only [en_im] at hi
    simp_arith [okC_sem, hi .own .own, isi_boolB, isI]
    rfl
  | non =>
    refine of_okC ?_
    unfold m_is_integer b_is_integer
    simp only [en_im] at hi
    simp_arith [okC_sem, hi .own .own, isI]
    rfl
  | str s =>
    refine of_okC ?_
    unfold m_is_integer b_is_integer
    simp only [en_im] at hi
    simp_arith [okC_sem, hi .own .own, isI]
    rfl
  | lst vs =>
    refine of_okC ?_
    unfold m_is_integer b_is_integer
    have e : isI (pL id vs) = false := rfl
    simp_arith [okC_sem, hi, e]
    rfl
  | tup vs =>
    refine of_okC ?_
    unfold m_is_integer b_is_integer
    have e : isI (pT vs) = false := rfl
    simp_arith [okC_sem, hi, e]
    rfl
def isPremP : P → Bool
  | .im (.int i) => decide (0 ≤ i) && decide (i ≤ 1000000)
  | _ => false
theorem is_premium_v {k c : Kd} {v : P} (h : Vis v) : m_is_premium [en k c v] = .ok (B (isPremP v)) [] := by
  by_cases hi : ∃ i, v = .im (.int i)
  · obtain ⟨i, rfl⟩ := hi
    rw [en_im]; exact is_premium_ok i
  · have e1 : isIntP 0 v = false := by unfold isIntP; split <;> first | rfl | exact absurd ⟨_, rfl⟩ hi
    have e2 : isPremP v = false := by unfold isPremP; split <;> first | rfl | exact absurd ⟨_, rfl⟩ hi
    refine of_okC ?_
    unfold m_is_premium b_is_premium
    simp_arith [okC_sem, okC_of (is_integer_v h _), e1, e2]
theorem bls_map (bs : List Bool) : dBls (bs.map fun b => B b) = some bs := by
  induction bs with
  | nil => rfl
  | cons n r ih => simp only [List.map_cons, dBls, ih]; rfl
theorem all_bls {k : Kd} (bs : List Bool) : immV vAll [.nd k .lst (bs.map fun b => B b)] = some (B (bs.all id)) := by
  simp only [immV, vAll, bls_map, Option.map_some]
end Law
end
section
open Lin
local macro_rules | `(tactic| simp_arith [$ts,*]) => `(tactic| simp only [ok_var, ok_fz, ok_callT, ok_dispT, ok_iseqA, rdum_nil, rdum_none, rdum_cons, backT_nil, backT_val, backT_tmp, backT_ref, ok_mv, ok_lit, ok_two, ok_one, ok_test, ok_nil, ok_cons, ok_consK, ok_star, ok_many, ok_and, ok_or, ok_not, ok_ifE, ok_andV, ok_orV, ok_next, ok_seq, okF_nx, okF_ret, okF_brk, okF_cnt, ok_if, ok_ret, ok_retN, ok_expr, ok_asg, so_gset, ok_mutE, ok_setE, ok_call, ok_refs, ok_refsL, ok_for, ok_iseqE, ok_rg1, ok_rg2, ok_yes, ok_chn, imV_im, ok_disp, ok_newK, ok_mk, ok_lc, okC_fin, okC_finx, ok_raise0, ok_raise1, raiV_t,
  so_some, if_true, if_false, ite_true, ite_false, reduceIte, Bool.false_eq_true, Bool.true_eq_false, and_self, true_and, and_true, false_and, and_false, or_false, false_or, not_true_eq_false, not_false_eq_true, ne_eq, reduceCtorEq, Bool.not_true, Bool.not_false, Bool.and_true, Bool.true_and, Bool.and_false, Bool.false_and, Bool.or_true, Bool.true_or, Bool.or_false, Bool.false_or, Bool.not_eq_true', Bool.not_eq_false', Bool.not_not, decide_true, decide_false, decide_eq_true_eq, decide_not, decide_eq_false_iff_not,
  List.getElem?_nil, List.getElem?_cons_zero, List.getElem?_cons_succ, List.set_cons_zero, List.set_cons_succ, List.map_cons, List.map_nil, List.cons_append, List.nil_append, List.length_cons, List.length_nil, List.zip_cons_cons, List.zip_nil_right, List.all_cons, List.all_nil, List.filterMap_cons, List.filterMap_nil, List.replicate, List.not_mem_nil, List.mem_cons, Option.isNone_none, Option.isNone_some, Option.map_some, Option.map_none, id_eq, Nat.reduceAdd, Nat.reduceSub, Nat.reduceEqDiff, Nat.zero_ne_one, Kd.bor.injEq, List.foldr_cons, List.foldr_nil,
  clean_nil, clean_cons, clean_non, mk_im, bor_im, kill_im, kill_none, of_im, fzIf_im, fzIf_t, fzIf_f, en_mk, bo_own, bo_frz, bo_par, bo_bor, fz_own, fz_frz, fz_par', fz_bor', pa_own, pa_frz, pa_par, pa_bor, re_own, re_frz, re_par, re_bor, bor_en, kill_en, kill_opt, of_en, en_im,
  len_en, len_enT, len_enD, ix_en, ix_enT0, ix_enT1, list_en, isi_en, isi_int, isi_bool, tru_en, isn_en, isn_non, isn_I, seq_en, not_B, neg_I, min_I, max_I, in_en, notIn_en, in_LN, notIn_LN, sorted_en, list_enD, eq_LN, ne_LN, eq_LLN, ne_LLN, it_en,
  add_I, sub_I, lt_I, le_I, gt_I, ge_I, eq_I, ne_I, dbool_B, dtru_B, toInt_I, toInt_B, abs_I, shOk_L, ok_own, ok_xfE, xfD_some, ok_isX, isXD_a, cutH1, cutHN, all_clean, dLst_s, dTup_s, en_L0, Nat.reduceLT, Nat.reduceLeDiff, Int.reduceLT, Int.reduceLE, Int.reduceEq, Nat.lt_add_left_iff_pos, Nat.zero_add, bor_nd, kill_d, of_nd, mk_nd, List.any_cons, List.any_nil, beq_self_eq_true, en_LNp, en_LNo, en_LNb, mut_clear, argsD, backS, setAll, usOf, wipeS, $ts,*])
namespace Law
open PySem L2 Lin Bfs
section
variable {p : List Nat} {t : List (List Nat)} {w s : Nat} {k : Kd}
theorem oled : ¬ (["rates", "moves"] : List Str).contains "led" = true := by decide
theorem oprem : ¬ (["rates", "moves"] : List Str).contains "premium" = true := by decide
theorem ocls : ¬ (["rates", "moves"] : List Str).contains "classes" = true := by decide
theorem obil : ¬ (["rates", "moves"] : List Str).contains "bills" = true := by decide
theorem ins_sc {c : Kd} : isInsD 0 (en k c (sc p t)) = true := ins_pO
theorem sled_ok (h : Good p t w) (hk : k = .frz ∨ k = .par) {a c : Nat} (ha : a < p.length) : m_Scale_led [en k k (sc p t), I a, I c] = .ok (I (led t a c)) [] := by
  refine of_okC ?_
  unfold m_Scale_led b_Scale_led
  obtain ⟨hat, hrl, hrx⟩ := h.tab.get ha
  obtain ⟨row, hrow⟩ : ∃ row, t[a]? = some row := ⟨_, List.getElem?_eq_getElem hat⟩
  have hgd : t.getD a [] = row := by simp [List.getD, hrow]
  rw [hgd] at hrl hrx
  have h1 := h.tab.w1
  have e1 : (if (row.length : Int) - 1 < (c : Int) then (row.length : Int) - 1 else (c : Int)) = ((min c (row.length - 1) : Nat) : Int) := by split <;> omega
  have hl : min c (row.length - 1) < row.length := by omega
  have kk : ∀ i, kBo i k = k := fun i => by rcases hk with rfl | rfl <;> rfl
  have kp : kPar k = k := by rcases hk with rfl | rfl <;> rfl
  simp_arith [okC_sem, kk, kp, obj_sc oc, okC_of (check_ok ha), okC_of (is_integer_ok _ _), show (0 : Int) ≤ (c : Int) by omega, fld_moves, ix_enq hrow, e1, ix_en hl]
  unfold led
  rw [hgd]
  simp [hl]
theorem call_ok (h : Good p t w) (hk : k = .frz ∨ k = .par) {a c : Nat} (ha : a < p.length) : m_Scaledd_calldd [en k k (sc p t), I a, I c] = .ok (I (led t a c)) [] := by
  refine of_okC ?_
  unfold m_Scaledd_calldd b_Scaledd_calldd
  have kk : ∀ i, kBo i k = k := fun i => by rcases hk with rfl | rfl <;> rfl
  have kp : kPar k = k := by rcases hk with rfl | rfl <;> rfl
  simp_arith [okC_sem, kk, kp, obj_sc oled, okC_of (sled_ok h hk ha)]
theorem slen_ok (hk : k = .frz ∨ k = .par) : m_Scaledd_lendd [en k k (sc p t)] = .ok (I p.length) [] := by
  refine of_okC ?_
  unfold m_Scaledd_lendd b_Scaledd_lendd
  simp_arith [okC_sem, fld_rates]
end
end Law
end
section
open Lin
local macro_rules | `(tactic| simp_arith [$ts,*]) => `(tactic| simp only [ok_var, ok_fz, ok_callT, ok_dispT, ok_iseqA, rdum_nil, rdum_none, rdum_cons, backT_nil, backT_val, backT_tmp, backT_ref, ok_mv, ok_lit, ok_two, ok_one, ok_test, ok_nil, ok_cons, ok_consK, ok_star, ok_many, ok_and, ok_or, ok_not, ok_ifE, ok_andV, ok_orV, ok_next, ok_seq, okF_nx, okF_ret, okF_brk, okF_cnt, ok_if, ok_ret, ok_retN, ok_expr, ok_asg, so_gset, ok_mutE, ok_setE, ok_call, ok_refs, ok_refsL, ok_for, ok_iseqE, ok_rg1, ok_rg2, ok_yes, ok_chn, imV_im, ok_disp, ok_newK, ok_mk, ok_lc, okC_fin, okC_finx, ok_raise0, ok_raise1, raiV_t,
  so_some, if_true, if_false, ite_true, ite_false, reduceIte, Bool.false_eq_true, Bool.true_eq_false, and_self, true_and, and_true, false_and, and_false, or_false, false_or, not_true_eq_false, not_false_eq_true, ne_eq, reduceCtorEq, Bool.not_true, Bool.not_false, Bool.and_true, Bool.true_and, Bool.and_false, Bool.false_and, Bool.or_true, Bool.true_or, Bool.or_false, Bool.false_or, Bool.not_eq_true', Bool.not_eq_false', Bool.not_not, decide_true, decide_false, decide_eq_true_eq, decide_not, decide_eq_false_iff_not,
  List.getElem?_nil, List.getElem?_cons_zero, List.getElem?_cons_succ, List.set_cons_zero, List.set_cons_succ, List.map_cons, List.map_nil, List.cons_append, List.nil_append, List.length_cons, List.length_nil, List.zip_cons_cons, List.zip_nil_right, List.all_cons, List.all_nil, List.filterMap_cons, List.filterMap_nil, List.replicate, List.not_mem_nil, List.mem_cons, Option.isNone_none, Option.isNone_some, Option.map_some, Option.map_none, id_eq, Nat.reduceAdd, Nat.reduceSub, Nat.reduceEqDiff, Nat.zero_ne_one, Kd.bor.injEq, List.foldr_cons, List.foldr_nil,
  clean_nil, clean_cons, clean_non, mk_im, bor_im, kill_im, kill_none, of_im, fzIf_im, fzIf_t, fzIf_f, en_mk, bo_own, bo_frz, bo_par, bo_bor, fz_own, fz_frz, fz_par', fz_bor', pa_own, pa_frz, pa_par, pa_bor, re_own, re_frz, re_par, re_bor, bor_en, kill_en, kill_opt, of_en, en_im,
  len_en, len_enT, len_enD, ix_en, ix_enT0, ix_enT1, list_en, isi_en, isi_int, isi_bool, tru_en, isn_en, isn_non, isn_I, seq_en, not_B, neg_I, min_I, max_I, in_en, notIn_en, in_LN, notIn_LN, sorted_en, list_enD, eq_LN, ne_LN, eq_LLN, ne_LLN, it_en,
  add_I, sub_I, lt_I, le_I, gt_I, ge_I, eq_I, ne_I, dbool_B, dtru_B, toInt_I, toInt_B, abs_I, shOk_L, ok_own, ok_xfE, xfD_some, ok_isX, isXD_a, cutH1, cutHN, all_clean, dLst_s, dTup_s, en_L0, Nat.reduceLT, Nat.reduceLeDiff, Int.reduceLT, Int.reduceLE, Int.reduceEq, Nat.lt_add_left_iff_pos, Nat.zero_add, bor_nd, kill_d, of_nd, mk_nd, List.any_cons, List.any_nil, beq_self_eq_true, en_LNp, en_LNo, en_LNb, mut_clear, argsD, backS, setAll, usOf, wipeS, $ts,*])
namespace Law
open PySem L2 Lin Bfs
def insN (a : Nat) : List Nat → List Nat
  | [] => [a]
  | b :: r => if a < b then a :: b :: r else if a = b then b :: r else b :: insN a r
def sdN (ns : List Nat) : List Nat := ns.foldr insN []
theorem ins_cast (a : Nat) : ∀ l : List Nat, insI (a : Int) (l.map fun n : Nat => (n : Int)) = (insN a l).map fun n : Nat => (n : Int)
  | [] => rfl
  | b :: r => by
    simp only [List.map_cons, insI, insN]
    by_cases h : a < b
    · rw [if_pos h, if_pos (by omega)]; rfl
    · rw [if_neg h, if_neg (by omega)]
      by_cases h2 : a = b
      · rw [if_pos h2, if_pos (by omega)]; rfl
      · rw [if_neg h2, if_neg (by omega), ins_cast a r]; rfl
theorem sd_cast : ∀ l : List Nat, sdI (l.map fun n : Nat => (n : Int)) = (sdN l).map fun n : Nat => (n : Int)
  | [] => rfl
  | b :: r => by
    show insI (b : Int) (sdI (r.map fun n : Nat => (n : Int))) = _
    rw [sd_cast r, ins_cast]; rfl
theorem ss_en {k c : Kd} {ns : List Nat} (h : ns.length < 60) : dSs [en k c (pL pN ns)] = some (en .own .frz (pL pN (sdN ns))) := by
  have e : dInts (ns.map fun n : Nat => I (n : Int)) = some (ns.map fun n : Nat => (n : Int)) := by
    induction ns with
    | nil => rfl
    | cons n r ih => simp only [List.map_cons, dInts, ih (by simp at h; omega)]; rfl
  rw [en_pL]
  show (dInts (ns.map fun n : Nat => I (n : Int))).bind _ = _
  rw [e]
  show (if (ns.map fun n : Nat => (n : Int)).length < 60 then some (intsD (sdI (ns.map fun n : Nat => (n : Int)))) else none) = _
  rw [List.length_map, if_pos h, sd_cast, ints_N]
end Law
end
section
open Lin
local macro_rules | `(tactic| simp_arith [$ts,*]) => `(tactic| simp only [ok_var, ok_fz, ok_callT, ok_dispT, ok_iseqA, rdum_nil, rdum_none, rdum_cons, backT_nil, backT_val, backT_tmp, backT_ref, ok_mv, ok_lit, ok_two, ok_one, ok_test, ok_nil, ok_cons, ok_consK, ok_star, ok_many, ok_and, ok_or, ok_not, ok_ifE, ok_andV, ok_orV, ok_next, ok_seq, okF_nx, okF_ret, okF_brk, okF_cnt, ok_if, ok_ret, ok_retN, ok_expr, ok_asg, so_gset, ok_mutE, ok_setE, ok_call, ok_refs, ok_refsL, ok_for, ok_iseqE, ok_rg1, ok_rg2, ok_yes, ok_chn, imV_im, ok_disp, ok_newK, ok_mk, ok_lc, okC_fin, okC_finx, ok_raise0, ok_raise1, raiV_t,
  so_some, if_true, if_false, ite_true, ite_false, reduceIte, Bool.false_eq_true, Bool.true_eq_false, and_self, true_and, and_true, false_and, and_false, or_false, false_or, not_true_eq_false, not_false_eq_true, ne_eq, reduceCtorEq, Bool.not_true, Bool.not_false, Bool.and_true, Bool.true_and, Bool.and_false, Bool.false_and, Bool.or_true, Bool.true_or, Bool.or_false, Bool.false_or, Bool.not_eq_true', Bool.not_eq_false', Bool.not_not, decide_true, decide_false, decide_eq_true_eq, decide_not, decide_eq_false_iff_not,
  List.getElem?_nil, List.getElem?_cons_zero, List.getElem?_cons_succ, List.set_cons_zero, List.set_cons_succ, List.map_cons, List.map_nil, List.cons_append, List.nil_append, List.length_cons, List.length_nil, List.zip_cons_cons, List.zip_nil_right, List.all_cons, List.all_nil, List.filterMap_cons, List.filterMap_nil, List.replicate, List.not_mem_nil, List.mem_cons, Option.isNone_none, Option.isNone_some, Option.map_some, Option.map_none, id_eq, Nat.reduceAdd, Nat.reduceSub, Nat.reduceEqDiff, Nat.zero_ne_one, Kd.bor.injEq, List.foldr_cons, List.foldr_nil,
  clean_nil, clean_cons, clean_non, mk_im, bor_im, kill_im, kill_none, of_im, fzIf_im, fzIf_t, fzIf_f, en_mk, bo_own, bo_frz, bo_par, bo_bor, fz_own, fz_frz, fz_par', fz_bor', pa_own, pa_frz, pa_par, pa_bor, re_own, re_frz, re_par, re_bor, bor_en, kill_en, kill_opt, of_en, en_im,
  len_en, len_enT, len_enD, ix_en, ix_enT0, ix_enT1, list_en, isi_en, isi_int, isi_bool, tru_en, isn_en, isn_non, isn_I, seq_en, not_B, neg_I, min_I, max_I, in_en, notIn_en, in_LN, notIn_LN, sorted_en, list_enD, eq_LN, ne_LN, eq_LLN, ne_LLN, it_en,
  add_I, sub_I, lt_I, le_I, gt_I, ge_I, eq_I, ne_I, dbool_B, dtru_B, toInt_I, toInt_B, abs_I, shOk_L, ok_own, ok_xfE, xfD_some, ok_isX, isXD_a, cutH1, cutHN, all_clean, dLst_s, dTup_s, en_L0, Nat.reduceLT, Nat.reduceLeDiff, Int.reduceLT, Int.reduceLE, Int.reduceEq, Nat.lt_add_left_iff_pos, Nat.zero_add, bor_nd, kill_d, of_nd, mk_nd, List.any_cons, List.any_nil, beq_self_eq_true, en_LNp, en_LNo, en_LNb, mut_clear, argsD, backS, setAll, usOf, wipeS, $ts,*])
namespace Law
open PySem L2 Lin Bfs
theorem it_T {k c : Kd} {xs : List Nat} : itD .tup (en k c (pT (xs.map pN))) = some (en (kFz k) (kFz c) (pT (xs.map pN)), xs.map fun x : Nat => I (x : Int)) := by
  have e : (en k c (pT (xs.map pN))).mk kFz = en (kFz k) (kFz c) (pT (xs.map pN)) := en_mk _ _ _ _
  rw [en_pT] at e ⊢
  rw [List.map_map] at e ⊢
  simp only [itD, if_true, e, List.map_map]
  rfl
theorem tupN' {k c : Kd} {r : List Nat} : dTupOf [en k c (pL pN r)] = some (en .own .frz (pT (r.map pN))) := by
  rw [en_pL, en_pT, List.map_map]; rfl
theorem led_all_ok {p : List Nat} {t : List (List Nat)} {w : Nat} {k k2 c2 : Kd} (h : Good p t w) (hk : k = .frz ∨ k = .par) {xs : List Nat} {c : Nat} (hx : ∀ x ∈ xs, x < p.length) (hl : xs.length < 60) :
    m_led_all [en k k (sc p t), en k2 c2 (pT (xs.map pN)), I c] = .ok (en .frz .frz (pT ((sdN (xs.map fun a => led t a c)).map pN))) [] := by
  have kk : ∀ i, kBo i k = k := fun i => by rcases hk with rfl | rfl <;> rfl
  have kp : kPar k = k := by rcases hk with rfl | rfl <;> rfl
  refine of_okC ?_
  unfold m_led_all b_led_all
  simp_arith [okC_sem, it_T]
  refine lc_map (e := fun x : Nat => I (x : Int)) (h := fun x : Nat => I (x : Int)) (w := fun a => led t a c) (by omega) rfl (fun _ _ => rfl) ?_ ?_
  · intro y hy
    simp_arith [kk, kp, ins_sc, okC_of (call_ok h hk (hx y hy))]
  · simp_arith [fold_LN, ss_en (show (xs.map fun a => led t a c).length < 60 by simpa using hl), tupN']
end Law
end
section
open Lin
local macro_rules | `(tactic| simp_arith [$ts,*]) => `(tactic| simp only [ok_var, ok_fz, ok_callT, ok_dispT, ok_iseqA, rdum_nil, rdum_none, rdum_cons, backT_nil, backT_val, backT_tmp, backT_ref, ok_mv, ok_lit, ok_two, ok_one, ok_test, ok_nil, ok_cons, ok_consK, ok_star, ok_many, ok_and, ok_or, ok_not, ok_ifE, ok_andV, ok_orV, ok_next, ok_seq, okF_nx, okF_ret, okF_brk, okF_cnt, ok_if, ok_ret, ok_retN, ok_expr, ok_asg, so_gset, ok_mutE, ok_setE, ok_call, ok_refs, ok_refsL, ok_for, ok_iseqE, ok_rg1, ok_rg2, ok_yes, ok_chn, imV_im, ok_disp, ok_newK, ok_mk, ok_lc, okC_fin, okC_finx, ok_raise0, ok_raise1, raiV_t,
  so_some, if_true, if_false, ite_true, ite_false, reduceIte, Bool.false_eq_true, Bool.true_eq_false, and_self, true_and, and_true, false_and, and_false, or_false, false_or, not_true_eq_false, not_false_eq_true, ne_eq, reduceCtorEq, Bool.not_true, Bool.not_false, Bool.and_true, Bool.true_and, Bool.and_false, Bool.false_and, Bool.or_true, Bool.true_or, Bool.or_false, Bool.false_or, Bool.not_eq_true', Bool.not_eq_false', Bool.not_not, decide_true, decide_false, decide_eq_true_eq, decide_not, decide_eq_false_iff_not,
  List.getElem?_nil, List.getElem?_cons_zero, List.getElem?_cons_succ, List.set_cons_zero, List.set_cons_succ, List.map_cons, List.map_nil, List.cons_append, List.nil_append, List.length_cons, List.length_nil, List.zip_cons_cons, List.zip_nil_right, List.all_cons, List.all_nil, List.filterMap_cons, List.filterMap_nil, List.replicate, List.not_mem_nil, List.mem_cons, Option.isNone_none, Option.isNone_some, Option.map_some, Option.map_none, id_eq, Nat.reduceAdd, Nat.reduceSub, Nat.reduceEqDiff, Nat.zero_ne_one, Kd.bor.injEq, List.foldr_cons, List.foldr_nil,
  clean_nil, clean_cons, clean_non, mk_im, bor_im, kill_im, kill_none, of_im, fzIf_im, fzIf_t, fzIf_f, en_mk, bo_own, bo_frz, bo_par, bo_bor, fz_own, fz_frz, fz_par', fz_bor', pa_own, pa_frz, pa_par, pa_bor, re_own, re_frz, re_par, re_bor, bor_en, kill_en, kill_opt, of_en, en_im,
  len_en, len_enT, len_enD, ix_en, ix_enT0, ix_enT1, list_en, isi_en, isi_int, isi_bool, tru_en, isn_en, isn_non, isn_I, seq_en, not_B, neg_I, min_I, max_I, in_en, notIn_en, in_LN, notIn_LN, sorted_en, list_enD, eq_LN, ne_LN, eq_LLN, ne_LLN, it_en,
  add_I, sub_I, lt_I, le_I, gt_I, ge_I, eq_I, ne_I, dbool_B, dtru_B, toInt_I, toInt_B, abs_I, shOk_L, ok_own, ok_xfE, xfD_some, ok_isX, isXD_a, cutH1, cutHN, all_clean, dLst_s, dTup_s, en_L0, Nat.reduceLT, Nat.reduceLeDiff, Int.reduceLT, Int.reduceLE, Int.reduceEq, Nat.lt_add_left_iff_pos, Nat.zero_add, bor_nd, kill_d, of_nd, mk_nd, List.any_cons, List.any_nil, beq_self_eq_true, en_LNp, en_LNo, en_LNb, mut_clear, argsD, backS, setAll, usOf, wipeS, $ts,*])
namespace Law
open PySem L2 Lin Bfs
theorem mem_insN {a k : Nat} : ∀ {l : List Nat}, k ∈ insN a l ↔ k = a ∨ k ∈ l
  | [] => by simp [insN]
  | b :: r => by
    unfold insN
    split
    · simp
    · split
      · rename_i h; subst h; simp
      · simp only [List.mem_cons, mem_insN (l := r)]
        constructor
        · rintro (h | h | h)
          · exact .inr (.inl h)
          · exact .inl h
          · exact .inr (.inr h)
        · rintro (h | h | h)
          · exact .inr (.inl h)
          · exact .inl h
          · exact .inr (.inr h)
theorem pw_insN {a : Nat} : ∀ {l : List Nat}, l.Pairwise (· < ·) → (insN a l).Pairwise (· < ·)
  | [], _ => by simp [insN]
  | b :: r, h => by
    rw [List.pairwise_cons] at h
    unfold insN
    split
    · rename_i q
      rw [List.pairwise_cons, List.pairwise_cons]
      refine ⟨fun x hx => ?_, h⟩
      rcases List.mem_cons.mp hx with rfl | hx
      · exact q
      · have := h.1 x hx; omega
    · split
      · exact List.pairwise_cons.mpr h
      · rw [List.pairwise_cons]
        refine ⟨fun x hx => ?_, pw_insN h.2⟩
        rcases mem_insN.mp hx with rfl | hx
        · omega
        · exact h.1 x hx
theorem mem_sdN {k : Nat} : ∀ {l : List Nat}, k ∈ sdN l ↔ k ∈ l
  | [] => by simp [sdN]
  | b :: r => by
    show k ∈ insN b (sdN r) ↔ _
    rw [mem_insN, mem_sdN (l := r), List.mem_cons]
theorem pw_sdN : ∀ (l : List Nat), (sdN l).Pairwise (· < ·)
  | [] => List.Pairwise.nil
  | b :: r => pw_insN (pw_sdN r)
theorem sd_uniq : ∀ {l l' : List Nat}, l.Pairwise (· < ·) → l'.Pairwise (· < ·) → (∀ k, k ∈ l ↔ k ∈ l') → l = l'
  | [], [], _, _, _ => rfl
  | [], b :: r, _, _, h => absurd ((h b).mpr (by simp)) (by simp)
  | b :: r, [], _, _, h => absurd ((h b).mp (by simp)) (by simp)
  | a :: r, b :: r', h1, h2, h => by
    rw [List.pairwise_cons] at h1 h2
    have e : a = b := by
      rcases List.mem_cons.mp ((h a).mp (by simp)) with e | e
      · exact e
      · rcases List.mem_cons.mp ((h b).mpr (by simp)) with e' | e'
        · exact e'.symm
        · have := h1.1 b e'; have := h2.1 a e; omega
    subst e
    congr 1
    refine sd_uniq h1.2 h2.2 fun k => ?_
    constructor
    · intro hk
      rcases List.mem_cons.mp ((h k).mp (by simp [hk])) with e | e
      · have := h1.1 k hk; omega
      · exact e
    · intro hk
      rcases List.mem_cons.mp ((h k).mpr (by simp [hk])) with e | e
      · have := h2.1 k hk; omega
      · exact e
theorem sd_nodup {l : List Nat} (h : l.Pairwise (· < ·)) : l.Nodup := h.imp fun h => Nat.ne_of_lt h
theorem sd_self {l : List Nat} (h : l.Pairwise (· < ·)) : sdN l = l := sd_uniq (pw_sdN l) h fun _ => mem_sdN
theorem sd_map (f : Nat → Nat) (l : List Nat) : sdN ((sdN l).map f) = sdN (l.map f) := sd_uniq (pw_sdN _) (pw_sdN _) fun k => by
  simp only [mem_sdN, List.mem_map]
theorem sd_range (n : Nat) : sdN (List.range n) = List.range n := sd_self List.pairwise_lt_range
theorem sd_len {n : Nat} {l : List Nat} (h : ∀ x ∈ l, x < n) : (sdN l).length ≤ n := nodup_lt (sd_nodup (pw_sdN l)) fun x hx => h x (mem_sdN.mp hx)
/-- the classes behind a row -/
def ca (t : List (List Nat)) (xs row : List Nat) : List Nat := row.foldl (fun s c => sdN (s.map fun a => led t a c)) xs
theorem ca_snoc (t : List (List Nat)) (xs row : List Nat) (c : Nat) : ca t xs (row ++ [c]) = sdN ((ca t xs row).map fun a => led t a c) := by simp [ca]
theorem ca_eq (t : List (List Nat)) (xs : List Nat) (hx : xs.Pairwise (· < ·)) (row : List Nat) : ca t xs row = sdN (xs.map fun a => run t a row) := by
  have key : ∀ (row ys : List Nat), ca t (sdN ys) row = sdN (ys.map fun a => run t a row) := by
    intro row
    induction row with
    | nil => intro ys; simp [ca, Bfs.run]
    | cons c r ih =>
      intro ys
      show ca t (sdN ((sdN ys).map fun a => led t a c)) r = _
      rw [sd_map, ih]
      rw [List.map_map]
      rfl
  rw [← key, sd_self hx]
end Law
end
section
open Lin
local macro_rules | `(tactic| simp_arith [$ts,*]) => `(tactic| simp only [ok_var, ok_fz, ok_callT, ok_dispT, ok_iseqA, rdum_nil, rdum_none, rdum_cons, backT_nil, backT_val, backT_tmp, backT_ref, ok_mv, ok_lit, ok_two, ok_one, ok_test, ok_nil, ok_cons, ok_consK, ok_star, ok_many, ok_and, ok_or, ok_not, ok_ifE, ok_andV, ok_orV, ok_next, ok_seq, okF_nx, okF_ret, okF_brk, okF_cnt, ok_if, ok_ret, ok_retN, ok_expr, ok_asg, so_gset, ok_mutE, ok_setE, ok_call, ok_refs, ok_refsL, ok_for, ok_iseqE, ok_rg1, ok_rg2, ok_yes, ok_chn, imV_im, ok_disp, ok_newK, ok_mk, ok_lc, okC_fin, okC_finx, ok_raise0, ok_raise1, raiV_t,
  so_some, if_true, if_false, ite_true, ite_false, reduceIte, Bool.false_eq_true, Bool.true_eq_false, and_self, true_and, and_true, false_and, and_false, or_false, false_or, not_true_eq_false, not_false_eq_true, ne_eq, reduceCtorEq, Bool.not_true, Bool.not_false, Bool.and_true, Bool.true_and, Bool.and_false, Bool.false_and, Bool.or_true, Bool.true_or, Bool.or_false, Bool.false_or, Bool.not_eq_true', Bool.not_eq_false', Bool.not_not, decide_true, decide_false, decide_eq_true_eq, decide_not, decide_eq_false_iff_not,
  List.getElem?_nil, List.getElem?_cons_zero, List.getElem?_cons_succ, List.set_cons_zero, List.set_cons_succ, List.map_cons, List.map_nil, List.cons_append, List.nil_append, List.length_cons, List.length_nil, List.zip_cons_cons, List.zip_nil_right, List.all_cons, List.all_nil, List.filterMap_cons, List.filterMap_nil, List.replicate, List.not_mem_nil, List.mem_cons, Option.isNone_none, Option.isNone_some, Option.map_some, Option.map_none, id_eq, Nat.reduceAdd, Nat.reduceSub, Nat.reduceEqDiff, Nat.zero_ne_one, Kd.bor.injEq, List.foldr_cons, List.foldr_nil,
  clean_nil, clean_cons, clean_non, mk_im, bor_im, kill_im, kill_none, of_im, fzIf_im, fzIf_t, fzIf_f, en_mk, bo_own, bo_frz, bo_par, bo_bor, fz_own, fz_frz, fz_par', fz_bor', pa_own, pa_frz, pa_par, pa_bor, re_own, re_frz, re_par, re_bor, bor_en, kill_en, kill_opt, of_en, en_im,
  len_en, len_enT, len_enD, ix_en, ix_enT0, ix_enT1, list_en, isi_en, isi_int, isi_bool, tru_en, isn_en, isn_non, isn_I, seq_en, not_B, neg_I, min_I, max_I, in_en, notIn_en, in_LN, notIn_LN, sorted_en, list_enD, eq_LN, ne_LN, eq_LLN, ne_LLN, it_en,
  add_I, sub_I, lt_I, le_I, gt_I, ge_I, eq_I, ne_I, dbool_B, dtru_B, toInt_I, toInt_B, abs_I, shOk_L, ok_own, ok_xfE, xfD_some, ok_isX, isXD_a, cutH1, cutHN, all_clean, dLst_s, dTup_s, en_L0, Nat.reduceLT, Nat.reduceLeDiff, Int.reduceLT, Int.reduceLE, Int.reduceEq, Nat.lt_add_left_iff_pos, Nat.zero_add, bor_nd, kill_d, of_nd, mk_nd, List.any_cons, List.any_nil, beq_self_eq_true, en_LNp, en_LNo, en_LNb, mut_clear, argsD, backS, setAll, usOf, wipeS, $ts,*])
namespace Law
open PySem L2 Lin
theorem ix_mem {xs : List D} {k : Kd} {j : Nat} (h : j < xs.length) : ∃ z ∈ xs, oIx (.nd k .lst xs) (I (j : Int)) = some z := ⟨xs[j], List.getElem_mem h, ix_lst (by omega) (by simp [h])⟩
/-- [a draw for each ..] -/
theorem lc_draws {β : Type} {St : Bag → Sg} {b : Bag} {z : Int} {iv : Nat} {Me : List Nat} {fe : Sg → R D} {e : β → D} {ys : List β} {QL : List D → Sg → Prop} (hz1 : 0 < z) (hz2 : z < 1000000000000000000000000000000) (hl : ys.length < 1000000)
    (hb : ∀ b y, OkE NoX (fe ((St b).set iv (some (fzIf true (e y))))) fun d S2 => d = I (dv b z : Int) ∧ wipeS [iv] S2 = St (db b z))
    (hq : ∀ b' (ns : List Nat), ns.length = ys.length → (∀ x ∈ ns, (x : Int) < z) → QL (ns.map fun n : Nat => I (n : Int)) (St b')) : OkE NoX (lcL [iv] Me (gSet true iv) cYes fe (ys.map e) (St b) []) QL := by
  refine lc_inv (Inv := fun j S acc => ∃ b', ∃ ns : List Nat, S = St b' ∧ acc = ns.map (fun n : Nat => I (n : Int)) ∧ ns.length = j ∧ ∀ x ∈ ns, (x : Int) < z) ?_ ?_ ⟨b, [], rfl, rfl, rfl, by simp⟩
  · rintro i y S acc hy ⟨b', ns, rfl, rfl, hn, hx⟩
    have hi := (List.getElem?_eq_some_iff.mp hy).1
    rw [so_gset, ok_yes, if_pos rfl]
    refine (hb b' y).mono ?_
    rintro d S2 ⟨rfl, h2⟩
    refine ⟨⟨small_size (by rw [List.length_map]; omega), clean_im _ _⟩, db b' z, ns ++ [dv b' z], h2, by simp, by simp [hn], ?_⟩
    intro x hx2
    rcases List.mem_append.mp hx2 with h | h
    · exact hx x h
    · simp at h
      have : (dv b' z : Int) < z := dv_lt hz1 hz2
      omega
  · rintro S acc ⟨b', ns, rfl, rfl, hn, hx⟩
    exact hq b' ns hn hx
end Law
end
section
open Lin
local macro_rules | `(tactic| simp_arith [$ts,*]) => `(tactic| simp only [ok_var, ok_fz, ok_callT, ok_dispT, ok_iseqA, rdum_nil, rdum_none, rdum_cons, backT_nil, backT_val, backT_tmp, backT_ref, ok_mv, ok_lit, ok_two, ok_one, ok_test, ok_nil, ok_cons, ok_consK, ok_star, ok_many, ok_and, ok_or, ok_not, ok_ifE, ok_andV, ok_orV, ok_next, ok_seq, okF_nx, okF_ret, okF_brk, okF_cnt, ok_if, ok_ret, ok_retN, ok_expr, ok_asg, so_gset, ok_mutE, ok_setE, ok_call, ok_refs, ok_refsL, ok_for, ok_iseqE, ok_rg1, ok_rg2, ok_yes, ok_chn, imV_im, ok_disp, ok_newK, ok_mk, ok_lc, okC_fin, okC_finx, ok_raise0, ok_raise1, raiV_t,
  so_some, if_true, if_false, ite_true, ite_false, reduceIte, Bool.false_eq_true, Bool.true_eq_false, and_self, true_and, and_true, false_and, and_false, or_false, false_or, not_true_eq_false, not_false_eq_true, ne_eq, reduceCtorEq, Bool.not_true, Bool.not_false, Bool.and_true, Bool.true_and, Bool.and_false, Bool.false_and, Bool.or_true, Bool.true_or, Bool.or_false, Bool.false_or, Bool.not_eq_true', Bool.not_eq_false', Bool.not_not, decide_true, decide_false, decide_eq_true_eq, decide_not, decide_eq_false_iff_not,
  List.getElem?_nil, List.getElem?_cons_zero, List.getElem?_cons_succ, List.set_cons_zero, List.set_cons_succ, List.map_cons, List.map_nil, List.cons_append, List.nil_append, List.length_cons, List.length_nil, List.zip_cons_cons, List.zip_nil_right, List.all_cons, List.all_nil, List.filterMap_cons, List.filterMap_nil, List.replicate, List.not_mem_nil, List.mem_cons, Option.isNone_none, Option.isNone_some, Option.map_some, Option.map_none, id_eq, Nat.reduceAdd, Nat.reduceSub, Nat.reduceEqDiff, Nat.zero_ne_one, Kd.bor.injEq, List.foldr_cons, List.foldr_nil,
  clean_nil, clean_cons, clean_non, mk_im, bor_im, kill_im, kill_none, of_im, fzIf_im, fzIf_t, fzIf_f, en_mk, bo_own, bo_frz, bo_par, bo_bor, fz_own, fz_frz, fz_par', fz_bor', pa_own, pa_frz, pa_par, pa_bor, re_own, re_frz, re_par, re_bor, bor_en, kill_en, kill_opt, of_en, en_im,
  len_en, len_enT, len_enD, ix_en, ix_enT0, ix_enT1, list_en, isi_en, isi_int, isi_bool, tru_en, isn_en, isn_non, isn_I, seq_en, not_B, neg_I, min_I, max_I, in_en, notIn_en, in_LN, notIn_LN, sorted_en, list_enD, eq_LN, ne_LN, eq_LLN, ne_LLN, it_en,
  add_I, sub_I, lt_I, le_I, gt_I, ge_I, eq_I, ne_I, dbool_B, dtru_B, toInt_I, toInt_B, abs_I, shOk_L, ok_own, ok_xfE, xfD_some, ok_isX, isXD_a, cutH1, cutHN, all_clean, dLst_s, dTup_s, en_L0, Nat.reduceLT, Nat.reduceLeDiff, Int.reduceLT, Int.reduceLE, Int.reduceEq, Nat.lt_add_left_iff_pos, Nat.zero_add, bor_nd, kill_d, of_nd, mk_nd, List.any_cons, List.any_nil, beq_self_eq_true, en_LNp, en_LNo, en_LNb, mut_clear, argsD, backS, setAll, usOf, wipeS, $ts,*])
namespace Law
open PySem L2 Lin
theorem mixed_ex {α : Type} (b : Bag) (k : Kd) (hk : k = .frz ∨ k = .par) (f : α → P) (xs : List α) (hl : xs.length < 1000000) : ∃ q : List α × Bag, m__law_mixed [bg b, en k .frz (pL f xs)] = .ok (en .own .frz (pL f q.1)) [bg q.2] ∧ q.1.Perm xs := by
  have kk : ∀ i, kBo i k = k := fun i => by rcases hk with rfl | rfl <;> rfl
  have kb : ∀ r, (k = .bor r) = False := fun r => by rcases hk with rfl | rfl <;> simp
  have h : OkCE NoC (m__law_mixed [bg b, en k .frz (pL f xs)]) fun d ms => ∃ ys b', d = en .own .frz (pL f ys) ∧ ms = [bg b'] ∧ ys.Perm xs := by
    unfold m__law_mixed b__law_mixed
    rw [okC_sem]
    refine seq_cut (A := fun S => S = [some (bg b), some (en k .frz (pL f xs)), some (en .own .frz (pL f xs)), none, none]) ?_ ?_
    · simp_arith [kk]
    rintro _ rfl
    refine seq_cut (A := fun S => S = [some (bg b), some (en k .frz (pL f xs)), some (en .own .frz (pL f xs)), some (en .own .frz (pL f [])), none]) ?_ ?_
    · simp_arith []
    rintro _ rfl
    refine seq_cut (A := fun S => ∃ b' found, ∃ o : Option Nat, S = [some (bg b'), some (en k .frz (pL f xs)), some (en .own .frz (pL f [])), some (en .own .frz (pL f found)), o.map fun i : Nat => I i] ∧ found.Perm xs) ?_ ?_
    · simp_arith [kk, rg1_eq hl]
      refine for_inv (Inv := fun i S => ∃ b', ∃ left found, ∃ o : Option Nat, S = [some (bg b'), some (en k .frz (pL f xs)), some (en .own .frz (pL f left)), some (en .own .frz (pL f found)), o.map fun i : Nat => I i] ∧ (found ++ left).Perm xs ∧ left.length + i = xs.length) ?_ ?_ ?_
      · rintro i y S hy ⟨b', left, found, o, rfl, hp, hlen⟩
        have hi : i < xs.length := by
          have := (List.getElem?_eq_some_iff.mp hy).1; simpa using this
        have h0 : (0 : Int) < (left.length : Int) := by omega
        have h1 : (left.length : Int) < 1000000000000000000000000000000 := by omega
        have hd : dv b' (left.length : Int) < left.length := dv_ltN (by omega) (by omega)
        have hf := hp.length_eq
        rw [List.length_append] at hf
        simp_arith [kb, bg_kill, bg_bor, bg_of, okC_draw h0 h1, mut_popAt (List.getElem?_eq_getElem hd) (by omega), mut_app (g := f) (show found.length < 1000000 by omega)]
        refine ⟨_, _, _, some y, rfl, ?_, ?_⟩
        · refine List.Perm.trans ?_ hp
          rw [List.append_assoc]
          refine List.Perm.append_left _ ?_
          generalize dv b' (left.length : Int) = j at hd
          have e3 : left = left.take j ++ left[j] :: left.drop (j + 1) := by rw [List.getElem_cons_drop, List.take_append_drop]
          rw [List.eraseIdx_eq_take_drop_succ]
          have q3 := (List.perm_middle (a := left[j]) (l₁ := left.take j) (l₂ := left.drop (j + 1))).symm
          rw [← e3] at q3
          exact q3
        · rw [List.length_eraseIdx, if_pos hd]; omega
      · rintro S ⟨b', left, found, o, rfl, hp, hlen⟩
        rw [List.length_range] at hlen
        have : left = [] := List.length_eq_zero_iff.mp (by omega)
        subst this
        rw [List.append_nil] at hp
        exact ⟨b', found, _, rfl, hp⟩
      · exact ⟨b, xs, [], none, rfl, by simp, by simp⟩
    · rintro S ⟨b', found, o, rfl, hp⟩
      simp_arith [bg_of, bg_kill, kb]
      exact ⟨found, b', rfl, rfl, hp⟩
  obtain ⟨d, ms, e, ys, b', rfl, rfl, hp⟩ := h.get
  exact ⟨(ys, b'), e, hp⟩
theorem okC_mixed {Ec : EC} {α : Type} {b : Bag} {k : Kd} {f : α → P} {xs : List α} {Q : D → List D → Prop} (hk : k = .frz ∨ k = .par) (hl : xs.length < 1000000) (h : ∀ ys b', ys.Perm xs → Q (en .own .frz (pL f ys)) [bg b']) : OkCE Ec (m__law_mixed [bg b, en k .frz (pL f xs)]) Q := by
  obtain ⟨q, e, hp⟩ := mixed_ex b k hk f xs hl
  rw [okC_of e]
  exact h _ _ hp
end Law
end
section
open Lin
local macro_rules | `(tactic| simp_arith [$ts,*]) => `(tactic| simp only [ok_var, ok_fz, ok_callT, ok_dispT, ok_iseqA, rdum_nil, rdum_none, rdum_cons, backT_nil, backT_val, backT_tmp, backT_ref, ok_mv, ok_lit, ok_two, ok_one, ok_test, ok_nil, ok_cons, ok_consK, ok_star, ok_many, ok_and, ok_or, ok_not, ok_ifE, ok_andV, ok_orV, ok_next, ok_seq, okF_nx, okF_ret, okF_brk, okF_cnt, ok_if, ok_ret, ok_retN, ok_expr, ok_asg, so_gset, ok_mutE, ok_setE, ok_call, ok_refs, ok_refsL, ok_for, ok_iseqE, ok_rg1, ok_rg2, ok_yes, ok_chn, imV_im, ok_disp, ok_newK, ok_mk, ok_lc, okC_fin, okC_finx, ok_raise0, ok_raise1, raiV_t,
  so_some, if_true, if_false, ite_true, ite_false, reduceIte, Bool.false_eq_true, Bool.true_eq_false, and_self, true_and, and_true, false_and, and_false, or_false, false_or, not_true_eq_false, not_false_eq_true, ne_eq, reduceCtorEq, Bool.not_true, Bool.not_false, Bool.and_true, Bool.true_and, Bool.and_false, Bool.false_and, Bool.or_true, Bool.true_or, Bool.or_false, Bool.false_or, Bool.not_eq_true', Bool.not_eq_false', Bool.not_not, decide_true, decide_false, decide_eq_true_eq, decide_not, decide_eq_false_iff_not,
  List.getElem?_nil, List.getElem?_cons_zero, List.getElem?_cons_succ, List.set_cons_zero, List.set_cons_succ, List.map_cons, List.map_nil, List.cons_append, List.nil_append, List.length_cons, List.length_nil, List.zip_cons_cons, List.zip_nil_right, List.all_cons, List.all_nil, List.filterMap_cons, List.filterMap_nil, List.replicate, List.not_mem_nil, List.mem_cons, Option.isNone_none, Option.isNone_some, Option.map_some, Option.map_none, id_eq, Nat.reduceAdd, Nat.reduceSub, Nat.reduceEqDiff, Nat.zero_ne_one, Kd.bor.injEq, List.foldr_cons, List.foldr_nil,
  clean_nil, clean_cons, clean_non, mk_im, bor_im, kill_im, kill_none, of_im, fzIf_im, fzIf_t, fzIf_f, en_mk, bo_own, bo_frz, bo_par, bo_bor, fz_own, fz_frz, fz_par', fz_bor', pa_own, pa_frz, pa_par, pa_bor, re_own, re_frz, re_par, re_bor, bor_en, kill_en, kill_opt, of_en, en_im,
  len_en, len_enT, len_enD, ix_en, ix_enT0, ix_enT1, list_en, isi_en, isi_int, isi_bool, tru_en, isn_en, isn_non, isn_I, seq_en, not_B, neg_I, min_I, max_I, in_en, notIn_en, in_LN, notIn_LN, sorted_en, list_enD, eq_LN, ne_LN, eq_LLN, ne_LLN, it_en,
  add_I, sub_I, lt_I, le_I, gt_I, ge_I, eq_I, ne_I, dbool_B, dtru_B, toInt_I, toInt_B, abs_I, shOk_L, ok_own, ok_xfE, xfD_some, ok_isX, isXD_a, cutH1, cutHN, all_clean, dLst_s, dTup_s, en_L0, Nat.reduceLT, Nat.reduceLeDiff, Int.reduceLT, Int.reduceLE, Int.reduceEq, Nat.lt_add_left_iff_pos, Nat.zero_add, bor_nd, kill_d, of_nd, mk_nd, List.any_cons, List.any_nil, beq_self_eq_true, en_LNp, en_LNo, en_LNb, mut_clear, argsD, backS, setAll, usOf, wipeS, $ts,*])
namespace Law
open PySem L2 Lin
/-! ### marks that no passing on changes -/
def St (k : Kd) : Prop := k = .frz ∨ k = .par
theorem St.bo {k : Kd} (h : St k) (i : Nat) : kBo i k = k := by rcases h with rfl | rfl <;> rfl
theorem St.pa {k : Kd} (h : St k) : kPar k = k := by rcases h with rfl | rfl <;> rfl
theorem St.fz {k : Kd} (h : St k) : kFz k = k := by rcases h with rfl | rfl <;> rfl
theorem St.bor {k : Kd} (h : St k) (r : Nat) : (k = .bor r) = False := by rcases h with rfl | rfl <;> simp
theorem st_frz : St .frz := .inl rfl
theorem st_par : St .par := .inr rfl
structure Stb (d : D) : Prop where
  ks : ∀ k ∈ d.kinds, St k
mutual
theorem mk_fix {f : Kd → Kd} : ∀ d : D, (∀ k ∈ d.kinds, f k = k) → d.mk f = d
  | .im _, _ => rfl
  | .nd k s ds, h => by
    rw [D.mk, h k (by rw [D.kinds]; exact List.mem_cons_self), mkL_fix ds fun q hq => h q (by rw [D.kinds]; exact List.mem_cons_of_mem _ hq)]
theorem mkL_fix {f : Kd → Kd} : ∀ ds : List D, (∀ k ∈ kindsL ds, f k = k) → mkDL f ds = ds
  | [], _ => rfl
  | d :: r, h => by
    rw [mkDL, mk_fix d fun q hq => h q (by rw [kindsL]; exact List.mem_append_left _ hq), mkL_fix r fun q hq => h q (by rw [kindsL]; exact List.mem_append_right _ hq)]
end
section
variable {d : D}
theorem Stb.bo (h : Stb d) (i : Nat) : d.mk (kBo i) = d := mk_fix d fun k hk => (h.ks k hk).bo i
theorem Stb.pa (h : Stb d) : d.mk kPar = d := mk_fix d fun k hk => (h.ks k hk).pa
theorem Stb.fz (h : Stb d) : d.mk kFz = d := mk_fix d fun k hk => (h.ks k hk).fz
theorem Stb.fzi (h : Stb d) (b : Bool) : fzIf b d = d := by cases b with | true => exact h.fz | false => rfl
theorem Stb.bor (h : Stb d) (r : Nat) : hasBor r d = false := by
  unfold hasBor
  rw [Bool.eq_false_iff]
  intro q
  rw [List.contains_iff_mem] at q
  have := (h.ks _ q).bor r
  simp at this
theorem Stb.kill (h : Stb d) (r : Nat) : killD r (some d) = some d := kill_d (h.bor r)
end
theorem stb_en {k c : Kd} (h1 : St k) (h2 : St c) (v : P) : Stb (en k c v) := ⟨fun q hq => by rcases en_kinds hq with e | e <;> rw [e] <;> assumption⟩
theorem stb_im (v : V) : Stb (.im v) := ⟨fun q hq => by simp [D.kinds] at hq⟩
theorem stb_nd {k : Kd} {s : Sh} {ds : List D} (h : St k) (hs : ∀ d ∈ ds, Stb d) : Stb (.nd k s ds) := ⟨fun q hq => by
  rw [D.kinds, List.mem_cons, kindsL_eq, List.mem_flatMap] at hq
  rcases hq with e | ⟨d, hd, hq⟩
  · rw [e]; exact h
  · exact (hs d hd).ks q hq⟩
/-- a plain scale, a scale -/
structure PlD (d : D) (p : List Nat) (t : List (List Nat)) : Prop where
  ex : ∃ k k1 k2, St k ∧ St k1 ∧ St k2 ∧ d = .nd k .tup [en k1 k1 (pL pN p), en k2 k2 (pL (pL pN) t)]
structure ScD (d : D) (p : List Nat) (t : List (List Nat)) : Prop where
  ex : ∃ k, St k ∧ d = en k k (sc p t)
section
variable {d : D} {p : List Nat} {t : List (List Nat)}
theorem PlD.stb (h : PlD d p t) : Stb d := by
  obtain ⟨k, k1, k2, h0, h1, h2, rfl⟩ := h.ex
  exact stb_nd h0 fun d hd => by
    simp at hd
    rcases hd with rfl | rfl
    · exact stb_en h1 h1 _
    · exact stb_en h2 h2 _
theorem ScD.stb (h : ScD d p t) : Stb d := by
  obtain ⟨k, h0, rfl⟩ := h.ex
  exact stb_en h0 h0 _
theorem PlD.ix0 (h : PlD d p t) : ∃ k, St k ∧ oIx d (I 0) = some (en k k (pL pN p)) := by
  obtain ⟨k, k1, k2, h0, h1, h2, rfl⟩ := h.ex
  exact ⟨k1, h1, ix_tup (by omega) (by simp)⟩
theorem PlD.ix1 (h : PlD d p t) : ∃ k, St k ∧ oIx d (I 1) = some (en k k (pL (pL pN) t)) := by
  obtain ⟨k, k1, k2, h0, h1, h2, rfl⟩ := h.ex
  exact ⟨k2, h2, ix_tup (by omega) (by simp)⟩
theorem pl_D (k : Kd) (h : St k) : PlD (en k k (pl p t)) p t := ⟨k, k, k, h, h, h, by unfold pl; rw [en_pT]; rfl⟩
theorem sc_D (k : Kd) (h : St k) : ScD (en k k (sc p t)) p t := ⟨k, h, rfl⟩
end
/-- a flat list's children have no mark of their own -/
theorem en_LN {k c : Kd} {ns : List Nat} : en k c (pL pN ns) = en k .frz (pL pN ns) := by rw [en_pL, en_pL]; rfl
theorem ix0_LL {k c : Kd} {t : List (List Nat)} {r : List Nat} (h : t[0]? = some r) : oIx (en k c (pL (pL pN) t)) (I 0) = some (en c c (pL pN r)) := ix_enq (i := 0) h
end Law
end
section
open Lin
local macro_rules | `(tactic| simp_arith [$ts,*]) => `(tactic| simp only [ok_var, ok_fz, ok_callT, ok_dispT, ok_iseqA, rdum_nil, rdum_none, rdum_cons, backT_nil, backT_val, backT_tmp, backT_ref, ok_mv, ok_lit, ok_two, ok_one, ok_test, ok_nil, ok_cons, ok_consK, ok_star, ok_many, ok_and, ok_or, ok_not, ok_ifE, ok_andV, ok_orV, ok_next, ok_seq, okF_nx, okF_ret, okF_brk, okF_cnt, ok_if, ok_ret, ok_retN, ok_expr, ok_asg, so_gset, ok_mutE, ok_setE, ok_call, ok_refs, ok_refsL, ok_for, ok_iseqE, ok_rg1, ok_rg2, ok_yes, ok_chn, imV_im, ok_disp, ok_newK, ok_mk, ok_lc, okC_fin, okC_finx, ok_raise0, ok_raise1, raiV_t,
  so_some, if_true, if_false, ite_true, ite_false, reduceIte, Bool.false_eq_true, Bool.true_eq_false, and_self, true_and, and_true, false_and, and_false, or_false, false_or, not_true_eq_false, not_false_eq_true, ne_eq, reduceCtorEq, Bool.not_true, Bool.not_false, Bool.and_true, Bool.true_and, Bool.and_false, Bool.false_and, Bool.or_true, Bool.true_or, Bool.or_false, Bool.false_or, Bool.not_eq_true', Bool.not_eq_false', Bool.not_not, decide_true, decide_false, decide_eq_true_eq, decide_not, decide_eq_false_iff_not,
  List.getElem?_nil, List.getElem?_cons_zero, List.getElem?_cons_succ, List.set_cons_zero, List.set_cons_succ, List.map_cons, List.map_nil, List.cons_append, List.nil_append, List.length_cons, List.length_nil, List.zip_cons_cons, List.zip_nil_right, List.all_cons, List.all_nil, List.filterMap_cons, List.filterMap_nil, List.replicate, List.not_mem_nil, List.mem_cons, Option.isNone_none, Option.isNone_some, Option.map_some, Option.map_none, id_eq, Nat.reduceAdd, Nat.reduceSub, Nat.reduceEqDiff, Nat.zero_ne_one, Kd.bor.injEq, List.foldr_cons, List.foldr_nil,
  clean_nil, clean_cons, clean_non, mk_im, bor_im, kill_im, kill_none, of_im, fzIf_im, fzIf_t, fzIf_f, en_mk, bo_own, bo_frz, bo_par, bo_bor, fz_own, fz_frz, fz_par', fz_bor', pa_own, pa_frz, pa_par, pa_bor, re_own, re_frz, re_par, re_bor, bor_en, kill_en, kill_opt, of_en, en_im,
  len_en, len_enT, len_enD, ix_en, ix_enT0, ix_enT1, list_en, isi_en, isi_int, isi_bool, tru_en, isn_en, isn_non, isn_I, seq_en, not_B, neg_I, min_I, max_I, in_en, notIn_en, in_LN, notIn_LN, sorted_en, list_enD, eq_LN, ne_LN, eq_LLN, ne_LLN, it_en,
  add_I, sub_I, lt_I, le_I, gt_I, ge_I, eq_I, ne_I, dbool_B, dtru_B, toInt_I, toInt_B, abs_I, shOk_L, ok_own, ok_xfE, xfD_some, ok_isX, isXD_a, cutH1, cutHN, all_clean, dLst_s, dTup_s, en_L0, Nat.reduceLT, Nat.reduceLeDiff, Int.reduceLT, Int.reduceLE, Int.reduceEq, Nat.lt_add_left_iff_pos, Nat.zero_add, bor_nd, kill_d, of_nd, mk_nd, List.any_cons, List.any_nil, beq_self_eq_true, en_LNp, en_LNo, en_LNb, mut_clear, argsD, backS, setAll, usOf, wipeS, $ts,*])
namespace Law
open PySem L2 Lin
/-! ### dicts whose keys are tuples of numbers -/
def kT (ns : List Nat) : List Key := ns.map kN
theorem kT_inj {a b : List Nat} : kT a = kT b ↔ a = b := by
  unfold kT
  constructor
  · intro h
    induction a generalizing b with
    | nil => cases b with | nil => rfl | cons _ _ => simp at h
    | cons x r ih =>
      cases b with
      | nil => simp at h
      | cons y r' =>
        simp only [List.map_cons, List.cons.injEq] at h
        rw [kN_inj.mp h.1, ih h.2]
  · rintro rfl; rfl
def pDT {α : Type} (f : α → P) (E : List (List Nat × α)) : P := .nd (.dtu (E.map fun e => kT e.1)) (E.map fun e => f e.2)
theorem en_pDT {α : Type} (k c : Kd) (f : α → P) (E : List (List Nat × α)) : en k c (pDT f E) = .nd k (.dtu (E.map fun e => kT e.1)) (E.map fun e => en c c (f e.2)) := by
  simp [en, pDT, en_self]
/-- a tuple of numbers -/
abbrev pTN (ns : List Nat) : P := pT (ns.map pN)
theorem keyTs_N (ns : List Nat) : keyTs (ns.map fun n : Nat => I (n : Int)) = some (kT ns) := by
  induction ns with
  | nil => rfl
  | cons n r ih => simp only [List.map_cons, keyTs, key_N, ih]; rfl
theorem keyT_N {k c : Kd} {ns : List Nat} : keyT (en k c (pTN ns)) = some (kT ns) := by
  rw [en_pT, List.map_map]
  show keyTs (ns.map fun n : Nat => I (n : Int)) = _
  exact keyTs_N ns
section
variable {α : Type} {k c k' c' : Kd} {f : α → P} {E : List (List Nat × α)} {n : List Nat}
theorem valT_lookup {β : Type} (E : List (List Nat × α)) (n : List Nat) (h : α → β) : valP (kT n) (E.map fun e => kT e.1) (E.map fun e => h e.2) = (E.lookup n).map h := by
  induction E with
  | nil => rfl
  | cons e r ih =>
    obtain ⟨a, b⟩ := e
    simp only [List.map_cons, valP, List.lookup_cons]
    by_cases q : a = n
    · subst q; simp
    · have : ¬ kT a = kT n := fun z => q (kT_inj.mp z)
      have q' : (n == a) = false := by simpa using fun z => q z.symm
      rw [if_neg this, ih, q']
theorem getT_en {x : α} (h : E.lookup n = some x) : oIx (en k c (pDT f E)) (en k' c' (pTN n)) = some (en c c (f x)) := by
  rw [en_pDT]
  have e := keyT_N (k := k') (c := c') (ns := n)
  rw [en_pT] at e ⊢
  simp only [oIx, dIx, dDGet, dGetO, e, Option.map_some, valT_lookup E n (fun x => en c c (f x)), h]
  rfl
theorem lookupT_some {E : List (List Nat × α)} {n : List Nat} : (E.lookup n).isSome = decide (n ∈ E.map Prod.fst) := by
  induction E with
  | nil => rfl
  | cons e r ih =>
    obtain ⟨a, b⟩ := e
    simp only [List.map_cons, List.lookup_cons, List.mem_cons]
    by_cases q : n = a
    · subst q; simp
    · have q' : (n == a) = false := by simpa using q
      rw [q']; simp only [ih, q, false_or]
theorem inT_en : oIn (en k' c' (pTN n)) (en k c (pDT f E)) = some (B (decide (n ∈ E.map Prod.fst))) := by
  rw [en_pDT]
  have e := keyT_N (k := k') (c := c') (ns := n)
  rw [en_pT] at e ⊢
  simp only [oIn, dIn, dDIn, dGetO, e, Option.map_some, valT_lookup E n (fun x => en c c (f x)), Option.isSome_map, lookupT_some]
  rfl
theorem notInT_en : oNotIn (en k' c' (pTN n)) (en k c (pDT f E)) = some (B (!decide (n ∈ E.map Prod.fst))) := by
  rw [en_pDT]
  have e := keyT_N (k := k') (c := c') (ns := n)
  rw [en_pT] at e ⊢
  simp only [oNotIn, dIn, dDIn, dGetO, e, Option.map_some, valT_lookup E n (fun x => en c c (f x)), Option.isSome_map, lookupT_some]
  rfl
theorem setT_new {x : α} {K1 : D → Prop} (hn : n ∉ E.map Prod.fst) (hd : (E.map Prod.fst).Nodup) (hl : E.length < 1000000) :
    Lin.SetAt oSet (en .own c (pDT f E)) (en k' c' (pTN n)) (en c c (f x)) K1 = K1 (en .own c (pDT f (E ++ [(n, x)]))) := by
  have e0 : (E.map fun e => kT e.1) = (E.map Prod.fst).map kT := by simp
  have h1 : kT n ∉ E.map fun e => kT e.1 := by
    rw [e0]; intro z
    obtain ⟨m, hm, q⟩ := List.mem_map.mp z
    exact hn (kT_inj.mp q ▸ hm)
  have h2 : (E.map fun e => kT e.1).Nodup := by
    rw [e0, List.Nodup, List.pairwise_map]
    exact hd.imp fun h z => h (kT_inj.mp z)
  rw [en_pDT, en_pDT]
  show So (oSet _ _ _ _) _ = _
  have e := keyT_N (k := k') (c := c') (ns := n)
  simp only [oSet, sLst, sDic, e, Option.bind_some, List.length_map]
  have hor : ∀ o : Option (Sh × List D), (none : Option (Sh × List D)).or o = o := fun o => rfl
  rw [hor]
  rw [if_pos ⟨trivial, h2, small_size hl⟩, so_some, putP_new _ _ _ _ (by simp) h1]
  simp
theorem dispT_en {d : D} : dispTD [en k c (pTN n), d] = some (.nd .own (.dtu [kT n]) [d]) := by
  simp only [dispTD, keyT_N, Option.map_some]
theorem lookup_ofT {E : List (List Nat × α)} (hn : (E.map Prod.fst).Nodup) {a : List Nat} {w : α} (h : (a, w) ∈ E) : E.lookup a = some w := by
  induction E with
  | nil => cases h
  | cons e r ih =>
    obtain ⟨b, v⟩ := e
    rw [List.lookup_cons]
    simp only [List.map_cons, List.nodup_cons] at hn
    rcases List.mem_cons.mp h with h | h
    · cases h; simp
    · have : a ≠ b := fun z => hn.1 (by rw [← z]; exact List.mem_map.mpr ⟨_, h, rfl⟩)
      have q : (a == b) = false := by simpa using this
      rw [q]
      exact ih hn.2 h
end
theorem len_TN {k c : Kd} {ns : List Nat} : bLen [en k c (pTN ns)] = some (I ns.length) := by rw [len_enT, List.length_map]
theorem tup_L {k c : Kd} {r : List Nat} : dTupOf [en k c (pL pN r)] = some (en .own .frz (pTN r)) := by
  rw [en_pL, en_pT, List.map_map]; rfl
theorem en_TN {k c : Kd} {ns : List Nat} : en k c (pTN ns) = en k .frz (pTN ns) := by rw [en_pT, en_pT, List.map_map, List.map_map]; rfl
end Law
end
section
/-! ### going on from stand to stand, by columns: rows as short as any -/
namespace Gb
section
variable {κ : Type} [DecidableEq κ]
abbrev Es (κ : Type) := List (κ × List Nat)
def keys (E : Es κ) : List κ := E.map Prod.fst
theorem keys_append (A B : Es κ) : keys (A ++ B) = keys A ++ keys B := by simp [keys]
theorem keys_len (A : Es κ) : (keys A).length = A.length := by simp [keys]
variable (nx : κ → Nat → κ)
/-- one stand's columns -/
def bRow (a : κ) (w : List Nat) (E0 : Es κ) : Nat → Es κ
  | 0 => E0
  | j + 1 => if nx a j ∈ keys (bRow a w E0 j) then bRow a w E0 j else bRow a w E0 j ++ [(nx a j, w ++ [j])]
def run (s : κ) (w : List Nat) : κ := w.foldl nx s
/-- .. until one is found -/
def go (P : κ → Bool) (W : Nat) : Nat → Nat → Es κ → Option (κ × List Nat)
  | 0, _, _ => none
  | f + 1, k, E => match E[k]? with
    | none => none
    | some e => if P e.1 = true then some e else go P W f (k + 1) (bRow nx e.1 e.2 E W)
structure BI (ok : κ → Prop) (W : Nat) (s : κ) (E : Es κ) : Prop where
  nd : (keys E).Nodup
  ok : ∀ e ∈ E, ok e.1
  path : ∀ e ∈ E, run nx s e.2 = e.1
  col : ∀ e ∈ E, ∀ c ∈ e.2, c < W
  fst : s ∈ keys E
  wl : ∀ (i : Nat) e, E[i]? = some e → e.2.length ≤ i
variable {nx} {ok : κ → Prop} {W : Nat} {s a : κ} {w : List Nat} {E0 E : Es κ} {P : κ → Bool}
theorem bRow_pre (j : Nat) : E0 <+: bRow nx a w E0 j := by
  induction j with
  | zero => exact List.prefix_refl _
  | succ j ih =>
    rw [bRow]
    split
    · exact ih
    · exact ih.trans (List.prefix_append _ _)
theorem bRow_succ {j : Nat} : bRow nx a w E0 (j + 1) = if nx a j ∈ keys (bRow nx a w E0 j) then bRow nx a w E0 j else bRow nx a w E0 j ++ [(nx a j, w ++ [j])] := rfl
theorem bRow_mem {j : Nat} : ∀ i, i < j → nx a i ∈ keys (bRow nx a w E0 j) := by
  induction j with
  | zero => intro i h; omega
  | succ j ih =>
    intro i hi
    rw [bRow]
    by_cases e : i = j
    · subst e
      split
      · assumption
      · rw [keys_append]; simp [keys]
    · have := ih i (by omega)
      split
      · exact this
      · rw [keys_append]; exact List.mem_append_left _ this
theorem bRow_inv (h : BI nx ok W s E0) (ha : (a, w) ∈ E0) (hok : ∀ a j, ok a → ok (nx a j)) : ∀ j, j ≤ W → BI nx ok W s (bRow nx a w E0 j) := by
  intro j
  induction j with
  | zero => intro _; exact h
  | succ j ih =>
    intro hj
    have g := ih (by omega)
    rw [bRow]
    split
    · exact g
    · rename_i hq
      have hm : (a, w) ∈ bRow nx a w E0 j := (bRow_pre j).subset ha
      refine ⟨?_, ?_, ?_, ?_, ?_, ?_⟩
      · rw [keys_append, List.nodup_append]
        refine ⟨g.nd, by simp [keys], ?_⟩
        intro x hx y hy
        simp [keys] at hy
        subst hy
        intro z; subst z; exact hq hx
      · intro e he
        rcases List.mem_append.mp he with he | he
        · exact g.ok e he
        · simp at he; subst he; exact hok a j (g.ok _ hm)
      · intro e he
        rcases List.mem_append.mp he with he | he
        · exact g.path e he
        · simp at he; subst he
          show run nx s (w ++ [j]) = _
          have := g.path _ hm
          unfold run at this ⊢
          rw [List.foldl_append, this]; rfl
      · intro e he
        rcases List.mem_append.mp he with he | he
        · exact g.col e he
        · simp at he; subst he
          intro c hc
          rcases List.mem_append.mp hc with hc | hc
          · exact g.col _ hm c hc
          · simp at hc; omega
      · rw [keys_append]; exact List.mem_append_left _ g.fst
      · intro i e he
        by_cases hi : i < (bRow nx a w E0 j).length
        · rw [List.getElem?_append_left hi] at he
          exact g.wl i e he
        · rw [List.getElem?_append_right (by omega)] at he
          have h0 : i - (bRow nx a w E0 j).length = 0 := by
            have := (List.getElem?_eq_some_iff.mp he).1
            simp at this; omega
          rw [h0] at he
          simp at he
          subst he
          obtain ⟨q, hq1, hq2⟩ := List.getElem_of_mem hm
          have := g.wl q _ (List.getElem?_eq_getElem hq1)
          rw [hq2] at this
          show (w ++ [j]).length ≤ i
          simp
          simp at this
          omega
theorem start_inv (hs : ok s) : BI nx ok W s [(s, [])] :=
  ⟨by simp [keys], fun e he => by simp at he; subst he; exact hs, fun e he => by simp at he; subst he; rfl, fun e he => by simp at he; subst he; simp, by simp [keys], fun i e he => by
    have hm := List.mem_of_getElem? he
    simp at hm; subst hm; simp⟩
/-- what is found is there -/
theorem go_some (hok : ∀ a j, ok a → ok (nx a j)) : ∀ (f k : Nat) (E : Es κ) {e : κ × List Nat}, BI nx ok W s E → go nx P W f k E = some e → P e.1 = true ∧ run nx s e.2 = e.1 ∧ (∀ c ∈ e.2, c < W) ∧ ok e.1
  | 0, k, E, e, _, h => by simp [go] at h
  | f + 1, k, E, e, hb, h => by
    rw [go] at h
    cases q : E[k]? with
    | none => rw [q] at h; cases h
    | some e' =>
      rw [q] at h
      dsimp only at h
      have hm := List.mem_of_getElem? q
      split at h
      · rename_i hp
        cases h
        exact ⟨hp, hb.path _ hm, hb.col _ hm, hb.ok _ hm⟩
      · exact go_some hok f (k + 1) _ (bRow_inv hb hm hok W (Nat.le_refl _)) h
/-- what is not found is not there -/
theorem go_none (hok : ∀ a j, ok a → ok (nx a j)) {N : Nat} (hN : ∀ E : Es κ, BI nx ok W s E → E.length ≤ N) : ∀ (f k : Nat) (E : Es κ), N < f + k → k ≤ E.length → BI nx ok W s E →
    (∀ i e, i < k → E[i]? = some e → P e.1 = false ∧ ∀ j, j < W → nx e.1 j ∈ keys E) → go nx P W f k E = none → ∀ v : List Nat, (∀ c ∈ v, c < W) → P (run nx s v) = false
  | 0, k, E, hf, hk, hb, _, _ => by have := hN E hb; omega
  | f + 1, k, E, hf, hk, hb, hd, h => by
    rw [go] at h
    cases q : E[k]? with
    | none =>
      have hk2 : E.length ≤ k := by simpa using q
      have hall : ∀ e ∈ E, P e.1 = false ∧ ∀ j, j < W → nx e.1 j ∈ keys E := fun e he => by
        obtain ⟨i, hi, rfl⟩ := List.getElem_of_mem he
        exact hd i _ (by omega) (List.getElem?_eq_getElem hi)
      have hreach2 : ∀ (v : List Nat) (a : κ), a ∈ keys E → (∀ c ∈ v, c < W) → v.foldl nx a ∈ keys E := by
        intro v
        induction v with
        | nil => intro a ha _; exact ha
        | cons c r ih =>
          intro a ha hc
          refine ih _ ?_ fun c' hc' => hc c' (by simp [hc'])
          obtain ⟨e, he, e1⟩ := List.mem_map.mp ha
          have := (hall e he).2 c (hc c (by simp))
          rw [e1] at this
          exact this
      have hreach : ∀ v : List Nat, (∀ c ∈ v, c < W) → run nx s v ∈ keys E := fun v hv => hreach2 v s hb.fst hv
      intro v hv
      obtain ⟨e, he, e1⟩ := List.mem_map.mp (hreach v hv)
      rw [← e1]
      exact (hall e he).1
    | some e' =>
      rw [q] at h
      dsimp only at h
      have hm := List.mem_of_getElem? q
      have hkl := (List.getElem?_eq_some_iff.mp q).1
      split at h
      · cases h
      · rename_i hp
        have pre := bRow_pre (nx := nx) (a := e'.1) (w := e'.2) (E0 := E) W
        have hb' := bRow_inv hb hm hok W (Nat.le_refl _)
        refine go_none hok hN f (k + 1) _ (by omega) (Nat.le_trans hkl pre.length_le) hb' (fun i e hi he => ?_) h
        have hi2 : i < E.length := by omega
        have he2 : E[i]? = some e := by
          obtain ⟨t, ht⟩ := pre
          rw [← ht, List.getElem?_append_left hi2] at he
          exact he
        by_cases hik : i < k
        · obtain ⟨h1, h2⟩ := hd i e hik he2
          refine ⟨h1, fun j hj => ?_⟩
          have := h2 j hj
          obtain ⟨x, hx, hx2⟩ := List.mem_map.mp this
          exact List.mem_map.mpr ⟨x, pre.subset hx, hx2⟩
        · have : i = k := by omega
          subst this
          rw [he2] at q
          cases q
          exact ⟨by simpa using hp, fun j hj => bRow_mem j hj⟩
/-- the whole search -/
def search (nx : κ → Nat → κ) (P : κ → Bool) (W N : Nat) (s : κ) : Option (κ × List Nat) := go nx P W (N + 1) 0 [(s, [])]
theorem search_some (hok : ∀ a j, ok a → ok (nx a j)) (hs : ok s) {N : Nat} {e : κ × List Nat} (h : search nx P W N s = some e) : P e.1 = true ∧ run nx s e.2 = e.1 ∧ (∀ c ∈ e.2, c < W) ∧ ok e.1 := go_some hok _ _ _ (start_inv hs) h
theorem search_none (hok : ∀ a j, ok a → ok (nx a j)) (hs : ok s) {N : Nat} (hN : ∀ E : Es κ, BI nx ok W s E → E.length ≤ N) (h : search nx P W N s = none) (v : List Nat) (hv : ∀ c ∈ v, c < W) : P (run nx s v) = false :=
  go_none hok hN (N + 1) 0 _ (by omega) (Nat.zero_le _) (start_inv hs) (fun i e hi _ => by omega) h v hv
end
/-! sets of classes, in ascending order -/
def OkS (n : Nat) (l : List Nat) : Prop := l.Pairwise (· < ·) ∧ ∀ x ∈ l, x < n
theorem cnt_le : ∀ (n : Nat) (L : List (List Nat)), L.Nodup → (∀ l ∈ L, OkS n l) → L.length ≤ 2 ^ n
  | 0, L, hn, h => by
    have : ∀ l ∈ L, l = [] := fun l hl => by
      cases l with
      | nil => rfl
      | cons a r => exact absurd ((h _ hl).2 a (by simp)) (by omega)
    match L, hn, this with
    | [], _, _ => simp
    | [a], _, _ => simp
    | a :: b :: r, hn, this =>
      have h1 := this a (by simp)
      have h2 := this b (by simp)
      subst h1; subst h2
      simp at hn
  | n + 1, L, hn, h => by
    have hsplit : L.length = (L.filter fun l => decide (n ∈ l)).length + (L.filter fun l => !decide (n ∈ l)).length := by
      clear hn h
      induction L with
      | nil => rfl
      | cons a r ih =>
        by_cases q : n ∈ a
        · simp [q, ih]; omega
        · simp [q, ih]; omega
    have h1 : (L.filter fun l => !decide (n ∈ l)).length ≤ 2 ^ n := by
      refine cnt_le n _ (hn.sublist List.filter_sublist) fun l hl => ?_
      obtain ⟨hl1, hl2⟩ := List.mem_filter.mp hl
      have hl2 : n ∉ l := by simpa using hl2
      refine ⟨(h l hl1).1, fun x hx => ?_⟩
      have := (h l hl1).2 x hx
      have : x ≠ n := fun e => hl2 (e ▸ hx)
      omega
    have h2 : (L.filter fun l => decide (n ∈ l)).length ≤ 2 ^ n := by
      have key : ∀ l, OkS (n + 1) l → n ∈ l → l = l.dropLast ++ [n] ∧ OkS n l.dropLast := by
        intro l ho hm
        have hne : l ≠ [] := fun e => by subst e; cases hm
        have e1 : l = l.dropLast ++ [l.getLast hne] := (List.dropLast_concat_getLast hne).symm
        have hlast : l.getLast hne = n := by
          have hb := ho.2 _ (List.getLast_mem hne)
          rw [e1] at hm
          rcases List.mem_append.mp hm with q | q
          · have hp := ho.1
            rw [e1, List.pairwise_append] at hp
            have := hp.2.2 n q (l.getLast hne) (by simp)
            omega
          · have : n = l.getLast hne := by simpa using q
            exact this.symm
        rw [hlast] at e1
        refine ⟨e1, ?_, fun x hx => ?_⟩
        · exact ho.1.sublist (List.dropLast_sublist l)
        · have hp := ho.1
          rw [e1, List.pairwise_append] at hp
          exact hp.2.2 x hx n (by simp)
      have hmap : ((L.filter fun l => decide (n ∈ l)).map List.dropLast).length ≤ 2 ^ n := by
        refine cnt_le n _ ?_ ?_
        · rw [List.Nodup, List.pairwise_map]
          refine (List.Pairwise.and_mem.mp (hn.sublist List.filter_sublist)).imp ?_
          rintro a b ⟨ha, hb, hab⟩ e
          obtain ⟨ha1, ha2⟩ := List.mem_filter.mp ha
          obtain ⟨hb1, hb2⟩ := List.mem_filter.mp hb
          apply hab
          rw [(key a (h a ha1) (by simpa using ha2)).1, (key b (h b hb1) (by simpa using hb2)).1, e]
        · intro l hl
          obtain ⟨l', hl', rfl⟩ := List.mem_map.mp hl
          obtain ⟨a1, a2⟩ := List.mem_filter.mp hl'
          exact (key l' (h l' a1) (by simpa using a2)).2
      simpa using hmap
    rw [hsplit, Nat.pow_succ]
    omega
end Gb
end
section
open Lin
local macro_rules | `(tactic| simp_arith [$ts,*]) => `(tactic| simp only [ok_var, ok_fz, ok_callT, ok_dispT, ok_iseqA, rdum_nil, rdum_none, rdum_cons, backT_nil, backT_val, backT_tmp, backT_ref, ok_mv, ok_lit, ok_two, ok_one, ok_test, ok_nil, ok_cons, ok_consK, ok_star, ok_many, ok_and, ok_or, ok_not, ok_ifE, ok_andV, ok_orV, ok_next, ok_seq, okF_nx, okF_ret, okF_brk, okF_cnt, ok_if, ok_ret, ok_retN, ok_expr, ok_asg, so_gset, ok_mutE, ok_setE, ok_call, ok_refs, ok_refsL, ok_for, ok_iseqE, ok_rg1, ok_rg2, ok_yes, ok_chn, imV_im, ok_disp, ok_newK, ok_mk, ok_lc, okC_fin, okC_finx, ok_raise0, ok_raise1, raiV_t,
  so_some, if_true, if_false, ite_true, ite_false, reduceIte, Bool.false_eq_true, Bool.true_eq_false, and_self, true_and, and_true, false_and, and_false, or_false, false_or, not_true_eq_false, not_false_eq_true, ne_eq, reduceCtorEq, Bool.not_true, Bool.not_false, Bool.and_true, Bool.true_and, Bool.and_false, Bool.false_and, Bool.or_true, Bool.true_or, Bool.or_false, Bool.false_or, Bool.not_eq_true', Bool.not_eq_false', Bool.not_not, decide_true, decide_false, decide_eq_true_eq, decide_not, decide_eq_false_iff_not,
  List.getElem?_nil, List.getElem?_cons_zero, List.getElem?_cons_succ, List.set_cons_zero, List.set_cons_succ, List.map_cons, List.map_nil, List.cons_append, List.nil_append, List.length_cons, List.length_nil, List.zip_cons_cons, List.zip_nil_right, List.all_cons, List.all_nil, List.filterMap_cons, List.filterMap_nil, List.replicate, List.not_mem_nil, List.mem_cons, Option.isNone_none, Option.isNone_some, Option.map_some, Option.map_none, id_eq, Nat.reduceAdd, Nat.reduceSub, Nat.reduceEqDiff, Nat.zero_ne_one, Kd.bor.injEq, List.foldr_cons, List.foldr_nil,
  clean_nil, clean_cons, clean_non, mk_im, bor_im, kill_im, kill_none, of_im, fzIf_im, fzIf_t, fzIf_f, en_mk, bo_own, bo_frz, bo_par, bo_bor, fz_own, fz_frz, fz_par', fz_bor', pa_own, pa_frz, pa_par, pa_bor, re_own, re_frz, re_par, re_bor, bor_en, kill_en, kill_opt, of_en, en_im,
  len_en, len_enT, len_enD, ix_en, ix_enT0, ix_enT1, list_en, isi_en, isi_int, isi_bool, tru_en, isn_en, isn_non, isn_I, seq_en, not_B, neg_I, min_I, max_I, in_en, notIn_en, in_LN, notIn_LN, sorted_en, list_enD, eq_LN, ne_LN, eq_LLN, ne_LLN, it_en,
  add_I, sub_I, lt_I, le_I, gt_I, ge_I, eq_I, ne_I, dbool_B, dtru_B, toInt_I, toInt_B, abs_I, shOk_L, ok_own, ok_xfE, xfD_some, ok_isX, isXD_a, cutH1, cutHN, all_clean, dLst_s, dTup_s, en_L0, Nat.reduceLT, Nat.reduceLeDiff, Int.reduceLT, Int.reduceLE, Int.reduceEq, Nat.lt_add_left_iff_pos, Nat.zero_add, bor_nd, kill_d, of_nd, mk_nd, List.any_cons, List.any_nil, beq_self_eq_true, en_LNp, en_LNo, en_LNb, mut_clear, argsD, backS, setAll, usOf, wipeS, $ts,*])
namespace Law
open PySem L2 Lin Bfs
section
variable {p : List Nat} {t : List (List Nat)} {w s : Nat} {d : D}
theorem lnumber_ok (v : Int) : m__law_number [I v] = .ok (B true) [] := by
  refine of_okC ?_
  unfold m__law_number b__law_number
  simp_arith [okC_sem]
theorem led_okD (h : Good p t w) (hd : PlD d p t) {a c : Nat} (ha : a < p.length) : m__law_led [d, I a, I c] = .ok (I (led t a c)) [] := by
  obtain ⟨k, hk, ei⟩ := hd.ix1
  have hs := hd.stb
  refine of_okC ?_
  unfold m__law_led b__law_led
  obtain ⟨hat, hrl, hrx⟩ := h.tab.get ha
  obtain ⟨row, hrow⟩ : ∃ row, t[a]? = some row := ⟨_, List.getElem?_eq_getElem hat⟩
  have hgd : t.getD a [] = row := by simp [List.getD, hrow]
  rw [hgd] at hrl hrx
  have h1 := h.tab.w1
  have e1 : (if (row.length : Int) - 1 < (c : Int) then (row.length : Int) - 1 else (c : Int)) = ((min c (row.length - 1) : Nat) : Int) := by split <;> omega
  have hl : min c (row.length - 1) < row.length := by omega
  simp_arith [okC_sem, hs.bo, ei, ix_enq hrow, hk.bo, hk.fz, e1, ix_en hl]
  unfold led
  rw [hgd]
  simp [hl]
theorem lled_all_ok (h : Good p t w) (hd : PlD d p t) {e : D} {k1 c1 : Kd} {xs : List Nat} (he : e = en k1 c1 (pL pN xs) ∨ e = en k1 c1 (pTN xs)) {c : Nat} (hx : ∀ x ∈ xs, x < p.length) (hl : xs.length < 60) :
    m__law_led_all [d, e, I c] = .ok (en .own .frz (pL pN (sdN (xs.map fun a => led t a c)))) [] := by
  have hs := hd.stb
  have hi : ∃ dd, itA (e.mk (kBo 1)) = some (dd, xs.map fun x : Nat => I (x : Int)) := by
    rcases he with rfl | rfl
    · rw [en_mk, itA_L]; exact ⟨_, rfl⟩
    · rw [en_mk, itA_T]; exact ⟨_, rfl⟩
  obtain ⟨dd, hi⟩ := hi
  refine of_okC ?_
  unfold m__law_led_all b__law_led_all
  simp_arith [okC_sem, ok_iseqA, hi]
  refine lc_map (e := fun x : Nat => I (x : Int)) (h := fun x : Nat => I (x : Int)) (w := fun a => led t a c) (by omega) rfl (fun _ _ => rfl) ?_ ?_
  · intro y hy
    simp_arith [hs.bo, hs.pa, okC_of (led_okD h hd (c := c) (hx y hy))]
  · simp_arith [fold_LN, ss_en (show (xs.map fun a => led t a c).length < 60 by simpa using hl)]
/-! the search -/
def nxS (t : List (List Nat)) (a : List Nat) (j : Nat) : List Nat := sdN (a.map fun x => led t x j)
def oneS (a : List Nat) : Bool := decide (a.length = 1)
def srch (t : List (List Nat)) (w : Nat) (s : List Nat) : Option (List Nat × List Nat) := Gb.search (nxS t) oneS w 4096 s
theorem nxS_ok (h : Good p t w) (a : List Nat) (j : Nat) (ha : Gb.OkS p.length a) : Gb.OkS p.length (nxS t a j) := ⟨pw_sdN _, fun x hx => by
  obtain ⟨y, hy, rfl⟩ := List.mem_map.mp (mem_sdN.mp hx)
  exact h.tab.led_lt (ha.2 y hy) j⟩
theorem okS_len {n : Nat} {a : List Nat} (h : Gb.OkS n a) : a.length ≤ n := nodup_lt (sd_nodup h.1) h.2
theorem okS_cnt (h : Good p t w) {s : List Nat} {E : Gb.Es (List Nat)} (hb : Gb.BI (nxS t) (Gb.OkS p.length) w s E) : E.length ≤ 4096 := by
  have h1 := Gb.cnt_le p.length (Gb.keys E) hb.nd fun l hl => by
    obtain ⟨e, he, rfl⟩ := List.mem_map.mp hl
    exact hb.ok e he
  rw [Gb.keys_len] at h1
  have h2 : 2 ^ p.length ≤ 2 ^ 12 := Nat.pow_le_pow_right (by decide) h.tab.n12
  omega
theorem run_nxS (t : List (List Nat)) (s w : List Nat) : Gb.run (nxS t) s w = ca t s w := rfl
end
end Law
end
section
open Lin
local macro_rules | `(tactic| simp_arith [$ts,*]) => `(tactic| simp only [ok_var, ok_fz, ok_callT, ok_dispT, ok_iseqA, rdum_nil, rdum_none, rdum_cons, backT_nil, backT_val, backT_tmp, backT_ref, ok_mv, ok_lit, ok_two, ok_one, ok_test, ok_nil, ok_cons, ok_consK, ok_star, ok_many, ok_and, ok_or, ok_not, ok_ifE, ok_andV, ok_orV, ok_next, ok_seq, okF_nx, okF_ret, okF_brk, okF_cnt, ok_if, ok_ret, ok_retN, ok_expr, ok_asg, so_gset, ok_mutE, ok_setE, ok_call, ok_refs, ok_refsL, ok_for, ok_iseqE, ok_rg1, ok_rg2, ok_yes, ok_chn, imV_im, ok_disp, ok_newK, ok_mk, ok_lc, okC_fin, okC_finx, ok_raise0, ok_raise1, raiV_t,
  so_some, if_true, if_false, ite_true, ite_false, reduceIte, Bool.false_eq_true, Bool.true_eq_false, and_self, true_and, and_true, false_and, and_false, or_false, false_or, not_true_eq_false, not_false_eq_true, ne_eq, reduceCtorEq, Bool.not_true, Bool.not_false, Bool.and_true, Bool.true_and, Bool.and_false, Bool.false_and, Bool.or_true, Bool.true_or, Bool.or_false, Bool.false_or, Bool.not_eq_true', Bool.not_eq_false', Bool.not_not, decide_true, decide_false, decide_eq_true_eq, decide_not, decide_eq_false_iff_not,
  List.getElem?_nil, List.getElem?_cons_zero, List.getElem?_cons_succ, List.set_cons_zero, List.set_cons_succ, List.map_cons, List.map_nil, List.cons_append, List.nil_append, List.length_cons, List.length_nil, List.zip_cons_cons, List.zip_nil_right, List.all_cons, List.all_nil, List.filterMap_cons, List.filterMap_nil, List.replicate, List.not_mem_nil, List.mem_cons, Option.isNone_none, Option.isNone_some, Option.map_some, Option.map_none, id_eq, Nat.reduceAdd, Nat.reduceSub, Nat.reduceEqDiff, Nat.zero_ne_one, Kd.bor.injEq, List.foldr_cons, List.foldr_nil,
  clean_nil, clean_cons, clean_non, mk_im, bor_im, kill_im, kill_none, of_im, fzIf_im, fzIf_t, fzIf_f, en_mk, bo_own, bo_frz, bo_par, bo_bor, fz_own, fz_frz, fz_par', fz_bor', pa_own, pa_frz, pa_par, pa_bor, re_own, re_frz, re_par, re_bor, bor_en, kill_en, kill_opt, of_en, en_im,
  len_en, len_enT, len_enD, ix_en, ix_enT0, ix_enT1, list_en, isi_en, isi_int, isi_bool, tru_en, isn_en, isn_non, isn_I, seq_en, not_B, neg_I, min_I, max_I, in_en, notIn_en, in_LN, notIn_LN, sorted_en, list_enD, eq_LN, ne_LN, eq_LLN, ne_LLN, it_en,
  add_I, sub_I, lt_I, le_I, gt_I, ge_I, eq_I, ne_I, dbool_B, dtru_B, toInt_I, toInt_B, abs_I, shOk_L, ok_own, ok_xfE, xfD_some, ok_isX, isXD_a, cutH1, cutHN, all_clean, dLst_s, dTup_s, en_L0, Nat.reduceLT, Nat.reduceLeDiff, Int.reduceLT, Int.reduceLE, Int.reduceEq, Nat.lt_add_left_iff_pos, Nat.zero_add, bor_nd, kill_d, of_nd, mk_nd, List.any_cons, List.any_nil, beq_self_eq_true, en_LNp, en_LNo, en_LNb, mut_clear, argsD, backS, setAll, usOf, wipeS, $ts,*])
namespace Law
open PySem L2 Lin Bfs
section
variable {p : List Nat} {t : List (List Nat)} {w : Nat} {d : D}
def lens (E : Gb.Es (List Nat)) : List (List Nat × Nat) := E.map fun e => (e.1, e.2.length)
theorem lens_keys (E : Gb.Es (List Nat)) : (lens E).map Prod.fst = Gb.keys E := by simp [lens, Gb.keys]
theorem lens_len (E : Gb.Es (List Nat)) : (lens E).length = E.length := by simp [lens]
def dueD (r : Option (List Nat × List Nat)) : D := match r with | some e => I (e.2.length : Int) | none => .im .non
def optT (o : Option (List Nat)) : Option D := o.map fun x => en .frz .frz (pTN x)
theorem optT_kill (o : Option (List Nat)) (r : Nat) : killD r (optT o) = optT o := by
  cases o with
  | none => rfl
  | some x => exact kill_en (by simp) (by simp) _
theorem setTN {E : List (List Nat × Nat)} {n : List Nat} {x : Nat} {K1 : D → Prop} {k' c' : Kd} (hn : n ∉ E.map Prod.fst) (hd : (E.map Prod.fst).Nodup) (hl : E.length < 1000000) :
    Lin.SetAt oSet (en .own .frz (pDT pN E)) (en k' c' (pTN n)) (I (x : Int)) K1 = K1 (en .own .frz (pDT pN (E ++ [(n, x)]))) := setT_new (f := pN) (x := x) hn hd hl
theorem go_succ {P : List Nat → Bool} {nx : List Nat → Nat → List Nat} {W m k : Nat} {E : Gb.Es (List Nat)} {e : List Nat × List Nat} (h : E[k]? = some e) : Gb.go nx P W (m + 1) k E = if P e.1 = true then some e else Gb.go nx P W m (k + 1) (Gb.bRow nx e.1 e.2 E W) := by rw [Gb.go, h]
theorem go_end {P : List Nat → Bool} {nx : List Nat → Nat → List Nat} {W m k : Nat} {E : Gb.Es (List Nat)} (h : E[k]? = none) : Gb.go nx P W m k E = none := by cases m with | zero => rfl | succ m => rw [Gb.go, h]
theorem pre_get {α : Type} {A B : List α} (h : A <+: B) {k : Nat} {x : α} (e : A[k]? = some x) : B[k]? = some x := by
  obtain ⟨t, rfl⟩ := h
  rw [List.getElem?_append_left (List.getElem?_eq_some_iff.mp e).1]
  exact e
theorem keys_get {E : Gb.Es (List Nat)} {k : Nat} {e : List Nat × List Nat} (h : E[k]? = some e) : (Gb.keys E)[k]? = some e.1 := by unfold Gb.keys; rw [List.getElem?_map, h]; rfl
theorem lens_get {E : Gb.Es (List Nat)} (hn : (Gb.keys E).Nodup) {a : List Nat} {v : List Nat} (h : (a, v) ∈ E) : (lens E).lookup a = some v.length :=
  lookup_ofT (by rw [lens_keys]; exact hn) (List.mem_map.mpr ⟨(a, v), h, rfl⟩)
theorem lshortest_ok (h : Good p t w) (hd : PlD d p t) {k1 : Kd} (hk1 : St k1) {s : List Nat} (hs : Gb.OkS p.length s) :
    m__law_shortest [d, en k1 .frz (pL pN s)] = .ok (dueD (srch t w s)) [] := by
  have st := hd.stb
  obtain ⟨kx, hkx, ei⟩ := hd.ix1
  have hw1 := h.tab.w1
  have hw5 := h.tab.w5
  have hn1 := h.tab.n1
  have hn12 := h.tab.n12
  obtain ⟨hat, hrl, hrx⟩ := h.tab.get (a := 0) (by omega)
  obtain ⟨row, hrow⟩ : ∃ row, t[0]? = some row := ⟨_, List.getElem?_eq_getElem hat⟩
  have hgd : t.getD 0 [] = row := by simp [List.getD, hrow]
  rw [hgd] at hrl
  have hok := nxS_ok h
  refine of_okC ?_
  unfold m__law_shortest b__law_shortest
  rw [okC_sem]
  have s1 := stb_en hk1 st_frz (pL pN s)
  generalize hd1 : en k1 .frz (pL pN s) = d1 at s1
  have et : dTupOf [d1] = some (en .own .frz (pTN s)) := by rw [← hd1]; exact tup_L
  refine seq_cut (A := fun S => S = [some d, some d1, some (en .own .frz (pDT pN (lens [(s, [])]))), none, none, none, none]) ?_ ?_
  · simp_arith [st.bo, s1.bo, et, dispT_en]
    rw [en_pDT]; rfl
  rintro _ rfl
  refine seq_cut (A := fun S => S = [some d, some d1, some (en .own .frz (pDT pN (lens [(s, [])]))), some (en .own .frz (pL pTN (Gb.keys [(s, ([] : List Nat))]))), none, none, none]) ?_ ?_
  · simp_arith [st.bo, s1.bo, et]
    rw [en_pL]; rfl
  rintro _ rfl
  refine seq_cut (A := fun S => S = [some d, some d1, some (en .own .frz (pDT pN (lens [(s, [])]))), some (en .own .frz (pL pTN (Gb.keys [(s, ([] : List Nat))]))), some (I ((0 : Nat) : Int)), none, none]) ?_ ?_
  · simp_arith []
    rfl
  rintro _ rfl
  refine seq_cut (A := fun S => srch t w s = none ∧ ∃ E k o5 o6, S = [some d, some d1, some (en .own .frz (pDT pN (lens E))), some (en .own .frz (pL pTN (Gb.keys E))), some (I ((k : Nat) : Int)), optN o5, optT o6]) ?_ ?_
  · refine while_inv (Inv := fun m S => ∃ E k o5 o6, S = [some d, some d1, some (en .own .frz (pDT pN (lens E))), some (en .own .frz (pL pTN (Gb.keys E))), some (I ((k : Nat) : Int)), optN o5, optT o6] ∧ Gb.BI (nxS t) (Gb.OkS p.length) w s E ∧ k ≤ E.length ∧ Gb.go (nxS t) oneS w m k E = srch t w s ∧ 4096 < m + k) _ ?_ fuel 4097 _ (by decide) ⟨[(s, [])], 0, none, none, rfl, Gb.start_inv hs, by simp, rfl, by decide⟩
    rintro m S ⟨E, k, o5, o6, rfl, hb, hk, hgo, hm⟩
    have hE := okS_cnt h hb
    have hkl : (Gb.keys E).length = E.length := Gb.keys_len E
    by_cases hlt : k < E.length
    · obtain ⟨e, he⟩ : ∃ e, E[k]? = some e := ⟨_, List.getElem?_eq_getElem hlt⟩
      obtain ⟨a, v⟩ := e
      have hem := List.mem_of_getElem? he
      obtain ⟨m, rfl⟩ : ∃ m', m = m' + 1 := ⟨m - 1, by omega⟩
      rw [go_succ he] at hgo
      have hlt' : ((k : Int) < ((Gb.keys E).length : Int)) = True := eq_true (by omega)
      have hoka : Gb.OkS p.length a := hb.ok _ hem
      have hka := keys_get he
      by_cases h1 : a.length = 1
      · have h1' : ((a.length : Int) = 1) = True := eq_true (by omega)
        have ho : oneS a = true := by unfold oneS; exact decide_eq_true h1
        rw [if_pos ho] at hgo
        simp_arith [hlt', ix_enq hka, List.length_map, h1', getT_en (lens_get hb.nd hem), st.kill, s1.kill, optT_kill, optN_kill]
        rw [← hgo]
        rfl
      · have h1' : ((a.length : Int) = 1) = False := eq_false (by omega)
        have ho : ¬ oneS a = true := by unfold oneS; simpa using h1
        rw [if_neg ho] at hgo
        simp only [] at hgo
        have e0 : oIx (en kx kx (pL (pL pN) t)) (I 0) = some (en kx kx (pL pN row)) := ix_enq (i := 0) hrow
        simp_arith [hlt', ix_enq hka, List.length_map, h1', st.bo, ei, e0, hrl, rg1_eq (show w < 1000000 by omega)]
        refine OkE.mono (Q := fun (fl : Fl) S => fl = Fl.nx ∧ ∃ o5 o6, S = [some d, some d1, some (en .own .frz (pDT pN (lens (Gb.bRow (nxS t) a v E w)))), some (en .own .frz (pL pTN (Gb.keys (Gb.bRow (nxS t) a v E w)))), some (I ((k : Nat) : Int)), optN o5, optT o6]) ?_ ?_
        · refine for_inv (Inv := fun j S => ∃ o5 o6, S = [some d, some d1, some (en .own .frz (pDT pN (lens (Gb.bRow (nxS t) a v E j)))), some (en .own .frz (pL pTN (Gb.keys (Gb.bRow (nxS t) a v E j)))), some (I ((k : Nat) : Int)), optN o5, optT o6]) ?_ ?_ ?_
          · rintro j y S hy ⟨o5, o6, rfl⟩
            obtain ⟨hj, hy⟩ := List.getElem?_eq_some_iff.mp hy
            rw [List.getElem_range] at hy
            subst hy
            rw [List.length_range] at hj
            have pre := Gb.bRow_pre (nx := nxS t) (a := a) (w := v) (E0 := E) j
            have hbj := Gb.bRow_inv hb hem hok j (by omega)
            have hlj := okS_cnt h hbj
            have hej := pre_get pre he
            have hkj := keys_get hej
            have hmj := List.mem_of_getElem? hej
            have hal := okS_len hoka
            have hgoal : m__law_led_all [d, en .frz .frz (pTN a), I (j : Int)] = .ok (en .own .frz (pL pN (nxS t a j))) [] := lled_all_ok h hd (k1 := .frz) (c1 := .frz) (.inr rfl) hoka.2 (by omega)
            rw [Gb.bRow_succ]
            by_cases hin : nxS t a j ∈ Gb.keys (Gb.bRow (nxS t) a v E j)
            · have hin' : decide (nxS t a j ∈ List.map Prod.fst (lens (Gb.bRow (nxS t) a v E j))) = true := by rw [lens_keys]; exact decide_eq_true hin
              rw [if_pos hin]
              simp_arith [st.bo, st.pa, ix_enq hkj, okC_of hgoal, tup_L, notInT_en, hin']
              exact ⟨some j, some (nxS t a j), rfl⟩
            · have hin' : decide (nxS t a j ∈ List.map Prod.fst (lens (Gb.bRow (nxS t) a v E j))) = false := by rw [lens_keys]; exact decide_eq_false hin
              rw [if_neg hin]
              have hpl : ((v.length : Int) + 1) = ((v.length + 1 : Nat) : Int) := by omega
              simp_arith [st.bo, st.pa, ix_enq hkj, okC_of hgoal, tup_L, notInT_en, hin', getT_en (lens_get hbj.nd hmj), hpl, st.kill, s1.kill, optT_kill, optN_kill,
                setTN (x := v.length + 1) (show nxS t a j ∉ (lens (Gb.bRow (nxS t) a v E j)).map Prod.fst by rw [lens_keys]; exact hin) (by rw [lens_keys]; exact hbj.nd) (by rw [lens_len]; omega), mut_app (g := pTN) (x := nxS t a j) (show (Gb.keys (Gb.bRow (nxS t) a v E j)).length < 1000000 by rw [Gb.keys_len]; omega)]
              refine ⟨some j, some (nxS t a j), ?_⟩
              have l1 : lens (Gb.bRow (nxS t) a v E j) ++ [(nxS t a j, v.length + 1)] = lens (Gb.bRow (nxS t) a v E j ++ [(nxS t a j, v ++ [j])]) := by simp [lens]
              rw [l1, Gb.keys_append]
              rfl
          · rintro S ⟨o5, o6, rfl⟩
            rw [List.length_range]
            exact ⟨rfl, o5, o6, rfl⟩
          · exact ⟨o5, o6, rfl⟩
        · rintro fl S ⟨rfl, o5, o6, rfl⟩
          have pre := Gb.bRow_pre (nx := nxS t) (a := a) (w := v) (E0 := E) w
          have hbj := Gb.bRow_inv hb hem hok w (Nat.le_refl _)
          have hk1' : ((k : Int) + 1) = ((k + 1 : Nat) : Int) := by omega
          simp_arith [hk1']
          exact ⟨m, by omega, _, k + 1, o5, o6, rfl, hbj, Nat.le_trans hlt pre.length_le, hgo, by omega⟩
    · have hlt' : ((k : Int) < ((Gb.keys E).length : Int)) = False := eq_false (by omega)
      rw [go_end (by simp; omega)] at hgo
      simp_arith [hlt']
      exact ⟨hgo.symm, E, k, o5, o6, rfl⟩
  rintro S ⟨hR, E, k, o5, o6, rfl⟩
  simp_arith [hR]
  rfl
end
end Law
end
section
open Lin
local macro_rules | `(tactic| simp_arith [$ts,*]) => `(tactic| simp only [ok_var, ok_fz, ok_callT, ok_dispT, ok_iseqA, rdum_nil, rdum_none, rdum_cons, backT_nil, backT_val, backT_tmp, backT_ref, ok_mv, ok_lit, ok_two, ok_one, ok_test, ok_nil, ok_cons, ok_consK, ok_star, ok_many, ok_and, ok_or, ok_not, ok_ifE, ok_andV, ok_orV, ok_next, ok_seq, okF_nx, okF_ret, okF_brk, okF_cnt, ok_if, ok_ret, ok_retN, ok_expr, ok_asg, so_gset, ok_mutE, ok_setE, ok_call, ok_refs, ok_refsL, ok_for, ok_iseqE, ok_rg1, ok_rg2, ok_yes, ok_chn, imV_im, ok_disp, ok_newK, ok_mk, ok_lc, okC_fin, okC_finx, ok_raise0, ok_raise1, raiV_t,
  so_some, if_true, if_false, ite_true, ite_false, reduceIte, Bool.false_eq_true, Bool.true_eq_false, and_self, true_and, and_true, false_and, and_false, or_false, false_or, not_true_eq_false, not_false_eq_true, ne_eq, reduceCtorEq, Bool.not_true, Bool.not_false, Bool.and_true, Bool.true_and, Bool.and_false, Bool.false_and, Bool.or_true, Bool.true_or, Bool.or_false, Bool.false_or, Bool.not_eq_true', Bool.not_eq_false', Bool.not_not, decide_true, decide_false, decide_eq_true_eq, decide_not, decide_eq_false_iff_not,
  List.getElem?_nil, List.getElem?_cons_zero, List.getElem?_cons_succ, List.set_cons_zero, List.set_cons_succ, List.map_cons, List.map_nil, List.cons_append, List.nil_append, List.length_cons, List.length_nil, List.zip_cons_cons, List.zip_nil_right, List.all_cons, List.all_nil, List.filterMap_cons, List.filterMap_nil, List.replicate, List.not_mem_nil, List.mem_cons, Option.isNone_none, Option.isNone_some, Option.map_some, Option.map_none, id_eq, Nat.reduceAdd, Nat.reduceSub, Nat.reduceEqDiff, Nat.zero_ne_one, Kd.bor.injEq, List.foldr_cons, List.foldr_nil,
  clean_nil, clean_cons, clean_non, mk_im, bor_im, kill_im, kill_none, of_im, fzIf_im, fzIf_t, fzIf_f, en_mk, bo_own, bo_frz, bo_par, bo_bor, fz_own, fz_frz, fz_par', fz_bor', pa_own, pa_frz, pa_par, pa_bor, re_own, re_frz, re_par, re_bor, bor_en, kill_en, kill_opt, of_en, en_im,
  len_en, len_enT, len_enD, ix_en, ix_enT0, ix_enT1, list_en, isi_en, isi_int, isi_bool, tru_en, isn_en, isn_non, isn_I, seq_en, not_B, neg_I, min_I, max_I, in_en, notIn_en, in_LN, notIn_LN, sorted_en, list_enD, eq_LN, ne_LN, eq_LLN, ne_LLN, it_en,
  add_I, sub_I, lt_I, le_I, gt_I, ge_I, eq_I, ne_I, dbool_B, dtru_B, toInt_I, toInt_B, abs_I, shOk_L, ok_own, ok_xfE, xfD_some, ok_isX, isXD_a, cutH1, cutHN, all_clean, dLst_s, dTup_s, en_L0, Nat.reduceLT, Nat.reduceLeDiff, Int.reduceLT, Int.reduceLE, Int.reduceEq, Nat.lt_add_left_iff_pos, Nat.zero_add, bor_nd, kill_d, of_nd, mk_nd, List.any_cons, List.any_nil, beq_self_eq_true, en_LNp, en_LNo, en_LNb, mut_clear, argsD, backS, setAll, usOf, wipeS, $ts,*])
namespace Law
open PySem L2 Lin Bfs
section
variable {p : List Nat} {t : List (List Nat)} {w : Nat} {d : D}
def rowD (r : Option (List Nat × List Nat)) : D := match r with | some e => en .own .frz (pL pN e.2) | none => .im .non
theorem columns_ok {k : Kd} (h : Good p t w) (hk : k = .frz ∨ k = .par) : m_Scale_columns [en k k (sc p t)] = .ok (I w) [] := by
  refine of_okC ?_
  unfold m_Scale_columns b_Scale_columns
  obtain ⟨hat, hrl, hrx⟩ := h.tab.get (a := 0) (by have := h.tab.n1; omega)
  obtain ⟨row, hrow⟩ : ∃ row, t[0]? = some row := ⟨_, List.getElem?_eq_getElem hat⟩
  have hgd : t.getD 0 [] = row := by simp [List.getD, hrow]
  rw [hgd] at hrl hrx
  have e0 : ∀ k c, oIx (en k c (pL (pL pN) t)) (I 0) = some (en c c (pL pN row)) := fun k c => ix_enq (i := 0) hrow
  simp_arith [okC_sem, fld_moves, e0, hrl]
theorem setTL {E : List (List Nat × List Nat)} {n : List Nat} {x : List Nat} {K1 : D → Prop} {k' c' : Kd} (hn : n ∉ E.map Prod.fst) (hd : (E.map Prod.fst).Nodup) (hl : E.length < 1000000) :
    Lin.SetAt oSet (en .own .own (pDT (pL pN) E)) (en k' c' (pTN n)) (en .own .frz (pL pN x)) K1 = K1 (en .own .own (pDT (pL pN) (E ++ [(n, x)]))) := by
  rw [← en_LNo]; exact setT_new hn hd hl
theorem get_E {E : Gb.Es (List Nat)} (hn : (Gb.keys E).Nodup) {a : List Nat} {v : List Nat} (h : (a, v) ∈ E) : E.lookup a = some v := lookup_ofT hn h
theorem shortest_ok {k : Kd} (h : Good p t w) (hk : k = .frz ∨ k = .par) {s : List Nat} (hs : Gb.OkS p.length s) :
    m_shortest [en k k (sc p t), en .frz .frz (pTN s)] = .ok (rowD (srch t w s)) [] := by
  have hw1 := h.tab.w1
  have hw5 := h.tab.w5
  have hn1 := h.tab.n1
  have hn12 := h.tab.n12
  have hok := nxS_ok h
  have st := (sc_D (p := p) (t := t) k hk).stb
  have ecol := columns_ok h hk
  have eall := fun (x : List Nat) (c : Nat) (hx : Gb.OkS p.length x) => led_all_ok (k2 := .frz) (c2 := .frz) (c := c) h hk hx.2 (by have := okS_len hx; omega)
  have hins : isInsD 0 (en k k (sc p t)) = true := ins_sc
  generalize en k k (sc p t) = d at st ecol eall hins
  refine of_okC ?_
  unfold m_shortest b_shortest
  rw [okC_sem]
  refine seq_cut (A := fun S => S = [some d, some (en .frz .frz (pTN s)), some (en .own .own (pDT (pL pN) [(s, [])])), none, none, none, none]) ?_ ?_
  · simp_arith [dispT_en]
    rw [en_pDT]; rfl
  rintro _ rfl
  refine seq_cut (A := fun S => S = [some d, some (en .frz .frz (pTN s)), some (en .own .own (pDT (pL pN) [(s, [])])), some (en .own .frz (pL pTN (Gb.keys [(s, ([] : List Nat))]))), none, none, none]) ?_ ?_
  · simp_arith []
    rw [en_pL]; rfl
  rintro _ rfl
  refine seq_cut (A := fun S => srch t w s = none ∧ ∃ E l o4 o5 o6, S = [some d, some (en .frz .frz (pTN s)), some (en .own .own (pDT (pL pN) E)), some (en .own .frz (pL pTN l)), optT o4, optN o5, optT o6]) ?_ ?_
  · refine while_inv (Inv := fun m S => ∃ E k o4 o5 o6, S = [some d, some (en .frz .frz (pTN s)), some (en .own .own (pDT (pL pN) E)), some (en .own .frz (pL pTN ((Gb.keys E).drop k))), optT o4, optN o5, optT o6] ∧ Gb.BI (nxS t) (Gb.OkS p.length) w s E ∧ k ≤ E.length ∧ Gb.go (nxS t) oneS w m k E = srch t w s ∧ 4096 < m + k) _ ?_ fuel 4097 _ (by decide) ⟨[(s, [])], 0, none, none, none, rfl, Gb.start_inv hs, by simp, rfl, by decide⟩
    rintro m S ⟨E, k, o4, o5, o6, rfl, hb, hk, hgo, hm⟩
    have hE := okS_cnt h hb
    have hkl : (Gb.keys E).length = E.length := Gb.keys_len E
    by_cases hlt : k < E.length
    · obtain ⟨e, he⟩ : ∃ e, E[k]? = some e := ⟨_, List.getElem?_eq_getElem hlt⟩
      obtain ⟨a, v⟩ := e
      have hem := List.mem_of_getElem? he
      obtain ⟨m, rfl⟩ : ∃ m', m = m' + 1 := ⟨m - 1, by omega⟩
      rw [go_succ he] at hgo
      have hoka : Gb.OkS p.length a := hb.ok _ hem
      have hka := keys_get he
      have hdrop : (Gb.keys E).drop k = a :: (Gb.keys E).drop (k + 1) := by
        rw [List.drop_eq_getElem_cons (by omega)]
        congr 1
        have := List.getElem?_eq_getElem (l := Gb.keys E) (i := k) (by omega)
        rw [hka] at this
        exact (Option.some.inj this).symm
      rw [hdrop]
      have hl1 : (a :: (Gb.keys E).drop (k + 1)).length < 1000000 := by simp; omega
      by_cases h1 : a.length = 1
      · have h1' : ((a.length : Int) = 1) = True := eq_true (by omega)
        have ho : oneS a = true := by unfold oneS; exact decide_eq_true h1
        rw [if_pos ho] at hgo
        simp_arith [List.isEmpty_cons, mut_pop0 (g := pTN) hl1, List.length_map, h1', getT_en (get_E hb.nd hem), st.kill, optT_kill, optN_kill]
        rw [← hgo]
        rfl
      · have h1' : ((a.length : Int) = 1) = False := eq_false (by omega)
        have ho : ¬ oneS a = true := by unfold oneS; simpa using h1
        rw [if_neg ho] at hgo
        simp only [] at hgo
        simp_arith [List.isEmpty_cons, mut_pop0 (g := pTN) hl1, List.length_map, h1', st.kill, st.bo, st.pa, optT_kill, optN_kill, hins, okC_of ecol, rg1_eq (show w < 1000000 by omega)]
        refine for_inv (Inv := fun j S => ∃ o5 o6, S = [some d, some (en .frz .frz (pTN s)), some (en .own .own (pDT (pL pN) (Gb.bRow (nxS t) a v E j))), some (en .own .frz (pL pTN ((Gb.keys (Gb.bRow (nxS t) a v E j)).drop (k + 1)))), some (en .frz .frz (pTN a)), optN o5, optT o6]) ?_ ?_ ?_
        · rintro j y S hy ⟨o5, o6, rfl⟩
          obtain ⟨hj, hy⟩ := List.getElem?_eq_some_iff.mp hy
          rw [List.getElem_range] at hy
          subst hy
          rw [List.length_range] at hj
          have pre := Gb.bRow_pre (nx := nxS t) (a := a) (w := v) (E0 := E) j
          have hbj := Gb.bRow_inv hb hem hok j (by omega)
          have hlj := okS_cnt h hbj
          have hej := pre_get pre he
          have hmj := List.mem_of_getElem? hej
          have hvl : v.length < 100000 := by have := hb.wl k _ he; simp at this; omega
          have hgoal : m_led_all [d, en .frz .frz (pTN a), I (j : Int)] = .ok (en .frz .frz (pTN (nxS t a j))) [] := eall a j hoka
          rw [Gb.bRow_succ]
          by_cases hin : nxS t a j ∈ Gb.keys (Gb.bRow (nxS t) a v E j)
          · have hin' : decide (nxS t a j ∈ List.map Prod.fst (Gb.bRow (nxS t) a v E j)) = true := decide_eq_true hin
            rw [if_pos hin]
            simp_arith [st.bo, st.pa, okC_of hgoal, notInT_en, hin']
            exact ⟨some j, some (nxS t a j), rfl⟩
          · have hin' : decide (nxS t a j ∈ List.map Prod.fst (Gb.bRow (nxS t) a v E j)) = false := decide_eq_false hin
            rw [if_neg hin]
            have hst : dLst (List.map (D.mk kFz) (List.map (fun x : Nat => D.im (V.int (x : Int))) v) ++ [D.im (V.int (j : Int))]) = some (en .own .frz (pL pN (v ++ [j]))) := by
              rw [dLst_s (by simp; omega), star_N]
            simp_arith [st.bo, st.pa, okC_of hgoal, notInT_en, hin', getT_en (get_E hbj.nd hmj), st.kill, optT_kill, optN_kill, hst, setTL (x := v ++ [j]) (show nxS t a j ∉ (Gb.bRow (nxS t) a v E j).map Prod.fst from hin) hbj.nd (show (Gb.bRow (nxS t) a v E j).length < 1000000 by omega), mut_app (g := pTN) (x := nxS t a j) (show ((Gb.keys (Gb.bRow (nxS t) a v E j)).drop (k + 1)).length < 1000000 by rw [List.length_drop, Gb.keys_len]; omega)]
            refine ⟨some j, some (nxS t a j), ?_⟩
            have hl2 : k + 1 ≤ (Gb.keys (Gb.bRow (nxS t) a v E j)).length := by rw [Gb.keys_len]; exact Nat.le_trans hlt pre.length_le
            rw [Gb.keys_append, List.drop_append_of_le_length hl2]
            rfl
        · rintro S ⟨o5, o6, rfl⟩
          rw [List.length_range]
          have pre := Gb.bRow_pre (nx := nxS t) (a := a) (w := v) (E0 := E) w
          have hbj := Gb.bRow_inv hb hem hok w (Nat.le_refl _)
          exact ⟨m, by omega, _, k + 1, some a, o5, o6, rfl, hbj, Nat.le_trans hlt pre.length_le, hgo, by omega⟩
        · exact ⟨o5, o6, by simp only [Gb.bRow]⟩
    · rw [go_end (by simp; omega)] at hgo
      have hdr : (Gb.keys E).drop k = [] := List.drop_of_length_le (by omega)
      rw [hdr]
      simp_arith [List.isEmpty_nil]
      exact ⟨hgo.symm, E, [], o4, o5, o6, rfl⟩
  rintro S ⟨hR, E, l, o4, o5, o6, rfl⟩
  simp_arith [hR]
  rfl
end
end Law
end
section
open Lin
local macro_rules | `(tactic| simp_arith [$ts,*]) => `(tactic| simp only [ok_var, ok_fz, ok_callT, ok_dispT, ok_iseqA, rdum_nil, rdum_none, rdum_cons, backT_nil, backT_val, backT_tmp, backT_ref, ok_mv, ok_lit, ok_two, ok_one, ok_test, ok_nil, ok_cons, ok_consK, ok_star, ok_many, ok_and, ok_or, ok_not, ok_ifE, ok_andV, ok_orV, ok_next, ok_seq, okF_nx, okF_ret, okF_brk, okF_cnt, ok_if, ok_ret, ok_retN, ok_expr, ok_asg, so_gset, ok_mutE, ok_setE, ok_call, ok_refs, ok_refsL, ok_for, ok_iseqE, ok_rg1, ok_rg2, ok_yes, ok_chn, imV_im, ok_disp, ok_newK, ok_mk, ok_lc, okC_fin, okC_finx, ok_raise0, ok_raise1, raiV_t,
  so_some, if_true, if_false, ite_true, ite_false, reduceIte, Bool.false_eq_true, Bool.true_eq_false, and_self, true_and, and_true, false_and, and_false, or_false, false_or, not_true_eq_false, not_false_eq_true, ne_eq, reduceCtorEq, Bool.not_true, Bool.not_false, Bool.and_true, Bool.true_and, Bool.and_false, Bool.false_and, Bool.or_true, Bool.true_or, Bool.or_false, Bool.false_or, Bool.not_eq_true', Bool.not_eq_false', Bool.not_not, decide_true, decide_false, decide_eq_true_eq, decide_not, decide_eq_false_iff_not,
  List.getElem?_nil, List.getElem?_cons_zero, List.getElem?_cons_succ, List.set_cons_zero, List.set_cons_succ, List.map_cons, List.map_nil, List.cons_append, List.nil_append, List.length_cons, List.length_nil, List.zip_cons_cons, List.zip_nil_right, List.all_cons, List.all_nil, List.filterMap_cons, List.filterMap_nil, List.replicate, List.not_mem_nil, List.mem_cons, Option.isNone_none, Option.isNone_some, Option.map_some, Option.map_none, id_eq, Nat.reduceAdd, Nat.reduceSub, Nat.reduceEqDiff, Nat.zero_ne_one, Kd.bor.injEq, List.foldr_cons, List.foldr_nil,
  clean_nil, clean_cons, clean_non, mk_im, bor_im, kill_im, kill_none, of_im, fzIf_im, fzIf_t, fzIf_f, en_mk, bo_own, bo_frz, bo_par, bo_bor, fz_own, fz_frz, fz_par', fz_bor', pa_own, pa_frz, pa_par, pa_bor, re_own, re_frz, re_par, re_bor, bor_en, kill_en, kill_opt, of_en, en_im,
  len_en, len_enT, len_enD, ix_en, ix_enT0, ix_enT1, list_en, isi_en, isi_int, isi_bool, tru_en, isn_en, isn_non, isn_I, seq_en, not_B, neg_I, min_I, max_I, in_en, notIn_en, in_LN, notIn_LN, sorted_en, list_enD, eq_LN, ne_LN, eq_LLN, ne_LLN, it_en,
  add_I, sub_I, lt_I, le_I, gt_I, ge_I, eq_I, ne_I, dbool_B, dtru_B, toInt_I, toInt_B, abs_I, shOk_L, ok_own, ok_xfE, xfD_some, ok_isX, isXD_a, cutH1, cutHN, all_clean, dLst_s, dTup_s, en_L0, Nat.reduceLT, Nat.reduceLeDiff, Int.reduceLT, Int.reduceLE, Int.reduceEq, Nat.lt_add_left_iff_pos, Nat.zero_add, bor_nd, kill_d, of_nd, mk_nd, List.any_cons, List.any_nil, beq_self_eq_true, en_LNp, en_LNo, en_LNb, mut_clear, argsD, backS, setAll, usOf, wipeS, $ts,*])
namespace Law
open PySem L2 Lin Bfs
theorem trg_N {n : Nat} (h : n < 1000000) : dTRg1 (I (n : Int)) = some (en .own .frz (pTN (List.range n))) := by
  unfold dTRg1
  dsimp only
  rw [if_pos ⟨rngOk_of (by omega) (by omega), by omega⟩, en_pT, List.map_map]
  simp [rgI, tintsD]
  intro a _; rfl
/-- what is no class -/
def badC (n : Nat) : V → Bool
  | .int i => decide (i < 0) || decide ((n : Int) ≤ i)
  | _ => true
theorem badC_int {n : Nat} {v : V} (h : badC n v = true) (hi : isIntP 0 (.im v) = true) : ∃ i : Nat, v = .int (i : Int) ∧ n ≤ i := by
  cases v with
  | int i =>
    simp only [isIntP, decide_eq_true_eq] at hi
    simp only [badC, Bool.or_eq_true, decide_eq_true_eq] at h
    exact ⟨i.toNat, by rw [Int.toNat_of_nonneg hi], by omega⟩
  | _ => simp [isIntP] at hi
section
variable {p : List Nat} {t : List (List Nat)} {w : Nat} {d : D}
theorem check_exc {k c : Kd} {v : V} (hv : Vis (.im v)) (hb : badC p.length v = true) : m_Scale_check_class [en k c (sc p t), .im v] = .exc 100 (.nd .own (.xd ["at"]) [.im v]) [] := by
  have e := is_integer_v (k := .own) (c := .own) hv 0
  rw [en_im] at e
  refine of_okCE ?_
  unfold m_Scale_check_class b_Scale_check_class
  by_cases hi : isIntP 0 (.im v) = true
  · obtain ⟨i, rfl, hle⟩ := badC_int hb hi
    have h1 : ((p.length : Int) ≤ (i : Int)) = True := eq_true (by omega)
    simp_arith [okC_sem, okC_of e, hi, fld_rates, h1]
  · have hi : isIntP 0 (.im v) = false := by simpa using hi
    simp_arith [okC_sem, okC_of e, hi]
theorem uniting_ok {k : Kd} (h : Good p t w) (hk : k = .frz ∨ k = .par) : m_uniting_row [en k k (sc p t)] = .ok (rowD (srch t w (List.range p.length))) [] := by
  have kk : ∀ i, kBo i k = k := fun i => by rcases hk with rfl | rfl <;> rfl
  have kp : kPar k = k := by rcases hk with rfl | rfl <;> rfl
  have hn12 := h.tab.n12
  have hlen : p.length < 1000000 := by omega
  have hr : Gb.OkS p.length (List.range p.length) := ⟨List.pairwise_lt_range, fun x hx => List.mem_range.mp hx⟩
  refine of_okC ?_
  unfold m_uniting_row b_uniting_row
  have e := shortest_ok h hk hr
  have of : ofD (rowD (srch t w (List.range p.length))) = true ∧ D.mk (kRet [false]) (rowD (srch t w (List.range p.length))) = rowD (srch t w (List.range p.length)) := by
    cases srch t w (List.range p.length) with
    | none => exact ⟨rfl, rfl⟩
    | some e => exact ⟨of_en (.inl rfl) (.inr rfl) (pL pN e.2), by rw [rowD, en_mk]; rfl⟩
  simp_arith [okC_sem, kk, kp, ins_sc, okC_of (slen_ok hk), isLen_N hlen, trg_N hlen, okC_of e, of.1, of.2]
theorem sdN2_ok {n a b : Nat} (ha : a < n) (hb : b < n) : Gb.OkS n (sdN [a, b]) := ⟨pw_sdN _, fun x hx => by
  have := mem_sdN.mp hx
  simp at this
  omega⟩
theorem meeting_ok {k : Kd} (h : Good p t w) (hk : k = .frz ∨ k = .par) {a b : Nat} (ha : a < p.length) (hb : b < p.length) : m_meeting_row [en k k (sc p t), I a, I b] = .ok (rowD (srch t w (sdN [a, b]))) [] := by
  have kk : ∀ i, kBo i k = k := fun i => by rcases hk with rfl | rfl <;> rfl
  have kp : kPar k = k := by rcases hk with rfl | rfl <;> rfl
  refine of_okC ?_
  unfold m_meeting_row b_meeting_row
  have e := shortest_ok h hk (sdN2_ok ha hb)
  have of : ofD (rowD (srch t w (sdN [a, b]))) = true ∧ D.mk (kRet [false, false, false]) (rowD (srch t w (sdN [a, b]))) = rowD (srch t w (sdN [a, b])) := by
    cases srch t w (sdN [a, b]) with
    | none => exact ⟨rfl, rfl⟩
    | some e => exact ⟨of_en (.inl rfl) (.inr rfl) (pL pN e.2), by rw [rowD, en_mk]; rfl⟩
  have es : dSs [D.nd .own .lst [I (a : Int), I (b : Int)]] = some (en .own .frz (pL pN (sdN [a, b]))) := ss_en (k := .own) (c := .frz) (ns := [a, b]) (by simp)
  simp_arith [okC_sem, kk, kp, obj_sc oc, okC_of (check_ok ha), okC_of (check_ok hb), es, tup_L, okC_of e, of.1, of.2]
theorem meeting_exc1 {k : Kd} (hk : k = .frz ∨ k = .par) {v u : V} (hv : Vis (.im v)) (hb : badC p.length v = true) : m_meeting_row [en k k (sc p t), .im v, .im u] = .exc 100 (.nd .own (.xd ["at"]) [.im v]) [] := by
  have kk : ∀ i, kBo i k = k := fun i => by rcases hk with rfl | rfl <;> rfl
  have kp : kPar k = k := by rcases hk with rfl | rfl <;> rfl
  refine of_okCE ?_
  unfold m_meeting_row b_meeting_row
  simp_arith [okC_sem, kk, kp, obj_sc oc, okC_ex (check_exc hv hb)]
theorem meeting_exc2 {k : Kd} (hk : k = .frz ∨ k = .par) {a : Nat} (ha : a < p.length) {v : V} (hv : Vis (.im v)) (hb : badC p.length v = true) : m_meeting_row [en k k (sc p t), I a, .im v] = .exc 100 (.nd .own (.xd ["at"]) [.im v]) [] := by
  have kk : ∀ i, kBo i k = k := fun i => by rcases hk with rfl | rfl <;> rfl
  have kp : kPar k = k := by rcases hk with rfl | rfl <;> rfl
  refine of_okCE ?_
  unfold m_meeting_row b_meeting_row
  simp_arith [okC_sem, kk, kp, obj_sc oc, okC_of (check_ok ha), okC_ex (check_exc hv hb)]
/-! refusals -/
theorem refusal_exc {v u u' : V} (e : m_meeting_row [en .frz .frz (sc p t), .im v, .im u] = .exc 100 (.nd .own (.xd ["at"]) [.im u']) []) : m__law_refusal [en .frz .frz (sc p t), .im v, .im u] = .ok (.nd .own .tup [.im u', B true]) [] := by
  refine of_okC ?_
  unfold m__law_refusal b__law_refusal
  rw [okC_sem]
  refine seq_cut (A := fun S => S = [some (en .frz .frz (sc p t)), some (.im v), some (.im u), some (.im .non), none]) ?_ ?_
  · simp_arith []
  rintro _ rfl
  refine seq_cut (A := fun S => False) ?_ (fun _ h => h.elim)
  refine ok_try ?_
  simp_arith [okC_ex e]
  refine .inl ⟨rfl, [(("at" : Str), u')], .ret (.nd .own .tup [.im u', B true]), [some (en .frz .frz (sc p t)), some (.im v), some (.im u), some (.im .non), none], rfl, fun a => ?_, ?_⟩
  · have hl : List.lookup ("at" : Str) [(("at" : Str), u')] = some u' := by simp [List.lookup]
    simp_arith [hl]
  · simp_arith []
theorem refusal_none (h : Good p t w) {a b : Nat} (ha : a < p.length) (hb : b < p.length) : m__law_refusal [en .frz .frz (sc p t), I a, I b] = .ok (.im .non) [] := by
  refine of_okC ?_
  unfold m__law_refusal b__law_refusal
  rw [okC_sem]
  refine seq_cut (A := fun S => S = [some (en .frz .frz (sc p t)), some (I a), some (I b), some (.im .non), none]) ?_ ?_
  · simp_arith []
  rintro _ rfl
  refine seq_cut (A := fun S => ∃ d3, S = [some (en .frz .frz (sc p t)), some (I a), some (I b), d3, none]) ?_ ?_
  · refine ok_try ?_
    simp_arith [okC_of (meeting_ok h (.inl rfl) ha hb)]
    exact ⟨_, rfl⟩
  rintro _ ⟨d3, rfl⟩
  simp_arith []
/-! the law's look at a row -/
theorem row_right_ok (h : Good p t w) (hd : PlD d p t) {k1 : Kd} (hk1 : St k1) {s : List Nat} (hs : Gb.OkS p.length s) : ∃ m, m__law_row_right [rowD (srch t w s), d, en k1 .frz (pL pN s), dueD (srch t w s)] = .ok (B true) [m] := by
  have st := hd.stb
  have key : OkCE NoC (m__law_row_right [rowD (srch t w s), d, en k1 .frz (pL pN s), dueD (srch t w s)]) fun d' ms => d' = B true ∧ ∃ m, ms = [m] := by
    unfold m__law_row_right b__law_row_right
    cases hr : srch t w s with
    | none =>
      simp_arith [okC_sem, rowD, dueD]
      exact ⟨_, rfl⟩
    | some e =>
      obtain ⟨a, row⟩ := e
      obtain ⟨q1, q2, q3, q4⟩ := Gb.search_some (nxS_ok h) hs hr
      have hn12 := h.tab.n12
      rw [okC_sem]
      refine seq_cut (A := fun S => S = [some (en .own .frz (pL pN row)), some d, some (en k1 .frz (pL pN s)), some (I row.length), none]) ?_ ?_
      · simp_arith [rowD, dueD]
      rintro _ rfl
      refine seq_cut (A := fun S => S = [some (en .own .frz (pL pN row)), some d, some (en k1 .frz (pL pN s)), some (I row.length), none]) ?_ ?_
      · simp_arith []
      rintro _ rfl
      refine seq_cut (A := fun S => ∃ k o, St k ∧ S = [some (en .own .frz (pL pN row)), some d, some (en k .frz (pL pN (ca t s row))), some (I row.length), optN o]) ?_ ?_
      · simp_arith []
        refine for_inv (Inv := fun i S => ∃ k o, St k ∧ S = [some (en .own .frz (pL pN row)), some d, some (en k .frz (pL pN (ca t s (row.take i)))), some (I row.length), optN o]) ?_ ?_ ?_
        · rintro i x S hx ⟨k, o, hk, rfl⟩
          have hoki : Gb.OkS p.length (ca t s (row.take i)) := by
            rw [ca_eq t s hs.1]
            refine ⟨pw_sdN _, fun y hy => ?_⟩
            obtain ⟨z, hz, rfl⟩ := List.mem_map.mp (mem_sdN.mp hy)
            exact h.tab.run_lt _ (hs.2 z hz)
          have hal := okS_len hoki
          have hx0 : ((x : Int) < 0) = False := eq_false (by omega)
          simp_arith [st.bo, st.pa, hk.bo, hk.pa, okC_of (lnumber_ok (x : Int)), hx0, okC_of (lled_all_ok h hd (k1 := k) (c1 := .frz) (c := x) (.inl rfl) hoki.2 (by omega))]
          refine ⟨.frz, some x, st_frz, ?_⟩
          rw [List.take_add_one, hx]
          show _ = [_, _, some (en .frz .frz (pL pN (ca t s (row.take i ++ [x])))), _, _]
          rw [ca_snoc]
          rfl
        · rintro S ⟨k, o, hk, rfl⟩
          exact ⟨k, o, hk, by rw [List.take_length]⟩
        · exact ⟨k1, none, hk1, rfl⟩
      rintro _ ⟨k, o, hk, rfl⟩
      have hone : (((ca t s row).length : Int) = 1) = True := eq_true (by
        have e : ca t s row = a := q2
        rw [e]
        unfold oneS at q1
        have h1 : a.length = 1 := of_decide_eq_true q1
        omega)
      simp_arith [st.kill, hk.bo, hk.bor, optN_kill, hone]
      exact ⟨_, rfl⟩
  obtain ⟨d', ms, e, rfl, m, rfl⟩ := key.get
  exact ⟨m, e⟩
end
end Law
end
section
open Lin
local macro_rules | `(tactic| simp_arith [$ts,*]) => `(tactic| simp only [ok_var, ok_fz, ok_callT, ok_dispT, ok_iseqA, rdum_nil, rdum_none, rdum_cons, backT_nil, backT_val, backT_tmp, backT_ref, ok_mv, ok_lit, ok_two, ok_one, ok_test, ok_nil, ok_cons, ok_consK, ok_star, ok_many, ok_and, ok_or, ok_not, ok_ifE, ok_andV, ok_orV, ok_next, ok_seq, okF_nx, okF_ret, okF_brk, okF_cnt, ok_if, ok_ret, ok_retN, ok_expr, ok_asg, so_gset, ok_mutE, ok_setE, ok_call, ok_refs, ok_refsL, ok_for, ok_iseqE, ok_rg1, ok_rg2, ok_yes, ok_chn, imV_im, ok_disp, ok_newK, ok_mk, ok_lc, okC_fin, okC_finx, ok_raise0, ok_raise1, raiV_t,
  so_some, if_true, if_false, ite_true, ite_false, reduceIte, Bool.false_eq_true, Bool.true_eq_false, and_self, true_and, and_true, false_and, and_false, or_false, false_or, not_true_eq_false, not_false_eq_true, ne_eq, reduceCtorEq, Bool.not_true, Bool.not_false, Bool.and_true, Bool.true_and, Bool.and_false, Bool.false_and, Bool.or_true, Bool.true_or, Bool.or_false, Bool.false_or, Bool.not_eq_true', Bool.not_eq_false', Bool.not_not, decide_true, decide_false, decide_eq_true_eq, decide_not, decide_eq_false_iff_not,
  List.getElem?_nil, List.getElem?_cons_zero, List.getElem?_cons_succ, List.set_cons_zero, List.set_cons_succ, List.map_cons, List.map_nil, List.cons_append, List.nil_append, List.length_cons, List.length_nil, List.zip_cons_cons, List.zip_nil_right, List.all_cons, List.all_nil, List.filterMap_cons, List.filterMap_nil, List.replicate, List.not_mem_nil, List.mem_cons, Option.isNone_none, Option.isNone_some, Option.map_some, Option.map_none, id_eq, Nat.reduceAdd, Nat.reduceSub, Nat.reduceEqDiff, Nat.zero_ne_one, Kd.bor.injEq, List.foldr_cons, List.foldr_nil,
  clean_nil, clean_cons, clean_non, mk_im, bor_im, kill_im, kill_none, of_im, fzIf_im, fzIf_t, fzIf_f, en_mk, bo_own, bo_frz, bo_par, bo_bor, fz_own, fz_frz, fz_par', fz_bor', pa_own, pa_frz, pa_par, pa_bor, re_own, re_frz, re_par, re_bor, bor_en, kill_en, kill_opt, of_en, en_im,
  len_en, len_enT, len_enD, ix_en, ix_enT0, ix_enT1, list_en, isi_en, isi_int, isi_bool, tru_en, isn_en, isn_non, isn_I, seq_en, not_B, neg_I, min_I, max_I, in_en, notIn_en, in_LN, notIn_LN, sorted_en, list_enD, eq_LN, ne_LN, eq_LLN, ne_LLN, it_en,
  add_I, sub_I, lt_I, le_I, gt_I, ge_I, eq_I, ne_I, dbool_B, dtru_B, toInt_I, toInt_B, abs_I, shOk_L, ok_own, ok_xfE, xfD_some, ok_isX, isXD_a, cutH1, cutHN, all_clean, dLst_s, dTup_s, en_L0, Nat.reduceLT, Nat.reduceLeDiff, Int.reduceLT, Int.reduceLE, Int.reduceEq, Nat.lt_add_left_iff_pos, Nat.zero_add, bor_nd, kill_d, of_nd, mk_nd, List.any_cons, List.any_nil, beq_self_eq_true, en_LNp, en_LNo, en_LNb, mut_clear, argsD, backS, setAll, usOf, wipeS, $ts,*])
namespace Law
open PySem L2 Lin Bfs
theorem stb_due (r : Option (List Nat × List Nat)) : Stb (dueD r) := by cases r <;> exact stb_im _
theorem isn_due {r : Option (List Nat × List Nat)} {b : Bool} : dIsN b (dueD r) (.im .non) = some (B (if r.isSome = true then b else !b)) := by
  cases r with
  | none => simp [dueD, isn_non]
  | some e => simp [dueD, isn_I]
theorem of_row (r : Option (List Nat × List Nat)) : ofD (rowD r) = true := by
  cases r with
  | none => rfl
  | some e => exact of_en (.inl rfl) (.inr rfl) (pL pN e.2)
theorem fold_LT {k c : Kd} {xs : List (List Nat)} : D.nd k .lst (xs.map fun x => en c .frz (pTN x)) = en k c (pL pTN xs) := by
  rw [en_pL]
  congr 1
  exact List.map_congr_left fun x _ => by rw [en_TN (k := c) (c := c)]
theorem fold_T2 {k : Kd} {a b : Nat} : D.nd k .tup [I (a : Int), I (b : Int)] = en k .frz (pTN [a, b]) := by rw [en_pT]; rfl
theorem tg2 {k c : Kd} {i j a b : Nat} {S : Sg} : gTupF 2 (gsCons (gSet true i) (gsCons (gSet true j) gsNil)) (en k c (pTN [a, b])) S = some ((S.set i (some (I a))).set j (some (I b))) := by
  rw [en_pT]
  simp [gTupF, gsCons, gsNil, gSet, fzIf_im, en_im, mk_im]
section
variable {p : List Nat} {t : List (List Nat)} {w : Nat} {ds dp : D}
/-- where all meet, two meet -/
theorem meet_all (h : Good p t w) {a b : Nat} (ha : a < p.length) (hb : b < p.length) (hu : (srch t w (List.range p.length)).isSome = true) : (srch t w (sdN [a, b])).isSome = true := by
  cases hq : srch t w (sdN [a, b]) with
  | some e => rfl
  | none =>
    exfalso
    obtain ⟨e, he⟩ := Option.isSome_iff_exists.mp hu
    have hr : Gb.OkS p.length (List.range p.length) := ⟨List.pairwise_lt_range, fun x hx => List.mem_range.mp hx⟩
    obtain ⟨q1, q2, q3, q4⟩ := Gb.search_some (nxS_ok h) hr he
    have hno := Gb.search_none (nxS_ok h) (sdN2_ok ha hb) (fun E hE => okS_cnt h hE) hq e.2 q3
    rw [run_nxS, ca_eq t _ hr.1] at q2
    rw [run_nxS, ca_eq t _ (pw_sdN _), sd_map] at hno
    have h1 : e.1.length = 1 := of_decide_eq_true q1
    obtain ⟨c, hc⟩ : ∃ c, e.1 = [c] := List.length_eq_one_iff.mp h1
    have hall : ∀ x, x < p.length → run t x e.2 = c := fun x hx => by
      have : run t x e.2 ∈ sdN ((List.range p.length).map fun a => run t a e.2) := mem_sdN.mpr (List.mem_map.mpr ⟨x, List.mem_range.mpr hx, rfl⟩)
      rw [q2, hc] at this
      simpa using this
    simp only [List.map_cons, List.map_nil, hall a ha, hall b hb] at hno
    simp [sdN, insN, oneS] at hno
theorem sdN_comm (a b : Nat) : sdN [b, a] = sdN [a, b] := sd_uniq (pw_sdN _) (pw_sdN _) fun k => by
  rw [mem_sdN, mem_sdN]; simp [or_comm]
theorem scale_right_ok (h : Good p t w) (hs : ScD ds p t) (hp : PlD dp p t) (b : Bag) : ∃ b', m__law_scale_right [bg b, ds, dp] = .ok (B true) [bg b'] := by
  have ss := hs.stb
  have sp := hp.stb
  obtain ⟨ks, hks, rfl⟩ := hs.ex
  have eun := uniting_ok h hks
  have eme := fun (a b : Nat) (ha : a < p.length) (hb : b < p.length) => meeting_ok h hks ha hb
  generalize en ks ks (sc p t) = ds at ss eun eme
  obtain ⟨k0, hk0, ei0⟩ := hp.ix0
  have hn1 := h.tab.n1
  have hn12 := h.tab.n12
  have hr : Gb.OkS p.length (List.range p.length) := ⟨List.pairwise_lt_range, fun x hx => List.mem_range.mp hx⟩
  have hall := fun (a b : Nat) (ha : a < p.length) (hb : b < p.length) => meet_all h ha hb
  obtain ⟨mu, eru⟩ := row_right_ok h hp (k1 := .par) st_par hr
  have els := lshortest_ok h hp (k1 := .par) st_par hr
  generalize srch t w (List.range p.length) = U at eun hall eru els
  have sU := stb_due U
  have key : OkCE NoC (m__law_scale_right [bg b, ds, dp]) fun d' ms => d' = B true ∧ ∃ b', ms = [bg b'] := by
    unfold m__law_scale_right b__law_scale_right
    rw [okC_sem]
    refine seq_cut (A := fun S => S = [some (bg b), some ds, some dp, some (I p.length), none, none, none, none, none, none, none, none]) ?_ ?_
    · simp_arith [sp.bo, ei0]
    rintro _ rfl
    refine seq_cut (A := fun S => S = [some (bg b), some ds, some dp, some (I p.length), some (dueD U), none, none, none, none, none, none, none]) ?_ ?_
    · simp_arith [sp.bo, sp.pa, rg1_N (show p.length < 1000000 by omega), okC_of els, sU.fzi]
    rintro _ rfl
    refine seq_cut (A := fun S => S = [some (bg b), some ds, some dp, some (I p.length), some (dueD U), some (en .frz .frz (pL pTN [])), none, none, none, none, none, none]) ?_ ?_
    · simp_arith []
    rintro _ rfl
    refine seq_cut (A := fun S => ∃ cs o6, S = [some (bg b), some ds, some dp, some (I p.length), some (dueD U), some (en .frz .frz (pL pTN cs)), optN o6, none, none, none, none, none] ∧ (∀ c ∈ cs, ∃ a b, c = [a, b] ∧ a < p.length ∧ b < p.length) ∧ cs.length < 1000) ?_ ?_
    · simp_arith [rg1_eq (show p.length < 1000000 by omega)]
      refine for_inv (Inv := fun i S => ∃ cs o6, S = [some (bg b), some ds, some dp, some (I p.length), some (dueD U), some (en .frz .frz (pL pTN cs)), optN o6, none, none, none, none, none] ∧ (∀ c ∈ cs, ∃ a b, c = [a, b] ∧ a < p.length ∧ b < p.length) ∧ cs.length ≤ i * 12) ?_ ?_ ?_
      · rintro i y S hy ⟨cs, o6, rfl, hcs, hcl⟩
        obtain ⟨hi, hy⟩ := List.getElem?_eq_some_iff.mp hy
        rw [List.getElem_range] at hy
        subst hy
        rw [List.length_range] at hi
        simp_arith [rg2_eq (show i < 1000000 by omega) (show p.length < 1000000 by omega)]
        refine lc_map (h := fun c => en .own .frz (pTN c)) (w := fun k => [i, i + k]) ?_ rfl (fun _ _ => rfl) ?_ ?_
        · simp; omega
        · intro k hk
          simp_arith [fold_T2]
        · rw [fold_LT, en_mk, bo_frz]
          refine cat_fz (c := .frz) (c' := .own) ?_ rfl rfl fun d hd => ?_
          · simp; omega
          simp_arith [hd]
          refine ⟨_, some i, rfl, fun c hc => ?_, by simp; omega⟩
          rcases List.mem_append.mp hc with q | q
          · exact hcs c q
          · obtain ⟨k, hk, rfl⟩ := List.mem_map.mp q
            have := List.mem_range.mp hk
            exact ⟨i, i + k, rfl, hi, by omega⟩
      · rintro S ⟨cs, o6, rfl, hcs, hcl⟩
        rw [List.length_range] at hcl
        exact ⟨cs, o6, rfl, hcs, by omega⟩
      · exact ⟨[], none, rfl, by simp, by simp⟩
    rintro _ ⟨cs, o6, rfl, hcs, hcl⟩
    refine seq_cut (A := fun S => ∃ b', ∃ f : Nat, S = [some (bg b'), some ds, some dp, some (I p.length), some (dueD U), some (en .frz .frz (pL pTN cs)), optN o6, none, some (I f), none, none, none]) ?_ ?_
    · simp_arith [bg_kill, bg_bor, bg_of, ss.kill, sp.kill, sU.kill, optN_kill, okC_draw (b := b) (n := 2) (by decide) (by decide)]
      exact ⟨_, _, rfl⟩
    rintro _ ⟨b, f, rfl⟩
    refine seq_cut (A := fun S => S = [some (bg b), some ds, some dp, some (I p.length), some (dueD U), some (en .frz .frz (pL pTN cs)), optN o6, none, some (I f), none, none, none]) ?_ ?_
    · by_cases hf : f = 0
      · have hf' : ((f : Int) = 0) = True := eq_true (by omega)
        simp_arith [hf', ss.bo, ss.pa, sp.bo, sp.pa, sU.bo, sU.pa, okC_of eun, of_row, rg1_N (show p.length < 1000000 by omega), okC_of eru]
      · have hf' : ((f : Int) = 0) = False := eq_false (by omega)
        simp_arith [hf']
    rintro _ rfl
    refine seq_cut (A := fun S => S = [some (bg b), some ds, some dp, some (I p.length), some (dueD U), some (en .frz .frz (pL pTN cs)), optN o6, none, some (I f), some (B true), none, none]) ?_ ?_
    · simp_arith []
    rintro _ rfl
    refine seq_cut (A := fun S => ∃ b' o6 o7 o10 o11, ∃ m : Bool, S = [some (bg b'), some ds, some dp, some (I p.length), some (dueD U), some (en .frz .frz (pL pTN cs)), optN o6, optN o7, some (I f), some (B m), o10, o11] ∧ (U.isSome = true → m = true)) ?_ ?_
    · simp_arith [bg_kill, bg_bor, bg_of, ss.kill, sp.kill, sU.kill, optN_kill]
      refine okC_mixed (.inl rfl) (by omega) fun ys b' hperm => ?_
      have hys : ∀ c ∈ ys.take 12, ∃ a b, c = [a, b] ∧ a < p.length ∧ b < p.length := fun c hc => hcs c (hperm.subset (List.mem_of_mem_take hc))
      simp_arith [show dCutH (en .own .frz (pL pTN ys)) (I 12) = _ from cutHN (n := 12)]
      refine for_inv (Inv := fun i S => ∃ o6 o7 o10 o11, ∃ m : Bool, S = [some (bg b'), some ds, some dp, some (I p.length), some (dueD U), some (en .frz .frz (pL pTN cs)), optN o6, optN o7, some (I f), some (B m), o10, o11] ∧ (U.isSome = true → m = true)) ?_ ?_ ?_
      · rintro i y S hy ⟨o6, o7, o10, o11, m, rfl, hm⟩
        obtain ⟨a, c, rfl, ha, hc⟩ := hys y (List.mem_of_getElem? hy)
        have es : dSs [D.nd .own .lst [I (a : Int), I (c : Int)]] = some (en .own .frz (pL pN (sdN [a, c]))) := ss_en (k := .own) (c := .frz) (ns := [a, c]) (by simp)
        obtain ⟨mu', err⟩ := row_right_ok h hp (k1 := .frz) st_frz (sdN2_ok ha hc)
        have em1 := eme a c ha hc
        have em2 := eme c a hc ha
        rw [sdN_comm] at em2
        have elr := lshortest_ok h hp (k1 := .frz) st_frz (sdN2_ok ha hc)
        have hU := hall a c ha hc
        generalize srch t w (sdN [a, c]) = R at err em1 em2 elr hU
        have sR := stb_due R
        rw [tg2, so_some]
        simp only [List.set_cons_succ, List.set_cons_zero]
        refine seq_cut (A := fun S => S = [some (bg b'), some ds, some dp, some (I p.length), some (dueD U), some (en .frz .frz (pL pTN cs)), some (I a), some (I c), some (I f), some (B m), some (en .frz .frz (pL pN (sdN [a, c]))), o11]) ?_ ?_
        · simp_arith [es]
        rintro _ rfl
        refine seq_cut (A := fun S => S = [some (bg b'), some ds, some dp, some (I p.length), some (dueD U), some (en .frz .frz (pL pTN cs)), some (I a), some (I c), some (I f), some (B m), some (en .frz .frz (pL pN (sdN [a, c]))), some (dueD R)]) ?_ ?_
        · simp_arith [sp.bo, sp.pa, okC_of elr, sR.fzi]
        rintro _ rfl
        refine seq_cut (A := fun S => ∃ m' : Bool, S = [some (bg b'), some ds, some dp, some (I p.length), some (dueD U), some (en .frz .frz (pL pTN cs)), some (I a), some (I c), some (I f), some (B m'), some (en .frz .frz (pL pN (sdN [a, c]))), some (dueD R)] ∧ (U.isSome = true → m' = true)) ?_ ?_
        · cases m with
          | false =>
            simp_arith []
            exact ⟨false, rfl, hm⟩
          | true =>
            simp_arith [sR.bo, isn_due]
            refine ⟨_, rfl, fun hq => ?_⟩
            simp [hU hq]
        rintro _ ⟨m', rfl, hm'⟩
        simp_arith [ss.bo, ss.pa, sp.bo, sp.pa, sR.bo, sR.pa, okC_of em1, okC_of em2, of_row, okC_of err]
        exact ⟨some a, some c, _, _, m', rfl, hm'⟩
      · rintro S ⟨o6, o7, o10, o11, m, rfl, hm⟩
        exact ⟨b', o6, o7, o10, o11, m, rfl, hm⟩
      · exact ⟨o6, none, none, none, true, rfl, fun _ => rfl⟩
    rintro _ ⟨b, o6, o7, o10, o11, m, rfl, hm⟩
    refine seq_cut (A := fun S => S = [some (bg b), some ds, some dp, some (I p.length), some (dueD U), some (en .frz .frz (pL pTN cs)), optN o6, optN o7, some (I f), some (B m), o10, o11]) ?_ ?_
    · cases hU : U with
      | none => simp_arith [dueD]
      | some e =>
        have : m = true := hm (by rw [hU]; rfl)
        subst this
        simp_arith [dueD]
    rintro _ rfl
    simp_arith [ss.bo, ss.pa, sp.bo, sp.pa, sU.bo, sU.pa, okC_of eun, of_row, rg1_N (show p.length < 1000000 by omega), okC_of eru, bg_of]
    exact ⟨b, rfl⟩
  obtain ⟨d', ms, e, rfl, b', rfl⟩ := key.get
  exact ⟨b', e⟩
end
end Law
end
section
open Lin
local macro_rules | `(tactic| simp_arith [$ts,*]) => `(tactic| simp only [ok_var, ok_fz, ok_callT, ok_dispT, ok_iseqA, rdum_nil, rdum_none, rdum_cons, backT_nil, backT_val, backT_tmp, backT_ref, ok_mv, ok_lit, ok_two, ok_one, ok_test, ok_nil, ok_cons, ok_consK, ok_star, ok_many, ok_and, ok_or, ok_not, ok_ifE, ok_andV, ok_orV, ok_next, ok_seq, okF_nx, okF_ret, okF_brk, okF_cnt, ok_if, ok_ret, ok_retN, ok_expr, ok_asg, so_gset, ok_mutE, ok_setE, ok_call, ok_refs, ok_refsL, ok_for, ok_iseqE, ok_rg1, ok_rg2, ok_yes, ok_chn, imV_im, ok_disp, ok_newK, ok_mk, ok_lc, okC_fin, okC_finx, ok_raise0, ok_raise1, raiV_t,
  so_some, if_true, if_false, ite_true, ite_false, reduceIte, Bool.false_eq_true, Bool.true_eq_false, and_self, true_and, and_true, false_and, and_false, or_false, false_or, not_true_eq_false, not_false_eq_true, ne_eq, reduceCtorEq, Bool.not_true, Bool.not_false, Bool.and_true, Bool.true_and, Bool.and_false, Bool.false_and, Bool.or_true, Bool.true_or, Bool.or_false, Bool.false_or, Bool.not_eq_true', Bool.not_eq_false', Bool.not_not, decide_true, decide_false, decide_eq_true_eq, decide_not, decide_eq_false_iff_not,
  List.getElem?_nil, List.getElem?_cons_zero, List.getElem?_cons_succ, List.set_cons_zero, List.set_cons_succ, List.map_cons, List.map_nil, List.cons_append, List.nil_append, List.length_cons, List.length_nil, List.zip_cons_cons, List.zip_nil_right, List.all_cons, List.all_nil, List.filterMap_cons, List.filterMap_nil, List.replicate, List.not_mem_nil, List.mem_cons, Option.isNone_none, Option.isNone_some, Option.map_some, Option.map_none, id_eq, Nat.reduceAdd, Nat.reduceSub, Nat.reduceEqDiff, Nat.zero_ne_one, Kd.bor.injEq, List.foldr_cons, List.foldr_nil,
  clean_nil, clean_cons, clean_non, mk_im, bor_im, kill_im, kill_none, of_im, fzIf_im, fzIf_t, fzIf_f, en_mk, bo_own, bo_frz, bo_par, bo_bor, fz_own, fz_frz, fz_par', fz_bor', pa_own, pa_frz, pa_par, pa_bor, re_own, re_frz, re_par, re_bor, bor_en, kill_en, kill_opt, of_en, en_im,
  len_en, len_enT, len_enD, ix_en, ix_enT0, ix_enT1, list_en, isi_en, isi_int, isi_bool, tru_en, isn_en, isn_non, isn_I, seq_en, not_B, neg_I, min_I, max_I, in_en, notIn_en, in_LN, notIn_LN, sorted_en, list_enD, eq_LN, ne_LN, eq_LLN, ne_LLN, it_en,
  add_I, sub_I, lt_I, le_I, gt_I, ge_I, eq_I, ne_I, dbool_B, dtru_B, toInt_I, toInt_B, abs_I, shOk_L, ok_own, ok_xfE, xfD_some, ok_isX, isXD_a, cutH1, cutHN, all_clean, dLst_s, dTup_s, en_L0, Nat.reduceLT, Nat.reduceLeDiff, Int.reduceLT, Int.reduceLE, Int.reduceEq, Nat.lt_add_left_iff_pos, Nat.zero_add, bor_nd, kill_d, of_nd, mk_nd, List.any_cons, List.any_nil, beq_self_eq_true, en_LNp, en_LNo, en_LNb, mut_clear, argsD, backS, setAll, usOf, wipeS, $ts,*])
namespace Law
open PySem L2 Lin
section
variable {p : List Nat} {t : List (List Nat)} {w : Nat}
theorem init_ok2 {k1 k2 : Kd} (hk1 : St k1) (hk2 : St k2) (h : Good p t w) : m_Scaledd_initdd [.nd .own (.obj 0 []) [], en k1 .frz (pL pN p), en k2 k2 (pL (pL pN) t)] = .ok (.im .non) [en .own .own (sc p t)] := by
  refine of_okC ?_
  unfold m_Scaledd_initdd b_Scaledd_initdd
  have e1 : ∀ K d, Lin.SetAt (sAttr 0 "rates") (.nd .own (.obj 0 []) []) (.im .non) d K = K (.nd .own (.obj 0 ["rates"]) [d]) := fun K d => by
    show So _ _ = _
    simp only [sAttr]; rw [if_pos ⟨trivial, rfl, by simp⟩, so_some]; rfl
  have e2 : ∀ K d d', Lin.SetAt (sAttr 0 "moves") (.nd .own (.obj 0 ["rates"]) [d]) (.im .non) d' K = K (.nd .own (.obj 0 ["rates", "moves"]) [d, d']) := fun K d d' => by
    show So _ _ = _
    simp only [sAttr]; rw [if_pos ⟨trivial, rfl, by simp⟩, so_some]; rfl
  simp_arith [okC_sem, hk1.bo, hk1.pa, hk1.bor, hk2.bo, hk2.pa, hk2.fz, hk2.bor, okC_of (are_premiums_ok _ _ p h.tab.n1 h.tab.n12 h.prem), okC_of (is_table_ok _ h.tab), e1]
  refine lc_map (h := fun r : List Nat => en .own .frz (pL pN r)) (w := id) ?_ rfl (fun r _ => by rw [en_mk, hk2.fz]) ?_ ?_
  · have := h.tab.len; have := h.tab.n12; omega
  · intro y hy
    simp_arith [en_LN (k := .own) (c := kBo 3 k2)]
  · simp_arith [List.map_id, fold_LL, hk1.bor, hk2.bor, e2, sc, en_pO]
end
end Law
end
section
open Lin
local macro_rules | `(tactic| simp_arith [$ts,*]) => `(tactic| simp only [ok_var, ok_fz, ok_callT, ok_dispT, ok_iseqA, rdum_nil, rdum_none, rdum_cons, backT_nil, backT_val, backT_tmp, backT_ref, ok_mv, ok_lit, ok_two, ok_one, ok_test, ok_nil, ok_cons, ok_consK, ok_star, ok_many, ok_and, ok_or, ok_not, ok_ifE, ok_andV, ok_orV, ok_next, ok_seq, okF_nx, okF_ret, okF_brk, okF_cnt, ok_if, ok_ret, ok_retN, ok_expr, ok_asg, so_gset, ok_mutE, ok_setE, ok_call, ok_refs, ok_refsL, ok_for, ok_iseqE, ok_rg1, ok_rg2, ok_yes, ok_chn, imV_im, ok_disp, ok_newK, ok_mk, ok_lc, okC_fin, okC_finx, ok_raise0, ok_raise1, raiV_t,
  so_some, if_true, if_false, ite_true, ite_false, reduceIte, Bool.false_eq_true, Bool.true_eq_false, and_self, true_and, and_true, false_and, and_false, or_false, false_or, not_true_eq_false, not_false_eq_true, ne_eq, reduceCtorEq, Bool.not_true, Bool.not_false, Bool.and_true, Bool.true_and, Bool.and_false, Bool.false_and, Bool.or_true, Bool.true_or, Bool.or_false, Bool.false_or, Bool.not_eq_true', Bool.not_eq_false', Bool.not_not, decide_true, decide_false, decide_eq_true_eq, decide_not, decide_eq_false_iff_not,
  List.getElem?_nil, List.getElem?_cons_zero, List.getElem?_cons_succ, List.set_cons_zero, List.set_cons_succ, List.map_cons, List.map_nil, List.cons_append, List.nil_append, List.length_cons, List.length_nil, List.zip_cons_cons, List.zip_nil_right, List.all_cons, List.all_nil, List.filterMap_cons, List.filterMap_nil, List.replicate, List.not_mem_nil, List.mem_cons, Option.isNone_none, Option.isNone_some, Option.map_some, Option.map_none, id_eq, Nat.reduceAdd, Nat.reduceSub, Nat.reduceEqDiff, Nat.zero_ne_one, Kd.bor.injEq, List.foldr_cons, List.foldr_nil,
  clean_nil, clean_cons, clean_non, mk_im, bor_im, kill_im, kill_none, of_im, fzIf_im, fzIf_t, fzIf_f, en_mk, bo_own, bo_frz, bo_par, bo_bor, fz_own, fz_frz, fz_par', fz_bor', pa_own, pa_frz, pa_par, pa_bor, re_own, re_frz, re_par, re_bor, bor_en, kill_en, kill_opt, of_en, en_im,
  len_en, len_enT, len_enD, ix_en, ix_enT0, ix_enT1, list_en, isi_en, isi_int, isi_bool, tru_en, isn_en, isn_non, isn_I, seq_en, not_B, neg_I, min_I, max_I, in_en, notIn_en, in_LN, notIn_LN, sorted_en, list_enD, eq_LN, ne_LN, eq_LLN, ne_LLN, it_en,
  add_I, sub_I, lt_I, le_I, gt_I, ge_I, eq_I, ne_I, dbool_B, dtru_B, toInt_I, toInt_B, abs_I, shOk_L, ok_own, ok_xfE, xfD_some, ok_isX, isXD_a, cutH1, cutHN, all_clean, dLst_s, dTup_s, en_L0, Nat.reduceLT, Nat.reduceLeDiff, Int.reduceLT, Int.reduceLE, Int.reduceEq, Nat.lt_add_left_iff_pos, Nat.zero_add, bor_nd, kill_d, of_nd, mk_nd, List.any_cons, List.any_nil, beq_self_eq_true, en_LNp, en_LNo, en_LNb, mut_clear, argsD, backS, setAll, usOf, wipeS, $ts,*])
namespace Law
open PySem L2 Lin
section
variable {p : List Nat} {t : List (List Nat)} {w : Nat}
def cutT (t : List (List Nat)) (c : Nat) : List (List Nat) := t.map fun r => r.take c
theorem cut_good (h : Good p t w) {c : Nat} (hc : 1 ≤ c) : Good p (cutT t c) (min c w) := by
  have h1 := h.tab.w1
  have h2 := h.tab.w5
  refine ⟨⟨by rw [cutT, List.length_map]; exact h.tab.len, h.tab.n1, h.tab.n12, by omega, by omega, fun r hr => ?_⟩, h.prem⟩
  obtain ⟨r', hr', rfl⟩ := List.mem_map.mp hr
  obtain ⟨q1, q2⟩ := h.tab.row r' hr'
  exact ⟨by rw [List.length_take, q1], fun x hx => q2 x (List.mem_of_mem_take hx)⟩
theorem olim : ¬ (["rates", "moves"] : List Str).contains "limited" = true := by decide
theorem limited_ok {k : Kd} (hk : St k) (h : Good p t w) {c : Nat} (hc : 1 ≤ c) : m_Scale_limited [en k k (sc p t), I c] = .ok (en .own .own (sc p (cutT t c))) [] := by
  have hl := h.tab.len
  have hn := h.tab.n12
  refine of_okC ?_
  unfold m_Scale_limited b_Scale_limited
  simp_arith [okC_sem, hk.bo, hk.pa, hk.fz, hk.bor, fld_rates, fld_moves]
  refine lc_map (h := fun r : List Nat => en .own .frz (pL pN r)) (w := fun r => r.take c) ?_ rfl (fun r _ => by rw [en_mk, hk.fz]) ?_ ?_
  · omega
  · intro y hy
    simp_arith [hk.bo, en_LN (k := .own) (c := k)]
  · have e := init_ok2 hk st_par (cut_good h hc)
    unfold cutT at e
    simp_arith [fold_LL, hk.bo, hk.pa, okM_of e]
    rfl
end
end Law
end
section
open Lin
local macro_rules | `(tactic| simp_arith [$ts,*]) => `(tactic| simp only [ok_var, ok_fz, ok_callT, ok_dispT, ok_iseqA, rdum_nil, rdum_none, rdum_cons, backT_nil, backT_val, backT_tmp, backT_ref, ok_mv, ok_lit, ok_two, ok_one, ok_test, ok_nil, ok_cons, ok_consK, ok_star, ok_many, ok_and, ok_or, ok_not, ok_ifE, ok_andV, ok_orV, ok_next, ok_seq, okF_nx, okF_ret, okF_brk, okF_cnt, ok_if, ok_ret, ok_retN, ok_expr, ok_asg, so_gset, ok_mutE, ok_setE, ok_call, ok_refs, ok_refsL, ok_for, ok_iseqE, ok_rg1, ok_rg2, ok_yes, ok_chn, imV_im, ok_disp, ok_newK, ok_mk, ok_lc, okC_fin, okC_finx, ok_raise0, ok_raise1, raiV_t,
  so_some, if_true, if_false, ite_true, ite_false, reduceIte, Bool.false_eq_true, Bool.true_eq_false, and_self, true_and, and_true, false_and, and_false, or_false, false_or, not_true_eq_false, not_false_eq_true, ne_eq, reduceCtorEq, Bool.not_true, Bool.not_false, Bool.and_true, Bool.true_and, Bool.and_false, Bool.false_and, Bool.or_true, Bool.true_or, Bool.or_false, Bool.false_or, Bool.not_eq_true', Bool.not_eq_false', Bool.not_not, decide_true, decide_false, decide_eq_true_eq, decide_not, decide_eq_false_iff_not,
  List.getElem?_nil, List.getElem?_cons_zero, List.getElem?_cons_succ, List.set_cons_zero, List.set_cons_succ, List.map_cons, List.map_nil, List.cons_append, List.nil_append, List.length_cons, List.length_nil, List.zip_cons_cons, List.zip_nil_right, List.all_cons, List.all_nil, List.filterMap_cons, List.filterMap_nil, List.replicate, List.not_mem_nil, List.mem_cons, Option.isNone_none, Option.isNone_some, Option.map_some, Option.map_none, id_eq, Nat.reduceAdd, Nat.reduceSub, Nat.reduceEqDiff, Nat.zero_ne_one, Kd.bor.injEq, List.foldr_cons, List.foldr_nil,
  clean_nil, clean_cons, clean_non, mk_im, bor_im, kill_im, kill_none, of_im, fzIf_im, fzIf_t, fzIf_f, en_mk, bo_own, bo_frz, bo_par, bo_bor, fz_own, fz_frz, fz_par', fz_bor', pa_own, pa_frz, pa_par, pa_bor, re_own, re_frz, re_par, re_bor, bor_en, kill_en, kill_opt, of_en, en_im,
  len_en, len_enT, len_enD, ix_en, ix_enT0, ix_enT1, list_en, isi_en, isi_int, isi_bool, tru_en, isn_en, isn_non, isn_I, seq_en, not_B, neg_I, min_I, max_I, in_en, notIn_en, in_LN, notIn_LN, sorted_en, list_enD, eq_LN, ne_LN, eq_LLN, ne_LLN, it_en,
  add_I, sub_I, lt_I, le_I, gt_I, ge_I, eq_I, ne_I, dbool_B, dtru_B, toInt_I, toInt_B, abs_I, shOk_L, ok_own, ok_xfE, xfD_some, ok_isX, isXD_a, cutH1, cutHN, all_clean, dLst_s, dTup_s, en_L0, Nat.reduceLT, Nat.reduceLeDiff, Int.reduceLT, Int.reduceLE, Int.reduceEq, Nat.lt_add_left_iff_pos, Nat.zero_add, bor_nd, kill_d, of_nd, mk_nd, List.any_cons, List.any_nil, beq_self_eq_true, en_LNp, en_LNo, en_LNb, mut_clear, argsD, backS, setAll, usOf, wipeS, $ts,*])
namespace Law
open PySem L2 Lin
theorem made_ok {k : Kd} {p : List Nat} {t : List (List Nat)} {w : Nat} (h : Good p t w) (hk : k = .frz ∨ k = .par) : m__law_made [en k k (pl p t)] = .ok (en .own .own (sc p t)) [] := by
  refine of_okC ?_
  unfold m__law_made b__law_made
  have hl := h.tab.len
  have hn := h.tab.n12
  rcases hk with rfl | rfl
  · simp_arith [okC_sem, pl]
    refine lc_map (h := fun r : List Nat => en .own .frz (pL pN r)) (w := id) (by omega) rfl (fun r _ => by rw [en_mk]; rfl) ?_ ?_
    · intro y hy
      simp_arith []
    · simp_arith [List.map_id, fold_LL, okM_of (init_ok h)]
  · simp_arith [okC_sem, pl]
    refine lc_map (h := fun r : List Nat => en .own .frz (pL pN r)) (w := id) (by omega) rfl (fun r _ => by rw [en_mk]; rfl) ?_ ?_
    · intro y hy
      simp_arith []
    · simp_arith [List.map_id, fold_LL, okM_of (init_ok h)]
end Law
end
section
open Lin
local macro_rules | `(tactic| simp_arith [$ts,*]) => `(tactic| simp only [ok_var, ok_fz, ok_callT, ok_dispT, ok_iseqA, rdum_nil, rdum_none, rdum_cons, backT_nil, backT_val, backT_tmp, backT_ref, ok_mv, ok_lit, ok_two, ok_one, ok_test, ok_nil, ok_cons, ok_consK, ok_star, ok_many, ok_and, ok_or, ok_not, ok_ifE, ok_andV, ok_orV, ok_next, ok_seq, okF_nx, okF_ret, okF_brk, okF_cnt, ok_if, ok_ret, ok_retN, ok_expr, ok_asg, so_gset, ok_mutE, ok_setE, ok_call, ok_refs, ok_refsL, ok_for, ok_iseqE, ok_rg1, ok_rg2, ok_yes, ok_chn, imV_im, ok_disp, ok_newK, ok_mk, ok_lc, okC_fin, okC_finx, ok_raise0, ok_raise1, raiV_t,
  so_some, if_true, if_false, ite_true, ite_false, reduceIte, Bool.false_eq_true, Bool.true_eq_false, and_self, true_and, and_true, false_and, and_false, or_false, false_or, not_true_eq_false, not_false_eq_true, ne_eq, reduceCtorEq, Bool.not_true, Bool.not_false, Bool.and_true, Bool.true_and, Bool.and_false, Bool.false_and, Bool.or_true, Bool.true_or, Bool.or_false, Bool.false_or, Bool.not_eq_true', Bool.not_eq_false', Bool.not_not, decide_true, decide_false, decide_eq_true_eq, decide_not, decide_eq_false_iff_not,
  List.getElem?_nil, List.getElem?_cons_zero, List.getElem?_cons_succ, List.set_cons_zero, List.set_cons_succ, List.map_cons, List.map_nil, List.cons_append, List.nil_append, List.length_cons, List.length_nil, List.zip_cons_cons, List.zip_nil_right, List.all_cons, List.all_nil, List.filterMap_cons, List.filterMap_nil, List.replicate, List.not_mem_nil, List.mem_cons, Option.isNone_none, Option.isNone_some, Option.map_some, Option.map_none, id_eq, Nat.reduceAdd, Nat.reduceSub, Nat.reduceEqDiff, Nat.zero_ne_one, Kd.bor.injEq, List.foldr_cons, List.foldr_nil,
  clean_nil, clean_cons, clean_non, mk_im, bor_im, kill_im, kill_none, of_im, fzIf_im, fzIf_t, fzIf_f, en_mk, bo_own, bo_frz, bo_par, bo_bor, fz_own, fz_frz, fz_par', fz_bor', pa_own, pa_frz, pa_par, pa_bor, re_own, re_frz, re_par, re_bor, bor_en, kill_en, kill_opt, of_en, en_im,
  len_en, len_enT, len_enD, ix_en, ix_enT0, ix_enT1, list_en, isi_en, isi_int, isi_bool, tru_en, isn_en, isn_non, isn_I, seq_en, not_B, neg_I, min_I, max_I, in_en, notIn_en, in_LN, notIn_LN, sorted_en, list_enD, eq_LN, ne_LN, eq_LLN, ne_LLN, it_en,
  add_I, sub_I, lt_I, le_I, gt_I, ge_I, eq_I, ne_I, dbool_B, dtru_B, toInt_I, toInt_B, abs_I, shOk_L, ok_own, ok_xfE, xfD_some, ok_isX, isXD_a, cutH1, cutHN, all_clean, dLst_s, dTup_s, en_L0, Nat.reduceLT, Nat.reduceLeDiff, Int.reduceLT, Int.reduceLE, Int.reduceEq, Nat.lt_add_left_iff_pos, Nat.zero_add, bor_nd, kill_d, of_nd, mk_nd, List.any_cons, List.any_nil, beq_self_eq_true, en_LNp, en_LNo, en_LNb, mut_clear, argsD, backS, setAll, usOf, wipeS, $ts,*])
namespace Law
open PySem L2 Lin Bfs
theorem ix_memI {zs : List Int} {k : Kd} {j : Nat} (h : j < zs.length) : ∃ z ∈ zs, oIx (.nd k .lst (zs.map fun z => I z)) (I (j : Int)) = some (I z) := ⟨zs[j], List.getElem_mem h, ix_lst (by omega) (by simp [h])⟩
theorem pow29 : oPow (I 10) (I 29) = some (I 100000000000000000000000000000) := by
  rw [pow_I (by decide) (by decide) (by decide)]; rfl
theorem nev (v : V) (h : (toPy (.nd .own .tup [.im v, B true])).any (fun x => SeqAt.shaped x && PyData.eqv x x) = true) : oNe (.nd .own .tup [.im v, B true]) (.nd .own .tup [.im v, B true]) = some (B false) := by
  unfold oNe eqD
  cases e : toPy (.nd .own .tup [.im v, B true]) with
  | none => rw [e] at h; cases h
  | some x =>
    rw [e] at h
    simp only [Option.any_some, Bool.and_eq_true] at h
    simp [h.1, h.2]
theorem it_raw {k : Kd} {ds : List D} : itD .lst (.nd k .lst ds) = some ((D.nd k .lst ds).mk kFz, ds.map (D.mk kFz)) := by simp [itD]
theorem law_pure (sa : Option Addr) (ns : List Int) (d : D) (hl : ns.length ≤ 63) (hb : ∀ z ∈ ns, Builtin.Int.intBits z ≤ 1048576) (hd : d = .nd .frz .scr [] ∨ ∃ b, sa = some b ∧ d = .im (.ref b)) : m_law sa ns [d] = .ok (.im (.bl true)) [] := by
  obtain ⟨hd1, hd2⟩ := scr_par sa d hd
  refine of_okC ?_
  unfold m_law b_law
  rw [okC_sem]
  refine seq_cut (A := fun S => S = [some d, some (bg (b0 ns)), none, none, none, none, none, none, none]) ?_ ?_
  · simp_arith [hd1, okC_of (bag_ok sa ns d hd)]
  rintro _ rfl
  generalize b0 ns = b
  refine seq_cut (A := fun S => ∃ b' p t w, S = [some d, some (bg b'), some (en .frz .frz (pl p t)), none, none, none, none, none, none] ∧ Good p t w) ?_ ?_
  · have hdv := dv_lt (b := b) (n := 4) (by decide) (by decide)
    obtain ⟨z, hz, ez⟩ := ix_memI (k := .own) (zs := [3, 7, 7, 12]) (j := dv b 4) (by simp; omega)
    have hz1 : 1 ≤ z := by simp at hz; omega
    have hz2 : z ≤ 12 := by simp at hz; omega
    simp only [List.map_cons, List.map_nil] at ez
    obtain ⟨w, hw, _⟩ := scale_good (b := db b 4) (n := z) (m := 4) hz1 hz2 (by decide) (by decide)
    simp_arith [bg_kill, bg_bor, bg_of, hd2, okC_draw (b := b) (n := 4) (by decide) (by decide), ez, okC_scale (b := db b 4) (n := z) (m := 4) hz1 hz2 (by decide) (by decide), plO_mk, plO_fz, plO_of]
    exact ⟨_, _, _, w, rfl, hw⟩
  rintro _ ⟨b, p, t, w, rfl, g⟩
  have hn1 := g.tab.n1
  have hn12 := g.tab.n12
  have hw1 := g.tab.w1
  have hw5 := g.tab.w5
  have e0 : oIx (en .frz .frz (pl p t)) (I 0) = some (en .frz .frz (pL pN p)) := ix_enT0
  have e1 : oIx (en .frz .frz (pl p t)) (I 1) = some (en .frz .frz (pL (pL pN) t)) := ix_enT1
  obtain ⟨hat, hrl, hrx⟩ := g.tab.get (a := 0) (by omega)
  obtain ⟨row, hrow⟩ : ∃ row, t[0]? = some row := ⟨_, List.getElem?_eq_getElem hat⟩
  have hgd : t.getD 0 [] = row := by simp [List.getD, hrow]
  rw [hgd] at hrl
  have e10 : oIx (en .frz .frz (pL (pL pN) t)) (I 0) = some (en .frz .frz (pL pN row)) := ix0_LL hrow
  refine seq_cut (A := fun S => S = [some d, some (bg b), some (en .frz .frz (pl p t)), some (en .frz .frz (sc p t)), none, none, none, none, none]) ?_ ?_
  · simp_arith [okC_of (made_ok g (.inl rfl))]
  rintro _ rfl
  refine seq_cut (A := fun S => S = [some d, some (bg b), some (en .frz .frz (pl p t)), some (en .frz .frz (sc p t)), some (I p.length), none, none, none, none]) ?_ ?_
  · simp_arith [e0]
  rintro _ rfl
  refine seq_cut (A := fun S => ∃ b', ∃ c : Nat, S = [some d, some (bg b'), some (en .frz .frz (pl p t)), some (en .frz .frz (sc p t)), some (I p.length), some (I c), none, none, none] ∧ 1 ≤ c) ?_ ?_
  · simp_arith [e1, e10, hrl, bg_kill, bg_bor, bg_of, hd2, okC_draw (b := b) (n := (w : Int)) (by omega) (by omega)]
    exact ⟨_, 1 + dv b w, by rw [Int.natCast_add]; rfl, by omega⟩
  rintro _ ⟨b, c, rfl, hc⟩
  have g' := cut_good g hc
  refine seq_cut (A := fun S => S = [some d, some (bg b), some (en .frz .frz (pl p t)), some (en .frz .frz (sc p t)), some (I p.length), some (I c), some (en .frz .frz (sc p (cutT t c))), none, none]) ?_ ?_
  · simp_arith [obj_sc olim, okC_of (limited_ok st_frz g hc)]
  rintro _ rfl
  refine seq_cut (A := fun S => ∃ b', S = [some d, some (bg b'), some (en .frz .frz (pl p t)), some (en .frz .frz (sc p t)), some (I p.length), some (I c), some (en .frz .frz (sc p (cutT t c))), none, none]) ?_ ?_
  · obtain ⟨b', e⟩ := scale_right_ok g (sc_D .frz st_frz) (pl_D .frz st_frz) b
    simp_arith [bg_kill, bg_bor, bg_of, hd2, okC_of e]
    exact ⟨b', rfl⟩
  rintro _ ⟨b, rfl⟩
  refine seq_cut (A := fun S => ∃ b', S = [some d, some (bg b'), some (en .frz .frz (pl p t)), some (en .frz .frz (sc p t)), some (I p.length), some (I c), some (en .frz .frz (sc p (cutT t c))), none, none]) ?_ ?_
  · have hp : PlD (.nd .par .tup [en .frz .frz (pL pN p), en .par .par (pL (pL pN) (cutT t c))]) p (cutT t c) := ⟨.par, .frz, .par, st_par, st_frz, st_par, rfl⟩
    obtain ⟨b', e⟩ := scale_right_ok g' (sc_D .frz st_frz) hp b
    have hl := g.tab.len
    simp_arith [bg_kill, bg_bor, bg_of, hd2, e0, e1]
    refine lc_map (h := fun r : List Nat => en .own .frz (pL pN r)) (w := fun r => r.take c) ?_ rfl (fun r _ => by rw [en_mk]; rfl) ?_ ?_
    · omega
    · intro y hy
      simp_arith []
    · have ec : List.map (fun r => List.take c r) t = cutT t c := rfl
      simp_arith [bg_of, bg_kill, bg_bor, fold_LL, ec, okC_of e]
      exact ⟨b', rfl⟩
  rintro _ ⟨b, rfl⟩
  refine seq_cut (A := fun S => ∃ b', S = [some d, some (bg b'), some (en .frz .frz (pl p t)), some (en .frz .frz (sc p t)), some (I p.length), some (I c), some (en .frz .frz (sc p (cutT t c))), none, none]) ?_ ?_
  · by_cases h12 : p.length < 12
    · have h12' : ((p.length : Int) < 12) = True := eq_true (by omega)
      obtain ⟨b', e⟩ := scale_right_ok g (sc_D .frz st_frz) (pl_D .frz st_frz) b
      simp_arith [h12', bg_kill, bg_bor, bg_of, hd2, okC_of e]
      exact ⟨b', rfl⟩
    · have h12' : ((p.length : Int) < 12) = False := eq_false (by omega)
      simp_arith [h12']
      exact ⟨b, rfl⟩
  rintro _ ⟨b, rfl⟩
  refine seq_cut (A := fun S => ∃ o8, S = [some d, some (bg b), some (en .frz .frz (pl p t)), some (en .frz .frz (sc p t)), some (I p.length), some (I c), some (en .frz .frz (sc p (cutT t c))), none, o8]) ?_ ?_
  · simp_arith [pow29, it_raw]
    refine for_inv (ys := [V.int p.length, V.int (-1), V.int 100000000000000000000000000000, V.non, V.bl true, V.str "0"]) (e := D.im) (Inv := fun i S => ∃ o8, S = [some d, some (bg b), some (en .frz .frz (pl p t)), some (en .frz .frz (sc p t)), some (I p.length), some (I c), some (en .frz .frz (sc p (cutT t c))), none, o8]) ?_ ?_ ?_
    · rintro i v S hv ⟨o8, rfl⟩
      have hv := List.mem_of_getElem? hv
      have hq : Vis (.im v) ∧ badC p.length v = true ∧ oNe (.nd .own .tup [.im v, B true]) (.nd .own .tup [.im v, B true]) = some (B false) := by
        simp only [List.mem_cons, List.not_mem_nil, or_false] at hv
        rcases hv with rfl | rfl | rfl | rfl | rfl | rfl
        · exact ⟨.int _, by simp [badC], nev _ (by simp [toPy, toPyL, SeqAt.shaped, PyData.eqv, PyData.eqvAll, PyData.canLay0, PyData.canLayAll0, PyData.depth, PyData.depthAll])⟩
        · exact ⟨.int _, rfl, nev _ rfl⟩
        · exact ⟨.int _, by simp [badC]; omega, nev _ rfl⟩
        · exact ⟨.non, rfl, nev _ rfl⟩
        · exact ⟨.bl _, rfl, nev _ rfl⟩
        · exact ⟨.str _, rfl, nev _ (by first | rfl | decide +kernel)⟩
      obtain ⟨q1, q2, q3⟩ := hq
      have r1 := refusal_exc (u := .int (-2)) (meeting_exc1 (t := t) (.inl rfl) q1 q2)
      have r2 := refusal_exc (v := .int ((0 : Nat) : Int)) (meeting_exc2 (t := t) (a := 0) (.inl rfl) (by omega) q1 q2)
      have r3 := refusal_exc (u := v) (meeting_exc1 (t := t) (.inl rfl) q1 q2)
      have r2' : m__law_refusal [en .frz .frz (sc p t), I 0, .im v] = .ok (.nd .own .tup [.im v, B true]) [] := r2
      simp_arith [okC_of r1, okC_of r2', okC_of r3, q3]
      exact ⟨_, rfl⟩
    · rintro S h; exact h
    · exact ⟨none, rfl⟩
  rintro _ ⟨o8, rfl⟩
  have r4 := refusal_none g (a := p.length - 1) (b := 0) (by omega) (by omega)
  have en1 : ((p.length - 1 : Nat) : Int) = (p.length : Int) - 1 := by omega
  rw [en1] at r4
  have r4' : m__law_refusal [en .frz .frz (sc p t), I ((p.length : Int) - 1), I 0] = .ok (.im .non) [] := r4
  simp_arith [okC_of r4', okC_of (like_ok g)]
end Law
end
section
namespace Law
open PySem L2 Lin
def top (i : Nat) : Stmt := PySem.Challenge.pw_claimclasses_k62_uniting_and_meeting_row.main.body.getD i (.Pass ⟨0, 0, 0, 0⟩)
structure Txt (K : PySem.W.Frag) (mg : Str → Option Value) (g : Gc) : Prop where
  b_abs : mg "abs" = none
  b_all : mg "all" = none
  b_bool : mg "bool" = none
  b_int : mg "int" = none
  b_isinstance : mg "isinstance" = none
  b_len : mg "len" = none
  b_list : mg "list" = none
  b_max : mg "max" = none
  b_min : mg "min" = none
  b_range : mg "range" = none
  b_set : mg "set" = none
  b_sorted : mg "sorted" = none
  b_tuple : mg "tuple" = none
  c_GREATEST_PREMIUM : ∃ u, mg "GREATEST_PREMIUM" = some u ∧ RelV (.int 1000000) u
  c_MOST_CLASSES : ∃ u, mg "MOST_CLASSES" = some u ∧ RelV (.int 12) u
  c_MOST_COLUMNS : ∃ u, mg "MOST_COLUMNS" = some u ∧ RelV (.int 5) u
  k_Scale : Cls K (g.cl 0)
  n_Scale_moves : NoAttr K (g.cl 0) "moves"
  n_Scale_rates : NoAttr K (g.cl 0) "rates"
  ph : ∀ Γ, g.ph Γ
  base : BaseC K mg "ClaimError" (baseA mg)
  g_NoClass : mg "NoClass" = some (.ref (g.cl 100))
  mt_NoClass : ∀ c b, mt_NoClass c = some b → PySem.W.exmOne K (.ref (g.cl c)) (.ref (g.cl 100)) = some b
  xf_NoClass : XfC K (g.cl 100)
  xn_NoClass_at : PySem.W.findIn K (.ref (g.cl 100)) "at" = some none
  xc_NoClass : ExcC K (g.cl 100)
  xk_NoClass : PySem.W.kitOne K (.ref (g.cl 100)) (.ref (baseA mg)) = some true
section
variable {P : Program} {w : World} {K : PySem.W.Frag} {mg : Str → Option Value} {base : Heap} {g : Gc}
abbrev s_xNoClass : Stmt := (inClass (top 5) 0)
theorem sc_xNoClass : FnScope ["self", "at"] ["self", "at"] (defScope s_xNoClass) := ⟨rfl, rfl, rfl, by decide +kernel, rfl, by decide +kernel, by decide +kernel⟩
theorem ok_xNoClass {f : Addr} {fd : FuncData} (F : Fun K "__init__" "NoClass.__init__" s_xNoClass f fd) (tx : Txt K mg g) : FnOk P w K mg base (L2.CX P w) 1 f fd ["self", "at"] (spX K "at" fun v => (fun _ => true) v = true) :=
  exinit_ok F sc_xNoClass tx.base rfl fun cdv A outer s H E hr => ⟨tC (.str "no such class"), fun _ _ _ _ _ _ q => q _, pss_cons (ps_expr (pe_baseInit tx.base rfl (pa_cons (pe_var (i := 0) rfl (Or.inl rfl) (by decide) (by decide)) (pa_cons pe_str pa_nil)) (by decide) (by rfl) (by rfl) (by rfl))) (pss_one (ps_ost (pe_var (i := 0) rfl (Or.inl rfl) (by decide) (by decide)) (pe_var (i := 1) rfl (Or.inl rfl) (by decide) (by decide))))⟩
abbrev s__law_bag : Stmt := (top 23)
theorem sc__law_bag : FnScope ["_law_script"] ["_law_script"] (defScope s__law_bag) := ⟨rfl, rfl, rfl, by decide +kernel, rfl, by decide +kernel, by decide +kernel⟩
theorem ok__law_bag {f : Addr} {fd : FuncData} (F : Fun K "_law_bag" "_law_bag" s__law_bag f fd) (tx : Txt K mg g) {scA : Option Addr} {scN : List Int} (hS : ScrOk K g scA scN)  : FnOk P w K mg base (L2.CX P w) 1 f fd ["_law_script"] (spOf g [false] (m__law_bag scA scN)) :=
  def_ok tx.ph (k := 0) [] F sc__law_bag [false] rfl (keep_of rfl) fun cdv A outer s H E hr cx => show QSs _ g _ _ (defBody s__law_bag) (b__law_bag scA scN) from
    (sdb_one (sds_ret (sd_lst (sda_cons (sd_callTy (bu_listS hS) (sda_cons (sd_var 0) sda_nil) tx.b_list) (sda_cons sd_int (sda_cons sd_int (sda_cons sd_int (sda_cons sd_int sda_nil))))))))
abbrev s__law_draw : Stmt := (top 24)
theorem sc__law_draw : FnScope ["_law_bag_here", "_law_size", "_law_cell", "_law_digit", "_law_mixed_here"] ["_law_bag_here", "_law_size"] (defScope s__law_draw) := ⟨rfl, rfl, rfl, by decide +kernel, rfl, by decide +kernel, by decide +kernel⟩
theorem ok__law_draw {f : Addr} {fd : FuncData} (F : Fun K "_law_draw" "_law_draw" s__law_draw f fd) (tx : Txt K mg g)  : FnOk P w K mg base (L2.CX P w) 1 f fd ["_law_bag_here", "_law_size"] (spOf g [true, false] (m__law_draw)) :=
  def_ok tx.ph (k := 0) [0, 7, 0, 0, 0, 8, 0, 9, 9] F sc__law_draw [true, false] rfl (keep_of rfl) fun cdv A outer s H E hr cx => show QSs _ g _ _ (defBody s__law_draw) (b__law_draw) from
    (sdb_cons (sds_setAt cx.toCxE (sd_op bm_add (sd_ix cx.toCxE (sd_var 0) sd_int) sd_int) (sdp_var 0) sd_int) (sdb_cons (sds_if (sdt_w (sdw_and (sdt_cmp (cm_eq cx.toCxE) (sd_ix cx.toCxE (sd_var 0) sd_int) sd_int) (sdw_and1 (sdt_cmp cm_lt (sd_ix cx.toCxE (sd_var 0) sd_int) (sd_callB (bu_len) (sda_cons (sd_ix cx.toCxE (sd_var 0) sd_int) sda_nil) tx.b_len))))) (sdb_cons (sds_set true 2 cx.nd (sd_ix cx.toCxE (sd_ix cx.toCxE (sd_var 0) sd_int) (sd_ix cx.toCxE (sd_var 0) sd_int))) (sdb_cons (sds_setAt cx.toCxE (sd_op bm_add (sd_ix cx.toCxE (sd_var 0) sd_int) sd_int) (sdp_var 0) sd_int) (sdb_cons (sds_setAt cx.toCxE (sd_op bm_mul (sd_op bm_add (sd_op bm_mul sd_int (sd_callB (bu_abs) (sda_cons (sd_var 2) sda_nil) tx.b_abs)) (sd_callTy (bu_int) (sda_cons (sd_cmp cm_lt (sd_var 2) sd_int) sda_nil) tx.b_int)) (sd_callTy (bu_int) (sda_cons (sd_cmp cm_ge (sd_callB (bu_abs) (sda_cons (sd_var 2) sda_nil) tx.b_abs) (sd_op bm_pow sd_int sd_int)) sda_nil) tx.b_int)) (sdp_var 0) sd_int) (sdb_one (sds_setAt cx.toCxE (sd_op bm_mod (sd_callTy (bu_int) (sda_cons (sd_op bm_add (sd_op bm_add (sd_op bm_mul (sd_ix cx.toCxE (sd_var 0) sd_int) sd_int) (sd_op bm_mul (sd_var 2) sd_int)) sd_int) sda_nil) tx.b_int) sd_int) (sdp_var 0) sd_int))))) sdb_nil) (sdb_cons (sds_set true 3 cx.nd (sd_op bm_mod (sd_callTy (bu_int) (sda_cons (sd_ix cx.toCxE (sd_var 0) sd_int) sda_nil) tx.b_int) (sd_var 1))) (sdb_cons (sds_if (sdt_cmp cm_gt (sd_ix cx.toCxE (sd_var 0) sd_int) sd_int) (sdb_cons (sds_setAt cx.toCxE (sd_op bm_fdiv (sd_ix cx.toCxE (sd_var 0) sd_int) (sd_var 1)) (sdp_var 0) sd_int) (sdb_one (sds_ret (sd_var 3)))) sdb_nil) (sdb_cons (sds_set true 4 cx.nd (sd_op bm_mod (sd_callTy (bu_int) (sda_cons (sd_op bm_add (sd_ix cx.toCxE (sd_var 0) sd_int) (sd_op bm_mul (sd_ix cx.toCxE (sd_var 0) sd_int) sd_int)) sda_nil) tx.b_int) sd_int)) (sdb_cons (sds_set true 4 cx.nd (sd_op bm_mod (sd_callTy (bu_int) (sda_cons (sd_op bm_add (sd_op bm_add (sd_op bm_pow (sd_var 4) sd_int) (sd_op bm_mul (sd_ix cx.toCxE (sd_var 0) sd_int) sd_int)) sd_int) sda_nil) tx.b_int) sd_int)) (sdb_one (sds_ret (sd_op bm_mod (sd_op bm_fdiv (sd_op bm_mod (sd_callTy (bu_int) (sda_cons (sd_op bm_pow (sd_var 4) sd_int) sda_nil) tx.b_int) sd_int) sd_int) (sd_var 1))))))))))
abbrev s__law_scale : Stmt := (top 27)
theorem sc__law_scale : FnScope ["_law_bag_here", "_law_most", "_law_most_wide", "_law_count", "_law_wide", "_law_size", "_law_premiums", "_law_at", "_law_table", "_law_moves", "_law_k", "_law_premium"] ["_law_bag_here", "_law_most", "_law_most_wide"] (defScope s__law_scale) := ⟨rfl, rfl, rfl, by decide +kernel, rfl, by decide +kernel, by decide +kernel⟩
theorem ok__law_scale {f : Addr} {fd : FuncData} (F : Fun K "_law_scale" "_law_scale" s__law_scale f fd) (tx : Txt K mg g) (h__law_draw : Df P w K mg base g "_law_draw" ["_law_bag_here", "_law_size"] 1 [true, false] m__law_draw) : FnOk P w K mg base (L2.CX P w) 2 f fd ["_law_bag_here", "_law_most", "_law_most_wide"] (spOf g [true, false, false] (m__law_scale)) :=
  def_ok tx.ph (k := 1) [0, 15, 0, 16, 0, 17, 0, 7, 18, 20, 19, 0, 10, 21, 0, 10, 21, 8, 0, 11, 18, 6, 8] F sc__law_scale [true, false, false] rfl (keep_of rfl) fun cdv A outer s H E hr cx => show QSs _ g _ _ (defBody s__law_scale) (b__law_scale) from
    (sdb_cons (sds_set true 3 cx.nd (sd_op bm_add sd_int (sd_call (rs := [some 0, none]) cx.toCxE h__law_draw (hr.mono (by decide)) (sdc_ref 0 (sdc_val (sd_var 1) sdc_nil))))) (sdb_cons (sds_set true 4 cx.nd (sd_op bm_add sd_int (sd_call (rs := [some 0, none]) cx.toCxE h__law_draw (hr.mono (by decide)) (sdc_ref 0 (sdc_val (sd_var 2) sdc_nil))))) (sdb_cons (sds_set true 5 cx.nd (sd_ix cx.toCxE (sd_lst (sda_cons sd_int (sda_cons sd_int (sda_cons sd_int sda_nil)))) (sd_call (rs := [some 0, none]) cx.toCxE h__law_draw (hr.mono (by decide)) (sdc_ref 0 (sdc_val sd_int sdc_nil))))) (sdb_cons (by first | exact sds_setLc false 6 [("_law_at", 7)] cx.toCxE (sdi_rng1 (sda_cons (sd_var 3) sda_nil) tx.b_range) (blkOk_by rfl) (fun _ _ _ _ _ cx1 => (sdg_name true 7 cx1.nd)) (fun _ _ _ _ _ cx1 => sdts_nil) (fun _ _ _ _ _ cx1 => (sd_call (rs := [some 0, none]) cx1 h__law_draw (hr.mono (by decide)) (sdc_ref 0 (sdc_val (sd_var 5) sdc_nil)))) | exact sds_set false 6 cx.nd (sd_lc [("_law_at", 7)] cx.toCxE (sdi_rng1 (sda_cons (sd_var 3) sda_nil) tx.b_range) (blkOk_by rfl) (fun _ _ _ _ _ cx1 => (sdg_name true 7 cx1.nd)) (fun _ _ _ _ _ cx1 => sdts_nil) (fun _ _ _ _ _ cx1 => (sd_call (rs := [some 0, none]) cx1 h__law_draw (hr.mono (by decide)) (sdc_ref 0 (sdc_val (sd_var 5) sdc_nil)))))) (sdb_cons (sds_set false 8 cx.nd (sd_lst sda_nil)) (sdb_cons (sds_for cx (sdi_rng1 (sda_cons (sd_var 3) sda_nil) tx.b_range) (sdg_name true 7 cx.nd) (sdb_cons (by first | exact sds_setLc true 9 [("_law_k", 10)] cx.toCxE (sdi_rng1 (sda_cons (sd_var 4) sda_nil) tx.b_range) (blkOk_by rfl) (fun _ _ _ _ _ cx1 => (sdg_name true 10 cx1.nd)) (fun _ _ _ _ _ cx1 => sdts_nil) (fun _ _ _ _ _ cx1 => (sd_call (rs := [some 0, none]) cx1 h__law_draw (hr.mono (by decide)) (sdc_ref 0 (sdc_val (sd_var 3) sdc_nil)))) | exact sds_set true 9 cx.nd (sd_lc [("_law_k", 10)] cx.toCxE (sdi_rng1 (sda_cons (sd_var 4) sda_nil) tx.b_range) (blkOk_by rfl) (fun _ _ _ _ _ cx1 => (sdg_name true 10 cx1.nd)) (fun _ _ _ _ _ cx1 => sdts_nil) (fun _ _ _ _ _ cx1 => (sd_call (rs := [some 0, none]) cx1 h__law_draw (hr.mono (by decide)) (sdc_ref 0 (sdc_val (sd_var 3) sdc_nil)))))) (sdb_cons (sds_if (sdt_cmp (cm_eq cx.toCxE) (sd_call (rs := [some 0, none]) cx.toCxE h__law_draw (hr.mono (by decide)) (sdc_ref 0 (sdc_val sd_int sdc_nil))) sd_int) (sdb_one (sds_set true 9 cx.nd (sd_op bm_add (sd_lst (sda_cons (sd_callB (bu_max cx.toCxE) (sda_cons (sd_op bm_sub (sd_var 7) sd_int) (sda_cons sd_int sda_nil)) tx.b_max) sda_nil)) (sd_lc [("_law_k", 10)] cx.toCxE (sdi_rng2 (sda_cons sd_int (sda_cons (sd_var 4) sda_nil)) tx.b_range) (blkOk_by rfl) (fun _ _ _ _ _ cx1 => (sdg_name true 10 cx1.nd)) (fun _ _ _ _ _ cx1 => sdts_nil) (fun _ _ _ _ _ cx1 => (sd_callB (bu_min cx1) (sda_cons (sd_op bm_add (sd_var 7) (sd_var 10)) (sda_cons (sd_op bm_sub (sd_var 3) sd_int) sda_nil)) tx.b_min)))))) sdb_nil) (sdb_one (sds_expr (sd_append (sdp_var 8) (sda_cons (sd_var 9) sda_nil))))))) (sdb_cons (sds_if (sdt_cmp (cm_eq cx.toCxE) (sd_call (rs := [some 0, none]) cx.toCxE h__law_draw (hr.mono (by decide)) (sdc_ref 0 (sdc_val sd_int sdc_nil))) sd_int) (sdb_one (by first | exact sds_setLc false 6 [("_law_premium", 11)] cx.toCxE (sdi_list (sd_callB (bu_sorted cx.toCxE) (sda_cons (sd_var 6) sda_nil) tx.b_sorted)) (blkOk_by rfl) (fun _ _ _ _ _ cx1 => (sdg_name true 11 cx1.nd)) (fun _ _ _ _ _ cx1 => sdts_nil) (fun _ _ _ _ _ cx1 => (sd_callTy (bu_int) (sda_cons (sd_var 11) sda_nil) tx.b_int)) | exact sds_set false 6 cx.nd (sd_lc [("_law_premium", 11)] cx.toCxE (sdi_list (sd_callB (bu_sorted cx.toCxE) (sda_cons (sd_var 6) sda_nil) tx.b_sorted)) (blkOk_by rfl) (fun _ _ _ _ _ cx1 => (sdg_name true 11 cx1.nd)) (fun _ _ _ _ _ cx1 => sdts_nil) (fun _ _ _ _ _ cx1 => (sd_callTy (bu_int) (sda_cons (sd_var 11) sda_nil) tx.b_int))))) sdb_nil) (sdb_one (sds_ret (sd_tup (sda_cons (sd_mv 6) (sda_cons (sd_mv 8) sda_nil))))))))))))
abbrev s_is_integer : Stmt := (top 11)
theorem sc_is_integer : FnScope ["value", "least"] ["value", "least"] (defScope s_is_integer) := ⟨rfl, rfl, rfl, by decide +kernel, rfl, by decide +kernel, by decide +kernel⟩
theorem ok_is_integer {f : Addr} {fd : FuncData} (F : Fun K "is_integer" "is_integer" s_is_integer f fd) (tx : Txt K mg g)  : FnOk P w K mg base (L2.CX P w) 1 f fd ["value", "least"] (spOf g [false, false] (m_is_integer)) :=
  def_ok tx.ph (k := 0) [] F sc_is_integer [false, false] rfl (keep_of rfl) fun cdv A outer s H E hr cx => show QSs _ g _ _ (defBody s_is_integer) (b_is_integer) from
    (sdb_one (sds_ret (sd_and (sd_callB (bu_isi) (sda_cons (sd_var 0) (sda_cons (sd_ty tx.b_int) sda_nil)) tx.b_isinstance) (sd_and (sd_not (sd_callB (bu_isi) (sda_cons (sd_var 0) (sda_cons (sd_ty tx.b_bool) sda_nil)) tx.b_isinstance)) (sd_one (sd_cmp cm_ge (sd_var 0) (sd_var 1)))))))
abbrev s_is_premium : Stmt := (top 12)
theorem sc_is_premium : FnScope ["value"] ["value"] (defScope s_is_premium) := ⟨rfl, rfl, rfl, by decide +kernel, rfl, by decide +kernel, by decide +kernel⟩
theorem ok_is_premium {f : Addr} {fd : FuncData} (F : Fun K "is_premium" "is_premium" s_is_premium f fd) (tx : Txt K mg g) (h_is_integer : Df P w K mg base g "is_integer" ["value", "least"] 1 [false, false] m_is_integer) : FnOk P w K mg base (L2.CX P w) 2 f fd ["value"] (spOf g [false] (m_is_premium)) :=
  def_ok tx.ph (k := 1) [] F sc_is_premium [false] rfl (keep_of rfl) fun cdv A outer s H E hr cx => show QSs _ g _ _ (defBody s_is_premium) (b_is_premium) from
    (sdb_one (sds_ret (sd_and (sd_call (rs := [none, none]) cx.toCxE h_is_integer (hr.mono (by decide)) (sdc_val (sd_var 0) (sdc_val sd_int sdc_nil))) (sd_one (sd_cmp cm_le (sd_var 0) (sd_glob tx.c_GREATEST_PREMIUM.choose_spec.1 tx.c_GREATEST_PREMIUM.choose_spec.2))))))
abbrev s_are_premiums : Stmt := (top 13)
theorem sc_are_premiums : FnScope ["premiums", "premium"] ["premiums"] (defScope s_are_premiums) := ⟨rfl, rfl, rfl, by decide +kernel, rfl, by decide +kernel, by decide +kernel⟩
theorem ok_are_premiums {f : Addr} {fd : FuncData} (F : Fun K "are_premiums" "are_premiums" s_are_premiums f fd) (tx : Txt K mg g) (h_is_premium : Df P w K mg base g "is_premium" ["value"] 2 [false] m_is_premium) : FnOk P w K mg base (L2.CX P w) 3 f fd ["premiums"] (spOf g [false] (m_are_premiums)) :=
  def_ok tx.ph (k := 2) [1] F sc_are_premiums [false] rfl (keep_of rfl) fun cdv A outer s H E hr cx => show QSs _ g _ _ (defBody s_are_premiums) (b_are_premiums) from
    (sdb_cons (sds_if (sdt_w (sdw_or (sdt_not (sdt_val (sd_callB (bu_isi) (sda_cons (sd_var 0) (sda_cons (sd_ty tx.b_list) sda_nil)) tx.b_isinstance))) (sdw_or1 (sdt_not (sdt_chain cm_le cm_le sd_int (sd_callB (bu_len) (sda_cons (sd_var 0) sda_nil) tx.b_len) (sd_glob tx.c_MOST_CLASSES.choose_spec.1 tx.c_MOST_CLASSES.choose_spec.2)))))) (sdb_one (sds_ret sd_bl)) sdb_nil) (sdb_one (sds_ret (sd_callB (bu_all cx.toCxE) (sda_cons (sd_lc [("premium", 1)] cx.toCxE (sdi_list (sd_var 0)) (blkOk_by rfl) (fun _ _ _ _ _ cx1 => (sdg_name true 1 cx1.nd)) (fun _ _ _ _ _ cx1 => sdts_nil) (fun _ _ _ _ _ cx1 => (sd_call (rs := [none]) cx1 h_is_premium (hr.mono (by decide)) (sdc_val (sd_var 1) sdc_nil)))) sda_nil) tx.b_all))))
abbrev s_are_moves : Stmt := (top 14)
theorem sc_are_moves : FnScope ["moves", "count", "wide", "goal"] ["moves", "count", "wide"] (defScope s_are_moves) := ⟨rfl, rfl, rfl, by decide +kernel, rfl, by decide +kernel, by decide +kernel⟩
theorem ok_are_moves {f : Addr} {fd : FuncData} (F : Fun K "are_moves" "are_moves" s_are_moves f fd) (tx : Txt K mg g) (h_is_integer : Df P w K mg base g "is_integer" ["value", "least"] 1 [false, false] m_is_integer) : FnOk P w K mg base (L2.CX P w) 2 f fd ["moves", "count", "wide"] (spOf g [false, false, false] (m_are_moves)) :=
  def_ok tx.ph (k := 1) [3] F sc_are_moves [false, false, false] rfl (keep_of rfl) fun cdv A outer s H E hr cx => show QSs _ g _ _ (defBody s_are_moves) (b_are_moves) from
    (sdb_cons (sds_if (sdt_w (sdw_or (sdt_not (sdt_val (sd_callB (bu_isi) (sda_cons (sd_var 0) (sda_cons (sd_ty tx.b_list) sda_nil)) tx.b_isinstance))) (sdw_or (sdt_cmp (cm_ne cx.toCxE) (sd_callB (bu_len) (sda_cons (sd_var 0) sda_nil) tx.b_len) (sd_var 2)) (sdw_or1 (sdt_not (sdt_chain cm_le cm_le sd_int (sd_var 2) (sd_glob tx.c_MOST_COLUMNS.choose_spec.1 tx.c_MOST_COLUMNS.choose_spec.2))))))) (sdb_one (sds_ret sd_bl)) sdb_nil) (sdb_one (sds_ret (sd_callB (bu_all cx.toCxE) (sda_cons (sd_lc [("goal", 3)] cx.toCxE (sdi_list (sd_var 0)) (blkOk_by rfl) (fun _ _ _ _ _ cx1 => (sdg_name true 3 cx1.nd)) (fun _ _ _ _ _ cx1 => sdts_nil) (fun _ _ _ _ _ cx1 => (sd_and (sd_call (rs := [none, none]) cx1 h_is_integer (hr.mono (by decide)) (sdc_val (sd_var 3) (sdc_val sd_int sdc_nil))) (sd_one (sd_cmp cm_lt (sd_var 3) (sd_var 1)))))) sda_nil) tx.b_all))))
abbrev s_is_table : Stmt := (top 15)
theorem sc_is_table : FnScope ["table", "count", "moves"] ["table", "count"] (defScope s_is_table) := ⟨rfl, rfl, rfl, by decide +kernel, rfl, by decide +kernel, by decide +kernel⟩
theorem ok_is_table {f : Addr} {fd : FuncData} (F : Fun K "is_table" "is_table" s_is_table f fd) (tx : Txt K mg g) (h_are_moves : Df P w K mg base g "are_moves" ["moves", "count", "wide"] 2 [false, false, false] m_are_moves) : FnOk P w K mg base (L2.CX P w) 3 f fd ["table", "count"] (spOf g [false, false] (m_is_table)) :=
  def_ok tx.ph (k := 2) [2] F sc_is_table [false, false] rfl (keep_of rfl) fun cdv A outer s H E hr cx => show QSs _ g _ _ (defBody s_is_table) (b_is_table) from
    (sdb_cons (sds_if (sdt_w (sdw_or (sdt_not (sdt_val (sd_callB (bu_isi) (sda_cons (sd_var 0) (sda_cons (sd_ty tx.b_list) sda_nil)) tx.b_isinstance))) (sdw_or (sdt_cmp (cm_ne cx.toCxE) (sd_callB (bu_len) (sda_cons (sd_var 0) sda_nil) tx.b_len) (sd_var 1)) (sdw_or1 (sdt_not (sdt_val (sd_callB (bu_isi) (sda_cons (sd_ix cx.toCxE (sd_var 0) sd_int) (sda_cons (sd_ty tx.b_list) sda_nil)) tx.b_isinstance))))))) (sdb_one (sds_ret sd_bl)) sdb_nil) (sdb_one (sds_ret (sd_callB (bu_all cx.toCxE) (sda_cons (sd_lc [("moves", 2)] cx.toCxE (sdi_list (sd_var 0)) (blkOk_by rfl) (fun _ _ _ _ _ cx1 => (sdg_name true 2 cx1.nd)) (fun _ _ _ _ _ cx1 => sdts_nil) (fun _ _ _ _ _ cx1 => (sd_call (rs := [none, none, none]) cx1 h_are_moves (hr.mono (by decide)) (sdc_val (sd_var 2) (sdc_val (sd_var 1) (sdc_val (sd_callB (bu_len) (sda_cons (sd_ix cx1 (sd_var 0) sd_int) sda_nil) tx.b_len) sdc_nil)))))) sda_nil) tx.b_all))))
abbrev s_Scaledd_initdd : Stmt := (inClass (top 16) 0)
theorem sc_Scaledd_initdd : FnScope ["self", "premiums", "table", "moves"] ["self", "premiums", "table"] (defScope s_Scaledd_initdd) := ⟨rfl, rfl, rfl, by decide +kernel, rfl, by decide +kernel, by decide +kernel⟩
theorem ok_Scaledd_initdd {f : Addr} {fd : FuncData} (F : Fun K "__init__" "Scale.__init__" s_Scaledd_initdd f fd) (tx : Txt K mg g) (h_are_premiums : Df P w K mg base g "are_premiums" ["premiums"] 3 [false] m_are_premiums) (h_is_table : Df P w K mg base g "is_table" ["table", "count"] 3 [false, false] m_is_table) : FnOk P w K mg base (L2.CX P w) 4 f fd ["self", "premiums", "table"] (spOf g [true, false, false] (m_Scaledd_initdd)) :=
  def_ok tx.ph (k := 3) [0, 3, 0] F sc_Scaledd_initdd [true, false, false] rfl (keep_of rfl) fun cdv A outer s H E hr cx => show QSs _ g _ _ (defBody s_Scaledd_initdd) (b_Scaledd_initdd) from
    (sdb_cons (sds_if (sdt_not (sdt_val (sd_call (rs := [none]) cx.toCxE h_are_premiums (hr.mono (by decide)) (sdc_val (sd_var 1) sdc_nil)))) (sdb_one sds_never) sdb_nil) (sdb_cons (sds_if (sdt_not (sdt_val (sd_call (rs := [none, none]) cx.toCxE h_is_table (hr.mono (by decide)) (sdc_val (sd_var 2) (sdc_val (sd_callB (bu_len) (sda_cons (sd_var 1) sda_nil) tx.b_len) sdc_nil))))) (sdb_one sds_never) sdb_nil) (sdb_cons (sds_fld tx.k_Scale tx.n_Scale_rates (sd_callTy (bu_list cx.toCxE) (sda_cons (sd_var 1) sda_nil) tx.b_list) (sdp_var 0)) (sdb_one (sds_fld tx.k_Scale tx.n_Scale_moves (sd_lc [("moves", 3)] cx.toCxE (sdi_list (sd_var 2)) (blkOk_by rfl) (fun _ _ _ _ _ cx1 => (sdg_name true 3 cx1.nd)) (fun _ _ _ _ _ cx1 => sdts_nil) (fun _ _ _ _ _ cx1 => (sd_callTy (bu_list cx1) (sda_cons (sd_var 3) sda_nil) tx.b_list))) (sdp_var 0))))))
abbrev s__law_made : Stmt := (top 28)
theorem sc__law_made : FnScope ["_law_plain", "_law_moves"] ["_law_plain"] (defScope s__law_made) := ⟨rfl, rfl, rfl, by decide +kernel, rfl, by decide +kernel, by decide +kernel⟩
theorem ok__law_made {f : Addr} {fd : FuncData} (F : Fun K "_law_made" "_law_made" s__law_made f fd) (tx : Txt K mg g) (h_Scaledd_initdd : Dk P w K mg base g 0 "Scale" ["self", "premiums", "table"] 4 [true, false, false] m_Scaledd_initdd) : FnOk P w K mg base (L2.CX P w) 6 f fd ["_law_plain"] (spOf g [false] (m__law_made)) :=
  def_ok tx.ph (k := 5) [1] F sc__law_made [false] rfl (keep_of rfl) fun cdv A outer s H E hr cx => show QSs _ g _ _ (defBody s__law_made) (b__law_made) from
    (sdb_one (sds_ret (sd_make (rs := [none, none]) cx.toCxE h_Scaledd_initdd (hr.mono (by decide)) (sdc_val (sd_callTy (bu_list cx.toCxE) (sda_cons (sd_ix cx.toCxE (sd_var 0) sd_int) sda_nil) tx.b_list) (sdc_val (sd_lc [("_law_moves", 1)] cx.toCxE (sdi_list (sd_ix cx.toCxE (sd_var 0) sd_int)) (blkOk_by rfl) (fun _ _ _ _ _ cx1 => (sdg_name true 1 cx1.nd)) (fun _ _ _ _ _ cx1 => sdts_nil) (fun _ _ _ _ _ cx1 => (sd_callTy (bu_list cx1) (sda_cons (sd_var 1) sda_nil) tx.b_list))) sdc_nil)))))
abbrev s_Scale_limited : Stmt := (inClass (top 16) 18)
theorem sc_Scale_limited : FnScope ["self", "columns", "moves"] ["self", "columns"] (defScope s_Scale_limited) := ⟨rfl, rfl, rfl, by decide +kernel, rfl, by decide +kernel, by decide +kernel⟩
theorem ok_Scale_limited {f : Addr} {fd : FuncData} (F : Fun K "limited" "Scale.limited" s_Scale_limited f fd) (tx : Txt K mg g) (h_Scaledd_initdd : Dk P w K mg base g 0 "Scale" ["self", "premiums", "table"] 4 [true, false, false] m_Scaledd_initdd) : FnOk P w K mg base (L2.CX P w) 6 f fd ["self", "columns"] (spOf g [false, false] (m_Scale_limited)) :=
  def_ok tx.ph (k := 5) [2] F sc_Scale_limited [false, false] rfl (keep_of rfl) fun cdv A outer s H E hr cx => show QSs _ g _ _ (defBody s_Scale_limited) (b_Scale_limited) from
    (sdb_one (sds_ret (sd_make (rs := [none, none]) cx.toCxE h_Scaledd_initdd (hr.mono (by decide)) (sdc_val (sd_fld tx.k_Scale tx.n_Scale_rates (sd_var 0)) (sdc_val (sd_lc [("moves", 2)] cx.toCxE (sdi_list (sd_fld tx.k_Scale tx.n_Scale_moves (sd_var 0))) (blkOk_by rfl) (fun _ _ _ _ _ cx1 => (sdg_name true 2 cx1.nd)) (fun _ _ _ _ _ cx1 => sdts_nil) (fun _ _ _ _ _ cx1 => (sd_slH (sd_var 2) (sd_var 1)))) sdc_nil)))))
abbrev s__law_led : Stmt := (top 29)
theorem sc__law_led : FnScope ["_law_plain", "_law_at", "_law_claims", "_law_moves"] ["_law_plain", "_law_at", "_law_claims"] (defScope s__law_led) := ⟨rfl, rfl, rfl, by decide +kernel, rfl, by decide +kernel, by decide +kernel⟩
theorem ok__law_led {f : Addr} {fd : FuncData} (F : Fun K "_law_led" "_law_led" s__law_led f fd) (tx : Txt K mg g)  : FnOk P w K mg base (L2.CX P w) 1 f fd ["_law_plain", "_law_at", "_law_claims"] (spOf g [false, false, false] (m__law_led)) :=
  def_ok tx.ph (k := 0) [7] F sc__law_led [false, false, false] rfl (keep_of rfl) fun cdv A outer s H E hr cx => show QSs _ g _ _ (defBody s__law_led) (b__law_led) from
    (sdb_cons (sds_set true 3 cx.nd (sd_ix cx.toCxE (sd_ix cx.toCxE (sd_var 0) sd_int) (sd_var 1))) (sdb_one (sds_ret (sd_ix cx.toCxE (sd_var 3) (sd_callB (bu_min cx.toCxE) (sda_cons (sd_var 2) (sda_cons (sd_op bm_sub (sd_callB (bu_len) (sda_cons (sd_var 3) sda_nil) tx.b_len) sd_int) sda_nil)) tx.b_min)))))
abbrev s__law_led_all : Stmt := (top 31)
theorem sc__law_led_all : FnScope ["_law_plain", "_law_some", "_law_claims", "_law_at"] ["_law_plain", "_law_some", "_law_claims"] (defScope s__law_led_all) := ⟨rfl, rfl, rfl, by decide +kernel, rfl, by decide +kernel, by decide +kernel⟩
theorem ok__law_led_all {f : Addr} {fd : FuncData} (F : Fun K "_law_led_all" "_law_led_all" s__law_led_all f fd) (tx : Txt K mg g) (h__law_led : Df P w K mg base g "_law_led" ["_law_plain", "_law_at", "_law_claims"] 1 [false, false, false] m__law_led) : FnOk P w K mg base (L2.CX P w) 2 f fd ["_law_plain", "_law_some", "_law_claims"] (spOf g [false, false, false] (m__law_led_all)) :=
  def_ok tx.ph (k := 1) [3] F sc__law_led_all [false, false, false] rfl (keep_of rfl) fun cdv A outer s H E hr cx => show QSs _ g _ _ (defBody s__law_led_all) (b__law_led_all) from
    (sdb_one (sds_ret (sd_sset cx.toCxE (sda_cons (sd_lc [("_law_at", 3)] cx.toCxE (sdi_lt (sd_var 1)) (blkOk_by rfl) (fun _ _ _ _ _ cx1 => (sdg_name true 3 cx1.nd)) (fun _ _ _ _ _ cx1 => sdts_nil) (fun _ _ _ _ _ cx1 => (sd_call (rs := [none, none, none]) cx1 h__law_led (hr.mono (by decide)) (sdc_val (sd_var 0) (sdc_val (sd_var 3) (sdc_val (sd_var 2) sdc_nil)))))) sda_nil) tx.b_sorted tx.b_set)))
abbrev s__law_shortest : Stmt := (top 32)
theorem sc__law_shortest : FnScope ["_law_plain", "_law_some", "_law_found", "_law_line", "_law_k", "_law_claims", "_law_goal"] ["_law_plain", "_law_some"] (defScope s__law_shortest) := ⟨rfl, rfl, rfl, by decide +kernel, rfl, by decide +kernel, by decide +kernel⟩
theorem ok__law_shortest {f : Addr} {fd : FuncData} (F : Fun K "_law_shortest" "_law_shortest" s__law_shortest f fd) (tx : Txt K mg g) (h__law_led_all : Df P w K mg base g "_law_led_all" ["_law_plain", "_law_some", "_law_claims"] 2 [false, false, false] m__law_led_all) : FnOk P w K mg base (L2.CX P w) 3 f fd ["_law_plain", "_law_some"] (spOf g [false, false] (m__law_shortest)) :=
  def_ok tx.ph (k := 2) [9, 10, 11, 2, 12, 13, 2, 3, 11] F sc__law_shortest [false, false] rfl (keep_of rfl) fun cdv A outer s H E hr cx => show QSs _ g _ _ (defBody s__law_shortest) (b__law_shortest) from
    (sdb_cons (sds_set false 2 cx.nd (sd_dispT cx.toCxE (sdd_cons (sd_fz (sd_callTy (bu_tuple) (sda_cons (sd_var 1) sda_nil) tx.b_tuple)) sd_int sdd_nil))) (sdb_cons (sds_set false 3 cx.nd (sd_lst (sda_cons (sd_fz (sd_callTy (bu_tuple) (sda_cons (sd_var 1) sda_nil) tx.b_tuple)) sda_nil))) (sdb_cons (sds_set true 4 cx.nd sd_int) (sdb_cons (sds_while fuel cx (sdt_cmp cm_lt (sd_var 4) (sd_callB (bu_len) (sda_cons (sd_var 3) sda_nil) tx.b_len)) (sdb_cons (sds_if (sdt_cmp (cm_eq cx.toCxE) (sd_callB (bu_len) (sda_cons (sd_ix cx.toCxE (sd_var 3) (sd_var 4)) sda_nil) tx.b_len) sd_int) (sdb_one (sds_ret (sd_ix cx.toCxE (sd_mv 2) (sd_ix cx.toCxE (sd_var 3) (sd_var 4))))) sdb_nil) (sdb_cons (sds_for cx (sdi_rng1 (sda_cons (sd_callB (bu_len) (sda_cons (sd_ix cx.toCxE (sd_ix cx.toCxE (sd_var 0) sd_int) sd_int) sda_nil) tx.b_len) sda_nil) tx.b_range) (sdg_name true 5 cx.nd) (sdb_cons (sds_set true 6 cx.nd (sd_fz (sd_callTy (bu_tuple) (sda_cons (sd_call (rs := [none, none, none]) cx.toCxE h__law_led_all (hr.mono (by decide)) (sdc_val (sd_var 0) (sdc_val (sd_ix cx.toCxE (sd_var 3) (sd_var 4)) (sdc_val (sd_var 5) sdc_nil)))) sda_nil) tx.b_tuple))) (sdb_one (sds_if (sdt_cmp (cm_notIn cx.toCxE) (sd_var 6) (sd_var 2)) (sdb_cons (sds_setAt cx.toCxE (sd_op bm_add (sd_ix cx.toCxE (sd_var 2) (sd_ix cx.toCxE (sd_var 3) (sd_var 4))) sd_int) (sdp_var 2) (sd_var 6)) (sdb_one (sds_expr (sd_append (sdp_var 3) (sda_cons (sd_var 6) sda_nil))))) sdb_nil)))) (sdb_one (sds_set true 4 cx.nd (sd_op bm_add (sd_var 4) sd_int)))))) (sdb_one (sds_ret sd_non))))))
abbrev s__law_number : Stmt := (top 25)
theorem sc__law_number : FnScope ["_law_value"] ["_law_value"] (defScope s__law_number) := ⟨rfl, rfl, rfl, by decide +kernel, rfl, by decide +kernel, by decide +kernel⟩
theorem ok__law_number {f : Addr} {fd : FuncData} (F : Fun K "_law_number" "_law_number" s__law_number f fd) (tx : Txt K mg g)  : FnOk P w K mg base (L2.CX P w) 1 f fd ["_law_value"] (spOf g [false] (m__law_number)) :=
  def_ok tx.ph (k := 0) [] F sc__law_number [false] rfl (keep_of rfl) fun cdv A outer s H E hr cx => show QSs _ g _ _ (defBody s__law_number) (b__law_number) from
    (sdb_one (sds_ret (sd_and (sd_callB (bu_isi) (sda_cons (sd_var 0) (sda_cons (sd_ty tx.b_int) sda_nil)) tx.b_isinstance) (sd_one (sd_not (sd_callB (bu_isi) (sda_cons (sd_var 0) (sda_cons (sd_ty tx.b_bool) sda_nil)) tx.b_isinstance))))))
abbrev s__law_row_right : Stmt := (top 33)
theorem sc__law_row_right : FnScope ["_law_told", "_law_plain", "_law_some", "_law_due", "_law_claims"] ["_law_told", "_law_plain", "_law_some", "_law_due"] (defScope s__law_row_right) := ⟨rfl, rfl, rfl, by decide +kernel, rfl, by decide +kernel, by decide +kernel⟩
theorem ok__law_row_right {f : Addr} {fd : FuncData} (F : Fun K "_law_row_right" "_law_row_right" s__law_row_right f fd) (tx : Txt K mg g) (h__law_led_all : Df P w K mg base g "_law_led_all" ["_law_plain", "_law_some", "_law_claims"] 2 [false, false, false] m__law_led_all) (h__law_number : Df P w K mg base g "_law_number" ["_law_value"] 1 [false] m__law_number) : FnOk P w K mg base (L2.CX P w) 3 f fd ["_law_told", "_law_plain", "_law_some", "_law_due"] (spOf g [true, false, false, false] (m__law_row_right)) :=
  def_ok tx.ph (k := 2) [9, 7, 0] F sc__law_row_right [true, false, false, false] rfl (keep_of rfl) fun cdv A outer s H E hr cx => show QSs _ g _ _ (defBody s__law_row_right) (b__law_row_right) from
    (sdb_cons (sds_if (sdt_w (sdw_or (sdt_cmp cm_is (sd_var 3) sd_non) (sdw_or1 (sdt_cmp cm_is (sd_var 0) sd_non)))) (sdb_one (sds_ret (sd_and (sd_cmp cm_is (sd_var 3) sd_non) (sd_one (sd_cmp cm_is (sd_var 0) sd_non))))) sdb_nil) (sdb_cons (sds_if (sdt_w (sdw_or (sdt_not (sdt_val (sd_callB (bu_isi) (sda_cons (sd_var 0) (sda_cons (sd_ty tx.b_list) sda_nil)) tx.b_isinstance))) (sdw_or1 (sdt_cmp (cm_ne cx.toCxE) (sd_callB (bu_len) (sda_cons (sd_var 0) sda_nil) tx.b_len) (sd_var 3))))) (sdb_one (sds_ret sd_bl)) sdb_nil) (sdb_cons (sds_for cx (sdi_list (sd_var 0)) (sdg_name true 4 cx.nd) (sdb_cons (sds_if (sdt_w (sdw_or (sdt_not (sdt_val (sd_call (rs := [none]) cx.toCxE h__law_number (hr.mono (by decide)) (sdc_val (sd_var 4) sdc_nil)))) (sdw_or1 (sdt_cmp cm_lt (sd_var 4) sd_int)))) (sdb_one (sds_ret sd_bl)) sdb_nil) (sdb_one (sds_set true 2 cx.nd (sd_call (rs := [none, none, none]) cx.toCxE h__law_led_all (hr.mono (by decide)) (sdc_val (sd_var 1) (sdc_val (sd_var 2) (sdc_val (sd_var 4) sdc_nil)))))))) (sdb_cons (sds_expr (sd_clear (sdp_var 0))) (sdb_one (sds_ret (sd_cmp (cm_eq cx.toCxE) (sd_callB (bu_len) (sda_cons (sd_var 2) sda_nil) tx.b_len) sd_int)))))))
abbrev s__law_mixed : Stmt := (top 26)
theorem sc__law_mixed : FnScope ["_law_bag_here", "_law_items", "_law_left", "_law_found", "_law_k"] ["_law_bag_here", "_law_items"] (defScope s__law_mixed) := ⟨rfl, rfl, rfl, by decide +kernel, rfl, by decide +kernel, by decide +kernel⟩
theorem ok__law_mixed {f : Addr} {fd : FuncData} (F : Fun K "_law_mixed" "_law_mixed" s__law_mixed f fd) (tx : Txt K mg g) (h__law_draw : Df P w K mg base g "_law_draw" ["_law_bag_here", "_law_size"] 1 [true, false] m__law_draw) : FnOk P w K mg base (L2.CX P w) 2 f fd ["_law_bag_here", "_law_items"] (spOf g [true, false] (m__law_mixed)) :=
  def_ok tx.ph (k := 1) [7, 8, 9, 0, 2, 3, 3] F sc__law_mixed [true, false] rfl (keep_of rfl) fun cdv A outer s H E hr cx => show QSs _ g _ _ (defBody s__law_mixed) (b__law_mixed) from
    (sdb_cons (sds_set false 2 cx.nd (sd_callTy (bu_list cx.toCxE) (sda_cons (sd_var 1) sda_nil) tx.b_list)) (sdb_cons (sds_set false 3 cx.nd (sd_lst sda_nil)) (sdb_cons (sds_for cx (sdi_rng1 (sda_cons (sd_callB (bu_len) (sda_cons (sd_var 1) sda_nil) tx.b_len) sda_nil) tx.b_range) (sdg_name true 4 cx.nd) (sdb_one (sds_expr (sd_append (sdp_var 3) (sda_cons (sd_popAt (sdp_var 2) (sda_cons (sd_call (rs := [some 0, none]) cx.toCxE h__law_draw (hr.mono (by decide)) (sdc_ref 0 (sdc_val (sd_callB (bu_len) (sda_cons (sd_var 2) sda_nil) tx.b_len) sdc_nil))) sda_nil)) sda_nil))))) (sdb_one (sds_ret (sd_mv 3))))))
abbrev s_Scale_columns : Stmt := (inClass (top 16) 6)
theorem sc_Scale_columns : FnScope ["self"] ["self"] (defScope s_Scale_columns) := ⟨rfl, rfl, rfl, by decide +kernel, rfl, by decide +kernel, by decide +kernel⟩
theorem ok_Scale_columns {f : Addr} {fd : FuncData} (F : Fun K "columns" "Scale.columns" s_Scale_columns f fd) (tx : Txt K mg g)  : FnOk P w K mg base (L2.CX P w) 1 f fd ["self"] (spOf g [false] (m_Scale_columns)) :=
  def_ok tx.ph (k := 0) [] F sc_Scale_columns [false] rfl (keep_of rfl) fun cdv A outer s H E hr cx => show QSs _ g _ _ (defBody s_Scale_columns) (b_Scale_columns) from
    (sdb_one (sds_ret (sd_callB (bu_len) (sda_cons (sd_ix cx.toCxE (sd_fld tx.k_Scale tx.n_Scale_moves (sd_var 0)) sd_int) sda_nil) tx.b_len)))
abbrev s_Scale_check_class : Stmt := (inClass (top 16) 7)
theorem sc_Scale_check_class : FnScope ["self", "at"] ["self", "at"] (defScope s_Scale_check_class) := ⟨rfl, rfl, rfl, by decide +kernel, rfl, by decide +kernel, by decide +kernel⟩
theorem ok_Scale_check_class {f : Addr} {fd : FuncData} (F : Fun K "check_class" "Scale.check_class" s_Scale_check_class f fd) (tx : Txt K mg g) (h_is_integer : Df P w K mg base g "is_integer" ["value", "least"] 1 [false, false] m_is_integer) (h_xNoClass : Dx P w K mg base g 100 "NoClass" "at" (fun _ => true)) : FnOk P w K mg base (L2.CX P w) 3 f fd ["self", "at"] (spOf g [false, false] (m_Scale_check_class)) :=
  def_ok tx.ph (k := 2) [] F sc_Scale_check_class [false, false] rfl (keep_of rfl) fun cdv A outer s H E hr cx => show QSs _ g _ _ (defBody s_Scale_check_class) (b_Scale_check_class) from
    (sdb_one (sds_if (sdt_w (sdw_or (sdt_not (sdt_val (sd_call (rs := [none, none]) cx.toCxE h_is_integer (hr.mono (by decide)) (sdc_val (sd_var 1) (sdc_val sd_int sdc_nil))))) (sdw_or1 (sdt_cmp cm_ge (sd_var 1) (sd_callB (bu_len) (sda_cons (sd_fld tx.k_Scale tx.n_Scale_rates (sd_var 0)) sda_nil) tx.b_len))))) (sdb_one (sds_raise1 cx (f := "at") (Pv := (fun _ => true)) h_xNoClass (hr.mono (by decide)) (sd_var 1))) sdb_nil))
abbrev s_Scale_led : Stmt := (inClass (top 16) 8)
theorem sc_Scale_led : FnScope ["self", "at", "claims"] ["self", "at", "claims"] (defScope s_Scale_led) := ⟨rfl, rfl, rfl, by decide +kernel, rfl, by decide +kernel, by decide +kernel⟩
theorem ok_Scale_led {f : Addr} {fd : FuncData} (F : Fun K "led" "Scale.led" s_Scale_led f fd) (tx : Txt K mg g) (h_Scale_check_class : Dm P w K mg base g 0 "check_class" ["self", "at"] 3 [false, false] m_Scale_check_class) (h_is_integer : Df P w K mg base g "is_integer" ["value", "least"] 1 [false, false] m_is_integer) : FnOk P w K mg base (L2.CX P w) 4 f fd ["self", "at", "claims"] (spOf g [false, false, false] (m_Scale_led)) :=
  def_ok tx.ph (k := 3) [] F sc_Scale_led [false, false, false] rfl (keep_of rfl) fun cdv A outer s H E hr cx => show QSs _ g _ _ (defBody s_Scale_led) (b_Scale_led) from
    (sdb_cons (sds_expr (sd_meth (cn := 0) (rs := [none]) cx.toCxE h_Scale_check_class (hr.mono (by decide)) (sd_var 0) (sdc_val (sd_var 1) sdc_nil))) (sdb_cons (sds_if (sdt_not (sdt_val (sd_call (rs := [none, none]) cx.toCxE h_is_integer (hr.mono (by decide)) (sdc_val (sd_var 2) (sdc_val sd_int sdc_nil))))) (sdb_one sds_never) sdb_nil) (sdb_one (sds_ret (sd_ix cx.toCxE (sd_ix cx.toCxE (sd_fld tx.k_Scale tx.n_Scale_moves (sd_var 0)) (sd_var 1)) (sd_callB (bu_min cx.toCxE) (sda_cons (sd_var 2) (sda_cons (sd_op bm_sub (sd_callB (bu_len) (sda_cons (sd_ix cx.toCxE (sd_fld tx.k_Scale tx.n_Scale_moves (sd_var 0)) (sd_var 1)) sda_nil) tx.b_len) sd_int) sda_nil)) tx.b_min))))))
abbrev s_Scaledd_calldd : Stmt := (inClass (top 16) 3)
theorem sc_Scaledd_calldd : FnScope ["self", "at", "claims"] ["self", "at", "claims"] (defScope s_Scaledd_calldd) := ⟨rfl, rfl, rfl, by decide +kernel, rfl, by decide +kernel, by decide +kernel⟩
theorem ok_Scaledd_calldd {f : Addr} {fd : FuncData} (F : Fun K "__call__" "Scale.__call__" s_Scaledd_calldd f fd) (tx : Txt K mg g) (h_Scale_led : Dm P w K mg base g 0 "led" ["self", "at", "claims"] 4 [false, false, false] m_Scale_led) : FnOk P w K mg base (L2.CX P w) 5 f fd ["self", "at", "claims"] (spOf g [false, false, false] (m_Scaledd_calldd)) :=
  def_ok tx.ph (k := 4) [] F sc_Scaledd_calldd [false, false, false] rfl (keep_of rfl) fun cdv A outer s H E hr cx => show QSs _ g _ _ (defBody s_Scaledd_calldd) (b_Scaledd_calldd) from
    (sdb_one (sds_ret (sd_meth (cn := 0) (rs := [none, none]) cx.toCxE h_Scale_led (hr.mono (by decide)) (sd_var 0) (sdc_val (sd_var 1) (sdc_val (sd_var 2) sdc_nil)))))
abbrev s_led_all : Stmt := (top 18)
theorem sc_led_all : FnScope ["scale", "some", "column", "at"] ["scale", "some", "column"] (defScope s_led_all) := ⟨rfl, rfl, rfl, by decide +kernel, rfl, by decide +kernel, by decide +kernel⟩
theorem ok_led_all {f : Addr} {fd : FuncData} (F : Fun K "led_all" "led_all" s_led_all f fd) (tx : Txt K mg g) (h_Scaledd_calldd : Do P w K mg base g 0 ["self", "at", "claims"] 5 [false, false, false] m_Scaledd_calldd) : FnOk P w K mg base (L2.CX P w) 6 f fd ["scale", "some", "column"] (spOf g [false, false, false] (m_led_all)) :=
  def_ok tx.ph (k := 5) [3] F sc_led_all [false, false, false] rfl (keep_of rfl) fun cdv A outer s H E hr cx => show QSs _ g _ _ (defBody s_led_all) (b_led_all) from
    (sdb_one (sds_ret (sd_fz (sd_callTy (bu_tuple) (sda_cons (sd_sset cx.toCxE (sda_cons (sd_lc [("at", 3)] cx.toCxE (sdi_tup (sd_var 1)) (blkOk_by rfl) (fun _ _ _ _ _ cx1 => (sdg_name true 3 cx1.nd)) (fun _ _ _ _ _ cx1 => sdts_nil) (fun _ _ _ _ _ cx1 => (sd_inst (cn := 0) (rs := [none, none]) cx1 h_Scaledd_calldd (hr.mono (by decide)) (sd_var 0) (sdc_val (sd_var 3) (sdc_val (sd_var 2) sdc_nil))))) sda_nil) tx.b_sorted tx.b_set) sda_nil) tx.b_tuple))))
abbrev s_shortest : Stmt := (top 19)
theorem sc_shortest : FnScope ["scale", "first", "rows", "line", "some", "column", "goal"] ["scale", "first"] (defScope s_shortest) := ⟨rfl, rfl, rfl, by decide +kernel, rfl, by decide +kernel, by decide +kernel⟩
theorem ok_shortest {f : Addr} {fd : FuncData} (F : Fun K "shortest" "shortest" s_shortest f fd) (tx : Txt K mg g) (h_Scale_columns : Dp P w K mg base g 0 "columns" 1 m_Scale_columns) (h_led_all : Df P w K mg base g "led_all" ["scale", "some", "column"] 6 [false, false, false] m_led_all) : FnOk P w K mg base (L2.CX P w) 7 f fd ["scale", "first"] (spOf g [false, false] (m_shortest)) :=
  def_ok tx.ph (k := 6) [9, 10, 3, 11, 2, 12, 13, 2, 3] F sc_shortest [false, false] rfl (keep_of rfl) fun cdv A outer s H E hr cx => show QSs _ g _ _ (defBody s_shortest) (b_shortest) from
    (sdb_cons (sds_set false 2 cx.nd (sd_dispT cx.toCxE (sdd_cons (sd_var 1) (sd_lst sda_nil) sdd_nil))) (sdb_cons (sds_set false 3 cx.nd (sd_lst (sda_cons (sd_var 1) sda_nil))) (sdb_cons (sds_while fuel cx (sdt_val (sd_var 3)) (sdb_cons (sds_set true 4 cx.nd (sd_popAt (sdp_var 3) (sda_cons sd_int sda_nil))) (sdb_cons (sds_if (sdt_cmp (cm_eq cx.toCxE) (sd_callB (bu_len) (sda_cons (sd_var 4) sda_nil) tx.b_len) sd_int) (sdb_one (sds_ret (sd_ix cx.toCxE (sd_mv 2) (sd_var 4)))) sdb_nil) (sdb_one (sds_for cx (sdi_rng1 (sda_cons (sd_prop (cn := 0) h_Scale_columns (hr.mono (by decide)) (sd_var 0)) sda_nil) tx.b_range) (sdg_name true 5 cx.nd) (sdb_cons (sds_set true 6 cx.nd (sd_call (rs := [none, none, none]) cx.toCxE h_led_all (hr.mono (by decide)) (sdc_val (sd_var 0) (sdc_val (sd_var 4) (sdc_val (sd_var 5) sdc_nil))))) (sdb_one (sds_if (sdt_cmp (cm_notIn cx.toCxE) (sd_var 6) (sd_var 2)) (sdb_cons (sds_setAt cx.toCxE (sd_lst (sda_star (sd_ix cx.toCxE (sd_var 2) (sd_var 4)) (sda_cons (sd_var 5) sda_nil))) (sdp_var 2) (sd_var 6)) (sdb_one (sds_expr (sd_append (sdp_var 3) (sda_cons (sd_var 6) sda_nil))))) sdb_nil)))))))) (sdb_one (sds_ret sd_non)))))
abbrev s_Scaledd_lendd : Stmt := (inClass (top 16) 1)
theorem sc_Scaledd_lendd : FnScope ["self"] ["self"] (defScope s_Scaledd_lendd) := ⟨rfl, rfl, rfl, by decide +kernel, rfl, by decide +kernel, by decide +kernel⟩
theorem ok_Scaledd_lendd {f : Addr} {fd : FuncData} (F : Fun K "__len__" "Scale.__len__" s_Scaledd_lendd f fd) (tx : Txt K mg g)  : FnOk P w K mg base (L2.CX P w) 1 f fd ["self"] (spOf g [false] (m_Scaledd_lendd)) :=
  def_ok tx.ph (k := 0) [] F sc_Scaledd_lendd [false] rfl (keep_of rfl) fun cdv A outer s H E hr cx => show QSs _ g _ _ (defBody s_Scaledd_lendd) (b_Scaledd_lendd) from
    (sdb_one (sds_ret (sd_callB (bu_len) (sda_cons (sd_fld tx.k_Scale tx.n_Scale_rates (sd_var 0)) sda_nil) tx.b_len)))
abbrev s_uniting_row : Stmt := (top 20)
theorem sc_uniting_row : FnScope ["scale"] ["scale"] (defScope s_uniting_row) := ⟨rfl, rfl, rfl, by decide +kernel, rfl, by decide +kernel, by decide +kernel⟩
theorem ok_uniting_row {f : Addr} {fd : FuncData} (F : Fun K "uniting_row" "uniting_row" s_uniting_row f fd) (tx : Txt K mg g) (h_shortest : Df P w K mg base g "shortest" ["scale", "first"] 7 [false, false] m_shortest) (h_Scaledd_lendd : Dl P w K mg base g 0 1 m_Scaledd_lendd) : FnOk P w K mg base (L2.CX P w) 8 f fd ["scale"] (spOf g [false] (m_uniting_row)) :=
  def_ok tx.ph (k := 7) [] F sc_uniting_row [false] rfl (keep_of rfl) fun cdv A outer s H E hr cx => show QSs _ g _ _ (defBody s_uniting_row) (b_uniting_row) from
    (sdb_one (sds_ret (sd_call (rs := [none, none]) cx.toCxE h_shortest (hr.mono (by decide)) (sdc_val (sd_var 0) (sdc_val (sd_fz (sd_tupRg1 cx.toCxE (sd_lenO (cn := 0) h_Scaledd_lendd (hr.mono (by decide)) (sd_var 0) tx.b_len) tx.b_tuple tx.b_range)) sdc_nil)))))
abbrev s_meeting_row : Stmt := (top 21)
theorem sc_meeting_row : FnScope ["scale", "at", "by"] ["scale", "at", "by"] (defScope s_meeting_row) := ⟨rfl, rfl, rfl, by decide +kernel, rfl, by decide +kernel, by decide +kernel⟩
theorem ok_meeting_row {f : Addr} {fd : FuncData} (F : Fun K "meeting_row" "meeting_row" s_meeting_row f fd) (tx : Txt K mg g) (h_Scale_check_class : Dm P w K mg base g 0 "check_class" ["self", "at"] 3 [false, false] m_Scale_check_class) (h_shortest : Df P w K mg base g "shortest" ["scale", "first"] 7 [false, false] m_shortest) : FnOk P w K mg base (L2.CX P w) 8 f fd ["scale", "at", "by"] (spOf g [false, false, false] (m_meeting_row)) :=
  def_ok tx.ph (k := 7) [] F sc_meeting_row [false, false, false] rfl (keep_of rfl) fun cdv A outer s H E hr cx => show QSs _ g _ _ (defBody s_meeting_row) (b_meeting_row) from
    (sdb_cons (sds_expr (sd_meth (cn := 0) (rs := [none]) cx.toCxE h_Scale_check_class (hr.mono (by decide)) (sd_var 0) (sdc_val (sd_var 1) sdc_nil))) (sdb_cons (sds_expr (sd_meth (cn := 0) (rs := [none]) cx.toCxE h_Scale_check_class (hr.mono (by decide)) (sd_var 0) (sdc_val (sd_var 2) sdc_nil))) (sdb_one (sds_ret (sd_call (rs := [none, none]) cx.toCxE h_shortest (hr.mono (by decide)) (sdc_val (sd_var 0) (sdc_val (sd_fz (sd_callTy (bu_tuple) (sda_cons (sd_sset cx.toCxE (sda_cons (sd_lst (sda_cons (sd_var 1) (sda_cons (sd_var 2) sda_nil))) sda_nil) tx.b_sorted tx.b_set) sda_nil) tx.b_tuple)) sdc_nil)))))))
abbrev s__law_scale_right : Stmt := (top 35)
theorem sc__law_scale_right : FnScope ["_law_bag_here", "_law_scale_here", "_law_plain", "_law_count", "_law_due", "_law_couples", "_law_at", "_law_by", "_law_first", "_law_met", "_law_some", "_law_length"] ["_law_bag_here", "_law_scale_here", "_law_plain"] (defScope s__law_scale_right) := ⟨rfl, rfl, rfl, by decide +kernel, rfl, by decide +kernel, by decide +kernel⟩
theorem ok__law_scale_right {f : Addr} {fd : FuncData} (F : Fun K "_law_scale_right" "_law_scale_right" s__law_scale_right f fd) (tx : Txt K mg g) (h__law_shortest : Df P w K mg base g "_law_shortest" ["_law_plain", "_law_some"] 3 [false, false] m__law_shortest) (h__law_draw : Df P w K mg base g "_law_draw" ["_law_bag_here", "_law_size"] 1 [true, false] m__law_draw) (h__law_row_right : Df P w K mg base g "_law_row_right" ["_law_told", "_law_plain", "_law_some", "_law_due"] 3 [true, false, false, false] m__law_row_right) (h__law_mixed : Df P w K mg base g "_law_mixed" ["_law_bag_here", "_law_items"] 2 [true, false] m__law_mixed) (h_uniting_row : Df P w K mg base g "uniting_row" ["scale"] 8 [false] m_uniting_row) (h_meeting_row : Df P w K mg base g "meeting_row" ["scale", "at", "by"] 8 [false, false, false] m_meeting_row) : FnOk P w K mg base (L2.CX P w) 9 f fd ["_law_bag_here", "_law_scale_here", "_law_plain"] (spOf g [true, false, false] (m__law_scale_right)) :=
  def_ok tx.ph (k := 8) [15, 16, 17, 18, 7, 17, 0, 20, 21, 0, 18, 19, 22, 23, 21] F sc__law_scale_right [true, false, false] rfl (keep_of rfl) fun cdv A outer s H E hr cx => show QSs _ g _ _ (defBody s__law_scale_right) (b__law_scale_right) from
    (sdb_cons (sds_set true 3 cx.nd (sd_callB (bu_len) (sda_cons (sd_ix cx.toCxE (sd_var 2) sd_int) sda_nil) tx.b_len)) (sdb_cons (sds_set true 4 cx.nd (sd_call (rs := [none, none]) cx.toCxE h__law_shortest (hr.mono (by decide)) (sdc_val (sd_var 2) (sdc_val (sd_lstRg1 cx.toCxE (sd_var 3) tx.b_list tx.b_range) sdc_nil)))) (sdb_cons (sds_set true 5 cx.nd (sd_lst sda_nil)) (sdb_cons (sds_for cx (sdi_rng1 (sda_cons (sd_var 3) sda_nil) tx.b_range) (sdg_name true 6 cx.nd) (sdb_one (sds_set true 5 cx.nd (sd_op bm_add (sd_var 5) (sd_lc [("_law_by", 7)] cx.toCxE (sdi_rng2 (sda_cons (sd_var 6) (sda_cons (sd_var 3) sda_nil)) tx.b_range) (blkOk_by rfl) (fun _ _ _ _ _ cx1 => (sdg_name true 7 cx1.nd)) (fun _ _ _ _ _ cx1 => sdts_nil) (fun _ _ _ _ _ cx1 => (sd_tup (sda_cons (sd_var 6) (sda_cons (sd_var 7) sda_nil))))))))) (sdb_cons (sds_set true 8 cx.nd (sd_call (rs := [some 0, none]) cx.toCxE h__law_draw (hr.mono (by decide)) (sdc_ref 0 (sdc_val sd_int sdc_nil)))) (sdb_cons (sds_if (sdt_w (sdw_and (sdt_cmp (cm_eq cx.toCxE) (sd_var 8) sd_int) (sdw_and1 (sdt_not (sdt_val (sd_callT (rs := [some none, none, none, none]) cx.toCxE h__law_row_right (hr.mono (by decide)) (sdc_val (sd_call (rs := [none]) cx.toCxE h_uniting_row (hr.mono (by decide)) (sdc_val (sd_var 1) sdc_nil)) (sdc_val (sd_var 2) (sdc_val (sd_lstRg1 cx.toCxE (sd_var 3) tx.b_list tx.b_range) (sdc_val (sd_var 4) sdc_nil)))))))))) (sdb_one (sds_ret sd_bl)) sdb_nil) (sdb_cons (sds_set true 9 cx.nd sd_bl) (sdb_cons (sds_for cx (sdi_list (sd_slH (sd_call (rs := [some 0, none]) cx.toCxE h__law_mixed (hr.mono (by decide)) (sdc_ref 0 (sdc_val (sd_var 5) sdc_nil))) sd_int)) (sdg_tup cx.calm (sdgs_cons (sdg_name true 6 cx.nd) (sdgs_cons (sdg_name true 7 cx.nd) sdgs_nil))) (sdb_cons (sds_set true 10 cx.nd (sd_sset cx.toCxE (sda_cons (sd_lst (sda_cons (sd_var 6) (sda_cons (sd_var 7) sda_nil))) sda_nil) tx.b_sorted tx.b_set)) (sdb_cons (sds_set true 11 cx.nd (sd_call (rs := [none, none]) cx.toCxE h__law_shortest (hr.mono (by decide)) (sdc_val (sd_var 2) (sdc_val (sd_var 10) sdc_nil)))) (sdb_cons (sds_set true 9 cx.nd (sd_and (sd_var 9) (sd_one (sd_cmp cm_isNot (sd_var 11) sd_non)))) (sdb_cons (sds_if (sdt_not (sdt_val (sd_callT (rs := [some none, none, none, none]) cx.toCxE h__law_row_right (hr.mono (by decide)) (sdc_val (sd_call (rs := [none, none, none]) cx.toCxE h_meeting_row (hr.mono (by decide)) (sdc_val (sd_var 1) (sdc_val (sd_var 6) (sdc_val (sd_var 7) sdc_nil)))) (sdc_val (sd_var 2) (sdc_val (sd_var 10) (sdc_val (sd_var 11) sdc_nil))))))) (sdb_one (sds_ret sd_bl)) sdb_nil) (sdb_one (sds_if (sdt_not (sdt_val (sd_callT (rs := [some none, none, none, none]) cx.toCxE h__law_row_right (hr.mono (by decide)) (sdc_val (sd_call (rs := [none, none, none]) cx.toCxE h_meeting_row (hr.mono (by decide)) (sdc_val (sd_var 1) (sdc_val (sd_var 7) (sdc_val (sd_var 6) sdc_nil)))) (sdc_val (sd_var 2) (sdc_val (sd_var 10) (sdc_val (sd_var 11) sdc_nil))))))) (sdb_one (sds_ret sd_bl)) sdb_nil))))))) (sdb_cons (sds_if (sdt_w (sdw_and (sdt_cmp cm_isNot (sd_var 4) sd_non) (sdw_and1 (sdt_not (sdt_val (sd_var 9)))))) (sdb_one (sds_ret sd_bl)) sdb_nil) (sdb_one (sds_ret (sd_callT (rs := [some none, none, none, none]) cx.toCxE h__law_row_right (hr.mono (by decide)) (sdc_val (sd_call (rs := [none]) cx.toCxE h_uniting_row (hr.mono (by decide)) (sdc_val (sd_var 1) sdc_nil)) (sdc_val (sd_var 2) (sdc_val (sd_lstRg1 cx.toCxE (sd_var 3) tx.b_list tx.b_range) (sdc_val (sd_var 4) sdc_nil))))))))))))))))
abbrev s_Scale_premiums : Stmt := (inClass (top 16) 10)
theorem sc_Scale_premiums : FnScope ["self"] ["self"] (defScope s_Scale_premiums) := ⟨rfl, rfl, rfl, by decide +kernel, rfl, by decide +kernel, by decide +kernel⟩
theorem ok_Scale_premiums {f : Addr} {fd : FuncData} (F : Fun K "premiums" "Scale.premiums" s_Scale_premiums f fd) (tx : Txt K mg g)  : FnOk P w K mg base (L2.CX P w) 1 f fd ["self"] (spOf g [false] (m_Scale_premiums)) :=
  def_ok tx.ph (k := 0) [] F sc_Scale_premiums [false] rfl (keep_of rfl) fun cdv A outer s H E hr cx => show QSs _ g _ _ (defBody s_Scale_premiums) (b_Scale_premiums) from
    (sdb_one (sds_ret (sd_callTy (bu_list cx.toCxE) (sda_cons (sd_fld tx.k_Scale tx.n_Scale_rates (sd_var 0)) sda_nil) tx.b_list)))
abbrev s_Scale_table : Stmt := (inClass (top 16) 11)
theorem sc_Scale_table : FnScope ["self", "moves"] ["self"] (defScope s_Scale_table) := ⟨rfl, rfl, rfl, by decide +kernel, rfl, by decide +kernel, by decide +kernel⟩
theorem ok_Scale_table {f : Addr} {fd : FuncData} (F : Fun K "table" "Scale.table" s_Scale_table f fd) (tx : Txt K mg g)  : FnOk P w K mg base (L2.CX P w) 1 f fd ["self"] (spOf g [false] (m_Scale_table)) :=
  def_ok tx.ph (k := 0) [1] F sc_Scale_table [false] rfl (keep_of rfl) fun cdv A outer s H E hr cx => show QSs _ g _ _ (defBody s_Scale_table) (b_Scale_table) from
    (sdb_one (sds_ret (sd_lc [("moves", 1)] cx.toCxE (sdi_list (sd_fld tx.k_Scale tx.n_Scale_moves (sd_var 0))) (blkOk_by rfl) (fun _ _ _ _ _ cx1 => (sdg_name true 1 cx1.nd)) (fun _ _ _ _ _ cx1 => sdts_nil) (fun _ _ _ _ _ cx1 => (sd_callTy (bu_list cx1) (sda_cons (sd_var 1) sda_nil) tx.b_list)))))
abbrev s__law_like : Stmt := (top 30)
theorem sc__law_like : FnScope ["_law_scale_here", "_law_plain"] ["_law_scale_here", "_law_plain"] (defScope s__law_like) := ⟨rfl, rfl, rfl, by decide +kernel, rfl, by decide +kernel, by decide +kernel⟩
theorem ok__law_like {f : Addr} {fd : FuncData} (F : Fun K "_law_like" "_law_like" s__law_like f fd) (tx : Txt K mg g) (h_Scale_premiums : Dm P w K mg base g 0 "premiums" ["self"] 1 [false] m_Scale_premiums) (h_Scale_table : Dm P w K mg base g 0 "table" ["self"] 1 [false] m_Scale_table) : FnOk P w K mg base (L2.CX P w) 2 f fd ["_law_scale_here", "_law_plain"] (spOf g [false, false] (m__law_like)) :=
  def_ok tx.ph (k := 1) [] F sc__law_like [false, false] rfl (keep_of rfl) fun cdv A outer s H E hr cx => show QSs _ g _ _ (defBody s__law_like) (b__law_like) from
    (sdb_one (sds_ret (sd_and (sd_cmp (cm_eq cx.toCxE) (sd_meth0 (cn := 0) cx.toCxE h_Scale_premiums (hr.mono (by decide)) (sd_var 0)) (sd_ix cx.toCxE (sd_var 1) sd_int)) (sd_one (sd_cmp (cm_eq cx.toCxE) (sd_meth0 (cn := 0) cx.toCxE h_Scale_table (hr.mono (by decide)) (sd_var 0)) (sd_ix cx.toCxE (sd_var 1) sd_int))))))
abbrev s__law_refusal : Stmt := (top 34)
theorem sc__law_refusal : FnScope ["_law_scale_here", "_law_at", "_law_by", "_law_told", "e"] ["_law_scale_here", "_law_at", "_law_by"] (defScope s__law_refusal) := ⟨rfl, rfl, rfl, by decide +kernel, rfl, by decide +kernel, by decide +kernel⟩
theorem ok__law_refusal {f : Addr} {fd : FuncData} (F : Fun K "_law_refusal" "_law_refusal" s__law_refusal f fd) (tx : Txt K mg g) (h_meeting_row : Df P w K mg base g "meeting_row" ["scale", "at", "by"] 8 [false, false, false] m_meeting_row) : FnOk P w K mg base (L2.CX P w) 9 f fd ["_law_scale_here", "_law_at", "_law_by"] (spOf g [false, false, false] (m__law_refusal)) :=
  def_ok tx.ph (k := 8) [8, 8, 9] F sc__law_refusal [false, false, false] rfl (keep_of rfl) fun cdv A outer s H E hr cx => show QSs _ g _ _ (defBody s__law_refusal) (b__law_refusal) from
    (sdb_cons (sds_set true 3 cx.nd sd_non) (sdb_cons (sds_try1 (Mb := [8]) (Mh := []) (fh := fun fs a => cRet (cMany (cCons [] (cExF a (fs.lookup ("at" : Str)) (cVar 4)) (cCons [] (cAndV (cIsX a (cVar 4)) (cTwo [] (cVar 3) (cLit .non) (dIsN false))) (cNil))) dTup)) (mt := mt_NoClass) (mt_one_NoClass) cx 4 rfl ⟨rfl, by decide, .inl tx.g_NoClass⟩ (tx.mt_NoClass) (fun W' pn xe cx => (sdb_one (sds_set true 3 cx.nd (sd_call (rs := [none, none, none]) cx.toCxE h_meeting_row (hr.mono (by decide)) (sdc_val (sd_var 0) (sdc_val (sd_var 1) (sdc_val (sd_var 2) sdc_nil))))))) (fun a oe d pn fs hz hv hd => (sdb_one (sds_ret (sd_tup (sda_cons (sd_xf (tx.xf_NoClass) tx.xn_NoClass_at hz hv hd (sd_var 4)) (sda_cons (sd_and (sd_isX tx.xc_NoClass hz hv tx.b_isinstance tx.base.gl tx.xk_NoClass (sd_var 4)) (sd_one (sd_cmp cm_is (sd_var 3) sd_non))) sda_nil))))))) (sdb_one (sds_ret sd_non))))
abbrev s_law : Stmt := (top 36)
theorem sc_law : FnScope ["_law_script", "_law_bag_here", "_law_plain", "_law_scale_here", "_law_count", "_law_columns", "_law_short", "_law_moves", "_law_wrong"] ["_law_script"] (defScope s_law) := ⟨rfl, rfl, rfl, by decide +kernel, rfl, by decide +kernel, by decide +kernel⟩
theorem ok_law {f : Addr} {fd : FuncData} (F : Fun K "law" "law" s_law f fd) (tx : Txt K mg g) {scA : Option Addr} {scN : List Int} (h__law_bag : Df P w K mg base g "_law_bag" ["_law_script"] 1 [false] (m__law_bag scA scN)) (h__law_scale : Df P w K mg base g "_law_scale" ["_law_bag_here", "_law_most", "_law_most_wide"] 2 [true, false, false] m__law_scale) (h__law_made : Df P w K mg base g "_law_made" ["_law_plain"] 6 [false] m__law_made) (h_Scale_limited : Dm P w K mg base g 0 "limited" ["self", "columns"] 6 [false, false] m_Scale_limited) (h__law_draw : Df P w K mg base g "_law_draw" ["_law_bag_here", "_law_size"] 1 [true, false] m__law_draw) (h__law_scale_right : Df P w K mg base g "_law_scale_right" ["_law_bag_here", "_law_scale_here", "_law_plain"] 9 [true, false, false] m__law_scale_right) (h__law_like : Df P w K mg base g "_law_like" ["_law_scale_here", "_law_plain"] 2 [false, false] m__law_like) (h__law_refusal : Df P w K mg base g "_law_refusal" ["_law_scale_here", "_law_at", "_law_by"] 9 [false, false, false] m__law_refusal) : FnOk P w K mg base (L2.CX P w) 10 f fd ["_law_script"] (spOf g [false] (m_law scA scN)) :=
  def_ok tx.ph (k := 9) [10, 1, 1, 11, 12, 13, 1, 14, 15, 1, 1, 7, 1, 17] F sc_law [false] rfl (keep_of rfl) fun cdv A outer s H E hr cx => show QSs _ g _ _ (defBody s_law) (b_law scA scN) from
    (sdb_cons (sds_set false 1 cx.nd (sd_call (rs := [none]) cx.toCxE h__law_bag (hr.mono (by decide)) (sdc_val (sd_var 0) sdc_nil))) (sdb_cons (sds_set true 2 cx.nd (sd_call (rs := [some 1, none, none]) cx.toCxE h__law_scale (hr.mono (by decide)) (sdc_refL 1 (sdc_val (sd_ix cx.toCxE (sd_lst (sda_cons sd_int (sda_cons sd_int (sda_cons sd_int (sda_cons sd_int sda_nil))))) (sd_call (rs := [some 1, none]) cx.toCxE h__law_draw (hr.mono (by decide)) (sdc_ref 1 (sdc_val sd_int sdc_nil)))) (sdc_val sd_int sdc_nil))))) (sdb_cons (sds_set true 3 cx.nd (sd_call (rs := [none]) cx.toCxE h__law_made (hr.mono (by decide)) (sdc_val (sd_var 2) sdc_nil))) (sdb_cons (sds_set true 4 cx.nd (sd_callB (bu_len) (sda_cons (sd_ix cx.toCxE (sd_var 2) sd_int) sda_nil) tx.b_len)) (sdb_cons (sds_set true 5 cx.nd (sd_op bm_add sd_int (sd_call (rs := [some 1, none]) cx.toCxE h__law_draw (hr.mono (by decide)) (sdc_ref 1 (sdc_val (sd_callB (bu_len) (sda_cons (sd_ix cx.toCxE (sd_ix cx.toCxE (sd_var 2) sd_int) sd_int) sda_nil) tx.b_len) sdc_nil))))) (sdb_cons (sds_set true 6 cx.nd (sd_meth (cn := 0) (rs := [none]) cx.toCxE h_Scale_limited (hr.mono (by decide)) (sd_var 3) (sdc_val (sd_var 5) sdc_nil))) (sdb_cons (sds_if (sdt_not (sdt_val (sd_call (rs := [some 1, none, none]) cx.toCxE h__law_scale_right (hr.mono (by decide)) (sdc_ref 1 (sdc_val (sd_var 3) (sdc_val (sd_var 2) sdc_nil)))))) (sdb_one (sds_ret sd_bl)) sdb_nil) (sdb_cons (sds_if (sdt_not (sdt_val (sd_call (rs := [some 1, none, none]) cx.toCxE h__law_scale_right (hr.mono (by decide)) (sdc_ref 1 (sdc_val (sd_var 6) (sdc_val (sd_tup (sda_cons (sd_ix cx.toCxE (sd_var 2) sd_int) (sda_cons (sd_lc [("_law_moves", 7)] cx.toCxE (sdi_list (sd_ix cx.toCxE (sd_var 2) sd_int)) (blkOk_by rfl) (fun _ _ _ _ _ cx1 => (sdg_name true 7 cx1.nd)) (fun _ _ _ _ _ cx1 => sdts_nil) (fun _ _ _ _ _ cx1 => (sd_slH (sd_var 7) (sd_var 5)))) sda_nil))) sdc_nil)))))) (sdb_one (sds_ret sd_bl)) sdb_nil) (sdb_cons (sds_if (sdt_w (sdw_and (sdt_cmp cm_lt (sd_var 4) sd_int) (sdw_and1 (sdt_not (sdt_val (sd_call (rs := [some 1, none, none]) cx.toCxE h__law_scale_right (hr.mono (by decide)) (sdc_ref 1 (sdc_val (sd_var 3) (sdc_val (sd_var 2) sdc_nil))))))))) (sdb_one (sds_ret sd_bl)) sdb_nil) (sdb_cons (sds_for cx (sdi_list (sd_lst (sda_cons (sd_var 4) (sda_cons (sd_neg sd_int) (sda_cons (sd_op bm_pow sd_int sd_int) (sda_cons sd_non (sda_cons sd_bl (sda_cons sd_str sda_nil)))))))) (sdg_name true 8 cx.nd) (sdb_cons (sds_if (sdt_w (sdw_or (sdt_cmp (cm_ne cx.toCxE) (sd_call (rs := [none, none, none]) cx.toCxE h__law_refusal (hr.mono (by decide)) (sdc_val (sd_var 3) (sdc_val (sd_var 8) (sdc_val (sd_neg sd_int) sdc_nil)))) (sd_tup (sda_cons (sd_var 8) (sda_cons sd_bl sda_nil)))) (sdw_or1 (sdt_cmp (cm_ne cx.toCxE) (sd_call (rs := [none, none, none]) cx.toCxE h__law_refusal (hr.mono (by decide)) (sdc_val (sd_var 3) (sdc_val sd_int (sdc_val (sd_var 8) sdc_nil)))) (sd_tup (sda_cons (sd_var 8) (sda_cons sd_bl sda_nil))))))) (sdb_one (sds_ret sd_bl)) sdb_nil) (sdb_one (sds_if (sdt_cmp (cm_ne cx.toCxE) (sd_call (rs := [none, none, none]) cx.toCxE h__law_refusal (hr.mono (by decide)) (sdc_val (sd_var 3) (sdc_val (sd_var 8) (sdc_val (sd_var 8) sdc_nil)))) (sd_tup (sda_cons (sd_var 8) (sda_cons sd_bl sda_nil)))) (sdb_one (sds_ret sd_bl)) sdb_nil)))) (sdb_one (sds_ret (sd_and (sd_cmp cm_is (sd_call (rs := [none, none, none]) cx.toCxE h__law_refusal (hr.mono (by decide)) (sdc_val (sd_var 3) (sdc_val (sd_op bm_sub (sd_var 4) sd_int) (sdc_val sd_int sdc_nil)))) sd_non) (sd_one (sd_call (rs := [none, none]) cx.toCxE h__law_like (hr.mono (by decide)) (sdc_val (sd_var 3) (sdc_val (sd_var 2) sdc_nil)))))))))))))))))
end
end Law
end
section
namespace Law
open PySem L2 Lin
set_option maxHeartbeats 0 in
theorem all_mk {l : PySem.W.OpenLaw} {w : World} {K : PySem.W.Frag} {h : Heap} {mg : Str → Option Value} {fa C0 f0 f1 f2 f3 f4 f5 f6 f7 f8 f9 f10 f11 f12 f13 f14 f15 f16 f17 f18 f19 f20 f21 f22 f23 f24 f25 f26 f27 f28 f29 f30 f31 f100 : Addr} (X : K.In h) (G : h.Ns mainGlobals mg) (hfa : mg "law" = some (.ref fa)) {od0 an0 od1 an1 od2 an2 od3 an3 od4 an4 od5 an5 od6 an6 od7 an7 od8 an8 od9 an9 od10 an10 od11 an11 od12 an12 od13 an13 od14 an14 od15 an15 od16 an16 od17 an17 od18 an18 od19 an19 od20 an20 od21 an21 od22 an22 od23 an23 od24 an24 od25 an25 od26 an26 od27 an27 od28 an28 od29 an29 od30 an30 od31 an31 od100 an100 : Option Addr} {sl0 sl1 sl2 sl3 sl4 sl5 sl6 sl7 sl8 sl9 sl10 sl11 sl12 sl13 sl14 sl15 sl16 sl17 sl18 sl19 sl20 sl21 sl22 sl23 sl24 sl25 sl26 sl27 sl28 sl29 sl30 sl31 sl100 : Array (Option Value)} {oc0 kV0 dc0 pm0 cd0 ct0 oc1 kV1 dc1 pm1 cd1 ct1 oc2 kV2 dc2 pm2 cd2 ct2 oc3 kV3 dc3 pm3 cd3 ct3 oc4 kV4 dc4 pm4 cd4 ct4 oc5 kV5 dc5 pm5 cd5 ct5 oc6 kV6 dc6 pm6 cd6 ct6 oc7 kV7 dc7 pm7 cd7 ct7 oc8 kV8 dc8 pm8 cd8 ct8 oc9 kV9 dc9 pm9 cd9 ct9 oc10 kV10 dc10 pm10 cd10 ct10 oc11 kV11 dc11 pm11 cd11 ct11 oc12 kV12 dc12 pm12 cd12 ct12 oc13 kV13 dc13 pm13 cd13 ct13 oc14 kV14 dc14 pm14 cd14 ct14 oc15 kV15 dc15 pm15 cd15 ct15 oc16 kV16 dc16 pm16 cd16 ct16 oc17 kV17 dc17 pm17 cd17 ct17 oc18 kV18 dc18 pm18 cd18 ct18 oc19 kV19 dc19 pm19 cd19 ct19 oc20 kV20 dc20 pm20 cd20 ct20 oc21 kV21 dc21 pm21 cd21 ct21 oc22 kV22 dc22 pm22 cd22 ct22 oc23 kV23 dc23 pm23 cd23 ct23 oc24 kV24 dc24 pm24 cd24 ct24 oc25 kV25 dc25 pm25 cd25 ct25 oc26 kV26 dc26 pm26 cd26 ct26 oc27 kV27 dc27 pm27 cd27 ct27 oc28 kV28 dc28 pm28 cd28 ct28 oc29 kV29 dc29 pm29 cd29 ct29 oc30 kV30 dc30 pm30 cd30 ct30 oc31 kV31 dc31 pm31 cd31 ct31 oc100 kV100 dc100 pm100 cd100 ct100 : Value} {tk_GREATEST_PREMIUM tk_MOST_CLASSES tk_MOST_COLUMNS : Tok} {CB : Addr} {C100 : Addr} {nm100 qn100 : Str} {nn100 : Addr} {bs100 bm100 : List Value} {sn100 : List Str} {sub100 : _} {ab100 : _} {col100 : _} {xd100 : _} {ka100 kb100 kc100 kd100 ke100 : _} {pp17 : Addr} {rs17 : List Value}
    (aC0 : PySem.W.nsIn K mainGlobals "Scale" = some (some (.ref C0)))
    (a0 : PySem.W.nsIn K mainGlobals "_law_bag" = some (some (.ref f0)))
    (l0 : K.lookup f0 = some ⟨oc0, od0, .func (PySem.W.fnOf "_law_bag" "_law_bag" (defArgs s__law_bag) (defBody s__law_bag) (defScope s__law_bag) .none kV0 dc0 pm0 an0 cd0 ct0), sl0⟩)
    (c0 : PySem.W.codeIn K cd0 "_law_bag" = true)
    (k0 : PySem.W.keepIn K (.ref f0) = true)
    (a1 : PySem.W.nsIn K mainGlobals "_law_draw" = some (some (.ref f1)))
    (l1 : K.lookup f1 = some ⟨oc1, od1, .func (PySem.W.fnOf "_law_draw" "_law_draw" (defArgs s__law_draw) (defBody s__law_draw) (defScope s__law_draw) .none kV1 dc1 pm1 an1 cd1 ct1), sl1⟩)
    (c1 : PySem.W.codeIn K cd1 "_law_draw" = true)
    (k1 : PySem.W.keepIn K (.ref f1) = true)
    (a2 : PySem.W.nsIn K mainGlobals "_law_scale" = some (some (.ref f2)))
    (l2 : K.lookup f2 = some ⟨oc2, od2, .func (PySem.W.fnOf "_law_scale" "_law_scale" (defArgs s__law_scale) (defBody s__law_scale) (defScope s__law_scale) .none kV2 dc2 pm2 an2 cd2 ct2), sl2⟩)
    (c2 : PySem.W.codeIn K cd2 "_law_scale" = true)
    (k2 : PySem.W.keepIn K (.ref f2) = true)
    (a3 : PySem.W.nsIn K mainGlobals "is_integer" = some (some (.ref f3)))
    (l3 : K.lookup f3 = some ⟨oc3, od3, .func (PySem.W.fnOf "is_integer" "is_integer" (defArgs s_is_integer) (defBody s_is_integer) (defScope s_is_integer) .none kV3 dc3 pm3 an3 cd3 ct3), sl3⟩)
    (c3 : PySem.W.codeIn K cd3 "is_integer" = true)
    (k3 : PySem.W.keepIn K (.ref f3) = true)
    (a4 : PySem.W.nsIn K mainGlobals "is_premium" = some (some (.ref f4)))
    (l4 : K.lookup f4 = some ⟨oc4, od4, .func (PySem.W.fnOf "is_premium" "is_premium" (defArgs s_is_premium) (defBody s_is_premium) (defScope s_is_premium) .none kV4 dc4 pm4 an4 cd4 ct4), sl4⟩)
    (c4 : PySem.W.codeIn K cd4 "is_premium" = true)
    (k4 : PySem.W.keepIn K (.ref f4) = true)
    (a5 : PySem.W.nsIn K mainGlobals "are_premiums" = some (some (.ref f5)))
    (l5 : K.lookup f5 = some ⟨oc5, od5, .func (PySem.W.fnOf "are_premiums" "are_premiums" (defArgs s_are_premiums) (defBody s_are_premiums) (defScope s_are_premiums) .none kV5 dc5 pm5 an5 cd5 ct5), sl5⟩)
    (c5 : PySem.W.codeIn K cd5 "are_premiums" = true)
    (k5 : PySem.W.keepIn K (.ref f5) = true)
    (a6 : PySem.W.nsIn K mainGlobals "are_moves" = some (some (.ref f6)))
    (l6 : K.lookup f6 = some ⟨oc6, od6, .func (PySem.W.fnOf "are_moves" "are_moves" (defArgs s_are_moves) (defBody s_are_moves) (defScope s_are_moves) .none kV6 dc6 pm6 an6 cd6 ct6), sl6⟩)
    (c6 : PySem.W.codeIn K cd6 "are_moves" = true)
    (k6 : PySem.W.keepIn K (.ref f6) = true)
    (a7 : PySem.W.nsIn K mainGlobals "is_table" = some (some (.ref f7)))
    (l7 : K.lookup f7 = some ⟨oc7, od7, .func (PySem.W.fnOf "is_table" "is_table" (defArgs s_is_table) (defBody s_is_table) (defScope s_is_table) .none kV7 dc7 pm7 an7 cd7 ct7), sl7⟩)
    (c7 : PySem.W.codeIn K cd7 "is_table" = true)
    (k7 : PySem.W.keepIn K (.ref f7) = true)
    (a8 : PySem.W.findIn K (.ref C0) "__init__" = some (some (.ref f8)))
    (i8 : PySem.W.isFn K (.ref f8) = true)
    (l8 : K.lookup f8 = some ⟨oc8, od8, .func (PySem.W.fnOf "__init__" "Scale.__init__" (defArgs s_Scaledd_initdd) (defBody s_Scaledd_initdd) (defScope s_Scaledd_initdd) .none kV8 dc8 pm8 an8 cd8 ct8), sl8⟩)
    (c8 : PySem.W.codeIn K cd8 "Scale.__init__" = true)
    (k8 : PySem.W.keepIn K (.ref f8) = true)
    (a9 : PySem.W.nsIn K mainGlobals "_law_made" = some (some (.ref f9)))
    (l9 : K.lookup f9 = some ⟨oc9, od9, .func (PySem.W.fnOf "_law_made" "_law_made" (defArgs s__law_made) (defBody s__law_made) (defScope s__law_made) .none kV9 dc9 pm9 an9 cd9 ct9), sl9⟩)
    (c9 : PySem.W.codeIn K cd9 "_law_made" = true)
    (k9 : PySem.W.keepIn K (.ref f9) = true)
    (a10 : PySem.W.findIn K (.ref C0) "limited" = some (some (.ref f10)))
    (i10 : PySem.W.isFn K (.ref f10) = true)
    (l10 : K.lookup f10 = some ⟨oc10, od10, .func (PySem.W.fnOf "limited" "Scale.limited" (defArgs s_Scale_limited) (defBody s_Scale_limited) (defScope s_Scale_limited) .none kV10 dc10 pm10 an10 cd10 ct10), sl10⟩)
    (c10 : PySem.W.codeIn K cd10 "Scale.limited" = true)
    (k10 : PySem.W.keepIn K (.ref f10) = true)
    (a11 : PySem.W.nsIn K mainGlobals "_law_led" = some (some (.ref f11)))
    (l11 : K.lookup f11 = some ⟨oc11, od11, .func (PySem.W.fnOf "_law_led" "_law_led" (defArgs s__law_led) (defBody s__law_led) (defScope s__law_led) .none kV11 dc11 pm11 an11 cd11 ct11), sl11⟩)
    (c11 : PySem.W.codeIn K cd11 "_law_led" = true)
    (k11 : PySem.W.keepIn K (.ref f11) = true)
    (a12 : PySem.W.nsIn K mainGlobals "_law_led_all" = some (some (.ref f12)))
    (l12 : K.lookup f12 = some ⟨oc12, od12, .func (PySem.W.fnOf "_law_led_all" "_law_led_all" (defArgs s__law_led_all) (defBody s__law_led_all) (defScope s__law_led_all) .none kV12 dc12 pm12 an12 cd12 ct12), sl12⟩)
    (c12 : PySem.W.codeIn K cd12 "_law_led_all" = true)
    (k12 : PySem.W.keepIn K (.ref f12) = true)
    (a13 : PySem.W.nsIn K mainGlobals "_law_shortest" = some (some (.ref f13)))
    (l13 : K.lookup f13 = some ⟨oc13, od13, .func (PySem.W.fnOf "_law_shortest" "_law_shortest" (defArgs s__law_shortest) (defBody s__law_shortest) (defScope s__law_shortest) .none kV13 dc13 pm13 an13 cd13 ct13), sl13⟩)
    (c13 : PySem.W.codeIn K cd13 "_law_shortest" = true)
    (k13 : PySem.W.keepIn K (.ref f13) = true)
    (a14 : PySem.W.nsIn K mainGlobals "_law_number" = some (some (.ref f14)))
    (l14 : K.lookup f14 = some ⟨oc14, od14, .func (PySem.W.fnOf "_law_number" "_law_number" (defArgs s__law_number) (defBody s__law_number) (defScope s__law_number) .none kV14 dc14 pm14 an14 cd14 ct14), sl14⟩)
    (c14 : PySem.W.codeIn K cd14 "_law_number" = true)
    (k14 : PySem.W.keepIn K (.ref f14) = true)
    (a15 : PySem.W.nsIn K mainGlobals "_law_row_right" = some (some (.ref f15)))
    (l15 : K.lookup f15 = some ⟨oc15, od15, .func (PySem.W.fnOf "_law_row_right" "_law_row_right" (defArgs s__law_row_right) (defBody s__law_row_right) (defScope s__law_row_right) .none kV15 dc15 pm15 an15 cd15 ct15), sl15⟩)
    (c15 : PySem.W.codeIn K cd15 "_law_row_right" = true)
    (k15 : PySem.W.keepIn K (.ref f15) = true)
    (a16 : PySem.W.nsIn K mainGlobals "_law_mixed" = some (some (.ref f16)))
    (l16 : K.lookup f16 = some ⟨oc16, od16, .func (PySem.W.fnOf "_law_mixed" "_law_mixed" (defArgs s__law_mixed) (defBody s__law_mixed) (defScope s__law_mixed) .none kV16 dc16 pm16 an16 cd16 ct16), sl16⟩)
    (c16 : PySem.W.codeIn K cd16 "_law_mixed" = true)
    (k16 : PySem.W.keepIn K (.ref f16) = true)
    (pa17 : PySem.W.findIn K (.ref C0) "columns" = some (some (.ref pp17)))
    (pq17 : PySem.W.specialIn K (.ref pp17) "__get__" = some (some (.builtin "property.__get__")))
    (pt17 : PySem.W.takesIn K (.ref pp17) = some true)
    (pr17 : PySem.W.recIn K pp17 "property" = some (.ref f17 :: rs17))
    (l17 : K.lookup f17 = some ⟨oc17, od17, .func (PySem.W.fnOf "columns" "Scale.columns" (defArgs s_Scale_columns) (defBody s_Scale_columns) (defScope s_Scale_columns) .none kV17 dc17 pm17 an17 cd17 ct17), sl17⟩)
    (c17 : PySem.W.codeIn K cd17 "Scale.columns" = true)
    (k17 : PySem.W.keepIn K (.ref f17) = true)
    (a18 : PySem.W.findIn K (.ref C0) "check_class" = some (some (.ref f18)))
    (i18 : PySem.W.isFn K (.ref f18) = true)
    (l18 : K.lookup f18 = some ⟨oc18, od18, .func (PySem.W.fnOf "check_class" "Scale.check_class" (defArgs s_Scale_check_class) (defBody s_Scale_check_class) (defScope s_Scale_check_class) .none kV18 dc18 pm18 an18 cd18 ct18), sl18⟩)
    (c18 : PySem.W.codeIn K cd18 "Scale.check_class" = true)
    (k18 : PySem.W.keepIn K (.ref f18) = true)
    (a19 : PySem.W.findIn K (.ref C0) "led" = some (some (.ref f19)))
    (i19 : PySem.W.isFn K (.ref f19) = true)
    (l19 : K.lookup f19 = some ⟨oc19, od19, .func (PySem.W.fnOf "led" "Scale.led" (defArgs s_Scale_led) (defBody s_Scale_led) (defScope s_Scale_led) .none kV19 dc19 pm19 an19 cd19 ct19), sl19⟩)
    (c19 : PySem.W.codeIn K cd19 "Scale.led" = true)
    (k19 : PySem.W.keepIn K (.ref f19) = true)
    (a20 : PySem.W.findIn K (.ref C0) "__call__" = some (some (.ref f20)))
    (i20 : PySem.W.isFn K (.ref f20) = true)
    (l20 : K.lookup f20 = some ⟨oc20, od20, .func (PySem.W.fnOf "__call__" "Scale.__call__" (defArgs s_Scaledd_calldd) (defBody s_Scaledd_calldd) (defScope s_Scaledd_calldd) .none kV20 dc20 pm20 an20 cd20 ct20), sl20⟩)
    (fi20 : PySem.W.fnIn K f20 = true)
    (c20 : PySem.W.codeIn K cd20 "Scale.__call__" = true)
    (k20 : PySem.W.keepIn K (.ref f20) = true)
    (a21 : PySem.W.nsIn K mainGlobals "led_all" = some (some (.ref f21)))
    (l21 : K.lookup f21 = some ⟨oc21, od21, .func (PySem.W.fnOf "led_all" "led_all" (defArgs s_led_all) (defBody s_led_all) (defScope s_led_all) .none kV21 dc21 pm21 an21 cd21 ct21), sl21⟩)
    (c21 : PySem.W.codeIn K cd21 "led_all" = true)
    (k21 : PySem.W.keepIn K (.ref f21) = true)
    (a22 : PySem.W.nsIn K mainGlobals "shortest" = some (some (.ref f22)))
    (l22 : K.lookup f22 = some ⟨oc22, od22, .func (PySem.W.fnOf "shortest" "shortest" (defArgs s_shortest) (defBody s_shortest) (defScope s_shortest) .none kV22 dc22 pm22 an22 cd22 ct22), sl22⟩)
    (c22 : PySem.W.codeIn K cd22 "shortest" = true)
    (k22 : PySem.W.keepIn K (.ref f22) = true)
    (a23 : PySem.W.findIn K (.ref C0) "__len__" = some (some (.ref f23)))
    (i23 : PySem.W.isFn K (.ref f23) = true)
    (l23 : K.lookup f23 = some ⟨oc23, od23, .func (PySem.W.fnOf "__len__" "Scale.__len__" (defArgs s_Scaledd_lendd) (defBody s_Scaledd_lendd) (defScope s_Scaledd_lendd) .none kV23 dc23 pm23 an23 cd23 ct23), sl23⟩)
    (c23 : PySem.W.codeIn K cd23 "Scale.__len__" = true)
    (k23 : PySem.W.keepIn K (.ref f23) = true)
    (a24 : PySem.W.nsIn K mainGlobals "uniting_row" = some (some (.ref f24)))
    (l24 : K.lookup f24 = some ⟨oc24, od24, .func (PySem.W.fnOf "uniting_row" "uniting_row" (defArgs s_uniting_row) (defBody s_uniting_row) (defScope s_uniting_row) .none kV24 dc24 pm24 an24 cd24 ct24), sl24⟩)
    (c24 : PySem.W.codeIn K cd24 "uniting_row" = true)
    (k24 : PySem.W.keepIn K (.ref f24) = true)
    (a25 : PySem.W.nsIn K mainGlobals "meeting_row" = some (some (.ref f25)))
    (l25 : K.lookup f25 = some ⟨oc25, od25, .func (PySem.W.fnOf "meeting_row" "meeting_row" (defArgs s_meeting_row) (defBody s_meeting_row) (defScope s_meeting_row) .none kV25 dc25 pm25 an25 cd25 ct25), sl25⟩)
    (c25 : PySem.W.codeIn K cd25 "meeting_row" = true)
    (k25 : PySem.W.keepIn K (.ref f25) = true)
    (a26 : PySem.W.nsIn K mainGlobals "_law_scale_right" = some (some (.ref f26)))
    (l26 : K.lookup f26 = some ⟨oc26, od26, .func (PySem.W.fnOf "_law_scale_right" "_law_scale_right" (defArgs s__law_scale_right) (defBody s__law_scale_right) (defScope s__law_scale_right) .none kV26 dc26 pm26 an26 cd26 ct26), sl26⟩)
    (c26 : PySem.W.codeIn K cd26 "_law_scale_right" = true)
    (k26 : PySem.W.keepIn K (.ref f26) = true)
    (a27 : PySem.W.findIn K (.ref C0) "premiums" = some (some (.ref f27)))
    (i27 : PySem.W.isFn K (.ref f27) = true)
    (l27 : K.lookup f27 = some ⟨oc27, od27, .func (PySem.W.fnOf "premiums" "Scale.premiums" (defArgs s_Scale_premiums) (defBody s_Scale_premiums) (defScope s_Scale_premiums) .none kV27 dc27 pm27 an27 cd27 ct27), sl27⟩)
    (c27 : PySem.W.codeIn K cd27 "Scale.premiums" = true)
    (k27 : PySem.W.keepIn K (.ref f27) = true)
    (a28 : PySem.W.findIn K (.ref C0) "table" = some (some (.ref f28)))
    (i28 : PySem.W.isFn K (.ref f28) = true)
    (l28 : K.lookup f28 = some ⟨oc28, od28, .func (PySem.W.fnOf "table" "Scale.table" (defArgs s_Scale_table) (defBody s_Scale_table) (defScope s_Scale_table) .none kV28 dc28 pm28 an28 cd28 ct28), sl28⟩)
    (c28 : PySem.W.codeIn K cd28 "Scale.table" = true)
    (k28 : PySem.W.keepIn K (.ref f28) = true)
    (a29 : PySem.W.nsIn K mainGlobals "_law_like" = some (some (.ref f29)))
    (l29 : K.lookup f29 = some ⟨oc29, od29, .func (PySem.W.fnOf "_law_like" "_law_like" (defArgs s__law_like) (defBody s__law_like) (defScope s__law_like) .none kV29 dc29 pm29 an29 cd29 ct29), sl29⟩)
    (c29 : PySem.W.codeIn K cd29 "_law_like" = true)
    (k29 : PySem.W.keepIn K (.ref f29) = true)
    (a30 : PySem.W.nsIn K mainGlobals "_law_refusal" = some (some (.ref f30)))
    (l30 : K.lookup f30 = some ⟨oc30, od30, .func (PySem.W.fnOf "_law_refusal" "_law_refusal" (defArgs s__law_refusal) (defBody s__law_refusal) (defScope s__law_refusal) .none kV30 dc30 pm30 an30 cd30 ct30), sl30⟩)
    (c30 : PySem.W.codeIn K cd30 "_law_refusal" = true)
    (k30 : PySem.W.keepIn K (.ref f30) = true)
    (a31 : PySem.W.nsIn K mainGlobals "law" = some (some (.ref f31)))
    (l31 : K.lookup f31 = some ⟨oc31, od31, .func (PySem.W.fnOf "law" "law" (defArgs s_law) (defBody s_law) (defScope s_law) .none kV31 dc31 pm31 an31 cd31 ct31), sl31⟩)
    (c31 : PySem.W.codeIn K cd31 "law" = true)
    (k31 : PySem.W.keepIn K (.ref f31) = true)
    (pg0 : PySem.W.plainGet K C0 Str.empty = true)
    (hd0 : PySem.W.hasDictIn K C0 = true)
    (po0 : PySem.W.plainOver K C0 = true)
    (sa0 : PySem.W.findIn K (.ref C0) "__setattr__" = some (some (.builtin "object.__setattr__")))
    (mk0 : PySem.W.makesIn K C0 = true)
    (kc0 : PySem.W.keepIn K (.ref C0) = true)
    (n_Scale_moves : PySem.W.findIn K (.ref C0) "moves" = some none)
    (n_Scale_rates : PySem.W.findIn K (.ref C0) "rates" = some none)
    (b_abs : PySem.W.nsIn K mainGlobals "abs" = some none)
    (b_all : PySem.W.nsIn K mainGlobals "all" = some none)
    (b_bool : PySem.W.nsIn K mainGlobals "bool" = some none)
    (b_int : PySem.W.nsIn K mainGlobals "int" = some none)
    (b_isinstance : PySem.W.nsIn K mainGlobals "isinstance" = some none)
    (b_len : PySem.W.nsIn K mainGlobals "len" = some none)
    (b_list : PySem.W.nsIn K mainGlobals "list" = some none)
    (b_max : PySem.W.nsIn K mainGlobals "max" = some none)
    (b_min : PySem.W.nsIn K mainGlobals "min" = some none)
    (b_range : PySem.W.nsIn K mainGlobals "range" = some none)
    (b_set : PySem.W.nsIn K mainGlobals "set" = some none)
    (b_sorted : PySem.W.nsIn K mainGlobals "sorted" = some none)
    (b_tuple : PySem.W.nsIn K mainGlobals "tuple" = some none)
    (c_GREATEST_PREMIUM : PySem.W.nsIn K mainGlobals "GREATEST_PREMIUM" = some (some (.int 1000000 tk_GREATEST_PREMIUM)))
    (c_MOST_CLASSES : PySem.W.nsIn K mainGlobals "MOST_CLASSES" = some (some (.int 12 tk_MOST_CLASSES)))
    (c_MOST_COLUMNS : PySem.W.nsIn K mainGlobals "MOST_COLUMNS" = some (some (.int 5 tk_MOST_COLUMNS)))
    (aB : PySem.W.nsIn K mainGlobals "ClaimError" = some (some (.ref CB)))
    (gB : PySem.W.specialIn K (.ref CB) "__getattribute__" = some (some (.builtin "type.__getattribute__")))
    (rB : PySem.W.readsIn K CB (.type "type") = true)
    (fB : PySem.W.findCls K (.ref CB) (.type "type") "__init__" = some (.val (.builtin "ValueError.__init__")))
    (hdB : PySem.W.hasDictIn K CB = true)
    (tyB : PySem.W.typeIn K (.ref CB) = some (.type "type"))
    (aC100 : PySem.W.nsIn K mainGlobals "NoClass" = some (some (.ref C100)))
    (xs100 : PySem.W.subIn K (.ref C100) (.type "BaseException") = some true)
    (xt100 : PySem.W.typeIn K (.ref C100) = some (.type "type"))
    (xp100 : PySem.W.keepIn K (.ref C100) = true)
    (xl100 : K.lookup C100 = some (excClassObj nm100 qn100 C100 nn100 bs100 bm100 true sn100 sub100 ab100 col100 xd100 ka100 kb100 kc100 kd100 ke100 "ValueError.__new__"))
    (xv100 : PySem.HandSPX.refsVE bm100 = true)
    (xa100 : PySem.W.findIn K (.ref C100) "__setattr__" = some (some (.builtin "object.__setattr__")))
    (xi100 : PySem.W.findIn K (.ref C100) "__init__" = some (some (.ref f100)))
    (xf100 : PySem.W.typeIn K (.ref f100) = some (.type "function"))
    (xo100 : PySem.W.findIn K (.ref C100) "at" = some none)
    (l100 : K.lookup f100 = some ⟨oc100, od100, .func (PySem.W.fnOf "__init__" "NoClass.__init__" (defArgs s_xNoClass) (defBody s_xNoClass) (defScope s_xNoClass) .none kV100 dc100 pm100 an100 cd100 ct100), sl100⟩)
    (c100 : PySem.W.codeIn K cd100 "NoClass.__init__" = true)
    (k100 : PySem.W.keepIn K (.ref f100) = true)
    (yg100 : PySem.W.findIn K (.ref C100) "__getattribute__" = some (some (.builtin "BaseException.__getattribute__")))
    (yk100 : PySem.W.findIn K (.ref C100) "__getattr__" = some none)
    (yd100 : PySem.W.hasDictIn K C100 = true)
    (ya100 : PySem.W.findIn K (.ref C100) "__class__" = some (some (.builtin "object.__class__")))
    (yn100 : PySem.W.specialIn K (.builtin "object.__class__") "__get__" = some (some (.builtin "getset_descriptor.__get__")))
    (yt100 : PySem.W.takesIn K (.builtin "object.__class__") = some true)
    (ym100 : PySem.W.mroIn K C100 (.type "object") = some true)
    (yo100 : PySem.W.subIn K (.ref C100) (.ref CB) = some true)
    (x100_100 : PySem.W.subIn K (.ref C100) (.ref C100) = some true) :
    ∃ fd : FuncData, (∀ (s : Shared) (v : Value), BindsTo s fd ⟨[v], []⟩ [("_law_script", v)]) ∧ ∀ base : Heap, K.In base → base.Ns mainGlobals mg → FnOk l.prog w K mg base (L2.CX l.prog w) 10 fa fd ["_law_script"] (spScr K) := by
  have e := hfa.symm.trans (PySem.W.mg_of X G a31)
  cases e
  have F0 := fun_mk (st := s__law_bag) l0 c0 k0
  have B0 := F0.binds (ps := ["_law_script"]) fun _ _ _ _ _ _ us hl => match us, hl with | [_], _ => rfl
  have F1 := fun_mk (st := s__law_draw) l1 c1 k1
  have B1 := F1.binds (ps := ["_law_bag_here", "_law_size"]) fun _ _ _ _ _ _ us hl => match us, hl with | [_, _], _ => rfl
  have F2 := fun_mk (st := s__law_scale) l2 c2 k2
  have B2 := F2.binds (ps := ["_law_bag_here", "_law_most", "_law_most_wide"]) fun _ _ _ _ _ _ us hl => match us, hl with | [_, _, _], _ => rfl
  have F3 := fun_mk (st := s_is_integer) l3 c3 k3
  have B3 := F3.binds (ps := ["value", "least"]) fun _ _ _ _ _ _ us hl => match us, hl with | [_, _], _ => rfl
  have F4 := fun_mk (st := s_is_premium) l4 c4 k4
  have B4 := F4.binds (ps := ["value"]) fun _ _ _ _ _ _ us hl => match us, hl with | [_], _ => rfl
  have F5 := fun_mk (st := s_are_premiums) l5 c5 k5
  have B5 := F5.binds (ps := ["premiums"]) fun _ _ _ _ _ _ us hl => match us, hl with | [_], _ => rfl
  have F6 := fun_mk (st := s_are_moves) l6 c6 k6
  have B6 := F6.binds (ps := ["moves", "count", "wide"]) fun _ _ _ _ _ _ us hl => match us, hl with | [_, _, _], _ => rfl
  have F7 := fun_mk (st := s_is_table) l7 c7 k7
  have B7 := F7.binds (ps := ["table", "count"]) fun _ _ _ _ _ _ us hl => match us, hl with | [_, _], _ => rfl
  have F8 := fun_mk (st := s_Scaledd_initdd) l8 c8 k8
  have B8 := F8.binds (ps := ["self", "premiums", "table"]) fun _ _ _ _ _ _ us hl => match us, hl with | [_, _, _], _ => rfl
  have F9 := fun_mk (st := s__law_made) l9 c9 k9
  have B9 := F9.binds (ps := ["_law_plain"]) fun _ _ _ _ _ _ us hl => match us, hl with | [_], _ => rfl
  have F10 := fun_mk (st := s_Scale_limited) l10 c10 k10
  have B10 := F10.binds (ps := ["self", "columns"]) fun _ _ _ _ _ _ us hl => match us, hl with | [_, _], _ => rfl
  have F11 := fun_mk (st := s__law_led) l11 c11 k11
  have B11 := F11.binds (ps := ["_law_plain", "_law_at", "_law_claims"]) fun _ _ _ _ _ _ us hl => match us, hl with | [_, _, _], _ => rfl
  have F12 := fun_mk (st := s__law_led_all) l12 c12 k12
  have B12 := F12.binds (ps := ["_law_plain", "_law_some", "_law_claims"]) fun _ _ _ _ _ _ us hl => match us, hl with | [_, _, _], _ => rfl
  have F13 := fun_mk (st := s__law_shortest) l13 c13 k13
  have B13 := F13.binds (ps := ["_law_plain", "_law_some"]) fun _ _ _ _ _ _ us hl => match us, hl with | [_, _], _ => rfl
  have F14 := fun_mk (st := s__law_number) l14 c14 k14
  have B14 := F14.binds (ps := ["_law_value"]) fun _ _ _ _ _ _ us hl => match us, hl with | [_], _ => rfl
  have F15 := fun_mk (st := s__law_row_right) l15 c15 k15
  have B15 := F15.binds (ps := ["_law_told", "_law_plain", "_law_some", "_law_due"]) fun _ _ _ _ _ _ us hl => match us, hl with | [_, _, _, _], _ => rfl
  have F16 := fun_mk (st := s__law_mixed) l16 c16 k16
  have B16 := F16.binds (ps := ["_law_bag_here", "_law_items"]) fun _ _ _ _ _ _ us hl => match us, hl with | [_, _], _ => rfl
  have F17 := fun_mk (st := s_Scale_columns) l17 c17 k17
  have B17 := F17.binds (ps := ["self"]) fun _ _ _ _ _ _ us hl => match us, hl with | [_], _ => rfl
  have F18 := fun_mk (st := s_Scale_check_class) l18 c18 k18
  have B18 := F18.binds (ps := ["self", "at"]) fun _ _ _ _ _ _ us hl => match us, hl with | [_, _], _ => rfl
  have F19 := fun_mk (st := s_Scale_led) l19 c19 k19
  have B19 := F19.binds (ps := ["self", "at", "claims"]) fun _ _ _ _ _ _ us hl => match us, hl with | [_, _, _], _ => rfl
  have F20 := fun_mk (st := s_Scaledd_calldd) l20 c20 k20
  have B20 := F20.binds (ps := ["self", "at", "claims"]) fun _ _ _ _ _ _ us hl => match us, hl with | [_, _, _], _ => rfl
  have F21 := fun_mk (st := s_led_all) l21 c21 k21
  have B21 := F21.binds (ps := ["scale", "some", "column"]) fun _ _ _ _ _ _ us hl => match us, hl with | [_, _, _], _ => rfl
  have F22 := fun_mk (st := s_shortest) l22 c22 k22
  have B22 := F22.binds (ps := ["scale", "first"]) fun _ _ _ _ _ _ us hl => match us, hl with | [_, _], _ => rfl
  have F23 := fun_mk (st := s_Scaledd_lendd) l23 c23 k23
  have B23 := F23.binds (ps := ["self"]) fun _ _ _ _ _ _ us hl => match us, hl with | [_], _ => rfl
  have F24 := fun_mk (st := s_uniting_row) l24 c24 k24
  have B24 := F24.binds (ps := ["scale"]) fun _ _ _ _ _ _ us hl => match us, hl with | [_], _ => rfl
  have F25 := fun_mk (st := s_meeting_row) l25 c25 k25
  have B25 := F25.binds (ps := ["scale", "at", "by"]) fun _ _ _ _ _ _ us hl => match us, hl with | [_, _, _], _ => rfl
  have F26 := fun_mk (st := s__law_scale_right) l26 c26 k26
  have B26 := F26.binds (ps := ["_law_bag_here", "_law_scale_here", "_law_plain"]) fun _ _ _ _ _ _ us hl => match us, hl with | [_, _, _], _ => rfl
  have F27 := fun_mk (st := s_Scale_premiums) l27 c27 k27
  have B27 := F27.binds (ps := ["self"]) fun _ _ _ _ _ _ us hl => match us, hl with | [_], _ => rfl
  have F28 := fun_mk (st := s_Scale_table) l28 c28 k28
  have B28 := F28.binds (ps := ["self"]) fun _ _ _ _ _ _ us hl => match us, hl with | [_], _ => rfl
  have F29 := fun_mk (st := s__law_like) l29 c29 k29
  have B29 := F29.binds (ps := ["_law_scale_here", "_law_plain"]) fun _ _ _ _ _ _ us hl => match us, hl with | [_, _], _ => rfl
  have F30 := fun_mk (st := s__law_refusal) l30 c30 k30
  have B30 := F30.binds (ps := ["_law_scale_here", "_law_at", "_law_by"]) fun _ _ _ _ _ _ us hl => match us, hl with | [_, _, _], _ => rfl
  have F31 := fun_mk (st := s_law) l31 c31 k31
  have B31 := F31.binds (ps := ["_law_script"]) fun _ _ _ _ _ _ us hl => match us, hl with | [_], _ => rfl
  have F100 := fun_mk (st := s_xNoClass) l100 c100 k100
  have B100 := F100.binds (ps := ["self", "at"]) fun _ _ _ _ _ _ us hl => match us, hl with | [_, _], _ => rfl
  refine ⟨PySem.W.fnOf "law" "law" (defArgs s_law) (defBody s_law) (defScope s_law) .none kV31 dc31 pm31 an31 cd31 ct31, fun s v => .of_eq rfl, fun base _ _ => law_fin (fun i => match i with | 0 => C0 | 100 => C100 | _ => 0) (m := m_law) (fun scr sa ns hS => ?_) law_pure⟩
  have tx : Txt K mg ⟨fun i => match i with | 0 => C0 | 100 => C100 | _ => 0, scr, fun _ => True⟩ := ⟨PySem.W.mg_none_of X G b_abs, PySem.W.mg_none_of X G b_all, PySem.W.mg_none_of X G b_bool, PySem.W.mg_none_of X G b_int, PySem.W.mg_none_of X G b_isinstance, PySem.W.mg_none_of X G b_len, PySem.W.mg_none_of X G b_list, PySem.W.mg_none_of X G b_max, PySem.W.mg_none_of X G b_min, PySem.W.mg_none_of X G b_range, PySem.W.mg_none_of X G b_set, PySem.W.mg_none_of X G b_sorted, PySem.W.mg_none_of X G b_tuple, ⟨_, PySem.W.mg_of X G c_GREATEST_PREMIUM, ⟨_, rfl⟩⟩, ⟨_, PySem.W.mg_of X G c_MOST_CLASSES, ⟨_, rfl⟩⟩, ⟨_, PySem.W.mg_of X G c_MOST_COLUMNS, ⟨_, rfl⟩⟩, ⟨pg0, hd0, po0, sa0⟩, n_Scale_moves, n_Scale_rates, fun _ => trivial, baseC_of (PySem.W.mg_of X G aB) gB rB fB, PySem.W.mg_of X G aC100, mtf_NoClass (exm_of xs100 yd100 xt100 x100_100), ⟨yg100, yk100, xs100, yd100⟩, xo100, ⟨yg100, yk100, xs100, yd100, ya100, yn100, yt100, ym100⟩, by rw [baseA_of (PySem.W.mg_of X G aB)]; exact kitOne_of hdB tyB yo100⟩
  have O100 := ok_xNoClass (P := l.prog) (w := w) (base := base) F100 tx
  have X100 : Dx l.prog w K mg base ⟨fun i => match i with | 0 => C0 | 100 => C100 | _ => 0, scr, fun _ => True⟩ 100 "NoClass" "at" (fun _ => true) := ⟨_, _, _, O100, ⟨⟨⟨_, _, _, _, _, _, _, _, _, _, _, _, _, _, _, xl100, xv100⟩, xa100, xs100, xt100, xp100⟩, xi100, xf100, xo100⟩, PySem.W.mg_of X G aC100, B100⟩
  have O0 := ok__law_bag (P := l.prog) (w := w) (base := base) F0 tx hS 
  have O1 := ok__law_draw (P := l.prog) (w := w) (base := base) F1 tx 
  have O2 := ok__law_scale (P := l.prog) (w := w) (base := base) F2 tx ⟨_, _, O1, PySem.W.mg_of X G a1, k1, B1⟩
  have O3 := ok_is_integer (P := l.prog) (w := w) (base := base) F3 tx 
  have O4 := ok_is_premium (P := l.prog) (w := w) (base := base) F4 tx ⟨_, _, O3, PySem.W.mg_of X G a3, k3, B3⟩
  have O5 := ok_are_premiums (P := l.prog) (w := w) (base := base) F5 tx ⟨_, _, O4, PySem.W.mg_of X G a4, k4, B4⟩
  have O6 := ok_are_moves (P := l.prog) (w := w) (base := base) F6 tx ⟨_, _, O3, PySem.W.mg_of X G a3, k3, B3⟩
  have O7 := ok_is_table (P := l.prog) (w := w) (base := base) F7 tx ⟨_, _, O6, PySem.W.mg_of X G a6, k6, B6⟩
  have O8 := ok_Scaledd_initdd (P := l.prog) (w := w) (base := base) F8 tx ⟨_, _, O5, PySem.W.mg_of X G a5, k5, B5⟩ ⟨_, _, O7, PySem.W.mg_of X G a7, k7, B7⟩
  have O9 := ok__law_made (P := l.prog) (w := w) (base := base) F9 tx ⟨_, _, O8, ⟨mk0, a8, i8, kc0⟩, PySem.W.mg_of X G aC0, B8⟩
  have O10 := ok_Scale_limited (P := l.prog) (w := w) (base := base) F10 tx ⟨_, _, O8, ⟨mk0, a8, i8, kc0⟩, PySem.W.mg_of X G aC0, B8⟩
  have O11 := ok__law_led (P := l.prog) (w := w) (base := base) F11 tx 
  have O12 := ok__law_led_all (P := l.prog) (w := w) (base := base) F12 tx ⟨_, _, O11, PySem.W.mg_of X G a11, k11, B11⟩
  have O13 := ok__law_shortest (P := l.prog) (w := w) (base := base) F13 tx ⟨_, _, O12, PySem.W.mg_of X G a12, k12, B12⟩
  have O14 := ok__law_number (P := l.prog) (w := w) (base := base) F14 tx 
  have O15 := ok__law_row_right (P := l.prog) (w := w) (base := base) F15 tx ⟨_, _, O12, PySem.W.mg_of X G a12, k12, B12⟩ ⟨_, _, O14, PySem.W.mg_of X G a14, k14, B14⟩
  have O16 := ok__law_mixed (P := l.prog) (w := w) (base := base) F16 tx ⟨_, _, O1, PySem.W.mg_of X G a1, k1, B1⟩
  have O17 := ok_Scale_columns (P := l.prog) (w := w) (base := base) F17 tx 
  have O18 := ok_Scale_check_class (P := l.prog) (w := w) (base := base) F18 tx ⟨_, _, O3, PySem.W.mg_of X G a3, k3, B3⟩ X100
  have O19 := ok_Scale_led (P := l.prog) (w := w) (base := base) F19 tx ⟨_, _, O18, ⟨pg0, hd0, po0, sa0⟩, ⟨a18, i18, k18⟩, B18⟩ ⟨_, _, O3, PySem.W.mg_of X G a3, k3, B3⟩
  have O20 := ok_Scaledd_calldd (P := l.prog) (w := w) (base := base) F20 tx ⟨_, _, O19, ⟨pg0, hd0, po0, sa0⟩, ⟨a19, i19, k19⟩, B19⟩
  have O21 := ok_led_all (P := l.prog) (w := w) (base := base) F21 tx ⟨_, _, O20, ⟨a20, i20, fi20⟩, B20⟩
  have O22 := ok_shortest (P := l.prog) (w := w) (base := base) F22 tx ⟨_, _, _, _, O17, ⟨pg0, hd0, po0, sa0⟩, ⟨pa17, pq17, pt17, ⟨_, pr17⟩⟩, B17⟩ ⟨_, _, O21, PySem.W.mg_of X G a21, k21, B21⟩
  have O23 := ok_Scaledd_lendd (P := l.prog) (w := w) (base := base) F23 tx 
  have O24 := ok_uniting_row (P := l.prog) (w := w) (base := base) F24 tx ⟨_, _, O22, PySem.W.mg_of X G a22, k22, B22⟩ ⟨_, _, _, O23, ⟨a23, i23⟩, B23⟩
  have O25 := ok_meeting_row (P := l.prog) (w := w) (base := base) F25 tx ⟨_, _, O18, ⟨pg0, hd0, po0, sa0⟩, ⟨a18, i18, k18⟩, B18⟩ ⟨_, _, O22, PySem.W.mg_of X G a22, k22, B22⟩
  have O26 := ok__law_scale_right (P := l.prog) (w := w) (base := base) F26 tx ⟨_, _, O13, PySem.W.mg_of X G a13, k13, B13⟩ ⟨_, _, O1, PySem.W.mg_of X G a1, k1, B1⟩ ⟨_, _, O15, PySem.W.mg_of X G a15, k15, B15⟩ ⟨_, _, O16, PySem.W.mg_of X G a16, k16, B16⟩ ⟨_, _, O24, PySem.W.mg_of X G a24, k24, B24⟩ ⟨_, _, O25, PySem.W.mg_of X G a25, k25, B25⟩
  have O27 := ok_Scale_premiums (P := l.prog) (w := w) (base := base) F27 tx 
  have O28 := ok_Scale_table (P := l.prog) (w := w) (base := base) F28 tx 
  have O29 := ok__law_like (P := l.prog) (w := w) (base := base) F29 tx ⟨_, _, O27, ⟨pg0, hd0, po0, sa0⟩, ⟨a27, i27, k27⟩, B27⟩ ⟨_, _, O28, ⟨pg0, hd0, po0, sa0⟩, ⟨a28, i28, k28⟩, B28⟩
  have O30 := ok__law_refusal (P := l.prog) (w := w) (base := base) F30 tx ⟨_, _, O25, PySem.W.mg_of X G a25, k25, B25⟩
  have O31 := ok_law (P := l.prog) (w := w) (base := base) F31 tx ⟨_, _, O0, PySem.W.mg_of X G a0, k0, B0⟩ ⟨_, _, O2, PySem.W.mg_of X G a2, k2, B2⟩ ⟨_, _, O9, PySem.W.mg_of X G a9, k9, B9⟩ ⟨_, _, O10, ⟨pg0, hd0, po0, sa0⟩, ⟨a10, i10, k10⟩, B10⟩ ⟨_, _, O1, PySem.W.mg_of X G a1, k1, B1⟩ ⟨_, _, O26, PySem.W.mg_of X G a26, k26, B26⟩ ⟨_, _, O29, PySem.W.mg_of X G a29, k29, B29⟩ ⟨_, _, O30, PySem.W.mg_of X G a30, k30, B30⟩
  exact O31
end Law
open PySem PySem.W PyProof.Rows
set_option maxRecDepth 100000 in
set_option maxHeartbeats 0 in
theorem PySem.Challenge.cw_claimclasses_k62_uniting_and_meeting_row_holds : PySem.Challenge.rw_claimclasses_k62_uniting_and_meeting_row.Holds := by
  w_on; o_law; k_head; (case hw => w_witness2)
  k_fill
  refine Lin.law_walk (l := PySem.Challenge.rw_claimclasses_k62_uniting_and_meeting_row) (k := 10) (x := "_law_script") rfl rfl ⟨rfl, by decide, by decide⟩ (fun w h Y => PySem.W.kIn_of Y) ?F
  case F =>
    intro w mg fa h KX G hmg
    refine' Law.all_mk KX G hmg ?aC0 ?a0 ?l0 ?c0 ?k0 ?a1 ?l1 ?c1 ?k1 ?a2 ?l2 ?c2 ?k2 ?a3 ?l3 ?c3 ?k3 ?a4 ?l4 ?c4 ?k4 ?a5 ?l5 ?c5 ?k5 ?a6 ?l6 ?c6 ?k6 ?a7 ?l7 ?c7 ?k7 ?a8 ?i8 ?l8 ?c8 ?k8 ?a9 ?l9 ?c9 ?k9 ?a10 ?i10 ?l10 ?c10 ?k10 ?a11 ?l11 ?c11 ?k11 ?a12 ?l12 ?c12 ?k12 ?a13 ?l13 ?c13 ?k13 ?a14 ?l14 ?c14 ?k14 ?a15 ?l15 ?c15 ?k15 ?a16 ?l16 ?c16 ?k16 ?pa17 ?pq17 ?pt17 ?pr17 ?l17 ?c17 ?k17 ?a18 ?i18 ?l18 ?c18 ?k18 ?a19 ?i19 ?l19 ?c19 ?k19 ?a20 ?i20 ?l20 ?fi20 ?c20 ?k20 ?a21 ?l21 ?c21 ?k21 ?a22 ?l22 ?c22 ?k22 ?a23 ?i23 ?l23 ?c23 ?k23 ?a24 ?l24 ?c24 ?k24 ?a25 ?l25 ?c25 ?k25 ?a26 ?l26 ?c26 ?k26 ?a27 ?i27 ?l27 ?c27 ?k27 ?a28 ?i28 ?l28 ?c28 ?k28 ?a29 ?l29 ?c29 ?k29 ?a30 ?l30 ?c30 ?k30 ?a31 ?l31 ?c31 ?k31 ?pg0 ?hd0 ?po0 ?sa0 ?mk0 ?kc0 ?n_Scale_moves ?n_Scale_rates ?b_abs ?b_all ?b_bool ?b_int ?b_isinstance ?b_len ?b_list ?b_max ?b_min ?b_range ?b_set ?b_sorted ?b_tuple ?c_GREATEST_PREMIUM ?c_MOST_CLASSES ?c_MOST_COLUMNS ?aB ?gB ?rB ?fB ?hdB ?tyB ?aC100 ?xs100 ?xt100 ?xp100 ?xl100 ?xv100 ?xa100 ?xi100 ?xf100 ?xo100 ?l100 ?c100 ?k100 ?yg100 ?yk100 ?yd100 ?ya100 ?yn100 ?yt100 ?ym100 ?yo100 ?x100_100
    (case aC0 => k_is)
    (case a0 => k_is)
    (case l0 => k_is)
    (case c0 => k_is)
    (case k0 => k_is)
    (case a1 => k_is)
    (case l1 => k_is)
    (case c1 => k_is)
    (case k1 => k_is)
    (case a2 => k_is)
    (case l2 => k_is)
    (case c2 => k_is)
    (case k2 => k_is)
    (case a3 => k_is)
    (case l3 => k_is)
    (case c3 => k_is)
    (case k3 => k_is)
    (case a4 => k_is)
    (case l4 => k_is)
    (case c4 => k_is)
    (case k4 => k_is)
    (case a5 => k_is)
    (case l5 => k_is)
    (case c5 => k_is)
    (case k5 => k_is)
    (case a6 => k_is)
    (case l6 => k_is)
    (case c6 => k_is)
    (case k6 => k_is)
    (case a7 => k_is)
    (case l7 => k_is)
    (case c7 => k_is)
    (case k7 => k_is)
    (case a8 => k_is)
    (case i8 => k_is)
    (case l8 => k_is)
    (case c8 => k_is)
    (case k8 => k_is)
    (case a9 => k_is)
    (case l9 => k_is)
    (case c9 => k_is)
    (case k9 => k_is)
    (case a10 => k_is)
    (case i10 => k_is)
    (case l10 => k_is)
    (case c10 => k_is)
    (case k10 => k_is)
    (case a11 => k_is)
    (case l11 => k_is)
    (case c11 => k_is)
    (case k11 => k_is)
    (case a12 => k_is)
    (case l12 => k_is)
    (case c12 => k_is)
    (case k12 => k_is)
    (case a13 => k_is)
    (case l13 => k_is)
    (case c13 => k_is)
    (case k13 => k_is)
    (case a14 => k_is)
    (case l14 => k_is)
    (case c14 => k_is)
    (case k14 => k_is)
    (case a15 => k_is)
    (case l15 => k_is)
    (case c15 => k_is)
    (case k15 => k_is)
    (case a16 => k_is)
    (case l16 => k_is)
    (case c16 => k_is)
    (case k16 => k_is)
    (case pa17 => k_is)
    (case pq17 => k_is)
    (case pt17 => k_is)
    (case pr17 => k_is)
    (case l17 => k_is)
    (case c17 => k_is)
    (case k17 => k_is)
    (case a18 => k_is)
    (case i18 => k_is)
    (case l18 => k_is)
    (case c18 => k_is)
    (case k18 => k_is)
    (case a19 => k_is)
    (case i19 => k_is)
    (case l19 => k_is)
    (case c19 => k_is)
    (case k19 => k_is)
    (case a20 => k_is)
    (case i20 => k_is)
    (case l20 => k_is)
    (case fi20 => k_is)
    (case c20 => k_is)
    (case k20 => k_is)
    (case a21 => k_is)
    (case l21 => k_is)
    (case c21 => k_is)
    (case k21 => k_is)
    (case a22 => k_is)
    (case l22 => k_is)
    (case c22 => k_is)
    (case k22 => k_is)
    (case a23 => k_is)
    (case i23 => k_is)
    (case l23 => k_is)
    (case c23 => k_is)
    (case k23 => k_is)
    (case a24 => k_is)
    (case l24 => k_is)
    (case c24 => k_is)
    (case k24 => k_is)
    (case a25 => k_is)
    (case l25 => k_is)
    (case c25 => k_is)
    (case k25 => k_is)
    (case a26 => k_is)
    (case l26 => k_is)
    (case c26 => k_is)
    (case k26 => k_is)
    (case a27 => k_is)
    (case i27 => k_is)
    (case l27 => k_is)
    (case c27 => k_is)
    (case k27 => k_is)
    (case a28 => k_is)
    (case i28 => k_is)
    (case l28 => k_is)
    (case c28 => k_is)
    (case k28 => k_is)
    (case a29 => k_is)
    (case l29 => k_is)
    (case c29 => k_is)
    (case k29 => k_is)
    (case a30 => k_is)
    (case l30 => k_is)
    (case c30 => k_is)
    (case k30 => k_is)
    (case a31 => k_is)
    (case l31 => k_is)
    (case c31 => k_is)
    (case k31 => k_is)
    (case pg0 => k_is)
    (case hd0 => k_is)
    (case po0 => k_is)
    (case sa0 => k_is)
    (case mk0 => k_is)
    (case kc0 => k_is)
    (case n_Scale_moves => k_is)
    (case n_Scale_rates => k_is)
    (case b_abs => k_is)
    (case b_all => k_is)
    (case b_bool => k_is)
    (case b_int => k_is)
    (case b_isinstance => k_is)
    (case b_len => k_is)
    (case b_list => k_is)
    (case b_max => k_is)
    (case b_min => k_is)
    (case b_range => k_is)
    (case b_set => k_is)
    (case b_sorted => k_is)
    (case b_tuple => k_is)
    (case c_GREATEST_PREMIUM => k_is)
    (case c_MOST_CLASSES => k_is)
    (case c_MOST_COLUMNS => k_is)
    (case aB => k_is)
    (case gB => k_is)
    (case rB => k_is)
    (case fB => k_is)
    (case hdB => k_is)
    (case tyB => k_is)
    (case aC100 => k_is)
    (case xs100 => k_is)
    (case xt100 => k_is)
    (case xp100 => k_is)
    (case xl100 => k_is)
    (case xv100 => decide +kernel)
    (case xa100 => k_is)
    (case xi100 => k_is)
    (case xf100 => k_is)
    (case xo100 => k_is)
    (case l100 => k_is)
    (case c100 => k_is)
    (case k100 => k_is)
    (case yg100 => k_is)
    (case yk100 => k_is)
    (case yd100 => k_is)
    (case ya100 => k_is)
    (case yn100 => k_is)
    (case yt100 => k_is)
    (case ym100 => k_is)
    (case yo100 => k_is)
    (case x100_100 => first | k_is | rfl)
end
