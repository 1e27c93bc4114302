import PyProof.Rows.All
import Wide.All
import OpenK.AllK
import Wide.FinOn
import HandS.Base
import HandS.ForMost
import HandS.SetKeys
import HandS.Walk
import HandS.Rev
import HandS.Conv
import HandS.Deep
import HandS.TupAny
import HandS.IsInst
import HandS.Wide
import HandS.Flow
import HandS.Evl
import KE.GoesMore
import PyProof.DictMoreH
import PyProof.NeKinds
import PyProof.EqAt
import PySem.Challenge.RW_forestread_k32_whole_rings
set_option Elab.async false
set_option linter.all false
namespace FR
open PySem L2

/-! ### lists -/
theorem nodup_len {α : Type} [DecidableEq α] : ∀ {l m : List α}, l.Nodup → (∀ x ∈ l, x ∈ m) → l.length ≤ m.length
  | [], m, _, _ => Nat.zero_le _
  | x :: l, m, h, hs => by
    have hx : x ∈ m := hs x (List.mem_cons_self ..)
    have hn := List.nodup_cons.mp h
    have h1 : l.length ≤ (m.erase x).length := nodup_len hn.2 fun y hy => by
      have hy2 : y ∈ m := hs y (List.mem_cons_of_mem _ hy)
      have hne : y ≠ x := fun e => hn.1 (e ▸ hy)
      exact (List.mem_erase_of_ne hne).mpr hy2
    have h2 := List.length_erase_of_mem hx
    have h3 : 0 < m.length := List.length_pos_of_mem hx
    rw [List.length_cons]
    omega
theorem nodup_full {α : Type} [DecidableEq α] {l m : List α} (h : l.Nodup) (hs : ∀ x ∈ l, x ∈ m) (hl : m.length ≤ l.length) : ∀ x ∈ m, x ∈ l := fun x hx => by
  refine Classical.byContradiction fun hn => ?_
  have h1 : (x :: l).length ≤ m.length := nodup_len (List.nodup_cons.mpr ⟨hn, h⟩) fun y hy => by
    rcases List.mem_cons.mp hy with e | e
    · exact e ▸ hx
    · exact hs y e
  rw [List.length_cons] at h1
  omega

/-! ### relations -/
inductive Star {α : Type} (R : α → α → Prop) (x : α) : α → Prop
  | refl : Star R x x
  | tail {y z} : Star R x y → R y z → Star R x z
inductive Plus {α : Type} (R : α → α → Prop) (x : α) : α → Prop
  | one {y} : R x y → Plus R x y
  | tail {y z} : Plus R x y → R y z → Plus R x z
theorem Star.trans {α : Type} {R : α → α → Prop} {x y z : α} (a : Star R x y) (b : Star R y z) : Star R x z := by
  induction b with
  | refl => exact a
  | tail _ r ih => exact ih.tail r
theorem Plus.star {α : Type} {R : α → α → Prop} {x y : α} (a : Plus R x y) : Star R x y := by
  induction a with
  | one r => exact Star.refl.tail r
  | tail _ r ih => exact ih.tail r
theorem Star.plus {α : Type} {R : α → α → Prop} {x y z : α} (a : Star R x y) (r : R y z) : Plus R x z := by
  induction a generalizing z with
  | refl => exact .one r
  | tail _ r1 ih => exact (ih r1).tail r
theorem Plus.star_r {α : Type} {R : α → α → Prop} {x y z : α} (a : Plus R x y) (b : Star R y z) : Plus R x z := by
  induction b with
  | refl => exact a
  | tail _ r ih => exact ih.tail r
theorem Plus.trans {α : Type} {R : α → α → Prop} {x y z : α} (a : Plus R x y) (b : Plus R y z) : Plus R x z := a.star_r b.star

/-! ### nodes, grammars -/
abbrev Node := List Key
structure Rl where
  hd : Str
  ps : List Str
  wo : Int
def nS (s : Str) (i j : Nat) : Node := [.inr s, .inl (i : Int), .inl (j : Int)]
def nR (r d i j : Nat) : Node := [.inl (r : Int), .inl (d : Int), .inl (i : Int), .inl (j : Int)]
def sgn (c : Nat) : Str := ⟨#[39, c]⟩
def isSg (s : Str) : Prop := ∃ c, s = sgn c ∧ 32 ≤ c ∧ c ≤ 126 ∧ c ≠ 37
def isNm (s : Str) : Prop := 1 ≤ s.length ∧ s.length ≤ 8 ∧ ∀ c ∈ s.cps.toList, 65 ≤ c ∧ c ≤ 90
theorem nS_inj {s s' : Str} {i i' j j' : Nat} (e : nS s i j = nS s' i' j') : s = s' ∧ i = i' ∧ j = j' := by
  unfold nS at e
  injection e with e1 e2
  injection e2 with e2 e3
  injection e3 with e3 _
  refine ⟨Sum.inr.inj e1, ?_, ?_⟩
  · have := Sum.inl.inj e2; omega
  · have := Sum.inl.inj e3; omega
theorem nR_inj {s s' i i' j j' k k' : Nat} (e : nR s i j k = nR s' i' j' k') : s = s' ∧ i = i' ∧ j = j' ∧ k = k' := by
  unfold nR at e
  injection e with e1 e2
  injection e2 with e2 e3
  injection e3 with e3 e4
  injection e4 with e4 _
  refine ⟨?_, ?_, ?_, ?_⟩
  · have := Sum.inl.inj e1; omega
  · have := Sum.inl.inj e2; omega
  · have := Sum.inl.inj e3; omega
  · have := Sum.inl.inj e4; omega
theorem nS_nR {s : Str} {i j r d i' j' : Nat} (e : nS s i j = nR r d i' j') : False := by
  unfold nS nR at e
  injection e with e1 _
  cases e1
theorem sgn_inj {c d : Nat} (e : sgn c = sgn d) : c = d := by
  have h : (sgn c).cps = (sgn d).cps := by rw [e]
  have h2 : (#[39, c] : Array Nat) = #[39, d] := h
  have h3 := congrArg Array.toList h2
  have h4 : [39, c] = [39, d] := h3
  injection h4 with _ h5
  injection h5
theorem sg_nm {c : Nat} (h : isNm (sgn c)) : False := by
  have := h.2.2 39 (by show 39 ∈ [39, c]; exact List.mem_cons_self ..)
  omega
structure GOk (g : List Rl) : Prop where
  pos : 1 ≤ g.length
  few : g.length ≤ 9
  hdn : ∀ ρ ∈ g, isNm ρ.hd
  psl : ∀ ρ ∈ g, ρ.ps.length ≤ 6
  pse : ∀ ρ ∈ g, ∀ p ∈ ρ.ps, isSg p ∨ isNm p
  wo : ∀ ρ ∈ g, 0 ≤ ρ.wo ∧ ρ.wo ≤ 10 ^ 60
  sh : ∀ ρ ∈ g, ∃ ρ' ∈ g, ρ'.hd = ρ.hd ∧ (∀ p ∈ ρ'.ps, isSg p) ∧ ρ'.ps.length < 3

/-- parts over the signs from i to j, by the numbers row -/
inductive Fo (g : List Rl) (t : List Nat) : List Str → Nat → Nat → List Nat → Prop
  | nil (i) : Fo g t [] i i []
  | sg {c i j ps row} : t[i]? = some c → Fo g t ps (i + 1) j row → Fo g t (sgn c :: ps) i j row
  | nm {r ρ ps i k j row1 row2} : g[r]? = some ρ → isNm ρ.hd → Fo g t ρ.ps i k row1 → Fo g t ps k j row2 → Fo g t (ρ.hd :: ps) i j (r :: (row1 ++ row2))
theorem Fo.le {g : List Rl} {t : List Nat} {ps : List Str} {i j : Nat} {row : List Nat} (h : Fo g t ps i j row) : i ≤ j := by
  induction h with
  | nil i => exact Nat.le_refl _
  | sg _ _ ih => omega
  | nm _ _ _ _ ih1 ih2 => omega
theorem Fo.len {g : List Rl} {t : List Nat} {ps : List Str} {i j : Nat} {row : List Nat} (h : Fo g t ps i j row) (hi : i ≤ t.length) : j ≤ t.length := by
  induction h with
  | nil i => exact hi
  | sg h _ ih => exact ih (List.getElem?_eq_some_iff.mp h).1
  | nm _ _ _ _ ih1 ih2 => exact ih2 (ih1 hi)
theorem Fo.split {g : List Rl} {t : List Nat} : ∀ {a b : List Str} {i j : Nat} {row : List Nat}, Fo g t (a ++ b) i j row → ∃ k row1 row2, row = row1 ++ row2 ∧ Fo g t a i k row1 ∧ Fo g t b k j row2
  | [], b, i, j, row, h => ⟨i, [], row, rfl, .nil i, h⟩
  | x :: a, b, i, j, row, h => by
    rw [List.cons_append] at h
    generalize e : x :: (a ++ b) = l at h
    cases h with
    | nil => cases e
    | @sg c _ _ ps _ hc h =>
      injection e with e1 e2
      subst e1
      subst e2
      obtain ⟨k, r1, r2, e, f1, f2⟩ := Fo.split h
      exact ⟨k, r1, r2, e, .sg hc f1, f2⟩
    | @nm r ρ ps _ k _ row1 row2 hr hn h1 h2 =>
      injection e with e1 e2
      subst e1
      subst e2
      obtain ⟨k', r1, r2, e, f1, f2⟩ := Fo.split h2
      exact ⟨k', r :: (row1 ++ r1), r2, by rw [e, List.cons_append, List.append_assoc], .nm hr hn h1 f1, f2⟩
theorem Fo.app {g : List Rl} {t : List Nat} {a b : List Str} {i k j : Nat} {row1 row2 : List Nat} (h : Fo g t a i k row1) (h2 : Fo g t b k j row2) : Fo g t (a ++ b) i j (row1 ++ row2) := by
  induction h with
  | nil i => exact h2
  | sg hc _ ih => exact .sg hc (ih h2)
  | nm hr hn f1 _ _ ih =>
    rw [List.cons_append, List.cons_append, List.append_assoc]
    exact .nm hr hn f1 (ih h2)

structure Clo (g : List Rl) (t : List Nat) (St : Node → Prop) : Prop where
  c1 : ∀ i c, t[i]? = some c → St (nS (sgn c) i (i + 1))
  c0 : ∀ r i, r < g.length → i ≤ t.length → St (nR r 0 i i)
  c2 : ∀ r ρ d X i k j, g[r]? = some ρ → ρ.ps[d]? = some X → St (nR r d i k) → St (nS X k j) → St (nR r (d + 1) i j)
  c3 : ∀ r ρ i j, g[r]? = some ρ → St (nR r ρ.ps.length i j) → St (nS ρ.hd i j)
theorem drop_cons {α : Type} {l : List α} {d : Nat} {x : α} {r : List α} (e : l.drop d = x :: r) : l[d]? = some x ∧ l.drop (d + 1) = r ∧ d + 1 ≤ l.length := by
  have h0 : d < l.length := by
    have := congrArg List.length e
    rw [List.length_drop, List.length_cons] at this
    omega
  rw [List.drop_eq_getElem_cons h0] at e
  injection e with e1 e2
  exact ⟨by rw [List.getElem?_eq_getElem h0, e1], e2, h0⟩
theorem Clo.stands {g : List Rl} {t : List Nat} {St : Node → Prop} (C : Clo g t St) {ps : List Str} {i j : Nat} {row : List Nat} (h : Fo g t ps i j row) : i ≤ t.length →
    ∀ r ρ d b, g[r]? = some ρ → ρ.ps.drop d = ps → d ≤ ρ.ps.length → St (nR r d b i) → St (nR r ρ.ps.length b j) := by
  induction h with
  | nil i =>
    intro hi r ρ d b hr e hd hs
    have : ρ.ps.length ≤ d := by
      have := congrArg List.length e
      rw [List.length_drop] at this
      simp at this
      omega
    have e2 : d = ρ.ps.length := by omega
    rw [← e2]
    exact hs
  | @sg c i j ps row hc hf ih =>
    intro hi r ρ d b hr e hd hs
    obtain ⟨e1, e2, e3⟩ := drop_cons e
    exact ih (List.getElem?_eq_some_iff.mp hc).1 r ρ (d + 1) b hr e2 e3 (C.c2 r ρ d _ b i (i + 1) hr e1 hs (C.c1 i c hc))
  | @nm r' ρ' ps i k j row1 row2 hr' hn f1 f2 ih1 ih2 =>
    intro hi r ρ d b hr e hd hs
    obtain ⟨e1, e2, e3⟩ := drop_cons e
    have s1 : St (nS ρ'.hd i k) := C.c3 r' ρ' i k hr' (ih1 hi r' ρ' 0 i hr' rfl (Nat.zero_le _) (C.c0 r' i (List.getElem?_eq_some_iff.mp hr').1 hi))
    exact ih2 (f1.len hi) r ρ (d + 1) b hr e2 e3 (C.c2 r ρ d _ b i k hr e1 hs s1)

/-! ### the wood -/
abbrev Paths := List (Node × List (List Node))
def keysP (p : Paths) : List Node := p.map (·.1)
def Wy (p : Paths) (x y : Node) : Prop := ∃ e ∈ p, e.1 = x ∧ ∃ w ∈ e.2, y ∈ w
structure WoodOk (g : List Rl) (t : List Nat) (start : Str) (p : Paths) : Prop where
  nd : (keysP p).Nodup
  cl : ∀ e ∈ p, ∀ w ∈ e.2, ∀ c ∈ w, c ∈ keysP p
  ws : ∃ St : Node → Prop, Clo g t St ∧ (St (nS start 0 t.length) → nS start 0 t.length ∈ keysP p) ∧ ∀ e ∈ p,
    (∀ i j r ρ, g[r]? = some ρ → e.1 = nS ρ.hd i j → St (nR r ρ.ps.length i j) → [nR r ρ.ps.length i j] ∈ e.2) ∧
    (∀ r ρ d X i k j, e.1 = nR r (d + 1) i j → g[r]? = some ρ → ρ.ps[d]? = some X → i ≤ k → k ≤ j → St (nR r d i k) → St (nS X k j) → [nR r d i k, nS X k j] ∈ e.2)
/-- a spot: a name over signs -/
abbrev Spot := Str × Nat × Nat
def Ch (g : List Rl) (t : List Nat) (s u : Spot) : Prop := ∃ (r : Nat) (ρ : Rl) (pre post : List Str) (row1 row2 row3 : List Nat), g[r]? = some ρ ∧ ρ.hd = s.1 ∧ ρ.ps = pre ++ u.1 :: post ∧ s.2.1 ≤ t.length ∧
  Fo g t pre s.2.1 u.2.1 row1 ∧ Fo g t [u.1] u.2.1 u.2.2 row2 ∧ isNm u.1 ∧ Fo g t post u.2.2 s.2.2 row3
def nSp (s : Spot) : Node := nS s.1 s.2.1 s.2.2
theorem Fo.one {g : List Rl} {t : List Nat} {X : Str} {i j : Nat} {row : List Nat} (h : Fo g t [X] i j row) (hn : isNm X) : ∃ r ρ row1, g[r]? = some ρ ∧ ρ.hd = X ∧ row = r :: row1 ∧ Fo g t ρ.ps i j row1 := by
  generalize e : [X] = l at h
  cases h with
  | nil => cases e
  | sg hc _ =>
    injection e with e1 _
    rw [e1] at hn
    exact (sg_nm hn).elim
  | @nm r ρ ps _ k _ row1 row2 hr hn' f1 f2 =>
    injection e with e1 e2
    subst e2
    cases f2
    exact ⟨r, ρ, row1, hr, e1.symm, by rw [List.append_nil], f1⟩
theorem wy_mem {g : List Rl} {t : List Nat} {start : Str} {p : Paths} (O : WoodOk g t start p) {x y : Node} (h : Wy p x y) : y ∈ keysP p := by
  obtain ⟨e, he, rfl, w, hw, hy⟩ := h
  exact O.cl e he w hw y hy
theorem mem_keys {p : Paths} {x : Node} (h : x ∈ keysP p) : ∃ e ∈ p, e.1 = x := by
  obtain ⟨e, he, q⟩ := List.mem_map.mp h
  exact ⟨e, he, q⟩
theorem star_mem {g : List Rl} {t : List Nat} {start : Str} {p : Paths} (O : WoodOk g t start p) {x y : Node} (h : Star (Wy p) x y) (hx : x ∈ keysP p) : y ∈ keysP p := by
  induction h with
  | refl => exact hx
  | tail _ r _ => exact wy_mem O r
theorem down {g : List Rl} {t : List Nat} {start : Str} {p : Paths} (O : WoodOk g t start p) {St : Node → Prop} (C : Clo g t St)
    (hw : ∀ e ∈ p, ∀ r ρ d X i k j, e.1 = nR r (d + 1) i j → g[r]? = some ρ → ρ.ps[d]? = some X → i ≤ k → k ≤ j → St (nR r d i k) → St (nS X k j) → [nR r d i k, nS X k j] ∈ e.2)
    {ps : List Str} {k j : Nat} {row : List Nat} (h : Fo g t ps k j row) : k ≤ t.length → ∀ r ρ d i, i ≤ k → g[r]? = some ρ → ρ.ps.drop d = ps → d ≤ ρ.ps.length → St (nR r d i k) → nR r ρ.ps.length i j ∈ keysP p →
      Star (Wy p) (nR r ρ.ps.length i j) (nR r d i k) := by
  induction h with
  | nil k =>
    intro hk r ρ d i hi hr e hd hs hm
    have e2 : d = ρ.ps.length := by
      have := congrArg List.length e
      rw [List.length_drop] at this
      simp at this
      omega
    rw [e2]
    exact .refl
  | @sg c k j ps row hc hf ih =>
    intro hk r ρ d i hi hr e hd hs hm
    obtain ⟨e1, e2, e3⟩ := drop_cons e
    have s2 := C.c2 r ρ d _ i k (k + 1) hr e1 hs (C.c1 k c hc)
    have st := ih (List.getElem?_eq_some_iff.mp hc).1 r ρ (d + 1) i (by omega) hr e2 e3 s2 hm
    obtain ⟨x, hx, ex⟩ := mem_keys (star_mem O st hm)
    exact st.tail ⟨x, hx, ex, _, hw x hx r ρ d _ i k (k + 1) ex hr e1 hi (Nat.le_succ _) hs (C.c1 k c hc), List.mem_cons_self ..⟩
  | @nm r' ρ' ps k m j row1 row2 hr' hn f1 f2 ih1 ih2 =>
    intro hk r ρ d i hi hr e hd hs hm
    obtain ⟨e1, e2, e3⟩ := drop_cons e
    have s1 : St (nS ρ'.hd k m) := C.c3 r' ρ' k m hr' (C.stands f1 hk r' ρ' 0 k hr' rfl (Nat.zero_le _) (C.c0 r' k (List.getElem?_eq_some_iff.mp hr').1 hk))
    have s2 := C.c2 r ρ d _ i k m hr e1 hs s1
    have st := ih2 (f1.len hk) r ρ (d + 1) i (Nat.le_trans hi f1.le) hr e2 e3 s2 hm
    obtain ⟨x, hx, ex⟩ := mem_keys (star_mem O st hm)
    exact st.tail ⟨x, hx, ex, _, hw x hx r ρ d _ i k m ex hr e1 hi f1.le hs s1, List.mem_cons_self ..⟩
theorem ch_plus {g : List Rl} {t : List Nat} {start : Str} {p : Paths} (O : WoodOk g t start p) {s u : Spot} (h : Ch g t s u) (hm : nSp s ∈ keysP p) : Plus (Wy p) (nSp s) (nSp u) := by
  obtain ⟨r, ρ, pre, post, row1, row2, row3, hr, hh, hp, hl, f1, f2, hn, f3⟩ := h
  obtain ⟨St, C, _, hw⟩ := O.ws
  obtain ⟨A, i, j⟩ := s
  obtain ⟨X, k, m⟩ := u
  have hk : k ≤ t.length := f1.len hl
  have hmm : m ≤ t.length := f2.len hk
  have hh' : ρ.hd = A := hh
  have hp' : ρ.ps = pre ++ X :: post := hp
  -- what stands
  obtain ⟨r', ρ', row', hr', hh2, _, f2'⟩ := f2.one hn
  have hX : ρ'.hd = X := hh2
  have sX : St (nS X k m) := by
    rw [← hX]
    exact C.c3 r' ρ' k m hr' (C.stands f2' hk r' ρ' 0 k hr' rfl (Nat.zero_le _) (C.c0 r' k (List.getElem?_eq_some_iff.mp hr').1 hk))
  have dX : ρ.ps.drop pre.length = X :: post := by rw [hp', List.drop_left]
  obtain ⟨e1, e2, e3⟩ := drop_cons dX
  have s0 : St (nR r 0 i i) := C.c0 r i (List.getElem?_eq_some_iff.mp hr).1 hl
  have sP : St (nR r pre.length i k) := by
    -- stands over pre: by induction again, through a general lemma
    have gen : ∀ {qs : List Str} {a b : Nat} {row : List Nat}, Fo g t qs a b row → a ≤ t.length → ∀ d rest, ρ.ps.drop d = qs ++ rest → St (nR r d i a) → St (nR r (d + qs.length) i b) := by
      intro qs a b row hf
      induction hf with
      | nil a => exact fun _ d rest _ hs => hs
      | @sg c a b ps row hc hf ih =>
        intro ha d rest e hs
        rw [List.cons_append] at e
        obtain ⟨g1, g2, g3⟩ := drop_cons e
        have := ih (List.getElem?_eq_some_iff.mp hc).1 (d + 1) rest g2 (C.c2 r ρ d _ i a (a + 1) hr g1 hs (C.c1 a c hc))
        rw [List.length_cons, show d + (ps.length + 1) = d + 1 + ps.length by omega]
        exact this
      | @nm r2 ρ2 ps a q b ra rb hr2 hn2 fa fb iha ihb =>
        intro ha d rest e hs
        rw [List.cons_append] at e
        obtain ⟨g1, g2, g3⟩ := drop_cons e
        have s1 : St (nS ρ2.hd a q) := C.c3 r2 ρ2 a q hr2 (C.stands fa ha r2 ρ2 0 a hr2 rfl (Nat.zero_le _) (C.c0 r2 a (List.getElem?_eq_some_iff.mp hr2).1 ha))
        have := ihb (fa.len ha) (d + 1) rest g2 (C.c2 r ρ d _ i a q hr g1 hs s1)
        rw [List.length_cons, show d + (ps.length + 1) = d + 1 + ps.length by omega]
        exact this
    have := gen f1 hl 0 (X :: post) hp' s0
    rw [Nat.zero_add] at this
    exact this
  have sN : St (nR r (pre.length + 1) i m) := C.c2 r ρ pre.length X i k m hr e1 sP sX
  have sT : St (nR r ρ.ps.length i j) := C.stands f3 hmm r ρ (pre.length + 1) i hr e2 e3 sN
  -- the way down
  obtain ⟨x, hx, ex⟩ := mem_keys hm
  have w1 : Wy p (nSp (A, i, j)) (nR r ρ.ps.length i j) := ⟨x, hx, ex, _, (hw x hx).1 i j r ρ hr (ex.trans (by rw [← hh']; rfl)) sT, List.mem_cons_self ..⟩
  have st := down O C (fun e he => (hw e he).2) f3 hmm r ρ (pre.length + 1) i (Nat.le_trans f1.le f2.le) hr e2 e3 sN (wy_mem O w1)
  obtain ⟨y, hy, ey⟩ := mem_keys (star_mem O st (wy_mem O w1))
  have w2 : Wy p (nR r (pre.length + 1) i m) (nSp (X, k, m)) := ⟨y, hy, ey, _, (hw y hy).2 r ρ pre.length X i k m ey hr e1 f1.le f2.le sP sX, List.mem_cons_of_mem _ (List.mem_cons_self ..)⟩
  exact ((Plus.one w1).star_r st).tail w2
theorem star_ch {g : List Rl} {t : List Nat} {start : Str} {p : Paths} (O : WoodOk g t start p) {s u : Spot} (h : Star (Ch g t) s u) (hm : nSp s ∈ keysP p) : Star (Wy p) (nSp s) (nSp u) := by
  induction h with
  | refl => exact .refl
  | tail _ r ih => exact ih.trans (ch_plus O r (star_mem O ih hm)).star
theorem plus_ch {g : List Rl} {t : List Nat} {start : Str} {p : Paths} (O : WoodOk g t start p) {s u : Spot} (h : Plus (Ch g t) s u) (hm : nSp s ∈ keysP p) : Plus (Wy p) (nSp s) (nSp u) := by
  induction h with
  | one r => exact ch_plus O r hm
  | tail _ r ih => exact ih.trans (ch_plus O r (star_mem O ih.star hm))
/-- a spot beneath itself makes a ring -/
theorem ring_of {g : List Rl} {t : List Nat} {start : Str} {p : Paths} (O : WoodOk g t start p) {row : List Nat} (hf : Fo g t [start] 0 t.length row) (hn : isNm start) {s : Spot} (h : Star (Ch g t) (start, 0, t.length) s) (h2 : Plus (Ch g t) s s) :
    ∃ x ∈ keysP p, Plus (Wy p) x x := by
  obtain ⟨St, C, ht, hw⟩ := O.ws
  obtain ⟨r, ρ, row1, hr, hh, _, f1⟩ := hf.one hn
  have sT : St (nS start 0 t.length) := by
    rw [← hh]
    exact C.c3 r ρ 0 _ hr (C.stands f1 (Nat.zero_le _) r ρ 0 0 hr rfl (Nat.zero_le _) (C.c0 r 0 (List.getElem?_eq_some_iff.mp hr).1 (Nat.zero_le _)))
  have hm : nSp (start, 0, t.length) ∈ keysP p := ht sT
  have h1 := star_mem O (star_ch O h hm) hm
  exact ⟨nSp s, h1, plus_ch O h2 h1⟩

/-! ### settled nodes -/
structure SetOk (p : Paths) (told : List Node) : Prop where
  nd : told.Nodup
  sub : ∀ x ∈ told, x ∈ keysP p
  ord : ∀ a x b, told = a ++ x :: b → ∀ c, Wy p x c → c ∈ a
  full : ∀ x ∈ keysP p, (∀ c, Wy p x c → c ∈ told) → x ∈ told
theorem SetOk.before {p : Paths} {told : List Node} (S : SetOk p told) {a b : List Node} {x y : Node} (e : told = a ++ x :: b) (h : Plus (Wy p) x y) : y ∈ a := by
  induction h with
  | one r => exact S.ord a x b e _ r
  | @tail y z _ r ih =>
    obtain ⟨a1, a2, ea⟩ := List.append_of_mem ih
    have := S.ord a1 y (a2 ++ x :: b) (by rw [e, ea, List.append_assoc, List.cons_append]) z r
    rw [ea]
    exact List.mem_append.mpr (.inl this)
theorem SetOk.noring {p : Paths} {told : List Node} (S : SetOk p told) {x : Node} (hx : x ∈ told) (h : Plus (Wy p) x x) : False := by
  obtain ⟨a, b, e⟩ := List.append_of_mem hx
  have h1 := S.before e h
  have nd := S.nd
  rw [e] at nd
  have := (List.nodup_append.mp nd).2.2 x h1 x (List.mem_cons_self ..)
  exact this rfl
theorem SetOk.in_other {p : Paths} {t1 t2 : List Node} (S1 : SetOk p t1) (S2 : SetOk p t2) : ∀ x ∈ t1, x ∈ t2 := by
  have gen : ∀ (n : Nat) (a b : List Node), a.length = n → t1 = a ++ b → ∀ x ∈ a, x ∈ t2 := by
    intro n
    induction n with
    | zero =>
      intro a b hl _ x hx
      rw [List.length_eq_zero_iff.mp hl] at hx
      cases hx
    | succ n ih =>
      intro a b hl e x hx
      obtain ⟨a', y, rfl⟩ : ∃ a' y, a = a' ++ [y] := by
        refine ⟨a.dropLast, a.getLast (by intro z; rw [z] at hl; cases hl), (List.dropLast_concat_getLast _).symm⟩
      rw [List.length_append, List.length_singleton] at hl
      rw [List.append_assoc, List.singleton_append] at e
      have h' := ih a' (y :: b) (by omega) e
      rcases List.mem_append.mp hx with hx | hx
      · exact h' x hx
      · have ey : x = y := by simpa using hx
        subst ey
        exact S2.full x (S1.sub x (by rw [e]; simp)) fun c hc => h' c (S1.ord a' x b e c hc)
  exact gen t1.length t1 [] rfl (by simp)
theorem SetOk.count {p : Paths} {t1 t2 : List Node} (S1 : SetOk p t1) (S2 : SetOk p t2) (nd : (keysP p).Nodup) : (∀ x ∈ keysP p, x ∈ t1) ↔ t2.length = p.length := by
  have hl : (keysP p).length = p.length := List.length_map ..
  constructor
  · intro h
    have h1 : (keysP p).length ≤ t2.length := nodup_len nd fun x hx => S1.in_other S2 x (h x hx)
    have h2 : t2.length ≤ (keysP p).length := nodup_len S2.nd S2.sub
    omega
  · intro h x hx
    exact S2.in_other S1 x (nodup_full S2.nd S2.sub (by omega) x hx)
end FR

set_option Elab.async false
set_option linter.all false
set_option maxRecDepth 100000
set_option maxHeartbeats 4000000
namespace L2
open PySem PySem.Spec PyProof.Rows
section
variable {X : Cx} {pins : List (Addr × Obj)} {σ : St} {H : Hp} {s : Shared} {a b : Addr} {r : Value} {d : V} {k : List Key} {A : Around} {E : Value → Shared → Prop}
theorem fr_setdT {kvs : List (List Key × V)} {Q : Value → Shared → Prop} (hu : A.units + 1 < cLine) (I : Inv X pins σ H s) (e : H a = some (.dT kvs)) (eb : H b = some (.tup (k.map kV))) (rd : RelV d r) (hl : kvs.length < sizeLine)
    (h1 : ∀ v, valV kvs k = some v → ∀ (w' : Value) (s' : Shared), Inv X pins σ H s' → RelV v w' → Q w' s') (h2 : valV kvs k = none → ∀ (w' : Value) (s' : Shared), Inv X pins σ (upd H a (.dT (putK kvs k d))) s' → RelV d w' → Q w' s') :
    wpAny (model X.prog X.w) A (call (.builtin "dict.setdefault") [.ref a, .ref b, r]) Q E s := by
  obtain ⟨z, hd, xs, rel, dd⟩ := dt_of I.hok e
  have hz : xs.length ≤ sizeLine := by rw [← Paired.length rel]; exact z
  refine call_setdefault_heap (hsz := hz) (tupleKind_room_in1 hu) (key_of I.hok eb) hd dd (fun p hp => ?_) fun hn h' dd' hs => ?_
  · have q := rel.val k
    rw [hp] at q
    cases q0 : valV kvs k with
    | none =>
      rw [q0] at q
      exact (show False from q).elim
    | some v0 =>
      rw [q0] at q
      exact h1 v0 q0 _ _ (I.tok _) q
  · have q := rel.val k
    rw [hn] at q
    cases q0 : valV kvs k with
    | some v0 =>
      rw [q0] at q
      exact (show False from q).elim
    | none =>
      have hl2 : (putK kvs k d).length ≤ sizeLine := by
        have := length_putK kvs k d
        omega
      refine h2 q0 _ _ ?_ rd
      obtain ⟨q, es, ep, hq, g2, g3, g4, _, g5⟩ := dd'
      refine d_write I (by rw [e]; exact True.intro) hs ⟨q, hq⟩ ⟨hl2, hd, _, (rel.put k eb rd).keeps fun c ys ec => ?_, q, es, ep, hq, g2, g3, g4, g5⟩
      rw [upd_ne (ne_of ec e (fun z => nomatch z))]
      exact ec
end
/-- d.setdefault(y, z), y a tuple -/
def tDSetdT (td ty tx : TE) : TE := fun σ H Q => td σ H fun x H1 => ∃ a, x = .ref a ∧ IsD H1 a ∧ ty σ H1 fun y H2 => tx σ H2 fun z H3 => ∃ (kvs : List (List Key × V)) (k : List Key) (b : Addr), H3 a = some (.dT kvs) ∧ y = .ref b ∧ H3 b = some (.tup (k.map kV)) ∧ kvs.length < sizeLine ∧
  (∀ v, valV kvs k = some v → Q v H3) ∧ (valV kvs k = none → Q z (upd H3 a (.dT (putK kvs k z))))
section
variable {X : Cx} {o e f : Expr} {td ty tx : TE} {apos cpos : Pos}
theorem pe_dsetdT (hu : X.A.units + 1 < cLine) (ho : PE X o td) (he : PE X e ty) (hf : PE X f tx) (m : M2 X o "setdefault" apos e f cpos) : PE X (.Call (.Attribute o "setdefault" apos) [e, f] [] cpos) (tDSetdT td ty tx) := by
  refine ⟨fun pins s σ H Q I h => ?_⟩
  refine wpAny_Call_method m.base m.few m.line PySem.F.plainAttrs_dict PySem.F.slot_dict_setdefault PySem.F.type_dict_setdefault (thn (ho.run pins s σ H _ I h) fun u s1 ⟨x, H1, I1, rx, a, ex, d, q1⟩ => ?_)
  subst ex
  obtain rfl : u = Value.ref a := rx
  obtain ⟨t1, t2, _⟩ := isD_at I1 d
  refine ⟨t1, t2, ?_⟩
  rw [m.trees]
  refine Calls.callWith_builtin rfl (Calls.evalArgs_plain (Calls.spliced_cons (thn (he.run pins s1 σ H1 _ I1 q1) fun iv s2 ⟨y, H2, I2, ry, q2⟩ =>
    Calls.spliced_cons (thn (hf.run pins s2 σ H2 _ I2 q2) fun fv s3 ⟨z, H3, I3, rz, kvs, k, b, ea, ey, eb, hl, q3, q4⟩ => Calls.spliced_nil ?_))))
  subst ey
  cases (show iv = Value.ref b from ry)
  exact fr_setdT hu I3 ea eb rz hl (fun v hv w' s4 I4 rw' => ⟨v, _, I4, rw', q3 v hv⟩) fun hn w' s4 I4 rw' => ⟨z, _, I4, rw', q4 hn⟩
end
/-! ### extend by a tuple -/
theorem fr_ext_tup (l : Addr) (items : Array Value) (n : Nat) (b : Addr) (items2 : Array Value) (n2 : Nat) (dd : Option Addr) (sl : Array (Option Value)) (hs0 : ¬(!items.isEmpty && Builtin.List.listTooLong (items.size + items2.size)) = true) (hs1 : items.size ≤ sizeLine) (hs2 : items.size + items2.size ≤ sizeLine + 1) :
    Meets (Builtin.«list.extend» ⟨[.ref l, .ref b], []⟩) (fun _ R s => s.heap.get? l = some { cls := .type "list", dict := none, data := .seq items n, slots := #[] } ∧ s.heap.get? b = some { cls := .type "tuple", dict := dd, data := .seq items2 n2, slots := sl } ∧ R (.ok (.ret Value.none)) { s with heap := s.heap.update l (Obj.mapSeq fun x => x ++ items2), toks := s.toks }) :=
  .of_wp fun prog w A R s h => by
    obtain ⟨hp, g, d, tk, os⟩ := s; obtain ⟨hl, hb, h⟩ := h; have f1 := AutoSeq1.idx_int; have f2 := AutoSeq1.sub_tuple_tuple; have f3 := AutoSeq1.sub_list_list; have f4 := AutoSeq1.sub_tuple_list; have f5 := AutoSeq1.sub_list_tuple;
    have hz' : (items ++ items2).size ≤ sizeLine + 1 := by rw [Array.size_append]; exact hs2
    wp_walk using (wpAny_updateSeq hl rfl (hz := hs1) (_hz' := hz')), wpAny_loadPart' hl, wpAny_loadPart' hb; exact ⟨_, rfl, h⟩
section
variable {X : Cx}
def rExtendT : V → List V → Hp → VK → Prop := fun x vs H Q => ∃ l b xs zs, x = .ref l ∧ vs = [.ref b] ∧ H l = some (.lst xs) ∧ H b = some (.tup zs) ∧ xs.length + zs.length ≤ sizeLine ∧ Q .non (upd H l (.lst (xs ++ zs)))
theorem mt_extendT : MtM X "list.extend" rExtendT := by
  intro pins s σ H x vs v us Q I rx rv h
  obtain ⟨l, b, xs, zs, rfl, rfl, hH, hB, hz, q⟩ := h
  cases rx
  obtain ⟨u, rfl, ru⟩ := rv.one
  cases ru
  obtain ⟨z, its, n, r, hl, e⟩ := I.lstM hH
  obtain ⟨z2, its2, r2, ⟨cls, dd, data, sl⟩, e2, ec, n2, ed⟩ := (show ObjOk X.prog X.w H s.heap b (.tup zs) from I.hok b _ hB)
  simp only at ec ed
  subst ec ed
  have hl2 := r2.length
  have hsz : its.toArray.size + its2.toArray.size ≤ sizeLine := by rw [List.size_toArray, List.size_toArray]; omega
  have hlong : ¬ (!its.toArray.isEmpty && Builtin.List.listTooLong (its.toArray.size + its2.toArray.size)) = true := by
    rw [notLongL hsz, Bool.and_false]
    exact Bool.false_ne_true
  refine call_meets F.slot_list_extend ⟨_, e, rfl⟩ F.entry_list_extend (F.args_list_extend_2 _ _)
    (fr_ext_tup l its.toArray n b its2.toArray n2 dd sl hlong (by rw [List.size_toArray]; omega) (by omega)) ⟨e, e2, ?_⟩
  refine ⟨.non, _, I.lset (its' := its ++ its2) hH e (by simp) (r.append r2) ?_, rfl, q⟩
  rw [List.length_append]
  omega
/-! ### text * int -/
def rMulS : R2 := fun x y H Q => ∃ (z : Str) (n : Int), x = .str z ∧ y = .int n ∧ z.length ≤ 10 ∧ 0 ≤ n ∧ n ≤ 10 ∧ Q (.str (Txt.mul z n)) H
theorem op_mulS : OpR X (binaryOp .Mult) rMulS := by
  intro pins s σ H x y v u Q I rx ry h
  obtain ⟨z, n, rfl, rfl, hz, h0, h1, q⟩ := h
  obtain ⟨t, rfl⟩ := rx
  obtain ⟨t2, rfl⟩ := ry
  refine SB.mul ⟨?_, ?_, ?_⟩ fun t' k => ⟨.str (Txt.mul z n), H, I.tok _, ⟨t', rfl⟩, q⟩
  · rw [decide_eq_false (by omega), decide_eq_false (by omega)]
    rfl
  · intro g _ g2
    have : (2 ^ 63 - 1 : Int) / 10 ≤ (2 ^ 63 - 1) / n := by
      rcases (show n = 1 ∨ n = 2 ∨ n = 3 ∨ n = 4 ∨ n = 5 ∨ n = 6 ∨ n = 7 ∨ n = 8 ∨ n = 9 ∨ n = 10 by omega) with e | e | e | e | e | e | e | e | e | e <;> subst e <;> decide
    have h3 : (100 : Int) ≤ (2 ^ 63 - 1) / 10 := by decide
    omega
  · intro g _
    unfold Builtin.Str.tooLong
    have : z.length * n.toNat ≤ 10 * 10 := Nat.mul_le_mul hz (by omega)
    exact decide_eq_false (by rw [show sizeLine = 16777216 from sizeLine_eq]; omega)
end
end L2

set_option Elab.async false
set_option linter.all false
set_option maxRecDepth 100000
set_option maxHeartbeats 4000000
namespace L2
open PySem PySem.Spec PyProof.Rows
/-! ### enumerate(text) -/
def Itse (x : Str) : It :=
  ⟨fun i _ => i < x.cps.size, fun i H v H' => ∃ T c, v = .ref T ∧ H T = none ∧ H' = upd H T (.tup [.int (i : Nat), .str ⟨#[c]⟩]) ∧ x.cps[i]? = some c, fun i _ => x.cps.size ≤ i⟩
theorem turn_enumS {P : Program} {w : World} {K : PySem.W.Frag} {elts : List Expr} {kk : Nat} {tpos : Pos} (x : Str) (t : Tok) (e it : Addr) :
    Turn P w K (.Tuple elts kk tpos) (Itse x) [e, it] e (fun i h => (∃ old, IsEnum h e it ((i : Nat) : Int) old) ∧ h.IsStrIter it (strIterType x) x t i ∧ e ≠ it ∧ i ≤ x.cps.size) where
  mem := by simp
  obj := fun i h st b hb => by
    obtain ⟨⟨old, he⟩, ⟨o, ho, hc, hd⟩, _⟩ := st
    have e' : b = e ∨ b = it := by simpa using hb
    rcases e' with z | z
    · rw [z]; exact ⟨_, he, fun v q => nomatch q⟩
    · rw [z]; exact ⟨o, ho, fun v q => by rw [hd] at q; cases q⟩
  keep := fun i h h' st k => let ⟨⟨old, he⟩, hi, hne, hle⟩ := st; ⟨⟨old, k e (by simp) _ he⟩, (let ⟨o, ho, r⟩ := hi; ⟨o, k it (by simp) o ho, r⟩), hne, hle⟩
  item := by
    intro X hP hw hK hc i pins s σ H E I hf st hg
    subst hP hw hK
    obtain ⟨⟨old, he⟩, hit, hne, hle⟩ := st
    have hel : e < s.heap.objs.size := Heap.lt_size he
    have hil : it < s.heap.objs.size := by obtain ⟨_, q, _⟩ := hit; exact Heap.lt_size q
    have D : Draws X.prog X.w X.A.in1 it [it] x.cps.size (fun i v => ∃ c u, x.cps[i]? = some c ∧ v = .str ⟨#[c]⟩ u) (fun i h => h.IsStrIter it (strIterType x) x t i) := Draws.text (A := X.A.in1) (I.ok.hd hc) it x t
    refine wpAny_pyNext_enum_itemD D he hit hg hne (by simpa using hne) fun v h' tk hv ho hit' hT hsz hk => ?_
    obtain ⟨c, u, hcx, rfl⟩ := hv
    refine ⟨_, rfl, wpAny_letOwnedTupleGo_enum (s := { s with heap := h', toks := tk + 1 }) ho fun h'' he' sb => ?_⟩
    have hT2 : h''.get? s.heap.objs.size = some { cls := .type "tuple", data := .seq #[.int i tk, .str ⟨#[c]⟩ u] } := (sb.2 _ (Nat.ne_of_gt hel)).trans hT
    have new : ObjOk X.prog X.w (upd H s.heap.objs.size (.tup [.int (i : Nat), .str ⟨#[c]⟩])) h'' s.heap.objs.size (.tup [.int (i : Nat), .str ⟨#[c]⟩]) :=
      ⟨by show 2 ≤ sizeLine; decide, [.int i tk, .str ⟨#[c]⟩ u], .cons ⟨_, rfl⟩ (.cons ⟨_, rfl⟩ .nil), ⟨_, hT2, rfl, _, rfl⟩⟩
    have I1 : Inv X pins σ (upd H s.heap.objs.size (.tup [.int (i : Nat), .str ⟨#[c]⟩])) { s with heap := h'', toks := tk + 1 } :=
      I.turnedNew (ch := [e, it]) (fun b ob hb q => (sb.2 b (fun z => hb (by simp [z]))).trans (hk b ob (fun z => hb (by simp [z])) (fun z => hb (by simp [z])) q)) hf (Nat.le_refl _) new
    refine ⟨.ref s.heap.objs.size, _, I1, rfl, ⟨_, c, rfl, I.hok.fresh (Nat.le_refl _), rfl, hcx⟩, ⟨⟨.str ⟨#[c]⟩ u, ?_⟩, ?_, hne, hg⟩, fun b hb => ?_⟩
    · have e1 : ((i + 1 : Nat) : Int) = (i : Int) + 1 := by omega
      rw [e1]; exact he'
    · obtain ⟨o, ho2, r⟩ := hit'
      exact ⟨o, (sb.2 it (Ne.symm hne)).trans ho2, r⟩
    · have hb' : b < s.heap.objs.size := by
        have e' : b = e ∨ b = it := by simpa using hb
        rcases e' with z | z
        · rw [z]; exact hel
        · rw [z]; exact hil
      rw [upd_ne (Nat.ne_of_lt hb')]
      exact (hf b hb).1
  done := by
    intro X hP hw hK hc i pins s σ H E I hf st hg
    subst hP hw hK
    obtain ⟨⟨old, he⟩, hit, hne, hle⟩ := st
    obtain ⟨f0, f1, f2, f3, f4, f5⟩ := hf it (by simp)
    have hi : i = x.cps.size := Nat.le_antisymm hle hg
    subst hi
    have D : Draws X.prog X.w X.A.in1 it [it] x.cps.size (fun i v => ∃ c u, x.cps[i]? = some c ∧ v = .str ⟨#[c]⟩ u) (fun i h => h.IsStrIter it (strIterType x) x t i) := Draws.text (A := X.A.in1) (I.ok.hd hc) it x t
    exact wpAny_pyNext_enum_endD D he hit fun h' eb => ⟨rfl, I.turned (t' := s.toks) (fun b o hb q => eb b o hb q) f0 f1 f3 f4 f5⟩
  self := fun A i s Q E st h => let ⟨⟨_, he⟩, _⟩ := st; wpAny_pyIter_enum he h
def iEnumS (ta : TA) : TI := fun σ H R => ta σ H fun vs H1 => ∃ x, vs = [.str x] ∧ R (Itse x) H1
theorem pi_enumS {X : Cx} {e : Expr} {ta : TA} {p pos tpos : Pos} {elts : List Expr} {kk : Nat} (hg : Gl X "enumerate") (hm : X.mg "enumerate" = none) (ha : PA X [e] ta) (hs : starEach [e] X.env = [(false, eval e X.env)] := by rfl) :
    PI X (.Tuple elts kk tpos) (.Call (.Name "enumerate" p) [e] [] pos) (iEnumS ta) := by
  refine ⟨fun pins s σ H R I h => ?_⟩
  refine Call_ (ld_blt I hg hm boot_enumerate (PyProof.Rows.callWith_type1 (thn (ha.run pos pins s σ H _ I h) fun us s1 ⟨vs, H1, I1, r1, q1⟩ => ?_) hs rfl))
  obtain ⟨x, ex, q⟩ := q1
  subst ex
  cases r1 with
  | cons r rr =>
    cases rr
    obtain ⟨t, rfl⟩ := r
    refine call_enumerate_str fun h' he hit hsz hk => wpAny_pyIter_enum he ?_
    have I2 : Inv X pins σ H1 { s1 with heap := h' } := I1.kept (t' := s1.toks) hk
    refine ⟨s1.heap.objs.size + 1, [s1.heap.objs.size + 1, s1.heap.objs.size], _, _, H1, rfl, I2, turn_enumS x t (s1.heap.objs.size + 1) s1.heap.objs.size, ⟨⟨.none, he⟩, hit, Nat.succ_ne_self _, Nat.zero_le _⟩, fun b hb => ?_, q⟩
    have e' : b = s1.heap.objs.size + 1 ∨ b = s1.heap.objs.size := by simpa using hb
    have hle : s1.heap.objs.size ≤ b := by
      rcases e' with z | z
      · rw [z]; exact Nat.le_add_right _ _
      · rw [z]; exact Nat.le_refl _
    exact I1.fpOk hle (I1.hok.fresh hle)
theorem walk_enumS {x : Str} : Walk (Itse x) x.cps.size (fun _ => True) (fun i H v H' => ∃ T c, v = .ref T ∧ H T = none ∧ H' = upd H T (.tup [.int (i : Nat), .str ⟨#[c]⟩]) ∧ x.cps[i]? = some c) :=
  ⟨fun _ _ hi _ => hi, fun _ _ => Nat.le_refl _, fun _ _ _ _ _ _ y => y⟩
end L2

set_option Elab.async false
set_option linter.all false
set_option maxRecDepth 100000
set_option maxHeartbeats 4000000
namespace L2
open PySem PySem.Spec PyProof.Rows
/-! ### a list compared with an empty one -/
section
variable {X : Cx}
def rEq0 (K : PySem.W.Frag) : R2 := fun x y H Q => ∃ (a b : Addr) (xs : List V), x = .ref a ∧ y = .ref b ∧ SqL K H a xs ∧ SqL K H b [] ∧ Q (.bl xs.isEmpty) H
def rNe0 (K : PySem.W.Frag) : R2 := fun x y H Q => ∃ (a b : Addr) (xs : List V), x = .ref a ∧ y = .ref b ∧ SqL K H a xs ∧ SqL K H b [] ∧ Q (.bl (!xs.isEmpty)) H
theorem op_eq0 (hu : X.A.units < cLine) : OpR X (compareOp .Eq) (rEq0 X.K) := by
  intro pins s σ H x y v u Q I rx ry h
  obtain ⟨a, b, xs, rfl, rfl, ha, hb, q⟩ := h
  cases rx
  cases ry
  obtain ⟨i1, r1, p1, z1⟩ := I.list ha
  obtain ⟨i2, r2, p2, z2⟩ := I.list hb
  cases r2
  cases xs with
  | nil =>
    cases r1
    exact SeqAt.eq_listAt (e := fun _ => true) p1.isList p2.isList rfl hu (fun j h1 _ => absurd h1 (Nat.not_lt_zero _)) ⟨.bl true, H, I, rfl, q⟩
  | cons x r =>
    cases r1 with
    | cons h t => exact SeqAt.eq_list_lengthsAt p1.isList p2.isList (by simp) hu ⟨.bl false, H, I, rfl, q⟩
theorem op_ne0 (hu : X.A.units < cLine) : OpR X (compareOp .NotEq) (rNe0 X.K) := by
  intro pins s σ H x y v u Q I rx ry h
  obtain ⟨a, b, xs, rfl, rfl, ha, hb, q⟩ := h
  cases rx
  cases ry
  obtain ⟨i1, r1, p1, z1⟩ := I.list ha
  obtain ⟨i2, r2, p2, z2⟩ := I.list hb
  cases r2
  cases xs with
  | nil =>
    cases r1
    exact SeqAt.RcNeAt.lists (e := fun _ => true) p1.isList p2.isList rfl hu (fun j h1 _ => absurd h1 (Nat.not_lt_zero _)) X.prog X.w X.xe _ ⟨.bl false, H, I, rfl, q⟩
  | cons x r =>
    cases r1 with
    | cons h t => exact SeqAt.RcNeAt.lists_lengths p1.isList p2.isList (by simp) hu X.prog X.w X.xe _ ⟨.bl true, H, I, rfl, q⟩
end
end L2

set_option Elab.async false
set_option linter.all false
set_option maxRecDepth 100000
set_option maxHeartbeats 4000000
namespace FR
open PySem L2
abbrev Ex := Evl.Ex
/-- tuples stay -/
def Tu (H H' : Hp) : Prop := ∀ b xs, H b = some (.tup xs) → H' b = some (.tup xs)
theorem Tu.refl (H : Hp) : Tu H H := fun _ _ h => h
theorem Tu.trans {H H1 H2 : Hp} (a : Tu H H1) (b : Tu H1 H2) : Tu H H2 := fun x o h => b x o (a x o h)
theorem tu_ex {H H' : Hp} (e : Ex H H') : Tu H H' := fun b xs h => e b _ h
theorem tu_upd {H : Hp} {l : Addr} {o u : HO} (h : H l = some u) (hn : ∀ xs, u ≠ .tup xs) : Tu H (upd H l o) := fun b xs hb => by
  rw [upd_ne (ne_of hb h fun e => hn xs e.symm)]
  exact hb
theorem tu_new {H : Hp} {l : Addr} {o : HO} (h : H l = none) : Tu H (upd H l o) := tu_ex (Evl.Ex.new h)

section
variable {α β : Type} {F : α → β → Prop} {l : List α} {m : List β}
theorem pr_get {i : Nat} {y : β} (h : Paired F l m) : m[i]? = some y → ∃ x, l[i]? = some x ∧ F x y := by
  induction h generalizing i with
  | nil => intro e; simp at e
  | @cons a b l m h t ih =>
    cases i with
    | zero => intro e; exact ⟨a, rfl, by have : b = y := Option.some.inj e; exact this ▸ h⟩
    | succ i => intro e; exact ih e
theorem pr_get' {i : Nat} {x : α} (h : Paired F l m) : l[i]? = some x → ∃ y, m[i]? = some y ∧ F x y := by
  induction h generalizing i with
  | nil => intro e; simp at e
  | @cons a b l m h t ih =>
    cases i with
    | zero => intro e; exact ⟨b, rfl, by have : a = x := Option.some.inj e; exact this ▸ h⟩
    | succ i => intro e; exact ih e
theorem pr_append {l' : List α} {m' : List β} (h : Paired F l m) (h' : Paired F l' m') : Paired F (l ++ l') (m ++ m') := by
  induction h with
  | nil => exact h'
  | cons h t ih => exact .cons h ih
theorem pr_dropLast (h : Paired F l m) : Paired F l.dropLast m.dropLast := by
  induction h with
  | nil => exact .nil
  | cons r t ih =>
    cases t with
    | nil => exact .nil
    | cons q t' => exact .cons r ih
theorem pr_take (h : Paired F l m) (n : Nat) : Paired F (l.take n) (m.take n) := by
  induction h generalizing n with
  | nil => cases n <;> exact .nil
  | cons r t ih => cases n with
    | zero => exact .nil
    | succ n => exact .cons r (ih n)
theorem pr_drop (h : Paired F l m) (n : Nat) : Paired F (l.drop n) (m.drop n) := by
  induction h generalizing n with
  | nil => cases n <;> exact .nil
  | cons r t ih => cases n with
    | zero => exact .cons r t
    | succ n => exact ih n
theorem pr_reverse (h : Paired F l m) : Paired F l.reverse m.reverse := by
  induction h with
  | nil => exact .nil
  | cons r t ih => rw [List.reverse_cons, List.reverse_cons]; exact pr_append ih (.cons r .nil)
theorem pr_map {f : β → α} (h : ∀ b, F (f b) b) : ∀ m : List β, Paired F (m.map f) m
  | [] => .nil
  | b :: m => .cons (h b) (pr_map h m)
theorem pr_eq {f : β → α} (h : Paired (fun a b => a = f b) l m) : l = m.map f := by
  induction h with
  | nil => rfl
  | cons h t ih => rw [List.map_cons, ← ih, h]
theorem pr_nil (h : Paired F l m) (e : l.isEmpty = true) : m = [] := by
  cases h with
  | nil => rfl
  | cons _ _ => cases e
theorem pr_nil' (h : Paired F l m) (e : l.isEmpty = false) : m ≠ [] := by
  cases h with
  | nil => cases e
  | cons _ _ => exact List.cons_ne_nil _ _
theorem pr_isEmpty (h : Paired F l m) : l.isEmpty = m.isEmpty := by
  cases h <;> rfl
end

/-- what a value is, over a heap; it leans on tuples alone -/
def Mono {α : Type} (R : Hp → V → α → Prop) : Prop := ∀ H H' v x, Tu H H' → R H v x → R H' v x
def PInt (_ : Hp) (v : V) (i : Int) : Prop := v = .int i
def PNat (_ : Hp) (v : V) (i : Nat) : Prop := v = .int (i : Int)
def PStr (_ : Hp) (v : V) (s : Str) : Prop := v = .str s
def NodeAt (H : Hp) (v : V) (n : Node) : Prop := ∃ a, v = .ref a ∧ H a = some (.tup (n.map kV))
def WayAt (H : Hp) (v : V) (w : List Node) : Prop := ∃ a vs, v = .ref a ∧ H a = some (.tup vs) ∧ Paired (NodeAt H) vs w
def RuleAt (H : Hp) (v : V) (ρ : Rl) : Prop := ∃ a p, v = .ref a ∧ H a = some (.tup [.str ρ.hd, .ref p, .int ρ.wo]) ∧ H p = some (.tup (ρ.ps.map .str))
theorem mPInt : Mono PInt := fun _ _ _ _ _ h => h
theorem mPNat : Mono PNat := fun _ _ _ _ _ h => h
theorem mPStr : Mono PStr := fun _ _ _ _ _ h => h
theorem mNode : Mono NodeAt := fun _ _ _ _ t ⟨a, e, h⟩ => ⟨a, e, t _ _ h⟩
theorem mWay : Mono WayAt := fun _ _ _ _ t ⟨a, vs, e, h, p⟩ => ⟨a, vs, e, t _ _ h, Paired.mono (fun _ _ => mNode _ _ _ _ t) p⟩
theorem mRule : Mono RuleAt := fun _ _ _ _ t ⟨a, p, e, h, g⟩ => ⟨a, p, e, t _ _ h, t _ _ g⟩
/-- a list of such -/
def LstAt {α : Type} (R : Hp → V → α → Prop) (H : Hp) (l : Addr) (xs : List α) : Prop := ∃ vs, H l = some (.lst vs) ∧ Paired (R H) vs xs
section
variable {α : Type} {R : Hp → V → α → Prop} {H H' : Hp} {l : Addr} {xs : List α}
theorem LstAt.keep (m : Mono R) (h : LstAt R H l xs) (t : Tu H H') (e : ∀ o, H l = some o → H' l = some o) : LstAt R H' l xs :=
  let ⟨vs, h1, p⟩ := h
  ⟨vs, e _ h1, Paired.mono (fun _ _ => m _ _ _ _ t) p⟩
theorem LstAt.ex (m : Mono R) (h : LstAt R H l xs) (e : Ex H H') : LstAt R H' l xs := h.keep m (tu_ex e) fun o q => e _ _ q
theorem LstAt.nil : LstAt R (upd H l (.lst [])) l [] := ⟨[], upd_same, .nil⟩
theorem LstAt.nw (m : Mono R) {vs : List V} (t : Tu H (upd H l (.lst vs))) (p : Paired (R H) vs xs) : LstAt R (upd H l (.lst vs)) l xs := ⟨vs, upd_same, Paired.mono (fun _ _ => m _ _ _ _ t) p⟩
end
theorem sq {K : PySem.W.Frag} {H : Hp} {a : Addr} {xs : List V} (h : H a = some (.lst xs)) : SqL K H a xs := .inl (.inl h)
theorem st {K : PySem.W.Frag} {H : Hp} {a : Addr} {xs : List V} (h : H a = some (.tup xs)) : SqT K H a xs := .inl (.inl h)

/-- the footprint: all but M stays; M grows by what is new -/
structure Fr (M M' : Addr → Prop) (H H' : Hp) : Prop where
  keep : ∀ b o, H b = some o → ¬ M b → H' b = some o
  tup : Tu H H'
  grow : ∀ b, M' b → M b ∨ H b = none
theorem Fr.refl {M : Addr → Prop} (H : Hp) : Fr M M H H := ⟨fun _ _ h _ => h, Tu.refl H, fun _ h => .inl h⟩
theorem Fr.ex {M : Addr → Prop} {H H' : Hp} (e : Ex H H') : Fr M M H H' := ⟨fun b o h _ => e b o h, tu_ex e, fun _ h => .inl h⟩
theorem Fr.trans {M M1 M2 : Addr → Prop} {H H1 H2 : Hp} (a : Fr M M1 H H1) (b : Fr M1 M2 H1 H2) : Fr M M2 H H2 := by
  refine ⟨fun c o h hm => ?_, a.tup.trans b.tup, fun c hc => ?_⟩
  · refine b.keep c o (a.keep c o h hm) fun h1 => ?_
    rcases a.grow c h1 with g | g
    · exact hm g
    · rw [h] at g; cases g
  · rcases b.grow c hc with g | g
    · exact a.grow c g
    · by_cases hm : M c
      · exact .inl hm
      · refine .inr ?_
        cases q : H c with
        | none => rfl
        | some o =>
          rw [a.keep c o q hm] at g
          cases g
/-- M is new over H0: so H0 stays -/
theorem Fr.new {M M' : Addr → Prop} {H0 H H' : Hp} (f : Fr M M' H H') (e : Ex H0 H) (hM : ∀ b, M b → H0 b = none) : Ex H0 H' ∧ ∀ b, M' b → H0 b = none := by
  refine ⟨fun b o h => f.keep b o (e b o h) fun hm => ?_, fun b hb => ?_⟩
  · rw [hM b hm] at h; cases h
  · rcases f.grow b hb with g | g
    · exact hM b g
    · exact Evl.fresh_back e g

/-! ### a dict of lists -/
section
variable {κ : Type} [DecidableEq κ] {α : Type}
structure LD (mk : List (κ × V) → HO) (R : Hp → V → α → Prop) (H : Hp) (d : Addr) (ad : κ → Option Addr) (c : κ → List α) (n : Nat) : Prop where
  dic : ∃ kvs, H d = some (mk kvs) ∧ kvs.length ≤ n ∧ ∀ k, valV kvs k = (ad k).map V.ref
  its : ∀ k l, ad k = some l → LstAt R H l (c k)
  non : ∀ k, ad k = none → c k = []
  inj : ∀ k k' l, ad k = some l → ad k' = some l → k = k'
  out : ∀ k l, ad k = some l → l ≠ d
def upc (c : κ → List α) (k : κ) (x : α) : κ → List α := fun k' => if k' = k then c k ++ [x] else c k'
theorem upc_same {c : κ → List α} {k : κ} {x : α} : upc c k x k = c k ++ [x] := if_pos rfl
theorem upc_ne {c : κ → List α} {k k' : κ} {x : α} (h : k' ≠ k) : upc c k x k' = c k' := if_neg h
def upa (ad : κ → Option Addr) (k : κ) (l : Addr) : κ → Option Addr := fun k' => if k' = k then some l else ad k'
theorem LD.keep {mk : List (κ × V) → HO} {R : Hp → V → α → Prop} {H H' : Hp} {d : Addr} {ad : κ → Option Addr} {c : κ → List α} {n : Nat} (m : Mono R) (h : LD mk R H d ad c n) (t : Tu H H') (e : ∀ o, H d = some o → H' d = some o)
    (e2 : ∀ k l, ad k = some l → ∀ o, H l = some o → H' l = some o) : LD mk R H' d ad c n :=
  ⟨let ⟨kvs, h1, h2, h3⟩ := h.dic; ⟨kvs, e _ h1, h2, h3⟩, fun k l q => (h.its k l q).keep m t (e2 k l q), h.non, h.inj, h.out⟩
theorem LD.ex {mk : List (κ × V) → HO} {R : Hp → V → α → Prop} {H H' : Hp} {d : Addr} {ad : κ → Option Addr} {c : κ → List α} {n : Nat} (m : Mono R) (h : LD mk R H d ad c n) (e : Ex H H') : LD mk R H' d ad c n :=
  h.keep m (tu_ex e) (fun o q => e _ _ q) fun _ _ _ o q => e _ _ q
/-- the list that is got: the one that stands, or the new one -/
theorem LD.nw {mk : List (κ × V) → HO} {R : Hp → V → α → Prop} {H : Hp} {d : Addr} (h : H d = some (mk [])) : LD mk R H d (fun _ => none) (fun _ => ([] : List α)) 0 :=
  ⟨⟨[], h, Nat.zero_le _, fun _ => rfl⟩, (fun _ _ q => nomatch q), (fun _ _ => rfl), (fun _ _ _ q => nomatch q), (fun _ _ q => nomatch q)⟩
/-- an item behind the list that stands at k -/
theorem LD.push1 {mk : List (κ × V) → HO} {R : Hp → V → α → Prop} {H : Hp} {d : Addr} {ad : κ → Option Addr} {c : κ → List α} {n : Nat} (m : Mono R) (h : LD mk R H d ad c n) {k : κ} {l : Addr} {vs : List V} {v : V} {x : α} (hk : ad k = some l) (hl : H l = some (.lst vs)) (hp : Paired (R H) vs (c k)) (hv : R H v x) :
    LD mk R (upd H l (.lst (vs ++ [v]))) d ad (upc c k x) n := by
  have t : Tu H (upd H l (.lst (vs ++ [v]))) := tu_upd hl fun _ e => nomatch e
  refine ⟨?_, fun k' l' q => ?_, fun k' q => ?_, h.inj, h.out⟩
  · obtain ⟨kvs, h1, h2, h3⟩ := h.dic
    exact ⟨kvs, by rw [upd_ne (h.out k l hk).symm]; exact h1, h2, h3⟩
  · by_cases e : k' = k
    · subst e
      rw [hk] at q
      cases q
      rw [upc_same]
      exact ⟨_, upd_same, Paired.snoc (Paired.mono (fun _ _ => m _ _ _ _ t) hp) (m _ _ _ _ t hv)⟩
    · rw [upc_ne e]
      refine (h.its k' l' q).keep m t fun o qo => ?_
      rw [upd_ne (fun z : l' = l => e (h.inj k' k l (by rw [← z]; exact q) hk))]
      exact qo
  · by_cases e : k' = k
    · subst e
      rw [hk] at q
      cases q
    · rw [upc_ne e]
      exact h.non k' q
/-- a new list of one item at k -/
theorem LD.push2 {mk : List (κ × V) → HO} {R : Hp → V → α → Prop} {H : Hp} {d : Addr} {ad : κ → Option Addr} {c : κ → List α} {n : Nat} (m : Mono R) (h : LD mk R H d ad c n) {k : κ} {l : Addr} {v : V} {x : α} {kvs : List (κ × V)} (hk : ad k = none) (hkv : H d = some (mk kvs)) (hmk : ∀ kvs' xs, mk kvs' ≠ .tup xs) (hmi : ∀ a b, mk a = mk b → a = b)
    (hl : H l = none) (hv : R H v x) :
    LD mk R (upd (upd H d (mk (putK kvs k (.ref l)))) l (.lst [v])) d (upa ad k l) (upc c k x) (n + 1) := by
  have hne : l ≠ d := fun e => by rw [e, hkv] at hl; cases hl
  have t1 : Tu H (upd H d (mk (putK kvs k (.ref l)))) := tu_upd hkv (hmk kvs)
  have hl1 : (upd H d (mk (putK kvs k (.ref l)))) l = none := by rw [upd_ne hne]; exact hl
  have t : Tu H (upd (upd H d (mk (putK kvs k (.ref l)))) l (.lst [v])) := t1.trans (tu_new hl1)
  have adl : ∀ k' , ad k' ≠ some l := fun k' q => by
    obtain ⟨vs, q1, _⟩ := h.its k' l q
    rw [hl] at q1
    cases q1
  refine ⟨⟨putK kvs k (.ref l), ?_, ?_, fun k' => ?_⟩, fun k' l' q => ?_, fun k' q => ?_, fun k1 k2 l' q1 q2 => ?_, fun k' l' q => ?_⟩
  · rw [upd_ne hne.symm, upd_same]
  · obtain ⟨kvs', h1, h2, h3⟩ := h.dic
    rw [hkv] at h1
    have := hmi _ _ (Option.some.inj h1)
    subst this
    exact Nat.le_trans (length_putK kvs k _) (Nat.succ_le_succ h2)
  · obtain ⟨kvs', h1, h2, h3⟩ := h.dic
    rw [hkv] at h1
    have := hmi _ _ (Option.some.inj h1)
    subst this
    rw [valV_put]
    unfold upa
    by_cases e : k' = k
    · rw [if_pos e, if_pos e] <;> rfl
    · rw [if_neg e, if_neg e]
      exact h3 k'
  · unfold upa at q
    by_cases e : k' = k
    · subst e
      rw [if_pos rfl] at q
      cases q
      rw [upc_same, h.non k' hk]
      exact ⟨[v], upd_same, .cons (m _ _ _ _ t hv) .nil⟩
    · rw [if_neg e] at q
      rw [upc_ne e]
      refine (h.its k' l' q).keep m t fun o qo => ?_
      rw [upd_ne (fun z : l' = l => adl k' (by rw [← z]; exact q)), upd_ne (h.out k' l' q)]
      exact qo
  · unfold upa at q
    by_cases e : k' = k
    · rw [if_pos e] at q
      cases q
    · rw [if_neg e] at q
      rw [upc_ne e]
      exact h.non k' q
  · unfold upa at q1 q2
    by_cases e1 : k1 = k
    · rw [if_pos e1] at q1
      by_cases e2 : k2 = k
      · exact e1.trans e2.symm
      · rw [if_neg e2] at q2
        cases q1
        exact absurd q2 (adl k2)
    · rw [if_neg e1] at q1
      by_cases e2 : k2 = k
      · rw [if_pos e2] at q2
        cases q2
        exact absurd q1 (adl k1)
      · rw [if_neg e2] at q2
        exact h.inj k1 k2 l' q1 q2
  · unfold upa at q
    by_cases e : k' = k
    · rw [if_pos e] at q
      cases q
      exact hne
    · rw [if_neg e] at q
      exact h.out k' l' q
end

/-! ### d.setdefault(key, []).append(item) -/
section
variable {K : PySem.W.Frag} {α : Type} {R : Hp → V → α → Prop} {σ : L2.St} {H : Hp} {td ty te : TE} {D : Ends}
/-- a new list in the place of what stands nowhere yet -/
theorem upd_comm {H : Hp} {a b : Addr} {o u : HO} (h : a ≠ b) : upd (upd H a o) b u = upd (upd H b u) a o := by
  funext c
  unfold upd
  by_cases h1 : c = b
  · rw [if_pos h1, h1, if_neg h.symm, if_pos rfl]
  · rw [if_neg h1, if_neg h1]
theorem s_pushT {d : Addr} {ad : List Key → Option Addr} {c : List Key → List α} {n : Nat} {k : List Key} {x : α} (m : Mono R) (L : LD .dT R H d ad c n) (hn : n < sizeLine) (hc : (c k).length < sizeLine)
    (hd : ∀ Q : VK, Q (.ref d) H → td σ H Q)
    (hk : ∀ Q : VK, (∀ b H2, Ex H H2 → H2 b = some (.tup (k.map kV)) → Q (.ref b) H2) → ty σ H Q)
    (he : ∀ H1, Tu H H1 → ∀ Q : VK, (∀ v H2, Ex H1 H2 → R H2 v x → Q v H2) → te σ H1 Q)
    (q : ∀ ad' H', LD .dT R H' d ad' (upc c k x) (n + 1) → (∀ b o, H b = some o → b ≠ d → (∀ k' , ad k' ≠ some b) → H' b = some o) → Tu H H' → (∀ k' l, ad' k' = some l → ad k' = some l ∨ H l = none) → D.nx σ H') :
    tDrop (tBM K "list" rAppend (tDSetdT td ty (tLst tNil)) (tCons te tNil)) D σ H := by
  refine hd _ ?_
  obtain ⟨kvs0, d0, l0, v0⟩ := L.dic
  refine ⟨d, rfl, .inr ⟨kvs0, .inl d0⟩, hk _ fun b H2 e2 hb => ⟨Nat.zero_le _, fun p hp => ?_⟩⟩
  have e3 : Ex H (upd H2 p (.lst [])) := e2.trans (Evl.Ex.new hp)
  have L3 : LD .dT R (upd H2 p (.lst [])) d ad c n := L.ex m e3
  have hp0 : H p = none := Evl.fresh_back e2 hp
  have hpd : p ≠ d := fun e => by rw [e, d0] at hp0; cases hp0
  have hadp : ∀ k', ad k' ≠ some p := fun k' q1 => by
    obtain ⟨vs, q2, _⟩ := L.its k' p q1
    rw [hp0] at q2
    cases q2
  have d3 := e3 _ _ d0
  refine ⟨kvs0, k, b, d3, rfl, Evl.Ex.new hp _ _ hb, Nat.lt_of_le_of_lt l0 hn, fun v hv => ?_, fun hv => ?_⟩
  · -- it stands
    rw [v0] at hv
    obtain ⟨l, hl, rfl⟩ := Option.map_eq_some_iff.mp hv
    obtain ⟨vs, hl3, pr⟩ := L3.its k l hl
    refine ⟨.inl ⟨rfl, vs, sq hl3⟩, he _ (tu_ex e3) _ fun v H4 e4 rv => ?_⟩
    have L4 := L3.ex m e4
    have hl4 := e4 _ _ hl3
    have pr4 := Paired.mono (fun _ _ => m _ _ _ _ (tu_ex e4)) pr
    refine ⟨l, vs, v, rfl, rfl, hl4, by rw [Paired.length pr]; exact hc, ?_⟩
    have L5 := L4.push1 m hl hl4 pr4 rv
    refine q ad _ ⟨?_, L5.its, L5.non, L5.inj, L5.out⟩ (fun c o hc hcd hca => ?_) ((tu_ex (e3.trans e4)).trans (tu_upd hl4 fun _ z => nomatch z)) fun k' l' hq => .inl hq
    · obtain ⟨kvs, h1, h2, h3⟩ := L5.dic
      exact ⟨kvs, h1, by omega, h3⟩
    · rw [upd_ne (fun z : c = l => hca k (by rw [z]; exact hl))]
      exact (e3.trans e4) _ _ hc
  · -- it is new
    rw [v0] at hv
    have hk0 : ad k = none := Option.map_eq_none_iff.mp hv
    have hp3 : (upd (upd H2 p (.lst [])) d (.dT (putK kvs0 k (.ref p)))) p = some (.lst []) := by rw [upd_ne hpd, upd_same]
    refine ⟨.inl ⟨rfl, [], sq hp3⟩, he _ ((tu_ex e3).trans (tu_upd d3 fun _ z => nomatch z)) _ fun v H4 e4 rv => ?_⟩
    refine ⟨p, [], v, rfl, rfl, e4 _ _ hp3, by decide, ?_⟩
    rw [List.nil_append]
    -- by way of a heap in which p is not yet
    have d4 : H4 d = some (.dT (putK kvs0 k (.ref p))) := e4 _ _ upd_same
    let G : Hp := fun b => if b = p then none else if b = d then some (.dT kvs0) else H4 b
    have gp : G p = none := if_pos rfl
    have gd : G d = some (.dT kvs0) := by
      show (if d = p then none else if d = d then some (HO.dT kvs0) else H4 d) = _
      rw [if_neg hpd.symm, if_pos rfl]
    have gne : ∀ b, b ≠ p → b ≠ d → G b = H4 b := fun b h1 h2 => by
      show (if b = p then none else if b = d then some (HO.dT kvs0) else H4 b) = _
      rw [if_neg h1, if_neg h2]
    have gu : upd (upd G d (.dT (putK kvs0 k (.ref p)))) p (.lst [v]) = upd H4 p (.lst [v]) := by
      funext b
      by_cases h1 : b = p
      · rw [h1, upd_same, upd_same]
      · rw [upd_ne h1, upd_ne h1]
        by_cases h2 : b = d
        · rw [h2, upd_same, d4]
        · rw [upd_ne h2, gne b h1 h2]
    have hHG : ∀ b o, H b = some o → G b = some o := fun b o hb => by
      by_cases h2 : b = d
      · rw [h2] at hb ⊢
        rw [gd, ← d0, hb]
      · have h1 : b ≠ p := fun z => by rw [z, hp0] at hb; cases hb
        rw [gne b h1 h2]
        exact e4 _ _ (by rw [upd_ne h2]; exact e3 _ _ hb)
    have tG : Tu H G := fun b xs hb => hHG b _ hb
    have LG : LD .dT R G d ad c n := L.keep m tG (fun o ho => hHG _ _ ho) fun k' l' _ o ho => hHG _ _ ho
    have tG4 : Tu H4 G := fun b xs hb => by
      have h1 : b ≠ p := fun z => by rw [z, e4 _ _ hp3] at hb; cases hb
      have h2 : b ≠ d := fun z => by rw [z, d4] at hb; cases hb
      rw [gne b h1 h2]
      exact hb
    have L5 := LG.push2 m hk0 gd (fun _ _ z => nomatch z) (fun _ _ z => by cases z; rfl) gp (m _ _ _ _ tG4 rv)
    rw [gu] at L5
    refine q _ _ L5 (fun b o hb hbd hba => ?_) ?_ fun k' l' hq => ?_
    · have h1 : b ≠ p := fun z => by rw [z, hp0] at hb; cases hb
      rw [upd_ne h1, ← gne b h1 hbd]
      exact hHG _ _ hb
    · intro b xs hb
      have h1 : b ≠ p := fun z => by rw [z, hp0] at hb; cases hb
      have h2 : b ≠ d := fun z => by rw [z, d0] at hb; cases hb
      rw [upd_ne h1, ← gne b h1 h2]
      exact hHG _ _ hb
    · unfold upa at hq
      by_cases e : k' = k
      · rw [if_pos e] at hq
        cases hq
        exact .inr hp0
      · rw [if_neg e] at hq
        exact .inl hq
end
end FR

set_option Elab.async false
set_option linter.all false
set_option maxRecDepth 100000
set_option maxHeartbeats 4000000
namespace FR
open PySem L2
def topS (i : Nat) : Stmt := PySem.Challenge.pw_forestread_k32_whole_rings.main.body.getD i (.Pass ⟨0, 0, 0, 0⟩)
abbrev sOwners : Stmt := topS 2
abbrev sSettled : Stmt := topS 3
abbrev sUnset : Stmt := topS 4
abbrev sRing : Stmt := topS 5
abbrev sIsWhole : Stmt := topS 12
abbrev sMayStand : Stmt := topS 13
abbrev sIsSign : Stmt := topS 14
abbrev sIsName : Stmt := topS 15
abbrev sCText : Stmt := topS 16
abbrev sAreParts : Stmt := topS 21
abbrev sIsRule : Stmt := topS 22
abbrev sChecked : Stmt := topS 23
abbrev sByHead : Stmt := topS 24
abbrev sFirst : Stmt := topS 26
abbrev sCInit : Stmt := inClass (topS 27) 0
abbrev sOffer : Stmt := inClass (topS 27) 1
abbrev sTPart : Stmt := inClass (topS 27) 2
abbrev sTParts : Stmt := inClass (topS 27) 3
abbrev sTLevel : Stmt := inClass (topS 27) 4
abbrev sRise : Stmt := inClass (topS 27) 5
abbrev sHeights : Stmt := topS 28
abbrev sWParts : Stmt := topS 30
abbrev sWHead : Stmt := topS 31
abbrev sWOver : Stmt := topS 32
abbrev sWInit : Stmt := inClass (topS 33) 0
abbrev sReach : Stmt := inClass (topS 33) 1
abbrev sNodes : Stmt := inClass (topS 33) 5
abbrev sWays : Stmt := inClass (topS 33) 6
abbrev sCell : Stmt := topS 35
abbrev sMixed : Stmt := topS 36
abbrev sSigns : Stmt := topS 37
abbrev sNames : Stmt := topS 38
abbrev sWorth : Stmt := topS 39
abbrev sParts : Stmt := topS 40
abbrev sGram : Stmt := topS 41
abbrev sShorts : Stmt := topS 42
abbrev sNeed : Stmt := topS 43
abbrev sOpen : Stmt := topS 44
abbrev sRow : Stmt := topS 45
abbrev sRead : Stmt := topS 46
abbrev sTree : Stmt := topS 47
abbrev sRound : Stmt := topS 48
abbrev sLaw : Stmt := topS 49

/-- the names that the module leaves to the built-ins -/
structure Txt (K : PySem.W.Frag) (mg : Str → Option Value) : Prop where
  isi : mg "isinstance" = none
  int : mg "int" = none
  bool : mg "bool" = none
  str : mg "str" = none
  tuple : mg "tuple" = none
  list : mg "list" = none
  len : mg "len" = none
  ord : mg "ord" = none
  sum : mg "sum" = none
  enumerate : mg "enumerate" = none
  range : mg "range" = none
  reversed : mg "reversed" = none
  signs : ∃ t, mg "MOST_SIGNS" = some (.int 60 t)
  rules : ∃ t, mg "MOST_RULES" = some (.int 60 t)
  parts : ∃ t, mg "MOST_PARTS" = some (.int 6 t)
  worth : ∃ t, mg "MOST_WORTH" = some (.int (10 ^ 60) t)
theorem bt_isi : bootBuiltins "isinstance" = some (.builtin "isinstance") := by decide +kernel
theorem bt_int : bootBuiltins "int" = some (.type "int") := by decide +kernel
theorem bt_bool : bootBuiltins "bool" = some (.type "bool") := by decide +kernel
theorem bt_str : bootBuiltins "str" = some (.type "str") := by decide +kernel
theorem bt_tuple : bootBuiltins "tuple" = some (.type "tuple") := by decide +kernel
theorem bt_list : bootBuiltins "list" = some (.type "list") := by decide +kernel
theorem bt_len : bootBuiltins "len" = some (.builtin "len") := by decide +kernel
theorem bt_ord : bootBuiltins "ord" = some (.builtin "ord") := by decide +kernel
theorem bt_sum : bootBuiltins "sum" = some (.builtin "sum") := by decide +kernel

/-- a def of the module, ready to be called -/
structure FnG (P : Program) (w : World) (K : PySem.W.Frag) (mg : Str → Option Value) (base : Heap) (x : Str) (k : Nat) (ps : List Str) (sp : Sp) (f : Addr) (fd : FuncData) : Prop where
  ok : FnOk P w K mg base CX0 k f fd ps sp
  g : mg x = some (.ref f)
  kp : PySem.W.keepIn K (.ref f) = true
  b : Binds K fd ps []
theorem pe_f {X : Cx} {x : Str} {k : Nat} {ps : List Str} {sp : Sp} {f : Addr} {fd : FuncData} {e : Expr} {es : List Expr} {p pos : Pos} {t : TA} (G : FnG X.prog X.w X.K X.mg X.base x k ps sp f fd) (hr : Room k X.A) (hg : Gl X x) (ha : PA X (e :: es) t)
    (hdb : (x == ("__debug__" : Str)) = false := by decide) (hs : starEach (e :: es) X.env = (false, eval e X.env) :: starEach es X.env := by rfl) (hpl : (backTo pos (starEach es X.env)).any (·.1) = false := by rfl) :
    PE X (.Call (.Name x p) (e :: es) [] pos) (tCall sp [] E0 t) := pe_call G.ok hr hg G.g G.kp G.b .nil pass0 ha hdb hs hpl
theorem isi {K : PySem.W.Frag} {H : Hp} {x : V} {t T : String} {b : Bool} {Q : VK} (h : TyOf K H x (.type t)) (e : kitB t T = some b) (q : Q (.bl b) H) : rIsi K [x, .ty T] H Q :=
  ⟨x, .ty T, .type t, .type T, b, rfl, .ty T, .base h, kit_ty e, q⟩
theorem nxt {D : Ends} {σ : L2.St} {H : Hp} (h : D.nx σ H) : tNext D σ H := h
theorem sqn {t u : TS} {D : Ends} {σ : L2.St} {H : Hp} (h : t { D with nx := u D } σ H) : tSeq t u D σ H := h
theorem pe_imp {X : Cx} {e : Expr} {t t' : TE} (h : PE X e t) (i : ∀ σ H Q, t' σ H Q → t σ H Q) : PE X e t' := ⟨fun pins s σ H Q I q => h.run pins s σ H Q I (i σ H Q q)⟩
def tIsi (K : PySem.W.Frag) (i : Nat) (T : String) : TE := fun σ H Q => ∃ v t b, σ[i]? = some (some v) ∧ TyOf K H v (.type t) ∧ kitB t T = some b ∧ Q (.bl b) H
theorem pe_isi {X : Cx} {x T : Str} {p p1 p2 pos : Pos} {ty : String} (i : Nat) (hm : X.mg "isinstance" = none) (hT : X.mg T = none) (hb : bootBuiltins T = some (.type ty)) (hN : X.N[i]? = some x := by rfl) (hv : Vis X.env.scope x := by first | exact Or.inl rfl | exact Or.inr (Or.inl rfl) | exact Or.inr (Or.inr rfl))
    (hg : Gl X "isinstance" := by rfl) (hg2 : Gl X T := by rfl) (h1 : (x == ("__debug__" : Str)) = false := by decide) (h2 : (x == ("__classdict__" : Str)) = false := by decide)
    (hn : T ≠ "__name__" := by decide) (hd : (T == ("__debug__" : Str)) = false := by decide) : PE X (.Call (.Name "isinstance" p) [.Name x p1, .Name T p2] [] pos) (tIsi X.K i ty) := by
  refine pe_imp (pe_callB call_isi hg hm bt_isi (pa_cons (pe_var hN hv h1 h2) (pa_cons (pe_bltn (v := .ty ty) hg2 hT hb rfl hn hd) pa_nil))) (fun σ H Q h => ?_)
  obtain ⟨v, t, b, h1, h2, h3, q⟩ := h
  exact ⟨v, h1, isi h2 h3 q⟩
end FR

set_option Elab.async false
set_option linter.all false
set_option maxRecDepth 100000
set_option maxHeartbeats 4000000
namespace FR
open PySem L2
section
variable {P : Program} {w : World} {K : PySem.W.Frag} {mg : Str → Option Value} {base : Heap}
/-! ### is_whole -/
theorem sc_is_whole : FnScope ["thing"] ["thing"] (defScope sIsWhole) := ⟨rfl, rfl, rfl, by decide +kernel, rfl, by decide +kernel, by decide +kernel⟩
def sp_is_whole : Sp := fun vs H Q _ => ∃ i : Int, vs = [.int i] ∧ Q (.bl true) H
theorem ok_is_whole {f : Addr} {fd : FuncData} {k : Nat} (F : Fun K "is_whole" "is_whole" sIsWhole f fd) (T : Txt K mg) : FnOk P w K mg base CX0 (k + 1) f fd ["thing"] sp_is_whole := by
  refine F.ok sc_is_whole (fun vs H Q E h => ?_) (fun cdv A outer s H vs Q E hr h => ?_)
  · obtain ⟨i, rfl, _⟩ := h
    rfl
  · obtain ⟨i, rfl, q⟩ := h
    refine ⟨_, pss_one (ps_ret (pe_and (pe_isi 0 T.isi T.int bt_int) (pe_one (pe_not (pe_isi 0 T.isi T.bool bt_bool))))), ?_⟩
    exact ⟨_, _, true, rfl, .int i, by decide +kernel, true, rfl, iteT ⟨_, _, false, rfl, .int i, by decide +kernel, false, rfl, q⟩⟩
/-! ### may_stand -/
def okC (c : Nat) : Bool := decide (32 ≤ c) && decide (c ≤ 126) && !decide (c = 37)
theorem le1 (a c : Nat) : decide (([c] : List Nat) < [a]) = decide (c < a) := by
  by_cases h : c < a
  · rw [decide_eq_true h, decide_eq_true]
    exact List.cons_lt_cons_iff.mpr (.inl h)
  · rw [decide_eq_false h, decide_eq_false]
    intro z
    rcases List.cons_lt_cons_iff.mp z with z | ⟨_, z⟩
    · exact h z
    · exact absurd z (by simp)
theorem sc_may_stand : FnScope ["sign"] ["sign"] (defScope sMayStand) := ⟨rfl, rfl, rfl, by decide +kernel, rfl, by decide +kernel, by decide +kernel⟩
def sp_may_stand : Sp := fun vs H Q _ => ∃ c : Nat, vs = [.str ⟨#[c]⟩] ∧ Q (.bl (okC c)) H
theorem ok_may_stand {f : Addr} {fd : FuncData} {k : Nat} (F : Fun K "may_stand" "may_stand" sMayStand f fd) (T : Txt K mg) : FnOk P w K mg base CX0 (k + 1) f fd ["sign"] sp_may_stand := by
  refine F.ok sc_may_stand (fun vs H Q E h => ?_) (fun cdv A outer s H vs Q E hr h => ?_)
  · obtain ⟨i, rfl, _⟩ := h
    rfl
  · obtain ⟨c, rfl, q⟩ := h
    refine ⟨_, pss_one (ps_ret (pe_and (pe_chain op_le_str op_le_str pe_str (pv 0) pe_str) (pe_one (pe_cmpR op_ne (pe_callB call_ord (by rfl) T.ord bt_ord (pa_cons (pv 0) pa_nil)) pe_int (nomark _))))), ?_⟩
    refine ⟨_, rfl, _, _, rfl, rfl, _, rfl, ?_⟩
    have e1 : (!decide ((⟨#[c]⟩ : Str).cps.toList < (Str.ofString " ").cps.toList)) = decide (32 ≤ c) := by
      rw [show (Str.ofString " ").cps.toList = [32] by decide +kernel]
      show (!decide (([c] : List Nat) < [32])) = _
      rw [le1]
      by_cases h : c < 32
      · rw [decide_eq_true h, decide_eq_false (by omega)] <;> rfl
      · rw [decide_eq_false h, decide_eq_true (by omega)] <;> rfl
    have e2 : (!decide ((Str.ofString "~").cps.toList < (⟨#[c]⟩ : Str).cps.toList)) = decide (c ≤ 126) := by
      rw [show (Str.ofString "~").cps.toList = [126] by decide +kernel]
      show (!decide (([126] : List Nat) < [c])) = _
      rw [le1]
      by_cases h : 126 < c
      · rw [decide_eq_true h, decide_eq_false (by omega)] <;> rfl
      · rw [decide_eq_false h, decide_eq_true (by omega)] <;> rfl
    unfold okC at q
    rw [e1]
    refine ite2 (fun h => ?_) (fun h => ?_)
    · rw [h] at q
      refine ⟨_, _, rfl, rfl, _, rfl, ?_⟩
      rw [e2]
      refine ite2 (fun h2 => ?_) (fun h2 => ?_)
      · rw [h2] at q
        refine ⟨_, rfl, _, rfl, rfl, rfl, ?_⟩
        have e3 : decide (V.int ((((⟨#[c]⟩ : Str).cps.getD 0 0 : Nat)) : Int) = V.int 37) = decide (c = 37) := by
          show decide (V.int (c : Int) = V.int 37) = _
          by_cases h3 : c = 37
          · subst h3; rfl
          · rw [decide_eq_false h3, decide_eq_false fun z => h3 (by have := V.int.inj z; omega)]
        rw [e3]
        exact q
      · rw [Bool.eq_false_iff.mpr h2] at q
        exact q
    · rw [Bool.eq_false_iff.mpr h] at q
      exact ⟨_, rfl, iteF q⟩
/-! ### is_sign -/
theorem iteY {c A B : Prop} [Decidable c] (h : c) (a : A) : if c then A else B := by
  rw [if_pos h]
  exact a
theorem iteN {c A B : Prop} [Decidable c] (h : ¬ c) (b : B) : if c then A else B := by
  rw [if_neg h]
  exact b
theorem str2 {z : Str} (h : z.length = 2) : ∃ a b, z = ⟨#[a, b]⟩ := by
  obtain ⟨⟨l⟩⟩ := z
  have h' : l.length = 2 := h
  match l, h' with
  | [a, b], _ => exact ⟨a, b, rfl⟩
theorem v1 (a c : Nat) : decide (V.str ⟨#[a]⟩ = V.str ⟨#[c]⟩) = decide (a = c) := by
  by_cases h : a = c
  · subst h; rw [decide_eq_true rfl, decide_eq_true rfl]
  · rw [decide_eq_false h, decide_eq_false]
    intro z
    have h1 : (⟨#[a]⟩ : Str) = ⟨#[c]⟩ := V.str.inj z
    have h2 : (#[a] : Array Nat) = #[c] := congrArg Str.cps h1
    have h3 : [a] = [c] := congrArg Array.toList h2
    exact h (List.head_eq_of_cons_eq h3)
theorem quo : (Str.ofString "'") = ⟨#[39]⟩ := by decide +kernel
theorem small100 {n : Nat} (h : n ≤ 100) : n ≤ sizeLine := Nat.le_trans h (by decide)
theorem sc_is_sign : FnScope ["thing"] ["thing"] (defScope sIsSign) := ⟨rfl, rfl, rfl, by decide +kernel, rfl, by decide +kernel, by decide +kernel⟩
def sp_is_sign : Sp := fun vs H Q _ => ∃ z : Str, vs = [.str z] ∧ z.length ≤ 100 ∧ ∀ b, (isSg z → b = true) → Q (.bl b) H
theorem ok_is_sign {f fM : Addr} {fd fdM : FuncData} {k : Nat} (F : Fun K "is_sign" "is_sign" sIsSign f fd) (T : Txt K mg) (G : FnG P w K mg base "may_stand" k ["sign"] sp_may_stand fM fdM) : FnOk P w K mg base CX0 (k + 1) f fd ["thing"] sp_is_sign := by
  refine F.ok sc_is_sign (fun vs H Q E h => ?_) (fun cdv A outer s H vs Q E hr h => ?_)
  · obtain ⟨i, rfl, _⟩ := h
    rfl
  · obtain ⟨z, rfl, hz, q⟩ := h
    have hz' := small100 hz
    refine ⟨_, pss_one (ps_ret (pe_and (pe_isi 0 T.isi T.str bt_str) (pe_and (pe_cmpR op_eq (pe_callB call_len_str (by rfl) T.len bt_len (pa_cons (pv 0) pa_nil)) pe_int (nomark _))
      (pe_and (pe_cmpR op_eq (pe_ix ix_str (pv 0) pe_int (fun _ _ => rfl)) pe_str (nomark _)) (pe_one (pe_f G hr (by rfl) (pa_cons (pe_ix ix_str (pv 0) pe_int (fun _ _ => rfl)) pa_nil))))))), ?_⟩
    refine ⟨_, _, true, rfl, .str z, by decide +kernel, true, rfl, iteT ?_⟩
    refine ⟨_, rfl, z, rfl, hz', rfl, _, rfl, ite2 (fun h => ?_) (fun h => ?_)⟩
    · have h2 : z.length = 2 := by
        have := V.int.inj (of_decide_eq_true h)
        omega
      obtain ⟨a, b, rfl⟩ := str2 h2
      refine ⟨_, rfl, _, 0, a, rfl, rfl, hz', atI_nat (j := 0) rfl, rfl, _, rfl, ?_⟩
      rw [quo, v1]
      refine ite2 (fun h3 => ?_) (fun h3 => ?_)
      · have h3 := of_decide_eq_true h3
        subst h3
        refine ⟨_, rfl, _, 1, b, rfl, rfl, hz', atI_nat (j := 1) rfl, b, rfl, q _ fun hs => ?_⟩
        obtain ⟨c, e, h4, h5, h6⟩ := hs
        have e2 : b = c := by
          have h1 : (#[39, b] : Array Nat) = #[39, c] := congrArg Str.cps e
          have h3 : [39, b] = [39, c] := congrArg Array.toList h1
          injection h3 with _ h3
          exact List.head_eq_of_cons_eq h3
        subst e2
        unfold okC
        rw [decide_eq_true h4, decide_eq_true h5, decide_eq_false h6]
        rfl
      · refine q false fun hs => ?_
        obtain ⟨c, e, _⟩ := hs
        have h1 : (#[a, b] : Array Nat) = #[39, c] := congrArg Str.cps e
        have h2 : [a, b] = [39, c] := congrArg Array.toList h1
        exact absurd (decide_eq_true (List.head_eq_of_cons_eq h2)) h3
    · refine q false fun hs => ?_
      obtain ⟨c, rfl, _⟩ := hs
      exact absurd (decide_eq_true rfl) h
/-! ### is_name -/
theorem sc_is_name : FnScope ["thing", "sign"] ["thing"] (defScope sIsName) := ⟨rfl, rfl, rfl, by decide +kernel, rfl, by decide +kernel, by decide +kernel⟩
def sp_is_name : Sp := fun vs H Q _ => ∃ z : Str, vs = [.str z] ∧ isNm z ∧ Q (.bl true) H
theorem ok_is_name {f : Addr} {fd : FuncData} {k : Nat} (F : Fun K "is_name" "is_name" sIsName f fd) (T : Txt K mg) : FnOk P w K mg base CX0 (k + 1) f fd ["thing"] sp_is_name := by
  refine F.ok sc_is_name (fun vs H Q E h => ?_) (fun cdv A outer s H vs Q E hr h => ?_)
  · obtain ⟨i, rfl, _⟩ := h
    rfl
  · obtain ⟨z, rfl, ⟨h1, h2, h3⟩, q⟩ := h
    have hz' : z.length ≤ sizeLine := small100 (by omega)
    refine ⟨_, pss_cons (ps_if (PW.pt (pw_or (pt_not (pt_val (pe_isi 0 T.isi T.str bt_str))) (pw_or1 (pt_not ((pt_chain op_le op_le pe_int (pe_callB call_len_str (by rfl) T.len bt_len (pa_cons (pv 0) pa_nil)) pe_int)))))) (pss_one (ps_ret pe_bl)) pss_nil)
      (pss_cons (ps_for PassesOwn.never rfl (pi_str (pv 0)) (pg_name (i := 1) sc_is_name.nd rfl (Or.inl rfl)) (pss_one (ps_if (pt_not ((pt_chain op_le_str op_le_str pe_str (pv 1) pe_str))) (pss_one (ps_ret pe_bl)) pss_nil)))
      (pss_one (ps_ret pe_bl))), ?_⟩
    refine ⟨_, _, true, rfl, .str z, by decide +kernel, true, rfl, iteF ?_⟩
    refine ⟨_, rfl, z, rfl, hz', _, _, rfl, rfl, _, rfl, iteY (decide_eq_true (by omega)) ⟨_, _, rfl, rfl, _, rfl, ?_⟩⟩
    rw [show decide ((z.length : Int) ≤ 8) = true from decide_eq_true (by omega)]
    refine iteF ?_
    refine ⟨_, rfl, z, rfl, for_it walk_str (fun i σ H' => H' = H ∧ ∃ v, σ = [some (.str z), v]) ⟨rfl, none, rfl⟩ (fun _ _ _ _ _ => trivial) ?_ ?_⟩
    · rintro i x σ H1 H' hi ⟨rfl, v, rfl⟩ ⟨rfl, c, hc, rfl⟩
      have hb := h3 c (by
        have : c ∈ z.cps := by
          obtain ⟨hl, e⟩ := Array.getElem?_eq_some_iff.mp hc
          rw [← e]
          exact Array.getElem_mem hl
        exact Array.mem_toList_iff.mpr this)
      refine ⟨_, rfl, _, _, rfl, rfl, _, rfl, ?_⟩
      rw [show (Str.ofString "A").cps.toList = [65] by decide +kernel, show (⟨#[c]⟩ : Str).cps.toList = [c] from rfl, le1, decide_eq_false (show ¬ c < 65 by omega)]
      refine iteT ⟨_, _, rfl, rfl, _, rfl, ?_⟩
      rw [show (Str.ofString "Z").cps.toList = [90] by decide +kernel, show (⟨#[c]⟩ : Str).cps.toList = [c] from rfl, le1, decide_eq_false (show ¬ 90 < c by omega)]
      refine iteF ?_
      exact ⟨rfl, _, rfl⟩
    · rintro σ H' ⟨rfl, v, rfl⟩
      exact q
/-! ### checked_text -/
theorem sc_ctext : FnScope ["thing", "sign"] ["thing"] (defScope sCText) := ⟨rfl, rfl, rfl, by decide +kernel, rfl, by decide +kernel, by decide +kernel⟩
def sp_ctext : Sp := fun vs H Q _ => ∃ z : Str, vs = [.str z] ∧ z.length ≤ 60 ∧ (∀ c ∈ z.cps.toList, okC c = true) ∧ Q (.str z) H
theorem ok_ctext {f fM : Addr} {fd fdM : FuncData} {k : Nat} (F : Fun K "checked_text" "checked_text" sCText f fd) (T : Txt K mg) (G : FnG P w K mg base "may_stand" k ["sign"] sp_may_stand fM fdM) : FnOk P w K mg base CX0 (k + 1) f fd ["thing"] sp_ctext := by
  refine F.ok sc_ctext (fun vs H Q E h => ?_) (fun cdv A outer s H vs Q E hr h => ?_)
  · obtain ⟨i, rfl, _⟩ := h
    rfl
  · obtain ⟨z, rfl, h1, h3, q⟩ := h
    have hz' : z.length ≤ sizeLine := small100 (by omega)
    obtain ⟨t0, ms⟩ := T.signs
    refine ⟨_, pss_cons (ps_if (PW.pt (pw_or (pt_not (pt_val (pe_isi 0 T.isi T.str bt_str))) (pw_or1 (pt_cmpR op_gt (pe_callB call_len_str (by rfl) T.len bt_len (pa_cons (pv 0) pa_nil)) (pe_glob (v := .int 60) (by rfl) ms ⟨_, rfl⟩) (nomark _))))) (pss_one ps_never) pss_nil)
      (pss_cons (ps_for PassesOwn.never rfl (pi_str (pv 0)) (pg_name (i := 1) sc_ctext.nd rfl (Or.inl rfl)) (pss_one (ps_if (pt_not (pt_val (pe_f G hr (by rfl) (pa_cons (pv 1) pa_nil)))) (pss_one ps_never) pss_nil)))
      (pss_one (ps_ret (pv 0)))), ?_⟩
    refine ⟨_, _, true, rfl, .str z, by decide +kernel, true, rfl, iteF ?_⟩
    refine ⟨_, rfl, z, rfl, hz', _, _, rfl, rfl, _, rfl, iteN (fun h => ?_) ?_⟩
    · have := of_decide_eq_true h
      omega
    refine ⟨_, rfl, z, rfl, for_it walk_str (fun i σ H' => H' = H ∧ ∃ v, σ = [some (.str z), v]) ⟨rfl, none, rfl⟩ (fun _ _ _ _ _ => trivial) ?_ ?_⟩
    · rintro i x σ H1 H' hi ⟨rfl, v, rfl⟩ ⟨rfl, c, hc, rfl⟩
      have hb := h3 c (by
        have : c ∈ z.cps := by
          obtain ⟨hl, e⟩ := Array.getElem?_eq_some_iff.mp hc
          rw [← e]
          exact Array.getElem_mem hl
        exact Array.mem_toList_iff.mpr this)
      refine ⟨_, rfl, c, rfl, _, rfl, ?_⟩
      rw [hb]
      refine iteF ?_
      exact ⟨rfl, _, rfl⟩
    · rintro σ H' ⟨rfl, v, rfl⟩
      exact ⟨_, rfl, q⟩
end
end FR

set_option Elab.async false
set_option linter.all false
set_option maxRecDepth 100000
set_option maxHeartbeats 4000000
namespace FR
open PySem L2
section
variable {P : Program} {w : World} {K : PySem.W.Frag} {mg : Str → Option Value} {base : Heap}
theorem isSg.len {z : Str} (h : isSg z) : z.length = 2 := by
  obtain ⟨c, rfl, _⟩ := h
  rfl
theorem len100 {z : Str} (h : isSg z ∨ isNm z) : z.length ≤ 100 := by
  rcases h with h | h
  · have := h.len
    omega
  · have := h.2.1
    omega
/-! ### are_parts -/
theorem sc_are_parts : FnScope ["thing", "part"] ["thing"] (defScope sAreParts) := ⟨rfl, rfl, rfl, by decide +kernel, rfl, by decide +kernel, by decide +kernel⟩
def sp_are_parts : Sp := fun vs H Q _ => ∃ (a : Addr) (ps : List Str), vs = [.ref a] ∧ H a = some (.tup (ps.map .str)) ∧ ps.length ≤ 6 ∧ (∀ p ∈ ps, isSg p ∨ isNm p) ∧ Q (.bl true) H
theorem ok_are_parts {f fS fN : Addr} {fd fdS fdN : FuncData} {k : Nat} (F : Fun K "are_parts" "are_parts" sAreParts f fd) (T : Txt K mg) (GS : FnG P w K mg base "is_sign" k ["thing"] sp_is_sign fS fdS) (GN : FnG P w K mg base "is_name" k ["thing"] sp_is_name fN fdN) :
    FnOk P w K mg base CX0 (k + 1) f fd ["thing"] sp_are_parts := by
  refine F.ok sc_are_parts (fun vs H Q E h => ?_) (fun cdv A outer s H vs Q E hr h => ?_)
  · obtain ⟨a, ps, rfl, _⟩ := h
    rfl
  · obtain ⟨a, ps, rfl, ha, hl, hp, q⟩ := h
    obtain ⟨t0, ms⟩ := T.parts
    refine ⟨_, pss_cons (ps_if (PW.pt (pw_or (pt_not (pt_val (pe_isi 0 T.isi T.tuple bt_tuple))) (pw_or1 (pt_cmpR op_gt (pe_callB call_len_seq (by rfl) T.len bt_len (pa_cons (pv 0) pa_nil)) (pe_glob (v := .int 6) (by rfl) ms ⟨_, rfl⟩) (nomark _))))) (pss_one (ps_ret pe_bl)) pss_nil)
      (pss_cons (ps_for PassesOwn.never rfl (pi_tup (pv 0)) (pg_name (i := 1) sc_are_parts.nd rfl (Or.inl rfl)) (pss_one (ps_if (PW.pt (pw_and (pt_not (pt_val (pe_f GS hr (by rfl) (pa_cons (pv 1) pa_nil)))) (pw_and1 (pt_not (pt_val (pe_f GN hr (by rfl) (pa_cons (pv 1) pa_nil))))))) (pss_one (ps_ret pe_bl)) pss_nil)))
      (pss_one (ps_ret pe_bl))), ?_⟩
    refine ⟨_, _, true, rfl, .tup ha, by decide +kernel, true, rfl, iteF ?_⟩
    refine ⟨_, rfl, a, _, rfl, .inr (st ha), _, _, rfl, rfl, _, rfl, iteN (fun h => ?_) ?_⟩
    · have := of_decide_eq_true h
      rw [List.length_map] at this
      omega
    refine ⟨_, rfl, a, rfl, ⟨_, st ha⟩, for_tup (K := K) (xs := ps.map V.str) (fun i σ H' => H' = H ∧ ∃ v, σ = [some (.ref a), v]) ⟨rfl, none, rfl⟩ (fun i σ H' _ ⟨e, _⟩ => e ▸ st ha) ?_ ?_⟩
    · rintro i x σ H1 hi ⟨rfl, v, rfl⟩
      obtain ⟨p, hpi, rfl⟩ : ∃ p, ps[i]? = some p ∧ V.str p = x := by
        rw [List.getElem?_map] at hi
        exact Option.map_eq_some_iff.mp hi
      have hpp := hp p (List.mem_of_getElem? hpi)
      refine ⟨_, rfl, p, rfl, len100 hpp, fun b hb => ⟨b, rfl, ?_⟩⟩
      cases b with
      | true => exact iteF (iteF ⟨rfl, _, rfl⟩)
      | false =>
        have hn : isNm p := hpp.resolve_left fun z => Bool.false_ne_true (hb z)
        exact iteT ⟨_, rfl, p, rfl, hn, true, rfl, iteF ⟨rfl, _, rfl⟩⟩
    · rintro σ H' ⟨rfl, v, rfl⟩
      exact q
/-! ### is_rule -/
def okR (ρ : Rl) : Prop := isNm ρ.hd ∧ ρ.ps.length ≤ 6 ∧ (∀ p ∈ ρ.ps, isSg p ∨ isNm p) ∧ 0 ≤ ρ.wo ∧ ρ.wo ≤ 10 ^ 60
theorem sc_is_rule : FnScope ["thing"] ["thing"] (defScope sIsRule) := ⟨rfl, rfl, rfl, by decide +kernel, rfl, by decide +kernel, by decide +kernel⟩
def sp_is_rule : Sp := fun vs H Q _ => ∃ (v : V) (ρ : Rl), vs = [v] ∧ RuleAt H v ρ ∧ okR ρ ∧ Q (.bl true) H
theorem ok_is_rule {f fN fP fW : Addr} {fd fdN fdP fdW : FuncData} {k : Nat} (F : Fun K "is_rule" "is_rule" sIsRule f fd) (T : Txt K mg) (GN : FnG P w K mg base "is_name" k ["thing"] sp_is_name fN fdN) (GP : FnG P w K mg base "are_parts" k ["thing"] sp_are_parts fP fdP) (GW : FnG P w K mg base "is_whole" k ["thing"] sp_is_whole fW fdW) :
    FnOk P w K mg base CX0 (k + 1) f fd ["thing"] sp_is_rule := by
  refine F.ok sc_is_rule (fun vs H Q E h => ?_) (fun cdv A outer s H vs Q E hr h => ?_)
  · obtain ⟨v, ρ, rfl, _⟩ := h
    rfl
  · obtain ⟨v, ρ, rfl, ⟨a, p, rfl, ha, hp⟩, ⟨o1, o2, o3, o4, o5⟩, q⟩ := h
    obtain ⟨t0, ms⟩ := T.worth
    refine ⟨_, pss_cons (ps_if (PW.pt (pw_or (pt_not (pt_val (pe_isi 0 T.isi T.tuple bt_tuple))) (pw_or1 (pt_cmpR op_ne (pe_callB call_len_seq (by rfl) T.len bt_len (pa_cons (pv 0) pa_nil)) pe_int (nomark _))))) (pss_one (ps_ret pe_bl)) pss_nil)
      (pss_cons (ps_if (PW.pt (pw_or (pt_not (pt_val (pe_f GN hr (by rfl) (pa_cons (pe_ix ix_tup (pv 0) pe_int (fun _ _ => rfl)) pa_nil)))) (pw_or1 (pt_not (pt_val (pe_f GP hr (by rfl) (pa_cons (pe_ix ix_tup (pv 0) pe_int (fun _ _ => rfl)) pa_nil))))))) (pss_one (ps_ret pe_bl)) pss_nil)
      (pss_one (ps_ret (pe_and (pe_f GW hr (by rfl) (pa_cons (pe_ix ix_tup (pv 0) pe_int (fun _ _ => rfl)) pa_nil)) (pe_one (pe_chain op_le op_le pe_int (pe_ix ix_tup (pv 0) pe_int (fun _ _ => rfl)) (pe_glob (v := .int (10 ^ 60)) (by rfl) ms ⟨_, rfl⟩))))))), ?_⟩
    refine ⟨_, _, true, rfl, .tup ha, by decide +kernel, true, rfl, iteF ?_⟩
    refine ⟨_, rfl, a, _, rfl, .inr (st ha), rfl, _, rfl, iteF ?_⟩
    refine ⟨_, rfl, a, _, 0, _, rfl, rfl, st ha, atI_nat (j := 0) rfl, ρ.hd, rfl, o1, true, rfl, iteF ?_⟩
    refine ⟨_, rfl, a, _, 1, _, rfl, rfl, st ha, atI_nat (j := 1) rfl, p, ρ.ps, rfl, hp, o2, o3, true, rfl, iteF ?_⟩
    refine ⟨_, rfl, a, _, 2, _, rfl, rfl, st ha, atI_nat (j := 2) rfl, ρ.wo, rfl, true, rfl, iteT ?_⟩
    refine ⟨_, rfl, a, _, 2, _, rfl, rfl, st ha, atI_nat (j := 2) rfl, _, _, rfl, rfl, _, rfl, iteY (decide_eq_true o4) ⟨_, _, rfl, rfl, ?_⟩⟩
    show Q (V.bl (decide (ρ.wo ≤ 10 ^ 60))) H
    rw [decide_eq_true o5]
    exact q
/-! ### checked -/
theorem sc_checked : FnScope ["thing", "rules", "rule"] ["thing"] (defScope sChecked) := ⟨rfl, rfl, rfl, by decide +kernel, rfl, by decide +kernel, by decide +kernel⟩
def sp_checked : Sp := fun vs H Q _ => ∃ (a : Addr) (g : List Rl), vs = [.ref a] ∧ LstAt RuleAt H a g ∧ g.length ≤ 60 ∧ (∀ ρ ∈ g, okR ρ) ∧ ∀ p H', Ex H H' → H p = none → LstAt RuleAt H' p g → Q (.ref p) H'
theorem ok_checked {f fR : Addr} {fd fdR : FuncData} {k : Nat} (F : Fun K "checked" "checked" sChecked f fd) (T : Txt K mg) (G : FnG P w K mg base "is_rule" k ["thing"] sp_is_rule fR fdR) :
    FnOk P w K mg base CX0 (k + 1) f fd ["thing"] sp_checked := by
  refine F.ok sc_checked (fun vs H Q E h => ?_) (fun cdv A outer s H vs Q E hr h => ?_)
  · obtain ⟨a, g, rfl, _⟩ := h
    rfl
  · obtain ⟨a, g, rfl, ⟨vs, ha, pr⟩, hl, ho, q⟩ := h
    obtain ⟨t0, ms⟩ := T.rules
    have hlen : vs.length = g.length := Paired.length pr
    refine ⟨_, pss_cons (ps_if (PW.pt (pw_or (pt_not (pt_val (pe_isi 0 T.isi T.list bt_list))) (pw_or1 (pt_cmpR op_gt (pe_callB call_len_seq (by rfl) T.len bt_len (pa_cons (pv 0) pa_nil)) (pe_glob (v := .int 60) (by rfl) ms ⟨_, rfl⟩) (nomark _))))) (pss_one ps_never) pss_nil)
      (pss_cons (ps_set (i := 1) sc_checked.nd rfl (Or.inl rfl) (pe_lst pa_nil))
      (pss_cons (ps_for PassesOwn.never rfl (pi_list (pv 0)) (pg_name (i := 2) sc_checked.nd rfl (Or.inl rfl))
        (pss_cons (ps_if (pt_not (pt_val (pe_f G hr (by rfl) (pa_cons (pv 2) pa_nil)))) (pss_one ps_never) pss_nil)
        (pss_one (ps_expr (pe_bm PySem.F.plainAttrs_list PySem.F.slot_list_append PySem.F.type_list_append mt_append (pv 1) (pa_cons (pv 2) pa_nil))))))
      (pss_one (ps_ret (pv 1))))), ?_⟩
    refine ⟨_, _, true, rfl, .lst ha, by decide +kernel, true, rfl, iteF ?_⟩
    refine ⟨_, rfl, a, _, rfl, .inl (sq ha), _, _, rfl, rfl, _, rfl, iteN (fun h => ?_) ?_⟩
    · have := of_decide_eq_true h
      omega
    refine ⟨Nat.zero_le _, fun p hp => ?_⟩
    have npa : a ≠ p := ne_of_none ha hp
    refine ⟨_, rfl, a, rfl, ⟨vs, sq (Evl.Ex.new hp _ _ ha)⟩, for_list (K := K) (xs := vs) (fun i σ H' => Ex H H' ∧ H' p = some (.lst (vs.take i)) ∧ ∃ v, σ = [some (.ref a), some (.ref p), v])
      ⟨Evl.Ex.new hp, upd_same, none, rfl⟩ (fun i σ H' _ ⟨e, _⟩ => sq (e _ _ ha)) ?_ ?_⟩
    · rintro i x σ H1 hi ⟨e1, e2, v, rfl⟩
      obtain ⟨ρ, hρ, rx⟩ := pr_get' pr hi
      have hil : i < vs.length := (List.getElem?_eq_some_iff.mp hi).1
      refine ⟨_, rfl, x, ρ, rfl, mRule _ _ _ _ (tu_ex e1) rx, ho ρ (List.mem_of_getElem? hρ), true, rfl, iteF ?_⟩
      refine ⟨_, rfl, .inl ⟨rfl, _, sq e2⟩, _, rfl, p, _, _, rfl, rfl, e2, ?_, Evl.Ex.mut e1 hp, ?_, _, rfl⟩
      · rw [List.length_take]
        exact Nat.lt_of_le_of_lt (Nat.min_le_left _ _) (small1000 (by omega))
      · rw [upd_same, List.take_add_one, hi]
        rfl
    · rintro σ H1 ⟨e1, e2, v, rfl⟩
      rw [List.take_of_length_le (Nat.le_refl _)] at e2
      exact ⟨_, rfl, q p H1 e1 hp ⟨vs, e2, Paired.mono (fun _ _ => mRule _ _ _ _ (tu_ex e1)) pr⟩⟩
end
end FR

set_option Elab.async false
set_option linter.all false
set_option maxRecDepth 100000
set_option maxHeartbeats 4000000
namespace FR
open PySem L2
section
variable {K : PySem.W.Frag} {α : Type} {R : Hp → V → α → Prop} {σ : L2.St} {H : Hp} {td ty te : TE} {D : Ends}
theorem s_pushK {d : Addr} {ad : Key → Option Addr} {c : Key → List α} {n : Nat} {k : Key} {x : α} (m : Mono R) (L : LD .dK R H d ad c n) (hn : n < sizeLine) (hc : (c k).length < sizeLine)
    (hd : ∀ Q : VK, Q (.ref d) H → td σ H Q)
    (hk : ∀ Q : VK, Q (kV k) H → ty σ H Q)
    (he : ∀ H1, Tu H H1 → ∀ Q : VK, (∀ v H2, Ex H1 H2 → R H2 v x → Q v H2) → te σ H1 Q)
    (q : ∀ ad' H', LD .dK R H' d ad' (upc c k x) (n + 1) → (∀ b o, H b = some o → b ≠ d → (∀ k' , ad k' ≠ some b) → H' b = some o) → Tu H H' → (∀ k' l, ad' k' = some l → ad k' = some l ∨ H l = none) → D.nx σ H') :
    tDrop (tBM K "list" rAppend (tDSetd td ty (tLst tNil)) (tCons te tNil)) D σ H := by
  refine hd _ ?_
  obtain ⟨kvs0, d0, l0, v0⟩ := L.dic
  refine ⟨d, rfl, .inl ⟨kvs0, .inl d0⟩, hk _ ⟨Nat.zero_le _, fun p hp0 => ?_⟩⟩
  have e3 : Ex H (upd H p (.lst [])) := Evl.Ex.new hp0
  have L3 : LD .dK R (upd H p (.lst [])) d ad c n := L.ex m e3
  have hpd : p ≠ d := fun e => by rw [e, d0] at hp0; cases hp0
  have hadp : ∀ k', ad k' ≠ some p := fun k' q1 => by
    obtain ⟨vs, q2, _⟩ := L.its k' p q1
    rw [hp0] at q2
    cases q2
  have d3 := e3 _ _ d0
  refine ⟨kvs0, k, d3, rfl, Nat.lt_of_le_of_lt l0 hn, fun v hv => ?_, fun hv => ?_⟩
  · -- it stands
    rw [v0] at hv
    obtain ⟨l, hl, rfl⟩ := Option.map_eq_some_iff.mp hv
    obtain ⟨vs, hl3, pr⟩ := L3.its k l hl
    refine ⟨.inl ⟨rfl, vs, sq hl3⟩, he _ (tu_ex e3) _ fun v H4 e4 rv => ?_⟩
    have L4 := L3.ex m e4
    have hl4 := e4 _ _ hl3
    have pr4 := Paired.mono (fun _ _ => m _ _ _ _ (tu_ex e4)) pr
    refine ⟨l, vs, v, rfl, rfl, hl4, by rw [Paired.length pr]; exact hc, ?_⟩
    have L5 := L4.push1 m hl hl4 pr4 rv
    refine q ad _ ⟨?_, L5.its, L5.non, L5.inj, L5.out⟩ (fun c o hc hcd hca => ?_) ((tu_ex (e3.trans e4)).trans (tu_upd hl4 fun _ z => nomatch z)) fun k' l' hq => .inl hq
    · obtain ⟨kvs, h1, h2, h3⟩ := L5.dic
      exact ⟨kvs, h1, by omega, h3⟩
    · rw [upd_ne (fun z : c = l => hca k (by rw [z]; exact hl))]
      exact (e3.trans e4) _ _ hc
  · -- it is new
    rw [v0] at hv
    have hk0 : ad k = none := Option.map_eq_none_iff.mp hv
    have hp3 : (upd (upd H p (.lst [])) d (.dK (putK kvs0 k (.ref p)))) p = some (.lst []) := by rw [upd_ne hpd, upd_same]
    refine ⟨.inl ⟨rfl, [], sq hp3⟩, he _ ((tu_ex e3).trans (tu_upd d3 fun _ z => nomatch z)) _ fun v H4 e4 rv => ?_⟩
    refine ⟨p, [], v, rfl, rfl, e4 _ _ hp3, by decide, ?_⟩
    rw [List.nil_append]
    have d4 : H4 d = some (.dK (putK kvs0 k (.ref p))) := e4 _ _ upd_same
    let G : Hp := fun b => if b = p then none else if b = d then some (.dK kvs0) else H4 b
    have gp : G p = none := if_pos rfl
    have gd : G d = some (.dK kvs0) := by
      show (if d = p then none else if d = d then some (HO.dK kvs0) else H4 d) = _
      rw [if_neg hpd.symm, if_pos rfl]
    have gne : ∀ b, b ≠ p → b ≠ d → G b = H4 b := fun b h1 h2 => by
      show (if b = p then none else if b = d then some (HO.dK kvs0) else H4 b) = _
      rw [if_neg h1, if_neg h2]
    have gu : upd (upd G d (.dK (putK kvs0 k (.ref p)))) p (.lst [v]) = upd H4 p (.lst [v]) := by
      funext b
      by_cases h1 : b = p
      · rw [h1, upd_same, upd_same]
      · rw [upd_ne h1, upd_ne h1]
        by_cases h2 : b = d
        · rw [h2, upd_same, d4]
        · rw [upd_ne h2, gne b h1 h2]
    have hHG : ∀ b o, H b = some o → G b = some o := fun b o hb => by
      by_cases h2 : b = d
      · rw [h2] at hb ⊢
        rw [gd, ← d0, hb]
      · have h1 : b ≠ p := fun z => by rw [z, hp0] at hb; cases hb
        rw [gne b h1 h2]
        exact e4 _ _ (by rw [upd_ne h2]; exact e3 _ _ hb)
    have tG : Tu H G := fun b xs hb => hHG b _ hb
    have LG : LD .dK R G d ad c n := L.keep m tG (fun o ho => hHG _ _ ho) fun k' l' _ o ho => hHG _ _ ho
    have tG4 : Tu H4 G := fun b xs hb => by
      have h1 : b ≠ p := fun z => by rw [z, e4 _ _ hp3] at hb; cases hb
      have h2 : b ≠ d := fun z => by rw [z, d4] at hb; cases hb
      rw [gne b h1 h2]
      exact hb
    have L5 := LG.push2 m hk0 gd (fun _ _ z => nomatch z) (fun _ _ z => by cases z; rfl) gp (m _ _ _ _ tG4 rv)
    rw [gu] at L5
    refine q _ _ L5 (fun b o hb hbd hba => ?_) ?_ fun k' l' hq => ?_
    · have h1 : b ≠ p := fun z => by rw [z, hp0] at hb; cases hb
      rw [upd_ne h1, ← gne b h1 hbd]
      exact hHG _ _ hb
    · intro b xs hb
      have h1 : b ≠ p := fun z => by rw [z, hp0] at hb; cases hb
      have h2 : b ≠ d := fun z => by rw [z, d0] at hb; cases hb
      rw [upd_ne h1, ← gne b h1 h2]
      exact hHG _ _ hb
    · unfold upa at hq
      by_cases e : k' = k
      · rw [if_pos e] at hq
        cases hq
        exact .inr hp0
      · rw [if_neg e] at hq
        exact .inl hq
end
section
variable {P : Program} {w : World} {K : PySem.W.Frag} {mg : Str → Option Value} {base : Heap}
/-! ### rules_by_head -/
def byP (g : List Rl) (m : Nat) : Key → List Nat := fun k => (List.range m).filter fun i => decide (g[i]?.map (fun ρ => (Sum.inr ρ.hd : Key)) = some k)
theorem byP_len (g : List Rl) (m : Nat) (k : Key) : (byP g m k).length ≤ m := by
  unfold byP
  have := List.length_filter_le (fun i => decide (g[i]?.map (fun ρ => (Sum.inr ρ.hd : Key)) = some k)) (List.range m)
  rw [List.length_range] at this
  exact this
theorem byP_step {g : List Rl} {m : Nat} {ρ : Rl} (h : g[m]? = some ρ) : upc (byP g m) (Sum.inr ρ.hd) m = byP g (m + 1) := by
  funext k
  unfold byP
  rw [List.range_succ, List.filter_append]
  by_cases e : k = Sum.inr ρ.hd
  · subst e
    rw [upc_same]
    congr 1
    rw [List.filter_cons, h, if_pos (by simp)]
    rfl
  · rw [upc_ne e, List.filter_cons, h, if_neg (by simpa using fun z => e z.symm)]
    simp
theorem byP_mem {g : List Rl} {r : Nat} {A : Str} : r ∈ byP g g.length (Sum.inr A) ↔ ∃ ρ, g[r]? = some ρ ∧ ρ.hd = A := by
  unfold byP
  rw [List.mem_filter, List.mem_range]
  constructor
  · rintro ⟨h1, h2⟩
    have h2 := of_decide_eq_true h2
    obtain ⟨ρ, h3, h4⟩ := Option.map_eq_some_iff.mp h2
    exact ⟨ρ, h3, Sum.inr.inj h4⟩
  · rintro ⟨ρ, h, rfl⟩
    exact ⟨(List.getElem?_eq_some_iff.mp h).1, decide_eq_true (by rw [h]; rfl)⟩
theorem sc_by : FnScope ["rules", "by", "k", "rule"] ["rules"] (defScope sByHead) := ⟨rfl, rfl, rfl, by decide +kernel, rfl, by decide +kernel, by decide +kernel⟩
def sp_by : Sp := fun vs H Q _ => ∃ (a : Addr) (g : List Rl), vs = [.ref a] ∧ LstAt RuleAt H a g ∧ g.length ≤ 60 ∧ ∀ d ad n H', Ex H H' → LD .dK PNat H' d ad (byP g g.length) n → Q (.ref d) H'
theorem ok_by {f : Addr} {fd : FuncData} {k : Nat} (F : Fun K "rules_by_head" "rules_by_head" sByHead f fd) (T : Txt K mg) : FnOk P w K mg base CX0 (k + 1) f fd ["rules"] sp_by := by
  refine F.ok sc_by (fun vs H Q E h => ?_) (fun cdv A outer s H vs Q E hr h => ?_)
  · obtain ⟨a, g, rfl, _⟩ := h
    rfl
  · obtain ⟨a, g, rfl, ⟨vs, ha, pr⟩, hl, q⟩ := h
    have hlen : vs.length = g.length := Paired.length pr
    refine ⟨_, pss_cons (ps_set (i := 1) sc_by.nd rfl (Or.inl rfl) pe_dnewK)
      (pss_cons (ps_for PassesOwn.never rfl (pi_enum (by rfl) T.enumerate (pa_cons (pv 0) pa_nil)) (pg_tup rfl (pgs_cons (pg_name (i := 2) sc_by.nd rfl (.inl rfl)) (pgs_cons (pg_name (i := 3) sc_by.nd rfl (.inl rfl)) pgs_nil)))
        (pss_one (ps_expr (pe_bm PySem.F.plainAttrs_list PySem.F.slot_list_append PySem.F.type_list_append mt_append (pe_dsetd (pv 1) (pe_ix ix_tup (pv 3) pe_int (fun _ _ => rfl)) (pe_lst pa_nil) ⟨rfl, rfl, rfl, rfl⟩) (pa_cons (pv 2) pa_nil)))))
      (pss_one (ps_ret (pv 1)))), ?_⟩
    intro d hd
    have e0 : Ex H (upd H d (.dK [])) := Evl.Ex.new hd
    refine ⟨_, rfl, a, vs, rfl, sq (e0 _ _ ha), for_it walk_enum (fun i σ H' => Ex H H' ∧ ∃ ad v2 v3, σ = [some (.ref a), some (.ref d), v2, v3] ∧ LD .dK PNat H' d ad (byP g i) i ∧ ∀ k l, ad k = some l → H l = none)
      ⟨e0, _, none, none, rfl, LD.nw upd_same, fun _ _ z => nomatch z⟩ (fun i σ H' _ ⟨e, _⟩ => sq (e _ _ ha)) ?_ ?_⟩
    · rintro i x σ H1 H2 hi ⟨e1, ad, v2, v3, rfl, L, hf⟩ ⟨t, x1, y1, rfl, ht, rfl, e2, e3⟩
      cases e2
      obtain ⟨ρ, hρ, rx⟩ := pr_get' pr e3
      obtain ⟨b, p, rfl, hb, hp⟩ := mRule _ _ _ _ (tu_ex e1) rx
      have et : Ex H1 (upd H1 t (.tup [.int (i : Nat), .ref b])) := Evl.Ex.new ht
      refine ⟨t, _, rfl, st upd_same, rfl, _, _, rfl, _, _, rfl, rfl, ?_⟩
      refine s_pushK (k := Sum.inr ρ.hd) (x := i) mPNat (L.ex mPNat et) (small1000 (by omega)) (Nat.lt_of_le_of_lt (byP_len g i _) (small1000 (by omega))) (fun Q h => ⟨_, rfl, h⟩) (fun Q h => ⟨_, rfl, b, _, 0, _, rfl, rfl, st (et _ _ hb), atI_nat (j := 0) rfl, h⟩)
        (fun H3 _ Q h => ⟨_, rfl, h _ H3 (Evl.Ex.refl _) rfl⟩) fun ad' H4 L4 k1 k2 k3 => ?_
      rw [byP_step hρ] at L4
      refine ⟨fun c o hc => k1 c o ((e1.trans et) _ _ hc) (ne_of_none hc hd) (fun k' z => ?_), ad', _, _, rfl, L4, fun k' l hl => ?_⟩
      · rw [hf k' c z] at hc
        cases hc
      · rcases k3 k' l hl with z | z
        · exact hf k' l z
        · exact Evl.fresh_back (e1.trans et) z
    · rintro σ H1 ⟨e1, ad, v2, v3, rfl, L, hf⟩
      rw [hlen] at L
      exact ⟨_, rfl, q d ad _ H1 e1 L⟩
end
end FR

set_option Elab.async false
set_option linter.all false
set_option maxRecDepth 100000
set_option maxHeartbeats 4000000
namespace FR
open PySem L2
section
variable {P : Program} {w : World} {K : PySem.W.Frag} {mg : Str → Option Value} {base : Heap}
/-! ### first_nodes -/
def fS (t : List Nat) (m : Nat) : List Node := (List.range m).map fun i => nS (sgn (t.getD i 0)) i (i + 1)
def fR (n r m : Nat) : List Node := (List.range m).map fun i => nR r 0 i i
def fRs (n m : Nat) : List Node := (List.range m).flatMap fun r => fR n r (n + 1)
def fAll (g : List Rl) (t : List Nat) : List Node := fS t t.length ++ fRs t.length g.length
theorem fS_succ (t : List Nat) (m c : Nat) (h : t[m]? = some c) : fS t (m + 1) = fS t m ++ [nS (sgn c) m (m + 1)] := by
  unfold fS
  rw [List.range_succ, List.map_append, List.map_singleton, List.getD_eq_getElem?_getD, h]
  rfl
theorem fR_succ (n r m : Nat) : fR n r (m + 1) = fR n r m ++ [nR r 0 m m] := by
  unfold fR
  rw [List.range_succ, List.map_append, List.map_singleton]
theorem fRs_succ (n m : Nat) : fRs n (m + 1) = fRs n m ++ fR n m (n + 1) := by
  unfold fRs
  rw [List.range_succ, List.flatMap_append, List.flatMap_singleton]
theorem fR_len (n r m : Nat) : (fR n r m).length = m := by unfold fR; rw [List.length_map, List.length_range]
theorem fS_len (t : List Nat) (m : Nat) : (fS t m).length = m := by unfold fS; rw [List.length_map, List.length_range]
theorem fRs_len (n m : Nat) : (fRs n m).length = m * (n + 1) := by
  induction m with
  | zero => unfold fRs; simp
  | succ m ih => rw [fRs_succ, List.length_append, ih, fR_len, Nat.succ_mul]
theorem add_quo (c : Nat) : (Str.ofString "'") ++ (⟨#[c]⟩ : Str) = sgn c := by
  rw [quo]
  rfl
theorem yes {σ : L2.St} {H : Hp} {Q : Bool → Hp → Prop} (h : Q true H) : tYes σ H Q := h
theorem sc_first : FnScope ["rules", "signs", "nodes", "r", "i", "sign"] ["rules", "signs"] (defScope sFirst) := ⟨rfl, rfl, rfl, by decide +kernel, rfl, by decide +kernel, by decide +kernel⟩
def sp_first : Sp := fun vs H Q _ => ∃ (a : Addr) (g : List Rl) (z : Str), vs = [.ref a, .str z] ∧ LstAt RuleAt H a g ∧ g.length ≤ 60 ∧ z.length ≤ 60 ∧ ∀ l H', Ex H H' → H l = none → LstAt NodeAt H' l (fAll g z.cps.toList) → Q (.ref l) H'
theorem ok_first {f : Addr} {fd : FuncData} {k : Nat} (F : Fun K "first_nodes" "first_nodes" sFirst f fd) (T : Txt K mg) : FnOk P w K mg base CX0 (k + 1) f fd ["rules", "signs"] sp_first := by
  refine F.ok sc_first (fun vs H Q E h => ?_) (fun cdv A outer s H vs Q E hr h => ?_)
  · obtain ⟨a, g, z, rfl, _⟩ := h
    rfl
  · obtain ⟨a, g, z, rfl, ⟨vs, ha, pr⟩, hl, hz, q⟩ := h
    have hlen : vs.length = g.length := Paired.length pr
    have hz' : z.length ≤ sizeLine := small100 (by omega)
    have hzt : z.cps.toList.length = z.length := rfl
    refine ⟨_, pss_cons (ps_setLc (i := 2) (own := [("i", 4), ("sign", 5)]) (g := gTup K 2 (gCons (gName 4) (gCons (gName 5) gNil))) (tt := tYes) rfl sc_first.nd rfl rfl (sw_true rfl rfl rfl (by decide +kernel)) (pi_enumS (by rfl) T.enumerate (pa_cons (pv 1) pa_nil))
        (blkOk_by (own := [("i", 4), ("sign", 5)]) (N := ["rules", "signs", "nodes", "r", "i", "sign"]) (sc := defScope sFirst) (by decide +kernel))
        (fun _ _ _ _ _ => pg_tup rfl (pgs_cons (pg_name (i := 4) sc_first.nd rfl (.inl rfl) (.inr rfl)) (pgs_cons (pg_name (i := 5) sc_first.nd rfl (.inl rfl) (.inr rfl)) pgs_nil))) (fun _ _ _ _ _ => pts_nil)
        (fun _ _ _ _ _ => pe_tup (pa_cons (pe_op op_add_str pe_str (pv 5)) (pa_cons (pv 4) (pa_cons (pe_op op_add (pv 4) pe_int) pa_nil)))))
      (pss_cons (ps_for PassesOwn.never rfl (pi_range1 rfl T.range (pa_cons (pe_callB call_len_seq (by rfl) T.len bt_len (pa_cons (pv 0) pa_nil)) pa_nil)) (pg_name (i := 3) sc_first.nd rfl (Or.inr rfl))
        (pss_one (ps_expr (pe_bm PySem.F.plainAttrs_list PySem.F.slot_list_extend PySem.F.type_list_extend mt_extend (pv 2) (pa_cons
          (pe_lc (own := [("i", 4)]) (g := gName 4) (by rfl) sc_first.nd (pi_range1 rfl T.range (pa_cons (pe_op op_add (pe_callB call_len_str (by rfl) T.len bt_len (pa_cons (pv 1) pa_nil)) pe_int) pa_nil))
            (blkOk_by (own := [("i", 4)]) (N := ["rules", "signs", "nodes", "r", "i", "sign"]) (sc := defScope sFirst) (by decide +kernel)) (fun _ _ _ _ _ => pg_name (i := 4) sc_first.nd rfl (Or.inl rfl)) (fun _ _ _ _ _ => pts_nil)
            (fun _ _ _ _ _ => pe_tup (pa_cons (pv 3) (pa_cons pe_int (pa_cons (pv 4) (pa_cons (pv 4) pa_nil)))))) pa_nil)))))
      (pss_one (ps_ret (pv 2)))), ?_⟩
    refine ⟨_, rfl, z, rfl, fun l hl0 => ?_⟩
    refine lc_it walk_enumS (fun i H' => Ex H H' ∧ LstAt NodeAt H' l (fS z.cps.toList i)) ⟨Evl.Ex.new hl0, LstAt.nil⟩ (fun _ _ _ _ => trivial) ?_ ?_
    · rintro i x H1 H2 hi ⟨e1, vs1, h1, p1⟩ ⟨t, c, rfl, ht, rfl, hc⟩
      have et : Ex H1 (upd H1 t (.tup [.int (i : Nat), .str ⟨#[c]⟩])) := Evl.Ex.new ht
      refine ⟨t, _, rfl, st upd_same, rfl, _, _, rfl, _, _, rfl, rfl, rfl, yes (iteT ?_)⟩
      refine ⟨_, rfl, _, _, rfl, rfl, (by show 1 + 1 ≤ sizeLine; decide), _, rfl, _, rfl, _, _, rfl, rfl, (by show 3 ≤ sizeLine; decide), fun u hu => ?_⟩
      have e2 := et.trans (Evl.Ex.new (o := .tup [.str (Str.ofString "'" ++ ⟨#[c]⟩), .int (i : Nat), .int ((i : Int) + 1)]) hu)
      refine ⟨vs1, e2 _ _ h1, ?_, Evl.Ex.mut (e1.trans e2) hl0, ?_⟩
      · rw [Paired.length p1, fS_len]
        exact small1000 (by have : i < z.length := hi; omega)
      · have hc' : z.cps.toList[i]? = some c := by rw [Array.getElem?_toList]; exact hc
        rw [fS_succ _ _ _ hc']
        have tm := tu_upd (o := .lst (vs1 ++ [.ref u])) (e2 _ _ h1) (fun _ z => nomatch z)
        refine ⟨_, upd_same, Paired.snoc (Paired.mono (fun _ _ => mNode _ _ _ _ ((tu_ex e2).trans tm)) p1) ⟨u, rfl, tm _ _ ?_⟩⟩
        rw [upd_same, add_quo]
        rfl
    · rintro H1 ⟨e1, L1⟩
      have L1 : LstAt NodeAt H1 l (fS z.cps.toList z.cps.toList.length) := L1
      refine ⟨_, rfl, a, _, rfl, .inl (sq (e1 _ _ ha)), _, rfl, by omega, by omega, for_range (lo := 0) (fun i σ H' => Ex H H' ∧ (∃ v3, σ = [some (.ref a), some (.str z), some (.ref l), v3, none, none]) ∧ LstAt NodeAt H' l (fS z.cps.toList z.cps.toList.length ++ fRs z.cps.toList.length i))
        ⟨e1, ⟨none, rfl⟩, ?_⟩ ?_ ?_⟩
      · have : fRs z.cps.toList.length 0 = [] := rfl
        rw [this, List.append_nil]
        exact L1
      · rintro i σ H2 hi ⟨e2, ⟨v3, rfl⟩, L2⟩
        have hi' : i < 60 := by
          have : i < vs.length := by simpa using hi
          omega
        obtain ⟨vs2, h2, p2⟩ := L2
        refine ⟨_, rfl, .inl ⟨rfl, _, sq h2⟩, ?_⟩
        refine ⟨_, rfl, z, rfl, hz', _, _, rfl, rfl, _, rfl, by omega, by omega, fun d hd => ?_⟩
        have hld : l ≠ d := ne_of_none h2 hd
        refine lc_range (lo := 0) (fun j H' => Ex H2 H' ∧ LstAt NodeAt H' d (fR z.cps.toList.length i j)) ⟨Evl.Ex.new hd, LstAt.nil⟩ ?_ ?_
        · rintro j H3 hj ⟨e3, vs3, h3, p3⟩
          refine ⟨rfl, yes (iteT ?_)⟩
          refine ⟨_, rfl, _, rfl, _, rfl, (by show 4 ≤ sizeLine; decide), fun u hu => ?_⟩
          have e4 : Ex H3 _ := Evl.Ex.new (o := .tup [.int ((0 : Int) + (i : Nat)), .int 0, .int ((0 : Int) + (j : Nat)), .int ((0 : Int) + (j : Nat))]) hu
          refine ⟨vs3, e4 _ _ h3, ?_, Evl.Ex.mut (e3.trans e4) hd, ?_⟩
          · rw [Paired.length p3, fR_len]
            exact small1000 (by have : (j : Int) < (z.length : Int) + 1 := by omega
                                omega)
          · rw [fR_succ]
            have tm := tu_upd (o := .lst (vs3 ++ [.ref u])) (e4 _ _ h3) (fun _ z => nomatch z)
            refine ⟨_, upd_same, Paired.snoc (Paired.mono (fun _ _ => mNode _ _ _ _ ((tu_ex e4).trans tm)) p3) ⟨u, rfl, tm _ _ ?_⟩⟩
            rw [upd_same, Int.zero_add, Int.zero_add]
            rfl
        · rintro H3 ⟨e3, vs3, h3, p3⟩
          have hnn : ((z.length : Int) + 1).toNat = z.cps.toList.length + 1 := by omega
          rw [hnn] at p3
          have h2' := e3 _ _ h2
          refine ⟨l, d, vs2, vs3, rfl, rfl, h2', h3, ?_, ?_⟩
          · rw [Paired.length p2, Paired.length p3, List.length_append, fS_len, fRs_len, fR_len]
            have : i * (z.cps.toList.length + 1) ≤ 60 * 61 := Nat.mul_le_mul (by omega) (by omega)
            exact Nat.le_trans (show _ ≤ 100000 by omega) (by decide)
          · refine ⟨Evl.Ex.mut (e2.trans e3) hl0, ⟨_, rfl⟩, ?_⟩
            rw [fRs_succ, ← List.append_assoc]
            have tm := tu_upd (o := .lst (vs2 ++ vs3)) h2' (fun _ z => nomatch z)
            exact ⟨_, upd_same, pr_append (Paired.mono (fun _ _ => mNode _ _ _ _ ((tu_ex e3).trans tm)) p2) (Paired.mono (fun _ _ => mNode _ _ _ _ tm) p3)⟩
      · rintro σ H2 ⟨e2, ⟨v3, rfl⟩, L2⟩
        refine ⟨_, rfl, q l H2 e2 hl0 ?_⟩
        have : ((vs.length : Int)).toNat = g.length := by omega
        rw [this] at L2
        exact L2
end
end FR

set_option Elab.async false
set_option linter.all false
set_option maxRecDepth 100000
set_option maxHeartbeats 4000000
namespace FR
open PySem L2
/-! ### the chart's state, plainly -/
def kS (X : Str) (j : Nat) : Node := [.inr X, .inl (j : Int)]
def n3 (r d i : Nat) : Node := [.inl (r : Int), .inl (d : Int), .inl (i : Int)]
theorem kS_inj {X Y : Str} {i j : Nat} (e : kS X i = kS Y j) : X = Y ∧ i = j := by
  unfold kS at e
  injection e with e1 e2
  injection e2 with e2 _
  refine ⟨Sum.inr.inj e1, ?_⟩
  have := Sum.inl.inj e2
  omega
theorem n3_inj {r d i r' d' i' : Nat} (e : n3 r d i = n3 r' d' i') : r = r' ∧ d = d' ∧ i = i' := by
  unfold n3 at e
  injection e with e1 e2
  injection e2 with e2 e3
  injection e3 with e3 _
  refine ⟨?_, ?_, ?_⟩
  · have := Sum.inl.inj e1; omega
  · have := Sum.inl.inj e2; omega
  · have := Sum.inl.inj e3; omega
def offN (j : Nat) : Node → Node
  | [r, .inl d, b] => [r, .inl (d + 1), b, .inl (j : Int)]
  | _ => []
theorem offN_n3 (r d i j : Nat) : offN j (n3 r d i) = nR r (d + 1) i j := rfl
structure CS where
  hts : List (Node × V)
  lv : Int
  que : List Node
  hig : List Node
  ec : Node → List Nat
  bc : Node → List Node
  ne : Nat
  nb : Nat
def CS.keys (S : CS) : List Node := S.hts.map (·.1)
def offerS (S : CS) (n : Node) : CS := if (valV S.hts n).isSome = true then S else { S with hts := putK S.hts n (.int S.lv), que := S.que ++ [n] }
theorem valV_mem {κ : Type} [DecidableEq κ] (kvs : List (κ × V)) (k : κ) : (valV kvs k).isSome = true ↔ k ∈ kvs.map (·.1) := by
  rw [← valV_any, List.any_eq_true, List.mem_map]
  constructor
  · rintro ⟨e, he, h⟩
    exact ⟨e, he, of_decide_eq_true h⟩
  · rintro ⟨e, he, h⟩
    exact ⟨e, he, decide_eq_true h⟩
theorem valV_none {κ : Type} [DecidableEq κ] {kvs : List (κ × V)} {k : κ} (h : ¬ (valV kvs k).isSome = true) : valV kvs k = none := by
  cases e : valV kvs k with
  | none => rfl
  | some v => rw [e] at h; exact absurd rfl h
inductive UForm (g : List Rl) (t : List Nat) : Node → Prop
  | sg {i c : Nat} : t[i]? = some c → UForm g t (nS (sgn c) i (i + 1))
  | hd {ρ : Rl} {i j : Nat} : ρ ∈ g → i ≤ t.length → j ≤ t.length → UForm g t (nS ρ.hd i j)
  | rl {r d i j : Nat} {ρ : Rl} : g[r]? = some ρ → d ≤ ρ.ps.length → i ≤ t.length → j ≤ t.length → UForm g t (nR r d i j)
theorem UForm.s {g : List Rl} {t : List Nat} {X : Str} {i j : Nat} (h : UForm g t (nS X i j)) : i ≤ t.length ∧ j ≤ t.length := by
  generalize e : nS X i j = n at h
  cases h with
  | sg h =>
    obtain ⟨_, rfl, rfl⟩ := nS_inj e
    have := (List.getElem?_eq_some_iff.mp h).1
    omega
  | hd _ h1 h2 =>
    obtain ⟨_, rfl, rfl⟩ := nS_inj e
    exact ⟨h1, h2⟩
  | rl _ _ _ _ => exact (nS_nR e).elim
theorem UForm.r {g : List Rl} {t : List Nat} {r d i j : Nat} (h : UForm g t (nR r d i j)) : i ≤ t.length ∧ j ≤ t.length ∧ ∃ ρ, g[r]? = some ρ ∧ d ≤ ρ.ps.length := by
  generalize e : nR r d i j = n at h
  cases h with
  | sg _ => exact (nS_nR e.symm).elim
  | hd _ _ _ => exact (nS_nR e.symm).elim
  | rl h1 h2 h3 h4 =>
    obtain ⟨rfl, rfl, rfl, rfl⟩ := nR_inj e
    exact ⟨h3, h4, _, h1, h2⟩
/-- all nodes that may stand -/
def sq2 (n : Nat) (f : Nat → Nat → Node) : List Node := (List.range (n + 1)).flatMap fun i => (List.range (n + 1)).map fun j => f i j
theorem sq2_len (n : Nat) (f : Nat → Nat → Node) : (sq2 n f).length = (n + 1) * (n + 1) := by
  unfold sq2
  have gen : ∀ m, ((List.range m).flatMap fun i => (List.range (n + 1)).map fun j => f i j).length = m * (n + 1) := fun m => by
    induction m with
    | zero => simp
    | succ m ih => rw [List.range_succ (n := m), List.flatMap_append, List.length_append, ih, List.flatMap_singleton, List.length_map, List.length_range, Nat.succ_mul]
  exact gen (n + 1)
theorem sq2_mem {n : Nat} {f : Nat → Nat → Node} {i j : Nat} (hi : i ≤ n) (hj : j ≤ n) : f i j ∈ sq2 n f :=
  List.mem_flatMap.mpr ⟨i, List.mem_range.mpr (by omega), List.mem_map.mpr ⟨j, List.mem_range.mpr (by omega), rfl⟩⟩
def Un (g : List Rl) (t : List Nat) : List Node :=
  fS t t.length ++ (g.flatMap fun ρ => sq2 t.length fun i j => nS ρ.hd i j) ++ ((List.range g.length).flatMap fun r => (List.range 7).flatMap fun d => sq2 t.length fun i j => nR r d i j)
theorem flat_len {α β : Type} (l : List α) (f : α → List β) (m : Nat) (h : ∀ x ∈ l, (f x).length = m) : (l.flatMap f).length = l.length * m := by
  induction l with
  | nil => simp
  | cons x l ih => rw [List.flatMap_cons, List.length_append, ih (fun y hy => h y (List.mem_cons_of_mem _ hy)), h x (List.mem_cons_self ..), List.length_cons, Nat.succ_mul, Nat.add_comm]
theorem Un_len {g : List Rl} {t : List Nat} (hg : g.length ≤ 9) (ht : t.length ≤ 4) : (Un g t).length ≤ 2000 := by
  unfold Un
  rw [List.length_append, List.length_append, fS_len, flat_len g _ ((t.length + 1) * (t.length + 1)) (fun _ _ => sq2_len _ _),
    flat_len (List.range g.length) _ (7 * ((t.length + 1) * (t.length + 1))) (fun _ _ => by rw [flat_len (List.range 7) _ ((t.length + 1) * (t.length + 1)) (fun _ _ => sq2_len _ _), List.length_range]), List.length_range]
  have h1 : (t.length + 1) * (t.length + 1) ≤ 5 * 5 := Nat.mul_le_mul (by omega) (by omega)
  have h2 : g.length * ((t.length + 1) * (t.length + 1)) ≤ 9 * 25 := Nat.mul_le_mul hg h1
  have h3 : g.length * (7 * ((t.length + 1) * (t.length + 1))) ≤ 9 * 175 := Nat.mul_le_mul hg (by omega)
  omega
theorem UForm.mem {g : List Rl} {t : List Nat} (hp : ∀ ρ ∈ g, ρ.ps.length ≤ 6) {n : Node} (h : UForm g t n) : n ∈ Un g t := by
  unfold Un
  cases h with
  | @sg i c h =>
    refine List.mem_append.mpr (.inl (List.mem_append.mpr (.inl (List.mem_map.mpr ⟨i, List.mem_range.mpr (List.getElem?_eq_some_iff.mp h).1, ?_⟩))))
    rw [List.getD_eq_getElem?_getD, h]
    rfl
  | @hd ρ i j h hi hj => exact List.mem_append.mpr (.inl (List.mem_append.mpr (.inr (List.mem_flatMap.mpr ⟨ρ, h, sq2_mem (f := fun i j => nS ρ.hd i j) hi hj⟩))))
  | @rl r d i j ρ h hd hi hj =>
    have hr := List.getElem?_eq_some_iff.mp h
    have := hp ρ (List.mem_of_getElem? h)
    exact List.mem_append.mpr (.inr (List.mem_flatMap.mpr ⟨r, List.mem_range.mpr hr.1, List.mem_flatMap.mpr ⟨d, List.mem_range.mpr (by omega), sq2_mem (f := fun i j => nR r d i j) hi hj⟩⟩))

structure ChInv (g : List Rl) (t : List Nat) (S : CS) (pend : List Node) : Prop where
  nd : S.keys.Nodup
  qn : S.que.Nodup
  qs : ∀ n ∈ S.que, n ∈ S.keys
  uni : ∀ n ∈ S.keys, UForm g t n
  hu : ∀ n ∈ S.hig, UForm g t n
  eu : ∀ k, ∀ v ∈ S.ec k, v ≤ t.length
  bu : ∀ k m, m ∈ S.bc k → ∃ r ρ d i X j, k = kS X j ∧ m = n3 r d i ∧ g[r]? = some ρ ∧ ρ.ps[d]? = some X ∧ i ≤ t.length
  pN : ∀ X i j, nS X i j ∈ S.keys → nS X i j ∉ S.que → j ∈ S.ec (kS X i)
  pR : ∀ r ρ d X i j, nR r d i j ∈ S.keys → nR r d i j ∉ S.que → g[r]? = some ρ → ρ.ps[d]? = some X → n3 r d i ∈ S.bc (kS X j)
  pC : ∀ r ρ i j, nR r ρ.ps.length i j ∈ S.keys → nR r ρ.ps.length i j ∉ S.que → g[r]? = some ρ → nS ρ.hd i j ∈ S.hig ∨ nS ρ.hd i j ∈ S.keys ∨ nS ρ.hd i j ∈ pend
  c2 : ∀ X k r d i j, n3 r d i ∈ S.bc (kS X k) → j ∈ S.ec (kS X k) → nR r (d + 1) i j ∈ S.keys ∨ nR r (d + 1) i j ∈ pend
  szE : ∀ k, (S.ec k).length + S.que.length ≤ S.keys.length
  szB : ∀ k, (S.bc k).length + S.que.length ≤ S.keys.length
  szH : S.hig.length + S.que.length ≤ S.keys.length
  szN : S.ne + S.que.length ≤ S.keys.length ∧ S.nb + S.que.length ≤ S.keys.length
def mu (g : List Rl) (t : List Nat) (S : CS) : Nat := 2 * ((Un g t).length - S.keys.length) + S.que.length
section
variable {g : List Rl} {t : List Nat} {S : CS} {pend : List Node}
theorem ChInv.len (h : ChInv g t S pend) (hp : ∀ ρ ∈ g, ρ.ps.length ≤ 6) : S.keys.length ≤ (Un g t).length := nodup_len h.nd fun n hn => (h.uni n hn).mem hp
theorem ChInv.qlen (h : ChInv g t S pend) : S.que.length ≤ S.keys.length := nodup_len h.qn h.qs
theorem ChInv.offer (h : ChInv g t S (n :: pend)) (hp : ∀ ρ ∈ g, ρ.ps.length ≤ 6) (hn : UForm g t n) : ChInv g t (offerS S n) pend ∧ mu g t (offerS S n) ≤ mu g t S ∧ (∀ x ∈ S.keys, x ∈ (offerS S n).keys) ∧ n ∈ (offerS S n).keys := by
  unfold offerS
  by_cases c : (valV S.hts n).isSome = true
  · rw [if_pos c]
    have hk : n ∈ S.keys := (valV_mem _ _).mp c
    refine ⟨⟨h.nd, h.qn, h.qs, h.uni, h.hu, h.eu, h.bu, h.pN, h.pR, fun r ρ i j a b d => ?_, fun X k r d i j a b => ?_, h.szE, h.szB, h.szH, h.szN⟩, Nat.le_refl _, fun _ hx => hx, hk⟩
    · rcases h.pC r ρ i j a b d with z | z | z
      · exact .inl z
      · exact .inr (.inl z)
      · rcases List.mem_cons.mp z with z | z
        · exact .inr (.inl (z ▸ hk))
        · exact .inr (.inr z)
    · rcases h.c2 X k r d i j a b with z | z
      · exact .inl z
      · rcases List.mem_cons.mp z with z | z
        · exact .inl (z ▸ hk)
        · exact .inr z
  · rw [if_neg c]
    have hk : n ∉ S.keys := fun z => c ((valV_mem _ _).mpr z)
    have hq : n ∉ S.que := fun z => hk (h.qs n z)
    have e0 : putK S.hts n (V.int S.lv) = S.hts ++ [(n, V.int S.lv)] := putK_new _ (valV_none c)
    have ek : CS.keys { S with hts := putK S.hts n (.int S.lv), que := S.que ++ [n] } = S.keys ++ [n] := by
      unfold CS.keys
      rw [show (CS.hts { S with hts := putK S.hts n (.int S.lv), que := S.que ++ [n] }) = putK S.hts n (V.int S.lv) from rfl, e0, List.map_append]
      rfl
    have nd' : (S.keys ++ [n]).Nodup := List.nodup_append.mpr ⟨h.nd, by simp, fun a ha b hb => by
      have : b = n := by simpa using hb
      subst this
      exact fun e => hk (e ▸ ha)⟩
    have lift : ∀ x, x ∈ S.keys → x ∈ S.keys ++ [n] := fun x hx => List.mem_append.mpr (.inl hx)
    have back : ∀ x, x ∈ S.keys ++ [n] → x ∉ S.que ++ [n] → x ∈ S.keys ∧ x ∉ S.que := fun x hx hnx => by
      have h2 : x ∉ S.que ∧ x ≠ n := ⟨fun z => hnx (List.mem_append.mpr (.inl z)), fun z => hnx (List.mem_append.mpr (.inr (by simp [z])))⟩
      rcases List.mem_append.mp hx with z | z
      · exact ⟨z, h2.1⟩
      · exact absurd (by simpa using z) h2.2
    have un : ∀ x ∈ S.keys ++ [n], UForm g t x := fun x hx => by
      rcases List.mem_append.mp hx with z | z
      · exact h.uni x z
      · have : x = n := by simpa using z
        exact this ▸ hn
    have ql : (S.que ++ [n]).length = S.que.length + 1 := by simp
    have kl : (S.keys ++ [n]).length = S.keys.length + 1 := by simp
    refine ⟨⟨?_, ?_, ?_, ?_, h.hu, h.eu, h.bu, ?_, ?_, ?_, ?_, ?_, ?_, ?_, ?_⟩, ?_, ?_, ?_⟩
    · rw [ek]; exact nd'
    · exact List.nodup_append.mpr ⟨h.qn, by simp, fun a ha b hb => by
        have : b = n := by simpa using hb
        subst this
        exact fun e => hq (e ▸ ha)⟩
    · rw [ek]
      intro x hx
      rcases List.mem_append.mp hx with z | z
      · exact lift x (h.qs x z)
      · exact List.mem_append.mpr (.inr z)
    · rw [ek]; exact un
    · rw [ek]
      intro X i j a b
      obtain ⟨a', b'⟩ := back _ a b
      exact h.pN X i j a' b'
    · rw [ek]
      intro r ρ d X i j a b
      obtain ⟨a', b'⟩ := back _ a b
      exact h.pR r ρ d X i j a' b'
    · rw [ek]
      intro r ρ i j a b d
      obtain ⟨a', b'⟩ := back _ a b
      rcases h.pC r ρ i j a' b' d with z | z | z
      · exact .inl z
      · exact .inr (.inl (lift _ z))
      · rcases List.mem_cons.mp z with z | z
        · exact .inr (.inl (List.mem_append.mpr (.inr (by simp [z]))))
        · exact .inr (.inr z)
    · rw [ek]
      intro X k r d i j a b
      rcases h.c2 X k r d i j a b with z | z
      · exact .inl (lift _ z)
      · rcases List.mem_cons.mp z with z | z
        · exact .inl (List.mem_append.mpr (.inr (by simp [z])))
        · exact .inr z
    · intro k
      rw [ek, kl]
      show (S.ec k).length + (S.que ++ [n]).length ≤ _
      have := h.szE k
      omega
    · intro k
      rw [ek, kl]
      show (S.bc k).length + (S.que ++ [n]).length ≤ _
      have := h.szB k
      omega
    · rw [ek, kl]
      show S.hig.length + (S.que ++ [n]).length ≤ _
      have := h.szH
      omega
    · rw [ek, kl]
      show S.ne + (S.que ++ [n]).length ≤ _ ∧ S.nb + (S.que ++ [n]).length ≤ _
      have := h.szN
      omega
    · unfold mu
      rw [ek, kl]
      show 2 * ((Un g t).length - (S.keys.length + 1)) + (S.que ++ [n]).length ≤ _
      have : (S.keys ++ [n]).length ≤ (Un g t).length := nodup_len nd' fun x hx => (un x hx).mem hp
      omega
    · rw [ek]; exact lift
    · rw [ek]
      exact List.mem_append.mpr (.inr (by simp))
theorem ChInv.offers {α : Type} (f : α → Node) (hp : ∀ ρ ∈ g, ρ.ps.length ≤ 6) : ∀ (l : List α) (S : CS), ChInv g t S (l.map f ++ pend) → (∀ x ∈ l, UForm g t (f x)) →
    ChInv g t (l.foldl (fun S x => offerS S (f x)) S) pend ∧ mu g t (l.foldl (fun S x => offerS S (f x)) S) ≤ mu g t S ∧ (∀ x ∈ S.keys, x ∈ (l.foldl (fun S x => offerS S (f x)) S).keys) ∧ ∀ x ∈ l, f x ∈ (l.foldl (fun S x => offerS S (f x)) S).keys
  | [], S, h, _ => ⟨h, Nat.le_refl _, fun _ hx => hx, fun _ hx => nomatch hx⟩
  | a :: l, S, h, hu => by
    have h1 := ChInv.offer (n := f a) (pend := l.map f ++ pend) h hp (hu a (List.mem_cons_self ..))
    have h2 := ChInv.offers f hp l (offerS S (f a)) h1.1 fun x hx => hu x (List.mem_cons_of_mem _ hx)
    refine ⟨h2.1, Nat.le_trans h2.2.1 h1.2.1, fun x hx => h2.2.2.1 x (h1.2.2.1 x hx), fun x hx => ?_⟩
    rcases List.mem_cons.mp hx with z | z
    · exact z ▸ h2.2.2.1 _ h1.2.2.2
    · exact h2.2.2.2 x z
theorem offerS_hts_len (S : CS) (n : Node) : (offerS S n).hts.length ≤ S.hts.length + 1 ∧ (offerS S n).que.length ≤ S.que.length + 1 := by
  unfold offerS
  by_cases c : (valV S.hts n).isSome = true
  · rw [if_pos c]; omega
  · rw [if_neg c]
    exact ⟨length_putK _ _ _, by show (S.que ++ [n]).length ≤ _; simp⟩
theorem offerS_same (S : CS) (n : Node) : (offerS S n).ec = S.ec ∧ (offerS S n).bc = S.bc ∧ (offerS S n).hig = S.hig ∧ (offerS S n).ne = S.ne ∧ (offerS S n).nb = S.nb ∧ (offerS S n).lv = S.lv := by
  unfold offerS
  by_cases c : (valV S.hts n).isSome = true
  · rw [if_pos c]; exact ⟨rfl, rfl, rfl, rfl, rfl, rfl⟩
  · rw [if_neg c]; exact ⟨rfl, rfl, rfl, rfl, rfl, rfl⟩
/-- the state behind a pop -/
def popS (S : CS) : CS := { S with que := S.que.dropLast }
def part1 (S : CS) (X : Str) (i j : Nat) : CS := { S with ec := upc S.ec (kS X i) j, ne := S.ne + 1 }
def partS (S : CS) (X : Str) (i j : Nat) : CS := (S.bc (kS X i)).foldl (fun S m => offerS S (offN j m)) (part1 S X i j)
def full1 (S : CS) (A : Str) (i j : Nat) : CS := { S with hig := S.hig ++ [nS A i j] }
def rule1 (S : CS) (X : Str) (r d i j : Nat) : CS := { S with bc := upc S.bc (kS X j) (n3 r d i), nb := S.nb + 1 }
def ruleS (S : CS) (X : Str) (r d i j : Nat) : CS := (S.ec (kS X j)).foldl (fun S e => offerS S (nR r (d + 1) i e)) (rule1 S X r d i j)
def rise1 (S : CS) : CS := { S with hig := [], lv := S.lv + 1 }
def riseS (S : CS) : CS := S.hig.foldl (fun S n => offerS S n) (rise1 S)
theorem upc_mem {α : Type} {c : Node → List α} {k k' : Node} {x y : α} : y ∈ upc c k x k' ↔ y ∈ c k' ∨ (k' = k ∧ y = x) := by
  by_cases e : k' = k
  · subst e
    rw [upc_same, List.mem_append, List.mem_singleton]
    simp
  · rw [upc_ne e]
    simp [e]
theorem upc_len {α : Type} {c : Node → List α} {k k' : Node} {x : α} : (upc c k x k').length ≤ (c k').length + 1 := by
  by_cases e : k' = k
  · subst e
    rw [upc_same]
    simp
  · rw [upc_ne e]
    omega
theorem pop_facts (h : ChInv g t S []) {q : List Node} {n : Node} (e : S.que = q ++ [n]) : (popS S).que = q ∧ n ∈ S.keys ∧ n ∉ q ∧ q.Nodup ∧ S.que.length = q.length + 1 ∧ (∀ x, x ∉ q → x ≠ n → x ∉ S.que) := by
  have nd := h.qn
  rw [e] at nd
  have nd' := List.nodup_append.mp nd
  refine ⟨by show S.que.dropLast = q; rw [e, List.dropLast_concat], h.qs n (by rw [e]; simp), fun z => nd'.2.2 n z n (by simp) rfl, nd'.1, by rw [e]; simp, fun x hx hn hq => ?_⟩
  rw [e] at hq
  rcases List.mem_append.mp hq with z | z
  · exact hx z
  · exact hn (by simpa using z)
theorem mu_pop (h : ChInv g t S []) {q : List Node} {n : Node} (e : S.que = q ++ [n]) (S' : CS) (hk : S'.keys = S.keys) (hq : S'.que = q) : mu g t S' < mu g t S := by
  unfold mu
  have := (pop_facts h e).2.2.2.2.1
  rw [hk, hq]
  omega
theorem step_part (h : ChInv g t S []) (hp : ∀ ρ ∈ g, ρ.ps.length ≤ 6) {q : List Node} {X : Str} {i j : Nat} (e : S.que = q ++ [nS X i j]) :
    ChInv g t (partS (popS S) X i j) [] ∧ mu g t (partS (popS S) X i j) < mu g t S ∧ ∀ x ∈ S.keys, x ∈ (partS (popS S) X i j).keys := by
  obtain ⟨eq, hk, hnq, qnd, ql, hout⟩ := pop_facts h e
  have hj := (h.uni _ hk).s.2
  have hU : ∀ m ∈ S.bc (kS X i), UForm g t (offN j m) := fun m hm => by
    obtain ⟨r, ρ, d, i', X', j', e1, e2, h1, h2, h3⟩ := h.bu _ _ hm
    rw [e2, offN_n3]
    exact .rl h1 (List.getElem?_eq_some_iff.mp h2).1 h3 hj
  have h1 : ChInv g t (part1 (popS S) X i j) ((S.bc (kS X i)).map (offN j) ++ []) := by
    refine ⟨h.nd, by show (popS S).que.Nodup; rw [eq]; exact qnd, fun n hn => h.qs n (by rw [show (part1 (popS S) X i j).que = q from eq] at hn; rw [e]; exact List.mem_append.mpr (.inl hn)), h.uni, h.hu, fun k v hv => ?_, h.bu, fun X' i' j' a b => ?_, fun r ρ d X' i' j' a b => ?_, fun r ρ i' j' a b d => ?_, fun X' k r d i' j' a b => ?_, fun k => ?_, fun k => ?_, ?_, ?_⟩
    · rcases upc_mem.mp hv with z | ⟨_, rfl⟩
      · exact h.eu k v z
      · exact hj
    · rw [show (part1 (popS S) X i j).que = q from eq] at b
      refine upc_mem.mpr ?_
      by_cases en : nS X' i' j' = nS X i j
      · obtain ⟨rfl, rfl, rfl⟩ := nS_inj en
        exact .inr ⟨rfl, rfl⟩
      · exact .inl (h.pN X' i' j' a (hout _ b en))
    · rw [show (part1 (popS S) X i j).que = q from eq] at b
      exact h.pR r ρ d X' i' j' a (hout _ b fun z => nS_nR z.symm)
    · rw [show (part1 (popS S) X i j).que = q from eq] at b
      rcases h.pC r ρ i' j' a (hout _ b fun z => nS_nR z.symm) d with z | z | z
      · exact .inl z
      · exact .inr (.inl z)
      · cases z
    · rcases upc_mem.mp b with z | ⟨ek, rfl⟩
      · rcases h.c2 X' k r d i' j' a z with y | y
        · exact .inl y
        · cases y
      · rw [ek] at a
        exact .inr (List.mem_append.mpr (.inl (List.mem_map.mpr ⟨_, a, offN_n3 ..⟩)))
    · have h1 := h.szE k
      have h2 : (upc S.ec (kS X i) j k).length ≤ (S.ec k).length + 1 := upc_len
      show (upc S.ec (kS X i) j k).length + (popS S).que.length ≤ S.keys.length
      rw [eq]
      omega
    · have h1 := h.szB k
      show (S.bc k).length + (popS S).que.length ≤ S.keys.length
      rw [eq]
      omega
    · have h1 := h.szH
      show S.hig.length + (popS S).que.length ≤ S.keys.length
      rw [eq]
      omega
    · have h1 := h.szN
      show S.ne + 1 + (popS S).que.length ≤ S.keys.length ∧ S.nb + (popS S).que.length ≤ S.keys.length
      rw [eq]
      omega
  have h2 := ChInv.offers (offN j) hp _ _ h1 hU
  exact ⟨h2.1, Nat.lt_of_le_of_lt h2.2.1 (mu_pop h e _ rfl eq), h2.2.2.1⟩
theorem step_rule (h : ChInv g t S []) (hp : ∀ ρ ∈ g, ρ.ps.length ≤ 6) {q : List Node} {X : Str} {r d i j : Nat} {ρ : Rl} (e : S.que = q ++ [nR r d i j]) (hr : g[r]? = some ρ) (hd : ρ.ps[d]? = some X) :
    ChInv g t (ruleS (popS S) X r d i j) [] ∧ mu g t (ruleS (popS S) X r d i j) < mu g t S ∧ ∀ x ∈ S.keys, x ∈ (ruleS (popS S) X r d i j).keys := by
  obtain ⟨eq, hk, hnq, qnd, ql, hout⟩ := pop_facts h e
  have hi := (h.uni _ hk).r.1
  have hj := (h.uni _ hk).r.2.1
  have hdl := (List.getElem?_eq_some_iff.mp hd).1
  have hU : ∀ m ∈ S.ec (kS X j), UForm g t (nR r (d + 1) i m) := fun m hm => .rl hr hdl hi (h.eu _ _ hm)
  have h1 : ChInv g t (rule1 (popS S) X r d i j) ((S.ec (kS X j)).map (fun e => nR r (d + 1) i e) ++ []) := by
    refine ⟨h.nd, by show (popS S).que.Nodup; rw [eq]; exact qnd, fun n hn => h.qs n (by rw [show (rule1 (popS S) X r d i j).que = q from eq] at hn; rw [e]; exact List.mem_append.mpr (.inl hn)), h.uni, h.hu, h.eu, fun k m hm => ?_, fun X' i' j' a b => ?_, fun r' ρ' d' X' i' j' a b c1 c2 => ?_, fun r' ρ' i' j' a b c1 => ?_, fun X' k r' d' i' j' a b => ?_, fun k => ?_, fun k => ?_, ?_, ?_⟩
    · rcases upc_mem.mp hm with z | ⟨rfl, rfl⟩
      · exact h.bu k m z
      · exact ⟨r, ρ, d, i, X, j, rfl, rfl, hr, hd, hi⟩
    · rw [show (rule1 (popS S) X r d i j).que = q from eq] at b
      exact h.pN X' i' j' a (hout _ b fun z => nS_nR z)
    · rw [show (rule1 (popS S) X r d i j).que = q from eq] at b
      refine upc_mem.mpr ?_
      by_cases en : nR r' d' i' j' = nR r d i j
      · obtain ⟨rfl, rfl, rfl, rfl⟩ := nR_inj en
        rw [hr] at c1
        cases c1
        rw [hd] at c2
        cases c2
        exact .inr ⟨rfl, rfl⟩
      · exact .inl (h.pR r' ρ' d' X' i' j' a (hout _ b en) c1 c2)
    · rw [show (rule1 (popS S) X r d i j).que = q from eq] at b
      refine (fun z => ?_ : _ → _) (h.pC r' ρ' i' j' a (hout _ b fun en => ?_) c1)
      · rcases z with z | z | z
        · exact .inl z
        · exact .inr (.inl z)
        · cases z
      · obtain ⟨rfl, e2, rfl, rfl⟩ := nR_inj en
        rw [hr] at c1
        cases c1
        omega
    · rcases upc_mem.mp a with z | ⟨ek, z⟩
      · rcases h.c2 X' k r' d' i' j' z b with y | y
        · exact .inl y
        · cases y
      · obtain ⟨rfl, rfl, rfl⟩ := n3_inj z
        rw [ek] at b
        exact .inr (List.mem_append.mpr (.inl (List.mem_map.mpr ⟨_, b, rfl⟩)))
    · have h1 := h.szE k
      show (S.ec k).length + (popS S).que.length ≤ S.keys.length
      rw [eq]
      omega
    · have h1 := h.szB k
      have h2 : (upc S.bc (kS X j) (n3 r d i) k).length ≤ (S.bc k).length + 1 := upc_len
      show (upc S.bc (kS X j) (n3 r d i) k).length + (popS S).que.length ≤ S.keys.length
      rw [eq]
      omega
    · have h1 := h.szH
      show S.hig.length + (popS S).que.length ≤ S.keys.length
      rw [eq]
      omega
    · have h1 := h.szN
      show S.ne + (popS S).que.length ≤ S.keys.length ∧ S.nb + 1 + (popS S).que.length ≤ S.keys.length
      rw [eq]
      omega
  have h2 := ChInv.offers (fun e => nR r (d + 1) i e) hp _ _ h1 hU
  exact ⟨h2.1, Nat.lt_of_le_of_lt h2.2.1 (mu_pop h e _ rfl eq), h2.2.2.1⟩
theorem step_full (h : ChInv g t S []) {q : List Node} {r i j : Nat} {ρ : Rl} (e : S.que = q ++ [nR r ρ.ps.length i j]) (hr : g[r]? = some ρ) :
    ChInv g t (full1 (popS S) ρ.hd i j) [] ∧ mu g t (full1 (popS S) ρ.hd i j) < mu g t S ∧ ∀ x ∈ S.keys, x ∈ (full1 (popS S) ρ.hd i j).keys := by
  obtain ⟨eq, hk, hnq, qnd, ql, hout⟩ := pop_facts h e
  have hi := (h.uni _ hk).r.1
  have hj := (h.uni _ hk).r.2.1
  refine ⟨?_, mu_pop h e _ rfl eq, fun _ hx => hx⟩
  refine ⟨h.nd, by show (popS S).que.Nodup; rw [eq]; exact qnd, fun n hn => h.qs n (by rw [show (full1 (popS S) ρ.hd i j).que = q from eq] at hn; rw [e]; exact List.mem_append.mpr (.inl hn)), h.uni, fun n hn => ?_, h.eu, h.bu, fun X' i' j' a b => ?_, fun r' ρ' d' X' i' j' a b c1 c2 => ?_, fun r' ρ' i' j' a b c1 => ?_, fun X' k r' d' i' j' a b => ?_, fun k => ?_, fun k => ?_, ?_, ?_⟩
  · rcases List.mem_append.mp (show n ∈ S.hig ++ [nS ρ.hd i j] from hn) with z | z
    · exact h.hu n z
    · have : n = nS ρ.hd i j := by simpa using z
      exact this ▸ .hd (List.mem_of_getElem? hr) hi hj
  · rw [show (full1 (popS S) ρ.hd i j).que = q from eq] at b
    exact h.pN X' i' j' a (hout _ b fun z => nS_nR z)
  · rw [show (full1 (popS S) ρ.hd i j).que = q from eq] at b
    refine h.pR r' ρ' d' X' i' j' a (hout _ b fun en => ?_) c1 c2
    obtain ⟨rfl, e2, rfl, rfl⟩ := nR_inj en
    rw [hr] at c1
    cases c1
    have := (List.getElem?_eq_some_iff.mp c2).1
    omega
  · rw [show (full1 (popS S) ρ.hd i j).que = q from eq] at b
    by_cases en : nR r' ρ'.ps.length i' j' = nR r ρ.ps.length i j
    · obtain ⟨rfl, _, rfl, rfl⟩ := nR_inj en
      rw [hr] at c1
      cases c1
      exact .inl (List.mem_append.mpr (.inr (by simp)))
    · rcases h.pC r' ρ' i' j' a (hout _ b en) c1 with z | z | z
      · exact .inl (List.mem_append.mpr (.inl z))
      · exact .inr (.inl z)
      · cases z
  · exact h.c2 X' k r' d' i' j' a b
  · have h1 := h.szE k
    show (S.ec k).length + (popS S).que.length ≤ S.keys.length
    rw [eq]
    omega
  · have h1 := h.szB k
    show (S.bc k).length + (popS S).que.length ≤ S.keys.length
    rw [eq]
    omega
  · have h1 := h.szH
    show (S.hig ++ [nS ρ.hd i j]).length + (popS S).que.length ≤ S.keys.length
    rw [eq, List.length_append, List.length_singleton]
    omega
  · have h1 := h.szN
    show S.ne + (popS S).que.length ≤ S.keys.length ∧ S.nb + (popS S).que.length ≤ S.keys.length
    rw [eq]
    omega
theorem step_rise (h : ChInv g t S []) (hp : ∀ ρ ∈ g, ρ.ps.length ≤ 6) : ChInv g t (riseS S) [] ∧ mu g t (riseS S) ≤ mu g t S ∧ (∀ x ∈ S.keys, x ∈ (riseS S).keys) := by
  have h1 : ChInv g t (rise1 S) (S.hig.map (fun n => n) ++ []) := by
    refine ⟨h.nd, h.qn, h.qs, h.uni, (fun _ z => nomatch z), h.eu, h.bu, h.pN, h.pR, fun r ρ i j a b d => ?_, fun X k r d i j a b => ?_, h.szE, h.szB, ?_, h.szN⟩
    · rcases h.pC r ρ i j a b d with z | z | z
      · exact .inr (.inr (List.mem_append.mpr (.inl (List.mem_map.mpr ⟨_, z, rfl⟩))))
      · exact .inr (.inl z)
      · cases z
    · rcases h.c2 X k r d i j a b with z | z
      · exact .inl z
      · cases z
    · have := h.szH
      show 0 + S.que.length ≤ S.keys.length
      omega
  have h2 := ChInv.offers (fun n => n) hp _ _ h1 h.hu
  exact ⟨h2.1, h2.2.1, h2.2.2.1⟩
theorem offers_hig {α : Type} (f : α → Node) : ∀ (l : List α) (S : CS), (l.foldl (fun S x => offerS S (f x)) S).hig = S.hig
  | [], S => rfl
  | a :: l, S => (offers_hig f l (offerS S (f a))).trans (offerS_same S (f a)).2.2.1
def S0 : CS := ⟨[], 0, [], [], fun _ => [], fun _ => [], 0, 0⟩
theorem inv0 (pend : List Node) : ChInv g t S0 pend where
  nd := List.nodup_nil
  qn := List.nodup_nil
  qs := fun _ h => nomatch h
  uni := fun _ h => nomatch h
  hu := fun _ h => nomatch h
  eu := fun _ _ h => nomatch h
  bu := fun _ _ h => nomatch h
  pN := fun _ _ _ h => nomatch h
  pR := fun _ _ _ _ _ _ h => nomatch h
  pC := fun _ _ _ _ h => nomatch h
  c2 := fun _ _ _ _ _ _ h => nomatch h
  szE := fun _ => Nat.le_refl _
  szB := fun _ => Nat.le_refl _
  szH := Nat.le_refl _
  szN := ⟨Nat.le_refl _, Nat.le_refl _⟩
theorem fAll_U (x : Node) (hx : x ∈ fAll g t) : UForm g t x := by
  unfold fAll at hx
  rcases List.mem_append.mp hx with z | z
  · obtain ⟨i, hi, rfl⟩ := List.mem_map.mp z
    have hi' := List.mem_range.mp hi
    refine .sg ?_
    rw [List.getD_eq_getElem?_getD, List.getElem?_eq_getElem hi']
    rfl
  · obtain ⟨r, hr, z⟩ := List.mem_flatMap.mp z
    obtain ⟨i, hi, rfl⟩ := List.mem_map.mp z
    have hr' := List.mem_range.mp hr
    have hi' := List.mem_range.mp hi
    exact .rl (List.getElem?_eq_getElem hr') (Nat.zero_le _) (by omega) (by omega)
/-- what the chart comes to is closed -/
theorem clo_of (h : ChInv g t S []) (hq : S.que = []) (hh : S.hig = []) (hf : ∀ x ∈ fAll g t, x ∈ S.keys) : Clo g t (fun n => n ∈ S.keys) := by
  have nq : ∀ n, n ∉ S.que := fun n => by rw [hq]; simp
  refine ⟨fun i c hc => hf _ ?_, fun r i hr hi => hf _ ?_, fun r ρ d X i k j hr hd a b => ?_, fun r ρ i j hr a => ?_⟩
  · refine List.mem_append.mpr (.inl (List.mem_map.mpr ⟨i, List.mem_range.mpr (List.getElem?_eq_some_iff.mp hc).1, ?_⟩))
    rw [List.getD_eq_getElem?_getD, hc]
    rfl
  · exact List.mem_append.mpr (.inr (List.mem_flatMap.mpr ⟨r, List.mem_range.mpr hr, List.mem_map.mpr ⟨i, List.mem_range.mpr (by omega), rfl⟩⟩))
  · have h1 := h.pR r ρ d X i k a (nq _) hr hd
    have h2 := h.pN X k j b (nq _)
    rcases h.c2 X k r d i j h1 h2 with z | z
    · exact z
    · cases z
  · rcases h.pC r ρ i j a (nq _) hr with z | z | z
    · rw [hh] at z; cases z
    · exact z
    · cases z
end
end FR

set_option Elab.async false
set_option linter.all false
set_option maxRecDepth 100000
set_option maxHeartbeats 4000000
namespace FR
open PySem L2
/-! ### a chart over the heap -/
structure CA where
  x : Addr
  dx : Addr
  ra : Addr
  hd : Addr
  q : Addr
  hg : Addr
  e : Addr
  b : Addr
  ade : Node → Option Addr
  adb : Node → Option Addr
def cF (A : CA) (lv : Int) : List (Str × V) := [("rules", .ref A.ra), ("heights", .ref A.hd), ("level", .int lv), ("queue", .ref A.q), ("higher", .ref A.hg), ("ends", .ref A.e), ("behind", .ref A.b)]
theorem cF_rules (A : CA) (lv : Int) : (cF A lv).lookup ("rules" : Str) = some (V.ref A.ra) := by rfl
theorem cF_heights (A : CA) (lv : Int) : (cF A lv).lookup ("heights" : Str) = some (V.ref A.hd) := by rfl
theorem cF_level (A : CA) (lv : Int) : (cF A lv).lookup ("level" : Str) = some (V.int lv) := by rfl
theorem cF_queue (A : CA) (lv : Int) : (cF A lv).lookup ("queue" : Str) = some (V.ref A.q) := by rfl
theorem cF_higher (A : CA) (lv : Int) : (cF A lv).lookup ("higher" : Str) = some (V.ref A.hg) := by rfl
theorem cF_ends (A : CA) (lv : Int) : (cF A lv).lookup ("ends" : Str) = some (V.ref A.e) := by rfl
theorem cF_behind (A : CA) (lv : Int) : (cF A lv).lookup ("behind" : Str) = some (V.ref A.b) := by rfl
theorem cF_offer (A : CA) (lv : Int) : (cF A lv).lookup ("offer" : Str) = none := by rfl
theorem cF_tpart (A : CA) (lv : Int) : (cF A lv).lookup ("take_part" : Str) = none := by rfl
theorem cF_tparts (A : CA) (lv : Int) : (cF A lv).lookup ("take_parts" : Str) = none := by rfl
theorem cF_tlevel (A : CA) (lv : Int) : (cF A lv).lookup ("take_level" : Str) = none := by rfl
theorem cF_rise (A : CA) (lv : Int) : (cF A lv).lookup ("rise" : Str) = none := by rfl
theorem cF_putlv (A : CA) (lv k : Int) : putF ("level" : Str) (V.int k) (cF A lv) = cF A k := by rfl
theorem cF_puthg (A : CA) (lv : Int) (h : Addr) : putF ("higher" : Str) (V.ref h) (cF A lv) = cF { A with hg := h } lv := by rfl
theorem cF_mk (A : CA) (lv : Int) : putF ("behind" : Str) (V.ref A.b) (putF ("ends" : Str) (V.ref A.e) (putF ("higher" : Str) (V.ref A.hg) (putF ("queue" : Str) (V.ref A.q) (putF ("level" : Str) (V.int lv) (putF ("heights" : Str) (V.ref A.hd) (putF ("rules" : Str) (V.ref A.ra) [])))))) = cF A lv := by rfl
structure ChartAt (C : Addr) (g : List Rl) (A : CA) (S : CS) (H : Hp) : Prop where
  ob : H A.x = some (.ins C A.dx (cF A S.lv))
  rul : LstAt RuleAt H A.ra g
  hts : H A.hd = some (.dT S.hts)
  que : LstAt NodeAt H A.q S.que
  hig : LstAt NodeAt H A.hg S.hig
  ends : LD .dT PNat H A.e A.ade S.ec S.ne
  beh : LD .dT NodeAt H A.b A.adb S.bc S.nb
  s1 : A.hd ≠ A.e
  s2 : A.hd ≠ A.b
  s3 : A.e ≠ A.b
  s4 : A.q ≠ A.hg
  s5 : ∀ k l, A.ade k = some l → l ≠ A.q ∧ l ≠ A.hg ∧ l ≠ A.ra
  s6 : ∀ k l, A.adb k = some l → l ≠ A.q ∧ l ≠ A.hg ∧ l ≠ A.ra
  s7 : ∀ k k' l, A.ade k = some l → A.adb k' = some l → False
  s8 : A.ra ≠ A.q ∧ A.ra ≠ A.hg
/-- the chart's own objects -/
def CA.M (A : CA) (b : Addr) : Prop := b = A.x ∨ b = A.hd ∨ b = A.q ∨ b = A.hg ∨ b = A.e ∨ b = A.b ∨ (∃ k, A.ade k = some b) ∨ ∃ k, A.adb k = some b
theorem LstAt.ty {α : Type} {R : Hp → V → α → Prop} {H : Hp} {l : Addr} {xs : List α} (h : LstAt R H l xs) {b : Addr} {o : HO} (hb : H b = some o) (n : ∀ vs, o ≠ .lst vs) : l ≠ b := fun e => by
  obtain ⟨vs, h1, _⟩ := h
  rw [e, hb] at h1
  exact n vs (Option.some.inj h1)
section
variable {C : Addr} {g : List Rl} {A : CA} {S : CS} {H H' : Hp}
theorem ChartAt.keep (h : ChartAt C g A S H) (t : Tu H H') (k : ∀ b o, H b = some o → A.M b ∨ b = A.ra → H' b = some o) : ChartAt C g A S H' where
  ob := k _ _ h.ob (.inl (.inl rfl))
  rul := h.rul.keep mRule t fun o q => k _ _ q (.inr rfl)
  hts := k _ _ h.hts (.inl (.inr (.inl rfl)))
  que := h.que.keep mNode t fun o q => k _ _ q (.inl (.inr (.inr (.inl rfl))))
  hig := h.hig.keep mNode t fun o q => k _ _ q (.inl (.inr (.inr (.inr (.inl rfl)))))
  ends := h.ends.keep mPNat t (fun o q => k _ _ q (.inl (.inr (.inr (.inr (.inr (.inl rfl))))))) fun k' l hk o q => k _ _ q (.inl (.inr (.inr (.inr (.inr (.inr (.inr (.inl ⟨k', hk⟩))))))))
  beh := h.beh.keep mNode t (fun o q => k _ _ q (.inl (.inr (.inr (.inr (.inr (.inr (.inl rfl)))))))) fun k' l hk o q => k _ _ q (.inl (.inr (.inr (.inr (.inr (.inr (.inr (.inr ⟨k', hk⟩))))))))
  s1 := h.s1
  s2 := h.s2
  s3 := h.s3
  s4 := h.s4
  s5 := h.s5
  s6 := h.s6
  s7 := h.s7
  s8 := h.s8
theorem ChartAt.ex (h : ChartAt C g A S H) (e : Ex H H') : ChartAt C g A S H' := h.keep (tu_ex e) fun b o q _ => e b o q
/-- a write at one of its own -/
theorem Fr.at {M : Addr → Prop} {l : Addr} {o u : HO} (hl : H l = some u) (hn : ∀ xs, u ≠ .tup xs) (hM : M l) : Fr M M H (upd H l o) :=
  ⟨fun b w hb hm => by rw [upd_ne (fun e : b = l => hm (e ▸ hM))]; exact hb, tu_upd hl hn, fun _ h => .inl h⟩
theorem ChartAt.setHts (h : ChartAt C g A S H) (kvs : List (Node × V)) : ChartAt C g A { S with hts := kvs } (upd H A.hd (.dT kvs)) where
  ob := by rw [upd_ne (ne_of h.ob h.hts (fun z => nomatch z))]; exact h.ob
  rul := h.rul.keep mRule (tu_upd h.hts fun _ z => nomatch z) fun o q => by rw [upd_ne (h.rul.ty h.hts fun _ z => nomatch z)]; exact q
  hts := upd_same
  que := h.que.keep mNode (tu_upd h.hts fun _ z => nomatch z) fun o q => by rw [upd_ne (h.que.ty h.hts fun _ z => nomatch z)]; exact q
  hig := h.hig.keep mNode (tu_upd h.hts fun _ z => nomatch z) fun o q => by rw [upd_ne (h.hig.ty h.hts fun _ z => nomatch z)]; exact q
  ends := h.ends.keep mPNat (tu_upd h.hts fun _ z => nomatch z) (fun o q => by rw [upd_ne h.s1.symm]; exact q) fun k l hk o q => by rw [upd_ne ((h.ends.its k l hk).ty h.hts fun _ z => nomatch z)]; exact q
  beh := h.beh.keep mNode (tu_upd h.hts fun _ z => nomatch z) (fun o q => by rw [upd_ne h.s2.symm]; exact q) fun k l hk o q => by rw [upd_ne ((h.beh.its k l hk).ty h.hts fun _ z => nomatch z)]; exact q
  s1 := h.s1
  s2 := h.s2
  s3 := h.s3
  s4 := h.s4
  s5 := h.s5
  s6 := h.s6
  s7 := h.s7
  s8 := h.s8
theorem LD.ty {R : Hp → V → α → Prop} {d : Addr} {ad : Node → Option Addr} {c : Node → List α} {n : Nat} (h : LD .dT R H d ad c n) {b : Addr} {o : HO} (hb : H b = some o) (hn : ∀ kvs, o ≠ .dT kvs) : d ≠ b := fun e => by
  obtain ⟨kvs, h1, _⟩ := h.dic
  rw [e, hb] at h1
  exact hn kvs (Option.some.inj h1)
theorem ChartAt.setQue (h : ChartAt C g A S H) {ns : List Node} {vs vs0 : List V} (h0 : H A.q = some (.lst vs0)) (p : Paired (NodeAt H) vs ns) : ChartAt C g A { S with que := ns } (upd H A.q (.lst vs)) where
  ob := by rw [upd_ne (ne_of h.ob h0 (fun z => nomatch z))]; exact h.ob
  rul := h.rul.keep mRule (tu_upd h0 fun _ z => nomatch z) fun o q => by rw [upd_ne h.s8.1]; exact q
  hts := by rw [upd_ne (ne_of h.hts h0 (fun z => nomatch z))]; exact h.hts
  que := LstAt.nw mNode (tu_upd h0 fun _ z => nomatch z) p
  hig := h.hig.keep mNode (tu_upd h0 fun _ z => nomatch z) fun o q => by rw [upd_ne h.s4.symm]; exact q
  ends := h.ends.keep mPNat (tu_upd h0 fun _ z => nomatch z) (fun o q => by rw [upd_ne (h.ends.ty h0 fun _ z => nomatch z)]; exact q) fun k l hk o q => by rw [upd_ne (h.s5 k l hk).1]; exact q
  beh := h.beh.keep mNode (tu_upd h0 fun _ z => nomatch z) (fun o q => by rw [upd_ne (h.beh.ty h0 fun _ z => nomatch z)]; exact q) fun k l hk o q => by rw [upd_ne (h.s6 k l hk).1]; exact q
  s1 := h.s1
  s2 := h.s2
  s3 := h.s3
  s4 := h.s4
  s5 := h.s5
  s6 := h.s6
  s7 := h.s7
  s8 := h.s8
theorem ChartAt.setHig (h : ChartAt C g A S H) {ns : List Node} {vs vs0 : List V} (h0 : H A.hg = some (.lst vs0)) (p : Paired (NodeAt H) vs ns) : ChartAt C g A { S with hig := ns } (upd H A.hg (.lst vs)) where
  ob := by rw [upd_ne (ne_of h.ob h0 (fun z => nomatch z))]; exact h.ob
  rul := h.rul.keep mRule (tu_upd h0 fun _ z => nomatch z) fun o q => by rw [upd_ne h.s8.2]; exact q
  hts := by rw [upd_ne (ne_of h.hts h0 (fun z => nomatch z))]; exact h.hts
  que := h.que.keep mNode (tu_upd h0 fun _ z => nomatch z) fun o q => by rw [upd_ne h.s4]; exact q
  hig := LstAt.nw mNode (tu_upd h0 fun _ z => nomatch z) p
  ends := h.ends.keep mPNat (tu_upd h0 fun _ z => nomatch z) (fun o q => by rw [upd_ne (h.ends.ty h0 fun _ z => nomatch z)]; exact q) fun k l hk o q => by rw [upd_ne (h.s5 k l hk).2.1]; exact q
  beh := h.beh.keep mNode (tu_upd h0 fun _ z => nomatch z) (fun o q => by rw [upd_ne (h.beh.ty h0 fun _ z => nomatch z)]; exact q) fun k l hk o q => by rw [upd_ne (h.s6 k l hk).2.1]; exact q
  s1 := h.s1
  s2 := h.s2
  s3 := h.s3
  s4 := h.s4
  s5 := h.s5
  s6 := h.s6
  s7 := h.s7
  s8 := h.s8
/-- its list of what is higher made anew, its level one more -/
theorem ChartAt.setObj (h : ChartAt C g A S H) {l : Addr} (hl : H l = some (.lst [])) (hlq : A.q ≠ l) (hla : ∀ k, A.ade k ≠ some l) (hlb : ∀ k, A.adb k ≠ some l) (hlr : A.ra ≠ l) (k : Int) : ChartAt C g { A with hg := l } { S with hig := [], lv := k } (upd H A.x (.ins C A.dx (cF { A with hg := l } k))) where
  ob := upd_same
  rul := h.rul.keep mRule (tu_upd h.ob fun _ z => nomatch z) fun o q => by rw [upd_ne (h.rul.ty h.ob fun _ z => nomatch z)]; exact q
  hts := by rw [upd_ne (ne_of h.hts h.ob (fun z => nomatch z))]; exact h.hts
  que := h.que.keep mNode (tu_upd h.ob fun _ z => nomatch z) fun o q => by rw [upd_ne (h.que.ty h.ob fun _ z => nomatch z)]; exact q
  hig := ⟨[], by rw [upd_ne (ne_of hl h.ob (fun z => nomatch z))]; exact hl, .nil⟩
  ends := h.ends.keep mPNat (tu_upd h.ob fun _ z => nomatch z) (fun o q => by rw [upd_ne (h.ends.ty h.ob fun _ z => nomatch z)]; exact q) fun k l hk o q => by rw [upd_ne ((h.ends.its k l hk).ty h.ob fun _ z => nomatch z)]; exact q
  beh := h.beh.keep mNode (tu_upd h.ob fun _ z => nomatch z) (fun o q => by rw [upd_ne (h.beh.ty h.ob fun _ z => nomatch z)]; exact q) fun k l hk o q => by rw [upd_ne ((h.beh.its k l hk).ty h.ob fun _ z => nomatch z)]; exact q
  s1 := h.s1
  s2 := h.s2
  s3 := h.s3
  s4 := hlq
  s5 := fun k l' hk => ⟨(h.s5 k l' hk).1, fun z => hla k (by rw [← show l' = l from z]; exact hk), (h.s5 k l' hk).2.2⟩
  s6 := fun k l' hk => ⟨(h.s6 k l' hk).1, fun z => hlb k (by rw [← show l' = l from z]; exact hk), (h.s6 k l' hk).2.2⟩
  s7 := h.s7
  s8 := ⟨h.s8.1, hlr⟩
/-- what is pushed into the ends -/
theorem ChartAt.setEnds (h : ChartAt C g A S H) {ad' : Node → Option Addr} {c' : Node → List Nat} {n' : Nat} (L : LD .dT PNat H' A.e ad' c' n') (k1 : ∀ b o, H b = some o → b ≠ A.e → (∀ k', A.ade k' ≠ some b) → H' b = some o) (t : Tu H H') (k3 : ∀ k' l, ad' k' = some l → A.ade k' = some l ∨ H l = none) :
    ChartAt C g { A with ade := ad' } { S with ec := c', ne := n' } H' ∧ Fr A.M (CA.M { A with ade := ad' }) H H' := by
  have hx : ∀ b o, H b = some o → b ≠ A.e → (∀ vs, o ≠ .lst vs) → H' b = some o := fun b o hb hne hn => k1 b o hb hne fun k' hk => by
    obtain ⟨vs, q, _⟩ := h.ends.its k' b hk
    rw [hb] at q
    exact hn vs (Option.some.inj q)
  have nz : ∀ {l : Addr} {o : HO} {k' : Node}, ad' k' = some l → H l = some o → A.ade k' = some l := fun hk hl => by
    rcases k3 _ _ hk with z | z
    · exact z
    · rw [hl] at z; cases z
  obtain ⟨qv, hq, _⟩ := h.que
  obtain ⟨gv, hg, _⟩ := h.hig
  obtain ⟨rv, hr, _⟩ := h.rul
  obtain ⟨ev, he, _⟩ := h.ends.dic
  refine ⟨⟨?_, ?_, ?_, ?_, ?_, L, ?_, h.s1, h.s2, h.s3, h.s4, fun k l hk => ⟨fun z => ?_, fun z => ?_, fun z => ?_⟩, h.s6, fun k k' l hk hk' => ?_, h.s8⟩, ⟨fun b o hb hm => ?_, t, fun b hb => ?_⟩⟩
  · exact hx _ _ h.ob (ne_of h.ob he fun z => nomatch z) fun _ z => nomatch z
  · exact h.rul.keep mRule t fun o q => k1 _ _ q (ne_of hr he fun z => nomatch z) fun k' hk => (h.s5 k' _ hk).2.2 rfl
  · exact hx _ _ h.hts h.s1 fun _ z => nomatch z
  · exact h.que.keep mNode t fun o q => k1 _ _ q (ne_of hq he fun z => nomatch z) fun k' hk => (h.s5 k' _ hk).1 rfl
  · exact h.hig.keep mNode t fun o q => k1 _ _ q (ne_of hg he fun z => nomatch z) fun k' hk => (h.s5 k' _ hk).2.1 rfl
  · refine h.beh.keep mNode t (fun o q => ?_) fun k' l hk o q => k1 _ _ q ?_ fun k2 hk2 => h.s7 k2 k' l hk2 hk
    · obtain ⟨bv, hb, _⟩ := h.beh.dic
      rw [hb] at q
      cases q
      exact hx _ _ hb h.s3.symm fun _ z => nomatch z
    · exact (h.beh.its k' l hk).ty he fun _ z => nomatch z
  · have z : l = A.q := z
    subst z
    exact (h.s5 k _ (nz hk hq)).1 rfl
  · have z : l = A.hg := z
    subst z
    exact (h.s5 k _ (nz hk hg)).2.1 rfl
  · have z : l = A.ra := z
    subst z
    exact (h.s5 k _ (nz hk hr)).2.2 rfl
  · obtain ⟨bv, hb, _⟩ := h.beh.its k' l hk'
    exact h.s7 k k' l (nz hk hb) hk'
  · exact k1 b o hb (fun z => hm (.inr (.inr (.inr (.inr (.inl z)))))) fun k' hk => hm (.inr (.inr (.inr (.inr (.inr (.inr (.inl ⟨k', hk⟩)))))))
  · rcases hb with z | z | z | z | z | z | ⟨k', hk⟩ | z
    · exact .inl (.inl z)
    · exact .inl (.inr (.inl z))
    · exact .inl (.inr (.inr (.inl z)))
    · exact .inl (.inr (.inr (.inr (.inl z))))
    · exact .inl (.inr (.inr (.inr (.inr (.inl z)))))
    · exact .inl (.inr (.inr (.inr (.inr (.inr (.inl z))))))
    · rcases k3 k' b hk with z | z
      · exact .inl (.inr (.inr (.inr (.inr (.inr (.inr (.inl ⟨k', z⟩)))))))
      · exact .inr z
    · exact .inl (.inr (.inr (.inr (.inr (.inr (.inr (.inr z)))))))
/-- what is pushed into what stands behind -/
theorem ChartAt.setBeh (h : ChartAt C g A S H) {ad' : Node → Option Addr} {c' : Node → List Node} {n' : Nat} (L : LD .dT NodeAt H' A.b ad' c' n') (k1 : ∀ b o, H b = some o → b ≠ A.b → (∀ k', A.adb k' ≠ some b) → H' b = some o) (t : Tu H H') (k3 : ∀ k' l, ad' k' = some l → A.adb k' = some l ∨ H l = none) :
    ChartAt C g { A with adb := ad' } { S with bc := c', nb := n' } H' ∧ Fr A.M (CA.M { A with adb := ad' }) H H' := by
  have hx : ∀ b o, H b = some o → b ≠ A.b → (∀ vs, o ≠ .lst vs) → H' b = some o := fun b o hb hne hn => k1 b o hb hne fun k' hk => by
    obtain ⟨vs, q, _⟩ := h.beh.its k' b hk
    rw [hb] at q
    exact hn vs (Option.some.inj q)
  have nz : ∀ {l : Addr} {o : HO} {k' : Node}, ad' k' = some l → H l = some o → A.adb k' = some l := fun hk hl => by
    rcases k3 _ _ hk with z | z
    · exact z
    · rw [hl] at z; cases z
  obtain ⟨qv, hq, _⟩ := h.que
  obtain ⟨gv, hg, _⟩ := h.hig
  obtain ⟨rv, hr, _⟩ := h.rul
  obtain ⟨ev, he, _⟩ := h.beh.dic
  refine ⟨⟨?_, ?_, ?_, ?_, ?_, ?_, L, h.s1, h.s2, h.s3, h.s4, h.s5, fun k l hk => ⟨fun z => ?_, fun z => ?_, fun z => ?_⟩, fun k k' l hk hk' => ?_, h.s8⟩, ⟨fun b o hb hm => ?_, t, fun b hb => ?_⟩⟩
  · exact hx _ _ h.ob (ne_of h.ob he fun z => nomatch z) fun _ z => nomatch z
  · exact h.rul.keep mRule t fun o q => k1 _ _ q (ne_of hr he fun z => nomatch z) fun k' hk => (h.s6 k' _ hk).2.2 rfl
  · exact hx _ _ h.hts h.s2 fun _ z => nomatch z
  · exact h.que.keep mNode t fun o q => k1 _ _ q (ne_of hq he fun z => nomatch z) fun k' hk => (h.s6 k' _ hk).1 rfl
  · exact h.hig.keep mNode t fun o q => k1 _ _ q (ne_of hg he fun z => nomatch z) fun k' hk => (h.s6 k' _ hk).2.1 rfl
  · refine h.ends.keep mPNat t (fun o q => ?_) fun k' l hk o q => k1 _ _ q ?_ fun k2 hk2 => h.s7 k' k2 l hk hk2
    · obtain ⟨bv, hb, _⟩ := h.ends.dic
      rw [hb] at q
      cases q
      exact hx _ _ hb h.s3 fun _ z => nomatch z
    · exact (h.ends.its k' l hk).ty he fun _ z => nomatch z
  · have z : l = A.q := z
    subst z
    exact (h.s6 k _ (nz hk hq)).1 rfl
  · have z : l = A.hg := z
    subst z
    exact (h.s6 k _ (nz hk hg)).2.1 rfl
  · have z : l = A.ra := z
    subst z
    exact (h.s6 k _ (nz hk hr)).2.2 rfl
  · obtain ⟨bv, hb, _⟩ := h.ends.its k l hk
    exact h.s7 k k' l hk (nz hk' hb)
  · exact k1 b o hb (fun z => hm (.inr (.inr (.inr (.inr (.inr (.inl z))))))) fun k' hk => hm (.inr (.inr (.inr (.inr (.inr (.inr (.inr ⟨k', hk⟩)))))))
  · rcases hb with z | z | z | z | z | z | z | ⟨k', hk⟩
    · exact .inl (.inl z)
    · exact .inl (.inr (.inl z))
    · exact .inl (.inr (.inr (.inl z)))
    · exact .inl (.inr (.inr (.inr (.inl z))))
    · exact .inl (.inr (.inr (.inr (.inr (.inl z)))))
    · exact .inl (.inr (.inr (.inr (.inr (.inr (.inl z))))))
    · exact .inl (.inr (.inr (.inr (.inr (.inr (.inr (.inl z)))))))
    · rcases k3 k' b hk with z | z
      · exact .inl (.inr (.inr (.inr (.inr (.inr (.inr (.inr ⟨k', z⟩)))))))
      · exact .inr z
theorem mQ : A.M A.q := .inr (.inr (.inl rfl))
theorem mH : A.M A.hd := .inr (.inl rfl)
theorem mG : A.M A.hg := .inr (.inr (.inr (.inl rfl)))
theorem mX : A.M A.x := .inl rfl
end
end FR

set_option Elab.async false
set_option linter.all false
set_option maxRecDepth 100000
set_option maxHeartbeats 4000000
namespace FR
open PySem L2
structure TC (K : PySem.W.Frag) (mg : Str → Option Value) (C : Addr) : Prop where
  cl : Cls K C
  rules : NoAttr K C "rules"
  heights : NoAttr K C "heights"
  level : NoAttr K C "level"
  queue : NoAttr K C "queue"
  higher : NoAttr K C "higher"
  ends : NoAttr K C "ends"
  behind : NoAttr K C "behind"
  mgC : mg "Chart" = some (.ref C)
/-- a method, ready to be called -/
structure FnM (P : Program) (w : World) (K : PySem.W.Frag) (mg : Str → Option Value) (base : Heap) (C : Addr) (m : Str) (k : Nat) (ps : List Str) (sp : Sp) (f : Addr) (fd : FuncData) : Prop where
  ok : FnOk P w K mg base CX0 k f fd ps sp
  m : Meth K C m f
  b : Binds K fd ps []
/-- what offer changes -/
def CA.Mo (A : CA) (b : Addr) : Prop := b = A.hd ∨ b = A.q
theorem Mo_M {A : CA} {b : Addr} (h : A.Mo b) : A.M b := by
  rcases h with h | h
  · exact .inr (.inl h)
  · exact .inr (.inr (.inl h))
theorem Fr.weak {M N : Addr → Prop} {H H' : Hp} (f : Fr M M H H') (h : ∀ b, M b → N b) : Fr N N H H' := ⟨fun b o hb hn => f.keep b o hb fun z => hn (h b z), f.tup, fun _ z => .inl z⟩
theorem LD.get {α : Type} {R : Hp → V → α → Prop} {H : Hp} {d : Addr} {ad : Node → Option Addr} {c : Node → List α} {n : Nat} (L : LD .dT R H d ad c n) (k : Node) {p : Addr} (hp : H p = some (.lst [])) :
    ∃ kvs, H d = some (.dT kvs) ∧ ∃ l vs, (valV kvs k).getD (.ref p) = .ref l ∧ H l = some (.lst vs) ∧ Paired (R H) vs (c k) ∧ (l = p ∨ ad k = some l) := by
  obtain ⟨kvs, h1, _, h3⟩ := L.dic
  refine ⟨kvs, h1, ?_⟩
  rw [h3]
  cases e : ad k with
  | none => exact ⟨p, [], rfl, hp, by rw [L.non k e]; exact .nil, .inl rfl⟩
  | some l =>
    obtain ⟨vs, h4, h5⟩ := L.its k l e
    exact ⟨l, vs, rfl, h4, h5, .inr rfl⟩
section
variable {P : Program} {w : World} {K : PySem.W.Frag} {mg : Str → Option Value} {base : Heap}
/-! ### offer -/
theorem sc_offer : FnScope ["self", "node"] ["self", "node"] (defScope sOffer) := ⟨rfl, rfl, rfl, by decide +kernel, rfl, by decide +kernel, by decide +kernel⟩
def sp_offer (C : Addr) : Sp := fun vs H Q _ => ∃ (g : List Rl) (A : CA) (S : CS) (v : V) (n : Node), vs = [.ref A.x, v] ∧ ChartAt C g A S H ∧ NodeAt H v n ∧ S.hts.length < 100000 ∧ S.que.length < 100000 ∧
  ∀ H', ChartAt C g A (offerS S n) H' → Fr A.Mo A.Mo H H' → Q .non H'
theorem big {n : Nat} (h : n < 100000) : n < sizeLine := Nat.lt_of_lt_of_le h (by decide)
theorem ok_offer {f C : Addr} {fd : FuncData} {k : Nat} (F : Fun K "offer" "Chart.offer" sOffer f fd) (T : TC K mg C) : FnOk P w K mg base CX0 (k + 1) f fd ["self", "node"] (sp_offer C) := by
  refine F.ok sc_offer (fun vs H Q E h => ?_) (fun cdv A outer s H vs Q E hr h => ?_)
  · obtain ⟨g, A, S, v, n, rfl, _⟩ := h
    rfl
  · obtain ⟨g, A, S, v, n, rfl, h, ⟨a, rfl, ha⟩, z1, z2, q⟩ := h
    have hu := hu_of hr
    refine ⟨_, pss_one (ps_if (pt_cmp (pc_dnotin hu (pv 1) (pe_fld (pv 0) rfl))) (pss_cons (ps_dput hu (pe_fld (pv 0) rfl) (pv 1) (pe_fld (pv 0) rfl) rfl)
      (pss_one (ps_expr (pe_bm PySem.F.plainAttrs_list PySem.F.slot_list_append PySem.F.type_list_append mt_append (pe_fld (pv 0) rfl) (pa_cons (pv 1) pa_nil))))) pss_nil), ?_⟩
    refine ⟨_, rfl, _, rfl, A.x, C, A.dx, _, _, rfl, h.ob, T.cl, T.heights, cF_heights _ _, A.hd, _, rfl, DGet.t h.hts ha, _, rfl, ?_⟩
    by_cases c : (valV S.hts n).isSome = true
    · rw [c]
      refine iteF ?_
      have e : offerS S n = S := if_pos c
      rw [e] at q
      exact q H h (Fr.refl H)
    · rw [Bool.eq_false_iff.mpr c]
      refine iteT ?_
      refine ⟨_, rfl, A.x, C, A.dx, _, _, rfl, h.ob, T.cl, T.level, cF_level _ _, _, rfl, A.x, C, A.dx, _, _, rfl, h.ob, T.cl, T.heights, cF_heights _ _, _, rfl, A.hd, _, rfl, DPut.t h.hts ha (big z1), ?_⟩
      have h1 := h.setHts (putK S.hts n (.int S.lv))
      have f1 : Fr A.Mo A.Mo H (upd H A.hd (.dT (putK S.hts n (.int S.lv)))) := Fr.at h.hts (fun _ z => nomatch z) (.inl rfl)
      obtain ⟨qs, hq, pq⟩ := h1.que
      refine ⟨_, rfl, A.x, C, A.dx, _, _, rfl, h1.ob, T.cl, T.queue, cF_queue _ _, .inl ⟨rfl, _, sq hq⟩, _, rfl, A.q, qs, _, rfl, rfl, hq, ?_, ?_⟩
      · rw [Paired.length pq]
        exact big z2
      · have h2 := h1.setQue (ns := S.que ++ [n]) hq (Paired.snoc pq ⟨a, rfl, f1.tup _ _ ha⟩)
        have e : offerS S n = { S with hts := putK S.hts n (.int S.lv), que := S.que ++ [n] } := if_neg c
        rw [e] at q
        exact q _ h2 (f1.trans (Fr.at hq (fun _ z => nomatch z) (.inr rfl)))
/-! ### take_part -/
theorem foldl_take {α β : Type} (f : β → α → β) (b : β) {l : List α} {i : Nat} {x : α} (h : l[i]? = some x) : (l.take (i + 1)).foldl f b = f ((l.take i).foldl f b) x := by
  rw [List.take_add_one, h, List.foldl_append]
  rfl
theorem foldl_len {α : Type} (f : α → Node) : ∀ (l : List α) (S : CS), (l.foldl (fun S x => offerS S (f x)) S).hts.length ≤ S.hts.length + l.length ∧ (l.foldl (fun S x => offerS S (f x)) S).que.length ≤ S.que.length + l.length
  | [], S => ⟨Nat.le_refl _, Nat.le_refl _⟩
  | a :: l, S => by
    have h1 := foldl_len f l (offerS S (f a))
    have h2 := offerS_hts_len S (f a)
    rw [List.foldl_cons, List.length_cons]
    omega
theorem foldl_beh {α : Type} (f : α → Node) : ∀ (l : List α) (S : CS), (l.foldl (fun S x => offerS S (f x)) S).bc = S.bc ∧ (l.foldl (fun S x => offerS S (f x)) S).ec = S.ec
  | [], S => ⟨rfl, rfl⟩
  | a :: l, S => by
    have h1 := foldl_beh f l (offerS S (f a))
    have h2 := offerS_same S (f a)
    rw [List.foldl_cons, h1.1, h1.2]
    exact ⟨h2.2.1, h2.1⟩
theorem sc_tpart : FnScope ["self", "part", "i", "j", "r", "d", "begin"] ["self", "part", "i", "j"] (defScope sTPart) := ⟨rfl, rfl, rfl, by decide +kernel, rfl, by decide +kernel, by decide +kernel⟩
def sp_tpart (C : Addr) : Sp := fun vs H Q _ => ∃ (g : List Rl) (A : CA) (S : CS) (X : Str) (i j : Nat), vs = [.ref A.x, .str X, .int (i : Int), .int (j : Int)] ∧ ChartAt C g A S H ∧
  S.hts.length + (S.bc (kS X i)).length < 100000 ∧ S.que.length + (S.bc (kS X i)).length < 100000 ∧ S.ne < 100000 ∧ (S.ec (kS X i)).length < 100000 ∧ (∀ m ∈ S.bc (kS X i), ∃ r d b, m = n3 r d b) ∧
  ∀ A' H', A'.x = A.x → ChartAt C g A' (partS S X i j) H' → Fr A.M A'.M H H' → Q .non H'
theorem ok_tpart {f fO C : Addr} {fd fdO : FuncData} {k : Nat} (F : Fun K "take_part" "Chart.take_part" sTPart f fd) (T : TC K mg C) (G : FnM P w K mg base C "offer" k ["self", "node"] (sp_offer C) fO fdO) :
    FnOk P w K mg base CX0 (k + 1) f fd ["self", "part", "i", "j"] (sp_tpart C) := by
  refine F.ok sc_tpart (fun vs H Q E h => ?_) (fun cdv A0 outer s H vs Q E hr h => ?_)
  · obtain ⟨g, A, S, X, i, j, rfl, _⟩ := h
    rfl
  · obtain ⟨g, A, S, X, i, j, rfl, h, z1, z2, z3, z4, hb, q⟩ := h
    have hu := hu_of hr
    refine ⟨_, pss_cons (ps_expr (pe_bm PySem.F.plainAttrs_list PySem.F.slot_list_append PySem.F.type_list_append mt_append (pe_dsetdT hu (pe_fld (pv 0) rfl) (pe_tup (pa_cons (pv 1) (pa_cons (pv 2) pa_nil))) (pe_lst pa_nil) ⟨rfl, rfl, rfl, rfl⟩) (pa_cons (pv 3) pa_nil)))
      (pss_one (ps_for PassesOwn.never rfl (pi_list (pe_dget2 hu (pe_fld (pv 0) rfl) (pe_tup (pa_cons (pv 1) (pa_cons (pv 2) pa_nil))) (pe_lst pa_nil) ⟨rfl, rfl, rfl, rfl⟩))
        (pg_tup rfl (pgs_cons (pg_name (i := 4) sc_tpart.nd rfl (.inl rfl)) (pgs_cons (pg_name (i := 5) sc_tpart.nd rfl (.inl rfl)) (pgs_cons (pg_name (i := 6) sc_tpart.nd rfl (.inl rfl)) pgs_nil))))
        (pss_one (ps_expr (pe_meth (pv 0) T.cl G.m G.ok hr G.b .nil pass0 (pa_cons (pe_tup (pa_cons (pv 4) (pa_cons (pe_op op_add (pv 5) pe_int) (pa_cons (pv 6) (pa_cons (pv 3) pa_nil))))) pa_nil)))))), ?_⟩
    -- the place is kept among the ends
    refine s_pushT (k := kS X i) (x := j) mPNat h.ends (big z3) (big z4) (fun Q hq => ⟨_, rfl, A.x, C, A.dx, _, _, rfl, h.ob, T.cl, T.ends, cF_ends _ _, hq⟩)
      (fun Q hq => ⟨_, rfl, _, rfl, (by show 2 ≤ sizeLine; decide), fun u hu0 => hq u _ (Evl.Ex.new hu0) upd_same⟩) (fun H3 _ Q hq => ⟨_, rfl, hq _ H3 (Evl.Ex.refl _) rfl⟩) fun ad' H1 L1 k1 t1 k3 => ?_
    obtain ⟨h1, f1⟩ := h.setEnds L1 k1 t1 k3
    -- all that can follow
    obtain ⟨kvs, dB, _, _⟩ := h1.beh.dic
    refine ⟨_, rfl, A.x, C, A.dx, _, _, rfl, h1.ob, T.cl, T.behind, cF_behind _ _, A.b, rfl, .inr ⟨kvs, .inl dB⟩, _, rfl, _, rfl, (by show 2 ≤ sizeLine; decide), fun u hu0 => ⟨Nat.zero_le _, fun p hp => ?_⟩⟩
    have e1 : Ex H1 (upd H1 u (.tup [.str X, .int (i : Int)])) := Evl.Ex.new hu0
    have e2 := e1.trans (Evl.Ex.new (o := .lst []) hp)
    have hp1 : H1 p = none := Evl.fresh_back e1 hp
    have h2 := h1.ex e2
    obtain ⟨kvs2, dB2, l, ls, eg, hl, pl, lp⟩ := h2.beh.get (kS X i) (p := p) upd_same
    refine ⟨_, DGet.t (k := kS X i) dB2 (Evl.Ex.new (o := .lst []) hp _ _ (upd_same : _ = some (HO.tup [.str X, .int (i : Int)]))), ?_⟩
    rw [eg]
    have nMo : ¬ CA.Mo { A with ade := ad' } l := by
      rcases lp with e | e
      · subst e
        rintro (z | z)
        · have z : l = A.hd := z
          have := h1.hts
          rw [show CA.hd { A with ade := ad' } = l from z.symm, hp1] at this
          cases this
        · have z : l = A.q := z
          obtain ⟨_, this, _⟩ := h1.que
          rw [show CA.q { A with ade := ad' } = l from z.symm, hp1] at this
          cases this
      · rintro (z | z)
        · exact (h2.beh.its _ _ e).ty h2.hts (fun _ z => nomatch z) z
        · exact (h2.s6 _ _ e).1 z
    refine ⟨l, rfl, ⟨ls, sq hl⟩, for_list (K := K) (xs := ls) (fun m σ H' => ChartAt C g { A with ade := ad' } (((S.bc (kS X i)).take m).foldl (fun S m => offerS S (offN j m)) (part1 S X i j)) H' ∧ Fr (CA.Mo { A with ade := ad' }) (CA.Mo { A with ade := ad' }) (upd (upd H1 u (.tup [.str X, .int (i : Int)])) p (.lst [])) H' ∧
        ∃ v4 v5 v6, σ = [some (.ref A.x), some (.str X), some (.int (i : Int)), some (.int (j : Int)), v4, v5, v6]) ⟨h2, Fr.refl _, none, none, none, rfl⟩ (fun m σ H' _ ⟨_, f, _⟩ => sq (f.keep _ _ hl nMo)) ?_ ?_⟩
    · rintro m x σ H' hm ⟨h3, f3, v4, v5, v6, rfl⟩
      obtain ⟨y, hy, ⟨b, rfl, hbt⟩⟩ := pr_get' pl hm
      obtain ⟨r, d, bg, rfl⟩ := hb y (List.mem_of_getElem? hy)
      have hbt3 := f3.tup _ _ hbt
      refine ⟨b, _, rfl, st hbt3, rfl, _, _, rfl, _, _, rfl, _, _, rfl, rfl, ?_⟩
      refine ⟨_, rfl, A.x, A.dx, _, rfl, h3.ob, cF_offer _ _, ?_⟩
      refine ⟨_, rfl, _, rfl, _, _, rfl, rfl, _, rfl, _, rfl, (by show 4 ≤ sizeLine; decide), fun u2 hu2 => ?_⟩
      have hml : m < (S.bc (kS X i)).length := (List.getElem?_eq_some_iff.mp hy).1
      have ln := foldl_len (offN j) ((S.bc (kS X i)).take m) (part1 S X i j)
      have lt : ((S.bc (kS X i)).take m).length ≤ (S.bc (kS X i)).length := by rw [List.length_take]; omega
      have lt2 : (part1 S X i j).hts.length = S.hts.length ∧ (part1 S X i j).que.length = S.que.length := ⟨rfl, rfl⟩
      refine ⟨g, { A with ade := ad' }, _, _, nR r (d + 1) bg j, rfl, h3.ex (Evl.Ex.new hu2), ⟨u2, rfl, upd_same⟩, by show List.length _ < _; omega, by show List.length _ < _; omega, fun H4 h4 f4 => ?_⟩
      refine ⟨?_, (f3.trans (Fr.ex (Evl.Ex.new hu2))).trans f4, _, _, _, rfl⟩
      rw [foldl_take _ _ hy, offN_n3]
      exact h4
    · rintro σ H' ⟨h3, f3, v4, v5, v6, rfl⟩
      have hle : ls.length = (S.bc (kS X i)).length := Paired.length pl
      rw [hle, List.take_length] at h3
      exact q { A with ade := ad' } H' rfl h3 ((f1.trans (Fr.ex e2)).trans (f3.weak fun _ z => Mo_M z))
end
end FR

set_option Elab.async false
set_option linter.all false
set_option maxRecDepth 100000
set_option maxHeartbeats 4000000
namespace FR
open PySem L2
theorem vI (a b : Nat) : decide (V.int (a : Int) = V.int (b : Int)) = decide (a = b) := by
  by_cases h : a = b
  · subst h; rw [decide_eq_true rfl, decide_eq_true rfl]
  · rw [decide_eq_false h, decide_eq_false fun z => h (by have := V.int.inj z; omega)]
section
variable {P : Program} {w : World} {K : PySem.W.Frag} {mg : Str → Option Value} {base : Heap}
/-! ### take_parts -/
theorem sc_tparts : FnScope ["self", "r", "d", "i", "j", "head", "parts", "worth", "end"] ["self", "r", "d", "i", "j"] (defScope sTParts) := ⟨rfl, rfl, rfl, by decide +kernel, rfl, by decide +kernel, by decide +kernel⟩
def sp_tparts (C : Addr) : Sp := fun vs H Q _ => ∃ (g : List Rl) (A : CA) (S : CS) (r d i j : Nat) (ρ : Rl), vs = [.ref A.x, .int (r : Int), .int (d : Int), .int (i : Int), .int (j : Int)] ∧ ChartAt C g A S H ∧ g[r]? = some ρ ∧ d ≤ ρ.ps.length ∧
  (d = ρ.ps.length → S.hig.length < 100000 ∧ ∀ H', ChartAt C g A (full1 S ρ.hd i j) H' → Fr A.M A.M H H' → Q .non H') ∧
  (∀ X, ρ.ps[d]? = some X → S.hts.length + (S.ec (kS X j)).length < 100000 ∧ S.que.length + (S.ec (kS X j)).length < 100000 ∧ S.nb < 100000 ∧ (S.bc (kS X j)).length < 100000 ∧
    ∀ A' H', A'.x = A.x → ChartAt C g A' (ruleS S X r d i j) H' → Fr A.M A'.M H H' → Q .non H')
theorem ok_tparts {f fO C : Addr} {fd fdO : FuncData} {k : Nat} (F : Fun K "take_parts" "Chart.take_parts" sTParts f fd) (U : Txt K mg) (T : TC K mg C) (G : FnM P w K mg base C "offer" k ["self", "node"] (sp_offer C) fO fdO) :
    FnOk P w K mg base CX0 (k + 1) f fd ["self", "r", "d", "i", "j"] (sp_tparts C) := by
  refine F.ok sc_tparts (fun vs H Q E h => ?_) (fun cdv A0 outer s H vs Q E hr h => ?_)
  · obtain ⟨g, A, S, r, d, i, j, ρ, rfl, _⟩ := h
    rfl
  · obtain ⟨g, A, S, r, d, i, j, ρ, rfl, h, hρ, hd, q1, q2⟩ := h
    have hu := hu_of hr
    refine ⟨_, pss_cons (ps_asg (pe_ix ix_list (pe_fld (pv 0) rfl) (pv 1) (fun _ _ => rfl)) (pg_tup rfl (pgs_cons (pg_name (i := 5) sc_tparts.nd rfl (.inl rfl)) (pgs_cons (pg_name (i := 6) sc_tparts.nd rfl (.inl rfl)) (pgs_cons (pg_name (i := 7) sc_tparts.nd rfl (.inl rfl)) pgs_nil)))))
      (pss_cons (ps_if (pt_cmpR op_eq (pv 2) (pe_callB call_len_seq (by rfl) U.len bt_len (pa_cons (pv 6) pa_nil)) (nomark _))
        (pss_cons (ps_expr (pe_bm PySem.F.plainAttrs_list PySem.F.slot_list_append PySem.F.type_list_append mt_append (pe_fld (pv 0) rfl) (pa_cons (pe_tup (pa_cons (pv 5) (pa_cons (pv 3) (pa_cons (pv 4) pa_nil)))) pa_nil))) (pss_one ps_retN)) pss_nil)
      (pss_cons (ps_expr (pe_bm PySem.F.plainAttrs_list PySem.F.slot_list_append PySem.F.type_list_append mt_append (pe_dsetdT hu (pe_fld (pv 0) rfl) (pe_tup (pa_cons (pe_ix ix_tup (pv 6) (pv 2) (fun _ _ => rfl)) (pa_cons (pv 4) pa_nil))) (pe_lst pa_nil) ⟨rfl, rfl, rfl, rfl⟩) (pa_cons (pe_tup (pa_cons (pv 1) (pa_cons (pv 2) (pa_cons (pv 3) pa_nil)))) pa_nil)))
      (pss_one (ps_for PassesOwn.never rfl (pi_list (pe_dget2 hu (pe_fld (pv 0) rfl) (pe_tup (pa_cons (pe_ix ix_tup (pv 6) (pv 2) (fun _ _ => rfl)) (pa_cons (pv 4) pa_nil))) (pe_lst pa_nil) ⟨rfl, rfl, rfl, rfl⟩)) (pg_name (i := 8) sc_tparts.nd rfl (.inl rfl))
        (pss_one (ps_expr (pe_meth (pv 0) T.cl G.m G.ok hr G.b .nil pass0 (pa_cons (pe_tup (pa_cons (pv 1) (pa_cons (pe_op op_add (pv 2) pe_int) (pa_cons (pv 3) (pa_cons (pv 8) pa_nil))))) pa_nil)))))))), ?_⟩
    obtain ⟨gv, hg, pg⟩ := h.rul
    obtain ⟨rv, hrv, ⟨ra, rp, rfl, h1, h2⟩⟩ := pr_get pg hρ
    refine ⟨_, rfl, A.x, C, A.dx, _, _, rfl, h.ob, T.cl, T.rules, cF_rules _ _, _, rfl, A.ra, gv, _, _, rfl, rfl, sq hg, atI_nat hrv, ?_⟩
    refine ⟨ra, _, rfl, st h1, rfl, _, _, rfl, _, _, rfl, _, _, rfl, rfl, ?_⟩
    refine ⟨_, rfl, _, rfl, rp, _, rfl, .inr (st h2), rfl, _, rfl, ?_⟩
    rw [List.length_map, vI]
    refine ite2 (fun hc => ?_) (fun hc => ?_)
    · have hc := of_decide_eq_true hc
      obtain ⟨z1, q⟩ := q1 hc
      obtain ⟨hv, hh, ph⟩ := h.hig
      refine ⟨_, rfl, A.x, C, A.dx, _, _, rfl, h.ob, T.cl, T.higher, cF_higher _ _, .inl ⟨rfl, _, sq hh⟩, _, rfl, _, rfl, _, rfl, (by show 3 ≤ sizeLine; decide), fun u hu0 => ?_⟩
      have e1 : Ex H (upd H u (.tup [.str ρ.hd, .int (i : Int), .int (j : Int)])) := Evl.Ex.new hu0
      have h3 := h.ex e1
      refine ⟨A.hg, hv, _, rfl, rfl, e1 _ _ hh, by rw [Paired.length ph]; exact big z1, ?_⟩
      exact q _ (h3.setHig (ns := S.hig ++ [nS ρ.hd i j]) (e1 _ _ hh) (Paired.snoc (Paired.mono (fun _ _ => mNode _ _ _ _ (tu_ex e1)) ph) ⟨u, rfl, upd_same⟩)) ((Fr.ex e1).trans (Fr.at (e1 _ _ hh) (fun _ z => nomatch z) mG))
    · have hdl : d < ρ.ps.length := Nat.lt_of_le_of_ne hd fun z => hc (decide_eq_true z)
      have hX : ρ.ps[d]? = some ρ.ps[d] := List.getElem?_eq_getElem hdl
      generalize ρ.ps[d] = X at hX
      obtain ⟨z1, z2, z3, z4, q⟩ := q2 X hX
      have hXv : (ρ.ps.map V.str)[d]? = some (.str X) := by rw [List.getElem?_map, hX]; rfl
      dsimp only [tNext, tSeq]
      refine s_pushT (k := kS X j) (x := n3 r d i) mNode h.beh (big z3) (big z4) (fun Q hq => ⟨_, rfl, A.x, C, A.dx, _, _, rfl, h.ob, T.cl, T.behind, cF_behind _ _, hq⟩)
        (fun Q hq => ⟨_, rfl, _, rfl, rp, _, _, _, rfl, rfl, st h2, atI_nat hXv, _, rfl, (by show 2 ≤ sizeLine; decide), fun u hu0 => hq u _ (Evl.Ex.new hu0) upd_same⟩)
        (fun H3 _ Q hq => ⟨_, rfl, _, rfl, _, rfl, (by show 3 ≤ sizeLine; decide), fun u hu0 => hq _ _ (Evl.Ex.new hu0) ⟨u, rfl, upd_same⟩⟩) fun ad' H1 L1 k1 t1 k3 => ?_
      obtain ⟨h3, f1⟩ := h.setBeh L1 k1 t1 k3
      obtain ⟨kvs, dE, _, _⟩ := h3.ends.dic
      have h2' := t1 _ _ h2
      refine ⟨_, rfl, A.x, C, A.dx, _, _, rfl, h3.ob, T.cl, T.ends, cF_ends _ _, A.e, rfl, .inr ⟨kvs, .inl dE⟩, _, rfl, _, rfl, rp, _, _, _, rfl, rfl, st h2', atI_nat hXv, _, rfl, (by show 2 ≤ sizeLine; decide), fun u hu0 => ⟨Nat.zero_le _, fun p hp => ?_⟩⟩
      have e1 : Ex H1 (upd H1 u (.tup [.str X, .int (j : Int)])) := Evl.Ex.new hu0
      have e2 := e1.trans (Evl.Ex.new (o := .lst []) hp)
      have hp1 : H1 p = none := Evl.fresh_back e1 hp
      have h4 := h3.ex e2
      obtain ⟨kvs2, dE2, l, ls, eg, hl, pl, lp⟩ := h4.ends.get (kS X j) (p := p) upd_same
      refine ⟨_, DGet.t (k := kS X j) dE2 (Evl.Ex.new (o := .lst []) hp _ _ (upd_same : _ = some (HO.tup [.str X, .int (j : Int)]))), ?_⟩
      rw [eg]
      have nMo : ¬ CA.Mo { A with adb := ad' } l := by
        rcases lp with e | e
        · subst e
          rintro (z | z)
          · have z : l = A.hd := z
            have := h3.hts
            rw [show CA.hd { A with adb := ad' } = l from z.symm, hp1] at this
            cases this
          · have z : l = A.q := z
            obtain ⟨_, this, _⟩ := h3.que
            rw [show CA.q { A with adb := ad' } = l from z.symm, hp1] at this
            cases this
        · rintro (z | z)
          · exact (h4.ends.its _ _ e).ty h4.hts (fun _ z => nomatch z) z
          · exact (h4.s5 _ _ e).1 z
      have hle : ls.length = (S.ec (kS X j)).length := Paired.length pl
      refine ⟨l, rfl, ⟨ls, sq hl⟩, for_list (K := K) (xs := ls) (fun m σ H' => ChartAt C g { A with adb := ad' } (((S.ec (kS X j)).take m).foldl (fun S e => offerS S (nR r (d + 1) i e)) (rule1 S X r d i j)) H' ∧ Fr (CA.Mo { A with adb := ad' }) (CA.Mo { A with adb := ad' }) (upd (upd H1 u (.tup [.str X, .int (j : Int)])) p (.lst [])) H' ∧
          ∃ v8, σ = [some (.ref A.x), some (.int (r : Int)), some (.int (d : Int)), some (.int (i : Int)), some (.int (j : Int)), some (.str ρ.hd), some (.ref rp), some (.int ρ.wo), v8]) ⟨h4, Fr.refl _, none, rfl⟩ (fun m σ H' _ ⟨_, f, _⟩ => sq (f.keep _ _ hl nMo)) ?_ ?_⟩
      · rintro m x σ H' hm ⟨h5, f3, v8, rfl⟩
        obtain ⟨e, hy, rfl⟩ := pr_get' pl hm
        refine ⟨_, rfl, A.x, A.dx, _, rfl, h5.ob, cF_offer _ _, ?_⟩
        refine ⟨_, rfl, _, rfl, _, _, rfl, rfl, _, rfl, _, rfl, (by show 4 ≤ sizeLine; decide), fun u2 hu2 => ?_⟩
        have hml : m < (S.ec (kS X j)).length := (List.getElem?_eq_some_iff.mp hy).1
        have ln := foldl_len (fun e => nR r (d + 1) i e) ((S.ec (kS X j)).take m) (rule1 S X r d i j)
        have lt : ((S.ec (kS X j)).take m).length ≤ (S.ec (kS X j)).length := by rw [List.length_take]; omega
        have lt2 : (rule1 S X r d i j).hts.length = S.hts.length ∧ (rule1 S X r d i j).que.length = S.que.length := ⟨rfl, rfl⟩
        refine ⟨g, { A with adb := ad' }, _, _, nR r (d + 1) i e, rfl, h5.ex (Evl.Ex.new hu2), ⟨u2, rfl, upd_same⟩, by show List.length _ < _; omega, by show List.length _ < _; omega, fun H6 h6 f4 => ?_⟩
        refine ⟨?_, (f3.trans (Fr.ex (Evl.Ex.new hu2))).trans f4, _, rfl⟩
        rw [foldl_take _ _ hy]
        exact h6
      · rintro σ H' ⟨h5, f3, v8, rfl⟩
        rw [hle, List.take_length] at h5
        exact q { A with adb := ad' } H' rfl h5 ((f1.trans (Fr.ex e2)).trans (f3.weak fun _ z => Mo_M z))
end
end FR

set_option Elab.async false
set_option linter.all false
set_option maxRecDepth 100000
set_option maxHeartbeats 4000000
namespace FR
open PySem L2
theorem snoc_of {α : Type} {l : List α} (h : l ≠ []) : ∃ q n, l = q ++ [n] := ⟨l.dropLast, l.getLast h, (List.dropLast_concat_getLast h).symm⟩
theorem UForm.cases2 {g : List Rl} {t : List Nat} {n : Node} (h : UForm g t n) : (∃ X i j, n = nS X i j) ∨ ∃ r d i j ρ, n = nR r d i j ∧ g[r]? = some ρ ∧ d ≤ ρ.ps.length := by
  cases h with
  | @sg i c _ => exact .inl ⟨_, _, _, rfl⟩
  | hd _ _ _ => exact .inl ⟨_, _, _, rfl⟩
  | rl h1 h2 _ _ => exact .inr ⟨_, _, _, _, _, rfl, h1, h2⟩
section
variable {P : Program} {w : World} {K : PySem.W.Frag} {mg : Str → Option Value} {base : Heap}
/-! ### take_level -/
theorem sc_tlevel : FnScope ["self", "node"] ["self"] (defScope sTLevel) := ⟨rfl, rfl, rfl, by decide +kernel, rfl, by decide +kernel, by decide +kernel⟩
def sp_tlevel (C : Addr) : Sp := fun vs H Q _ => ∃ (g : List Rl) (t : List Nat) (A : CA) (S : CS), vs = [.ref A.x] ∧ ChartAt C g A S H ∧ ChInv g t S [] ∧ (∀ ρ ∈ g, ρ.ps.length ≤ 6) ∧ (Un g t).length ≤ 2000 ∧
  ∀ A' S' H', A'.x = A.x → ChartAt C g A' S' H' → ChInv g t S' [] → S'.que = [] → (S' = S ∨ mu g t S' < mu g t S) → (∀ x ∈ S.keys, x ∈ S'.keys) → Fr A.M A'.M H H' → Q .non H'
theorem ok_tlevel {f fP fR C : Addr} {fd fdP fdR : FuncData} {k : Nat} (F : Fun K "take_level" "Chart.take_level" sTLevel f fd) (U : Txt K mg) (T : TC K mg C) (GP : FnM P w K mg base C "take_part" k ["self", "part", "i", "j"] (sp_tpart C) fP fdP)
    (GR : FnM P w K mg base C "take_parts" k ["self", "r", "d", "i", "j"] (sp_tparts C) fR fdR) : FnOk P w K mg base CX0 (k + 1) f fd ["self"] (sp_tlevel C) := by
  refine F.ok sc_tlevel (fun vs H Q E h => ?_) (fun cdv A0 outer s H vs Q E hr h => ?_)
  · obtain ⟨g, t, A, S, rfl, _⟩ := h
    rfl
  · obtain ⟨g, t, A, S, rfl, h, hI, hp, hU, q⟩ := h
    refine ⟨_, pss_one (ps_while PassesOwn.never (pt_cmpR (op_ne0 hr.units0) (pe_fld (pv 0) rfl) (pe_lst pa_nil) (nomark _))
      (pss_cons (ps_set (i := 1) sc_tlevel.nd rfl (Or.inl rfl) (pe_bm0 PySem.F.plainAttrs_list PySem.F.slot_list_pop PySem.F.type_list_pop mt_pop (pe_fld (pv 0) rfl)))
      (pss_one (ps_if (pt_cmpR op_eq (pe_callB call_len_seq (by rfl) U.len bt_len (pa_cons (pv 1) pa_nil)) pe_int (nomark _))
        (pss_one (ps_expr (pe_meth (pv 0) T.cl GP.m GP.ok hr GP.b .nil pass0 (pa_cons (pe_ix ix_tup (pv 1) pe_int (fun _ _ => rfl)) (pa_cons (pe_ix ix_tup (pv 1) pe_int (fun _ _ => rfl)) (pa_cons (pe_ix ix_tup (pv 1) pe_int (fun _ _ => rfl)) pa_nil))))))
        (pss_one (ps_expr (pe_meth (pv 0) T.cl GR.m GR.ok hr GR.b .nil pass0 (pa_cons (pe_ix ix_tup (pv 1) pe_int (fun _ _ => rfl)) (pa_cons (pe_ix ix_tup (pv 1) pe_int (fun _ _ => rfl)) (pa_cons (pe_ix ix_tup (pv 1) pe_int (fun _ _ => rfl)) (pa_cons (pe_ix ix_tup (pv 1) pe_int (fun _ _ => rfl)) pa_nil))))))))))), ?_⟩
    refine ⟨fun m σ H' => ∃ A' S', m = mu g t S' ∧ A'.x = A.x ∧ ChartAt C g A' S' H' ∧ ChInv g t S' [] ∧ (S' = S ∨ mu g t S' < mu g t S) ∧ (∀ x ∈ S.keys, x ∈ S'.keys) ∧ Fr A.M A'.M H H' ∧ ∃ v, σ = [some (.ref A.x), v],
      ⟨_, A, S, rfl, rfl, h, hI, .inl rfl, fun _ hx => hx, Fr.refl H, none, rfl⟩, ?_⟩
    rintro m σ H1 ⟨A1, S1, rfl, ex, h1, hI1, hs, hk, f1, v, rfl⟩
    have hkl := hI1.len hp
    have hql := hI1.qlen
    obtain ⟨qs, hq, pq⟩ := h1.que
    rw [← ex]
    refine ⟨_, rfl, A1.x, C, A1.dx, _, _, rfl, h1.ob, T.cl, T.queue, cF_queue _ _, Nat.zero_le _, fun p hp0 => ?_⟩
    have e1 : Ex H1 (upd H1 p (.lst [])) := Evl.Ex.new hp0
    have h2 := h1.ex e1
    refine ⟨A1.q, p, qs, rfl, rfl, sq (e1 _ _ hq), sq upd_same, _, rfl, ?_⟩
    cases hem : qs.isEmpty with
    | true =>
      refine iteF ?_
      have hqe : S1.que = [] := pr_nil pq hem
      exact q A1 S1 _ ex h2 hI1 hqe hs hk (f1.trans (Fr.ex e1))
    | false =>
      have hne : S1.que ≠ [] := pr_nil' pq hem
      obtain ⟨qq, n, eq⟩ := snoc_of hne
      have hlen : qs.length = S1.que.length := Paired.length pq
      have hql1 : S1.que.length = qq.length + 1 := by rw [eq]; simp
      obtain ⟨y, hy, ⟨a, rfl, ha⟩⟩ := pr_get pq (show S1.que[qs.length - 1]? = some n by rw [hlen, hql1, eq]; simp)
      refine iteT ⟨fun σ' H' => ∃ A' S', A'.x = A1.x ∧ ChartAt C g A' S' H' ∧ ChInv g t S' [] ∧ mu g t S' < mu g t S1 ∧ (∀ x ∈ S1.keys, x ∈ S'.keys) ∧ Fr A1.M A'.M (upd H1 p (.lst [])) H' ∧ ∃ v, σ' = [some (.ref A1.x), v], ?_, ?_⟩
      · rintro σ' H' ⟨A2, S2, ex2, h3, hI3, hm3, hk3, f3, v2, rfl⟩
        refine ⟨_, hm3, A2, S2, rfl, ex2, h3, hI3, .inr ?_, fun x hx => hk3 x (hk x hx), (f1.trans (Fr.ex e1)).trans f3, v2, rfl⟩
        rcases hs with e | e
        · rw [← e]; exact hm3
        · exact Nat.lt_trans hm3 e
      · have hq2 := e1 _ _ hq
        have pq2 := Paired.mono (fun _ _ => mNode _ _ _ _ (tu_ex e1)) pq
        have h3 := h2.setQue (ns := S1.que.dropLast) hq2 (pr_dropLast pq2)
        have f3 : Fr A1.M A1.M (upd H1 p (.lst [])) (upd (upd H1 p (.lst [])) A1.q (.lst qs.dropLast)) := Fr.at hq2 (fun _ z => nomatch z) mQ
        have ha3 := f3.tup _ _ (e1 _ _ ha)
        refine ⟨_, rfl, A1.x, C, A1.dx, _, _, rfl, h2.ob, T.cl, T.queue, cF_queue _ _, .inl ⟨rfl, _, sq hq2⟩, A1.q, qs, _, rfl, rfl, hq2, hy, ?_⟩
        refine ⟨_, rfl, a, _, rfl, .inr (st ha3), rfl, _, rfl, ?_⟩
        have szs := hI1.szE
        have szb := hI1.szB
        have szh := hI1.szH
        have szn := hI1.szN
        have hkh : S1.keys.length = S1.hts.length := List.length_map ..
        have hUn := hI1.uni n (hI1.qs n (by rw [eq]; simp))
        have hpl : (popS S1).que.length ≤ S1.que.length := by show S1.que.dropLast.length ≤ _; rw [List.length_dropLast]; omega
        rcases hUn.cases2 with ⟨X, i, j, rfl⟩ | ⟨r, d, i, j, ρ, rfl, hρ, hd⟩
        · refine iteT ?_
          have hs3 := step_part hI1 hp eq
          refine ⟨_, rfl, A1.x, A1.dx, _, rfl, h3.ob, cF_tpart _ _, ?_⟩
          refine ⟨_, rfl, a, _, 0, _, rfl, rfl, st ha3, atI_nat (j := 0) rfl, _, rfl, a, _, 1, _, rfl, rfl, st ha3, atI_nat (j := 1) rfl, _, rfl, a, _, 2, _, rfl, rfl, st ha3, atI_nat (j := 2) rfl, ?_⟩
          refine ⟨g, A1, popS S1, X, i, j, rfl, h3, ?_, ?_, ?_, ?_, fun m hm => ?_, fun A2 H2 ex2 h4 f4 => ?_⟩
          · have := szb (kS X i)
            show S1.hts.length + (S1.bc (kS X i)).length < _
            omega
          · have := szb (kS X i)
            show (popS S1).que.length + (S1.bc (kS X i)).length < _
            omega
          · show S1.ne < _
            omega
          · have := szs (kS X i)
            show (S1.ec (kS X i)).length < _
            omega
          · obtain ⟨r, ρ, d, i', _, _, _, e, _⟩ := hI1.bu _ m hm
            exact ⟨r, d, i', e⟩
          · exact ⟨A2, _, ex2, h4, hs3.1, hs3.2.1, hs3.2.2, f3.trans f4, _, rfl⟩
        · refine iteF ?_
          refine ⟨_, rfl, A1.x, A1.dx, _, rfl, h3.ob, cF_tparts _ _, ?_⟩
          refine ⟨_, rfl, a, _, 0, _, rfl, rfl, st ha3, atI_nat (j := 0) rfl, _, rfl, a, _, 1, _, rfl, rfl, st ha3, atI_nat (j := 1) rfl, _, rfl, a, _, 2, _, rfl, rfl, st ha3, atI_nat (j := 2) rfl, _, rfl, a, _, 3, _, rfl, rfl, st ha3, atI_nat (j := 3) rfl, ?_⟩
          refine ⟨g, A1, popS S1, r, d, i, j, ρ, rfl, h3, hρ, hd, fun e => ⟨?_, fun H2 h4 f4 => ?_⟩, fun X hX => ⟨?_, ?_, ?_, ?_, fun A2 H2 ex2 h4 f4 => ?_⟩⟩
          · show S1.hig.length < _
            omega
          · subst e
            have hs3 := step_full hI1 eq hρ
            exact ⟨A1, _, rfl, h4, hs3.1, hs3.2.1, hs3.2.2, f3.trans f4, _, rfl⟩
          · have := szs (kS X j)
            show S1.hts.length + (S1.ec (kS X j)).length < _
            omega
          · have := szs (kS X j)
            show (popS S1).que.length + (S1.ec (kS X j)).length < _
            omega
          · show S1.nb < _
            omega
          · have := szb (kS X j)
            show (S1.bc (kS X j)).length < _
            omega
          · have hs3 := step_rule hI1 hp eq hρ hX
            exact ⟨A2, _, ex2, h4, hs3.1, hs3.2.1, hs3.2.2, f3.trans f4, _, rfl⟩
/-! ### rise -/
theorem sc_rise : FnScope ["self", "heads", "node"] ["self"] (defScope sRise) := ⟨rfl, rfl, rfl, by decide +kernel, rfl, by decide +kernel, by decide +kernel⟩
def sp_rise (C : Addr) : Sp := fun vs H Q _ => ∃ (g : List Rl) (A : CA) (S : CS), vs = [.ref A.x] ∧ ChartAt C g A S H ∧ S.hts.length + S.hig.length < 100000 ∧ S.que.length + S.hig.length < 100000 ∧
  ∀ A' H', A'.x = A.x → ChartAt C g A' (riseS S) H' → Fr A.M A'.M H H' → Q .non H'
theorem ok_rise {f fO C : Addr} {fd fdO : FuncData} {k : Nat} (F : Fun K "rise" "Chart.rise" sRise f fd) (T : TC K mg C) (G : FnM P w K mg base C "offer" k ["self", "node"] (sp_offer C) fO fdO) :
    FnOk P w K mg base CX0 (k + 1) f fd ["self"] (sp_rise C) := by
  refine F.ok sc_rise (fun vs H Q E h => ?_) (fun cdv A0 outer s H vs Q E hr h => ?_)
  · obtain ⟨g, A, S, rfl, _⟩ := h
    rfl
  · obtain ⟨g, A, S, rfl, h, z1, z2, q⟩ := h
    refine ⟨_, pss_cons (ps_set (i := 1) sc_rise.nd rfl (Or.inl rfl) (pe_fld (pv 0) rfl))
      (pss_cons (ps_fld (pv 0) (pe_lst pa_nil) rfl)
      (pss_cons (ps_fldaug (pv 0) pe_int in_add)
      (pss_one (ps_for PassesOwn.never rfl (pi_list (pv 1)) (pg_name (i := 2) sc_rise.nd rfl (.inl rfl))
        (pss_one (ps_expr (pe_meth (pv 0) T.cl G.m G.ok hr G.b .nil pass0 (pa_cons (pv 2) pa_nil)))))))), ?_⟩
    refine ⟨_, rfl, A.x, C, A.dx, _, _, rfl, h.ob, T.cl, T.higher, cF_higher _ _, Nat.zero_le _, fun l hl => ?_⟩
    have e1 : Ex H (upd H l (.lst [])) := Evl.Ex.new hl
    have h1 := h.ex e1
    refine ⟨_, rfl, A.x, C, A.dx, _, rfl, h1.ob, T.cl, T.higher, (by show 7 < 1000; decide), ?_⟩
    rw [cF_puthg]
    refine ⟨_, rfl, A.x, C, A.dx, _, _, rfl, upd_same, T.cl, T.level, cF_level _ _, _, _, rfl, rfl, A.dx, _, upd_same, (by show 7 < 1000; decide), ?_⟩
    rw [cF_putlv, upd_upd]
    obtain ⟨hv, hh, ph⟩ := h1.hig
    have ne : ∀ {a : Addr} {o : HO}, H a = some o → a ≠ l := fun ha => ne_of_none ha hl
    obtain ⟨_, hq0, _⟩ := h.que
    obtain ⟨_, hr0, _⟩ := h.rul
    have h2 := h1.setObj (l := l) upd_same (ne hq0) (fun k e => by obtain ⟨_, hb, _⟩ := h.ends.its k l e; exact ne hb rfl) (fun k e => by obtain ⟨_, hb, _⟩ := h.beh.its k l e; exact ne hb rfl) (ne hr0) (S.lv + 1)
    have f2 : Fr A.M (CA.M { A with hg := l }) H (upd (upd H l (.lst [])) A.x (.ins C A.dx (cF { A with hg := l } (S.lv + 1)))) := by
      have f0 : Fr A.M A.M H _ := (Fr.ex e1).trans (Fr.at (o := .ins C A.dx (cF { A with hg := l } (S.lv + 1))) h1.ob (fun _ z => nomatch z) mX)
      refine ⟨f0.keep, f0.tup, fun b hb => ?_⟩
      rcases hb with z | z | z | z | z | z | z | z
      · exact .inl (.inl z)
      · exact .inl (.inr (.inl z))
      · exact .inl (.inr (.inr (.inl z)))
      · exact .inr (by rw [show b = l from z]; exact hl)
      · exact .inl (.inr (.inr (.inr (.inr (.inl z)))))
      · exact .inl (.inr (.inr (.inr (.inr (.inr (.inl z))))))
      · exact .inl (.inr (.inr (.inr (.inr (.inr (.inr (.inl z)))))))
      · exact .inl (.inr (.inr (.inr (.inr (.inr (.inr (.inr z)))))))
    have hh2 : (upd (upd H l (.lst [])) A.x (.ins C A.dx (cF { A with hg := l } (S.lv + 1)))) A.hg = some (.lst hv) := by
      rw [upd_ne (ne_of hh h1.ob fun z => nomatch z)]
      exact hh
    have ph2 := Paired.mono (fun _ _ => mNode _ _ _ _ (tu_upd (o := .ins C A.dx (cF { A with hg := l } (S.lv + 1))) h1.ob fun _ z => nomatch z)) ph
    have nMo : ¬ CA.Mo { A with hg := l } A.hg := by
      rintro (z | z)
      · exact ne_of hh h1.hts (fun z => nomatch z) z
      · exact h.s4 z.symm
    have hle : hv.length = S.hig.length := Paired.length ph
    refine ⟨_, rfl, A.hg, rfl, ⟨hv, sq hh2⟩, for_list (K := K) (xs := hv) (fun m σ H' => ChartAt C g { A with hg := l } ((S.hig.take m).foldl (fun S n => offerS S n) (rise1 S)) H' ∧ Fr (CA.Mo { A with hg := l }) (CA.Mo { A with hg := l }) (upd (upd H l (.lst [])) A.x (.ins C A.dx (cF { A with hg := l } (S.lv + 1)))) H' ∧
      ∃ v2, σ = [some (.ref A.x), some (.ref A.hg), v2]) ⟨h2, Fr.refl _, none, rfl⟩ (fun m σ H' _ ⟨_, f, _⟩ => sq (f.keep _ _ hh2 nMo)) ?_ ?_⟩
    · rintro m x σ H' hm ⟨h5, f3, v2, rfl⟩
      obtain ⟨n, hy, rx⟩ := pr_get' ph2 hm
      refine ⟨_, rfl, A.x, A.dx, _, rfl, h5.ob, cF_offer _ _, ?_⟩
      have hml : m < S.hig.length := (List.getElem?_eq_some_iff.mp hy).1
      have ln := foldl_len (fun n => n) (S.hig.take m) (rise1 S)
      have lt : (S.hig.take m).length ≤ S.hig.length := by rw [List.length_take]; omega
      have lt2 : (rise1 S).hts.length = S.hts.length ∧ (rise1 S).que.length = S.que.length := ⟨rfl, rfl⟩
      refine ⟨_, rfl, g, { A with hg := l }, _, _, n, rfl, h5, mNode _ _ _ _ f3.tup rx, by show List.length _ < _; omega, by show List.length _ < _; omega, fun H6 h6 f4 => ?_⟩
      refine ⟨?_, f3.trans f4, _, rfl⟩
      rw [foldl_take _ _ hy]
      exact h6
    · rintro σ H' ⟨h5, f3, v2, rfl⟩
      rw [hle, List.take_length] at h5
      exact q { A with hg := l } H' rfl h5 (f2.trans (f3.weak fun _ z => Mo_M z))
end
end FR

set_option Elab.async false
set_option linter.all false
set_option maxRecDepth 100000
set_option maxHeartbeats 4000000
namespace FR
open PySem L2
section
variable {P : Program} {w : World} {K : PySem.W.Frag} {mg : Str → Option Value} {base : Heap}
/-! ### __init__ -/
theorem sc_cinit : FnScope ["self", "rules"] ["self", "rules"] (defScope sCInit) := ⟨rfl, rfl, rfl, by decide +kernel, rfl, by decide +kernel, by decide +kernel⟩
def sp_cinit (C : Addr) : Sp := fun vs H Q _ => ∃ (g : List Rl) (x dx ra : Addr), vs = [.ref x, .ref ra] ∧ H x = some (.ins C dx []) ∧ LstAt RuleAt H ra g ∧
  ∀ A H', A.x = x → ChartAt C g A S0 H' → (∀ b o, H b = some o → b ≠ x → H' b = some o) → (∀ b, A.M b → b = x ∨ H b = none) → Q .non H'
theorem ok_cinit {f C : Addr} {fd : FuncData} {k : Nat} (F : Fun K "__init__" "Chart.__init__" sCInit f fd) (T : TC K mg C) : FnOk P w K mg base CX0 (k + 1) f fd ["self", "rules"] (sp_cinit C) := by
  refine F.ok sc_cinit (fun vs H Q E h => ?_) (fun cdv A0 outer s H vs Q E hr h => ?_)
  · obtain ⟨g, x, dx, ra, rfl, _⟩ := h
    rfl
  · obtain ⟨g, x, dx, ra, rfl, hx, hrl, q⟩ := h
    refine ⟨_, pss_cons (ps_fld (pv 0) (pv 1) rfl) (pss_cons (ps_fld (pv 0) pe_dnewT rfl) (pss_cons (ps_fld (pv 0) pe_int rfl) (pss_cons (ps_fld (pv 0) (pe_lst pa_nil) rfl) (pss_cons (ps_fld (pv 0) (pe_lst pa_nil) rfl)
      (pss_cons (ps_fld (pv 0) pe_dnewT rfl) (pss_one (ps_fld (pv 0) pe_dnewT rfl))))))), ?_⟩
    refine ⟨_, rfl, _, rfl, x, C, dx, _, rfl, hx, T.cl, T.rules, (by show 0 < 1000; decide), fun hd n1 => ?_⟩
    have d1 : x ≠ hd := fun e => by rw [← e, upd_same] at n1; cases n1
    have m1 : H hd = none := by rw [upd_ne d1.symm] at n1; exact n1
    refine ⟨_, rfl, x, C, dx, _, rfl, (by rw [upd_ne d1]; exact upd_same), T.cl, T.heights, (by show 1 < 1000; decide), ?_⟩
    refine ⟨_, rfl, x, C, dx, _, rfl, upd_same, T.cl, T.level, (by show 2 < 1000; decide), Nat.zero_le _, fun qa n2 => ?_⟩
    rw [upd_upd] at n2 ⊢
    have d2 : x ≠ qa := fun e => by rw [← e, upd_same] at n2; cases n2
    have d3 : hd ≠ qa := fun e => by rw [upd_ne d2.symm, e, upd_same] at n2; cases n2
    have m2 : H qa = none := by rw [upd_ne d2.symm, upd_ne d3.symm, upd_ne d2.symm] at n2; exact n2
    refine ⟨_, rfl, x, C, dx, _, rfl, (by rw [upd_ne d2]; exact upd_same), T.cl, T.queue, (by show 3 < 1000; decide), Nat.zero_le _, fun ha n3 => ?_⟩
    have d4 : x ≠ ha := fun e => by rw [← e, upd_same] at n3; cases n3
    have d5 : qa ≠ ha := fun e => by rw [upd_ne d4.symm, e, upd_same] at n3; cases n3
    have d6 : hd ≠ ha := fun e => by rw [upd_ne d4.symm, upd_ne d5.symm, upd_ne d4.symm, e, upd_same] at n3; cases n3
    have m3 : H ha = none := by rw [upd_ne d4.symm, upd_ne d5.symm, upd_ne d4.symm, upd_ne d6.symm, upd_ne d4.symm] at n3; exact n3
    refine ⟨_, rfl, x, C, dx, _, rfl, (by rw [upd_ne d4]; exact upd_same), T.cl, T.higher, (by show 4 < 1000; decide), fun ea n4 => ?_⟩
    have d7 : x ≠ ea := fun e => by rw [← e, upd_same] at n4; cases n4
    have d8 : ha ≠ ea := fun e => by rw [upd_ne d7.symm, e, upd_same] at n4; cases n4
    have d9 : qa ≠ ea := fun e => by rw [upd_ne d7.symm, upd_ne d8.symm, upd_ne d7.symm, e, upd_same] at n4; cases n4
    have d10 : hd ≠ ea := fun e => by rw [upd_ne d7.symm, upd_ne d8.symm, upd_ne d7.symm, upd_ne d9.symm, upd_ne d7.symm, e, upd_same] at n4; cases n4
    have m4 : H ea = none := by rw [upd_ne d7.symm, upd_ne d8.symm, upd_ne d7.symm, upd_ne d9.symm, upd_ne d7.symm, upd_ne d10.symm, upd_ne d7.symm] at n4; exact n4
    refine ⟨_, rfl, x, C, dx, _, rfl, (by rw [upd_ne d7]; exact upd_same), T.cl, T.ends, (by show 5 < 1000; decide), fun ba n5 => ?_⟩
    have d11 : x ≠ ba := fun e => by rw [← e, upd_same] at n5; cases n5
    have d12 : ea ≠ ba := fun e => by rw [upd_ne d11.symm, e, upd_same] at n5; cases n5
    have d13 : ha ≠ ba := fun e => by rw [upd_ne d11.symm, upd_ne d12.symm, upd_ne d11.symm, e, upd_same] at n5; cases n5
    have d14 : qa ≠ ba := fun e => by rw [upd_ne d11.symm, upd_ne d12.symm, upd_ne d11.symm, upd_ne d13.symm, upd_ne d11.symm, e, upd_same] at n5; cases n5
    have d15 : hd ≠ ba := fun e => by rw [upd_ne d11.symm, upd_ne d12.symm, upd_ne d11.symm, upd_ne d13.symm, upd_ne d11.symm, upd_ne d14.symm, upd_ne d11.symm, e, upd_same] at n5; cases n5
    have m5 : H ba = none := by rw [upd_ne d11.symm, upd_ne d12.symm, upd_ne d11.symm, upd_ne d13.symm, upd_ne d11.symm, upd_ne d14.symm, upd_ne d11.symm, upd_ne d15.symm, upd_ne d11.symm] at n5; exact n5
    refine ⟨_, rfl, x, C, dx, _, rfl, (by rw [upd_ne d11]; exact upd_same), T.cl, T.behind, (by show 6 < 1000; decide), ?_⟩
    have keep : ∀ b o, H b = some o → b ≠ x → (upd (upd (upd (upd (upd (upd (upd (upd (upd (upd (upd H x (.ins C dx (putF "rules" (.ref ra) []))) hd (.dT [])) x (.ins C dx (putF "level" (.int 0) (putF "heights" (.ref hd) (putF "rules" (.ref ra) []))))) qa (.lst []))
        x (.ins C dx (putF "queue" (.ref qa) (putF "level" (.int 0) (putF "heights" (.ref hd) (putF "rules" (.ref ra) [])))))) ha (.lst [])) x (.ins C dx (putF "higher" (.ref ha) (putF "queue" (.ref qa) (putF "level" (.int 0) (putF "heights" (.ref hd) (putF "rules" (.ref ra) []))))))) ea (.dT []))
        x (.ins C dx (putF "ends" (.ref ea) (putF "higher" (.ref ha) (putF "queue" (.ref qa) (putF "level" (.int 0) (putF "heights" (.ref hd) (putF "rules" (.ref ra) [])))))))) ba (.dT [])) x (.ins C dx (putF "behind" (.ref ba) (putF "ends" (.ref ea) (putF "higher" (.ref ha) (putF "queue" (.ref qa) (putF "level" (.int 0) (putF "heights" (.ref hd) (putF "rules" (.ref ra) []))))))))) b = some o := fun b o hb hbx => by
      rw [upd_ne hbx, upd_ne (ne_of_none hb m5), upd_ne hbx, upd_ne (ne_of_none hb m4), upd_ne hbx, upd_ne (ne_of_none hb m3), upd_ne hbx, upd_ne (ne_of_none hb m2), upd_ne hbx, upd_ne (ne_of_none hb m1), upd_ne hbx]
      exact hb
    have tu : Tu H _ := fun b xs hb => keep b _ hb (ne_of hb hx fun z => nomatch z)
    obtain ⟨rv, hrv, prv⟩ := hrl
    have rx : ra ≠ x := ne_of hrv hx fun z => nomatch z
    refine q ⟨x, dx, ra, hd, qa, ha, ea, ba, fun _ => none, fun _ => none⟩ _ rfl ⟨?_, ⟨rv, keep _ _ hrv rx, Paired.mono (fun _ _ => mRule _ _ _ _ tu) prv⟩, ?_, ⟨[], ?_, .nil⟩, ⟨[], ?_, .nil⟩, LD.nw ?_, LD.nw ?_, d10, d15, d12, d5, (fun _ _ z => nomatch z), (fun _ _ z => nomatch z), (fun _ _ _ z => nomatch z), ⟨ne_of_none hrv m2, ne_of_none hrv m3⟩⟩ keep ?_
    · rw [upd_same]
      rfl
    · show _ = some (HO.dT [])
      rw [upd_ne d1.symm, upd_ne d15, upd_ne d1.symm, upd_ne d10, upd_ne d1.symm, upd_ne d6, upd_ne d1.symm, upd_ne d3, upd_ne d1.symm, upd_same]
    · show _ = some (HO.lst [])
      rw [upd_ne d2.symm, upd_ne d14, upd_ne d2.symm, upd_ne d9, upd_ne d2.symm, upd_ne d5, upd_ne d2.symm, upd_same]
    · show _ = some (HO.lst [])
      rw [upd_ne d4.symm, upd_ne d13, upd_ne d4.symm, upd_ne d8, upd_ne d4.symm, upd_same]
    · show _ = some (HO.dT [])
      rw [upd_ne d7.symm, upd_ne d12, upd_ne d7.symm, upd_same]
    · show _ = some (HO.dT [])
      rw [upd_ne d11.symm, upd_same]
    · rintro b (z | z | z | z | z | z | ⟨_, z⟩ | ⟨_, z⟩)
      · exact .inl z
      · exact .inr (by rw [show b = hd from z]; exact m1)
      · exact .inr (by rw [show b = qa from z]; exact m2)
      · exact .inr (by rw [show b = ha from z]; exact m3)
      · exact .inr (by rw [show b = ea from z]; exact m4)
      · exact .inr (by rw [show b = ba from z]; exact m5)
      · cases z
      · cases z
end
end FR

set_option Elab.async false
set_option linter.all false
set_option maxRecDepth 100000
set_option maxHeartbeats 4000000
namespace FR
open PySem L2
/-- a class, ready to be made -/
structure FnC (P : Program) (w : World) (K : PySem.W.Frag) (mg : Str → Option Value) (base : Heap) (C : Addr) (k : Nat) (ps : List Str) (sp : Sp) (f : Addr) (fd : FuncData) : Prop where
  ok : FnOk P w K mg base CX0 k f fd ps sp
  m : Mk K C f
  b : Binds K fd ps []
section
variable {P : Program} {w : World} {K : PySem.W.Frag} {mg : Str → Option Value} {base : Heap}
theorem sc_heights : FnScope ["rules", "signs", "chart", "node"] ["rules", "signs"] (defScope sHeights) := ⟨rfl, rfl, rfl, by decide +kernel, rfl, by decide +kernel, by decide +kernel⟩
def sp_heights : Sp := fun vs H Q _ => ∃ (g : List Rl) (ra : Addr) (z : Str), vs = [.ref ra, .str z] ∧ LstAt RuleAt H ra g ∧ g.length ≤ 9 ∧ z.length ≤ 4 ∧ (∀ ρ ∈ g, ρ.ps.length ≤ 6) ∧
  ∀ hd kvs H', Ex H H' → H' hd = some (.dT kvs) → Clo g z.cps.toList (fun n => n ∈ kvs.map (·.1)) → (∀ n ∈ kvs.map (·.1), UForm g z.cps.toList n) → Q (.ref hd) H'
theorem ok_heights {f fI fF fO fL fR C : Addr} {fd fdI fdF fdO fdL fdR : FuncData} {k : Nat} (F : Fun K "heights_over" "heights_over" sHeights f fd) (T : TC K mg C) (GI : FnC P w K mg base C k ["self", "rules"] (sp_cinit C) fI fdI)
    (GF : FnG P w K mg base "first_nodes" (k + 1) ["rules", "signs"] sp_first fF fdF) (GO : FnM P w K mg base C "offer" (k + 1) ["self", "node"] (sp_offer C) fO fdO)
    (GL : FnM P w K mg base C "take_level" (k + 1) ["self"] (sp_tlevel C) fL fdL) (GR : FnM P w K mg base C "rise" (k + 1) ["self"] (sp_rise C) fR fdR) : FnOk P w K mg base CX0 (k + 2) f fd ["rules", "signs"] sp_heights := by
  refine F.ok sc_heights (fun vs H Q E h => ?_) (fun cdv A0 outer s H vs Q E hr h => ?_)
  · obtain ⟨g, ra, z, rfl, _⟩ := h
    rfl
  · obtain ⟨g, ra, z, rfl, hrl, hgl, hzl, hp, q⟩ := h
    have hzt : z.cps.toList.length = z.length := rfl
    have hU : (Un g z.cps.toList).length ≤ 2000 := Un_len hgl hzl
    refine ⟨_, pss_cons (ps_set (i := 2) sc_heights.nd rfl (Or.inl rfl) (pe_make GI.m GI.ok hr (by rfl) T.mgC GI.b .nil pass0 (pa_cons (pv 0) pa_nil)))
      (pss_cons (ps_for PassesOwn.never rfl (pi_list (pe_f GF hr (by rfl) (pa_cons (pv 0) (pa_cons (pv 1) pa_nil)))) (pg_name (i := 3) sc_heights.nd rfl (.inl rfl))
        (pss_one (ps_expr (pe_meth (pv 2) T.cl GO.m GO.ok hr GO.b .nil pass0 (pa_cons (pv 3) pa_nil)))))
      (pss_cons (ps_while PassesOwn.never (pt_cmpR (op_ne0 hr.units0) (pe_fld (pv 2) rfl) (pe_lst pa_nil) (nomark _))
        (pss_cons (ps_expr (pe_meth0 (pv 2) T.cl GL.m GL.ok hr GL.b .nil pass0)) (pss_one (ps_expr (pe_meth0 (pv 2) T.cl GR.m GR.ok hr GR.b .nil pass0)))))
      (pss_one (ps_ret (pe_fld (pv 2) rfl))))), ?_⟩
    refine ⟨_, rfl, fun x dx nx ndx nex => ?_⟩
    have e0 : Ex H (upd (upd H dx (.own x)) x (.ins C dx [])) := fun b o e => by
      rw [upd_ne (ne_of_none e nx), upd_ne (ne_of_none e ndx)]
      exact e
    refine ⟨g, x, dx, ra, rfl, upd_same, hrl.ex mRule e0, fun A H1 ex h1 k1 m1 => ⟨rfl, ?_⟩⟩
    subst ex
    have e1 : Ex H H1 := fun b o e => k1 b o (e0 b o e) (ne_of_none e nx)
    have hM : ∀ b, A.M b → H b = none := fun b hb => by
      rcases m1 b hb with z | z
      · rw [z]; exact nx
      · exact Evl.fresh_back e0 z
    refine ⟨_, rfl, _, rfl, ra, g, z, rfl, hrl.ex mRule e1, by omega, by omega, fun l H2 e2 hl L2' => ?_⟩
    obtain ⟨vs, hv, pv'⟩ := L2'
    have h2 := h1.ex e2
    have hlen : vs.length = (fAll g z.cps.toList).length := Paired.length pv'
    have hfl : (fAll g z.cps.toList).length ≤ 100 := by
      unfold fAll
      rw [List.length_append, fS_len, fRs_len]
      have : g.length * (z.cps.toList.length + 1) ≤ 9 * 5 := Nat.mul_le_mul hgl (by omega)
      omega
    have nMo : ¬ A.Mo l := by
      rintro (y | y)
      · have := h1.hts
        rw [show A.hd = l from y.symm, hl] at this
        cases this
      · obtain ⟨_, this, _⟩ := h1.que
        rw [show A.q = l from y.symm, hl] at this
        cases this
    refine ⟨l, rfl, ⟨vs, sq hv⟩, for_list (K := K) (xs := vs) (fun m σ H' => ChartAt C g A (((fAll g z.cps.toList).take m).foldl (fun S n => offerS S n) S0) H' ∧ Fr A.Mo A.Mo H2 H' ∧ ∃ v3, σ = [some (.ref ra), some (.str z), some (.ref A.x), v3])
      ⟨h2, Fr.refl _, none, rfl⟩ (fun m σ H' _ ⟨_, f, _⟩ => sq (f.keep _ _ hv nMo)) ?_ ?_⟩
    · rintro m x σ H' hm ⟨h5, f3, v3, rfl⟩
      obtain ⟨n, hy, rx⟩ := pr_get' pv' hm
      refine ⟨_, rfl, A.x, A.dx, _, rfl, h5.ob, cF_offer _ _, ?_⟩
      have ln := foldl_len (fun n => n) ((fAll g z.cps.toList).take m) S0
      have lt : ((fAll g z.cps.toList).take m).length ≤ (fAll g z.cps.toList).length := by rw [List.length_take]; omega
      have lt2 : S0.hts.length = 0 ∧ S0.que.length = 0 := ⟨rfl, rfl⟩
      refine ⟨_, rfl, g, A, _, _, n, rfl, h5, mNode _ _ _ _ f3.tup rx, by show List.length _ < _; omega, by show List.length _ < _; omega, fun H6 h6 f4 => ?_⟩
      refine ⟨?_, f3.trans f4, _, rfl⟩
      rw [foldl_take _ _ hy]
      exact h6
    · rintro σ H3 ⟨h5, f3, v3, rfl⟩
      rw [hlen, List.take_length] at h5
      obtain ⟨hI, _, _, hall⟩ := ChInv.offers (g := g) (t := z.cps.toList) (pend := []) (fun n => n) hp (fAll g z.cps.toList) S0 (inv0 _) fAll_U
      have hhig : ((fAll g z.cps.toList).foldl (fun S n => offerS S n) S0).hig = [] := offers_hig (fun n => n) _ S0
      refine ⟨fun m σ H' => ∃ A' S', m = mu g z.cps.toList S' ∧ A'.x = A.x ∧ ChartAt C g A' S' H' ∧ ChInv g z.cps.toList S' [] ∧ S'.hig = [] ∧ (∀ x ∈ fAll g z.cps.toList, x ∈ S'.keys) ∧ Fr A.M A'.M H1 H' ∧ ∃ v3, σ = [some (.ref ra), some (.str z), some (.ref A'.x), v3],
        ⟨_, A, _, rfl, rfl, h5, hI, hhig, hall, (Fr.ex e2).trans (f3.weak fun _ y => Mo_M y), v3, rfl⟩, ?_⟩
      rintro m σ H4 ⟨A1, S1, rfl, ex1, h6, hI1, hh1, hall1, f1, v3, rfl⟩
      obtain ⟨qs, hq, pq⟩ := h6.que
      refine ⟨_, rfl, A1.x, C, A1.dx, _, _, rfl, h6.ob, T.cl, T.queue, cF_queue _ _, Nat.zero_le _, fun p hp0 => ?_⟩
      have e4 : Ex H4 (upd H4 p (.lst [])) := Evl.Ex.new hp0
      have h7 := h6.ex e4
      refine ⟨A1.q, p, qs, rfl, rfl, sq (e4 _ _ hq), sq upd_same, _, rfl, ?_⟩
      cases hem : qs.isEmpty with
      | true =>
        have hqe : S1.que = [] := pr_nil pq hem
        refine iteF ?_
        have fe := (f1.trans (Fr.ex e4)).new e1 hM
        refine ⟨_, rfl, A1.x, C, A1.dx, _, _, rfl, h7.ob, T.cl, T.heights, cF_heights _ _, ?_⟩
        exact q A1.hd S1.hts _ fe.1 h7.hts (clo_of hI1 hqe hh1 hall1) hI1.uni
      | false =>
        have hne : S1.que ≠ [] := pr_nil' pq hem
        refine iteT ⟨fun σ' H' => ∃ A' S', mu g z.cps.toList S' < mu g z.cps.toList S1 ∧ A'.x = A.x ∧ ChartAt C g A' S' H' ∧ ChInv g z.cps.toList S' [] ∧ S'.hig = [] ∧ (∀ x ∈ fAll g z.cps.toList, x ∈ S'.keys) ∧ Fr A.M A'.M H1 H' ∧ ∃ v3, σ' = [some (.ref ra), some (.str z), some (.ref A'.x), v3],
          fun σ' H' ⟨A', S', a, b⟩ => ⟨_, a, A', S', rfl, b⟩, ?_⟩
        refine ⟨_, rfl, A1.x, A1.dx, _, rfl, h7.ob, cF_tlevel _ _, g, z.cps.toList, A1, S1, rfl, h7, hI1, hp, hU, fun A2 S2 H5 ex2 h8 hI2 hq2 hs2 hk2 f2 => ?_⟩
        have hlt : mu g z.cps.toList S2 < mu g z.cps.toList S1 := by
          rcases hs2 with y | y
          · rw [y] at hq2; exact absurd hq2 hne
          · exact y
        have hkl := hI2.len hp
        have hql := hI2.qlen
        have szh := hI2.szH
        have hkh : S2.keys.length = S2.hts.length := List.length_map ..
        have hr2 := step_rise hI2 hp
        refine ⟨_, rfl, A1.x, A2.dx, _, rfl, (by rw [← ex2]; exact h8.ob), cF_rise _ _, g, A2, S2, by rw [ex2]; rfl, h8, by omega, by omega, fun A3 H6 ex3 h9 f5 => ?_⟩
        exact ⟨A3, _, Nat.lt_of_le_of_lt hr2.2.1 hlt, (ex3.trans ex2).trans ex1, h9, hr2.1, offers_hig (fun n => n) S2.hig (rise1 S2), fun y hy => hr2.2.2 y (hk2 y (hall1 y hy)), ((f1.trans (Fr.ex e4)).trans f2).trans f5, v3, by rw [ex3, ex2]⟩
end
end FR

set_option Elab.async false
set_option linter.all false
set_option maxRecDepth 100000
set_option maxHeartbeats 4000000
namespace FR
open PySem L2
/-- what the ways of a node must be -/
structure WOK (g : List Rl) (St : Node → Prop) (n : Node) (ws : List (List Node)) : Prop where
  mem : ∀ w ∈ ws, ∀ c ∈ w, St c
  len : ∀ w ∈ ws, w.length ≤ 2
  few : ws.length ≤ 20
  cR : ∀ r ρ d X i k j, n = nR r (d + 1) i j → g[r]? = some ρ → ρ.ps[d]? = some X → i ≤ k → k ≤ j → St (nR r d i k) → St (nS X k j) → [nR r d i k, nS X k j] ∈ ws
  cS : ∀ i j r ρ, g[r]? = some ρ → n = nS ρ.hd i j → St (nR r ρ.ps.length i j) → [nR r ρ.ps.length i j] ∈ ws
theorem LD.getK {α : Type} {R : Hp → V → α → Prop} {H : Hp} {d : Addr} {ad : Key → Option Addr} {c : Key → List α} {n : Nat} (L : LD .dK R H d ad c n) (k : Key) {p : Addr} (hp : H p = some (.lst [])) :
    ∃ kvs, H d = some (.dK kvs) ∧ ∃ l vs, (valV kvs k).getD (.ref p) = .ref l ∧ H l = some (.lst vs) ∧ Paired (R H) vs (c k) ∧ (l = p ∨ ad k = some l) := by
  obtain ⟨kvs, h1, _, h3⟩ := L.dic
  refine ⟨kvs, h1, ?_⟩
  rw [h3]
  cases e : ad k with
  | none => exact ⟨p, [], rfl, hp, by rw [L.non k e]; exact .nil, .inl rfl⟩
  | some l =>
    obtain ⟨vs, h4, h5⟩ := L.its k l e
    exact ⟨l, vs, rfl, h4, h5, .inr rfl⟩
section
variable {P : Program} {w : World} {K : PySem.W.Frag} {mg : Str → Option Value} {base : Heap}
/-! ### ways_of_parts -/
theorem sc_wparts : FnScope ["rules", "heights", "node", "r", "d", "i", "j", "part", "ways", "k"] ["rules", "heights", "node"] (defScope sWParts) := ⟨rfl, rfl, rfl, by decide +kernel, rfl, by decide +kernel, by decide +kernel⟩
def sp_wparts : Sp := fun vs H Q _ => ∃ (g : List Rl) (ra hd na : Addr) (kvs : List (Node × V)) (r d i j : Nat) (ρ : Rl), vs = [.ref ra, .ref hd, .ref na] ∧ LstAt RuleAt H ra g ∧ H hd = some (.dT kvs) ∧ H na = some (.tup ((nR r d i j).map kV)) ∧
  g[r]? = some ρ ∧ d ≤ ρ.ps.length ∧ i ≤ 4 ∧ j ≤ 4 ∧ ∀ l ws H', Ex H H' → H l = none → LstAt WayAt H' l ws → WOK g (fun n => n ∈ kvs.map (·.1)) (nR r d i j) ws → Q (.ref l) H'
theorem ok_wparts {f : Addr} {fd : FuncData} {k : Nat} (F : Fun K "ways_of_parts" "ways_of_parts" sWParts f fd) (U : Txt K mg) : FnOk P w K mg base CX0 (k + 1) f fd ["rules", "heights", "node"] sp_wparts := by
  refine F.ok sc_wparts (fun vs H Q E h => ?_) (fun cdv A0 outer s H vs Q E hr h => ?_)
  · obtain ⟨g, ra, hd, na, kvs, r, d, i, j, ρ, rfl, _⟩ := h
    rfl
  · obtain ⟨g, ra, hd, na, kvs, r, d, i, j, ρ, rfl, hrl, hh, hn, hρ, hdl, hi4, hj4, q⟩ := h
    have hu := hu_of hr
    refine ⟨_, pss_cons (ps_asg (pv 2) (pg_tup rfl (pgs_cons (pg_name (i := 3) sc_wparts.nd rfl (.inl rfl)) (pgs_cons (pg_name (i := 4) sc_wparts.nd rfl (.inl rfl)) (pgs_cons (pg_name (i := 5) sc_wparts.nd rfl (.inl rfl)) (pgs_cons (pg_name (i := 6) sc_wparts.nd rfl (.inl rfl)) pgs_nil))))))
      (pss_cons (ps_if (pt_cmpR op_eq (pv 4) pe_int (nomark _)) (pss_one (ps_ret (pe_lst (pa_cons (pe_tup pa_nil) pa_nil)))) pss_nil)
      (pss_cons (ps_set (i := 7) sc_wparts.nd rfl (Or.inl rfl) (pe_ix ix_tup (pe_ix ix_tup (pe_ix ix_list (pv 0) (pv 3) (fun _ _ => rfl)) pe_int (fun _ _ => rfl)) (pe_op op_sub (pv 4) pe_int) (fun _ _ => rfl)))
      (pss_cons (ps_set (i := 8) sc_wparts.nd rfl (Or.inl rfl) (pe_lst pa_nil))
      (pss_cons (ps_for PassesOwn.never rfl (pi_range2 (by rfl) U.range (pa_cons (pv 5) (pa_cons (pe_op op_add (pv 6) pe_int) pa_nil))) (pg_name (i := 9) sc_wparts.nd rfl (.inl rfl))
        (pss_one (ps_if (PW.pt (pw_and (pt_cmp (pc_din hu (pe_tup (pa_cons (pv 3) (pa_cons (pe_op op_sub (pv 4) pe_int) (pa_cons (pv 5) (pa_cons (pv 9) pa_nil))))) (pv 1))) (pw_and1 (pt_cmp (pc_din hu (pe_tup (pa_cons (pv 7) (pa_cons (pv 9) (pa_cons (pv 6) pa_nil)))) (pv 1))))))
          (pss_one (ps_expr (pe_bm PySem.F.plainAttrs_list PySem.F.slot_list_append PySem.F.type_list_append mt_append (pv 8) (pa_cons (pe_tup (pa_cons (pe_tup (pa_cons (pv 3) (pa_cons (pe_op op_sub (pv 4) pe_int) (pa_cons (pv 5) (pa_cons (pv 9) pa_nil))))) (pa_cons (pe_tup (pa_cons (pv 7) (pa_cons (pv 9) (pa_cons (pv 6) pa_nil)))) pa_nil))) pa_nil)))) pss_nil)))
      (pss_one (ps_ret (pv 8))))))), ?_⟩
    have hn : H na = some (.tup [.int (r : Int), .int (d : Int), .int (i : Int), .int (j : Int)]) := hn
    refine ⟨_, rfl, na, _, rfl, st hn, rfl, _, _, rfl, _, _, rfl, _, _, rfl, _, _, rfl, rfl, ?_⟩
    refine ⟨_, rfl, rfl, _, rfl, ?_⟩
    cases d with
    | zero =>
      refine iteT ?_
      refine ⟨Nat.zero_le _, fun a ha => ⟨(by show 1 ≤ sizeLine; decide), fun l hl => ?_⟩⟩
      have e1 : Ex H (upd H a (.tup [])) := Evl.Ex.new ha
      have e2 := e1.trans (Evl.Ex.new (o := .lst [.ref a]) hl)
      refine q l [[]] _ e2 (Evl.fresh_back e1 hl) ⟨_, upd_same, .cons ⟨a, [], rfl, Evl.Ex.new hl _ _ upd_same, .nil⟩ .nil⟩ ⟨?_, ?_, (by decide), ?_, ?_⟩
      · intro w hw c hc
        have : w = [] := by simpa using hw
        rw [this] at hc
        cases hc
      · intro w hw
        have : w = [] := by simpa using hw
        rw [this]
        decide
      · intro r' ρ' d' X i' k' j' e
        obtain ⟨_, e2, _⟩ := nR_inj e
        omega
      · intro i' j' r' ρ' _ e
        exact (nS_nR e.symm).elim
    | succ d =>
      have ed : ((d + 1 : Nat) : Int) - 1 = (d : Int) := by omega
      rw [show decide (V.int ((d + 1 : Nat) : Int) = V.int 0) = false from decide_eq_false fun e => by have := V.int.inj e; omega]
      refine iteF ?_
      have hX : ρ.ps[d]? = some ρ.ps[d] := List.getElem?_eq_getElem hdl
      generalize ρ.ps[d] = X at hX
      obtain ⟨gv, hg, pg⟩ := hrl
      obtain ⟨rv, hrv, ⟨a1, p1, rfl, h1, h2⟩⟩ := pr_get pg hρ
      have hXv : (ρ.ps.map V.str)[d]? = some (.str X) := by rw [List.getElem?_map, hX]; rfl
      refine ⟨_, rfl, _, rfl, ra, gv, _, _, rfl, rfl, sq hg, atI_nat hrv, a1, _, 1, _, rfl, rfl, st h1, atI_nat (j := 1) rfl, _, rfl, _, _, rfl, rfl, p1, _, _, _, rfl, rfl, st h2, (by rw [ed]; exact atI_nat hXv), ?_⟩
      refine ⟨Nat.zero_le _, fun l hl => ?_⟩
      have e1 : Ex H (upd H l (.lst [])) := Evl.Ex.new hl
      refine ⟨_, rfl, _, rfl, _, _, rfl, rfl, _, _, rfl, ⟨by omega, by omega, by omega, by omega⟩, for_range (lo := (i : Int)) (fun m σ H' => ∃ ws, Ex H H' ∧ LstAt WayAt H' l ws ∧ ws.length ≤ m ∧ (∀ w ∈ ws, w.length ≤ 2 ∧ ∀ c ∈ w, c ∈ kvs.map (·.1)) ∧
          (∀ k, i ≤ k → k < i + m → nR r d i k ∈ kvs.map (·.1) → nS X k j ∈ kvs.map (·.1) → [nR r d i k, nS X k j] ∈ ws) ∧ ∃ v9, σ = [some (.ref ra), some (.ref hd), some (.ref na), some (.int (r : Int)), some (.int ((d + 1 : Nat) : Int)), some (.int (i : Int)), some (.int (j : Int)), some (.str X), some (.ref l), v9])
        ⟨[], e1, LstAt.nil, Nat.le_refl _, (fun _ z => nomatch z), (fun k h1 h2 => absurd h2 (by omega)), none, rfl⟩ ?_ ?_⟩
      · rintro m σ H1 hm ⟨ws, e2, ⟨vs, hv, pv'⟩, hlen, hw, hc, v9, rfl⟩
        have hm5 : m < 6 := by omega
        have ek : (i : Int) + (m : Int) = ((i + m : Nat) : Int) := by omega
        rw [ek]
        have key : some (HO.tup [.int (r : Int), .int (((d + 1 : Nat) : Int) - 1), .int (i : Int), .int ((i + m : Nat) : Int)]) = some (HO.tup ((nR r d i (i + m)).map kV)) := by
          rw [ed]
          rfl
        refine ⟨_, rfl, _, rfl, _, _, rfl, rfl, _, rfl, _, rfl, (by show 4 ≤ sizeLine; decide), fun u hu1 => ?_⟩
        have e3 : Ex H1 _ := Evl.Ex.new (o := .tup [.int (r : Int), .int (((d + 1 : Nat) : Int) - 1), .int (i : Int), .int ((i + m : Nat) : Int)]) hu1
        have hd3 := e3 _ _ (e2 _ _ hh)
        refine ⟨_, rfl, hd, _, rfl, DGet.t (k := nR r d i (i + m)) hd3 (upd_same.trans key), _, rfl, ?_⟩
        have stay : ∀ H2, Ex H1 H2 → (¬ (nR r d i (i + m) ∈ kvs.map (·.1) ∧ nS X (i + m) j ∈ kvs.map (·.1))) → ∃ ws, Ex H H2 ∧ LstAt WayAt H2 l ws ∧ ws.length ≤ m + 1 ∧ (∀ w ∈ ws, w.length ≤ 2 ∧ ∀ c ∈ w, c ∈ kvs.map (·.1)) ∧
            (∀ k, i ≤ k → k < i + (m + 1) → nR r d i k ∈ kvs.map (·.1) → nS X k j ∈ kvs.map (·.1) → [nR r d i k, nS X k j] ∈ ws) ∧ ∃ v9, [some (.ref ra), some (.ref hd), some (.ref na), some (.int (r : Int)), some (.int ((d + 1 : Nat) : Int)), some (.int (i : Int)), some (.int (j : Int)), some (.str X), some (.ref l), some (.int ((i + m : Nat) : Int))] = [some (V.ref ra), some (.ref hd), some (.ref na), some (.int (r : Int)), some (.int ((d + 1 : Nat) : Int)), some (.int (i : Int)), some (.int (j : Int)), some (.str X), some (.ref l), v9] := fun H2 ex hno =>
          ⟨ws, e2.trans ex, (show LstAt WayAt H1 l ws from ⟨vs, hv, pv'⟩).ex mWay ex, by omega, hw, fun k h1 h2 a b => by
            by_cases e : k = i + m
            · subst e; exact absurd ⟨a, b⟩ hno
            · exact hc k h1 (by omega) a b, _, rfl⟩
        refine ite2 (fun c1 => ?_) (fun c1 => ?_)
        · refine ⟨_, rfl, _, rfl, _, rfl, (by show 3 ≤ sizeLine; decide), fun u2 hu2 => ?_⟩
          have e4 : Ex _ _ := Evl.Ex.new (o := .tup [.str X, .int ((i + m : Nat) : Int), .int (j : Int)]) hu2
          have hd4 := e4 _ _ hd3
          refine ⟨_, rfl, hd, _, rfl, DGet.t (k := nS X (i + m) j) hd4 (by rw [upd_same]; rfl), _, rfl, ?_⟩
          refine ite2 (fun c2 => ?_) (fun c2 => ?_)
          · have m1 := (valV_mem _ _).mp c1
            have m2 := (valV_mem _ _).mp c2
            have e34 := e3.trans e4
            refine ⟨_, rfl, .inl ⟨rfl, _, sq (e34 _ _ hv)⟩, ?_⟩
            refine ⟨_, rfl, _, rfl, _, _, rfl, rfl, _, rfl, _, rfl, (by show 4 ≤ sizeLine; decide), fun u3 hu3 => ?_⟩
            have e5 := e34.trans (Evl.Ex.new (o := .tup [.int (r : Int), .int (((d + 1 : Nat) : Int) - 1), .int (i : Int), .int ((i + m : Nat) : Int)]) hu3)
            refine ⟨_, rfl, _, rfl, _, rfl, (by show 3 ≤ sizeLine; decide), fun u4 hu4 => ?_⟩
            have e6 := e5.trans (Evl.Ex.new (o := .tup [.str X, .int ((i + m : Nat) : Int), .int (j : Int)]) hu4)
            refine ⟨(by show 2 ≤ sizeLine; decide), fun u5 hu5 => ?_⟩
            have e7 := e6.trans (Evl.Ex.new (o := .tup [.ref u3, .ref u4]) hu5)
            refine ⟨l, vs, _, rfl, rfl, e7 _ _ hv, by rw [Paired.length pv']; exact small1000 (by omega), ?_⟩
            have tm := tu_upd (o := .lst (vs ++ [.ref u5])) (e7 _ _ hv) fun _ z => nomatch z
            refine ⟨ws ++ [[nR r d i (i + m), nS X (i + m) j]], Evl.Ex.mut (e2.trans e7) hl, ⟨_, upd_same, Paired.snoc (Paired.mono (fun _ _ => mWay _ _ _ _ ((tu_ex e7).trans tm)) pv') ⟨u5, _, rfl, tm _ _ upd_same, .cons ⟨u3, rfl, tm _ _ ?_⟩ (.cons ⟨u4, rfl, tm _ _ ?_⟩ .nil)⟩⟩, by rw [List.length_append, List.length_singleton]; omega, ?_, ?_, _, rfl⟩
            · refine Evl.Ex.new hu5 _ _ (Evl.Ex.new hu4 _ _ ?_)
              exact upd_same.trans key
            · refine Evl.Ex.new hu5 _ _ ?_
              rw [upd_same]
              rfl
            · intro w hw'
              rcases List.mem_append.mp hw' with z | z
              · exact hw w z
              · have : w = [nR r d i (i + m), nS X (i + m) j] := by simpa using z
                subst this
                refine ⟨Nat.le_refl _, fun c hc' => ?_⟩
                rcases List.mem_cons.mp hc' with z | z
                · rw [z]; exact m1
                · have : c = nS X (i + m) j := by simpa using z
                  rw [this]; exact m2
            · intro k h1 h2 a b
              by_cases e : k = i + m
              · subst e
                exact List.mem_append.mpr (.inr (by simp))
              · exact List.mem_append.mpr (.inl (hc k h1 (by omega) a b))
          · exact stay _ (e3.trans e4) fun z => c2 ((valV_mem _ _).mpr z.2)
        · refine iteN Bool.false_ne_true ?_
          exact stay _ e3 fun z => c1 ((valV_mem _ _).mpr z.1)
      · rintro σ H1 ⟨ws, e2, L, hlen, hw, hc, v9, rfl⟩
        refine ⟨_, rfl, q l ws H1 e2 hl L ⟨fun w h => (hw w h).2, fun w h => (hw w h).1, by omega, fun r' ρ' d' X' i' k' j' e hr' hd' h1 h2 h3 h4 => ?_, fun i' j' r' ρ' _ e => (nS_nR e.symm).elim⟩⟩
        obtain ⟨rfl, e2, rfl, rfl⟩ := nR_inj e
        have : d = d' := by omega
        subst this
        rw [hρ] at hr'
        cases hr'
        rw [hX] at hd'
        cases hd'
        exact hc k' h1 (by omega) h3 h4
end
end FR

set_option Elab.async false
set_option linter.all false
set_option maxRecDepth 100000
set_option maxHeartbeats 4000000
namespace FR
open PySem L2
section
variable {P : Program} {w : World} {K : PySem.W.Frag} {mg : Str → Option Value} {base : Heap}
/-! ### ways_of_head -/
theorem sc_whead : FnScope ["rules", "by", "heights", "node", "name", "i", "j", "ways", "r", "whole"] ["rules", "by", "heights", "node"] (defScope sWHead) := ⟨rfl, rfl, rfl, by decide +kernel, rfl, by decide +kernel, by decide +kernel⟩
def sp_whead : Sp := fun vs H Q _ => ∃ (g : List Rl) (ra ba hd na : Addr) (ad : Key → Option Addr) (n : Nat) (kvs : List (Node × V)) (A : Str) (i j : Nat), vs = [.ref ra, .ref ba, .ref hd, .ref na] ∧ LstAt RuleAt H ra g ∧ LD .dK PNat H ba ad (byP g g.length) n ∧ H hd = some (.dT kvs) ∧
  H na = some (.tup ((nS A i j).map kV)) ∧ g.length ≤ 9 ∧ ∀ l ws H', Ex H H' → H l = none → LstAt WayAt H' l ws → WOK g (fun n => n ∈ kvs.map (·.1)) (nS A i j) ws → Q (.ref l) H'
theorem ok_whead {f : Addr} {fd : FuncData} {k : Nat} (F : Fun K "ways_of_head" "ways_of_head" sWHead f fd) (U : Txt K mg) : FnOk P w K mg base CX0 (k + 1) f fd ["rules", "by", "heights", "node"] sp_whead := by
  refine F.ok sc_whead (fun vs H Q E h => ?_) (fun cdv A0 outer s H vs Q E hr h => ?_)
  · obtain ⟨g, ra, ba, hd, na, ad, n, kvs, A, i, j, rfl, _⟩ := h
    rfl
  · obtain ⟨g, ra, ba, hd, na, ad, n, kvs, A, i, j, rfl, hrl, hby, hh, hn, hg9, q⟩ := h
    have hu := hu_of hr
    refine ⟨_, pss_cons (ps_asg (pv 3) (pg_tup rfl (pgs_cons (pg_name (i := 4) sc_whead.nd rfl (.inl rfl)) (pgs_cons (pg_name (i := 5) sc_whead.nd rfl (.inl rfl)) (pgs_cons (pg_name (i := 6) sc_whead.nd rfl (.inl rfl)) pgs_nil)))))
      (pss_cons (ps_set (i := 7) sc_whead.nd rfl (Or.inl rfl) (pe_lst pa_nil))
      (pss_cons (ps_for PassesOwn.never rfl (pi_list (pe_dget2 hu (pv 1) (pv 4) (pe_lst pa_nil) ⟨rfl, rfl, rfl, rfl⟩)) (pg_name (i := 8) sc_whead.nd rfl (.inl rfl))
        (pss_cons (ps_set (i := 9) sc_whead.nd rfl (Or.inl rfl) (pe_tup (pa_cons (pv 8) (pa_cons (pe_callB call_len_seq (by rfl) U.len bt_len (pa_cons (pe_ix ix_tup (pe_ix ix_list (pv 0) (pv 8) (fun _ _ => rfl)) pe_int (fun _ _ => rfl)) pa_nil)) (pa_cons (pv 5) (pa_cons (pv 6) pa_nil))))))
        (pss_one (ps_if (pt_cmp (pc_din hu (pv 9) (pv 2)))
          (pss_one (ps_expr (pe_bm PySem.F.plainAttrs_list PySem.F.slot_list_append PySem.F.type_list_append mt_append (pv 7) (pa_cons (pe_tup (pa_cons (pv 9) pa_nil)) pa_nil)))) pss_nil))))
      (pss_one (ps_ret (pv 7))))), ?_⟩
    have hn : H na = some (.tup [.str A, .int (i : Int), .int (j : Int)]) := hn
    refine ⟨_, rfl, na, _, rfl, st hn, rfl, _, _, rfl, _, _, rfl, _, _, rfl, rfl, ?_⟩
    refine ⟨Nat.zero_le _, fun l hl => ?_⟩
    have e1 : Ex H (upd H l (.lst [])) := Evl.Ex.new hl
    obtain ⟨bkv, hb0, _⟩ := hby.dic
    refine ⟨_, rfl, ba, rfl, .inl ⟨bkv, .inl (e1 _ _ hb0)⟩, _, rfl, Nat.zero_le _, fun p hp => ?_⟩
    have e2 := e1.trans (Evl.Ex.new (o := .lst []) hp)
    obtain ⟨bkv2, hb2, bl, bs, eg, hbl, pb, lp⟩ := (hby.ex mPNat e2).getK (Sum.inr A) (p := p) upd_same
    refine ⟨_, DGet.k (k := Sum.inr A) hb2, ?_⟩
    rw [eg]
    have hpl : p ≠ l := fun e => by rw [e, upd_same] at hp; cases hp
    have hbll : bl ≠ l := by
      rcases lp with e | e
      · rw [e]; exact hpl
      · obtain ⟨_, q1, _⟩ := hby.its _ _ e
        exact ne_of_none q1 hl
    have hblen : bs.length = (byP g g.length (Sum.inr A)).length := Paired.length pb
    have hbl9 := byP_len g g.length (Sum.inr A)
    obtain ⟨gv, hg, pg⟩ := hrl
    refine ⟨bl, rfl, ⟨bs, sq hbl⟩, for_list (K := K) (xs := bs) (fun m σ H' => ∃ ws, Ex H H' ∧ H' bl = some (.lst bs) ∧ LstAt WayAt H' l ws ∧ ws.length ≤ m ∧ (∀ w ∈ ws, w.length ≤ 2 ∧ ∀ c ∈ w, c ∈ kvs.map (·.1)) ∧
        (∀ (y r : Nat) (ρ : Rl), y < m → (byP g g.length (Sum.inr A))[y]? = some r → g[r]? = some ρ → nR r ρ.ps.length i j ∈ kvs.map (·.1) → [nR r ρ.ps.length i j] ∈ ws) ∧ ∃ v8 v9, σ = [some (.ref ra), some (.ref ba), some (.ref hd), some (.ref na), some (.str A), some (.int (i : Int)), some (.int (j : Int)), some (.ref l), v8, v9])
      ⟨[], e2, hbl, ⟨[], by rw [upd_ne hpl.symm, upd_same], .nil⟩, Nat.le_refl _, (fun _ z => nomatch z), (fun y _ _ h1 => absurd h1 (Nat.not_lt_zero _)), none, none, rfl⟩ (fun m σ H' _ ⟨_, _, hb, _⟩ => sq hb) ?_ ?_⟩
    · rintro m x σ H1 hm ⟨ws, e3, hb3, ⟨vs, hv, pv'⟩, hlen, hw, hc, v8, v9, rfl⟩
      obtain ⟨r, hr', rfl⟩ := pr_get' pb hm
      have hm9 : m < 9 := by have := (List.getElem?_eq_some_iff.mp hm).1; omega
      obtain ⟨ρ, hρ, hhd⟩ := byP_mem.mp (List.mem_of_getElem? hr')
      obtain ⟨rv, hrv, ⟨a1, p1, rfl, h1, h2⟩⟩ := pr_get pg hρ
      refine ⟨_, rfl, _, rfl, _, rfl, ra, gv, _, _, rfl, rfl, sq (e3 _ _ hg), atI_nat hrv, a1, _, 1, _, rfl, rfl, st (e3 _ _ h1), atI_nat (j := 1) rfl, p1, _, rfl, .inr (st (e3 _ _ h2)), _, rfl, _, rfl, (by show 4 ≤ sizeLine; decide), fun u hu1 => ?_⟩
      have key : some (HO.tup [.int (r : Int), .int ((ρ.ps.map V.str).length : Int), .int (i : Int), .int (j : Int)]) = some (HO.tup ((nR r ρ.ps.length i j).map kV)) := by
        rw [List.length_map]
        rfl
      have e4 : Ex H1 _ := Evl.Ex.new (o := .tup [.int (r : Int), .int ((ρ.ps.map V.str).length : Int), .int (i : Int), .int (j : Int)]) hu1
      refine ⟨_, rfl, _, rfl, hd, _, rfl, DGet.t (k := nR r ρ.ps.length i j) (e4 _ _ (e3 _ _ hh)) (upd_same.trans key), _, rfl, ?_⟩
      have hlr : (byP g g.length (Sum.inr A))[m]? = some r := hr'
      refine ite2 (fun c1 => ?_) (fun c1 => ?_)
      · have m1 := (valV_mem _ _).mp c1
        refine ⟨_, rfl, .inl ⟨rfl, _, sq (e4 _ _ hv)⟩, _, rfl, (by show 1 ≤ sizeLine; decide), fun u2 hu2 => ?_⟩
        have e5 := e4.trans (Evl.Ex.new (o := .tup [.ref u]) hu2)
        refine ⟨l, vs, _, rfl, rfl, e5 _ _ hv, by rw [Paired.length pv']; exact small1000 (by omega), ?_⟩
        have tm := tu_upd (o := .lst (vs ++ [.ref u2])) (e5 _ _ hv) fun _ z => nomatch z
        refine ⟨ws ++ [[nR r ρ.ps.length i j]], Evl.Ex.mut (e3.trans e5) hl, (by rw [upd_ne hbll]; exact e5 _ _ hb3), ⟨_, upd_same, Paired.snoc (Paired.mono (fun _ _ => mWay _ _ _ _ ((tu_ex e5).trans tm)) pv') ⟨u2, _, rfl, tm _ _ upd_same, .cons ⟨u, rfl, tm _ _ (Evl.Ex.new hu2 _ _ (upd_same.trans key))⟩ .nil⟩⟩, by rw [List.length_append, List.length_singleton]; omega, ?_, ?_, _, _, rfl⟩
        · intro w hw'
          rcases List.mem_append.mp hw' with z | z
          · exact hw w z
          · have : w = [nR r ρ.ps.length i j] := by simpa using z
            subst this
            refine ⟨by show 1 ≤ 2; decide, fun c hc' => ?_⟩
            have : c = nR r ρ.ps.length i j := by simpa using hc'
            rw [this]; exact m1
        · intro y r' ρ' hy hyr hρ' ha
          by_cases e : y = m
          · subst e
            rw [hlr] at hyr
            cases hyr
            rw [hρ] at hρ'
            cases hρ'
            exact List.mem_append.mpr (.inr (by simp))
          · exact List.mem_append.mpr (.inl (hc y r' ρ' (by omega) hyr hρ' ha))
      · refine ⟨ws, e3.trans e4, e4 _ _ hb3, (show LstAt WayAt H1 l ws from ⟨vs, hv, pv'⟩).ex mWay e4, by omega, hw, fun y r' ρ' hy hyr hρ' ha => ?_, _, _, rfl⟩
        by_cases e : y = m
        · subst e
          rw [hlr] at hyr
          cases hyr
          rw [hρ] at hρ'
          cases hρ'
          exact absurd ((valV_mem _ _).mpr ha) c1
        · exact hc y r' ρ' (by omega) hyr hρ' ha
    · rintro σ H1 ⟨ws, e3, hb3, L, hlen, hw, hc, v8, v9, rfl⟩
      refine ⟨_, rfl, q l ws H1 e3 hl L ⟨fun w h => (hw w h).2, fun w h => (hw w h).1, by omega, fun r' ρ' d' X' i' k' j' e => (nS_nR e).elim, fun i' j' r' ρ' hr' e h1 => ?_⟩⟩
      obtain ⟨rfl, rfl, rfl⟩ := nS_inj e
      obtain ⟨y, hy, hyr⟩ := List.mem_iff_getElem.mp (byP_mem.mpr ⟨ρ', hr', rfl⟩)
      exact hc y r' ρ' (by omega) (by rw [List.getElem?_eq_getElem hy, hyr]) hr' h1
/-! ### ways_over -/
theorem sc_wover : FnScope ["rules", "by", "heights", "node"] ["rules", "by", "heights", "node"] (defScope sWOver) := ⟨rfl, rfl, rfl, by decide +kernel, rfl, by decide +kernel, by decide +kernel⟩
def sp_wover : Sp := fun vs H Q _ => ∃ (g : List Rl) (t : List Nat) (ra ba hd na : Addr) (ad : Key → Option Addr) (n : Nat) (kvs : List (Node × V)) (nd : Node), vs = [.ref ra, .ref ba, .ref hd, .ref na] ∧ LstAt RuleAt H ra g ∧ LD .dK PNat H ba ad (byP g g.length) n ∧ H hd = some (.dT kvs) ∧
  H na = some (.tup (nd.map kV)) ∧ g.length ≤ 9 ∧ t.length ≤ 4 ∧ (∀ ρ ∈ g, isNm ρ.hd) ∧ UForm g t nd ∧ ∀ l ws H', Ex H H' → H l = none → LstAt WayAt H' l ws → WOK g (fun n => n ∈ kvs.map (·.1)) nd ws → Q (.ref l) H'
theorem isNm.first {s : Str} (h : isNm s) : ∃ c, s.cps.toList[0]? = some c ∧ 65 ≤ c := by
  obtain ⟨⟨l⟩⟩ := s
  cases l with
  | nil => exact absurd h.1 (by decide)
  | cons c r => exact ⟨c, rfl, (h.2.2 c (List.mem_cons_self ..)).1⟩
theorem ok_wover {f fP fH : Addr} {fd fdP fdH : FuncData} {k : Nat} (F : Fun K "ways_over" "ways_over" sWOver f fd) (U : Txt K mg) (GP : FnG P w K mg base "ways_of_parts" k ["rules", "heights", "node"] sp_wparts fP fdP)
    (GH : FnG P w K mg base "ways_of_head" k ["rules", "by", "heights", "node"] sp_whead fH fdH) : FnOk P w K mg base CX0 (k + 1) f fd ["rules", "by", "heights", "node"] sp_wover := by
  refine F.ok sc_wover (fun vs H Q E h => ?_) (fun cdv A0 outer s H vs Q E hr h => ?_)
  · obtain ⟨g, t, ra, ba, hd, na, ad, n, kvs, nd, rfl, _⟩ := h
    rfl
  · obtain ⟨g, t, ra, ba, hd, na, ad, n, kvs, nd, rfl, hrl, hby, hh, hn, hg9, ht4, hnm, hU, q⟩ := h
    refine ⟨_, pss_cons (ps_if (pt_cmpR op_eq (pe_callB call_len_seq (by rfl) U.len bt_len (pa_cons (pv 3) pa_nil)) pe_int (nomark _)) (pss_one (ps_ret (pe_f GP hr (by rfl) (pa_cons (pv 0) (pa_cons (pv 2) (pa_cons (pv 3) pa_nil)))))) pss_nil)
      (pss_cons (ps_if (pt_cmpR op_eq (pe_ix ix_str (pe_ix ix_tup (pv 3) pe_int (fun _ _ => rfl)) pe_int (fun _ _ => rfl)) pe_str (nomark _)) (pss_one (ps_ret (pe_lst (pa_cons (pe_tup pa_nil) pa_nil)))) pss_nil)
      (pss_one (ps_ret (pe_f GH hr (by rfl) (pa_cons (pv 0) (pa_cons (pv 1) (pa_cons (pv 2) (pa_cons (pv 3) pa_nil)))))))), ?_⟩
    refine ⟨_, rfl, na, _, rfl, .inr (st hn), rfl, _, rfl, ?_⟩
    cases hU with
    | @rl r d i j ρ hρ hd' hi hj =>
      refine iteT ?_
      exact ⟨_, rfl, _, rfl, _, rfl, g, ra, hd, na, kvs, r, d, i, j, ρ, rfl, hrl, hh, hn, hρ, hd', by omega, by omega, q⟩
    | @sg i c hc =>
      refine iteF ?_
      have hn' : H na = some (.tup [.str (sgn c), .int (i : Int), .int ((i + 1 : Nat) : Int)]) := hn
      refine ⟨_, rfl, na, _, 0, _, rfl, rfl, st hn', atI_nat (j := 0) rfl, sgn c, 0, 39, rfl, rfl, (by show 2 ≤ sizeLine; decide), atI_nat (j := 0) rfl, rfl, _, rfl, ?_⟩
      rw [quo, decide_eq_true rfl]
      refine iteT ?_
      refine ⟨Nat.zero_le _, fun a ha => ⟨(by show 1 ≤ sizeLine; decide), fun l hl => ?_⟩⟩
      have e1 : Ex H (upd H a (.tup [])) := Evl.Ex.new ha
      have e2 := e1.trans (Evl.Ex.new (o := .lst [.ref a]) hl)
      refine q l [[]] _ e2 (Evl.fresh_back e1 hl) ⟨_, upd_same, .cons ⟨a, [], rfl, Evl.Ex.new hl _ _ upd_same, .nil⟩ .nil⟩ ⟨?_, ?_, (by decide), ?_, ?_⟩
      · intro w hw c hc
        have : w = [] := by simpa using hw
        rw [this] at hc
        cases hc
      · intro w hw
        have : w = [] := by simpa using hw
        rw [this]
        decide
      · intro r' ρ' d' X' i' k' j' e
        exact (nS_nR e).elim
      · intro i' j' r' ρ' hr' e
        obtain ⟨e, _⟩ := nS_inj e
        have := hnm ρ' (List.mem_of_getElem? hr')
        rw [← e] at this
        exact (sg_nm this).elim
    | @hd ρ i j hρ hi hj =>
      refine iteF ?_
      have hn' : H na = some (.tup [.str ρ.hd, .int (i : Int), .int (j : Int)]) := hn
      obtain ⟨c, hc, hc65⟩ := (hnm ρ hρ).first
      refine ⟨_, rfl, na, _, 0, _, rfl, rfl, st hn', atI_nat (j := 0) rfl, ρ.hd, 0, c, rfl, rfl, (by have := (hnm ρ hρ).2.1; exact small100 (by omega)), atI_nat (j := 0) hc, rfl, _, rfl, ?_⟩
      rw [quo, v1, decide_eq_false (show ¬ c = 39 by omega)]
      refine iteF ?_
      exact ⟨_, rfl, _, rfl, _, rfl, _, rfl, g, ra, ba, hd, na, ad, n, kvs, ρ.hd, i, j, rfl, hrl, hby, hh, hn, hg9, q⟩
end
end FR

set_option Elab.async false
set_option linter.all false
set_option maxRecDepth 100000
set_option maxHeartbeats 4000000
namespace FR
open PySem L2
/-! ### a wood over the heap -/
def wF (ra : Addr) (z : Str) (pk : V) (pd : Addr) : List (Str × V) := [("rules", .ref ra), ("signs", .str z), ("peak", pk), ("paths", .ref pd)]
theorem wF_rules (ra : Addr) (z : Str) (pk : V) (pd : Addr) : (wF ra z pk pd).lookup ("rules" : Str) = some (.ref ra) := by rfl
theorem wF_signs (ra : Addr) (z : Str) (pk : V) (pd : Addr) : (wF ra z pk pd).lookup ("signs" : Str) = some (.str z) := by rfl
theorem wF_peak (ra : Addr) (z : Str) (pk : V) (pd : Addr) : (wF ra z pk pd).lookup ("peak" : Str) = some pk := by rfl
theorem wF_paths (ra : Addr) (z : Str) (pk : V) (pd : Addr) : (wF ra z pk pd).lookup ("paths" : Str) = some (.ref pd) := by rfl
theorem wF_reach (ra : Addr) (z : Str) (pk : V) (pd : Addr) : (wF ra z pk pd).lookup ("reach" : Str) = none := by rfl
theorem wF_nodes (ra : Addr) (z : Str) (pk : V) (pd : Addr) : (wF ra z pk pd).lookup ("nodes" : Str) = none := by rfl
theorem wF_ways (ra : Addr) (z : Str) (pk : V) (pd : Addr) : (wF ra z pk pd).lookup ("ways" : Str) = none := by rfl
theorem wF_put (ra : Addr) (z : Str) (pk pk' : V) (pd : Addr) : putF ("peak" : Str) pk' (wF ra z pk pd) = wF ra z pk' pd := by rfl
theorem wF_mk (ra : Addr) (z : Str) (pk : V) (pd : Addr) : putF ("paths" : Str) (V.ref pd) (putF ("peak" : Str) pk (putF ("signs" : Str) (V.str z) (putF ("rules" : Str) (V.ref ra) []))) = wF ra z pk pd := by rfl
structure TW (K : PySem.W.Frag) (mg : Str → Option Value) (C : Addr) : Prop where
  cl : Cls K C
  rules : NoAttr K C "rules"
  signs : NoAttr K C "signs"
  peak : NoAttr K C "peak"
  paths : NoAttr K C "paths"
  mgC : mg "Wood" = some (.ref C)
/-- an entry of the dict of paths; its list stands elsewhere than al -/
def PEn (al : Addr → Prop) (H : Hp) (kv : Node × V) (e : Node × List (List Node)) : Prop := kv.1 = e.1 ∧ ∃ l, kv.2 = .ref l ∧ ¬ al l ∧ LstAt WayAt H l e.2
def PathsAt (al : Addr → Prop) (H : Hp) (pd : Addr) (p : Paths) : Prop := ∃ kvs, H pd = some (.dT kvs) ∧ Paired (PEn al H) kvs p
theorem PEn.keep {al : Addr → Prop} {H H' : Hp} {kv : Node × V} {e : Node × List (List Node)} (t : Tu H H') (k : ∀ l o, ¬ al l → H l = some o → (∃ vs, o = .lst vs) → H' l = some o) (h : PEn al H kv e) : PEn al H' kv e := by
  obtain ⟨h1, l, h2, h3, vs, h4, h5⟩ := h
  exact ⟨h1, l, h2, h3, vs, k _ _ h3 h4 ⟨vs, rfl⟩, Paired.mono (fun _ _ => mWay _ _ _ _ t) h5⟩
theorem PathsAt.ex {al : Addr → Prop} {H H' : Hp} {pd : Addr} {p : Paths} (h : PathsAt al H pd p) (e : Ex H H') : PathsAt al H' pd p :=
  let ⟨kvs, h1, h2⟩ := h
  ⟨kvs, e _ _ h1, Paired.mono (fun _ _ => PEn.keep (tu_ex e) fun l o _ q _ => e l o q) h2⟩
def WoodAt (C : Addr) (H : Hp) (x : Addr) (p : Paths) : Prop := ∃ dx ra z pk pd, H x = some (.ins C dx (wF ra z pk pd)) ∧ PathsAt (fun _ => False) H pd p
theorem WoodAt.ex {C : Addr} {H H' : Hp} {x : Addr} {p : Paths} (h : WoodAt C H x p) (e : Ex H H') : WoodAt C H' x p :=
  let ⟨dx, ra, z, pk, pd, h1, h2⟩ := h
  ⟨dx, ra, z, pk, pd, e _ _ h1, h2.ex e⟩
theorem pe_keys {al : Addr → Prop} {H : Hp} {kvs : List (Node × V)} {p : Paths} (h : Paired (PEn al H) kvs p) : kvs.map (·.1) = keysP p := by
  induction h with
  | nil => rfl
  | cons h _ ih => unfold keysP; rw [List.map_cons, List.map_cons, h.1, ih]; rfl
/-- the ways of a node, none for what is none -/
def wysOf (p : Paths) (n : Node) : List (List Node) := ((p.find? fun e => decide (e.1 = n)).map (·.2)).getD []
theorem pe_find {al : Addr → Prop} {H : Hp} {kvs : List (Node × V)} {p : Paths} (h : Paired (PEn al H) kvs p) (n : Node) :
    (∃ l, valV kvs n = some (.ref l) ∧ ¬ al l ∧ LstAt WayAt H l (wysOf p n) ∧ n ∈ keysP p) ∨ (valV kvs n = none ∧ wysOf p n = [] ∧ n ∉ keysP p) := by
  induction h with
  | nil => exact .inr ⟨rfl, rfl, fun z => nomatch z⟩
  | @cons kv e kvs p h t ih =>
    obtain ⟨h1, l, h2, h3, h4⟩ := h
    by_cases c : kv.1 = n
    · refine .inl ⟨l, by rw [valV_pos c, h2], h3, ?_, ?_⟩
      · unfold wysOf
        rw [List.find?_cons, decide_eq_true (h1.symm.trans c)]
        exact h4
      · exact List.mem_map.mpr ⟨e, List.mem_cons_self .., h1.symm.trans c⟩
    · have c' : ¬ e.1 = n := fun z => c (h1.trans z)
      have e1 : wysOf (e :: p) n = wysOf p n := by
        unfold wysOf
        rw [List.find?_cons, decide_eq_false c']
      rw [valV_neg c, e1]
      rcases ih with ⟨l, a, b, d, f⟩ | ⟨a, b, d⟩
      · exact .inl ⟨l, a, b, d, by obtain ⟨x, hx, hx2⟩ := List.mem_map.mp f; exact List.mem_map.mpr ⟨x, List.mem_cons_of_mem _ hx, hx2⟩⟩
      · refine .inr ⟨a, b, fun z => ?_⟩
        obtain ⟨x, hx, hx2⟩ := List.mem_map.mp z
        rcases List.mem_cons.mp hx with y | y
        · exact c' (y ▸ hx2)
        · exact d (List.mem_map.mpr ⟨x, y, hx2⟩)
theorem wysOf_mem {p : Paths} (nd : (keysP p).Nodup) {e : Node × List (List Node)} (he : e ∈ p) : wysOf p e.1 = e.2 := by
  induction p with
  | nil => cases he
  | cons a p ih =>
    unfold keysP at nd
    rw [List.map_cons] at nd
    have nd' := List.nodup_cons.mp nd
    unfold wysOf
    rw [List.find?_cons]
    rcases List.mem_cons.mp he with z | z
    · subst z
      rw [decide_eq_true rfl]
      rfl
    · have : ¬ a.1 = e.1 := fun q => nd'.1 (List.mem_map.mpr ⟨e, z, q.symm⟩)
      rw [decide_eq_false this]
      exact ih nd'.2 z
theorem Wy_iff {p : Paths} (nd : (keysP p).Nodup) {x y : Node} : Wy p x y ↔ x ∈ keysP p ∧ ∃ w ∈ wysOf p x, y ∈ w := by
  constructor
  · rintro ⟨e, he, rfl, w, hw, hy⟩
    exact ⟨List.mem_map.mpr ⟨e, he, rfl⟩, w, by rw [wysOf_mem nd he]; exact hw, hy⟩
  · rintro ⟨hx, w, hw, hy⟩
    obtain ⟨e, he, rfl⟩ := List.mem_map.mp hx
    exact ⟨e, he, rfl, w, by rw [← wysOf_mem nd he]; exact hw, hy⟩
theorem keys_nodes {H H' : Hp} {kvs : List (Node × V)} {bs : List Addr} (h : IsKeys H kvs bs) (e : Ex H H') : Paired (NodeAt H') (bs.map V.ref) (kvs.map (·.1)) := by
  unfold IsKeys at h
  induction h with
  | nil => exact .nil
  | cons h t ih => exact .cons ⟨_, rfl, e _ _ h⟩ ih
section
variable {P : Program} {w : World} {K : PySem.W.Frag} {mg : Str → Option Value} {base : Heap}
/-! ### nodes, ways -/
theorem sc_nodes : FnScope ["self"] ["self"] (defScope sNodes) := ⟨rfl, rfl, rfl, by decide +kernel, rfl, by decide +kernel, by decide +kernel⟩
def sp_nodes (C : Addr) : Sp := fun vs H Q _ => ∃ (x : Addr) (p : Paths), vs = [.ref x] ∧ WoodAt C H x p ∧ ∀ l H', Ex H H' → H l = none → LstAt NodeAt H' l (keysP p) → Q (.ref l) H'
theorem ok_nodes {f C : Addr} {fd : FuncData} {k : Nat} (F : Fun K "nodes" "Wood.nodes" sNodes f fd) (U : Txt K mg) (T : TW K mg C) : FnOk P w K mg base CX0 (k + 1) f fd ["self"] (sp_nodes C) := by
  refine F.ok sc_nodes (fun vs H Q E h => ?_) (fun cdv A0 outer s H vs Q E hr h => ?_)
  · obtain ⟨x, p, rfl, _⟩ := h
    rfl
  · obtain ⟨x, p, rfl, ⟨dx, ra, z, pk, pd, hx, kvs, hd, pr⟩, q⟩ := h
    refine ⟨_, pss_one (ps_ret (pe_callTy (call_list_dT rfl) (by rfl) U.list bt_list (pa_cons (pe_fld (pv 0) rfl) pa_nil))), ?_⟩
    refine ⟨_, rfl, x, C, dx, _, _, rfl, hx, T.cl, T.paths, wF_paths _ _ _ _, pd, kvs, rfl, .inl hd, fun l bs hl hb => ?_⟩
    have e1 : Ex H (upd H l (.lst (bs.map V.ref))) := Evl.Ex.new hl
    refine q l _ e1 hl ⟨_, upd_same, ?_⟩
    rw [← pe_keys pr]
    exact keys_nodes hb e1
theorem sc_ways : FnScope ["self", "node"] ["self", "node"] (defScope sWays) := ⟨rfl, rfl, rfl, by decide +kernel, rfl, by decide +kernel, by decide +kernel⟩
def sp_ways (C : Addr) : Sp := fun vs H Q _ => ∃ (x : Addr) (p : Paths) (v : V) (n : Node), vs = [.ref x, v] ∧ WoodAt C H x p ∧ NodeAt H v n ∧ ∀ l H', Ex H H' → H l = none → LstAt WayAt H' l (wysOf p n) → Q (.ref l) H'
theorem ok_ways {f C : Addr} {fd : FuncData} {k : Nat} (F : Fun K "ways" "Wood.ways" sWays f fd) (U : Txt K mg) (T : TW K mg C) : FnOk P w K mg base CX0 (k + 1) f fd ["self", "node"] (sp_ways C) := by
  refine F.ok sc_ways (fun vs H Q E h => ?_) (fun cdv A0 outer s H vs Q E hr h => ?_)
  · obtain ⟨x, p, v, n, rfl, _⟩ := h
    rfl
  · obtain ⟨x, p, v, n, rfl, ⟨dx, ra, z, pk, pd, hx, kvs, hd, pr⟩, ⟨a, rfl, ha⟩, q⟩ := h
    have hu := hu_of hr
    refine ⟨_, pss_one (ps_ret (pe_callTy call_list_of (by rfl) U.list bt_list (pa_cons (pe_dget2 hu (pe_fld (pv 0) rfl) (pv 1) (pe_lst pa_nil) ⟨rfl, rfl, rfl, rfl⟩) pa_nil))), ?_⟩
    refine ⟨_, rfl, x, C, dx, _, _, rfl, hx, T.cl, T.paths, wF_paths _ _ _ _, pd, rfl, .inr ⟨kvs, .inl hd⟩, _, rfl, Nat.zero_le _, fun p0 hp0 => ?_⟩
    have e1 : Ex H (upd H p0 (.lst [])) := Evl.Ex.new hp0
    refine ⟨_, DGet.t (e1 _ _ hd) (e1 _ _ ha), ?_⟩
    rcases pe_find pr n with ⟨l, a1, a2, ⟨vs, a3, a4⟩, _⟩ | ⟨a1, a2, _⟩
    · rw [a1]
      refine ⟨l, vs, rfl, .inl (sq (e1 _ _ a3)), fun l2 hl2 => ?_⟩
      have e2 := e1.trans (Evl.Ex.new (o := .lst vs) hl2)
      exact q l2 _ e2 (Evl.fresh_back e1 hl2) ⟨vs, upd_same, Paired.mono (fun _ _ => mWay _ _ _ _ (tu_ex e2)) a4⟩
    · rw [a1]
      refine ⟨p0, [], rfl, .inl (sq upd_same), fun l2 hl2 => ?_⟩
      have e2 := e1.trans (Evl.Ex.new (o := .lst []) hl2)
      refine q l2 _ e2 (Evl.fresh_back e1 hl2) ⟨[], upd_same, ?_⟩
      rw [a2]
      exact .nil
end
end FR

set_option Elab.async false
set_option linter.all false
set_option maxRecDepth 100000
set_option maxHeartbeats 4000000
namespace FR
open PySem L2
structure RI (g : List Rl) (t : List Nat) (St : Node → Prop) (tp : Node) (p : Paths) (ahead : List Node) : Prop where
  nd : (keysP p).Nodup
  ks : ∀ x ∈ keysP p, UForm g t x
  ah : ∀ x ∈ ahead, St x
  cl : ∀ e ∈ p, ∀ w ∈ e.2, ∀ c ∈ w, c ∈ keysP p ∨ c ∈ ahead
  ws : ∀ e ∈ p, WOK g St e.1 e.2
  tp : tp ∈ keysP p ∨ tp ∈ ahead
  sz : ahead.length ≤ 1 + 40 * p.length
def muR (g : List Rl) (t : List Nat) (p : Paths) (ahead : List Node) : Nat := 41 * ((Un g t).length - p.length) + ahead.length
theorem flat2 : ∀ {ws : List (List Node)}, (∀ w ∈ ws, w.length ≤ 2) → ws.flatten.length ≤ 2 * ws.length
  | [], _ => Nat.le_refl _
  | w :: ws, h => by
    have h1 := h w (List.mem_cons_self ..)
    have h2 := flat2 (ws := ws) fun x hx => h x (List.mem_cons_of_mem _ hx)
    rw [List.flatten_cons, List.length_append, List.length_cons]
    omega
theorem keysP_snoc (p : Paths) (e : Node × List (List Node)) : keysP (p ++ [e]) = keysP p ++ [e.1] := by
  unfold keysP
  rw [List.map_append]
  rfl
section
variable {g : List Rl} {t : List Nat} {St : Node → Prop} {tp : Node} {p : Paths} {q : List Node} {n : Node}
theorem RI.old (h : RI g t St tp p (q ++ [n])) (hn : n ∈ keysP p) : RI g t St tp p q where
  nd := h.nd
  ks := h.ks
  ah := fun x hx => h.ah x (List.mem_append.mpr (.inl hx))
  cl := fun e he w hw c hc => by
    rcases h.cl e he w hw c hc with z | z
    · exact .inl z
    · rcases List.mem_append.mp z with z | z
      · exact .inr z
      · have : c = n := by simpa using z
        exact .inl (this ▸ hn)
  ws := h.ws
  tp := by
    rcases h.tp with z | z
    · exact .inl z
    · rcases List.mem_append.mp z with z | z
      · exact .inr z
      · have : tp = n := by simpa using z
        exact .inl (this ▸ hn)
  sz := by have := h.sz; rw [List.length_append, List.length_singleton] at this; omega
theorem RI.plen (h : RI g t St tp p q) (hp : ∀ ρ ∈ g, ρ.ps.length ≤ 6) : p.length ≤ (Un g t).length := by
  have : (keysP p).length = p.length := List.length_map ..
  rw [← this]
  exact nodup_len h.nd fun x hx => (h.ks x hx).mem hp
theorem RI.new (h : RI g t St tp p (q ++ [n])) (hp : ∀ ρ ∈ g, ρ.ps.length ≤ 6) (hU : ∀ x, St x → UForm g t x) (hn : n ∉ keysP p) {ws : List (List Node)} (W : WOK g St n ws) :
    RI g t St tp (p ++ [(n, ws)]) (q ++ ws.flatten) ∧ muR g t (p ++ [(n, ws)]) (q ++ ws.flatten) < muR g t p (q ++ [n]) := by
  have hf := flat2 W.len
  have hw := W.few
  have hS : St n := h.ah n (by simp)
  have R : RI g t St tp (p ++ [(n, ws)]) (q ++ ws.flatten) := by
    refine ⟨?_, ?_, fun x hx => ?_, fun e he w hw c hc => ?_, fun e he => ?_, ?_, ?_⟩
    · rw [keysP_snoc]
      exact List.nodup_append.mpr ⟨h.nd, by simp, fun a ha b hb => by
        have : b = n := by simpa using hb
        subst this
        exact fun e => hn (e ▸ ha)⟩
    · rw [keysP_snoc]
      intro x hx
      rcases List.mem_append.mp hx with z | z
      · exact h.ks x z
      · have : x = n := by simpa using z
        exact this ▸ hU n hS
    · rcases List.mem_append.mp hx with z | z
      · exact h.ah x (List.mem_append.mpr (.inl z))
      · obtain ⟨w, hw, hx⟩ := List.mem_flatten.mp z
        exact W.mem w hw x hx
    · rw [keysP_snoc]
      rcases List.mem_append.mp he with z | z
      · rcases h.cl e z w hw c hc with y | y
        · exact .inl (List.mem_append.mpr (.inl y))
        · rcases List.mem_append.mp y with y | y
          · exact .inr (List.mem_append.mpr (.inl y))
          · exact .inl (List.mem_append.mpr (.inr (by simpa using y)))
      · have : e = (n, ws) := by simpa using z
        subst this
        exact .inr (List.mem_append.mpr (.inr (List.mem_flatten.mpr ⟨w, hw, hc⟩)))
    · rcases List.mem_append.mp he with z | z
      · exact h.ws e z
      · have : e = (n, ws) := by simpa using z
        subst this
        exact W
    · rw [keysP_snoc]
      rcases h.tp with y | y
      · exact .inl (List.mem_append.mpr (.inl y))
      · rcases List.mem_append.mp y with y | y
        · exact .inr (List.mem_append.mpr (.inl y))
        · exact .inl (List.mem_append.mpr (.inr (by simpa using y)))
    · have := h.sz
      rw [List.length_append, List.length_singleton] at this
      rw [List.length_append, List.length_append, List.length_singleton]
      omega
  refine ⟨R, ?_⟩
  have h1 := R.plen hp
  unfold muR
  rw [List.length_append, List.length_singleton] at h1
  rw [List.length_append, List.length_append, List.length_append, List.length_singleton, List.length_singleton]
  omega
end
section
variable {P : Program} {w : World} {K : PySem.W.Frag} {mg : Str → Option Value} {base : Heap}
theorem sc_reach : FnScope ["self", "heights", "by", "ahead", "node", "way"] ["self", "heights"] (defScope sReach) := ⟨rfl, rfl, rfl, by decide +kernel, rfl, by decide +kernel, by decide +kernel⟩
def sp_reach (C : Addr) : Sp := fun vs H Q _ => ∃ (g : List Rl) (t : List Nat) (x dx ra ta pd hd : Addr) (z : Str) (tp : Node) (kvs : List (Node × V)), vs = [.ref x, .ref hd] ∧ H x = some (.ins C dx (wF ra z (.ref ta) pd)) ∧ H ta = some (.tup (tp.map kV)) ∧ H pd = some (.dT []) ∧
  LstAt RuleAt H ra g ∧ H hd = some (.dT kvs) ∧ g.length ≤ 9 ∧ t.length ≤ 4 ∧ (∀ ρ ∈ g, ρ.ps.length ≤ 6) ∧ (∀ ρ ∈ g, isNm ρ.hd) ∧ (∀ n ∈ kvs.map (·.1), UForm g t n) ∧ tp ∈ kvs.map (·.1) ∧
  ∀ H' p, PathsAt (fun _ => False) H' pd p → RI g t (fun n => n ∈ kvs.map (·.1)) tp p [] → (∀ b o, H b = some o → b ≠ pd → H' b = some o) → Q .non H'
theorem ok_reach {f fB fW C : Addr} {fd fdB fdW : FuncData} {k : Nat} (F : Fun K "reach" "Wood.reach" sReach f fd) (T : TW K mg C) (GB : FnG P w K mg base "rules_by_head" k ["rules"] sp_by fB fdB)
    (GW : FnG P w K mg base "ways_over" k ["rules", "by", "heights", "node"] sp_wover fW fdW) : FnOk P w K mg base CX0 (k + 1) f fd ["self", "heights"] (sp_reach C) := by
  refine F.ok sc_reach (fun vs H Q E h => ?_) (fun cdv A0 outer s H vs Q E hr h => ?_)
  · obtain ⟨g, t, x, dx, ra, ta, pd, hd, z, tp, kvs, rfl, _⟩ := h
    rfl
  · obtain ⟨g, t, x, dx, ra, ta, pd, hd, z, tp, kvs, rfl, hx, hta, hpd, hrl, hhd, hg9, ht4, hp6, hnm, hU, htp, q⟩ := h
    have hu := hu_of hr
    refine ⟨_, pss_cons (ps_set (i := 2) sc_reach.nd rfl (Or.inl rfl) (pe_f GB hr (by rfl) (pa_cons (pe_fld (pv 0) rfl) pa_nil)))
      (pss_cons (ps_set (i := 3) sc_reach.nd rfl (Or.inl rfl) (pe_lst (pa_cons (pe_fld (pv 0) rfl) pa_nil)))
      (pss_one (ps_while PassesOwn.never (pt_cmpR (op_ne0 hr.units0) (pv 3) (pe_lst pa_nil) (nomark _))
        (pss_cons (ps_set (i := 4) sc_reach.nd rfl (Or.inl rfl) (pe_bm0 PySem.F.plainAttrs_list PySem.F.slot_list_pop PySem.F.type_list_pop mt_pop (pv 3)))
        (pss_one (ps_if (pt_cmp (pc_dnotin hu (pv 4) (pe_fld (pv 0) rfl)))
          (pss_cons (ps_dput hu (pe_fld (pv 0) rfl) (pv 4) (pe_f GW hr (by rfl) (pa_cons (pe_fld (pv 0) rfl) (pa_cons (pv 2) (pa_cons (pv 1) (pa_cons (pv 4) pa_nil))))) rfl)
          (pss_one (ps_for PassesOwn.never rfl (pi_list (pe_dget hu (pe_fld (pv 0) rfl) (pv 4) (fun _ _ => rfl))) (pg_name (i := 5) sc_reach.nd rfl (.inl rfl))
            (pss_one (ps_expr (pe_bm PySem.F.plainAttrs_list PySem.F.slot_list_extend PySem.F.type_list_extend mt_extendT (pv 3) (pa_cons (pv 5) pa_nil))))))) pss_nil)))))), ?_⟩
    have hhp : hd ≠ pd := fun e => by
      rw [e, hpd] at hhd
      have : ([] : List (Node × V)) = kvs := by injection hhd with hhd; injection hhd
      rw [← this] at htp
      cases htp
    refine ⟨_, rfl, x, C, dx, _, _, rfl, hx, T.cl, T.rules, wF_rules _ _ _ _, ra, g, rfl, hrl, by omega, fun ba ad nb H1 e1 L1 => ?_⟩
    refine ⟨_, rfl, x, C, dx, _, _, rfl, e1 _ _ hx, T.cl, T.peak, wF_peak _ _ _ _, (by show 1 ≤ sizeLine; decide), fun al hal => ?_⟩
    have e2 : Ex H1 (upd H1 al (.lst [.ref ta])) := Evl.Ex.new hal
    have hpd1 := e1 _ _ hpd
    have hpa : pd ≠ al := ne_of_none hpd1 hal
    -- what stays: all but the dict of paths and the list ahead
    let G : Hp := fun b => if b = pd then none else H1 b
    have G_of : ∀ b o, H1 b = some o → b ≠ pd → G b = some o := fun b o hb hn => by
      show (if b = pd then none else H1 b) = _
      rw [if_neg hn]
      exact hb
    have Gpd : G pd = none := if_pos rfl
    have Gal : G al = none := by
      show (if al = pd then none else H1 al) = _
      rw [if_neg hpa.symm]
      exact hal
    have G_to : ∀ b o, G b = some o → H1 b = some o := fun b o hb => by
      by_cases c : b = pd
      · rw [c, Gpd] at hb; cases hb
      · rw [← hb]
        show _ = (if b = pd then none else H1 b)
        rw [if_neg c]
    have Gx : G x = some (.ins C dx (wF ra z (.ref ta) pd)) := G_of _ _ (e1 _ _ hx) (ne_of hx hpd fun z => nomatch z)
    have Ghd : G hd = some (.dT kvs) := G_of _ _ (e1 _ _ hhd) hhp
    have tG : Tu H1 G := fun b xs hb => G_of _ _ hb (ne_of hb hpd1 fun z => nomatch z)
    have Grl : LstAt RuleAt G ra g := (hrl.ex mRule e1).keep mRule tG fun o ho => G_of _ _ ho ((hrl.ex mRule e1).ty hpd1 fun _ z => nomatch z)
    have GL : LD .dK PNat G ba ad (byP g g.length) nb := by
      obtain ⟨bk, hbk, _⟩ := L1.dic
      exact L1.keep mPNat tG (fun o ho => G_of _ _ ho (ne_of hbk hpd1 fun z => nomatch z)) fun k' l hl o ho => G_of _ _ ho ((L1.its k' l hl).ty hpd1 fun _ z => nomatch z)
    refine ⟨fun m σ H' => ∃ p ahead, m = muR g t p ahead ∧ RI g t (fun n => n ∈ kvs.map (·.1)) tp p ahead ∧ Ex G H' ∧ PathsAt (fun b => b = al) H' pd p ∧ LstAt NodeAt H' al ahead ∧ ∃ v4 v5, σ = [some (.ref x), some (.ref hd), some (.ref ba), some (.ref al), v4, v5],
      ⟨_, [], [tp], rfl, ?_, fun b o hb => e2 _ _ (G_to b o hb), ⟨[], e2 _ _ hpd1, .nil⟩, ⟨_, upd_same, .cons ⟨ta, rfl, e2 _ _ (e1 _ _ hta)⟩ .nil⟩, none, none, rfl⟩, ?_⟩
    · refine ⟨List.nodup_nil, (fun _ z => nomatch z), (fun y hy => ?_), (fun _ z => nomatch z), (fun _ z => nomatch z), .inr (by simp), Nat.le_refl _⟩
      have : y = tp := by simpa using hy
      rw [this]
      exact htp
    rintro m σ H2 ⟨p, ahead, rfl, hR, eG, ⟨pkv, hpk, ppr⟩, ⟨qs, hq, pq⟩, v4, v5, rfl⟩
    refine ⟨_, rfl, Nat.zero_le _, fun p0 hp0 => ?_⟩
    have e3 : Ex H2 (upd H2 p0 (.lst [])) := Evl.Ex.new hp0
    refine ⟨al, p0, qs, rfl, rfl, sq (e3 _ _ hq), sq upd_same, _, rfl, ?_⟩
    cases hem : qs.isEmpty with
    | true =>
      refine iteF ?_
      have hqe : ahead = [] := pr_nil pq hem
      subst hqe
      refine q _ p ⟨pkv, e3 _ _ hpk, Paired.mono (fun _ _ ⟨a, l, b, _, d⟩ => ⟨a, l, b, id, d.ex mWay e3⟩) ppr⟩ hR fun b o hb hn => e3 _ _ (eG _ _ (G_of _ _ (e1 _ _ hb) hn))
    | false =>
      have hne : ahead ≠ [] := pr_nil' pq hem
      obtain ⟨qq, n, rfl⟩ := snoc_of hne
      have hlen : qs.length = (qq ++ [n]).length := Paired.length pq
      obtain ⟨y, hy, ⟨a, rfl, ha⟩⟩ := pr_get pq (show (qq ++ [n])[qs.length - 1]? = some n by rw [hlen]; simp)
      have hpl := hR.plen hp6
      have hUn : (Un g t).length ≤ 2000 := Un_len hg9 ht4
      have hsz := hR.sz
      refine iteT ⟨fun σ' H' => ∃ p' ahead', muR g t p' ahead' < muR g t p (qq ++ [n]) ∧ RI g t (fun n => n ∈ kvs.map (·.1)) tp p' ahead' ∧ Ex G H' ∧ PathsAt (fun b => b = al) H' pd p' ∧ LstAt NodeAt H' al ahead' ∧ ∃ v4 v5, σ' = [some (.ref x), some (.ref hd), some (.ref ba), some (.ref al), v4, v5],
        fun σ' H' ⟨p', a', h1, h2⟩ => ⟨_, h1, p', a', rfl, h2⟩, ?_⟩
      have hq3 := e3 _ _ hq
      refine ⟨_, rfl, .inl ⟨rfl, _, sq hq3⟩, al, qs, _, rfl, rfl, hq3, hy, ?_⟩
      have eG4 : Ex G (upd (upd H2 p0 (.lst [])) al (.lst qs.dropLast)) := Evl.Ex.mut (eG.trans e3) Gal
      have t4 : Tu H2 (upd (upd H2 p0 (.lst [])) al (.lst qs.dropLast)) := (tu_ex e3).trans (tu_upd hq3 fun _ z => nomatch z)
      have hpk4 : (upd (upd H2 p0 (.lst [])) al (.lst qs.dropLast)) pd = some (.dT pkv) := by rw [upd_ne hpa]; exact e3 _ _ hpk
      have ppr4 : Paired (PEn (fun b => b = al) (upd (upd H2 p0 (.lst [])) al (.lst qs.dropLast))) pkv p := Paired.mono (fun _ _ => PEn.keep t4 fun l o hl ho _ => by rw [upd_ne hl]; exact e3 _ _ ho) ppr
      have pq4 : Paired (NodeAt (upd (upd H2 p0 (.lst [])) al (.lst qs.dropLast))) qs.dropLast qq := by
        have := pr_dropLast (Paired.mono (fun _ _ => mNode _ _ _ _ t4) pq)
        rw [List.dropLast_concat] at this
        exact this
      have ha4 := t4 _ _ ha
      have hq4 : (upd (upd H2 p0 (.lst [])) al (.lst qs.dropLast)) al = some (.lst qs.dropLast) := upd_same
      generalize upd (upd H2 p0 (.lst [])) al (.lst qs.dropLast) = H4 at eG4 t4 hpk4 ppr4 pq4 ha4 hq4
      refine ⟨_, rfl, _, rfl, x, C, dx, _, _, rfl, eG4 _ _ Gx, T.cl, T.paths, wF_paths _ _ _ _, pd, _, rfl, DGet.t hpk4 ha4, _, rfl, ?_⟩
      rcases pe_find ppr4 n with ⟨l0, a1, _, _, a4⟩ | ⟨a1, _, a4⟩
      · rw [a1]
        refine iteF ?_
        refine ⟨p, qq, ?_, hR.old a4, eG4, ⟨pkv, hpk4, ppr4⟩, ⟨_, hq4, pq4⟩, _, _, rfl⟩
        unfold muR
        rw [List.length_append, List.length_singleton]
        omega
      · rw [a1]
        refine iteT ?_
        refine ⟨_, rfl, x, C, dx, _, _, rfl, eG4 _ _ Gx, T.cl, T.rules, wF_rules _ _ _ _, _, rfl, _, rfl, _, rfl, ?_⟩
        refine ⟨g, t, ra, ba, hd, a, ad, nb, kvs, n, rfl, Grl.ex mRule eG4, GL.ex mPNat eG4, eG4 _ _ Ghd, ha4, hg9, ht4, hnm, hU n (hR.ah n (by simp)), fun l ws H5 e5 hl Lw W => ?_⟩
        obtain ⟨hR', hmu⟩ := hR.new hp6 hU a4 W
        have hpk5 := e5 _ _ hpk4
        have hkl : pkv.length < sizeLine := by
          have : pkv.length = p.length := Paired.length ppr4
          rw [this]
          exact big (by omega)
        refine ⟨_, rfl, x, C, dx, _, _, rfl, e5 _ _ (eG4 _ _ Gx), T.cl, T.paths, wF_paths _ _ _ _, _, rfl, pd, _, rfl, DPut.t hpk5 (e5 _ _ ha4) hkl, ?_⟩
        have hlal : l ≠ al := fun e => by rw [e, hq4] at hl; cases hl
        have hlpd : l ≠ pd := fun e => by rw [e, hpk4] at hl; cases hl
        have t6 : Tu H5 (upd H5 pd (.dT (putK pkv n (.ref l)))) := tu_upd hpk5 fun _ z => nomatch z
        have eG6 : Ex G (upd H5 pd (.dT (putK pkv n (.ref l)))) := Evl.Ex.mut (eG4.trans e5) Gpd
        have pk6 : putK pkv n (V.ref l) = pkv ++ [(n, .ref l)] := putK_new _ a1
        obtain ⟨wv, hwv, pwv⟩ := Lw
        have kp6 : ∀ b o, H5 b = some o → (∃ vs, o = HO.lst vs) → (upd H5 pd (.dT (putK pkv n (.ref l)))) b = some o := fun b o hb ⟨vs, e⟩ => by
          rw [upd_ne (ne_of hb hpk5 fun z => by rw [e] at z; cases z)]
          exact hb
        have hwv6 := kp6 _ _ hwv ⟨_, rfl⟩
        have hq6 := kp6 _ _ (e5 _ _ hq4) ⟨_, rfl⟩
        have pwv6 := Paired.mono (fun _ _ => mWay _ _ _ _ t6) pwv
        have pq6 := Paired.mono (fun _ _ => mNode _ _ _ _ ((tu_ex e5).trans t6)) pq4
        have ppr6 : Paired (PEn (fun b => b = al) (upd H5 pd (.dT (putK pkv n (.ref l))))) (pkv ++ [(n, .ref l)]) (p ++ [(n, ws)]) :=
          Paired.snoc (Paired.mono (fun _ _ => PEn.keep ((tu_ex e5).trans t6) fun l o _ ho hv => kp6 _ _ (e5 _ _ ho) hv) ppr4) ⟨rfl, l, rfl, hlal, wv, hwv6, pwv6⟩
        have ha6 := t6 _ _ (e5 _ _ ha4)
        have hd6 : (upd H5 pd (.dT (putK pkv n (.ref l)))) pd = some (.dT (pkv ++ [(n, V.ref l)])) := by rw [upd_same, pk6]
        generalize upd H5 pd (.dT (putK pkv n (.ref l))) = H6 at t6 eG6 kp6 hwv6 hq6 pwv6 pq6 ppr6 ha6 hd6
        have hv6 : valV (pkv ++ [(n, V.ref l)]) n = some (.ref l) := by rw [← pk6, valV_put, if_pos rfl]
        have dg : DGet H6 pd (.ref a) (some (.ref l)) := by
          have := DGet.t (k := n) hd6 ha6
          rw [hv6] at this
          exact this
        refine ⟨_, rfl, x, C, dx, _, _, rfl, eG6 _ _ Gx, T.cl, T.paths, wF_paths _ _ _ _, _, rfl, pd, _, rfl, dg, ?_⟩
        -- the ways' nodes go behind what is ahead
        let G2 : Hp := fun b => if b = al then none else H6 b
        have G2_of : ∀ b o, H6 b = some o → b ≠ al → G2 b = some o := fun b o hb hn => by
          show (if b = al then none else H6 b) = _
          rw [if_neg hn]
          exact hb
        have G2al : G2 al = none := if_pos rfl
        have G2_to : ∀ b o, G2 b = some o → H6 b = some o := fun b o hb => by
          by_cases c : b = al
          · rw [c, G2al] at hb; cases hb
          · rw [← hb]
            show _ = (if b = al then none else H6 b)
            rw [if_neg c]
        have t2 : Tu H6 G2 := fun b xs hb => G2_of _ _ hb (ne_of hb hq6 fun z => nomatch z)
        have hwl : wv.length = ws.length := Paired.length pwv
        refine ⟨l, rfl, ⟨wv, sq hwv6⟩, for_list (K := K) (xs := wv) (fun m σ H' => Ex G2 H' ∧ LstAt NodeAt H' al (qq ++ (ws.take m).flatten) ∧ ∃ v5, σ = [some (.ref x), some (.ref hd), some (.ref ba), some (.ref al), some (.ref a), v5])
          ⟨G2_to, ⟨_, hq6, by rw [List.take_zero]; rw [List.flatten_nil, List.append_nil]; exact pq6⟩, _, rfl⟩ (fun m σ H' _ ⟨e, _⟩ => sq (e _ _ (G2_of _ _ hwv6 hlal))) ?_ ?_⟩
        · rintro m xx σ H7 hm ⟨e7, ⟨qv, hqv, pqv⟩, v5, rfl⟩
          obtain ⟨w0, hw0, rw0⟩ := pr_get' pwv6 hm
          obtain ⟨b, zs, rfl, hb, pz⟩ := mWay _ _ _ _ (t2.trans (tu_ex e7)) rw0
          have hml : m < ws.length := (List.getElem?_eq_some_iff.mp hw0).1
          have hfl : (ws.take m).flatten.length ≤ 2 * (ws.take m).length := flat2 fun w hw => W.len w (List.mem_of_mem_take hw)
          have hwf := W.few
          have hw2 := W.len w0 (List.mem_of_getElem? hw0)
          have hzl : zs.length = w0.length := Paired.length pz
          rw [List.length_take] at hfl
          rw [List.length_append, List.length_singleton] at hsz
          have tm := tu_upd (o := .lst (qv ++ zs)) hqv fun _ z => nomatch z
          refine ⟨_, rfl, .inl ⟨rfl, _, sq hqv⟩, _, rfl, al, b, qv, zs, rfl, rfl, hqv, hb, ?_, Evl.Ex.mut e7 G2al, ?_, _, rfl⟩
          · rw [Paired.length pqv, List.length_append]
            exact Nat.le_trans (show _ ≤ 100000 by omega) (by decide)
          · have : qq ++ (ws.take (m + 1)).flatten = (qq ++ (ws.take m).flatten) ++ w0 := by
              rw [List.take_add_one, hw0, List.flatten_append, List.append_assoc]
              simp
            rw [this]
            exact ⟨_, upd_same, pr_append (Paired.mono (fun _ _ => mNode _ _ _ _ tm) pqv) (Paired.mono (fun _ _ => mNode _ _ _ _ tm) pz)⟩
        · rintro σ H7 ⟨e7, L7, v5, rfl⟩
          rw [hwl, List.take_length] at L7
          refine ⟨_, _, hmu, hR', fun b o hb => ?_, ⟨_, e7 _ _ (G2_of _ _ hd6 hpa), Paired.mono (fun _ _ => PEn.keep (t2.trans (tu_ex e7)) fun l o hl ho _ => e7 _ _ (G2_of _ _ ho hl)) ppr6⟩, L7, _, _, rfl⟩
          exact e7 _ _ (G2_of _ _ (eG6 _ _ hb) (ne_of_none hb Gal))
end
end FR

set_option Elab.async false
set_option linter.all false
set_option maxRecDepth 100000
set_option maxHeartbeats 4000000
namespace FR
open PySem L2
structure WSz (p : Paths) : Prop where
  few : p.length ≤ 2000
  ws : ∀ e ∈ p, e.2.length ≤ 20 ∧ ∀ w ∈ e.2, w.length ≤ 2
theorem okR_of {g : List Rl} (h : GOk g) : ∀ ρ ∈ g, okR ρ := fun ρ hρ => ⟨h.hdn ρ hρ, h.psl ρ hρ, h.pse ρ hρ, (h.wo ρ hρ).1, (h.wo ρ hρ).2⟩
section
variable {P : Program} {w : World} {K : PySem.W.Frag} {mg : Str → Option Value} {base : Heap}
theorem sc_winit : FnScope ["self", "grammar", "text", "heights", "top"] ["self", "grammar", "text"] (defScope sWInit) := ⟨rfl, rfl, rfl, by decide +kernel, rfl, by decide +kernel, by decide +kernel⟩
def sp_winit (C : Addr) : Sp := fun vs H Q _ => ∃ (g : List Rl) (x dx ga : Addr) (z : Str) (ρ0 : Rl), vs = [.ref x, .ref ga, .str z] ∧ H x = some (.ins C dx []) ∧ LstAt RuleAt H ga g ∧ GOk g ∧ g[0]? = some ρ0 ∧ z.length ≤ 4 ∧ (∀ c ∈ z.cps.toList, okC c = true) ∧
  ∀ H' p, WoodAt C H' x p → WoodOk g z.cps.toList ρ0.hd p → WSz p → (∀ b o, H b = some o → b ≠ x → H' b = some o) → Q .non H'
theorem ok_winit {f fC fT fH fR C : Addr} {fd fdC fdT fdH fdR : FuncData} {k : Nat} (F : Fun K "__init__" "Wood.__init__" sWInit f fd) (U : Txt K mg) (T : TW K mg C) (GC : FnG P w K mg base "checked" k ["thing"] sp_checked fC fdC)
    (GT : FnG P w K mg base "checked_text" k ["thing"] sp_ctext fT fdT) (GH : FnG P w K mg base "heights_over" k ["rules", "signs"] sp_heights fH fdH) (GR : FnM P w K mg base C "reach" k ["self", "heights"] (sp_reach C) fR fdR) :
    FnOk P w K mg base CX0 (k + 1) f fd ["self", "grammar", "text"] (sp_winit C) := by
  refine F.ok sc_winit (fun vs H Q E h => ?_) (fun cdv A0 outer s H vs Q E hr h => ?_)
  · obtain ⟨g, x, dx, ga, z, ρ0, rfl, _⟩ := h
    rfl
  · obtain ⟨g, x, dx, ga, z, ρ0, rfl, hx, hrl, hg, hρ0, hz, hc, q⟩ := h
    have hu := hu_of hr
    refine ⟨_, pss_cons (ps_fld (pv 0) (pe_f GC hr (by rfl) (pa_cons (pv 1) pa_nil)) rfl)
      (pss_cons (ps_fld (pv 0) (pe_f GT hr (by rfl) (pa_cons (pv 2) pa_nil)) rfl)
      (pss_cons (ps_fld (pv 0) pe_non rfl)
      (pss_cons (ps_fld (pv 0) pe_dnewT rfl)
      (pss_cons (ps_set (i := 3) sc_winit.nd rfl (Or.inl rfl) (pe_f GH hr (by rfl) (pa_cons (pe_fld (pv 0) rfl) (pa_cons (pe_fld (pv 0) rfl) pa_nil))))
      (pss_one (ps_if (pt_cmpR (op_ne0 hr.units0) (pe_fld (pv 0) rfl) (pe_lst pa_nil) (nomark _))
        (pss_cons (ps_set (i := 4) sc_winit.nd rfl (Or.inl rfl) (pe_tup (pa_cons (pe_ix ix_tup (pe_ix ix_list (pe_fld (pv 0) rfl) pe_int (fun _ _ => rfl)) pe_int (fun _ _ => rfl)) (pa_cons pe_int (pa_cons (pe_callB call_len_str (by rfl) U.len bt_len (pa_cons (pe_fld (pv 0) rfl) pa_nil)) pa_nil)))))
        (pss_one (ps_if (pt_cmp (pc_din hu (pv 4) (pv 3)))
          (pss_cons (ps_fld (pv 0) (pv 4) rfl) (pss_one (ps_expr (pe_meth (pv 0) T.cl GR.m GR.ok hr GR.b .nil pass0 (pa_cons (pv 3) pa_nil))))) pss_nil))) pss_nil)))))), ?_⟩
    -- the rules, the signs, the peak, the paths
    refine ⟨_, rfl, ga, g, rfl, hrl, by have := hg.few; omega, okR_of hg, fun ra H1 e1 hra hrl1 => ?_⟩
    have hx1 := e1 _ _ hx
    have hrx : ra ≠ x := hrl1.ty hx1 fun _ z => nomatch z
    refine ⟨_, rfl, x, C, dx, _, rfl, hx1, T.cl, T.rules, (by show 0 < 1000; decide), ?_⟩
    refine ⟨_, rfl, z, rfl, by omega, hc, _, rfl, x, C, dx, _, rfl, upd_same, T.cl, T.signs, (by show 1 < 1000; decide), ?_⟩
    rw [upd_upd]
    refine ⟨_, rfl, x, C, dx, _, rfl, upd_same, T.cl, T.peak, (by show 2 < 1000; decide), fun pd hpd => ?_⟩
    rw [upd_upd] at hpd ⊢
    have hxp : x ≠ pd := fun e => by rw [← e, upd_same] at hpd; cases hpd
    have hpd1 : H1 pd = none := by rw [upd_ne hxp.symm] at hpd; exact hpd
    refine ⟨_, rfl, x, C, dx, _, rfl, (by rw [upd_ne hxp]; exact upd_same), T.cl, T.paths, (by show 3 < 1000; decide), ?_⟩
    rw [show putF ("paths" : Str) (V.ref pd) (putF ("peak" : Str) V.non (putF ("signs" : Str) (V.str z) (putF ("rules" : Str) (V.ref ra) []))) = wF ra z .non pd from wF_mk ra z .non pd]
    have k2 : ∀ b o, H1 b = some o → b ≠ x → (upd (upd (upd H1 x (.ins C dx (putF "peak" .non (putF "signs" (.str z) (putF "rules" (.ref ra) []))))) pd (.dT [])) x (.ins C dx (wF ra z .non pd))) b = some o := fun b o hb hn => by
      rw [upd_ne hn, upd_ne (ne_of_none hb hpd1), upd_ne hn]
      exact hb
    have hx2 : (upd (upd (upd H1 x (.ins C dx (putF "peak" .non (putF "signs" (.str z) (putF "rules" (.ref ra) []))))) pd (.dT [])) x (.ins C dx (wF ra z .non pd))) x = some (.ins C dx (wF ra z .non pd)) := upd_same
    have hpd2 : (upd (upd (upd H1 x (.ins C dx (putF "peak" .non (putF "signs" (.str z) (putF "rules" (.ref ra) []))))) pd (.dT [])) x (.ins C dx (wF ra z .non pd))) pd = some (.dT []) := by rw [upd_ne hxp.symm, upd_same]
    generalize upd (upd (upd H1 x (.ins C dx (putF "peak" .non (putF "signs" (.str z) (putF "rules" (.ref ra) []))))) pd (.dT [])) x (.ins C dx (wF ra z .non pd)) = H2 at k2 hx2 hpd2
    have t2 : Tu H1 H2 := fun b xs hb => k2 b _ hb (ne_of hb hx1 fun z => nomatch z)
    have hrl2 : LstAt RuleAt H2 ra g := hrl1.keep mRule t2 fun o ho => k2 _ _ ho hrx
    -- what stands over the signs
    refine ⟨_, rfl, x, C, dx, _, _, rfl, hx2, T.cl, T.rules, wF_rules _ _ _ _, _, rfl, x, C, dx, _, _, rfl, hx2, T.cl, T.signs, wF_signs _ _ _ _, ?_⟩
    refine ⟨g, ra, z, rfl, hrl2, hg.few, hz, hg.psl, fun hd kvs H3 e3 hhd hclo hU => ?_⟩
    have hx3 := e3 _ _ hx2
    have hpd3 := e3 _ _ hpd2
    obtain ⟨gv, hgv, pgv⟩ := hrl2.ex mRule e3
    refine ⟨_, rfl, x, C, dx, _, _, rfl, hx3, T.cl, T.rules, wF_rules _ _ _ _, Nat.zero_le _, fun p0 hp0 => ?_⟩
    have e4 : Ex H3 (upd H3 p0 (.lst [])) := Evl.Ex.new hp0
    obtain ⟨v0, hv0, ⟨a0, b0, rfl, h1, h2⟩⟩ := pr_get pgv hρ0
    have hge : gv.isEmpty = false := by
      cases gv with
      | nil => simp at hv0
      | cons _ _ => rfl
    refine ⟨ra, p0, gv, rfl, rfl, sq (e4 _ _ hgv), sq upd_same, _, rfl, ?_⟩
    rw [hge]
    refine iteT ?_
    refine ⟨_, rfl, x, C, dx, _, _, rfl, e4 _ _ hx3, T.cl, T.rules, wF_rules _ _ _ _, ra, gv, 0, _, rfl, rfl, sq (e4 _ _ hgv), atI_nat (j := 0) hv0, a0, _, 0, _, rfl, rfl, st (e4 _ _ h1), atI_nat (j := 0) rfl, _, rfl, x, C, dx, _, _, rfl, e4 _ _ hx3, T.cl, T.signs, wF_signs _ _ _ _, z, rfl, small100 (by omega), (by show 3 ≤ sizeLine; decide), fun ta hta => ?_⟩
    have e5 := e4.trans (Evl.Ex.new (o := .tup [.str ρ0.hd, .int 0, .int (z.length : Int)]) hta)
    have hta5 : (upd (upd H3 p0 (.lst [])) ta (.tup [.str ρ0.hd, .int 0, .int (z.length : Int)])) ta = some (.tup ((nS ρ0.hd 0 z.cps.toList.length).map kV)) := upd_same
    generalize upd (upd H3 p0 (.lst [])) ta (.tup [.str ρ0.hd, .int 0, .int (z.length : Int)]) = H5 at e5 hta5
    have all : ∀ b o, H b = some o → b ≠ x → H5 b = some o := fun b o hb hn => e5 _ _ (e3 _ _ (k2 _ _ (e1 _ _ hb) hn))
    refine ⟨_, rfl, _, rfl, hd, _, rfl, DGet.t (k := nS ρ0.hd 0 z.cps.toList.length) (e5 _ _ hhd) hta5, _, rfl, ite2 (fun c => ?_) (fun c => ?_)⟩
    · have htp := (valV_mem _ _).mp c
      refine ⟨_, rfl, _, rfl, x, C, dx, _, rfl, e5 _ _ hx3, T.cl, T.peak, (by show 4 < 1000; decide), ?_⟩
      rw [wF_put]
      have hx5 := e5 _ _ hx3
      have t6 : Tu H5 (upd H5 x (.ins C dx (wF ra z (.ref ta) pd))) := tu_upd hx5 fun _ z => nomatch z
      have ne6 : ∀ {b : Addr} {o : HO}, H5 b = some o → (∀ C dx fs, o ≠ .ins C dx fs) → (upd H5 x (.ins C dx (wF ra z (.ref ta) pd))) b = some o := fun hb hn => by
        rw [upd_ne (ne_of hb hx5 (hn _ _ _))]
        exact hb
      refine ⟨_, rfl, x, dx, _, rfl, upd_same, wF_reach _ _ _ _, _, rfl, ?_⟩
      refine ⟨g, z.cps.toList, x, dx, ra, ta, pd, hd, z, _, kvs, rfl, upd_same, t6 _ _ hta5, ne6 (e5 _ _ hpd3) (fun _ _ _ z => nomatch z), ⟨gv, ne6 (e5 _ _ hgv) (fun _ _ _ z => nomatch z), Paired.mono (fun _ _ => mRule _ _ _ _ ((tu_ex e5).trans t6)) pgv⟩, ne6 (e5 _ _ hhd) (fun _ _ _ z => nomatch z), hg.few, hz, hg.psl, hg.hdn, hU, htp, fun H7 p hP hR k7 => ?_⟩
      have hx7 := k7 x _ (upd_same : (upd H5 x (.ins C dx (wF ra z (.ref ta) pd))) x = _) hxp
      refine q H7 p ⟨dx, ra, z, .ref ta, pd, hx7, hP⟩ ⟨hR.nd, fun e he w hw c hc => (hR.cl e he w hw c hc).resolve_right (fun z => nomatch z), _, hclo, fun _ => hR.tp.resolve_right (fun z => nomatch z), fun e he => ⟨fun i j r ρ => (hR.ws e he).cS i j r ρ, (hR.ws e he).cR⟩⟩
        ⟨Nat.le_trans (hR.plen hg.psl) (Un_len hg.few hz), fun e he => ⟨(hR.ws e he).few, (hR.ws e he).len⟩⟩ fun b o hb hn => ?_
      refine k7 b o (by rw [upd_ne hn]; exact all b o hb hn) fun e => ?_
      have h0 := e1 _ _ hb
      rw [e, hpd1] at h0
      cases h0
    · have htp : ¬ nS ρ0.hd 0 z.cps.toList.length ∈ kvs.map (·.1) := fun y => c ((valV_mem _ _).mpr y)
      exact q H5 [] ⟨dx, ra, z, .non, pd, e5 _ _ hx3, [], e5 _ _ hpd3, .nil⟩ ⟨List.nodup_nil, (fun _ z => nomatch z), _, hclo, fun z => absurd z htp, (fun _ z => nomatch z)⟩ ⟨Nat.zero_le _, (fun _ z => nomatch z)⟩ all
end
end FR

set_option Elab.async false
set_option linter.all false
set_option maxRecDepth 100000
set_option maxHeartbeats 4000000
namespace FR
open PySem L2
/-! ### whose ways a node stands in -/
def chs (p : Paths) (n : Node) : List Node := (wysOf p n).flatten
def own (l : List (Node × Node)) (k : Node) : List Node := (l.filter fun q => decide (q.1 = k)).map (·.2)
def prs (p : Paths) (n : Node) : List (Node × Node) := (chs p n).map fun b => (b, n)
theorem own_step (l : List (Node × Node)) (b n : Node) : upc (own l) b n = own (l ++ [(b, n)]) := by
  funext k
  unfold own
  rw [List.filter_append, List.map_append]
  by_cases e : k = b
  · subst e
    rw [upc_same, List.filter_cons, if_pos (decide_eq_true rfl)]
    rfl
  · rw [upc_ne e, List.filter_cons, if_neg (by simpa using fun z => e z.symm)]
    simp
theorem own_len (l : List (Node × Node)) (k : Node) : (own l k).length ≤ l.length := by
  unfold own
  rw [List.length_map]
  exact List.length_filter_le _ _
theorem own_app (l m : List (Node × Node)) (k : Node) : own (l ++ m) k = own l k ++ own m k := by
  unfold own
  rw [List.filter_append, List.map_append]
def cN (x : Node) (l : List Node) : Nat := l.countP fun y => decide (y = x)
theorem cN_app (x : Node) (l m : List Node) : cN x (l ++ m) = cN x l + cN x m := List.countP_append
theorem cN_cons (x y : Node) (l : List Node) : cN x (y :: l) = cN x l + if y = x then 1 else 0 := by
  unfold cN
  rw [List.countP_cons]
  by_cases h : y = x
  · rw [if_pos h, if_pos (decide_eq_true h)]
  · rw [if_neg h, if_neg (by simpa using h)]
theorem cN_nil (x : Node) : cN x [] = 0 := rfl
theorem own_cons (b n k : Node) (l : List (Node × Node)) : own ((b, n) :: l) k = if b = k then n :: own l k else own l k := by
  unfold own
  rw [List.filter_cons]
  by_cases h : b = k
  · rw [if_pos h, if_pos (decide_eq_true h)]
    rfl
  · rw [if_neg h, if_neg (by simpa using h)]
theorem own_prs (p : Paths) (n k x : Node) : cN x (own (prs p n) k) = if x = n then cN k (chs p n) else 0 := by
  unfold prs
  generalize chs p n = l
  induction l with
  | nil =>
    by_cases h : x = n
    · rw [if_pos h]; rfl
    · rw [if_neg h]; rfl
  | cons b l ih =>
    rw [List.map_cons, own_cons, cN_cons]
    by_cases hb : b = k
    · rw [if_pos hb, if_pos hb, cN_cons, ih]
      by_cases hx : x = n
      · rw [if_pos hx, if_pos hx.symm, if_pos hx]
      · rw [if_neg hx, if_neg (fun z => hx z.symm), if_neg hx]
    · rw [if_neg hb, if_neg hb, ih]
      rfl
def prsK (p : Paths) (l : List Node) : List (Node × Node) := l.flatMap (prs p)
theorem own_count (p : Paths) (k x : Node) : ∀ {l : List Node}, l.Nodup → (x ∈ l → cN x (own (prsK p l) k) = cN k (chs p x)) ∧ (x ∉ l → cN x (own (prsK p l) k) = 0)
  | [], _ => ⟨(fun z => nomatch z), fun _ => rfl⟩
  | n :: l, nd => by
    have nd' := List.nodup_cons.mp nd
    have ih := own_count p k x nd'.2
    unfold prsK at ih ⊢
    rw [List.flatMap_cons, own_app, cN_app, own_prs]
    by_cases e : x = n
    · subst e
      refine ⟨fun _ => ?_, fun z => absurd (List.mem_cons_self ..) z⟩
      rw [if_pos rfl, ih.2 nd'.1]
      rfl
    · rw [if_neg e]
      refine ⟨fun z => ?_, fun z => ?_⟩
      · rw [ih.1 ((List.mem_cons.mp z).resolve_left e)]
        omega
      · rw [ih.2 fun y => z (List.mem_cons_of_mem _ y)]
theorem own_mem {p : Paths} {l : List Node} {k x : Node} (h : x ∈ own (prsK p l) k) : x ∈ l := by
  unfold own at h
  obtain ⟨q, hq, rfl⟩ := List.mem_map.mp h
  have := (List.mem_filter.mp hq).1
  obtain ⟨n, hn, hq2⟩ := List.mem_flatMap.mp this
  obtain ⟨b, _, rfl⟩ := List.mem_map.mp hq2
  exact hn
theorem wys_sz {p : Paths} (h : WSz p) (n : Node) : (wysOf p n).length ≤ 20 ∧ ∀ w ∈ wysOf p n, w.length ≤ 2 := by
  unfold wysOf
  cases e : p.find? (fun e => decide (e.1 = n)) with
  | none => exact ⟨Nat.zero_le _, fun _ z => nomatch z⟩
  | some a => exact h.ws a (List.mem_of_find?_eq_some e)
theorem chs_len {p : Paths} (h : WSz p) (n : Node) : (chs p n).length ≤ 40 := by
  have h1 := wys_sz h n
  have := flat2 h1.2
  unfold chs
  omega
theorem prsK_len {p : Paths} (h : WSz p) : ∀ l : List Node, (prsK p l).length ≤ 40 * l.length
  | [] => Nat.le_refl _
  | n :: l => by
    have := prsK_len h l
    have h2 := chs_len h n
    have h3 : (prs p n).length = (chs p n).length := List.length_map ..
    unfold prsK at this ⊢
    rw [List.flatMap_cons, List.length_append, List.length_cons]
    omega
theorem prsK_take {p : Paths} {l : List Node} {i : Nat} {n : Node} (h : l[i]? = some n) : prsK p (l.take (i + 1)) = prsK p (l.take i) ++ prs p n := by
  unfold prsK
  rw [List.take_add_one, h, List.flatMap_append]
  simp
theorem prs_split {p : Paths} {n : Node} {m : Nat} {w : List Node} (h : (wysOf p n)[m]? = some w) : ((wysOf p n).take (m + 1)).flatten = ((wysOf p n).take m).flatten ++ w := by
  rw [List.take_add_one, h, List.flatten_append]
  simp
/-- a dict of lists and its lists -/
def Md (d : Addr) (ad : Node → Option Addr) (b : Addr) : Prop := b = d ∨ ∃ k, ad k = some b
section
variable {P : Program} {w : World} {K : PySem.W.Frag} {mg : Str → Option Value} {base : Heap}
theorem sc_owners : FnScope ["wood", "above", "node", "way", "beneath"] ["wood"] (defScope sOwners) := ⟨rfl, rfl, rfl, by decide +kernel, rfl, by decide +kernel, by decide +kernel⟩
def sp_owners (C : Addr) : Sp := fun vs H Q _ => ∃ (x : Addr) (p : Paths), vs = [.ref x] ∧ WoodAt C H x p ∧ WSz p ∧ ∀ d ad n H', Ex H H' → LD .dT NodeAt H' d ad (own (prsK p (keysP p))) n → Q (.ref d) H'
theorem ok_owners {f fN fW C : Addr} {fd fdN fdW : FuncData} {k : Nat} (F : Fun K "owners" "owners" sOwners f fd) (T : TW K mg C) (GN : FnM P w K mg base C "nodes" k ["self"] (sp_nodes C) fN fdN) (GW : FnM P w K mg base C "ways" k ["self", "node"] (sp_ways C) fW fdW) :
    FnOk P w K mg base CX0 (k + 1) f fd ["wood"] (sp_owners C) := by
  refine F.ok sc_owners (fun vs H Q E h => ?_) (fun cdv A0 outer s H vs Q E hr h => ?_)
  · obtain ⟨x, p, rfl, _⟩ := h
    rfl
  · obtain ⟨x, p, rfl, hw, hz, q⟩ := h
    have hu := hu_of hr
    refine ⟨_, pss_cons (ps_set (i := 1) sc_owners.nd rfl (Or.inl rfl) pe_dnewT)
      (pss_cons (ps_for PassesOwn.never rfl (pi_list (pe_meth0 (pv 0) T.cl GN.m GN.ok hr GN.b .nil pass0)) (pg_name (i := 2) sc_owners.nd rfl (.inl rfl))
        (pss_one (ps_for PassesOwn.never rfl (pi_list (pe_meth (pv 0) T.cl GW.m GW.ok hr GW.b .nil pass0 (pa_cons (pv 2) pa_nil))) (pg_name (i := 3) sc_owners.nd rfl (.inl rfl))
          (pss_one (ps_for PassesOwn.never rfl (pi_tup (pv 3)) (pg_name (i := 4) sc_owners.nd rfl (.inl rfl))
            (pss_one (ps_expr (pe_bm PySem.F.plainAttrs_list PySem.F.slot_list_append PySem.F.type_list_append mt_append (pe_dsetdT hu (pv 1) (pv 4) (pe_lst pa_nil) ⟨rfl, rfl, rfl, rfl⟩) (pa_cons (pv 2) pa_nil)))))))))
      (pss_one (ps_ret (pv 1)))), ?_⟩
    intro d hd
    have e0 : Ex H (upd H d (.dT [])) := Evl.Ex.new hd
    obtain ⟨dx, ra, z, pk, pd, hx, hP⟩ := id hw
    refine ⟨_, rfl, x, dx, _, rfl, e0 _ _ hx, wF_nodes _ _ _ _, x, p, rfl, hw.ex e0, fun l1 H1 e1 hl1 ⟨ns, hns, pn⟩ => ?_⟩
    have hnl : ns.length = (keysP p).length := Paired.length pn
    have hkl : (keysP p).length ≤ 2000 := by unfold keysP; rw [List.length_map]; exact hz.few
    have hd1 : H1 d = some (.dT []) := e1 _ _ upd_same
    have hfr : ∀ b, Md d (fun _ => none) b → H b = none := fun b hb => by
      rcases hb with e | ⟨_, e⟩
      · rw [show b = d from e]; exact hd
      · cases e
    have hnl1 : ¬ Md d (fun _ => none) l1 := by
      rintro (e | ⟨_, e⟩)
      · rw [e, upd_same] at hl1; cases hl1
      · cases e
    refine ⟨l1, rfl, ⟨ns, sq hns⟩, for_list (K := K) (xs := ns) (fun i σ H' => ∃ ad, Fr (Md d fun _ => none) (Md d ad) H1 H' ∧ LD .dT NodeAt H' d ad (own (prsK p ((keysP p).take i))) (prsK p ((keysP p).take i)).length ∧ ∃ v2 v3 v4, σ = [some (.ref x), some (.ref d), v2, v3, v4])
      ⟨fun _ => none, Fr.refl _, LD.nw hd1, none, none, none, rfl⟩ (fun i σ H' _ ⟨ad, f, _⟩ => sq (f.keep _ _ hns hnl1)) ?_ ?_⟩
    · rintro i xx σ H2 hi ⟨ad, f2, L2, v2, v3, v4, rfl⟩
      obtain ⟨n, hn, rn⟩ := pr_get' pn hi
      have hi2 : i < 2000 := by have := (List.getElem?_eq_some_iff.mp hn).1; omega
      have e2 := (f2.new (e0.trans e1) hfr).1
      have rn2 := mNode _ _ _ _ f2.tup rn
      refine ⟨_, rfl, x, dx, _, rfl, e2 _ _ hx, wF_ways _ _ _ _, _, rfl, x, p, xx, n, rfl, hw.ex e2, rn2, fun l2 H3 e3 hl2 ⟨wv, hwv, pw⟩ => ?_⟩
      have hnl2 : ¬ Md d ad l2 := by
        rintro (e | ⟨k', e⟩)
        · obtain ⟨kv, h0, _⟩ := L2.dic
          rw [← show l2 = d from e, hl2] at h0
          cases h0
        · obtain ⟨kv, h0, _⟩ := L2.its k' l2 e
          rw [hl2] at h0
          cases h0
      have hwl : wv.length = (wysOf p n).length := Paired.length pw
      have hws := wys_sz hz n
      have hpk := prsK_len hz ((keysP p).take i)
      rw [List.length_take] at hpk
      refine ⟨l2, rfl, ⟨wv, sq hwv⟩, for_list (K := K) (xs := wv) (fun m σ H' => ∃ ad', Fr (Md d ad) (Md d ad') H3 H' ∧ LD .dT NodeAt H' d ad' (own (prsK p ((keysP p).take i) ++ ((wysOf p n).take m).flatten.map fun b => (b, n))) (prsK p ((keysP p).take i) ++ ((wysOf p n).take m).flatten.map fun b => (b, n)).length ∧ ∃ v3 v4, σ = [some (.ref x), some (.ref d), some xx, v3, v4])
        ⟨ad, Fr.refl _, by rw [List.take_zero]; show LD .dT NodeAt H3 d ad (own (_ ++ [])) (_ ++ []).length; rw [List.append_nil]; exact L2.ex mNode e3, v3, v4, rfl⟩ (fun m σ H' _ ⟨ad, f, _⟩ => sq (f.keep _ _ hwv hnl2)) ?_ ?_⟩
      · rintro m ww σ H4 hm ⟨ad', f4, L4, v3, v4, rfl⟩
        obtain ⟨w0, hw0, rw0⟩ := pr_get' pw hm
        obtain ⟨b, zs, rfl, hb, pz⟩ := mWay _ _ _ _ f4.tup rw0
        have hw2 := hws.2 w0 (List.mem_of_getElem? hw0)
        have hml := (List.getElem?_eq_some_iff.mp hw0).1
        have hzl : zs.length = w0.length := Paired.length pz
        have hfl : ((wysOf p n).take m).flatten.length ≤ 2 * ((wysOf p n).take m).length := flat2 fun w hw => hws.2 w (List.mem_of_mem_take hw)
        rw [List.length_take] at hfl
        refine ⟨_, rfl, b, rfl, ⟨_, st hb⟩, for_tup (K := K) (xs := zs) (fun j σ H' => ∃ ad'', Fr (Md d ad') (Md d ad'') H4 H' ∧ LD .dT NodeAt H' d ad'' (own ((prsK p ((keysP p).take i) ++ ((wysOf p n).take m).flatten.map fun b => (b, n)) ++ (w0.take j).map fun b => (b, n))) ((prsK p ((keysP p).take i) ++ ((wysOf p n).take m).flatten.map fun b => (b, n)) ++ (w0.take j).map fun b => (b, n)).length ∧ ∃ v4, σ = [some (.ref x), some (.ref d), some xx, some (.ref b), v4])
          ⟨ad', Fr.refl _, by rw [List.take_zero]; show LD .dT NodeAt H4 d ad' (own (_ ++ [])) (_ ++ []).length; rw [List.append_nil]; exact L4, v4, rfl⟩ (fun j σ H' _ ⟨_, f, _⟩ => st (f.tup _ _ hb)) ?_ ?_⟩
        · rintro j yy σ H5 hj ⟨ad2, f5, L5, v4, rfl⟩
          obtain ⟨c, hc, rc⟩ := pr_get' pz hj
          obtain ⟨cb, rfl, hcb⟩ := mNode _ _ _ _ f5.tup rc
          have hjl := (List.getElem?_eq_some_iff.mp hc).1
          have hN : ((prsK p ((keysP p).take i) ++ ((wysOf p n).take m).flatten.map fun b => (b, n)) ++ (w0.take j).map fun b => (b, n)).length < 100000 := by
            rw [List.length_append, List.length_append, List.length_map, List.length_map, List.length_take]
            omega
          have rn5 := mNode _ _ _ _ (((tu_ex e3).trans f4.tup).trans f5.tup) rn2
          refine s_pushT (k := c) (x := n) mNode L5 (big hN) (big (Nat.lt_of_le_of_lt (own_len _ _) hN)) (fun Q hq => ⟨_, rfl, hq⟩) (fun Q hq => ⟨_, rfl, hq cb H5 (Evl.Ex.refl _) hcb⟩) (fun H6 t6 Q hq => ⟨_, rfl, hq _ H6 (Evl.Ex.refl _) (mNode _ _ _ _ t6 rn5)⟩) fun ad3 H6 L6 k1 t6 k3 => ?_
          rw [own_step] at L6
          refine ⟨ad3, f5.trans ⟨fun bb o hb hm => k1 bb o hb (fun e => hm (.inl e)) fun k' e => hm (.inr ⟨k', e⟩), t6, fun bb hb => ?_⟩, ?_, _, rfl⟩
          · rcases hb with e | ⟨k', e⟩
            · exact .inl (.inl e)
            · rcases k3 k' bb e with y | y
              · exact .inl (.inr ⟨k', y⟩)
              · exact .inr y
          · have : (w0.take (j + 1)).map (fun b => (b, n)) = (w0.take j).map (fun b => (b, n)) ++ [(c, n)] := by
              rw [List.take_add_one, hc, List.map_append]
              rfl
            rw [this, ← List.append_assoc]
            have e5 : ∀ l : List (Node × Node), (l ++ [(c, n)]).length = l.length + 1 := fun l => by simp
            rw [e5]
            exact L6
        · rintro σ H5 ⟨ad2, f5, L5, v4, rfl⟩
          rw [hzl, List.take_length] at L5
          refine ⟨ad2, f4.trans f5, ?_, _, _, rfl⟩
          have : ((wysOf p n).take (m + 1)).flatten.map (fun b => (b, n)) = ((wysOf p n).take m).flatten.map (fun b => (b, n)) ++ w0.map (fun b => (b, n)) := by
            rw [prs_split hw0, List.map_append]
          rw [this, ← List.append_assoc]
          exact L5
      · rintro σ H4 ⟨ad', f4, L4, v3, v4, rfl⟩
        rw [hwl, List.take_length] at L4
        refine ⟨ad', (f2.trans (Fr.ex e3)).trans f4, ?_, _, _, _, rfl⟩
        rw [prsK_take hn]
        exact L4
    · rintro σ H2 ⟨ad, f2, L2, v2, v3, v4, rfl⟩
      rw [hnl, List.take_length] at L2
      exact ⟨_, rfl, q d ad _ H2 (f2.new (e0.trans e1) hfr).1 L2⟩
end
end FR

set_option Elab.async false
set_option linter.all false
set_option maxRecDepth 100000
set_option maxHeartbeats 4000000
namespace FR
open PySem L2
/-! ### settled nodes: the count of what is wanted -/
noncomputable def nin (told : List Node) (c : Node) : Bool := @decide (c ∉ told) (Classical.propDecidable _)
theorem nin_t {told : List Node} {c : Node} (h : c ∉ told) : nin told c = true := @decide_eq_true _ (Classical.propDecidable _) h
theorem nin_f {told : List Node} {c : Node} (h : c ∈ told) : nin told c = false := @decide_eq_false _ (Classical.propDecidable _) fun z => z h
/-- how many nodes of ways are not told yet -/
noncomputable def cn (p : Paths) (told : List Node) (n : Node) : Nat := (chs p n).countP (nin told)
theorem cn_step (p : Paths) {told : List Node} {x : Node} (hx : x ∉ told) (n : Node) : cn p told n = cn p (told ++ [x]) n + cN x (chs p n) := by
  unfold cn
  generalize chs p n = l
  induction l with
  | nil => rfl
  | cons c l ih =>
    rw [List.countP_cons, List.countP_cons, cN_cons, ih]
    by_cases hc : c = x
    · subst hc
      rw [nin_t hx, nin_f (show c ∈ told ++ [c] by simp), if_pos rfl, if_neg Bool.false_ne_true, if_pos rfl]
      omega
    · by_cases ht : c ∈ told
      · rw [nin_f ht, nin_f (List.mem_append.mpr (.inl ht)), if_neg Bool.false_ne_true, if_neg hc]
        omega
      · rw [nin_t ht, nin_t (fun z => (List.mem_append.mp z).elim ht fun y => hc (by simpa using y)), if_pos rfl, if_neg hc]
        omega
theorem cn_zero {p : Paths} {told : List Node} {n : Node} (h : cn p told n = 0) : ∀ c ∈ chs p n, c ∈ told := fun c hc => by
  unfold cn at h
  have := List.countP_eq_zero.mp h c hc
  exact Classical.byContradiction fun z => this (nin_t z)
theorem cn_zero' {p : Paths} {told : List Node} {n : Node} (h : ∀ c ∈ chs p n, c ∈ told) : cn p told n = 0 := by
  unfold cn
  exact List.countP_eq_zero.mpr fun c hc => by rw [nin_f (h c hc)]; exact Bool.false_ne_true
structure SI (p : Paths) (told ready : List Node) (wa : Node → Int) (rest : List Node) : Prop where
  i1 : ∀ n ∈ keysP p, wa n = (cn p told n : Int) + (cN n rest : Int)
  nd : (told ++ ready).Nodup
  sub : ∀ x ∈ told ++ ready, x ∈ keysP p
  i3 : ∀ n ∈ keysP p, n ∈ told ++ ready ↔ wa n = 0
  ord : ∀ a x b, told = a ++ x :: b → ∀ c ∈ chs p x, c ∈ a
  rs : ∀ o ∈ rest, o ∈ keysP p
theorem Wy_chs {p : Paths} (nd : (keysP p).Nodup) {x y : Node} : Wy p x y ↔ x ∈ keysP p ∧ y ∈ chs p x := by
  rw [Wy_iff nd]
  unfold chs
  rw [List.mem_flatten]
theorem chs_none {p : Paths} {n : Node} (h : n ∉ keysP p) : chs p n = [] := by
  unfold chs wysOf
  have : p.find? (fun e => decide (e.1 = n)) = none := List.find?_eq_none.mpr fun e he => by
    simp
    exact fun z => h (List.mem_map.mpr ⟨e, he, z⟩)
  rw [this]
  rfl
section
variable {p : Paths} {told ready rest q : List Node} {wa : Node → Int} {x o : Node}
theorem SI.take (h : SI p told (q ++ [x]) wa []) (nd : (keysP p).Nodup) : SI p (told ++ [x]) q wa (own (prsK p (keysP p)) x) := by
  have hn := h.nd
  have hxt : x ∉ told := fun z => (List.nodup_append.mp hn).2.2 x z x (by simp) rfl
  have hmem : ∀ n, n ∈ (told ++ [x]) ++ q ↔ n ∈ told ++ (q ++ [x]) := fun n => by
    simp only [List.mem_append]
    constructor
    · rintro ((z | z) | z)
      · exact .inl z
      · exact .inr (.inr z)
      · exact .inr (.inl z)
    · rintro (z | z | z)
      · exact .inl (.inl z)
      · exact .inr z
      · exact .inl (.inr z)
  have hxk : x ∈ keysP p := h.sub x (by simp)
  refine ⟨fun n hk => ?_, ?_, fun y hy => h.sub y ((hmem y).mp hy), fun n hk => (hmem n).trans (h.i3 n hk), fun a y b e c hc => ?_, fun o ho => own_mem ho⟩
  · rw [h.i1 n hk, cn_step p hxt n, (own_count p x n nd).1 hk, cN_nil]
    omega
  · have h2 := List.nodup_append.mp hn
    have h3 := List.nodup_append.mp h2.2.1
    refine List.nodup_append.mpr ⟨List.nodup_append.mpr ⟨h2.1, by simp, fun a ha b hb => h2.2.2 a ha b (List.mem_append.mpr (.inr hb))⟩, h3.1, fun a ha b hb => ?_⟩
    rcases List.mem_append.mp ha with z | z
    · exact h2.2.2 a z b (List.mem_append.mpr (.inl hb))
    · have : a = x := by simpa using z
      subst this
      exact fun e => h3.2.2 b hb a (by simp) e.symm
  · rcases List.append_eq_append_iff.mp e with ⟨a', e1, e2⟩ | ⟨c', e1, e2⟩
    · -- a = told ++ a', [x] = a' ++ y :: b
      cases a' with
      | nil =>
        rw [List.nil_append] at e2
        injection e2 with e2 _
        subst e2
        rw [e1, List.append_nil]
        have h0 := (h.i3 x hxk).mp (by simp)
        rw [h.i1 x hxk, cN_nil] at h0
        exact cn_zero (by omega) c hc
      | cons d a' =>
        rw [List.cons_append] at e2
        injection e2 with _ e2
        exact absurd e2.symm (by simp)
    · -- told = a ++ c', y :: b = c' ++ [x]
      cases c' with
      | nil =>
        rw [List.nil_append] at e2
        injection e2 with e2 _
        rw [List.append_nil] at e1
        have h0 := (h.i3 x hxk).mp (by simp)
        rw [h.i1 x hxk, cN_nil] at h0
        rw [← e1]
        rw [e2] at hc
        exact cn_zero (by omega) c hc
      | cons d c' =>
        rw [List.cons_append] at e2
        injection e2 with e2 e3
        rw [← e2] at e1
        exact h.ord a y c' e1 c hc
theorem SI.dec (h : SI p told ready wa (o :: rest)) : SI p told (if wa o - 1 = 0 then ready ++ [o] else ready) (fun n => if n = o then wa o - 1 else wa n) rest := by
  have hok := h.rs o (List.mem_cons_self ..)
  have h1 := h.i1 o hok
  rw [cN_cons, if_pos rfl] at h1
  have hno : o ∉ told ++ ready := fun z => by
    have := (h.i3 o hok).mp z
    omega
  have i1' : ∀ n ∈ keysP p, (if n = o then wa o - 1 else wa n) = (cn p told n : Int) + (cN n rest : Int) := fun n hk => by
    by_cases e : n = o
    · rw [if_pos e, e]
      omega
    · rw [if_neg e, h.i1 n hk, cN_cons, if_neg (fun z => e z.symm)]
      rfl
  by_cases hz : wa o - 1 = 0
  · rw [if_pos hz]
    refine ⟨i1', ?_, fun y hy => ?_, fun n hk => ?_, h.ord, fun y hy => h.rs y (List.mem_cons_of_mem _ hy)⟩
    · rw [← List.append_assoc]
      exact List.nodup_append.mpr ⟨h.nd, by simp, fun a ha b hb => by
        have : b = o := by simpa using hb
        subst this
        exact fun e => hno (e ▸ ha)⟩
    · rw [← List.append_assoc] at hy
      rcases List.mem_append.mp hy with z | z
      · exact h.sub y z
      · have : y = o := by simpa using z
        exact this ▸ hok
    · rw [← List.append_assoc]
      show _ ↔ (if n = o then wa o - 1 else wa n) = 0
      by_cases e : n = o
      · rw [if_pos e, e]
        exact ⟨fun _ => hz, fun _ => by simp⟩
      · rw [if_neg e, ← h.i3 n hk]
        exact ⟨fun z => (List.mem_append.mp z).resolve_right fun y => e (by simpa using y), fun z => List.mem_append.mpr (.inl z)⟩
  · rw [if_neg hz]
    refine ⟨i1', h.nd, h.sub, fun n hk => ?_, h.ord, fun y hy => h.rs y (List.mem_cons_of_mem _ hy)⟩
    show _ ↔ (if n = o then wa o - 1 else wa n) = 0
    by_cases e : n = o
    · rw [if_pos e, e]
      exact ⟨fun z => absurd z hno, fun z => absurd z hz⟩
    · rw [if_neg e, ← h.i3 n hk]
theorem SI.len (h : SI p told ready wa rest) : told.length + ready.length ≤ p.length := by
  have : (keysP p).length = p.length := List.length_map ..
  rw [← this, ← List.length_append]
  exact nodup_len h.nd h.sub
theorem SI.done (h : SI p told [] wa []) (nd : (keysP p).Nodup) : SetOk p told := by
  have hn := h.nd
  rw [List.append_nil] at hn
  refine ⟨hn, fun x hx => h.sub x (by rw [List.append_nil]; exact hx), fun a x b e c hc => ?_, fun x hx hc => ?_⟩
  · exact h.ord a x b e c ((Wy_chs nd).mp hc).2
  · have h0 : cn p told x = 0 := cn_zero' fun c hcc => hc c ((Wy_chs nd).mpr ⟨hx, hcc⟩)
    have h1 := (h.i3 x hx).mpr (by rw [h.i1 x hx, h0, cN_nil]; rfl)
    rw [List.append_nil] at h1
    exact h1
/-- at first: nothing told, ready those of no nodes of ways -/
def rdy (p : Paths) (l : List Node) : List Node := l.filter fun n => decide ((chs p n).length = 0)
theorem SI.start (nd : (keysP p).Nodup) : SI p [] (rdy p (keysP p)) (fun n => ((chs p n).length : Int)) [] := by
  have h0 : ∀ n, cn p [] n = (chs p n).length := fun n => by
    unfold cn
    rw [List.countP_eq_length]
    intro c _
    exact nin_t (fun z => nomatch z)
  refine ⟨fun n _ => ?_, ?_, fun x hx => ?_, fun n hk => ?_, fun a x b e => ?_, fun _ z => nomatch z⟩
  · rw [h0, cN_nil]
    show ((chs p n).length : Int) = _
    omega
  · rw [List.nil_append]
    exact nd.filter _
  · rw [List.nil_append] at hx
    exact (List.mem_filter.mp hx).1
  · rw [List.nil_append]
    unfold rdy
    rw [List.mem_filter, decide_eq_true_iff]
    show _ ↔ ((chs p n).length : Int) = 0
    constructor
    · rintro ⟨_, z⟩
      omega
    · exact fun z => ⟨hk, by omega⟩
  · exact absurd e (by simp)
end
end FR

set_option Elab.async false
set_option linter.all false
set_option maxRecDepth 100000
set_option maxHeartbeats 4000000
namespace FR
open PySem L2
/-! ### a heap without some of its objects -/
def mns (H : Hp) (l : List Addr) : Hp := fun c => if decide (c ∈ l) = true then none else H c
theorem mns_of {H : Hp} {l : List Addr} {c : Addr} {o : HO} (h : H c = some o) (n : c ∉ l) : mns H l c = some o := by
  unfold mns
  rw [if_neg (by simpa using n)]
  exact h
theorem mns_no {H : Hp} {l : List Addr} {c : Addr} (n : c ∈ l) : mns H l c = none := by
  unfold mns
  rw [if_pos (decide_eq_true n)]
theorem mns_to (H : Hp) (l : List Addr) : Ex (mns H l) H := fun c o h => by
  by_cases m : c ∈ l
  · rw [mns_no m] at h; cases h
  · unfold mns at h
    rw [if_neg (by simpa using m)] at h
    exact h
theorem mns_ex {H0 H : Hp} {l : List Addr} (e : Ex H0 H) (n : ∀ c ∈ l, H0 c = none) : Ex H0 (mns H l) := fun c o h => mns_of (e c o h) fun m => by
  rw [n c m] at h
  cases h
theorem sum_flat : ∀ ws : List (List Node), (ws.map fun w => (w.length : Int)).sum = (ws.flatten.length : Int)
  | [] => rfl
  | w :: ws => by
    rw [List.map_cons, List.sum_cons, sum_flat ws, List.flatten_cons, List.length_append]
    omega
section
variable {P : Program} {w : World} {K : PySem.W.Frag} {mg : Str → Option Value} {base : Heap}
theorem sc_settled : FnScope ["wood", "above", "wanted", "ready", "node", "told", "owner", "way"] ["wood"] (defScope sSettled) := ⟨rfl, rfl, rfl, by decide +kernel, rfl, by decide +kernel, by decide +kernel⟩
def sp_settled (C : Addr) : Sp := fun vs H Q _ => ∃ (x : Addr) (p : Paths), vs = [.ref x] ∧ WoodAt C H x p ∧ WSz p ∧ (keysP p).Nodup ∧ ∀ l told H', Ex H H' → H l = none → LstAt NodeAt H' l told → SetOk p told → Q (.ref l) H'
theorem ok_settled {f fO fN fW C : Addr} {fd fdO fdN fdW : FuncData} {k : Nat} (F : Fun K "settled" "settled" sSettled f fd) (U : Txt K mg) (T : TW K mg C) (GO : FnG P w K mg base "owners" k ["wood"] (sp_owners C) fO fdO)
    (GN : FnM P w K mg base C "nodes" k ["self"] (sp_nodes C) fN fdN) (GW : FnM P w K mg base C "ways" k ["self", "node"] (sp_ways C) fW fdW) : FnOk P w K mg base CX0 (k + 1) f fd ["wood"] (sp_settled C) := by
  refine F.ok sc_settled (fun vs H Q E h => ?_) (fun cdv A0 outer s H vs Q E hr h => ?_)
  · obtain ⟨x, p, rfl, _⟩ := h
    rfl
  · obtain ⟨x, p, rfl, hw, hz, nd, q⟩ := h
    have hu := hu_of hr
    refine ⟨_, pss_cons (ps_set (i := 1) sc_settled.nd rfl (Or.inl rfl) (pe_f GO hr (by rfl) (pa_cons (pv 0) pa_nil)))
      (pss_cons (ps_set (i := 2) sc_settled.nd rfl (Or.inl rfl) pe_dnewT)
      (pss_cons (ps_set (i := 3) sc_settled.nd rfl (Or.inl rfl) (pe_lst pa_nil))
      (pss_cons (ps_for PassesOwn.never rfl (pi_list (pe_meth0 (pv 0) T.cl GN.m GN.ok hr GN.b .nil pass0)) (pg_name (i := 4) sc_settled.nd rfl (.inl rfl))
        (pss_cons (ps_dput hu (pv 2) (pv 4) (pe_callB (cr_sum rfl) (by rfl) U.sum bt_sum (pa_cons (pe_lc (own := [("way", 7)]) (g := gName 7) (tt := tYes) (te := tCB (Evl.rLenS K) (tCons (tVar 7) tNil)) (by rfl) sc_settled.nd
            (pi_list (pe_meth (pv 0) T.cl GW.m GW.ok hr GW.b .nil pass0 (pa_cons (pv 4) pa_nil))) (blkOk_by (own := [("way", 7)]) (N := ["wood", "above", "wanted", "ready", "node", "told", "owner", "way"]) (sc := defScope sSettled) (by decide +kernel))
            (fun _ _ _ _ _ => pg_name (i := 7) sc_settled.nd rfl (Or.inl rfl)) (fun _ _ _ _ _ => pts_nil) (fun _ _ _ _ _ => pe_callB call_len_seq (by rfl) U.len bt_len (pa_cons (pv 7) pa_nil))) pa_nil)) rfl)
        (pss_one (ps_if (pt_cmpR op_eq (pe_dget hu (pv 2) (pv 4) (fun _ _ => rfl)) pe_int (nomark _))
          (pss_one (ps_expr (pe_bm PySem.F.plainAttrs_list PySem.F.slot_list_append PySem.F.type_list_append mt_append (pv 3) (pa_cons (pv 4) pa_nil)))) pss_nil))))
      (pss_cons (ps_set (i := 5) sc_settled.nd rfl (Or.inl rfl) (pe_lst pa_nil))
      (pss_cons (ps_while PassesOwn.never (pt_cmpR (op_ne0 hr.units0) (pv 3) (pe_lst pa_nil) (nomark _))
        (pss_cons (ps_set (i := 4) sc_settled.nd rfl (Or.inl rfl) (pe_bm0 PySem.F.plainAttrs_list PySem.F.slot_list_pop PySem.F.type_list_pop mt_pop (pv 3)))
        (pss_cons (ps_expr (pe_bm PySem.F.plainAttrs_list PySem.F.slot_list_append PySem.F.type_list_append mt_append (pv 5) (pa_cons (pv 4) pa_nil)))
        (pss_one (ps_for PassesOwn.never rfl (pi_list (pe_dget2 hu (pv 1) (pv 4) (pe_lst pa_nil) ⟨rfl, rfl, rfl, rfl⟩)) (pg_name (i := 6) sc_settled.nd rfl (.inl rfl))
          (pss_cons (ps_daug hu (pv 2) (pv 6) pe_int in_sub (fun _ _ _ => rfl))
          (pss_one (ps_if (pt_cmpR op_eq (pe_dget hu (pv 2) (pv 6) (fun _ _ => rfl)) pe_int (nomark _))
            (pss_one (ps_expr (pe_bm PySem.F.plainAttrs_list PySem.F.slot_list_append PySem.F.type_list_append mt_append (pv 3) (pa_cons (pv 6) pa_nil)))) pss_nil))))))))
      (pss_one (ps_ret (pv 5)))))))), ?_⟩
    have hkl : (keysP p).length = p.length := List.length_map ..
    have hp2 := hz.few
    obtain ⟨dx, ra, z, pk, pd, hx, hP⟩ := id hw
    -- above, wanted, ready, the nodes
    refine ⟨_, rfl, x, p, rfl, hw, hz, fun d ad nb H1 e1 L1 => ?_⟩
    intro wd hwd
    have e2 : Ex H1 (upd H1 wd (.dT [])) := Evl.Ex.new hwd
    refine ⟨Nat.zero_le _, fun rd hrd => ?_⟩
    have hrd1 : H1 rd = none := Evl.fresh_back e2 hrd
    have hwr : wd ≠ rd := fun e => by rw [← e, upd_same] at hrd; cases hrd
    have e3 := e2.trans (Evl.Ex.new (o := .lst []) hrd)
    refine ⟨_, rfl, x, dx, _, rfl, e3 _ _ (e1 _ _ hx), wF_nodes _ _ _ _, x, p, rfl, hw.ex (e1.trans e3), fun l1 H2 e4 hl1 ⟨ns, hns, pn⟩ => ?_⟩
    have hwd2 : H2 wd = some (.dT []) := e4 _ _ (by rw [upd_ne hwr, upd_same])
    have hrd2 : H2 rd = some (.lst []) := e4 _ _ upd_same
    have hl1w : l1 ∉ [wd, rd] := fun m => by
      rcases List.mem_cons.mp m with e | e
      · rw [e, upd_ne hwr, upd_same] at hl1; cases hl1
      · have e : l1 = rd := by simpa using e
        rw [e, upd_same] at hl1; cases hl1
    have eG0 : Ex H1 (mns H2 [wd, rd]) := mns_ex (e3.trans e4) fun c hc => by
      rcases List.mem_cons.mp hc with e | e
      · rw [e]; exact hwd
      · have e : c = rd := by simpa using e
        rw [e]; exact hrd1
    have hGw : mns H2 [wd, rd] wd = none := mns_no (by simp)
    have hGr : mns H2 [wd, rd] rd = none := mns_no (by simp)
    have hGl : mns H2 [wd, rd] l1 = some (.lst ns) := mns_of hns hl1w
    have tG2 : Tu H2 (mns H2 [wd, rd]) := fun b xs hb => mns_of hb fun m => by
      rcases List.mem_cons.mp m with e | e
      · rw [e, hwd2] at hb; cases hb
      · have e : b = rd := by simpa using e
        rw [e, hrd2] at hb; cases hb
    have pnG := Paired.mono (fun _ _ => mNode _ _ _ _ tG2) pn
    have hGd : Ex (mns H2 [wd, rd]) H2 := mns_to _ _
    generalize mns H2 [wd, rd] = G at eG0 hGw hGr hGl tG2 pnG hGd
    have hnl : ns.length = (keysP p).length := Paired.length pn
    refine ⟨l1, rfl, ⟨ns, sq hns⟩, for_list (K := K) (xs := ns) (fun i σ H' => Ex G H' ∧ (∃ wk, H' wd = some (.dT wk) ∧ wk.length ≤ i ∧ ∀ n ∈ (keysP p).take i, valV wk n = some (.int ((chs p n).length : Int))) ∧ LstAt NodeAt H' rd (rdy p ((keysP p).take i)) ∧ ∃ v4, σ = [some (.ref x), some (.ref d), some (.ref wd), some (.ref rd), v4, none, none, none])
      ⟨hGd, ⟨[], hwd2, Nat.le_refl _, fun _ y => nomatch y⟩, ⟨[], hrd2, .nil⟩, none, rfl⟩ (fun i σ H' _ ⟨e, _⟩ => sq (e _ _ hGl)) ?_ ?_⟩
    · rintro i xx σ H3 hi ⟨e5, ⟨wk, hwk, hwl, hwv⟩, ⟨rv, hrv, prv⟩, v4, rfl⟩
      obtain ⟨n, hn, rn⟩ := pr_get' pnG hi
      have hil := (List.getElem?_eq_some_iff.mp hn).1
      obtain ⟨a, rfl, ha⟩ := mNode _ _ _ _ (tu_ex e5) rn
      -- sum([len(way) for way in wood.ways(node)])
      refine ⟨_, rfl, x, dx, _, rfl, e5 _ _ (eG0 _ _ (e1 _ _ hx)), wF_ways _ _ _ _, _, rfl, x, p, _, n, rfl, hw.ex ((e1.trans eG0).trans e5), ⟨a, rfl, ha⟩, fun l2 H4 e6 hl2 ⟨wv, hwvv, pw⟩ => ?_⟩
      have hwvl : wv.length = (wysOf p n).length := Paired.length pw
      have hws := wys_sz hz n
      refine ⟨l2, rfl, ⟨wv, sq hwvv⟩, fun D hD => ?_⟩
      refine lc_list (K := K) (xs := wv) (fun m H' => Ex H4 H' ∧ H' D = some (.lst (((wysOf p n).take m).map fun w => V.int (w.length : Int)))) ⟨Evl.Ex.new hD, upd_same⟩ (fun m H' _ ⟨e, _⟩ => sq (e _ _ hwvv)) ?_ ?_
      · rintro m ww H5 hm ⟨e7, hD5⟩
        obtain ⟨w0, hw0, rw0⟩ := pr_get' pw hm
        obtain ⟨b, zs, rfl, hb, pz⟩ := mWay _ _ _ _ (tu_ex e7) rw0
        have hzl : zs.length = w0.length := Paired.length pz
        have hml := (List.getElem?_eq_some_iff.mp hw0).1
        refine ⟨rfl, yes (iteT ?_)⟩
        refine ⟨_, rfl, b, zs, rfl, .inr (st hb), _, hD5, ?_, Evl.Ex.mut e7 hD, ?_⟩
        · rw [List.length_map, List.length_take]
          exact small1000 (by omega)
        · rw [upd_same, List.take_add_one, hw0, List.map_append, hzl]
          rfl
      · rintro H5 ⟨e7, hD5⟩
        rw [hwvl, List.take_length] at hD5
        have hD5' : H5 D = some (.lst (((wysOf p n).map fun w => (w.length : Int)).map V.int)) := by
          rw [hD5, List.map_map]
          rfl
        refine ⟨D, _, rfl, sq hD5', ?_⟩
        rw [sum_flat]
        have e37 := e6.trans e7
        have hwk5 := e37 _ _ hwk
        refine ⟨_, rfl, _, rfl, wd, _, rfl, DPut.t hwk5 (e37 _ _ ha) (big (by omega)), ?_⟩
        have e58 : Ex G (upd H5 wd (.dT (putK wk n (.int ((wysOf p n).flatten.length : Int))))) := Evl.Ex.mut (e5.trans e37) hGw
        have t58 : Tu H5 (upd H5 wd (.dT (putK wk n (.int ((wysOf p n).flatten.length : Int))))) := tu_upd hwk5 fun _ y => nomatch y
        have hrv8 : (upd H5 wd (.dT (putK wk n (.int ((wysOf p n).flatten.length : Int))))) rd = some (.lst rv) := by rw [upd_ne hwr.symm]; exact e37 _ _ hrv
        have hwk8 : (upd H5 wd (.dT (putK wk n (.int ((wysOf p n).flatten.length : Int))))) wd = some (.dT (putK wk n (.int ((chs p n).length : Int)))) := upd_same
        have ha8 := t58 _ _ (e37 _ _ ha)
        have prv8 := Paired.mono (fun _ _ => mNode _ _ _ _ ((tu_ex e37).trans t58)) prv
        generalize upd H5 wd (.dT (putK wk n (.int ((wysOf p n).flatten.length : Int)))) = H8 at e58 t58 hrv8 hwk8 ha8 prv8
        have hval : valV (putK wk n (V.int ((chs p n).length : Int))) n = some (.int ((chs p n).length : Int)) := by rw [valV_put, if_pos rfl]
        have hdg : DGet H8 wd (.ref a) (some (.int ((chs p n).length : Int))) := by
          have := DGet.t (k := n) hwk8 ha8
          rw [hval] at this
          exact this
        have hnew : (putK wk n (V.int ((chs p n).length : Int))).length ≤ i + 1 ∧ ∀ n' ∈ (keysP p).take (i + 1), valV (putK wk n (V.int ((chs p n).length : Int))) n' = some (.int ((chs p n').length : Int)) := by
          refine ⟨Nat.le_trans (length_putK _ _ _) (by omega), fun n' hn' => ?_⟩
          rw [valV_put]
          by_cases e : n' = n
          · rw [if_pos e, e]
          · rw [if_neg e]
            rw [List.take_add_one, hn] at hn'
            rcases List.mem_append.mp hn' with y | y
            · exact hwv n' y
            · exact absurd (by simpa using y) e
        have hrl : rv.length = (rdy p ((keysP p).take i)).length := Paired.length prv
        have hrl2 : (rdy p ((keysP p).take i)).length ≤ ((keysP p).take i).length := List.length_filter_le _ _
        rw [List.length_take] at hrl2
        have hrdy : rdy p ((keysP p).take (i + 1)) = rdy p ((keysP p).take i) ++ (if (chs p n).length = 0 then [n] else []) := by
          unfold rdy
          rw [List.take_add_one, hn, List.filter_append]
          congr 1
          by_cases c : (chs p n).length = 0
          · rw [if_pos c]
            show List.filter _ [n] = [n]
            rw [List.filter_cons, if_pos (decide_eq_true c)]
            rfl
          · rw [if_neg c]
            show List.filter _ [n] = []
            rw [List.filter_cons, if_neg (by simpa using c)]
            rfl
        refine ⟨_, rfl, _, rfl, wd, _, rfl, hdg, rfl, _, rfl, ?_⟩
        rw [show (0 : Int) = ((0 : Nat) : Int) from rfl, vI]
        refine ite2 (fun c => ?_) (fun c => ?_)
        · have c := of_decide_eq_true c
          rw [if_pos c] at hrdy
          refine ⟨_, rfl, .inl ⟨rfl, _, sq hrv8⟩, _, rfl, rd, rv, _, rfl, rfl, hrv8, big (by omega), ?_⟩
          have tm := tu_upd (o := .lst (rv ++ [.ref a])) hrv8 fun _ y => nomatch y
          refine ⟨Evl.Ex.mut e58 hGr, ⟨_, by rw [upd_ne hwr]; exact hwk8, hnew⟩, ?_, _, rfl⟩
          rw [hrdy]
          exact ⟨_, upd_same, Paired.snoc (Paired.mono (fun _ _ => mNode _ _ _ _ tm) prv8) ⟨a, rfl, tm _ _ ha8⟩⟩
        · rw [if_neg (fun y => c (decide_eq_true y)), List.append_nil] at hrdy
          refine ⟨e58, ⟨_, hwk8, hnew⟩, ?_, _, rfl⟩
          rw [hrdy]
          exact ⟨_, hrv8, prv8⟩
    · rintro σ H3 ⟨e5, ⟨wk, hwk, hwl, hwv⟩, ⟨rv, hrv, prv⟩, v4, rfl⟩
      rw [hnl, List.take_length] at hwv prv
      refine ⟨Nat.zero_le _, fun td htd => ?_⟩
      have e6 : Ex H3 (upd H3 td (.lst [])) := Evl.Ex.new htd
      have hGt : G td = none := Evl.fresh_back e5 htd
      have hrt : rd ≠ td := ne_of_none hrv htd
      have hwt : wd ≠ td := ne_of_none hwk htd
      refine ⟨fun m σ H' => ∃ told ready wa wk, m = p.length - told.length ∧ SI p told ready wa [] ∧ Ex G H' ∧ H' wd = some (.dT wk) ∧ wk.length ≤ 4000 ∧ (∀ n ∈ keysP p, valV wk n = some (.int (wa n))) ∧ LstAt NodeAt H' rd ready ∧ LstAt NodeAt H' td told ∧ ∃ v4 v6, σ = [some (.ref x), some (.ref d), some (.ref wd), some (.ref rd), v4, some (.ref td), v6, none],
        ⟨_, [], _, _, wk, rfl, SI.start nd, e5.trans e6, e6 _ _ hwk, by omega, hwv, ⟨rv, e6 _ _ hrv, Paired.mono (fun _ _ => mNode _ _ _ _ (tu_ex e6)) prv⟩, ⟨[], upd_same, .nil⟩, v4, none, rfl⟩, ?_⟩
      rintro m σ H4 ⟨told, ready, wa, wk4, rfl, hS, e7, hwk4, hwl4, hwv4, ⟨rv4, hrv4, prv4⟩, ⟨tv, htv, ptv⟩, v4, v6, rfl⟩
      refine ⟨_, rfl, Nat.zero_le _, fun p0 hp0 => ?_⟩
      have e8 : Ex H4 (upd H4 p0 (.lst [])) := Evl.Ex.new hp0
      refine ⟨rd, p0, rv4, rfl, rfl, sq (e8 _ _ hrv4), sq upd_same, _, rfl, ?_⟩
      cases hem : rv4.isEmpty with
      | true =>
        refine iteF ?_
        have hqe : ready = [] := pr_nil prv4 hem
        subst hqe
        refine ⟨_, rfl, q td told _ ((e1.trans eG0).trans (e7.trans e8)) ?_ ⟨tv, e8 _ _ htv, Paired.mono (fun _ _ => mNode _ _ _ _ (tu_ex e8)) ptv⟩ (hS.done nd)⟩
        exact Evl.fresh_back (e1.trans eG0) hGt
      | false =>
        have hne : ready ≠ [] := pr_nil' prv4 hem
        obtain ⟨qq, n, rfl⟩ := snoc_of hne
        have hlen : rv4.length = (qq ++ [n]).length := Paired.length prv4
        obtain ⟨y, hy, ⟨a, rfl, ha⟩⟩ := pr_get prv4 (show (qq ++ [n])[rv4.length - 1]? = some n by rw [hlen]; simp)
        have hSl := hS.len
        rw [List.length_append, List.length_singleton] at hSl
        have htvl : tv.length = told.length := Paired.length ptv
        refine iteT ⟨fun σ' H' => ∃ told' ready' wa' wk', p.length - told'.length < p.length - told.length ∧ SI p told' ready' wa' [] ∧ Ex G H' ∧ H' wd = some (.dT wk') ∧ wk'.length ≤ 4000 ∧ (∀ n ∈ keysP p, valV wk' n = some (.int (wa' n))) ∧ LstAt NodeAt H' rd ready' ∧ LstAt NodeAt H' td told' ∧ ∃ v4 v6, σ' = [some (.ref x), some (.ref d), some (.ref wd), some (.ref rd), v4, some (.ref td), v6, none],
          fun σ' H' ⟨a1, a2, a3, a4, h1, h2⟩ => ⟨_, h1, a1, a2, a3, a4, rfl, h2⟩, ?_⟩
        -- node = ready.pop(); told.append(node)
        have hrv5 := e8 _ _ hrv4
        refine ⟨_, rfl, .inl ⟨rfl, _, sq hrv5⟩, rd, rv4, _, rfl, rfl, hrv5, hy, ?_⟩
        have htv6 : (upd (upd H4 p0 (.lst [])) rd (.lst rv4.dropLast)) td = some (.lst tv) := by rw [upd_ne hrt.symm]; exact e8 _ _ htv
        refine ⟨_, rfl, .inl ⟨rfl, _, sq htv6⟩, _, rfl, td, tv, _, rfl, rfl, htv6, big (by omega), ?_⟩
        have t6 : Tu H4 (upd (upd (upd H4 p0 (.lst [])) rd (.lst rv4.dropLast)) td (.lst (tv ++ [.ref a]))) := ((tu_ex e8).trans (tu_upd hrv5 fun _ y => nomatch y)).trans (tu_upd htv6 fun _ y => nomatch y)
        have eG6 : Ex G (upd (upd (upd H4 p0 (.lst [])) rd (.lst rv4.dropLast)) td (.lst (tv ++ [.ref a]))) := Evl.Ex.mut (Evl.Ex.mut (e7.trans e8) hGr) hGt
        have hwk6 : (upd (upd (upd H4 p0 (.lst [])) rd (.lst rv4.dropLast)) td (.lst (tv ++ [.ref a]))) wd = some (.dT wk4) := by rw [upd_ne hwt, upd_ne hwr]; exact e8 _ _ hwk4
        have Lr6 : LstAt NodeAt (upd (upd (upd H4 p0 (.lst [])) rd (.lst rv4.dropLast)) td (.lst (tv ++ [.ref a]))) rd qq := ⟨_, by rw [upd_ne hrt, upd_same], by
          have := pr_dropLast (Paired.mono (fun _ _ => mNode _ _ _ _ t6) prv4)
          rw [List.dropLast_concat] at this
          exact this⟩
        have Lt6 : LstAt NodeAt (upd (upd (upd H4 p0 (.lst [])) rd (.lst rv4.dropLast)) td (.lst (tv ++ [.ref a]))) td (told ++ [n]) := ⟨_, upd_same, Paired.snoc (Paired.mono (fun _ _ => mNode _ _ _ _ t6) ptv) ⟨a, rfl, t6 _ _ ha⟩⟩
        have ha6 := t6 _ _ ha
        generalize upd (upd (upd H4 p0 (.lst [])) rd (.lst rv4.dropLast)) td (.lst (tv ++ [.ref a])) = H6 at t6 eG6 hwk6 Lr6 Lt6 ha6
        have hS6 := hS.take nd
        -- for owner in above.get(node, [])
        have LG := L1.ex mNode eG0
        have L6 := LG.ex mNode eG6
        obtain ⟨okv, ho0, _⟩ := L6.dic
        refine ⟨_, rfl, d, rfl, .inr ⟨okv, .inl ho0⟩, _, rfl, Nat.zero_le _, fun p1 hp1 => ?_⟩
        have e9 : Ex H6 (upd H6 p1 (.lst [])) := Evl.Ex.new hp1
        obtain ⟨okv2, ho2, ol, os, eg, hol, po, olp⟩ := (L6.ex mNode e9).get n (p := p1) upd_same
        refine ⟨_, DGet.t (k := n) ho2 (e9 _ _ ha6), ?_⟩
        rw [eg]
        have hnol : ol ∉ [wd, rd, td] := fun m => by
          have hnew : ∀ c, G c = none → H6 c ≠ none → ol ≠ c := fun c h1 h2 e => by
            rcases olp with y | y
            · rw [← y, e] at hp1
              exact h2 hp1
            · obtain ⟨_, h3, _⟩ := LG.its _ _ y
              rw [e, h1] at h3
              cases h3
          obtain ⟨_, hr6, _⟩ := Lr6
          obtain ⟨_, ht6, _⟩ := Lt6
          rcases List.mem_cons.mp m with y | y
          · exact hnew wd hGw (by rw [hwk6]; exact fun y => nomatch y) y
          · rcases List.mem_cons.mp y with y | y
            · exact hnew rd hGr (by rw [hr6]; exact fun y => nomatch y) y
            · exact hnew td hGt (by rw [ht6]; exact fun y => nomatch y) (by simpa using y)
        -- what stays while wanted and ready change
        have hG7l : mns (upd H6 p1 (.lst [])) [wd, rd, td] ol = some (.lst os) := mns_of hol hnol
        have eG7 : Ex G (mns (upd H6 p1 (.lst [])) [wd, rd, td]) := mns_ex (eG6.trans e9) fun c hc => by
          rcases List.mem_cons.mp hc with y | y
          · rw [y]; exact hGw
          · rcases List.mem_cons.mp y with y | y
            · rw [y]; exact hGr
            · have y : c = td := by simpa using y
              rw [y]; exact hGt
        have t7 : Tu (upd H6 p1 (.lst [])) (mns (upd H6 p1 (.lst [])) [wd, rd, td]) := fun b xs hb => mns_of hb fun m => by
          obtain ⟨_, hr6, _⟩ := Lr6
          obtain ⟨_, ht6, _⟩ := Lt6
          rcases List.mem_cons.mp m with y | y
          · rw [y, e9 _ _ hwk6] at hb; cases hb
          · rcases List.mem_cons.mp y with y | y
            · rw [y, e9 _ _ hr6] at hb; cases hb
            · have y : b = td := by simpa using y
              rw [y, e9 _ _ ht6] at hb; cases hb
        have po7 := Paired.mono (fun _ _ => mNode _ _ _ _ t7) po
        have hG7w : mns (upd H6 p1 (.lst [])) [wd, rd, td] wd = none := mns_no (by simp)
        have hG7r : mns (upd H6 p1 (.lst [])) [wd, rd, td] rd = none := mns_no (by simp)
        have hG7to : Ex (mns (upd H6 p1 (.lst [])) [wd, rd, td]) (upd H6 p1 (.lst [])) := mns_to _ _
        generalize mns (upd H6 p1 (.lst [])) [wd, rd, td] = G7 at hG7l eG7 t7 po7 hG7w hG7r hG7to
        have hosl : os.length = (own (prsK p (keysP p)) n).length := Paired.length po
        refine ⟨ol, rfl, ⟨os, sq hol⟩, for_list (K := K) (xs := os) (fun i σ H' => ∃ ready' wa' wk', SI p (told ++ [n]) ready' wa' ((own (prsK p (keysP p)) n).drop i) ∧ Ex G7 H' ∧ H' wd = some (.dT wk') ∧ wk'.length ≤ wk4.length ∧ (∀ n ∈ keysP p, valV wk' n = some (.int (wa' n))) ∧ LstAt NodeAt H' rd ready' ∧ LstAt NodeAt H' td (told ++ [n]) ∧ ∃ v6, σ = [some (.ref x), some (.ref d), some (.ref wd), some (.ref rd), some (.ref a), some (.ref td), v6, none])
          ⟨qq, wa, wk4, hS6, hG7to, e9 _ _ hwk6, Nat.le_refl _, hwv4, Lr6.ex mNode e9, Lt6.ex mNode e9, v6, rfl⟩ (fun i σ H' _ ⟨_, _, _, _, e, _⟩ => sq (e _ _ hG7l)) ?_ ?_⟩
        · rintro i oo σ H8 hi ⟨ready', wa', wk', hS8, e10, hwk8, hwl8, hwv8, ⟨rv8, hrv8, prv8⟩, ⟨tv8, htv8, ptv8⟩, v6, rfl⟩
          obtain ⟨o, ho, ro⟩ := pr_get' po7 hi
          obtain ⟨ob, rfl, hob⟩ := mNode _ _ _ _ (tu_ex e10) ro
          have hil := (List.getElem?_eq_some_iff.mp ho).1
          have hdrop : (own (prsK p (keysP p)) n).drop i = o :: (own (prsK p (keysP p)) n).drop (i + 1) := by
            rw [List.drop_eq_getElem_cons hil]
            congr 1
            rw [List.getElem?_eq_getElem hil] at ho
            exact Option.some.inj ho
          rw [hdrop] at hS8
          have hok := hS8.rs o (List.mem_cons_self ..)
          have hS9 := hS8.dec
          have hdg : DGet H8 wd (.ref ob) (some (.int (wa' o))) := by
            have := DGet.t (k := o) hwk8 hob
            rw [hwv8 o hok] at this
            exact this
          refine ⟨_, rfl, _, rfl, wd, _, rfl, hdg, wa' o, 1, rfl, rfl, _, DPut.t hwk8 hob (big (by omega)), ?_⟩
          have e11 : Ex G7 (upd H8 wd (.dT (putK wk' o (.int (wa' o - 1))))) := Evl.Ex.mut e10 hG7w
          have t11 : Tu H8 (upd H8 wd (.dT (putK wk' o (.int (wa' o - 1))))) := tu_upd hwk8 fun _ y => nomatch y
          have hrv9 : (upd H8 wd (.dT (putK wk' o (.int (wa' o - 1))))) rd = some (.lst rv8) := by rw [upd_ne hwr.symm]; exact hrv8
          have htv9 : (upd H8 wd (.dT (putK wk' o (.int (wa' o - 1))))) td = some (.lst tv8) := by rw [upd_ne hwt.symm]; exact htv8
          have hwk9 : (upd H8 wd (.dT (putK wk' o (.int (wa' o - 1))))) wd = some (.dT (putK wk' o (.int (wa' o - 1)))) := upd_same
          have hob9 := t11 _ _ hob
          have prv9 := Paired.mono (fun _ _ => mNode _ _ _ _ t11) prv8
          have ptv9 := Paired.mono (fun _ _ => mNode _ _ _ _ t11) ptv8
          generalize upd H8 wd (.dT (putK wk' o (.int (wa' o - 1)))) = H9 at e11 t11 hrv9 htv9 hwk9 hob9 prv9 ptv9
          have hval : valV (putK wk' o (V.int (wa' o - 1))) o = some (.int (wa' o - 1)) := by rw [valV_put, if_pos rfl]
          have hdg9 : DGet H9 wd (.ref ob) (some (.int (wa' o - 1))) := by
            have := DGet.t (k := o) hwk9 hob9
            rw [hval] at this
            exact this
          have hwv9 : ∀ n ∈ keysP p, valV (putK wk' o (V.int (wa' o - 1))) n = some (.int (if n = o then wa' o - 1 else wa' n)) := fun n' hn' => by
            rw [valV_put]
            by_cases e : n' = o
            · rw [if_pos e, if_pos e]
            · rw [if_neg e, if_neg e]
              exact hwv8 n' hn'
          have hpl : (putK wk' o (V.int (wa' o - 1))).length ≤ wk4.length := by
            have hk : (wk'.any fun kv => decide (kv.1 = o)) = true := by rw [valV_any, hwv8 o hok]; rfl
            have : putK wk' o (V.int (wa' o - 1)) = wk'.map fun kv => if kv.1 = o then (kv.1, V.int (wa' o - 1)) else kv := if_pos hk
            rw [this, List.length_map]
            exact hwl8
          refine ⟨_, rfl, _, rfl, wd, _, rfl, hdg9, rfl, _, rfl, ?_⟩
          have hSl9 := hS8.len
          rw [List.length_append, List.length_singleton] at hSl9
          have hrl8 : rv8.length = ready'.length := Paired.length prv8
          refine ite2 (fun c => ?_) (fun c => ?_)
          · have c : wa' o - 1 = 0 := V.int.inj (of_decide_eq_true c)
            rw [if_pos c] at hS9
            refine ⟨_, rfl, .inl ⟨rfl, _, sq hrv9⟩, _, rfl, rd, rv8, _, rfl, rfl, hrv9, big (by omega), ?_⟩
            have tm := tu_upd (o := .lst (rv8 ++ [.ref ob])) hrv9 fun _ y => nomatch y
            exact ⟨_, _, _, hS9, Evl.Ex.mut e11 hG7r, by rw [upd_ne hwr]; exact hwk9, hpl, hwv9, ⟨_, upd_same, Paired.snoc (Paired.mono (fun _ _ => mNode _ _ _ _ tm) prv9) ⟨ob, rfl, tm _ _ hob9⟩⟩, ⟨_, by rw [upd_ne hrt.symm]; exact htv9, Paired.mono (fun _ _ => mNode _ _ _ _ tm) ptv9⟩, _, rfl⟩
          · have c : ¬ wa' o - 1 = 0 := fun y => c (decide_eq_true (by rw [y]))
            rw [if_neg c] at hS9
            exact ⟨_, _, _, hS9, e11, hwk9, hpl, hwv9, ⟨_, hrv9, prv9⟩, ⟨_, htv9, ptv9⟩, _, rfl⟩
        · rintro σ H8 ⟨ready', wa', wk', hS8, e10, hwk8, hwl8, hwv8, Lr8, Lt8, v6, rfl⟩
          rw [hosl, List.drop_length] at hS8
          exact ⟨_, _, _, _, by rw [List.length_append, List.length_singleton]; omega, hS8, eG7.trans e10, hwk8, by omega, hwv8, Lr8, Lt8, _, _, rfl⟩
end
end FR

set_option Elab.async false
set_option linter.all false
set_option maxRecDepth 100000
set_option maxHeartbeats 4000000
namespace FR
open PySem L2
section
variable {P : Program} {w : World} {K : PySem.W.Frag} {mg : Str → Option Value} {base : Heap}
/-! ### unsettled_beneath -/
theorem sc_unset : FnScope ["wood", "calm", "node", "way", "beneath"] ["wood", "calm", "node"] (defScope sUnset) := ⟨rfl, rfl, rfl, by decide +kernel, rfl, by decide +kernel, by decide +kernel⟩
def sp_unset (C : Addr) : Sp := fun vs H Q _ => ∃ (x cd : Addr) (p : Paths) (ck : List (Node × V)) (v : V) (n : Node), vs = [.ref x, .ref cd, v] ∧ WoodAt C H x p ∧ H cd = some (.dT ck) ∧ NodeAt H v n ∧ (∃ c ∈ chs p n, c ∉ ck.map (·.1)) ∧
  ∀ v' c H', Ex H H' → NodeAt H' v' c → c ∈ chs p n → c ∉ ck.map (·.1) → Q v' H'
theorem ok_unset {f fW C : Addr} {fd fdW : FuncData} {k : Nat} (F : Fun K "unsettled_beneath" "unsettled_beneath" sUnset f fd) (T : TW K mg C) (GW : FnM P w K mg base C "ways" k ["self", "node"] (sp_ways C) fW fdW) :
    FnOk P w K mg base CX0 (k + 1) f fd ["wood", "calm", "node"] (sp_unset C) := by
  refine F.ok sc_unset (fun vs H Q E h => ?_) (fun cdv A0 outer s H vs Q E hr h => ?_)
  · obtain ⟨x, cd, p, ck, v, n, rfl, _⟩ := h
    rfl
  · obtain ⟨x, cd, p, ck, v, n, rfl, hw, hcd, hn, ⟨c0, hc0, hc1⟩, q⟩ := h
    have hu := hu_of hr
    refine ⟨_, pss_cons (ps_for PassesOwn.never rfl (pi_list (pe_meth (pv 0) T.cl GW.m GW.ok hr GW.b .nil pass0 (pa_cons (pv 2) pa_nil))) (pg_name (i := 3) sc_unset.nd rfl (.inl rfl))
        (pss_one (ps_for PassesOwn.never rfl (pi_tup (pv 3)) (pg_name (i := 4) sc_unset.nd rfl (.inl rfl))
          (pss_one (ps_if (pt_cmp (pc_dnotin hu (pv 4) (pv 1))) (pss_one (ps_ret (pv 4))) pss_nil)))))
      (pss_one (ps_ret pe_non)), ?_⟩
    obtain ⟨dx, ra, z, pk, pd, hx, hP⟩ := id hw
    refine ⟨_, rfl, x, dx, _, rfl, hx, wF_ways _ _ _ _, _, rfl, x, p, v, n, rfl, hw, hn, fun l1 H1 e1 hl1 ⟨wv, hwv, pw⟩ => ?_⟩
    have hwl : wv.length = (wysOf p n).length := Paired.length pw
    refine ⟨l1, rfl, ⟨wv, sq hwv⟩, for_list (K := K) (xs := wv) (fun i σ H' => H' = H1 ∧ (∀ c ∈ ((wysOf p n).take i).flatten, c ∈ ck.map (·.1)) ∧ ∃ v3 v4, σ = [some (.ref x), some (.ref cd), some v, v3, v4])
      ⟨rfl, (fun _ y => nomatch y), none, none, rfl⟩ (fun i σ H' _ ⟨e, _⟩ => by rw [e]; exact sq hwv) ?_ ?_⟩
    · rintro i ww σ H2 hi ⟨rfl, hall, v3, v4, rfl⟩
      obtain ⟨w0, hw0, rw0⟩ := pr_get' pw hi
      obtain ⟨b, zs, rfl, hb, pz⟩ := rw0
      have hzl : zs.length = w0.length := Paired.length pz
      refine ⟨_, rfl, b, rfl, ⟨_, st hb⟩, for_tup (K := K) (xs := zs) (fun j σ H' => H' = H2 ∧ (∀ c ∈ w0.take j, c ∈ ck.map (·.1)) ∧ ∃ v4, σ = [some (.ref x), some (.ref cd), some v, some (.ref b), v4])
        ⟨rfl, (fun _ y => by rw [List.take_zero] at y; cases y), v4, rfl⟩ (fun j σ H' _ ⟨e, _⟩ => by rw [e]; exact st hb) ?_ ?_⟩
      · rintro j yy σ H3 hj ⟨rfl, hall2, v4, rfl⟩
        obtain ⟨c, hc, ⟨cb, rfl, hcb⟩⟩ := pr_get' pz hj
        refine ⟨_, rfl, _, rfl, cd, _, rfl, DGet.t (e1 _ _ hcd) hcb, _, rfl, ?_⟩
        by_cases hm : (valV ck c).isSome = true
        · rw [hm]
          refine iteF ⟨rfl, fun c' hc' => ?_, _, rfl⟩
          rw [List.take_add_one, hc] at hc'
          rcases List.mem_append.mp hc' with y | y
          · exact hall2 c' y
          · have y : c' = c := by simpa using y
            rw [y]
            exact (valV_mem _ _).mp hm
        · rw [Bool.eq_false_iff.mpr hm]
          refine iteT ⟨_, rfl, ?_⟩
          refine q _ c _ e1 ⟨cb, rfl, hcb⟩ ?_ fun y => hm ((valV_mem _ _).mpr y)
          exact List.mem_flatten.mpr ⟨w0, List.mem_of_getElem? hw0, List.mem_of_getElem? hc⟩
      · rintro σ H3 ⟨rfl, hall2, v4, rfl⟩
        rw [hzl, List.take_length] at hall2
        refine ⟨rfl, fun c hc => ?_, _, _, rfl⟩
        rw [prs_split hw0] at hc
        rcases List.mem_append.mp hc with y | y
        · exact hall c y
        · exact hall2 c y
    · rintro σ H2 ⟨rfl, hall, v3, v4, rfl⟩
      rw [hwl, List.take_length] at hall
      exact absurd (hall c0 hc0) hc1
/-! ### ring -/
theorem sc_ring : FnScope ["wood", "calm", "node", "loose", "path", "places"] ["wood"] (defScope sRing) := ⟨rfl, rfl, rfl, by decide +kernel, rfl, by decide +kernel, by decide +kernel⟩
def sp_ring (C : Addr) : Sp := fun vs H Q _ => ∃ (x : Addr) (p : Paths), vs = [.ref x] ∧ WoodAt C H x p ∧ WSz p ∧ (keysP p).Nodup ∧ (∀ e ∈ p, ∀ w ∈ e.2, ∀ c ∈ w, c ∈ keysP p) ∧
  (∀ told H', Ex H H' → SetOk p told → (∀ n ∈ keysP p, n ∈ told) → Q .non H') ∧ ∀ l told H', Ex H H' → SetOk p told → ¬ (∀ n ∈ keysP p, n ∈ told) → Q (.ref l) H'
theorem chs_cl {p : Paths} (nd : (keysP p).Nodup) (cl : ∀ e ∈ p, ∀ w ∈ e.2, ∀ c ∈ w, c ∈ keysP p) {n c : Node} (h : c ∈ chs p n) : c ∈ keysP p := by
  by_cases hn : n ∈ keysP p
  · obtain ⟨e, he, rfl, w, hw, hc⟩ := (Wy_chs nd).mpr ⟨hn, h⟩
    exact cl e he w hw c hc
  · rw [chs_none hn] at h
    cases h
theorem ok_ring {f fS fN fU C : Addr} {fd fdS fdN fdU : FuncData} {k : Nat} (F : Fun K "ring" "ring" sRing f fd) (U : Txt K mg) (T : TW K mg C) (GS : FnG P w K mg base "settled" k ["wood"] (sp_settled C) fS fdS)
    (GN : FnM P w K mg base C "nodes" k ["self"] (sp_nodes C) fN fdN) (GU : FnG P w K mg base "unsettled_beneath" k ["wood", "calm", "node"] (sp_unset C) fU fdU) : FnOk P w K mg base CX0 (k + 1) f fd ["wood"] (sp_ring C) := by
  refine F.ok sc_ring (fun vs H Q E h => ?_) (fun cdv A0 outer s H vs Q E hr h => ?_)
  · obtain ⟨x, p, rfl, _⟩ := h
    rfl
  · obtain ⟨x, p, rfl, hw, hz, nd, cl, q1, q2⟩ := h
    have hu := hu_of hr
    refine ⟨_, pss_cons (ps_set (i := 1) sc_ring.nd rfl (Or.inr rfl) pe_dnewT)
      (pss_cons (ps_for PassesOwn.never rfl (pi_list (pe_f GS hr (by rfl) (pa_cons (pv 0) pa_nil))) (pg_name (i := 2) sc_ring.nd rfl (.inl rfl)) (pss_one (ps_dput hu (pv 1) (pv 2) pe_bl rfl)))
      (pss_cons (ps_setLc (i := 3) (own := [("node", 2)]) (g := gName 2) rfl sc_ring.nd rfl rfl (sw_true rfl rfl rfl (by decide +kernel)) (pi_list (pe_meth0 (pv 0) T.cl GN.m GN.ok hr GN.b .nil pass0))
          (blkOk_by (own := [("node", 2)]) (N := ["wood", "calm", "node", "loose", "path", "places"]) (sc := defScope sRing) (by decide +kernel)) (fun _ _ _ _ _ => pg_name (i := 2) sc_ring.nd rfl (Or.inl rfl))
          (fun _ _ _ _ _ => pts_one (pt_cmp (pc_dnotin hu (pv 2) (pv 1)))) (fun _ _ _ _ _ => pv 2))
      (pss_cons (ps_if (pt_cmpR (op_eq0 hr.units0) (pv 3) (pe_lst pa_nil) (nomark _)) (pss_one (ps_ret pe_non)) pss_nil)
      (pss_cons (ps_set (i := 2) sc_ring.nd rfl (Or.inl rfl) (pe_ix ix_list (pv 3) pe_int (fun _ _ => rfl)))
      (pss_cons (ps_set (i := 4) sc_ring.nd rfl (Or.inl rfl) (pe_lst pa_nil))
      (pss_cons (ps_set (i := 5) sc_ring.nd rfl (Or.inl rfl) pe_dnewT)
      (pss_cons (ps_while PassesOwn.never (pt_cmp (pc_dnotin hu (pv 2) (pv 5)))
        (pss_cons (ps_dput hu (pv 5) (pv 2) (pe_callB call_len_seq (by rfl) U.len bt_len (pa_cons (pv 4) pa_nil)) rfl)
        (pss_cons (ps_expr (pe_bm PySem.F.plainAttrs_list PySem.F.slot_list_append PySem.F.type_list_append mt_append (pv 4) (pa_cons (pv 2) pa_nil)))
        (pss_one (ps_set (i := 2) sc_ring.nd rfl (Or.inl rfl) (pe_f GU hr (by rfl) (pa_cons (pv 0) (pa_cons (pv 1) (pa_cons (pv 2) pa_nil)))))))))
      (pss_one (ps_ret (pe_slice sl_list (pv 4) (po_some (pe_dget hu (pv 5) (pv 2) (fun _ _ => rfl))) po_none)))))))))), ?_⟩
    have hkl : (keysP p).length = p.length := List.length_map ..
    have hp2 := hz.few
    obtain ⟨dx, ra, z, pk, pd, hx, hP⟩ := id hw
    intro cd hcd
    have e1 : Ex H (upd H cd (.dT [])) := Evl.Ex.new hcd
    -- calm
    refine ⟨_, rfl, x, p, rfl, hw.ex e1, hz, nd, fun l1 told H2 e2 hl1 ⟨tv, htv, ptv⟩ hS => ?_⟩
    have htl : tv.length = told.length := Paired.length ptv
    have htp : told.length ≤ p.length := by rw [← hkl]; exact nodup_len hS.nd hS.sub
    have hcd2 : H2 cd = some (.dT []) := e2 _ _ upd_same
    have eG : Ex H (mns H2 [cd]) := mns_ex (e1.trans e2) fun c hc => by
      have hc : c = cd := by simpa using hc
      rw [hc]; exact hcd
    have hl1c : l1 ∉ [cd] := fun m => by
      have m : l1 = cd := by simpa using m
      rw [m, upd_same] at hl1; cases hl1
    have hGc : mns H2 [cd] cd = none := mns_no (by simp)
    have hGl : mns H2 [cd] l1 = some (.lst tv) := mns_of htv hl1c
    have tG : Tu H2 (mns H2 [cd]) := fun b xs hb => mns_of hb fun m => by
      have m : b = cd := by simpa using m
      rw [m, hcd2] at hb; cases hb
    have ptvG := Paired.mono (fun _ _ => mNode _ _ _ _ tG) ptv
    have hGto : Ex (mns H2 [cd]) H2 := mns_to _ _
    generalize mns H2 [cd] = G at eG hGc hGl tG ptvG hGto
    refine ⟨l1, rfl, ⟨tv, sq htv⟩, for_list (K := K) (xs := tv) (fun i σ H' => Ex G H' ∧ (∃ ck, H' cd = some (.dT ck) ∧ ck.length ≤ i ∧ ∀ n, n ∈ ck.map (·.1) ↔ n ∈ told.take i) ∧ ∃ v2, σ = [some (.ref x), some (.ref cd), v2, none, none, none])
      ⟨hGto, ⟨[], hcd2, Nat.le_refl _, fun n => Iff.rfl⟩, none, rfl⟩ (fun i σ H' _ ⟨e, _⟩ => sq (e _ _ hGl)) ?_ ?_⟩
    · rintro i xx σ H3 hi ⟨e3, ⟨ck, hck, hcl, hcm⟩, v2, rfl⟩
      obtain ⟨n, hn, rn⟩ := pr_get' ptvG hi
      obtain ⟨a, rfl, ha⟩ := mNode _ _ _ _ (tu_ex e3) rn
      have hil := (List.getElem?_eq_some_iff.mp hn).1
      refine ⟨_, rfl, _, rfl, cd, _, rfl, DPut.t hck ha (big (by omega)), Evl.Ex.mut e3 hGc, ⟨_, upd_same, Nat.le_trans (length_putK _ _ _) (by omega), fun n' => ?_⟩, _, rfl⟩
      rw [← valV_mem, valV_put, List.take_add_one, hn]
      by_cases e : n' = n
      · rw [if_pos e, e]
        simp
      · rw [if_neg e, valV_mem, hcm]
        simp [e]
    · rintro σ H3 ⟨e3, ⟨ck, hck, hcl, hcm⟩, v2, rfl⟩
      rw [htl, List.take_length] at hcm
      -- loose
      have eH3 := eG.trans e3
      refine ⟨_, rfl, x, dx, _, rfl, eH3 _ _ hx, wF_nodes _ _ _ _, x, p, rfl, hw.ex eH3, fun l2 H4 e4 hl2 ⟨nv, hnv, pn⟩ => ?_⟩
      have hnl : nv.length = (keysP p).length := Paired.length pn
      have hck4 := e4 _ _ hck
      refine ⟨l2, rfl, ⟨nv, sq hnv⟩, fun D hD => ?_⟩
      refine lc_list (K := K) (xs := nv) (fun i H' => Ex H4 H' ∧ ∃ ls, LstAt NodeAt H' D ls ∧ ls.length ≤ i ∧ (∀ n ∈ ls, n ∈ keysP p ∧ n ∉ told) ∧ ∀ n ∈ (keysP p).take i, n ∉ told → n ∈ ls)
        ⟨Evl.Ex.new hD, [], LstAt.nil, Nat.le_refl _, (fun _ y => nomatch y), fun _ y => by rw [List.take_zero] at y; cases y⟩ (fun i H' _ ⟨e, _⟩ => sq (e _ _ hnv)) ?_ ?_
      · rintro i xx H5 hi ⟨e5, ls, ⟨lv, hlv, plv⟩, hll, hl1', hl2'⟩
        obtain ⟨n, hn, rn⟩ := pr_get' pn hi
        obtain ⟨a, rfl, ha⟩ := mNode _ _ _ _ (tu_ex e5) rn
        have hil := (List.getElem?_eq_some_iff.mp hn).1
        refine ⟨rfl, _, rfl, _, rfl, cd, _, rfl, DGet.t (e5 _ _ hck4) ha, _, rfl, ?_⟩
        by_cases hm : (valV ck n).isSome = true
        · rw [hm]
          refine iteF ⟨e5, ls, ⟨lv, hlv, plv⟩, by omega, hl1', fun n' hn' hnt => ?_⟩
          rw [List.take_add_one, hn] at hn'
          rcases List.mem_append.mp hn' with y | y
          · exact hl2' n' y hnt
          · have y : n' = n := by simpa using y
            subst y
            exact absurd ((hcm n').mp ((valV_mem _ _).mp hm)) hnt
        · rw [Bool.eq_false_iff.mpr hm]
          refine iteT ⟨_, rfl, lv, hlv, ?_, Evl.Ex.mut e5 hD, ls ++ [n], ?_, ?_, ?_, ?_⟩
          · rw [Paired.length plv]; exact big (by omega)
          · have tm := tu_upd (o := .lst (lv ++ [.ref a])) hlv fun _ y => nomatch y
            exact ⟨_, upd_same, Paired.snoc (Paired.mono (fun _ _ => mNode _ _ _ _ tm) plv) ⟨a, rfl, tm _ _ ha⟩⟩
          · rw [List.length_append, List.length_singleton]; omega
          · intro n' hn'
            rcases List.mem_append.mp hn' with y | y
            · exact hl1' n' y
            · have y : n' = n := by simpa using y
              subst y
              exact ⟨List.mem_of_getElem? hn, fun y => hm ((valV_mem _ _).mpr ((hcm n').mpr y))⟩
          · intro n' hn' hnt
            rw [List.take_add_one, hn] at hn'
            rcases List.mem_append.mp hn' with y | y
            · exact List.mem_append.mpr (.inl (hl2' n' y hnt))
            · exact List.mem_append.mpr (.inr (by simpa using y))
      · rintro H5 ⟨e5, ls, ⟨lv, hlv, plv⟩, hll, hl1', hl2'⟩
        rw [hnl, List.take_length] at hl2'
        have eH5 := eH3.trans (e4.trans e5)
        refine ⟨_, rfl, Nat.zero_le _, fun p0 hp0 => ?_⟩
        have e6 : Ex H5 (upd H5 p0 (.lst [])) := Evl.Ex.new hp0
        refine ⟨D, p0, lv, rfl, rfl, sq (e6 _ _ hlv), sq upd_same, _, rfl, ?_⟩
        cases hem : lv.isEmpty with
        | true =>
          refine iteT ?_
          have hle : ls = [] := pr_nil plv hem
          refine q1 told _ (eH5.trans e6) hS fun n hn => Classical.byContradiction fun hnt => ?_
          have := hl2' n hn hnt
          rw [hle] at this
          cases this
        | false =>
          refine iteF ?_
          have hle : ls ≠ [] := pr_nil' plv hem
          obtain ⟨n0, ls', rfl⟩ := List.exists_cons_of_ne_nil hle
          obtain ⟨v0, hv0, ⟨a0, rfl, ha0⟩⟩ := pr_get (i := 0) (y := n0) plv rfl
          obtain ⟨hn0k, hn0t⟩ := hl1' n0 (List.mem_cons_self ..)
          have hnot : ¬ (∀ n ∈ keysP p, n ∈ told) := fun y => hn0t (y n0 hn0k)
          refine ⟨_, rfl, D, lv, 0, _, rfl, rfl, sq (e6 _ _ hlv), atI_nat (j := 0) hv0, Nat.zero_le _, fun pa hpa => ?_⟩
          have e7 := e6.trans (Evl.Ex.new (o := .lst []) hpa)
          intro pl hpl
          have e8 := e7.trans (Evl.Ex.new (o := .dT []) hpl)
          have hpal : pa ≠ pl := fun e => by rw [← e, upd_same] at hpl; cases hpl
          have hpa5 : H5 pa = none := Evl.fresh_back e6 hpa
          have hpl5 : H5 pl = none := Evl.fresh_back e7 hpl
          -- the path
          refine ⟨fun m σ H' => ∃ path plk n a, m = p.length - path.length ∧ Ex H5 H' ∧ LstAt NodeAt H' pa path ∧ H' pl = some (.dT plk) ∧ plk.length ≤ path.length ∧ path.Nodup ∧ (∀ n ∈ path, n ∈ keysP p) ∧ (∀ n, (valV plk n).isSome = true ↔ n ∈ path) ∧ (∀ n ∈ path, ∃ i : Int, valV plk n = some (.int i)) ∧
              n ∈ keysP p ∧ n ∉ told ∧ H' a = some (.tup (n.map kV)) ∧ σ = [some (.ref x), some (.ref cd), some (.ref a), some (.ref D), some (.ref pa), some (.ref pl)],
            ⟨_, [], [], n0, a0, rfl, e8, ⟨[], by rw [upd_ne hpal, upd_same], .nil⟩, upd_same, Nat.le_refl _, List.nodup_nil, (fun _ y => nomatch y), (fun n => by simp [valV]), (fun _ y => nomatch y), hn0k, hn0t, e8 _ _ ha0, rfl⟩, ?_⟩
          rintro m σ H6 ⟨path, plk, n, a, rfl, e9, ⟨pv', hpv, ppv⟩, hplk, hpll, hpn, hpk, hpm, hpi, hnk, hnt, ha, rfl⟩
          refine ⟨_, rfl, _, rfl, pl, _, rfl, DGet.t hplk ha, _, rfl, ?_⟩
          have hpvl : pv'.length = path.length := Paired.length ppv
          by_cases hm : (valV plk n).isSome = true
          · rw [hm]
            refine iteF ?_
            obtain ⟨i, hi⟩ := hpi n ((hpm n).mp hm)
            have hdg := DGet.t (k := n) hplk ha
            rw [hi] at hdg
            refine ⟨_, rfl, _, rfl, _, rfl, pl, _, rfl, hdg, i, rfl, pa, pv', rfl, sq hpv, fun l3 hl3 => ?_⟩
            exact q2 l3 told _ ((eH5.trans e9).trans (Evl.Ex.new hl3)) hS hnot
          · rw [Bool.eq_false_iff.mpr hm]
            have hnp : n ∉ path := fun y => hm ((hpm n).mpr y)
            have hpn' : (path ++ [n]).Nodup := List.nodup_append.mpr ⟨hpn, by simp, fun a1 h1 b1 h2 e => by
              have h3 : b1 = n := by simpa using h2
              exact hnp (by rw [← h3, ← e]; exact h1)⟩
            have hpk' : ∀ n' ∈ path ++ [n], n' ∈ keysP p := fun n' hn' => by
              rcases List.mem_append.mp hn' with y | y
              · exact hpk n' y
              · have y : n' = n := by simpa using y
                rw [y]; exact hnk
            have hlen := nodup_len hpn' hpk'
            rw [List.length_append, List.length_singleton] at hlen
            refine iteT ⟨fun σ' H' => ∃ path' plk' n' a', p.length - path'.length < p.length - path.length ∧ Ex H5 H' ∧ LstAt NodeAt H' pa path' ∧ H' pl = some (.dT plk') ∧ plk'.length ≤ path'.length ∧ path'.Nodup ∧ (∀ n ∈ path', n ∈ keysP p) ∧ (∀ n, (valV plk' n).isSome = true ↔ n ∈ path') ∧ (∀ n ∈ path', ∃ i : Int, valV plk' n = some (.int i)) ∧
              n' ∈ keysP p ∧ n' ∉ told ∧ H' a' = some (.tup (n'.map kV)) ∧ σ' = [some (.ref x), some (.ref cd), some (.ref a'), some (.ref D), some (.ref pa), some (.ref pl)],
              fun σ' H' ⟨a1, a2, a3, a4, h1, h2⟩ => ⟨_, h1, a1, a2, a3, a4, rfl, h2⟩, ?_⟩
            refine ⟨_, rfl, pa, pv', rfl, .inl (sq hpv), _, rfl, _, rfl, pl, _, rfl, DPut.t hplk ha (big (by omega)), ?_⟩
            have hpv7 : (upd H6 pl (.dT (putK plk n (.int (pv'.length : Int))))) pa = some (.lst pv') := by rw [upd_ne hpal]; exact hpv
            refine ⟨_, rfl, .inl ⟨rfl, _, sq hpv7⟩, _, rfl, pa, pv', _, rfl, rfl, hpv7, big (by omega), ?_⟩
            have e10 : Ex H5 (upd (upd H6 pl (.dT (putK plk n (.int (pv'.length : Int))))) pa (.lst (pv' ++ [.ref a]))) := Evl.Ex.mut (Evl.Ex.mut e9 hpl5) hpa5
            have t10 : Tu H6 (upd (upd H6 pl (.dT (putK plk n (.int (pv'.length : Int))))) pa (.lst (pv' ++ [.ref a]))) := (tu_upd hplk fun _ y => nomatch y).trans (tu_upd hpv7 fun _ y => nomatch y)
            have L10 : LstAt NodeAt (upd (upd H6 pl (.dT (putK plk n (.int (pv'.length : Int))))) pa (.lst (pv' ++ [.ref a]))) pa (path ++ [n]) := ⟨_, upd_same, Paired.snoc (Paired.mono (fun _ _ => mNode _ _ _ _ t10) ppv) ⟨a, rfl, t10 _ _ ha⟩⟩
            have hplk10 : (upd (upd H6 pl (.dT (putK plk n (.int (pv'.length : Int))))) pa (.lst (pv' ++ [.ref a]))) pl = some (.dT (putK plk n (.int (pv'.length : Int)))) := by rw [upd_ne hpal.symm, upd_same]
            have ha10 := t10 _ _ ha
            generalize upd (upd H6 pl (.dT (putK plk n (.int (pv'.length : Int))))) pa (.lst (pv' ++ [.ref a])) = H7 at e10 t10 L10 hplk10 ha10
            -- an unsettled node of its ways
            have hex : ∃ c ∈ chs p n, c ∉ ck.map (·.1) := Classical.byContradiction fun y => hnt (hS.full n hnk fun c hc => Classical.byContradiction fun y2 => y ⟨c, ((Wy_chs nd).mp hc).2, fun y3 => y2 ((hcm c).mp y3)⟩)
            have hck5 := e5 _ _ hck4
            refine ⟨_, rfl, _, rfl, _, rfl, x, cd, p, ck, _, n, rfl, hw.ex (eH5.trans e10), e10 _ _ hck5, ⟨a, rfl, ha10⟩, hex, fun v' c H8 e11 rc hc1 hc2 => ?_⟩
            obtain ⟨a', rfl, ha'⟩ := rc
            refine ⟨path ++ [n], _, c, a', by rw [List.length_append, List.length_singleton]; omega, e10.trans e11, L10.ex mNode e11, e11 _ _ hplk10, ?_, hpn', hpk', fun n' => ?_, fun n' hn' => ?_, chs_cl nd cl hc1, fun y => hc2 ((hcm c).mpr y), ha', rfl⟩
            · have := length_putK plk n (V.int (pv'.length : Int))
              rw [List.length_append, List.length_singleton]
              omega
            · rw [valV_put]
              by_cases e : n' = n
              · rw [if_pos e, e]
                simp
              · rw [if_neg e, hpm]
                simp [e]
            · rw [valV_put]
              by_cases e : n' = n
              · rw [if_pos e]
                exact ⟨_, rfl⟩
              · rw [if_neg e]
                exact hpi n' ((List.mem_append.mp hn').resolve_right fun y => e (by simpa using y))
end
end FR

set_option Elab.async false
set_option linter.all false
set_option maxRecDepth 100000
set_option maxHeartbeats 4000000
namespace FR
open PySem L2
section
variable {P : Program} {w : World} {K : PySem.W.Frag} {mg : Str → Option Value} {base : Heap}
/-! ### cells -/
theorem sc_cell : FnScope ["_law_script", "_law_k"] ["_law_script", "_law_k"] (defScope sCell) := ⟨rfl, rfl, rfl, by decide +kernel, rfl, by decide +kernel, by decide +kernel⟩
def sp_cell (K : PySem.W.Frag) : Sp := fun vs H Q _ => ∃ (a : Addr) (ns : List Int) (k : Nat), vs = [.ref a, .int (k : Int)] ∧ SqL K H a (ns.map V.int) ∧ ∀ i : Int, Q (.int i) H
theorem ok_cell {f : Addr} {fd : FuncData} {k : Nat} (F : Fun K "_law_cell_at" "_law_cell_at" sCell f fd) (U : Txt K mg) : FnOk P w K mg base CX0 (k + 1) f fd ["_law_script", "_law_k"] (sp_cell K) := by
  refine F.ok sc_cell (fun vs H Q E h => ?_) (fun cdv A0 outer s H vs Q E hr h => ?_)
  · obtain ⟨a, ns, k, rfl, _⟩ := h
    rfl
  · obtain ⟨a, ns, k, rfl, hS, q⟩ := h
    refine ⟨_, pss_cons (ps_if (pt_cmpR op_lt (pv 1) (pe_callB call_len_seq (by rfl) U.len bt_len (pa_cons (pv 0) pa_nil)) (nomark _)) (pss_one (ps_ret (pe_ix ix_list (pv 0) (pv 1) (fun _ _ => rfl)))) pss_nil) (pss_one (ps_ret pe_int)), ?_⟩
    refine ⟨_, rfl, _, rfl, a, _, rfl, .inl hS, _, _, rfl, rfl, _, rfl, ite2 (fun c => ?_) (fun c => ?_)⟩
    · have c := of_decide_eq_true c
      rw [List.length_map] at c
      have hk : k < ns.length := by omega
      have hv : (ns.map V.int)[k]? = some (.int ns[k]) := by rw [List.getElem?_map, List.getElem?_eq_getElem hk]; rfl
      exact ⟨_, rfl, _, rfl, a, _, _, _, rfl, rfl, hS, atI_nat hv, q _⟩
    · exact q _
theorem sc_mixed : FnScope ["_law_script", "_law_k", "_law_cell"] ["_law_script", "_law_k"] (defScope sMixed) := ⟨rfl, rfl, rfl, by decide +kernel, rfl, by decide +kernel, by decide +kernel⟩
def sp_mixed (K : PySem.W.Frag) : Sp := fun vs H Q _ => ∃ (a : Addr) (ns : List Int) (k : Nat), vs = [.ref a, .int (k : Int)] ∧ SqL K H a (ns.map V.int) ∧ k ≤ 100 ∧ ∀ i : Int, 0 ≤ i → i < 2147483647 → Q (.int i) H
theorem ok_mixed {f fC : Addr} {fd fdC : FuncData} {k : Nat} (F : Fun K "_law_mixed" "_law_mixed" sMixed f fd) (GC : FnG P w K mg base "_law_cell_at" k ["_law_script", "_law_k"] (sp_cell K) fC fdC) : FnOk P w K mg base CX0 (k + 1) f fd ["_law_script", "_law_k"] (sp_mixed K) := by
  refine F.ok sc_mixed (fun vs H Q E h => ?_) (fun cdv A0 outer s H vs Q E hr h => ?_)
  · obtain ⟨a, ns, k, rfl, _⟩ := h
    rfl
  · obtain ⟨a, ns, k, rfl, hS, hk, q⟩ := h
    refine ⟨_, pss_cons (ps_set (i := 2) sc_mixed.nd rfl (Or.inl rfl) (pe_op op_mod (pe_f GC hr (by rfl) (pa_cons (pv 0) (pa_cons (pv 1) pa_nil))) pe_int))
      (pss_one (ps_ret (pe_op op_mod (pe_op op_mul (pe_op op_add (pe_op op_add (pe_op op_add (pe_op op_mul (pv 2) (pv 2)) (pv 2)) (pe_op op_mul (pe_op op_mul pe_int (pv 1)) (pv 1))) pe_int) pe_int) pe_int))), ?_⟩
    refine ⟨_, rfl, _, rfl, a, ns, k, rfl, hS, fun i => ⟨_, _, rfl, rfl, (by show (0 : Int) < 2147483629; decide), ?_⟩⟩
    have h0 := Int.emod_nonneg i (show (2147483629 : Int) ≠ 0 by decide)
    have h1 := Int.emod_lt_of_pos i (show (0 : Int) < 2147483629 by decide)
    generalize i % 2147483629 = c at h0 h1
    refine ⟨_, rfl, _, rfl, _, _, rfl, rfl, .inl ⟨by omega, by omega⟩, _, rfl, _, _, rfl, rfl, _, rfl, _, _, rfl, rfl, .inl ⟨by omega, by omega⟩, _, rfl, _, _, rfl, rfl, .inr ⟨by omega, by omega⟩, _, _, rfl, rfl, _, _, rfl, rfl, _, _, rfl, rfl, .inr ⟨by decide, by decide⟩, _, _, rfl, rfl, (by show (0 : Int) < 2147483647; decide), ?_⟩
    exact q _ (Int.emod_nonneg _ (by decide)) (Int.emod_lt_of_pos _ (by decide))
/-! ### signs -/
def abc : Str := Str.ofString " !\"#$&'()*+,-./0123456789:;<=>?@ABCDEFGHIJKLMNOPQRSTUVWXYZ[\\]^_`" ++ Str.ofString "abcdefghijklmnopqrstuvwxyz{|}~"
theorem abc_ok : abc.cps.toList.all okC = true := by decide +kernel
theorem abc_len : abc.length = 94 := by decide +kernel
theorem abc_at {i : Int} (h0 : 0 ≤ i) (h1 : i < 94) : ∃ c, atI abc.cps.toList i = some c ∧ okC c = true := by
  obtain ⟨j, rfl⟩ := Int.eq_ofNat_of_zero_le h0
  have hl : abc.cps.toList.length = 94 := abc_len
  have hj : j < abc.cps.toList.length := by omega
  exact ⟨_, atI_nat (List.getElem?_eq_getElem hj), List.all_eq_true.mp abc_ok _ (List.getElem_mem hj)⟩
theorem sc_signs : FnScope ["_law_cell", "_law_some"] ["_law_cell"] (defScope sSigns) := ⟨rfl, rfl, rfl, by decide +kernel, rfl, by decide +kernel, by decide +kernel⟩
def sp_signs : Sp := fun vs H Q _ => ∃ i : Int, vs = [.int i] ∧ ∀ (l : Addr) (H' : Hp) (cs : List Nat), Ex H H' → H l = none → H' l = some (.lst (cs.map fun c => V.str ⟨#[c]⟩)) → cs.length = 3 → (∀ c ∈ cs, okC c = true) → Q (.ref l) H'
theorem ok_signs {f : Addr} {fd : FuncData} {k : Nat} (F : Fun K "_law_signs" "_law_signs" sSigns f fd) : FnOk P w K mg base CX0 (k + 1) f fd ["_law_cell"] sp_signs := by
  refine F.ok sc_signs (fun vs H Q E h => ?_) (fun cdv A0 outer s H vs Q E hr h => ?_)
  · obtain ⟨i, rfl, _⟩ := h
    rfl
  · obtain ⟨i, rfl, q⟩ := h
    refine ⟨_, pss_cons (ps_set (i := 1) sc_signs.nd rfl (Or.inl rfl) pe_str) (pss_cons (ps_set (i := 1) sc_signs.nd rfl (Or.inl rfl) (pe_op op_add_str (pv 1) pe_str))
      (pss_one (ps_ret (pe_lst (pa_cons (pe_ix ix_str (pv 1) (pe_op op_mod (pv 0) pe_int) (fun _ _ => rfl))
        (pa_cons (pe_ix ix_str (pv 1) (pe_op op_mod (pe_op op_add (pe_op op_add (pv 0) pe_int) (pe_op op_mod (pe_op op_fdiv (pv 0) pe_int) pe_int)) pe_int) (fun _ _ => rfl))
        (pa_cons (pe_ix ix_str (pv 1) (pe_op op_mod (pe_op op_add (pe_op op_add (pv 0) pe_int) (pe_op op_mod (pe_op op_fdiv (pv 0) pe_int) pe_int)) pe_int) (fun _ _ => rfl)) pa_nil))))))), ?_⟩
    refine ⟨_, rfl, _, _, rfl, rfl, (by decide +kernel), ?_⟩
    have p94 : (0 : Int) < 94 := by decide
    have hz : abc.length ≤ sizeLine := small100 (by rw [abc_len]; decide)
    obtain ⟨c1, a1, o1⟩ := abc_at (Int.emod_nonneg i (show (94 : Int) ≠ 0 by decide)) (Int.emod_lt_of_pos i p94)
    obtain ⟨c2, a2, o2⟩ := abc_at (Int.emod_nonneg (i + 1 + i / 94 % 46) (show (94 : Int) ≠ 0 by decide)) (Int.emod_lt_of_pos (i + 1 + i / 94 % 46) p94)
    obtain ⟨c3, a3, o3⟩ := abc_at (Int.emod_nonneg (i + 47 + i / 4324 % 46) (show (94 : Int) ≠ 0 by decide)) (Int.emod_lt_of_pos (i + 47 + i / 4324 % 46) p94)
    refine ⟨_, rfl, _, rfl, _, _, rfl, rfl, p94, abc, _, c1, rfl, rfl, hz, a1, ?_⟩
    refine ⟨_, rfl, _, rfl, _, _, rfl, rfl, _, rfl, _, _, rfl, rfl, ⟨by decide, by decide⟩, _, _, rfl, rfl, (by show (0 : Int) < 46; decide), _, _, rfl, rfl, _, _, rfl, rfl, p94, abc, _, c2, rfl, rfl, hz, a2, ?_⟩
    refine ⟨_, rfl, _, rfl, _, _, rfl, rfl, _, rfl, _, _, rfl, rfl, ⟨by decide, by decide⟩, _, _, rfl, rfl, (by show (0 : Int) < 46; decide), _, _, rfl, rfl, _, _, rfl, rfl, p94, abc, _, c3, rfl, rfl, hz, a3, ?_⟩
    refine ⟨(by show 3 ≤ sizeLine; decide), fun l hl => ?_⟩
    refine q l _ [c1, c2, c3] (Evl.Ex.new hl) hl upd_same rfl fun c hc => ?_
    rcases List.mem_cons.mp hc with e | hc
    · rw [e]; exact o1
    · rcases List.mem_cons.mp hc with e | hc
      · rw [e]; exact o2
      · have e : c = c3 := by simpa using hc
        rw [e]; exact o3
/-! ### worths -/
theorem sc_worth : FnScope ["_law_cell"] ["_law_cell"] (defScope sWorth) := ⟨rfl, rfl, rfl, by decide +kernel, rfl, by decide +kernel, by decide +kernel⟩
def sp_worth : Sp := fun vs H Q _ => ∃ i : Int, vs = [.int i] ∧ ∀ j : Int, 0 ≤ j → j ≤ 10 ^ 60 → Q (.int j) H
theorem ok_worth {f : Addr} {fd : FuncData} {k : Nat} (F : Fun K "_law_worth" "_law_worth" sWorth f fd) : FnOk P w K mg base CX0 (k + 1) f fd ["_law_cell"] sp_worth := by
  refine F.ok sc_worth (fun vs H Q E h => ?_) (fun cdv A0 outer s H vs Q E hr h => ?_)
  · obtain ⟨i, rfl, _⟩ := h
    rfl
  · obtain ⟨i, rfl, q⟩ := h
    refine ⟨_, pss_cons (ps_if (pt_cmpR op_eq (pe_op op_mod (pv 0) pe_int) pe_int (nomark _)) (pss_one (ps_ret (pe_op op_mod (pe_op op_fdiv (pv 0) pe_int) (pe_op op_add (pe_op op_pow pe_int pe_int) pe_int)))) pss_nil)
      (pss_one (ps_ret (pe_op op_mod (pe_op op_fdiv (pv 0) pe_int) pe_int))), ?_⟩
    have p61 : (0 : Int) < 10 ^ (60 : Int).toNat + 1 := by decide
    refine ⟨_, rfl, _, _, rfl, rfl, (by show (0 : Int) < 3; decide), rfl, _, rfl, ite2 (fun c => ?_) (fun c => ?_)⟩
    · refine ⟨_, rfl, _, _, rfl, rfl, ⟨by decide, by decide⟩, _, _, rfl, rfl, ⟨by decide, by decide, by decide⟩, _, _, rfl, rfl, _, _, rfl, rfl, p61, ?_⟩
      refine q _ (Int.emod_nonneg _ (by omega)) ?_
      have := Int.emod_lt_of_pos (i / 3) p61
      have e : (10 : Int) ^ (60 : Int).toNat + 1 = 10 ^ 60 + 1 := by decide
      rw [e] at this
      show i / 3 % (10 ^ (60 : Int).toNat + 1) ≤ 10 ^ 60
      rw [e]
      omega
    · refine ⟨_, rfl, _, _, rfl, rfl, ⟨by decide, by decide⟩, _, _, rfl, rfl, (by show (0 : Int) < 4; decide), ?_⟩
      have h1 := Int.emod_nonneg (i / 3) (show (4 : Int) ≠ 0 by decide)
      have h2 := Int.emod_lt_of_pos (i / 3) (show (0 : Int) < 4 by decide)
      exact q _ h1 (by have : (4 : Int) ≤ 10 ^ 60 := by decide
                       omega)
end
end FR

set_option Elab.async false
set_option linter.all false
set_option maxRecDepth 100000
set_option maxHeartbeats 4000000
namespace FR
open PySem L2
section
variable {P : Program} {w : World} {K : PySem.W.Frag} {mg : Str → Option Value} {base : Heap}
/-! ### names -/
def Up (z : Str) : Prop := ∀ c ∈ z.cps.toList, 65 ≤ c ∧ c ≤ 90
theorem Up.app {a b : Str} (ha : Up a) (hb : Up b) : Up (a ++ b) := by
  intro c hc
  have e : (a ++ b).cps.toList = a.cps.toList ++ b.cps.toList := by
    show (a.cps ++ b.cps).toList = _
    rw [Array.toList_append]
  rw [e, List.mem_append] at hc
  exact hc.elim (ha c) (hb c)
theorem app_len (a b : Str) : (a ++ b).length = a.length + b.length := by
  show (a.cps ++ b.cps).size = _
  rw [Array.size_append]
  rfl
theorem Up.cut {a : Str} (ha : Up a) (lo hi : Option Int) : Up (cutS a lo hi) := by
  intro c hc
  have hc : c ∈ (a.cps.toList.drop (HT.sIx a.length 0 lo)).take (HT.sIx a.length a.length hi - HT.sIx a.length 0 lo) := hc
  exact ha c (List.mem_of_mem_drop (List.mem_of_mem_take hc))
theorem Up.one {c : Nat} (h : 65 ≤ c ∧ c ≤ 90) : Up ⟨#[c]⟩ := by
  intro d hd
  have : d ∈ [c] := hd
  rw [List.mem_singleton] at this
  rw [this]
  exact h
theorem cut_len1 {a : Str} {k : Nat} (h : k ≤ a.length) : (cutS a none (some (k : Int))).length = k := by
  show ((a.cps.toList.drop (HT.sIx a.length 0 none)).take (HT.sIx a.length a.length (some (k : Int)) - HT.sIx a.length 0 none)).toArray.size = k
  rw [HT.sIx_nat, HT.sIx_none, List.size_toArray, List.length_take, List.length_drop]
  have : a.cps.toList.length = a.length := rfl
  omega
theorem cut_len2 {a : Str} {k : Nat} (h : k ≤ a.length) : (cutS a (some (k : Int)) none).length = a.length - k := by
  show ((a.cps.toList.drop (HT.sIx a.length 0 (some (k : Int)))).take (HT.sIx a.length a.length none - HT.sIx a.length 0 (some (k : Int)))).toArray.size = a.length - k
  rw [HT.sIx_nat, HT.sIx_none, List.size_toArray, List.length_take, List.length_drop]
  have : a.cps.toList.length = a.length := rfl
  omega
theorem mul_list (z : Str) (n : Nat) : (List.foldl (fun x1 x2 => x1 ++ x2) (#[] : Array Nat) (List.replicate n z.cps)).toList = (List.replicate n z.cps.toList).flatten := by
  have : ∀ (n : Nat) (acc : Array Nat), (List.foldl (fun x1 x2 => x1 ++ x2) acc (List.replicate n z.cps)).toList = acc.toList ++ (List.replicate n z.cps.toList).flatten := by
    intro n
    induction n with
    | zero => intro acc; simp
    | succ n ih =>
      intro acc
      rw [List.replicate_succ, List.foldl_cons, ih, List.replicate_succ, List.flatten_cons, Array.toList_append, List.append_assoc]
  rw [this]
  rfl
theorem mul_nm {c : Nat} (h : 65 ≤ c ∧ c ≤ 90) {n : Int} (h0 : 1 ≤ n) (h1 : n ≤ 8) : isNm (Txt.mul ⟨#[c]⟩ n) := by
  obtain ⟨m, rfl⟩ := Int.eq_ofNat_of_zero_le (show 0 ≤ n by omega)
  have e : (Txt.mul ⟨#[c]⟩ ((m : Nat) : Int)).cps.toList = List.replicate m c := by
    have hm : m = 1 ∨ m = 2 ∨ m = 3 ∨ m = 4 ∨ m = 5 ∨ m = 6 ∨ m = 7 ∨ m = 8 := by omega
    rcases hm with e | e | e | e | e | e | e | e <;> subst e <;> rfl
  have el : (Txt.mul ⟨#[c]⟩ ((m : Nat) : Int)).length = m := by
    show (Txt.mul ⟨#[c]⟩ ((m : Nat) : Int)).cps.toList.length = m
    rw [e, List.length_replicate]
  refine ⟨by omega, by omega, fun d hd => ?_⟩
  rw [e] at hd
  rw [List.eq_of_mem_replicate hd]
  exact h
theorem isNm.of {z : Str} (h1 : 1 ≤ z.length) (h2 : z.length ≤ 8) (h : Up z) : isNm z := ⟨h1, h2, h⟩
def big26 : Str := Str.ofString "ABCDEFGHIJKLMNOPQRSTUVWXYZ"
theorem big_at {i : Int} (h0 : 0 ≤ i) (h1 : i < 26) : ∃ c, atI big26.cps.toList i = some c ∧ 65 ≤ c ∧ c ≤ 90 := by
  obtain ⟨j, rfl⟩ := Int.eq_ofNat_of_zero_le h0
  have hl : big26.cps.toList.length = 26 := by decide +kernel
  have hj : j < big26.cps.toList.length := by omega
  have ho : big26.cps.toList.all (fun c => decide (65 ≤ c) && decide (c ≤ 90)) = true := by decide +kernel
  have := List.all_eq_true.mp ho _ (List.getElem_mem hj)
  rw [Bool.and_eq_true] at this
  exact ⟨_, atI_nat (List.getElem?_eq_getElem hj), of_decide_eq_true this.1, of_decide_eq_true this.2⟩
theorem sc_names : FnScope ["_law_cell", "_law_big", "_law_odd", "_law_k", "_law_base", "_law_at"] ["_law_cell"] (defScope sNames) := ⟨rfl, rfl, rfl, by decide +kernel, rfl, by decide +kernel, by decide +kernel⟩
def sp_names : Sp := fun vs H Q _ => ∃ i : Int, vs = [.int i] ∧ ∀ (l : Addr) (H' : Hp) (ns : List Str), Ex H H' → H l = none → H' l = some (.lst (ns.map V.str)) → ns.length = 4 → (∀ z ∈ ns, isNm z) → Q (.ref l) H'
theorem ok_names {f : Addr} {fd : FuncData} {k : Nat} (F : Fun K "_law_names" "_law_names" sNames f fd) (U : Txt K mg) : FnOk P w K mg base CX0 (k + 1) f fd ["_law_cell"] sp_names := by
  refine F.ok sc_names (fun vs H Q E h => ?_) (fun cdv A0 outer s H vs Q E hr h => ?_)
  · obtain ⟨i, rfl, _⟩ := h
    rfl
  · obtain ⟨i, rfl, q⟩ := h
    refine ⟨_, pss_cons (ps_set (i := 1) sc_names.nd rfl (Or.inr rfl) pe_str)
      (pss_cons (ps_set (i := 2) sc_names.nd rfl (Or.inr rfl) (pe_op op_mod (pv 0) pe_int))
      (pss_cons (ps_set (i := 0) sc_names.nd rfl (Or.inl rfl) (pe_op op_fdiv (pv 0) pe_int))
      (pss_cons (ps_if (pt_cmpR op_eq (pe_op op_mod (pv 0) pe_int) pe_int (nomark _)) (pss_one (ps_ret
          (pe_lc (own := [("_law_k", 3)]) (g := gName 3) (tt := tYes) (by rfl) sc_names.nd (pi_range1 rfl U.range (pa_cons pe_int pa_nil))
            (blkOk_by (own := [("_law_k", 3)]) (N := ["_law_cell", "_law_big", "_law_odd", "_law_k", "_law_base", "_law_at"]) (sc := defScope sNames) (by decide +kernel)) (fun _ _ _ _ _ => pg_name (i := 3) sc_names.nd rfl (Or.inl rfl)) (fun _ _ _ _ _ => pts_nil)
            (fun _ _ _ _ _ => pe_op op_mulS (pe_ix ix_str (pv 1) (pv 2) (fun _ _ => rfl)) (pe_op op_sub (pe_op op_add (pe_op op_mul pe_int (pv 3)) pe_int) (pe_op op_fdiv (pv 3) pe_int)))))) pss_nil)
      (pss_cons (ps_set (i := 4) sc_names.nd rfl (Or.inr rfl) pe_str)
      (pss_cons (ps_for PassesOwn.never rfl (pi_range1 rfl U.range (pa_cons (pe_op op_mod (pe_op op_fdiv (pv 0) pe_int) pe_int) pa_nil)) (pg_name (i := 3) sc_names.nd rfl (Or.inl rfl))
        (pss_one (ps_set (i := 4) sc_names.nd rfl (Or.inr rfl) (pe_op op_add_str (pv 4) (pe_ix ix_str (pv 1) (pe_op op_mod (pe_op op_fdiv (pe_op op_mul (pv 0) (pe_op op_add (pv 3) pe_int)) pe_int) pe_int) (fun _ _ => rfl))))))
      (pss_cons (ps_set (i := 5) sc_names.nd rfl (Or.inr rfl) (pe_op op_mod (pe_op op_fdiv (pv 0) pe_int) (pe_op op_add (pe_callB call_len_str (by rfl) U.len bt_len (pa_cons (pv 4) pa_nil)) pe_int)))
      (pss_one (ps_ret
          (pe_lc (own := [("_law_k", 3)]) (g := gName 3) (tt := tYes) (by rfl) sc_names.nd (pi_range1 rfl U.range (pa_cons pe_int pa_nil))
            (blkOk_by (own := [("_law_k", 3)]) (N := ["_law_cell", "_law_big", "_law_odd", "_law_k", "_law_base", "_law_at"]) (sc := defScope sNames) (by decide +kernel)) (fun _ _ _ _ _ => pg_name (i := 3) sc_names.nd rfl (Or.inl rfl)) (fun _ _ _ _ _ => pts_nil)
            (fun _ _ _ _ _ => pe_op op_add_str (pe_op op_add_str (pe_slice sl_str (pv 4) po_none (po_some (pv 5))) (pe_ix ix_str (pv 1) (pe_op op_add (pv 2) (pv 3)) (fun _ _ => rfl))) (pe_slice sl_str (pv 4) (po_some (pv 5)) po_none))))))))))), ?_⟩
    have hz : big26.length ≤ sizeLine := small100 (by decide +kernel)
    refine ⟨_, rfl, _, _, rfl, rfl, (by show (0 : Int) < 23; decide), ?_⟩
    have o0 := Int.emod_nonneg i (show (23 : Int) ≠ 0 by decide)
    have o1 := Int.emod_lt_of_pos i (show (0 : Int) < 23 by decide)
    refine ⟨_, rfl, _, _, rfl, rfl, ⟨by decide, by decide⟩, ?_⟩
    refine ⟨_, rfl, _, _, rfl, rfl, (by show (0 : Int) < 4; decide), rfl, _, rfl, ite2 (fun c => ?_) (fun c => ?_)⟩
    · refine ⟨4, rfl, by decide, by decide, fun d hd => ?_⟩
      refine lc_range (lo := 0) (fun j H' => Ex H H' ∧ ∃ ns : List Str, H' d = some (.lst (ns.map V.str)) ∧ ns.length = j ∧ ∀ z ∈ ns, isNm z) ⟨Evl.Ex.new hd, [], upd_same, rfl, fun _ h => nomatch h⟩ ?_ ?_
      · rintro j H1 hj ⟨e1, ns, h1, hl, hn⟩
        obtain ⟨ch, hc, hu⟩ := big_at o0 (show (i % 23) < 26 by omega)
        have hj4 : (j : Int) < 4 := by have : j < 4 := hj; omega
        refine ⟨rfl, yes (iteT ?_)⟩
        refine ⟨_, rfl, _, rfl, big26, _, ch, rfl, rfl, hz, hc, _, rfl, _, _, rfl, rfl, .inl ⟨by decide, by decide⟩, _, _, rfl, rfl, _, rfl, _, _, rfl, rfl, ⟨by decide, by decide⟩, _, _, rfl, rfl, ?_⟩
        have g1 : 1 ≤ 2 * ((0 : Int) + (j : Nat)) + 1 - ((0 : Int) + (j : Nat)) / 3 := by omega
        have g2 : 2 * ((0 : Int) + (j : Nat)) + 1 - ((0 : Int) + (j : Nat)) / 3 ≤ 8 := by omega
        refine ⟨_, _, rfl, rfl, (by show 1 ≤ 10; decide), by omega, by omega, ns.map V.str, h1, ?_, Evl.Ex.mut e1 hd, ns ++ [Txt.mul ⟨#[ch]⟩ (2 * ((0 : Int) + (j : Nat)) + 1 - ((0 : Int) + (j : Nat)) / 3)], ?_, ?_, ?_⟩
        · rw [List.length_map, hl]
          exact small1000 (by have : j < 4 := hj; omega)
        · rw [upd_same, List.map_append]
          rfl
        · rw [List.length_append, hl]
          rfl
        · intro z hz
          rcases List.mem_append.mp hz with h | h
          · exact hn z h
          · rw [List.mem_singleton.mp h]
            exact mul_nm hu g1 g2
      · rintro H1 ⟨e1, ns, h1, hl, hn⟩
        exact q d H1 ns e1 hd h1 hl hn
    · have m0 := Int.emod_nonneg ((i / 23) / 4) (show (8 : Int) ≠ 0 by decide)
      have m1 := Int.emod_lt_of_pos ((i / 23) / 4) (show (0 : Int) < 8 by decide)
      refine ⟨_, rfl, _, _, rfl, rfl, ⟨by decide, by decide⟩, _, _, rfl, rfl, (by show (0 : Int) < 8; decide), ?_⟩
      refine ⟨_, rfl, by omega, by omega, for_range (lo := 0) (fun j σ H' => H' = H ∧ ∃ v b, σ = [some (.int (i / 23)), some (.str big26), some (.int (i % 23)), v, some (.str b), none] ∧ b.length = j ∧ Up b) ⟨rfl, none, Str.ofString "", rfl, rfl, fun c hc => ?_⟩ ?_ ?_⟩
      · have : c ∈ ([] : List Nat) := hc
        cases this
      · rintro j σ H1 hj ⟨rfl, v, b, rfl, hl, hu⟩
        have hj8 : (j : Int) < 8 := by have : j < (i / 23 / 4 % 8).toNat := hj; omega
        have n0 := Int.emod_nonneg ((i / 23) * ((0 : Int) + (j : Nat) + 3) / 7) (show (26 : Int) ≠ 0 by decide)
        have n1 := Int.emod_lt_of_pos ((i / 23) * ((0 : Int) + (j : Nat) + 3) / 7) (show (0 : Int) < 26 by decide)
        obtain ⟨ch, hc, hcu⟩ := big_at n0 n1
        refine ⟨_, rfl, _, rfl, _, rfl, _, rfl, _, _, rfl, rfl, _, _, rfl, rfl, .inr ⟨by omega, by omega⟩, _, _, rfl, rfl, ⟨by decide, by decide⟩, _, _, rfl, rfl, (by show (0 : Int) < 26; decide), big26, _, ch, rfl, rfl, hz, hc, _, _, rfl, rfl, ?_, ?_⟩
        · exact small100 (by have : b.length + 1 ≤ 100 := by omega
                             exact this)
        · exact ⟨rfl, _, _, rfl, by rw [app_len, hl]; rfl, hu.app (Up.one hcu)⟩
      · rintro σ H1 ⟨rfl, v, b, rfl, hl, hu⟩
        have hb8 : b.length ≤ 7 := by omega
        have pb : (0 : Int) < (b.length : Int) + 1 := by omega
        refine ⟨_, rfl, _, _, rfl, rfl, ⟨by decide, by decide⟩, _, rfl, b, rfl, small100 (by omega), _, _, rfl, rfl, _, _, rfl, rfl, pb, ?_⟩
        have a0 := Int.emod_nonneg ((i / 23) / 32) (show (b.length : Int) + 1 ≠ 0 by omega)
        have a1 := Int.emod_lt_of_pos ((i / 23) / 32) pb
        obtain ⟨n, hn0⟩ := Int.eq_ofNat_of_zero_le a0
        have hn : n ≤ b.length := by omega
        refine ⟨4, rfl, by decide, by decide, fun d hd => ?_⟩
        refine lc_range (lo := 0) (fun j H' => Ex H1 H' ∧ ∃ ns : List Str, H' d = some (.lst (ns.map V.str)) ∧ ns.length = j ∧ ∀ z ∈ ns, isNm z) ⟨Evl.Ex.new hd, [], upd_same, rfl, fun _ h => nomatch h⟩ ?_ ?_
        · rintro j H2 hj ⟨e2, ns, h2, hl2, hn2⟩
          have hj4 : (j : Int) < 4 := by have : j < 4 := hj; omega
          obtain ⟨ch, hc, hcu⟩ := big_at (show 0 ≤ (i % 23) + ((0 : Int) + (j : Nat)) by omega) (show (i % 23) + ((0 : Int) + (j : Nat)) < 26 by omega)
          have l1 : (cutS b none (some (i / 23 / 32 % ((b.length : Int) + 1)))).length = n := by rw [hn0]; exact cut_len1 hn
          have l2 : (cutS b (some (i / 23 / 32 % ((b.length : Int) + 1))) none).length = b.length - n := by rw [hn0]; exact cut_len2 hn
          refine ⟨rfl, yes (iteT ?_)⟩
          refine ⟨_, rfl, _, rfl, _, rfl, b, rfl, small100 (by omega), _, rfl, _, rfl, _, rfl, _, _, rfl, rfl, big26, _, ch, rfl, rfl, hz, hc, _, _, rfl, rfl, ?_, _, rfl, _, rfl, _, rfl, b, rfl, small100 (by omega), _, _, rfl, rfl, ?_, ?_⟩
          · rw [l1]
            exact small100 (by have : n + 1 ≤ 100 := by omega
                               exact this)
          · rw [app_len, l1, l2]
            exact small100 (by have : n + 1 + (b.length - n) ≤ 100 := by omega
                               exact this)
          · refine ⟨ns.map V.str, h2, ?_, Evl.Ex.mut e2 hd, ns ++ [cutS b none (some (i / 23 / 32 % ((b.length : Int) + 1))) ++ ⟨#[ch]⟩ ++ cutS b (some (i / 23 / 32 % ((b.length : Int) + 1))) none], ?_, ?_, ?_⟩
            · rw [List.length_map, hl2]
              exact small1000 (by have : j < 4 := hj; omega)
            · rw [upd_same, List.map_append]
              rfl
            · rw [List.length_append, hl2]
              rfl
            · intro z hz
              rcases List.mem_append.mp hz with h | h
              · exact hn2 z h
              · rw [List.mem_singleton.mp h]
                refine isNm.of ?_ ?_ (((hu.cut _ _).app (Up.one hcu)).app (hu.cut _ _))
                · rw [app_len, app_len, l1, l2]
                  show 1 ≤ n + 1 + (b.length - n)
                  omega
                · rw [app_len, app_len, l1, l2]
                  show n + 1 + (b.length - n) ≤ 8
                  omega
        · rintro H2 ⟨e2, ns, h2, hl2, hn2⟩
          exact q d H2 ns e2 hd h2 hl2 hn2
/-! ### parts -/
theorem sc_parts : FnScope ["_law_cell", "_law_menu", "_law_most", "_law_size", "_law_parts_here", "_law_k"] ["_law_cell", "_law_menu", "_law_most"] (defScope sParts) := ⟨rfl, rfl, rfl, by decide +kernel, rfl, by decide +kernel, by decide +kernel⟩
def sp_parts : Sp := fun vs H Q _ => ∃ (i : Int) (a : Addr) (m : Nat) (ms : List Str), vs = [.int i, .ref a, .int (m : Int)] ∧ H a = some (.lst (ms.map V.str)) ∧ m ≤ 6 ∧ 1 ≤ ms.length ∧ ms.length ≤ 100 ∧
  ∀ (p : Addr) (H' : Hp) (ps : List Str), Ex H H' → H' p = some (.tup (ps.map V.str)) → ps.length ≤ m → (∀ z ∈ ps, z ∈ ms) → Q (.ref p) H'
theorem ok_parts {f : Addr} {fd : FuncData} {k : Nat} (F : Fun K "_law_parts" "_law_parts" sParts f fd) (U : Txt K mg) : FnOk P w K mg base CX0 (k + 1) f fd ["_law_cell", "_law_menu", "_law_most"] sp_parts := by
  refine F.ok sc_parts (fun vs H Q E h => ?_) (fun cdv A0 outer s H vs Q E hr h => ?_)
  · obtain ⟨i, a, m, ms, rfl, _⟩ := h
    rfl
  · obtain ⟨i, a, m, ms, rfl, ha, hm, h1, h2, q⟩ := h
    refine ⟨_, pss_cons (ps_set (i := 3) sc_parts.nd rfl (Or.inl rfl) (pe_op op_mod (pv 0) (pe_op op_add (pv 2) pe_int)))
      (pss_cons (ps_set (i := 0) sc_parts.nd rfl (Or.inl rfl) (pe_op op_fdiv (pv 0) (pe_op op_add (pv 2) pe_int)))
      (pss_cons (ps_set (i := 4) sc_parts.nd rfl (Or.inl rfl) (pe_lst pa_nil))
      (pss_cons (ps_for PassesOwn.never rfl (pi_range1 rfl U.range (pa_cons (pv 3) pa_nil)) (pg_name (i := 5) sc_parts.nd rfl (Or.inl rfl))
        (pss_cons (ps_expr (pe_bm PySem.F.plainAttrs_list PySem.F.slot_list_append PySem.F.type_list_append mt_append (pv 4) (pa_cons (pe_ix ix_list (pv 1) (pe_op op_mod (pv 0) (pe_callB call_len_seq (by rfl) U.len bt_len (pa_cons (pv 1) pa_nil))) (fun _ _ => rfl)) pa_nil)))
        (pss_one (ps_set (i := 0) sc_parts.nd rfl (Or.inl rfl) (pe_op op_fdiv (pv 0) (pe_callB call_len_seq (by rfl) U.len bt_len (pa_cons (pv 1) pa_nil)))))))
      (pss_one (ps_ret (pe_callTy call_tuple_of (by rfl) U.tuple bt_tuple (pa_cons (pv 4) pa_nil))))))), ?_⟩
    have pm : (0 : Int) < (m : Int) + 1 := by omega
    refine ⟨_, rfl, _, rfl, _, _, rfl, rfl, _, _, rfl, rfl, pm, ?_⟩
    have s0 := Int.emod_nonneg i (show (m : Int) + 1 ≠ 0 by omega)
    have s1 := Int.emod_lt_of_pos i pm
    refine ⟨_, rfl, _, rfl, _, _, rfl, rfl, _, _, rfl, rfl, ⟨pm, by omega⟩, ?_⟩
    refine ⟨Nat.zero_le _, fun l hl => ?_⟩
    refine ⟨_, rfl, _, rfl, by omega, by omega, for_range (lo := 0) (fun j σ H' => Ex H H' ∧ ∃ (ps : List Str) (cell : Int) (v : Option V), σ = [some (.int cell), some (.ref a), some (.int (m : Int)), some (.int (i % ((m : Int) + 1))), some (.ref l), v] ∧ H' l = some (.lst (ps.map V.str)) ∧ ps.length = j ∧ ∀ z ∈ ps, z ∈ ms) ⟨Evl.Ex.new hl, [], _, none, rfl, upd_same, rfl, fun _ h => nomatch h⟩ ?_ ?_⟩
    · rintro j σ H1 hj ⟨e1, ps, cell, v, rfl, hps, hlen, hmem⟩
      have hj6 : j < 6 := by have : j < (i % ((m : Int) + 1)).toNat := hj; omega
      have ha1 := e1 _ _ ha
      have hml : (ms.map V.str).length = ms.length := List.length_map ..
      have pl : (0 : Int) < ((ms.map V.str).length : Nat) := by omega
      have c0 := Int.emod_nonneg cell (show (((ms.map V.str).length : Nat) : Int) ≠ 0 by omega)
      have c1 := Int.emod_lt_of_pos cell pl
      obtain ⟨n, hn⟩ := Int.eq_ofNat_of_zero_le c0
      have hnl : n < ms.length := by omega
      have hat : atI (ms.map V.str) (cell % (((ms.map V.str).length : Nat) : Int)) = some (V.str ms[n]) := by
        rw [hn]
        exact atI_nat (by rw [List.getElem?_map, List.getElem?_eq_getElem hnl]; rfl)
      refine ⟨_, rfl, .inl ⟨rfl, _, sq hps⟩, ?_⟩
      refine ⟨_, rfl, _, rfl, _, rfl, a, _, rfl, .inl (sq ha1), _, _, rfl, rfl, pl, a, _, _, _, rfl, rfl, sq ha1, hat, ?_⟩
      refine ⟨l, _, _, rfl, rfl, hps, by rw [List.length_map, hlen]; exact small1000 (by omega), ?_⟩
      have e2 : Ex H (upd H1 l (.lst (ps.map V.str ++ [V.str ms[n]]))) := Evl.Ex.mut e1 hl
      refine ⟨_, rfl, _, rfl, a, _, rfl, .inl (sq (e2 _ _ ha)), _, _, rfl, rfl, ⟨pl, by omega⟩, ?_⟩
      refine ⟨e2, ps ++ [ms[n]], _, _, rfl, ?_, ?_, ?_⟩
      · rw [upd_same, List.map_append]
        rfl
      · rw [List.length_append, hlen]
        rfl
      · intro z hz
        rcases List.mem_append.mp hz with h | h
        · exact hmem z h
        · rw [List.mem_singleton.mp h]
          exact List.getElem_mem hnl
    · rintro σ H1 ⟨e1, ps, cell, v, rfl, hps, hlen, hmem⟩
      refine ⟨_, rfl, l, _, rfl, .inl ⟨sq hps, fun p hp => ?_⟩⟩
      exact q p _ ps (e1.trans (Evl.Ex.new hp)) upd_same (by omega) hmem
end
end FR

set_option Elab.async false
set_option linter.all false
set_option maxRecDepth 100000
set_option maxHeartbeats 4000000
namespace FR
open PySem L2
section
variable {P : Program} {w : World} {K : PySem.W.Frag} {mg : Str → Option Value} {base : Heap}
theorem sqL_ex {H H' : Hp} {a : Addr} {xs : List V} (h : SqL K H a xs) (e : Ex H H') : SqL K H' a xs :=
  h.elim (fun h => .inl (h.elim (fun h => .inl (e _ _ h)) fun ⟨o, h⟩ => .inr ⟨o, e _ _ h⟩)) fun h => .inr h
theorem cut_take (xs : List V) (k : Nat) : cutV xs none (some (k : Int)) = xs.take k := by
  unfold cutV
  rw [HT.sIx_nat, HT.sIx_none, List.drop_zero, Nat.sub_zero]
  rcases Nat.le_total k xs.length with h | h
  · rw [Nat.min_eq_left h]
  · rw [Nat.min_eq_right h, List.take_of_length_le (Nat.le_refl _), List.take_of_length_le h]
theorem cut_drop (xs : List V) (k : Nat) : cutV xs (some (k : Int)) none = xs.drop k := by
  unfold cutV
  rw [HT.sIx_nat, HT.sIx_none]
  rcases Nat.le_total k xs.length with h | h
  · rw [Nat.min_eq_left h, List.take_of_length_le (by rw [List.length_drop] <;> omega)]
  · rw [Nat.min_eq_right h, Nat.sub_self, List.take_zero, List.drop_eq_nil_of_le h]
theorem three (b : Bool) : (3 : Int) + 3 * (if b = true then 1 else 0) = ((if b = true then 6 else 3 : Nat) : Int) := by cases b <;> rfl
theorem six (b : Bool) : (if b = true then 6 else 3 : Nat) ≤ 6 := by cases b <;> decide
def okP (hs : List Str) (ρ : Rl) : Prop := ρ.hd ∈ hs ∧ ρ.ps.length ≤ 6 ∧ (∀ p ∈ ρ.ps, isSg p ∨ isNm p) ∧ 0 ≤ ρ.wo ∧ ρ.wo ≤ 10 ^ 60
def short (ρ : Rl) : Prop := (∀ p ∈ ρ.ps, isSg p) ∧ ρ.ps.length < 3
theorem push_rule {H : Hp} {r u : Addr} {vs : List V} {g : List Rl} {ρ : Rl} (hr : H r = some (.lst vs)) (hp : Paired (RuleAt H) vs g) (hu : RuleAt H (.ref u) ρ) : LstAt RuleAt (upd H r (.lst (vs ++ [.ref u]))) r (g ++ [ρ]) := by
  have t := tu_upd (o := .lst (vs ++ [.ref u])) hr fun _ z => nomatch z
  exact ⟨_, upd_same, Paired.snoc (Paired.mono (fun _ _ => mRule _ _ _ _ t) hp) (mRule _ _ _ _ t hu)⟩
theorem GOk.of {hs : List Str} {g : List Rl} (hn : ∀ z ∈ hs, isNm z) (h1 : 1 ≤ g.length) (h2 : g.length ≤ 9) (ho : ∀ ρ ∈ g, okP hs ρ) (hs' : ∀ A ∈ hs, ∃ ρ ∈ g, ρ.hd = A ∧ short ρ) : GOk g :=
  ⟨h1, h2, fun ρ h => hn _ (ho ρ h).1, fun ρ h => (ho ρ h).2.1, fun ρ h => (ho ρ h).2.2.1, fun ρ h => (ho ρ h).2.2.2, fun ρ h => let ⟨ρ', m, e, s⟩ := hs' _ (ho ρ h).1; ⟨ρ', m, e, s⟩⟩
theorem GOk.rev {g : List Rl} (h : GOk g) : GOk g.reverse :=
  ⟨by rw [List.length_reverse]; exact h.pos, by rw [List.length_reverse]; exact h.few, fun ρ m => h.hdn ρ (List.mem_reverse.mp m), fun ρ m => h.psl ρ (List.mem_reverse.mp m), fun ρ m => h.pse ρ (List.mem_reverse.mp m), fun ρ m => h.wo ρ (List.mem_reverse.mp m),
    fun ρ m => let ⟨ρ', m', e⟩ := h.sh ρ (List.mem_reverse.mp m); ⟨ρ', List.mem_reverse.mpr m', e⟩⟩
abbrev NG : List Str := ["_law_script", "_law_names_here", "_law_signs_here", "_law_way", "_law_heads", "_law_menu", "_law_rules", "_law_k", "_law_cell", "_law_parts_here", "_law_sign"]
theorem sc_gram : FnScope NG ["_law_script"] (defScope sGram) := ⟨rfl, rfl, rfl, by decide +kernel, rfl, by decide +kernel, by decide +kernel⟩
def sp_gram (K : PySem.W.Frag) : Sp := fun vs H Q _ => ∃ (a : Addr) (ns : List Int), vs = [.ref a] ∧ SqL K H a (ns.map V.int) ∧ ∀ (l : Addr) (H' : Hp) (g : List Rl), Ex H H' → H l = none → LstAt RuleAt H' l g → GOk g → Q (.ref l) H'
theorem ok_gram {f fN fM fS fW fP fC : Addr} {fd fdN fdM fdS fdW fdP fdC : FuncData} {k : Nat} (F : Fun K "_law_grammar" "_law_grammar" sGram f fd) (U : Txt K mg)
    (GN : FnG P w K mg base "_law_names" k ["_law_cell"] sp_names fN fdN) (GM : FnG P w K mg base "_law_mixed" k ["_law_script", "_law_k"] (sp_mixed K) fM fdM)
    (GS : FnG P w K mg base "_law_signs" k ["_law_cell"] sp_signs fS fdS) (GW : FnG P w K mg base "_law_worth" k ["_law_cell"] sp_worth fW fdW)
    (GP : FnG P w K mg base "_law_parts" k ["_law_cell", "_law_menu", "_law_most"] sp_parts fP fdP) (GC : FnG P w K mg base "_law_cell_at" k ["_law_script", "_law_k"] (sp_cell K) fC fdC) :
    FnOk P w K mg base CX0 (k + 1) f fd ["_law_script"] (sp_gram K) := by
  refine F.ok sc_gram (fun vs H Q E h => ?_) (fun cdv A0 outer s H vs Q E hr h => ?_)
  · obtain ⟨a, ns, rfl, _⟩ := h
    rfl
  · obtain ⟨a, ns, rfl, hS, q⟩ := h
    refine ⟨_, pss_cons (ps_set (i := 1) sc_gram.nd rfl (Or.inl rfl) (pe_f GN hr (by rfl) (pa_cons (pe_f GM hr (by rfl) (pa_cons (pv 0) (pa_cons pe_int pa_nil))) pa_nil)))
      (pss_cons (ps_setLc (i := 2) (own := [("_law_sign", 10)]) (g := gName 10) (tt := tYes) rfl sc_gram.nd rfl rfl (sw_true rfl rfl rfl (by decide +kernel)) (pi_list (pe_f GS hr (by rfl) (pa_cons (pe_f GM hr (by rfl) (pa_cons (pv 0) (pa_cons pe_int pa_nil))) pa_nil)))
        (blkOk_by (own := [("_law_sign", 10)]) (N := NG) (sc := defScope sGram) (by decide +kernel))
        (fun _ _ _ _ _ => pg_name (i := 10) sc_gram.nd rfl (.inl rfl)) (fun _ _ _ _ _ => pts_nil)
        (fun _ _ _ _ _ => pe_op op_add_str pe_str (pv 10)))
      (pss_cons (ps_set (i := 3) sc_gram.nd rfl (Or.inl rfl) (pe_f GM hr (by rfl) (pa_cons (pv 0) (pa_cons pe_int pa_nil))))
      (pss_cons (ps_set (i := 4) sc_gram.nd rfl (Or.inl rfl) (pe_slice sl_list (pv 1) po_none (po_some (pe_op op_add pe_int (pe_op op_mod (pv 3) pe_int)))))
      (pss_cons (ps_set (i := 5) sc_gram.nd rfl (Or.inl rfl) (pe_op op_cat (pe_op op_cat (pe_op op_cat (pe_op op_cat (pv 4) (pe_slice sl_list (pv 2) po_none (po_some pe_int))) (pv 4)) (pv 2)) (pe_slice sl_list (pv 1) (po_some pe_int) po_none)))
      (pss_cons (ps_set (i := 6) sc_gram.nd rfl (Or.inl rfl) (pe_lst pa_nil))
      (pss_cons (ps_for PassesOwn.never rfl (pi_range1 rfl U.range (pa_cons (pe_callB call_len_seq (by rfl) U.len bt_len (pa_cons (pv 4) pa_nil)) pa_nil)) (pg_name (i := 7) sc_gram.nd rfl (Or.inl rfl))
        (pss_cons (ps_set (i := 8) sc_gram.nd rfl (Or.inl rfl) (pe_f GM hr (by rfl) (pa_cons (pv 0) (pa_cons (pe_op op_add pe_int (pv 7)) pa_nil))))
        (pss_one (ps_expr (pe_bm PySem.F.plainAttrs_list PySem.F.slot_list_append PySem.F.type_list_append mt_append (pv 6) (pa_cons (pe_tup
          (pa_cons (pe_ix ix_list (pv 4) (pv 7) (fun _ _ => rfl)) (pa_cons (pe_f GP hr (by rfl) (pa_cons (pv 8) (pa_cons (pv 2) (pa_cons pe_int pa_nil)))) (pa_cons (pe_f GW hr (by rfl) (pa_cons (pe_f GC hr (by rfl) (pa_cons (pv 0) (pa_cons (pe_op op_add pe_int (pv 7)) pa_nil))) pa_nil)) pa_nil)))) pa_nil))))))
      (pss_cons (ps_for PassesOwn.never rfl (pi_range1 rfl U.range (pa_cons (pe_op op_add pe_int (pe_op op_mod (pe_op op_fdiv (pv 3) pe_int) pe_int)) pa_nil)) (pg_name (i := 7) sc_gram.nd rfl (Or.inl rfl))
        (pss_cons (ps_set (i := 8) sc_gram.nd rfl (Or.inl rfl) (pe_f GM hr (by rfl) (pa_cons (pv 0) (pa_cons (pe_op op_add pe_int (pv 7)) pa_nil))))
        (pss_cons (ps_set (i := 9) sc_gram.nd rfl (Or.inl rfl) (pe_f GP hr (by rfl) (pa_cons (pe_op op_fdiv (pv 8) pe_int) (pa_cons (pv 5) (pa_cons
          (pe_op op_add pe_int (pe_op op_mul pe_int (pe_callTy call_int1 (by rfl) U.int bt_int (pa_cons (pe_cmpR op_eq (pe_op op_mod (pe_op op_fdiv (pv 3) pe_int) pe_int) (pv 7) (nomark _)) pa_nil)))) pa_nil)))))
        (pss_one (ps_expr (pe_bm PySem.F.plainAttrs_list PySem.F.slot_list_append PySem.F.type_list_append mt_append (pv 6) (pa_cons (pe_tup
          (pa_cons (pe_ix ix_list (pv 4) (pe_op op_mod (pe_op op_mod (pv 8) pe_int) (pe_callB call_len_seq (by rfl) U.len bt_len (pa_cons (pv 4) pa_nil))) (fun _ _ => rfl)) (pa_cons (pv 9) (pa_cons (pe_f GW hr (by rfl) (pa_cons (pe_f GC hr (by rfl) (pa_cons (pv 0) (pa_cons (pe_op op_add pe_int (pv 7)) pa_nil))) pa_nil)) pa_nil)))) pa_nil)))))))
      (pss_cons (ps_if (pt_cmpR op_eq (pe_op op_mod (pe_op op_fdiv (pv 3) pe_int) pe_int) pe_int (nomark _))
        (pss_cons (ps_expr (pe_bm PySem.F.plainAttrs_list PySem.F.slot_list_append PySem.F.type_list_append mt_append (pv 6) (pa_cons (pe_tup
          (pa_cons (pe_ix ix_list (pv 4) pe_int (fun _ _ => rfl)) (pa_cons (pe_tup (pa_cons (pe_ix ix_list (pv 4) (pe_un un_neg pe_int) (fun _ _ => rfl)) pa_nil)) (pa_cons pe_int pa_nil)))) pa_nil)))
        (pss_one (ps_expr (pe_bm PySem.F.plainAttrs_list PySem.F.slot_list_append PySem.F.type_list_append mt_append (pv 6) (pa_cons (pe_tup
          (pa_cons (pe_ix ix_list (pv 4) (pe_un un_neg pe_int) (fun _ _ => rfl)) (pa_cons (pe_tup (pa_cons (pe_ix ix_list (pv 4) pe_int (fun _ _ => rfl)) pa_nil)) (pa_cons pe_int pa_nil)))) pa_nil))))) pss_nil)
      (pss_cons (ps_if (pt_cmpR op_eq (pe_op op_mod (pe_op op_fdiv (pv 3) pe_int) pe_int) pe_int (nomark _)) (pss_one (ps_expr (pe_bm0 PySem.F.plainAttrs_list PySem.F.slot_list_reverse PySem.F.type_list_reverse mt_reverse (pv 6)))) pss_nil)
      (pss_one (ps_ret (pv 6)))))))))))), ?_⟩
    refine ⟨_, rfl, a, ns, 0, rfl, hS, by decide, fun i0 _ _ => ⟨_, rfl, fun n H1 nm e1 fn hn nl nn => ?_⟩⟩
    have hS1 := sqL_ex hS e1
    refine ⟨_, rfl, a, ns, 1, rfl, hS1, by decide, fun i1 _ _ => ⟨_, rfl, fun c H2 cs e2 fc hc cl co => ?_⟩⟩
    refine ⟨c, rfl, ⟨_, sq hc⟩, fun d hd => ?_⟩
    have ecd : c ≠ d := ne_of_none hc hd
    refine lc_list (K := K) (xs := cs.map fun c => V.str ⟨#[c]⟩) (fun i H' => Ex H2 H' ∧ H' d = some (.lst (((cs.map sgn).take i).map V.str))) ⟨Evl.Ex.new hd, upd_same⟩ (fun i H' _ ⟨e, _⟩ => sq (e _ _ hc)) ?_ ?_
    · rintro i x H3 hi ⟨e3, h3⟩
      obtain ⟨ch, hch, rfl⟩ : ∃ ch, cs[i]? = some ch ∧ V.str ⟨#[ch]⟩ = x := by
        rw [List.getElem?_map] at hi
        exact Option.map_eq_some_iff.mp hi
      have hil := (List.getElem?_eq_some_iff.mp hch).1
      refine ⟨rfl, yes (iteT ?_)⟩
      refine ⟨_, rfl, _, _, rfl, rfl, (by show 1 + 1 ≤ sizeLine; decide), _, h3, ?_, Evl.Ex.mut e3 hd, ?_⟩
      · rw [List.length_map, List.length_take, List.length_map]
        exact small1000 (by omega)
      · rw [upd_same, List.take_add_one, List.getElem?_map, hch, List.map_append, add_quo]
        rfl
    · rintro H3 ⟨e3, h3⟩
      rw [List.length_map, List.take_of_length_le (by rw [List.length_map]; exact Nat.le_refl _)] at h3
      obtain ⟨sg, hsg⟩ : ∃ sg, sg = cs.map sgn := ⟨_, rfl⟩
      rw [← hsg] at h3
      have sgl : sg.length = 3 := by rw [hsg, List.length_map, cl]
      have sgo : ∀ z ∈ sg, isSg z := fun z hz => by
        rw [hsg] at hz
        obtain ⟨c0, hc0, rfl⟩ := List.mem_map.mp hz
        have := co c0 hc0
        unfold okC at this
        rw [Bool.and_eq_true, Bool.and_eq_true] at this
        exact ⟨c0, rfl, of_decide_eq_true this.1.1, of_decide_eq_true this.1.2, by simpa using this.2⟩
      have e13 := e2.trans e3
      have e03 := e1.trans e13
      have hS3 := sqL_ex hS e03
      have hn3 := e13 _ _ hn
      refine ⟨_, rfl, a, ns, 2, rfl, hS3, by decide, fun i2 w0 w1 => ?_⟩
      have t0 := Int.emod_nonneg i2 (show (3 : Int) ≠ 0 by decide)
      have t1 := Int.emod_lt_of_pos i2 (show (0 : Int) < 3 by decide)
      obtain ⟨t, ht⟩ := Int.eq_ofNat_of_zero_le (show 0 ≤ 1 + i2 % 3 by omega)
      obtain ⟨hs, hhs⟩ : ∃ hs, hs = nm.take t := ⟨_, rfl⟩
      have hsl : hs.length = t := by rw [hhs, List.length_take]; omega
      have hsn : ∀ z ∈ hs, isNm z := fun z hz => nn z (List.mem_of_mem_take (hhs ▸ hz))
      have hcut : cutV (nm.map V.str) none (some (1 + i2 % 3)) = hs.map V.str := by
        rw [ht, cut_take, hhs, List.map_take]
      refine ⟨_, rfl, _, rfl, _, _, rfl, rfl, (by show (0 : Int) < 3; decide), _, _, rfl, rfl, _, rfl, n, _, rfl, sq hn3, fun h hh => ?_⟩
      let H4 : Hp := upd H3 h (.lst (cutV (nm.map V.str) none (some (1 + i2 % 3))))
      have e4 : Ex H3 H4 := Evl.Ex.new hh
      have hh4 : H4 h = some (.lst (hs.map V.str)) := by
        show upd H3 h _ h = _
        rw [upd_same, hcut]
      refine ⟨_, rfl, _, rfl, _, rfl, d, _, rfl, sq (e4 _ _ h3), fun p1 hp1 => ?_⟩
      let H5 : Hp := upd H4 p1 (.lst (cutV (sg.map V.str) none (some 2)))
      have e5 : Ex H4 H5 := Evl.Ex.new hp1
      refine ⟨h, p1, _, _, rfl, rfl, e5 _ _ hh4, upd_same, ?_, fun p2 hp2 => ?_⟩
      · rw [show (2 : Int) = ((2 : Nat) : Int) from rfl, cut_take, List.length_map, List.length_take, List.length_map]
        exact small100 (by omega)
      let H6 : Hp := upd H5 p2 (.lst (hs.map V.str ++ cutV (sg.map V.str) none (some 2)))
      have e6 : Ex H5 H6 := Evl.Ex.new hp2
      refine ⟨_, rfl, p2, h, _, _, rfl, rfl, upd_same, e6 _ _ (e5 _ _ hh4), ?_, fun p3 hp3 => ?_⟩
      · rw [show (2 : Int) = ((2 : Nat) : Int) from rfl, cut_take, List.length_append, List.length_map, List.length_take, List.length_map]
        exact small100 (by omega)
      let H7 : Hp := upd H6 p3 (.lst ((hs.map V.str ++ cutV (sg.map V.str) none (some 2)) ++ hs.map V.str))
      have e7 : Ex H6 H7 := Evl.Ex.new hp3
      have e47 := (e5.trans e6).trans e7
      refine ⟨_, rfl, p3, d, _, _, rfl, rfl, upd_same, e47 _ _ (e4 _ _ h3), ?_, fun p4 hp4 => ?_⟩
      · rw [show (2 : Int) = ((2 : Nat) : Int) from rfl, cut_take, List.length_append, List.length_append, List.length_map, List.length_take, List.length_map]
        exact small100 (by omega)
      let H8 : Hp := upd H7 p4 (.lst (((hs.map V.str ++ cutV (sg.map V.str) none (some 2)) ++ hs.map V.str) ++ sg.map V.str))
      have e8 : Ex H7 H8 := Evl.Ex.new hp4
      have e38 := e4.trans (e47.trans e8)
      refine ⟨_, rfl, _, rfl, n, _, rfl, sq (e38 _ _ hn3), fun p5 hp5 => ?_⟩
      let H9 : Hp := upd H8 p5 (.lst (cutV (nm.map V.str) (some 3) none))
      have e9 : Ex H8 H9 := Evl.Ex.new hp5
      obtain ⟨ms, hms⟩ : ∃ ms, ms = hs ++ sg.take 2 ++ hs ++ sg ++ nm.drop 3 := ⟨_, rfl⟩
      have hmsv : (((hs.map V.str ++ cutV (sg.map V.str) none (some 2)) ++ hs.map V.str) ++ sg.map V.str) ++ cutV (nm.map V.str) (some 3) none = ms.map V.str := by
        rw [show (2 : Int) = ((2 : Nat) : Int) from rfl, cut_take, show (3 : Int) = ((3 : Nat) : Int) from rfl, cut_drop, hms]
        simp only [List.map_append, List.map_take, List.map_drop]
      have hmsl : ms.length = t + 2 + t + 3 + 1 := by
        rw [hms]
        simp only [List.length_append, List.length_take, List.length_drop]
        omega
      have hmso : ∀ z ∈ ms, isSg z ∨ isNm z := fun z hz => by
        rw [hms] at hz
        simp only [List.mem_append] at hz
        rcases hz with (((hz | hz) | hz) | hz) | hz
        · exact .inr (hsn z hz)
        · exact .inl (sgo z (List.mem_of_mem_take hz))
        · exact .inr (hsn z hz)
        · exact .inl (sgo z hz)
        · exact .inr (nn z (List.mem_of_mem_drop hz))
      refine ⟨p4, p5, _, _, rfl, rfl, e9 _ _ upd_same, upd_same, ?_, fun me hme => ?_⟩
      · rw [← List.length_append, hmsv, List.length_map, hmsl]
        exact small100 (by omega)
      let H10 : Hp := upd H9 me (.lst ((((hs.map V.str ++ cutV (sg.map V.str) none (some 2)) ++ hs.map V.str) ++ sg.map V.str) ++ cutV (nm.map V.str) (some 3) none))
      have e10 : Ex H9 H10 := Evl.Ex.new hme
      have e310 := e38.trans (e9.trans e10)
      have fme : H10 me = some (.lst (ms.map V.str)) := by
        show upd H9 me _ me = _
        rw [upd_same, hmsv]
      have fh : H10 h = some (.lst (hs.map V.str)) := (((e47.trans e8).trans e9).trans e10) _ _ hh4
      have fd : H10 d = some (.lst (sg.map V.str)) := e310 _ _ h3
      have fS : SqL K H10 a (ns.map V.int) := sqL_ex hS3 e310
      have e010 := e03.trans e310
      refine ⟨Nat.zero_le _, fun r hr0 => ?_⟩
      have hrH := Evl.fresh_back e010 hr0
      refine ⟨_, rfl, h, _, rfl, .inl (sq (Evl.Ex.new hr0 _ _ fh)), _, rfl, by omega, by rw [List.length_map]; omega, ?_⟩
      refine for_range (lo := 0) (fun j σ H' => Ex H10 H' ∧ (∃ v7 v8, σ = [some (.ref a), some (.ref n), some (.ref d), some (.int i2), some (.ref h), some (.ref me), some (.ref r), v7, v8, none, none]) ∧
        ∃ g, LstAt RuleAt H' r g ∧ g.length = j ∧ (∀ ρ ∈ g, okP hs ρ) ∧ ∀ i, i < j → ∃ ρ ∈ g, hs[i]? = some ρ.hd ∧ short ρ) ⟨Evl.Ex.new hr0, ⟨none, none, rfl⟩, [], LstAt.nil, rfl, (fun _ z => nomatch z), fun i z => absurd z (Nat.not_lt_zero i)⟩ ?_ ?_
      · rintro j σ H11 hj ⟨e11, ⟨v7, v8, rfl⟩, g, ⟨gv, hg, pg⟩, gl, go, gs⟩
        have hj' : j < hs.length := by
          have : j < (((hs.map V.str).length : Nat) : Int).toNat := hj
          rw [List.length_map] at this
          omega
        have hgv := Paired.length pg
        refine ⟨_, rfl, _, rfl, _, _, rfl, rfl, a, ns, 3 + j, congrArg (fun z => [V.ref a, V.int z]) (show (3 : Int) + (0 + (j : Nat)) = ((3 + j : Nat) : Int) by omega), sqL_ex fS e11, by omega, fun cell c0 c1 => ?_⟩
        refine ⟨_, rfl, .inl ⟨rfl, _, sq hg⟩, ?_⟩
        have hat : (hs.map V.str)[j]? = some (V.str hs[j]) := by rw [List.getElem?_map, List.getElem?_eq_getElem hj']; rfl
        refine ⟨_, rfl, _, rfl, h, _, _, _, rfl, rfl, sq (e11 _ _ fh), (show atI (hs.map V.str) ((0 : Int) + (j : Nat)) = some (V.str hs[j]) by rw [Int.zero_add]; exact atI_nat hat), ?_⟩
        refine ⟨_, rfl, _, rfl, _, d, 2, sg, rfl, e11 _ _ fd, by decide, by omega, by omega, fun pp H12 ps e12 hpp pl po => ?_⟩
        refine ⟨_, rfl, _, rfl, _, _, rfl, rfl, a, ns, 3 + j, congrArg (fun z => [V.ref a, V.int z]) (show (3 : Int) + (0 + (j : Nat)) = ((3 + j : Nat) : Int) by omega), sqL_ex fS (e11.trans e12), fun ci => ⟨_, rfl, fun wo q0 q1 => ?_⟩⟩
        refine ⟨(by show 3 ≤ sizeLine; decide), fun u hu => ?_⟩
        let ρ : Rl := ⟨hs[j], ps, wo⟩
        have eu : Ex H12 (upd H12 u (.tup [.str hs[j], .ref pp, .int wo])) := Evl.Ex.new hu
        have hg' := (e12.trans eu) _ _ hg
        refine ⟨r, _, _, rfl, rfl, hg', by rw [hgv]; exact small1000 (by omega), Evl.Ex.mut ((e11.trans e12).trans eu) hr0, ⟨_, _, rfl⟩, g ++ [ρ], ?_, ?_, ?_, ?_⟩
        · exact push_rule hg' (Paired.mono (fun _ _ => mRule _ _ _ _ (tu_ex (e12.trans eu))) pg) ⟨u, pp, rfl, upd_same, eu _ _ hpp⟩
        · rw [List.length_append, gl]
          rfl
        · intro ρ' hρ'
          rcases List.mem_append.mp hρ' with z | z
          · exact go ρ' z
          · rw [List.mem_singleton.mp z]
            exact ⟨List.getElem_mem hj', by show ps.length ≤ 6; omega, fun z hz => .inl (sgo z (po z hz)), q0, q1⟩
        · intro i hi
          rcases Nat.lt_succ_iff_lt_or_eq.mp hi with z | z
          · obtain ⟨ρ', m, x⟩ := gs i z
            exact ⟨ρ', List.mem_append_left _ m, x⟩
          · subst z
            exact ⟨ρ, List.mem_append_right _ (List.mem_singleton_self _), List.getElem?_eq_getElem hj', fun z hz => sgo z (po z hz), by show ps.length < 3; omega⟩
      · rintro σ H11 ⟨e11, ⟨v7, v8, rfl⟩, g1, L1, gl1, go1, gs1⟩
        have hlt : (((hs.map V.str).length : Nat) : Int).toNat = t := by rw [List.length_map]; omega
        rw [hlt] at gl1 gs1
        have gs1' : ∀ A ∈ hs, ∃ ρ ∈ g1, ρ.hd = A ∧ short ρ := fun A hA => by
          obtain ⟨i, hi⟩ := List.getElem?_of_mem hA
          have hil := (List.getElem?_eq_some_iff.mp hi).1
          obtain ⟨ρ, m, x, y⟩ := gs1 i (by omega)
          rw [hi] at x
          exact ⟨ρ, m, (Option.some.inj x).symm, y⟩
        have u0 := Int.emod_nonneg (i2 / 3) (show (4 : Int) ≠ 0 by decide)
        have u1 := Int.emod_lt_of_pos (i2 / 3) (show (0 : Int) < 4 by decide)
        refine ⟨_, rfl, _, _, rfl, rfl, ⟨by decide, by decide⟩, _, _, rfl, rfl, (by show (0 : Int) < 4; decide), _, _, rfl, rfl, _, rfl, by omega, by omega, ?_⟩
        refine for_range (lo := 0) (fun j σ H' => Ex H10 H' ∧ (∃ v7 v8 v9, σ = [some (.ref a), some (.ref n), some (.ref d), some (.int i2), some (.ref h), some (.ref me), some (.ref r), v7, v8, v9, none]) ∧
          ∃ g, LstAt RuleAt H' r g ∧ g.length = t + j ∧ (∀ ρ ∈ g, okP hs ρ) ∧ ∀ A ∈ hs, ∃ ρ ∈ g, ρ.hd = A ∧ short ρ) ⟨e11, ⟨_, _, _, rfl⟩, g1, L1, gl1, go1, gs1'⟩ ?_ ?_
        · rintro j σ H12 hj ⟨e12, ⟨v7, v8, v9, rfl⟩, g, ⟨gv, hg, pg⟩, gl, go, gs⟩
          have hj4 : j < 4 := by
            have : j < (1 + i2 / 3 % 4).toNat := hj
            omega
          have hgv := Paired.length pg
          refine ⟨_, rfl, _, rfl, _, _, rfl, rfl, a, ns, 6 + j, congrArg (fun z => [V.ref a, V.int z]) (show (6 : Int) + (0 + (j : Nat)) = ((6 + j : Nat) : Int) by omega), sqL_ex fS e12, by omega, fun cell c0 c1 => ?_⟩
          refine ⟨_, rfl, _, _, rfl, rfl, ⟨by decide, by decide⟩, _, rfl, _, rfl, _, _, rfl, rfl, ⟨by decide, by decide⟩, _, _, rfl, rfl, (by show (0 : Int) < 5; decide), _, rfl, rfl, .inr ⟨_, rfl, _, _, rfl, rfl, .inl ⟨by decide, by decide⟩, _, _, rfl, rfl, ?_⟩⟩
          refine ⟨_, me, _, ms, congrArg (fun z => [V.int (cell / 3), V.ref me, V.int z]) (three _), e12 _ _ fme, six _, by omega, by omega, fun pp H13 ps e13' hpp pl po => ?_⟩
          have pl := Nat.le_trans pl (six _)
          refine ⟨_, rfl, .inl ⟨rfl, _, sq (e13' _ _ hg)⟩, ?_⟩
          have e13 := e12.trans e13'
          have hml : (hs.map V.str).length = hs.length := List.length_map ..
          have x0 := Int.emod_nonneg (cell % 3) (show (((hs.map V.str).length : Nat) : Int) ≠ 0 by omega)
          have x1 := Int.emod_lt_of_pos (cell % 3) (show (0 : Int) < ((hs.map V.str).length : Nat) by omega)
          obtain ⟨m, hm⟩ := Int.eq_ofNat_of_zero_le x0
          have hml2 : m < hs.length := by omega
          have hat : atI (hs.map V.str) (cell % 3 % (((hs.map V.str).length : Nat) : Int)) = some (V.str hs[m]) := by
            rw [hm]
            exact atI_nat (by rw [List.getElem?_map, List.getElem?_eq_getElem hml2]; rfl)
          refine ⟨_, rfl, _, rfl, _, _, rfl, rfl, (by show (0 : Int) < 3; decide), _, rfl, h, _, rfl, .inl (sq (e13 _ _ fh)), _, _, rfl, rfl, (by show (0 : Int) < ((hs.map V.str).length : Nat); omega), h, _, _, _, rfl, rfl, sq (e13 _ _ fh), hat, ?_⟩
          refine ⟨_, rfl, _, rfl, _, rfl, _, _, rfl, rfl, a, ns, 6 + j, congrArg (fun z => [V.ref a, V.int z]) (show (6 : Int) + (0 + (j : Nat)) = ((6 + j : Nat) : Int) by omega), sqL_ex fS e13, fun ci => ⟨_, rfl, fun wo q0 q1 => ?_⟩⟩
          refine ⟨(by show 3 ≤ sizeLine; decide), fun u hu => ?_⟩
          let ρ : Rl := ⟨hs[m], ps, wo⟩
          have eu : Ex H13 (upd H13 u (.tup [.str hs[m], .ref pp, .int wo])) := Evl.Ex.new hu
          have hg' := (e13'.trans eu) _ _ hg
          refine ⟨r, _, _, rfl, rfl, hg', by rw [hgv]; exact small1000 (by omega), Evl.Ex.mut (e13.trans eu) hr0, ⟨_, _, _, rfl⟩, g ++ [ρ], ?_, ?_, ?_, ?_⟩
          · exact push_rule hg' (Paired.mono (fun _ _ => mRule _ _ _ _ (tu_ex (e13'.trans eu))) pg) ⟨u, pp, rfl, upd_same, eu _ _ hpp⟩
          · rw [List.length_append, gl]
            rfl
          · intro ρ' hρ'
            rcases List.mem_append.mp hρ' with z | z
            · exact go ρ' z
            · rw [List.mem_singleton.mp z]
              exact ⟨List.getElem_mem hml2, pl, fun z hz => hmso z (po z hz), q0, q1⟩
          · intro A hA
            obtain ⟨ρ', m', x⟩ := gs A hA
            exact ⟨ρ', List.mem_append_left _ m', x⟩
        · rintro σ H12 ⟨e12, ⟨v7, v8, v9, rfl⟩, g, ⟨gv, hg, pg⟩, gl, go, gs⟩
          have hgv := Paired.length pg
          have hjt : (1 + i2 / 3 % 4).toNat ≤ 4 := by omega
          have gl : g.length = t + (1 + i2 / 3 % 4).toNat := gl
          have fin : ∀ H' g', Ex H10 H' → LstAt RuleAt H' r g' → GOk g' → Q (.ref r) H' := fun H' g' e L G => q r H' g' (e010.trans e) hrH L G
          have fh12 := e12 _ _ fh
          have h0 : 0 < hs.length := by omega
          have hat0 : atI (hs.map V.str) 0 = some (V.str hs[0]) := atI_nat (j := 0) (by rw [List.getElem?_map, List.getElem?_eq_getElem h0]; rfl)
          obtain ⟨hi, hl, hhl⟩ : ∃ hi hl, hs = hi ++ [hl] := ⟨_, _, (List.dropLast_concat_getLast (List.ne_nil_of_length_pos h0)).symm⟩
          have hat1 : atI (hs.map V.str) (-1) = some (V.str hl) := by
            rw [hhl, List.map_append]
            exact atI_last _ _
          have hlm : hl ∈ hs := by rw [hhl]; exact List.mem_append_right _ (List.mem_singleton_self _)
          have h0m : hs[0] ∈ hs := List.getElem_mem h0
          refine ⟨_, rfl, _, _, rfl, rfl, ⟨by decide, by decide⟩, _, _, rfl, rfl, (by show (0 : Int) < 3; decide), rfl, _, rfl, ite2 (fun cc => ?_) (fun cc => ?_)⟩
          · -- two more
            refine ⟨_, rfl, .inl ⟨rfl, _, sq hg⟩, _, rfl, h, _, _, _, rfl, rfl, sq fh12, hat0, _, rfl, _, rfl, h, _, _, _, rfl, rfl, sq fh12, hat1, (by show 1 ≤ sizeLine; decide), fun p1' hp1' => ⟨(by show 3 ≤ sizeLine; decide), fun u1 hu1 => ?_⟩⟩
            have a1 : Ex H12 (upd H12 p1' (.tup [.str hl])) := Evl.Ex.new hp1'
            have a2 : Ex (upd H12 p1' (.tup [.str hl])) (upd (upd H12 p1' (.tup [.str hl])) u1 (.tup [.str hs[0], .ref p1', .int 0])) := Evl.Ex.new hu1
            have hg1 := (a1.trans a2) _ _ hg
            let ρ1 : Rl := ⟨hs[0], [hl], 0⟩
            have L1' := push_rule (ρ := ρ1) hg1 (Paired.mono (fun _ _ => mRule _ _ _ _ (tu_ex (a1.trans a2))) pg) ⟨u1, p1', rfl, upd_same, a2 _ _ upd_same⟩
            refine ⟨r, _, _, rfl, rfl, hg1, by rw [hgv]; exact small1000 (by omega), ?_⟩
            have b0 : Ex H10 _ := Evl.Ex.mut (o := .lst (gv ++ [.ref u1])) (e12.trans (a1.trans a2)) hr0
            obtain ⟨gv1, hgv1, pg1⟩ := L1'
            have hgl1 := Paired.length pg1
            have fh1 := b0 _ _ fh
            refine ⟨_, rfl, .inl ⟨rfl, _, sq hgv1⟩, _, rfl, _, rfl, h, _, _, _, rfl, rfl, sq fh1, hat1, _, rfl, h, _, _, _, rfl, rfl, sq fh1, hat0, (by show 1 ≤ sizeLine; decide), fun p2' hp2' => ⟨(by show 3 ≤ sizeLine; decide), fun u2 hu2 => ?_⟩⟩
            let G1 : Hp := upd (upd (upd H12 p1' (.tup [.str hl])) u1 (.tup [.str hs[0], .ref p1', .int 0])) r (.lst (gv ++ [.ref u1]))
            have c1 : Ex G1 (upd G1 p2' (.tup [.str hs[0]])) := Evl.Ex.new hp2'
            have c2 : Ex (upd G1 p2' (.tup [.str hs[0]])) (upd (upd G1 p2' (.tup [.str hs[0]])) u2 (.tup [.str hl, .ref p2', .int 1])) := Evl.Ex.new hu2
            have hg2 := (c1.trans c2) _ _ hgv1
            let ρ2 : Rl := ⟨hl, [hs[0]], 1⟩
            have L2' := push_rule (ρ := ρ2) hg2 (Paired.mono (fun _ _ => mRule _ _ _ _ (tu_ex (c1.trans c2))) pg1) ⟨u2, p2', rfl, upd_same, c2 _ _ upd_same⟩
            have b2 : Ex H10 _ := Evl.Ex.mut (o := .lst (gv1 ++ [.ref u2])) ((show Ex H10 G1 from b0).trans (c1.trans c2)) hr0
            have gk : GOk (g ++ [ρ1] ++ [ρ2]) := by
              refine GOk.of hsn ?_ ?_ ?_ ?_
              · simp only [List.length_append, List.length_singleton]; omega
              · simp only [List.length_append, List.length_singleton]; omega
              · intro ρ hρ
                rcases List.mem_append.mp hρ with z | z
                · rcases List.mem_append.mp z with z | z
                  · exact go ρ z
                  · rw [List.mem_singleton.mp z]
                    exact ⟨h0m, by show 1 ≤ 6; decide, fun y hy => .inr (by rw [List.mem_singleton.mp hy]; exact hsn _ hlm), by show (0 : Int) ≤ 0; decide, by show (0 : Int) ≤ 10 ^ 60; decide⟩
                · rw [List.mem_singleton.mp z]
                  exact ⟨hlm, by show 1 ≤ 6; decide, fun y hy => .inr (by rw [List.mem_singleton.mp hy]; exact hsn _ h0m), by show (0 : Int) ≤ 1; decide, by show (1 : Int) ≤ 10 ^ 60; decide⟩
              · intro A hA
                obtain ⟨ρ', m', x⟩ := gs A hA
                exact ⟨ρ', List.mem_append_left _ (List.mem_append_left _ m'), x⟩
            refine ⟨r, _, _, rfl, rfl, hg2, by rw [hgl1, List.length_append]; exact small1000 (by simp only [List.length_singleton]; omega), ?_⟩
            refine ⟨_, rfl, _, _, rfl, rfl, ⟨by decide, by decide⟩, _, _, rfl, rfl, (by show (0 : Int) < 2; decide), rfl, _, rfl, ite2 (fun cd => ?_) (fun cd => ?_)⟩
            · obtain ⟨gv2, hgv2, pg2⟩ := L2'
              refine ⟨_, rfl, .inl ⟨rfl, _, sq hgv2⟩, r, _, rfl, rfl, hgv2, _, rfl, ?_⟩
              have tt := tu_upd (o := .lst gv2.reverse) hgv2 fun _ z => nomatch z
              exact fin _ _ (Evl.Ex.mut b2 hr0) ⟨_, upd_same, Paired.mono (fun _ _ => mRule _ _ _ _ tt) (pr_reverse pg2)⟩ gk.rev
            · exact ⟨_, rfl, fin _ _ b2 L2' gk⟩
          · have gk : GOk g := GOk.of hsn (by omega) (by omega) go gs
            refine ⟨_, rfl, _, _, rfl, rfl, ⟨by decide, by decide⟩, _, _, rfl, rfl, (by show (0 : Int) < 2; decide), rfl, _, rfl, ite2 (fun cd => ?_) (fun cd => ?_)⟩
            · refine ⟨_, rfl, .inl ⟨rfl, _, sq hg⟩, r, _, rfl, rfl, hg, _, rfl, ?_⟩
              have tt := tu_upd (o := .lst gv.reverse) hg fun _ z => nomatch z
              exact fin _ _ (Evl.Ex.mut e12 hr0) ⟨_, upd_same, Paired.mono (fun _ _ => mRule _ _ _ _ tt) (pr_reverse pg)⟩ gk.rev
            · exact ⟨_, rfl, fin _ _ e12 ⟨gv, hg, pg⟩ gk⟩
end
end FR

set_option Elab.async false
set_option linter.all false
set_option maxRecDepth 100000
set_option maxHeartbeats 4000000
namespace FR
open PySem L2
section
variable {P : Program} {w : World} {K : PySem.W.Frag} {mg : Str → Option Value} {base : Heap}
def sgB (p : Str) : Bool := decide (p.cps.toList[0]? = some 39)
theorem sgB_sg {p : Str} (h : isSg p) : sgB p = true := by
  obtain ⟨c, rfl, _⟩ := h
  rfl
theorem sgB_nm {p : Str} (h : isNm p) : sgB p = false := by
  obtain ⟨c, h1, h2⟩ := h.first
  unfold sgB
  rw [h1]
  exact decide_eq_false fun z => by
    have := Option.some.inj z
    omega
theorem sg_of {p : Str} (h : isSg p ∨ isNm p) (e : sgB p = true) : isSg p := h.resolve_right fun z => by rw [sgB_nm z] at e; cases e
theorem nm_of {p : Str} (h : isSg p ∨ isNm p) (e : sgB p = false) : isNm p := h.resolve_left fun z => by rw [sgB_sg z] at e; cases e
theorem part_at {p : Str} (h : isSg p ∨ isNm p) : ∃ c, atI p.cps.toList 0 = some c ∧ decide (V.str ⟨#[c]⟩ = V.str (Str.ofString "'")) = sgB p := by
  have : ∃ c, p.cps.toList[0]? = some c := by
    rcases h with ⟨c, rfl, _⟩ | h
    · exact ⟨39, rfl⟩
    · obtain ⟨c, h1, _⟩ := h.first
      exact ⟨c, h1⟩
  obtain ⟨c, hc⟩ := this
  refine ⟨c, atI_nat (j := 0) hc, ?_⟩
  unfold sgB
  rw [hc, quo]
  by_cases e : c = 39
  · subst e; rfl
  · rw [decide_eq_false (p := V.str ⟨#[c]⟩ = V.str ⟨#[39]⟩) fun z => e ?_, decide_eq_false (p := some c = some 39) fun z => e (Option.some.inj z)]
    have z1 := V.str.inj z
    have z2 : (#[c] : Array Nat) = #[39] := congrArg Str.cps z1
    have z3 : [c] = [39] := congrArg Array.toList z2
    exact (List.cons.inj z3).1
theorem at_i {α : Type} {xs : List α} {i : Nat} {x : α} (h : xs[i]? = some x) : atI xs ((0 : Int) + (i : Nat)) = some x := by
  rw [Int.zero_add]
  exact atI_nat h
theorem filt_succ {α : Type} {f : α → Bool} {l : List α} {j : Nat} {z : α} (h : l[j]? = some z) : (l.take (j + 1)).filter f = (l.take j).filter f ++ (if f z = true then [z] else []) := by
  rw [List.take_add_one, h, List.filter_append]
  congr 1
  show List.filter f [z] = _
  rw [List.filter_cons]
  rfl
/-! ### shorts -/
structure ShOk (g : List Rl) (kvs : List (Key × V)) (m : Nat) : Prop where
  len : kvs.length ≤ m
  sound : ∀ A v, valV kvs (.inr A) = some v → ∃ (k : Nat) (ρ : Rl), v = .int (k : Int) ∧ g[k]? = some ρ ∧ ρ.hd = A ∧ short ρ
  full : ∀ ρ ∈ g.take m, short ρ → (valV kvs (.inr ρ.hd)).isSome = true
abbrev NSh : List Str := ["_law_grammar_here", "_law_shorts_here", "_law_k", "_law_names_here", "_law_part"]
theorem sc_shorts : FnScope NSh ["_law_grammar_here"] (defScope sShorts) := ⟨rfl, rfl, rfl, by decide +kernel, rfl, by decide +kernel, by decide +kernel⟩
def sp_shorts : Sp := fun vs H Q _ => ∃ (a : Addr) (g : List Rl), vs = [.ref a] ∧ LstAt RuleAt H a g ∧ GOk g ∧ ∀ (d : Addr) (H' : Hp) (kvs : List (Key × V)), Ex H H' → H d = none → H' d = some (.dK kvs) → ShOk g kvs g.length → Q (.ref d) H'
theorem names_nil {ps : List Str} : (ps.filter fun p => !sgB p) = [] ↔ ∀ p ∈ ps, sgB p = true := by
  rw [List.filter_eq_nil_iff]
  constructor
  · intro h p hp
    have := h p hp
    simpa using this
  · intro h p hp
    rw [h p hp]
    decide
theorem ok_shorts {f : Addr} {fd : FuncData} {k : Nat} (F : Fun K "_law_shorts" "_law_shorts" sShorts f fd) (U : Txt K mg) : FnOk P w K mg base CX0 (k + 1) f fd ["_law_grammar_here"] sp_shorts := by
  refine F.ok sc_shorts (fun vs H Q E h => ?_) (fun cdv A0 outer s H vs Q E hr h => ?_)
  · obtain ⟨a, g, rfl, _⟩ := h
    rfl
  · obtain ⟨a, g, rfl, ⟨gv, ha, pr⟩, gk, q⟩ := h
    have hu := hu_of hr
    have hlen : gv.length = g.length := Paired.length pr
    have hg9 := gk.few
    refine ⟨_, pss_cons (ps_set (i := 1) sc_shorts.nd rfl (Or.inl rfl) pe_dnewK)
      (pss_cons (ps_for PassesOwn.never rfl (pi_range1 rfl U.range (pa_cons (pe_callB call_len_seq (by rfl) U.len bt_len (pa_cons (pv 0) pa_nil)) pa_nil)) (pg_name (i := 2) sc_shorts.nd rfl (Or.inl rfl))
        (pss_cons (ps_setLc (i := 3) (own := [("_law_part", 4)]) (g := gName 4) rfl sc_shorts.nd rfl rfl (sw_true rfl rfl rfl (by decide +kernel)) (pi_tup (pe_ix ix_tup (pe_ix ix_list (pv 0) (pv 2) (fun _ _ => rfl)) pe_int (fun _ _ => rfl)))
            (blkOk_by (own := [("_law_part", 4)]) (N := NSh) (sc := defScope sShorts) (by decide +kernel)) (fun _ _ _ _ _ => pg_name (i := 4) sc_shorts.nd rfl (Or.inl rfl))
            (fun _ _ _ _ _ => pts_one (pt_cmpR op_ne (pe_ix ix_str (pv 4) pe_int (fun _ _ => rfl)) pe_str (nomark _))) (fun _ _ _ _ _ => pv 4))
        (pss_one (ps_if (PW.pt (pw_and (pt_cmpR (op_eq0 hr.units0) (pv 3) (pe_lst pa_nil) (nomark _))
            (pw_and (pt_cmpR op_lt (pe_callB call_len_seq (by rfl) U.len bt_len (pa_cons (pe_ix ix_tup (pe_ix ix_list (pv 0) (pv 2) (fun _ _ => rfl)) pe_int (fun _ _ => rfl)) pa_nil)) pe_int (nomark _))
            (pw_and1 (pt_cmp (pc_dnotin hu (pe_ix ix_tup (pe_ix ix_list (pv 0) (pv 2) (fun _ _ => rfl)) pe_int (fun _ _ => rfl)) (pv 1)))))))
          (pss_one (ps_dput hu (pv 1) (pe_ix ix_tup (pe_ix ix_list (pv 0) (pv 2) (fun _ _ => rfl)) pe_int (fun _ _ => rfl)) (pv 2) rfl)) pss_nil))))
      (pss_one (ps_ret (pv 1)))), ?_⟩
    intro d hd
    have e0 : Ex H (upd H d (.dK [])) := Evl.Ex.new hd
    refine ⟨_, rfl, a, _, rfl, .inl (sq (e0 _ _ ha)), _, rfl, by omega, by omega, ?_⟩
    refine for_range (lo := 0) (fun i σ H' => Ex H H' ∧ (∃ v2 v3, σ = [some (.ref a), some (.ref d), v2, v3, none]) ∧ ∃ kvs, H' d = some (.dK kvs) ∧ ShOk g kvs i) ⟨e0, ⟨none, none, rfl⟩, [], upd_same, Nat.zero_le _, (fun _ _ z => nomatch z), (fun _ z => by rw [List.take_zero] at z; cases z)⟩ ?_ ?_
    · rintro i σ H1 hi ⟨e1, ⟨v2, v3, rfl⟩, kvs, hk, sk⟩
      have hil : i < gv.length := by
        have : i < ((gv.length : Nat) : Int).toNat := hi
        omega
      have hgi : gv[i]? = some gv[i] := List.getElem?_eq_getElem hil
      obtain ⟨ρ, hρ, rx⟩ := pr_get' pr hgi
      have ha1 := e1 _ _ ha
      obtain ⟨b, p, hbv, hb, hp⟩ := mRule _ _ _ _ (tu_ex e1) rx
      rw [hbv] at hgi
      have hρm := List.mem_of_getElem? hρ
      have hpse := gk.pse ρ hρm
      have hpsl := gk.psl ρ hρm
      refine ⟨_, rfl, _, rfl, a, _, _, _, rfl, rfl, sq ha1, at_i hgi, b, _, 1, _, rfl, rfl, st hb, atI_nat (j := 1) rfl, p, rfl, ⟨_, st hp⟩, fun n hn => ?_⟩
      have enp : p ≠ n := ne_of_none hp hn
      refine lc_tup (K := K) (xs := ρ.ps.map V.str) (fun j H' => Ex H1 H' ∧ H' n = some (.lst (((ρ.ps.take j).filter fun p => !sgB p).map V.str))) ⟨Evl.Ex.new hn, upd_same⟩ (fun j H' _ ⟨e, _⟩ => st (e _ _ hp)) ?_ ?_
      · rintro j x H2 hj ⟨e2, h2⟩
        obtain ⟨z, hz, rfl⟩ : ∃ z, ρ.ps[j]? = some z ∧ V.str z = x := by
          rw [List.getElem?_map] at hj
          exact Option.map_eq_some_iff.mp hj
        have hzp := hpse z (List.mem_of_getElem? hz)
        obtain ⟨c, hc, hcq⟩ := part_at hzp
        refine ⟨rfl, _, rfl, z, 0, c, rfl, rfl, small100 (len100 hzp), hc, rfl, _, rfl, ?_⟩
        rw [hcq]
        have hts := filt_succ (f := fun p => !sgB p) hz
        cases hzb : sgB z with
        | true =>
          refine iteF ⟨e2, ?_⟩
          rw [hts, hzb, h2]
          simp
        | false =>
          refine iteT ⟨_, rfl, _, h2, ?_, Evl.Ex.mut e2 hn, ?_⟩
          · rw [List.length_map]
            have := List.length_filter_le (fun p => !sgB p) (ρ.ps.take j)
            have h3 : (ρ.ps.take j).length ≤ ρ.ps.length := by rw [List.length_take]; exact Nat.min_le_right _ _
            exact small1000 (by omega)
          · rw [upd_same, hts, hzb, List.map_append]
            rfl
      · rintro H2 ⟨e2, h2⟩
        rw [List.length_map, List.take_of_length_le (Nat.le_refl _)] at h2
        have e12 := e1.trans e2
        have ha2 := e12 _ _ ha
        have hb2 := e2 _ _ hb
        have hp2 := e2 _ _ hp
        have hk2 := e2 _ _ hk
        refine ⟨_, rfl, Nat.zero_le _, fun m hm => ⟨n, m, _, rfl, rfl, sq (Evl.Ex.new hm _ _ h2), sq upd_same, _, rfl, ?_⟩⟩
        have em : Ex H2 (upd H2 m (.lst [])) := Evl.Ex.new hm
        have skip : ¬ short ρ ∨ (valV kvs (.inr ρ.hd)).isSome = true → ShOk g kvs (i + 1) := fun hh => ⟨Nat.le_succ_of_le sk.len, sk.sound, fun ρ' hρ' hs => by
          rw [List.take_add_one, hρ] at hρ'
          rcases List.mem_append.mp hρ' with z | z
          · exact sk.full ρ' z hs
          · have : ρ' = ρ := by simpa using z
            subst this
            exact hh.resolve_left fun y => y hs⟩
        have stay : ShOk g kvs (i + 1) → Ex H (upd H2 m (.lst [])) ∧ (∃ v2 v3, [some (V.ref a), some (V.ref d), some (V.int (0 + (i : Nat))), some (V.ref n), none] = [some (V.ref a), some (V.ref d), v2, v3, none]) ∧ ∃ kvs, (upd H2 m (.lst [])) d = some (.dK kvs) ∧ ShOk g kvs (i + 1) :=
          fun sk' => ⟨e12.trans em, ⟨_, _, rfl⟩, kvs, em _ _ hk2, sk'⟩
        refine ite2 (fun c1 => ?_) (fun c1 => ?_)
        · have hsig : ∀ p ∈ ρ.ps, sgB p = true := names_nil.mp (by
            rw [List.isEmpty_iff, List.map_eq_nil_iff] at c1
            exact c1)
          refine ⟨_, rfl, _, rfl, a, _, _, _, rfl, rfl, sq (em _ _ ha2), at_i hgi, b, _, 1, _, rfl, rfl, st (em _ _ hb2), atI_nat (j := 1) rfl, p, _, rfl, .inr (st (em _ _ hp2)), _, _, rfl, rfl, _, rfl, ite2 (fun c2 => ?_) (fun c2 => ?_)⟩
          · have c2 := of_decide_eq_true c2
            rw [List.length_map] at c2
            have hsh : short ρ := ⟨fun z hz => sg_of (hpse z hz) (hsig z hz), by omega⟩
            refine ⟨_, rfl, _, rfl, a, _, _, _, rfl, rfl, sq (em _ _ ha2), at_i hgi, b, _, 0, _, rfl, rfl, st (em _ _ hb2), atI_nat (j := 0) rfl, _, rfl, d, _, rfl, DGet.k (k := Sum.inr ρ.hd) (em _ _ hk2), _, rfl, ?_⟩
            cases hv : valV kvs (Sum.inr ρ.hd) with
            | some v =>
              refine iteF (stay (skip (.inr ?_)))
              rw [hv]; rfl
            | none =>
              refine iteT ?_
              refine ⟨_, rfl, _, rfl, _, rfl, _, rfl, a, _, _, _, rfl, rfl, sq (em _ _ ha2), at_i hgi, b, _, 0, _, rfl, rfl, st (em _ _ hb2), atI_nat (j := 0) rfl, d, _, rfl, DPut.k (k := Sum.inr ρ.hd) (em _ _ hk2) (small1000 (by have := sk.len; omega)), ?_⟩
              refine ⟨Evl.Ex.mut (e12.trans em) hd, ⟨_, _, rfl⟩, _, upd_same, ?_, fun A v hA => ?_, fun ρ' hρ' hs => ?_⟩
              · exact Nat.le_trans (length_putK _ _ _) (Nat.succ_le_succ sk.len)
              · rw [valV_put] at hA
                by_cases e : (Sum.inr A : Key) = Sum.inr ρ.hd
                · rw [if_pos e] at hA
                  have hv' := Option.some.inj hA
                  exact ⟨i, ρ, by rw [← hv', Int.zero_add], hρ, (Sum.inr.inj e).symm, hsh⟩
                · rw [if_neg e] at hA
                  exact sk.sound A v hA
              · rw [valV_put]
                by_cases e : (Sum.inr ρ'.hd : Key) = Sum.inr ρ.hd
                · rw [if_pos e]
                  rfl
                · rw [if_neg e]
                  rw [List.take_add_one, hρ] at hρ'
                  rcases List.mem_append.mp hρ' with z | z
                  · exact sk.full ρ' z hs
                  · have : ρ' = ρ := by simpa using z
                    subst this
                    exact absurd rfl e
          · have c2 : ¬ _ := fun z => c2 (decide_eq_true z)
            refine iteF (stay (skip (.inl fun hs => c2 ?_)))
            rw [List.length_map]
            have := hs.2
            omega
        · refine iteF (stay (skip (.inl fun hs => c1 ?_)))
          rw [List.isEmpty_iff, List.map_eq_nil_iff]
          exact names_nil.mpr fun z hz => sgB_sg (hs.1 z hz)
    · rintro σ H1 ⟨e1, ⟨v2, v3, rfl⟩, kvs, hk, sk⟩
      have : (((gv.length : Nat) : Int)).toNat = g.length := by omega
      rw [this] at sk
      exact ⟨_, rfl, q d H1 kvs e1 hd hk sk⟩
end
end FR

set_option Elab.async false
set_option linter.all false
set_option maxRecDepth 100000
set_option maxHeartbeats 4000000
namespace FR
open PySem L2
section
variable {P : Program} {w : World} {K : PySem.W.Frag} {mg : Str → Option Value} {base : Heap}
/-! ### need -/
def need1 (p : Str) : Int := 1 + (if (!sgB p) = true then 1 else 0)
def needOf (ps : List Str) : Int := (ps.map need1).sum
theorem need1_bd (p : Str) : 1 ≤ need1 p ∧ need1 p ≤ 2 := by
  unfold need1
  cases sgB p <;> decide
theorem needOf_cons (p : Str) (ps : List Str) : needOf (p :: ps) = need1 p + needOf ps := by
  unfold needOf
  rw [List.map_cons, List.sum_cons]
theorem needOf_nil : needOf [] = 0 := rfl
theorem needOf_append (a b : List Str) : needOf (a ++ b) = needOf a + needOf b := by
  induction a with
  | nil => rw [List.nil_append, needOf_nil, Int.zero_add]
  | cons p a ih => rw [List.cons_append, needOf_cons, needOf_cons, ih, Int.add_assoc]
theorem needOf_nn (ps : List Str) : (ps.length : Int) ≤ needOf ps := by
  induction ps with
  | nil => exact Int.le_refl _
  | cons p ps ih =>
    rw [needOf_cons, List.length_cons]
    have := (need1_bd p).1
    omega
abbrev NNd : List Str := ["_law_parts_here", "_law_part"]
theorem sc_need : FnScope NNd ["_law_parts_here"] (defScope sNeed) := ⟨rfl, rfl, rfl, by decide +kernel, rfl, by decide +kernel, by decide +kernel⟩
def sp_need : Sp := fun vs H Q _ => ∃ (a : Addr) (ps : List Str), vs = [.ref a] ∧ (H a = some (.lst (ps.map V.str)) ∨ H a = some (.tup (ps.map V.str))) ∧ ps.length ≤ 100 ∧ (∀ p ∈ ps, isSg p ∨ isNm p) ∧ ∀ H', Ex H H' → Q (.int (needOf ps)) H'
theorem ok_need {f : Addr} {fd : FuncData} {k : Nat} (F : Fun K "_law_need" "_law_need" sNeed f fd) (U : Txt K mg) : FnOk P w K mg base CX0 (k + 1) f fd ["_law_parts_here"] sp_need := by
  refine F.ok sc_need (fun vs H Q E h => ?_) (fun cdv A0 outer s H vs Q E hr h => ?_)
  · obtain ⟨a, ps, rfl, _⟩ := h
    rfl
  · obtain ⟨a, ps, rfl, ho, hl, hp, q⟩ := h
    have stp : ∀ (d : Addr), H d = none → ∀ j x H2, (ps.map V.str)[j]? = some x → (Ex H H2 ∧ H2 d = some (.lst (((ps.take j).map need1).map V.int))) → ∃ z, x = V.str z ∧ ps[j]? = some z ∧ (isSg z ∨ isNm z) ∧ ((ps.take j).map need1).length < sizeLine ∧
        (Ex H (upd H2 d (.lst (((ps.take j).map need1).map V.int ++ [V.int (need1 z)]))) ∧ (upd H2 d (.lst (((ps.take j).map need1).map V.int ++ [V.int (need1 z)]))) d = some (.lst (((ps.take (j + 1)).map need1).map V.int))) := by
      rintro d hd j x H2 hj ⟨e2, h2⟩
      obtain ⟨z, hz, rfl⟩ : ∃ z, ps[j]? = some z ∧ V.str z = x := by
        rw [List.getElem?_map] at hj
        exact Option.map_eq_some_iff.mp hj
      have hjl := (List.getElem?_eq_some_iff.mp hz).1
      refine ⟨z, rfl, hz, hp z (List.mem_of_getElem? hz), ?_, Evl.Ex.mut e2 hd, ?_⟩
      · rw [List.length_map, List.length_take]
        exact small1000 (by omega)
      · rw [upd_same, List.take_add_one, hz, List.map_append, List.map_append]
        rfl
    rcases ho with ha | ha
    · refine ⟨_, pss_one (ps_ret (pe_callB (cr_sum rfl) (by rfl) U.sum bt_sum (pa_cons (pe_lc (own := [("_law_part", 1)]) (g := gName 1) (tt := tYes) (by rfl) sc_need.nd (pi_list (pv 0))
            (blkOk_by (own := [("_law_part", 1)]) (N := NNd) (sc := defScope sNeed) (by decide +kernel)) (fun _ _ _ _ _ => pg_name (i := 1) sc_need.nd rfl (Or.inl rfl)) (fun _ _ _ _ _ => pts_nil)
            (fun _ _ _ _ _ => pe_op op_add pe_int (pe_callTy call_int1 (by rfl) U.int bt_int (pa_cons (pe_cmpR op_ne (pe_ix ix_str (pv 1) pe_int (fun _ _ => rfl)) pe_str (nomark _)) pa_nil)))) pa_nil))), ?_⟩
      refine ⟨_, rfl, a, rfl, ⟨_, sq ha⟩, fun d hd => ?_⟩
      refine lc_list (K := K) (xs := ps.map V.str) (fun j H' => Ex H H' ∧ H' d = some (.lst (((ps.take j).map need1).map V.int))) ⟨Evl.Ex.new hd, upd_same⟩ (fun j H' _ ⟨e, _⟩ => sq (e _ _ ha)) ?_ ?_
      · rintro j x H2 hj hI
        obtain ⟨z, rfl, hz, hzp, hzl, n1, n2⟩ := stp d hd j x H2 hj hI
        obtain ⟨c, hc, hcq⟩ := part_at hzp
        refine ⟨rfl, yes (iteT ⟨_, rfl, z, 0, c, rfl, rfl, small100 (len100 hzp), hc, rfl, .inr ⟨_, rfl, _, _, rfl, rfl, ?_⟩⟩)⟩
        rw [hcq]
        refine ⟨_, hI.2, by rw [List.length_map]; exact hzl, n1, n2⟩
      · rintro H2 ⟨e2, h2⟩
        rw [List.length_map, List.take_of_length_le (Nat.le_refl _)] at h2
        exact ⟨d, _, rfl, sq h2, q H2 e2⟩
    · refine ⟨_, pss_one (ps_ret (pe_callB (cr_sum rfl) (by rfl) U.sum bt_sum (pa_cons (pe_lc (own := [("_law_part", 1)]) (g := gName 1) (tt := tYes) (by rfl) sc_need.nd (pi_tup (pv 0))
            (blkOk_by (own := [("_law_part", 1)]) (N := NNd) (sc := defScope sNeed) (by decide +kernel)) (fun _ _ _ _ _ => pg_name (i := 1) sc_need.nd rfl (Or.inl rfl)) (fun _ _ _ _ _ => pts_nil)
            (fun _ _ _ _ _ => pe_op op_add pe_int (pe_callTy call_int1 (by rfl) U.int bt_int (pa_cons (pe_cmpR op_ne (pe_ix ix_str (pv 1) pe_int (fun _ _ => rfl)) pe_str (nomark _)) pa_nil)))) pa_nil))), ?_⟩
      refine ⟨_, rfl, a, rfl, ⟨_, st ha⟩, fun d hd => ?_⟩
      refine lc_tup (K := K) (xs := ps.map V.str) (fun j H' => Ex H H' ∧ H' d = some (.lst (((ps.take j).map need1).map V.int))) ⟨Evl.Ex.new hd, upd_same⟩ (fun j H' _ ⟨e, _⟩ => st (e _ _ ha)) ?_ ?_
      · rintro j x H2 hj hI
        obtain ⟨z, rfl, hz, hzp, hzl, n1, n2⟩ := stp d hd j x H2 hj hI
        obtain ⟨c, hc, hcq⟩ := part_at hzp
        refine ⟨rfl, yes (iteT ⟨_, rfl, z, 0, c, rfl, rfl, small100 (len100 hzp), hc, rfl, .inr ⟨_, rfl, _, _, rfl, rfl, ?_⟩⟩)⟩
        rw [hcq]
        refine ⟨_, hI.2, by rw [List.length_map]; exact hzl, n1, n2⟩
      · rintro H2 ⟨e2, h2⟩
        rw [List.length_map, List.take_of_length_le (Nat.le_refl _)] at h2
        exact ⟨d, _, rfl, sq h2, q H2 e2⟩
/-! ### open -/
def stB (kvs : List (Key × V)) (p : Str) : Bool := !sgB p && !(valV kvs (.inr p)).isSome
def opB (g : List Rl) (kvs : List (Key × V)) (A : Str) (most : Int) (k : Nat) : Bool := match g[k]? with
  | some ρ => decide (ρ.hd = A) && (ρ.ps.filter (stB kvs)).isEmpty && decide (needOf ρ.ps ≤ most)
  | none => false
abbrev NOp : List Str := ["_law_grammar_here", "_law_shorts_here", "_law_name", "_law_most", "_law_some", "_law_k", "_law_barren", "_law_part"]
theorem sc_open : FnScope NOp ["_law_grammar_here", "_law_shorts_here", "_law_name", "_law_most"] (defScope sOpen) := ⟨rfl, rfl, rfl, by decide +kernel, rfl, by decide +kernel, by decide +kernel⟩
def sp_open : Sp := fun vs H Q _ => ∃ (a d : Addr) (g : List Rl) (kvs : List (Key × V)) (A : Str) (most : Int), vs = [.ref a, .ref d, .str A, .int most] ∧ LstAt RuleAt H a g ∧ GOk g ∧ H d = some (.dK kvs) ∧
  ∀ (l : Addr) (H' : Hp), Ex H H' → H l = none → H' l = some (.lst (((List.range g.length).filter (opB g kvs A most)).map fun k : Nat => V.int (k : Int))) → Q (.ref l) H'
theorem ok_open {f fN : Addr} {fd fdN : FuncData} {k : Nat} (F : Fun K "_law_open" "_law_open" sOpen f fd) (U : Txt K mg) (GN : FnG P w K mg base "_law_need" k ["_law_parts_here"] sp_need fN fdN) :
    FnOk P w K mg base CX0 (k + 1) f fd ["_law_grammar_here", "_law_shorts_here", "_law_name", "_law_most"] sp_open := by
  refine F.ok sc_open (fun vs H Q E h => ?_) (fun cdv A0 outer s H vs Q E hr h => ?_)
  · obtain ⟨a, d, g, kvs, A, most, rfl, _⟩ := h
    rfl
  · obtain ⟨a, d, g, kvs, A, most, rfl, ⟨gv, ha, pr⟩, gk, hd, q⟩ := h
    have hu := hu_of hr
    have hlen : gv.length = g.length := Paired.length pr
    have hg9 := gk.few
    refine ⟨_, pss_cons (ps_set (i := 4) sc_open.nd rfl (Or.inl rfl) (pe_lst pa_nil))
      (pss_cons (ps_for PassesOwn.never rfl (pi_range1 rfl U.range (pa_cons (pe_callB call_len_seq (by rfl) U.len bt_len (pa_cons (pv 0) pa_nil)) pa_nil)) (pg_name (i := 5) sc_open.nd rfl (Or.inl rfl))
        (pss_cons (ps_setLc (i := 6) (own := [("_law_part", 7)]) (g := gName 7) rfl sc_open.nd rfl rfl (sw_true rfl rfl rfl (by decide +kernel)) (pi_tup (pe_ix ix_tup (pe_ix ix_list (pv 0) (pv 5) (fun _ _ => rfl)) pe_int (fun _ _ => rfl)))
            (blkOk_by (own := [("_law_part", 7)]) (N := NOp) (sc := defScope sOpen) (by decide +kernel)) (fun _ _ _ _ _ => pg_name (i := 7) sc_open.nd rfl (Or.inl rfl))
            (fun _ _ _ _ _ => pts_one (PW.pt (pw_and (pt_cmpR op_ne (pe_ix ix_str (pv 7) pe_int (fun _ _ => rfl)) pe_str (nomark _)) (pw_and1 (pt_cmp (pc_dnotin hu (pv 7) (pv 1))))))) (fun _ _ _ _ _ => pv 7))
        (pss_one (ps_if (PW.pt (pw_and (pt_cmpR op_eq (pe_ix ix_tup (pe_ix ix_list (pv 0) (pv 5) (fun _ _ => rfl)) pe_int (fun _ _ => rfl)) (pv 2) (nomark _))
            (pw_and (pt_cmpR (op_eq0 hr.units0) (pv 6) (pe_lst pa_nil) (nomark _))
            (pw_and1 (pt_cmpR op_le (pe_f GN hr (by rfl) (pa_cons (pe_ix ix_tup (pe_ix ix_list (pv 0) (pv 5) (fun _ _ => rfl)) pe_int (fun _ _ => rfl)) pa_nil)) (pv 3) (nomark _))))))
          (pss_one (ps_expr (pe_bm PySem.F.plainAttrs_list PySem.F.slot_list_append PySem.F.type_list_append mt_append (pv 4) (pa_cons (pv 5) pa_nil)))) pss_nil))))
      (pss_one (ps_ret (pv 4)))), ?_⟩
    refine ⟨Nat.zero_le _, fun l hl => ?_⟩
    have e0 : Ex H (upd H l (.lst [])) := Evl.Ex.new hl
    refine ⟨_, rfl, a, _, rfl, .inl (sq (e0 _ _ ha)), _, rfl, by omega, by omega, ?_⟩
    refine for_range (lo := 0) (fun i σ H' => Ex H H' ∧ (∃ v5 v6, σ = [some (.ref a), some (.ref d), some (.str A), some (.int most), some (.ref l), v5, v6, none]) ∧ H' l = some (.lst (((List.range i).filter (opB g kvs A most)).map fun k : Nat => V.int (k : Int)))) ⟨e0, ⟨none, none, rfl⟩, upd_same⟩ ?_ ?_
    · rintro i σ H1 hi ⟨e1, ⟨v5, v6, rfl⟩, hL⟩
      have hil : i < gv.length := by
        have : i < ((gv.length : Nat) : Int).toNat := hi
        omega
      have hgi : gv[i]? = some gv[i] := List.getElem?_eq_getElem hil
      obtain ⟨ρ, hρ, rx⟩ := pr_get' pr hgi
      have ha1 := e1 _ _ ha
      have hd1 := e1 _ _ hd
      obtain ⟨b, p, hbv, hb, hp⟩ := mRule _ _ _ _ (tu_ex e1) rx
      rw [hbv] at hgi
      have hρm := List.mem_of_getElem? hρ
      have hpse := gk.pse ρ hρm
      have hpsl := gk.psl ρ hρm
      have hrs : (List.range (i + 1)).filter (opB g kvs A most) = (List.range i).filter (opB g kvs A most) ++ (if opB g kvs A most i = true then [i] else []) := by
        rw [List.range_succ, List.filter_append, List.filter_cons]
        rfl
      have hopB : opB g kvs A most i = (decide (ρ.hd = A) && (ρ.ps.filter (stB kvs)).isEmpty && decide (needOf ρ.ps ≤ most)) := by
        unfold opB
        rw [hρ]
      refine ⟨_, rfl, _, rfl, a, _, _, _, rfl, rfl, sq ha1, at_i hgi, b, _, 1, _, rfl, rfl, st hb, atI_nat (j := 1) rfl, p, rfl, ⟨_, st hp⟩, fun n hn => ?_⟩
      refine lc_tup (K := K) (xs := ρ.ps.map V.str) (fun j H' => Ex H1 H' ∧ H' n = some (.lst (((ρ.ps.take j).filter (stB kvs)).map V.str))) ⟨Evl.Ex.new hn, upd_same⟩ (fun j H' _ ⟨e, _⟩ => st (e _ _ hp)) ?_ ?_
      · rintro j x H2 hj ⟨e2, h2⟩
        obtain ⟨z, hz, rfl⟩ : ∃ z, ρ.ps[j]? = some z ∧ V.str z = x := by
          rw [List.getElem?_map] at hj
          exact Option.map_eq_some_iff.mp hj
        have hzp := hpse z (List.mem_of_getElem? hz)
        obtain ⟨c, hc, hcq⟩ := part_at hzp
        have hts := filt_succ (f := stB kvs) hz
        have skip : stB kvs z = false → Ex H1 H2 ∧ H2 n = some (.lst (((ρ.ps.take (j + 1)).filter (stB kvs)).map V.str)) := fun hf => ⟨e2, by rw [hts, hf, h2]; simp⟩
        refine ⟨rfl, _, rfl, z, 0, c, rfl, rfl, small100 (len100 hzp), hc, rfl, _, rfl, ?_⟩
        rw [hcq]
        cases hzb : sgB z with
        | true => exact iteF (iteF (skip (by unfold stB; rw [hzb]; rfl)))
        | false =>
          refine iteT ⟨_, rfl, _, rfl, d, _, rfl, DGet.k (k := Sum.inr z) (e2 _ _ hd1), _, rfl, ?_⟩
          cases hv : valV kvs (Sum.inr z) with
          | some v => exact iteF (skip (by unfold stB; rw [hzb, hv]; rfl))
          | none =>
            have hst : stB kvs z = true := by unfold stB; rw [hzb, hv]; rfl
            refine iteT ⟨_, rfl, _, h2, ?_, Evl.Ex.mut e2 hn, ?_⟩
            · rw [List.length_map]
              have := List.length_filter_le (stB kvs) (ρ.ps.take j)
              have h3 : (ρ.ps.take j).length ≤ ρ.ps.length := by rw [List.length_take]; exact Nat.min_le_right _ _
              exact small1000 (by omega)
            · rw [upd_same, hts, hst, List.map_append]
              rfl
      · rintro H2 ⟨e2, h2⟩
        rw [List.length_map, List.take_of_length_le (Nat.le_refl _)] at h2
        have e12 := e1.trans e2
        have ha2 := e12 _ _ ha
        have hb2 := e2 _ _ hb
        have hp2 := e2 _ _ hp
        have hL2 := e2 _ _ hL
        have skip : ∀ H3, Ex H2 H3 → opB g kvs A most i = false → Ex H H3 ∧ (∃ v5 v6, [some (V.ref a), some (V.ref d), some (V.str A), some (V.int most), some (V.ref l), some (V.int (0 + (i : Nat))), some (V.ref n), none] = [some (V.ref a), some (V.ref d), some (V.str A), some (V.int most), some (V.ref l), v5, v6, none]) ∧ H3 l = some (.lst (((List.range (i + 1)).filter (opB g kvs A most)).map fun k : Nat => V.int (k : Int))) := fun H3 e3 hf =>
          ⟨e12.trans e3, ⟨_, _, rfl⟩, by rw [hrs, hf]; simpa using e3 _ _ hL2⟩
        refine ⟨_, rfl, _, rfl, a, _, _, _, rfl, rfl, sq ha2, at_i hgi, b, _, 0, _, rfl, rfl, st hb2, atI_nat (j := 0) rfl, _, rfl, rfl, _, rfl, ite2 (fun c1 => ?_) (fun c1 => ?_)⟩
        · have c1 : ρ.hd = A := V.str.inj (of_decide_eq_true c1)
          refine ⟨_, rfl, Nat.zero_le _, fun m hm => ⟨n, m, _, rfl, rfl, sq (Evl.Ex.new hm _ _ h2), sq upd_same, _, rfl, ?_⟩⟩
          have em : Ex H2 (upd H2 m (.lst [])) := Evl.Ex.new hm
          have hiE : ((ρ.ps.filter (stB kvs)).map V.str).isEmpty = (ρ.ps.filter (stB kvs)).isEmpty := by cases ρ.ps.filter (stB kvs) <;> rfl
          rw [hiE]
          refine ite2 (fun c2 => ?_) (fun c2 => ?_)
          · refine ⟨_, rfl, _, rfl, a, _, _, _, rfl, rfl, sq (em _ _ ha2), at_i hgi, b, _, 1, _, rfl, rfl, st (em _ _ hb2), atI_nat (j := 1) rfl, p, _, rfl, .inr (em _ _ hp2), by omega, hpse, fun H3 e3 => ⟨_, rfl, _, _, rfl, rfl, _, rfl, ite2 (fun c3 => ?_) (fun c3 => ?_)⟩⟩
            · have ht : opB g kvs A most i = true := by
                rw [hopB, c2, decide_eq_true c1]
                exact c3
              have hL3 := e3 _ _ (em _ _ hL2)
              refine ⟨_, rfl, .inl ⟨rfl, _, sq hL3⟩, _, rfl, l, _, _, rfl, rfl, hL3, ?_, Evl.Ex.mut ((e12.trans em).trans e3) hl, ⟨_, _, rfl⟩, ?_⟩
              · rw [List.length_map]
                have := List.length_filter_le (opB g kvs A most) (List.range i)
                rw [List.length_range] at this
                exact small1000 (by omega)
              · rw [upd_same, hrs, ht, List.map_append, Int.zero_add]
                rfl
            · exact skip H3 (em.trans e3) (by
                rw [hopB, Bool.eq_false_iff.mpr c3, Bool.and_false])
          · exact iteF (skip _ em (by rw [hopB, Bool.eq_false_iff.mpr c2, Bool.and_false, Bool.false_and]))
        · exact iteF (skip _ (Evl.Ex.refl _) (by
            rw [hopB, decide_eq_false (fun z => c1 (decide_eq_true (by rw [z]))), Bool.false_and, Bool.false_and]))
    · rintro σ H1 ⟨e1, ⟨v5, v6, rfl⟩, hL⟩
      have : (((gv.length : Nat) : Int)).toNat = g.length := by omega
      rw [this] at hL
      exact ⟨_, rfl, q l H1 e1 hl hL⟩
end
end FR

set_option Elab.async false
set_option linter.all false
set_option maxRecDepth 100000
set_option maxHeartbeats 4000000
namespace FR
open PySem L2
/-! ### rows and their texts -/
inductive Rd (g : List Rl) : List Str → List Nat → List Nat → Prop
  | nil : Rd g [] [] []
  | sg {c ps row t} : Rd g ps row t → Rd g (sgn c :: ps) row (c :: t)
  | nm {r ρ ps row t} : g[r]? = some ρ → isNm ρ.hd → Rd g (ρ.ps ++ ps) row t → Rd g (ρ.hd :: ps) (r :: row) t
theorem Rd.fo {g : List Rl} {t : List Nat} {ps : List Str} {row t2 : List Nat} (h : Rd g ps row t2) : ∀ pre : List Nat, t = pre ++ t2 → Fo g t ps pre.length t.length row := by
  induction h with
  | nil =>
    intro pre e
    rw [List.append_nil] at e
    rw [e]
    exact .nil _
  | @sg c ps row t' _ ih =>
    intro pre e
    have := ih (pre ++ [c]) (by rw [e, List.append_assoc]; rfl)
    rw [List.length_append, List.length_singleton] at this
    exact .sg (by rw [e]; simp) this
  | @nm r ρ ps row t' hr hn _ ih =>
    intro pre e
    obtain ⟨k, r1, r2, er, f1, f2⟩ := (ih pre e).split
    rw [er]
    exact .nm hr hn f1 f2
structure RowI (g : List Rl) (kvs : List (Key × V)) (start : Str) (ps : List Str) (row : List Nat) (held : Nat) : Prop where
  bd : (held : Int) + needOf ps ≤ 4
  ok : ∀ p ∈ ps, isSg p ∨ (isNm p ∧ (valV kvs (.inr p)).isSome = true)
  sz : (row.length : Int) + needOf ps - ps.length ≤ 70
  rd : ∃ t1 : List Nat, t1.length = held ∧ ∀ row2 t2, Rd g ps row2 t2 → Rd g [start] (row ++ row2) (t1 ++ t2)
def rowM (n : Nat) (ps : List Str) (row : List Nat) : Nat := (n - row.length) * 10 + (2 * needOf ps - ps.length).toNat
theorem need1_sg {p : Str} (h : isSg p) : need1 p = 1 := by unfold need1; rw [sgB_sg h]; rfl
theorem need1_nm {p : Str} (h : isNm p) : need1 p = 2 := by unfold need1; rw [sgB_nm h]; rfl
theorem needOf_sg {ps : List Str} (h : ∀ p ∈ ps, isSg p) : needOf ps = ps.length := by
  induction ps with
  | nil => rfl
  | cons p ps ih =>
    rw [needOf_cons, need1_sg (h p (List.mem_cons_self ..)), ih (fun q hq => h q (List.mem_cons_of_mem _ hq)), List.length_cons]
    omega
section
variable {g : List Rl} {kvs : List (Key × V)} {start p : Str} {ps : List Str} {row : List Nat} {held n : Nat}
theorem RowI.sign (h : RowI g kvs start (p :: ps) row held) (hp : isSg p) : RowI g kvs start ps row (held + 1) ∧ rowM n ps row < rowM n (p :: ps) row := by
  have hb := h.bd
  have hz := h.sz
  rw [needOf_cons, need1_sg hp] at hb hz
  rw [List.length_cons] at hz
  refine ⟨⟨by omega, fun q hq => h.ok q (List.mem_cons_of_mem _ hq), by omega, ?_⟩, ?_⟩
  · obtain ⟨t1, e, r⟩ := h.rd
    obtain ⟨c, rfl, _⟩ := hp
    refine ⟨t1 ++ [c], by rw [List.length_append, e]; rfl, fun row2 t2 hr => ?_⟩
    have := r row2 (c :: t2) (.sg hr)
    rw [List.append_assoc]
    exact this
  · unfold rowM
    rw [needOf_cons, need1_sg hp, List.length_cons]
    have := needOf_nn ps
    omega
theorem RowI.name (h : RowI g kvs start (p :: ps) row held) (hn9 : n ≤ 63) (hp : isNm p) {r : Nat} {ρ : Rl} (hr : g[r]? = some ρ) (hh : ρ.hd = p) (hb2 : needOf ρ.ps ≤ 4 - held - needOf ps)
    (ho : ∀ z ∈ ρ.ps, isSg z ∨ (isNm z ∧ (valV kvs (.inr z)).isSome = true)) (hc : row.length < n ∨ short ρ) : RowI g kvs start (ρ.ps ++ ps) (row ++ [r]) held ∧ rowM n (ρ.ps ++ ps) (row ++ [r]) < rowM n (p :: ps) row := by
  have hb := h.bd
  have hz := h.sz
  rw [needOf_cons, need1_nm hp] at hb hz
  rw [List.length_cons] at hz
  have h1 := needOf_nn ps
  have h2 := needOf_nn ρ.ps
  refine ⟨⟨by rw [needOf_append]; omega, fun q hq => ?_, ?_, ?_⟩, ?_⟩
  · rcases List.mem_append.mp hq with z | z
    · exact ho q z
    · exact h.ok q (List.mem_cons_of_mem _ z)
  · rw [needOf_append, List.length_append, List.length_append, List.length_singleton]
    rcases hc with hc | hc
    · omega
    · have := needOf_sg hc.1
      omega
  · obtain ⟨t1, e, rd⟩ := h.rd
    refine ⟨t1, e, fun row2 t2 h3 => ?_⟩
    have := rd (r :: row2) t2 (by
      rw [← hh]
      exact .nm hr (by rw [hh]; exact hp) h3)
    rw [List.append_assoc]
    exact this
  · unfold rowM
    rw [needOf_append, needOf_cons, need1_nm hp, List.length_append, List.length_append, List.length_singleton, List.length_cons]
    rcases hc with hc | hc
    · omega
    · have := needOf_sg hc.1
      have := hc.2
      omega
end
theorem opB_of {g : List Rl} {kvs : List (Key × V)} {A : Str} {most : Int} {k : Nat} (gk : GOk g) (h : opB g kvs A most k = true) : ∃ ρ, g[k]? = some ρ ∧ ρ.hd = A ∧ needOf ρ.ps ≤ most ∧ ∀ z ∈ ρ.ps, isSg z ∨ (isNm z ∧ (valV kvs (.inr z)).isSome = true) := by
  unfold opB at h
  cases hg : g[k]? with
  | none => rw [hg] at h; cases h
  | some ρ =>
    rw [hg] at h
    simp only [Bool.and_eq_true, decide_eq_true_eq, List.isEmpty_iff] at h
    obtain ⟨⟨h1, h2⟩, h3⟩ := h
    refine ⟨ρ, rfl, h1, h3, fun z hz => ?_⟩
    have hz2 := gk.pse ρ (List.mem_of_getElem? hg) z hz
    have := (List.filter_eq_nil_iff.mp h2) z hz
    unfold stB at this
    rcases hz2 with y | y
    · exact .inl y
    · refine .inr ⟨y, ?_⟩
      rw [sgB_nm y] at this
      cases hv : valV kvs (Sum.inr z) with
      | some v => rfl
      | none => rw [hv] at this; exact absurd rfl this
theorem opB_short {g : List Rl} {kvs : List (Key × V)} {most : Int} {k : Nat} {ρ : Rl} (hg : g[k]? = some ρ) (hs : short ρ) (hm : 2 ≤ most) : opB g kvs ρ.hd most k = true := by
  unfold opB
  rw [hg]
  simp only [Bool.and_eq_true, decide_eq_true_eq, List.isEmpty_iff]
  refine ⟨⟨trivial, ?_⟩, ?_⟩
  · rw [List.filter_eq_nil_iff]
    intro z hz
    unfold stB
    rw [sgB_sg (hs.1 z hz), Bool.not_true, Bool.false_and]
    exact Bool.false_ne_true
  · rw [needOf_sg hs.1]
    have := hs.2
    omega
theorem RowI.start {g : List Rl} {kvs : List (Key × V)} {A : Str} (hn : isNm A) (hk : (valV kvs (.inr A)).isSome = true) : RowI g kvs A [A] [] 0 := by
  have e : needOf [A] = 2 := by rw [needOf_cons, need1_nm hn]; rfl
  refine ⟨by rw [e]; decide, fun p hp => ?_, by rw [e]; show (0 : Int) + 2 - 1 ≤ 70; decide, [], rfl, fun row2 t2 h => h⟩
  rw [List.mem_singleton.mp hp]
  exact .inr ⟨hn, hk⟩
/-! ### the list that waits -/
abbrev wl (ps : List Str) : List V := ps.reverse.map V.str
theorem wl_cons (p : Str) (ps : List Str) : wl (p :: ps) = wl ps ++ [V.str p] := by
  show ((p :: ps).reverse.map V.str) = _
  rw [List.reverse_cons, List.map_append]
  rfl
theorem wl_last (p : Str) (ps : List Str) : (wl (p :: ps))[(wl (p :: ps)).length - 1]? = some (V.str p) := by
  rw [wl_cons, List.length_append, List.length_singleton, Nat.add_sub_cancel]
  simp
theorem wl_drop (p : Str) (ps : List Str) : (wl (p :: ps)).dropLast = wl ps := by rw [wl_cons, List.dropLast_concat]
theorem wl_len (ps : List Str) : (wl ps).length = ps.length := by
  show (ps.reverse.map V.str).length = _
  rw [List.length_map, List.length_reverse]
theorem wl_nil {ps : List Str} (h : (wl ps).isEmpty = true) : ps = [] := by
  cases ps with
  | nil => rfl
  | cons p ps => rw [wl_cons] at h; simp at h
def wq (ps qs : List Str) (i : Nat) : List V := wl ps ++ (wl qs).take i
theorem wq_zero (ps qs : List Str) : wq ps qs 0 = wl ps := by unfold wq; rw [List.take_zero, List.append_nil]
theorem wq_full (ps qs : List Str) : wq ps qs qs.length = wl (qs ++ ps) := by
  unfold wq
  rw [List.take_of_length_le (by rw [wl_len]; exact Nat.le_refl _)]
  show _ = (qs ++ ps).reverse.map V.str
  rw [List.reverse_append, List.map_append]
theorem wq_succ {ps qs : List Str} {i : Nat} {x : V} (hi : i < (qs.map V.str).length) (h : (qs.map V.str)[(qs.map V.str).length - 1 - i]? = some x) : wq ps qs i ++ [x] = wq ps qs (i + 1) := by
  unfold wq
  have e : (wl qs)[i]? = some x := by
    show ((qs.reverse.map V.str))[i]? = _
    rw [List.map_reverse, List.getElem?_reverse hi]
    exact h
  rw [List.take_add_one, e, List.append_assoc]
  rfl
theorem wq_len {ps qs : List Str} {i : Nat} : (wq ps qs i).length ≤ ps.length + qs.length := by
  unfold wq
  rw [List.length_append, wl_len, List.length_take, wl_len]
  omega
end FR

set_option Elab.async false
set_option linter.all false
set_option maxRecDepth 100000
set_option maxHeartbeats 4000000
namespace FR
open PySem L2
section
variable {P : Program} {w : World} {K : PySem.W.Frag} {mg : Str → Option Value} {base : Heap}
abbrev nv (k : Nat) : V := .int (k : Int)
theorem needOf_rev (ps : List Str) : needOf ps.reverse = needOf ps := by
  induction ps with
  | nil => rfl
  | cons p ps ih =>
    rw [List.reverse_cons, needOf_append, ih, needOf_cons, needOf_cons, needOf_nil]
    omega
abbrev NRo : List Str := ["_law_grammar_here", "_law_cells", "_law_room", "_law_shorts_here", "_law_waiting", "_law_row_here", "_law_held", "_law_part", "_law_number", "_law_some", "_law_beneath"]
theorem sc_row : FnScope NRo ["_law_grammar_here", "_law_cells", "_law_room"] (defScope sRow) := ⟨rfl, rfl, rfl, by decide +kernel, rfl, by decide +kernel, by decide +kernel⟩
def sp_row (K : PySem.W.Frag) : Sp := fun vs H Q _ => ∃ (a c : Addr) (g : List Rl) (cs : List Int) (ρ0 : Rl), vs = [.ref a, .ref c, .int 4] ∧ LstAt RuleAt H a g ∧ GOk g ∧ SqL K H c (cs.map V.int) ∧ cs.length ≤ 63 ∧ g[0]? = some ρ0 ∧
  ∀ (l : Addr) (H' : Hp) (row t : List Nat), Ex H H' → H l = none → H' l = some (.lst (row.map nv)) → Rd g [ρ0.hd] row t → t.length ≤ 4 → row.length ≤ 70 → Q (.ref l) H'
theorem ok_row {f fS fO fN : Addr} {fd fdS fdO fdN : FuncData} {k : Nat} (F : Fun K "_law_row" "_law_row" sRow f fd) (U : Txt K mg) (GS : FnG P w K mg base "_law_shorts" k ["_law_grammar_here"] sp_shorts fS fdS)
    (GO : FnG P w K mg base "_law_open" k ["_law_grammar_here", "_law_shorts_here", "_law_name", "_law_most"] sp_open fO fdO) (GN : FnG P w K mg base "_law_need" k ["_law_parts_here"] sp_need fN fdN) :
    FnOk P w K mg base CX0 (k + 1) f fd ["_law_grammar_here", "_law_cells", "_law_room"] (sp_row K) := by
  refine F.ok sc_row (fun vs H Q E h => ?_) (fun cdv A0 outer s H vs Q E hr h => ?_)
  · obtain ⟨a, c, g, cs, ρ0, rfl, _⟩ := h
    rfl
  · obtain ⟨a, c, g, cs, ρ0, rfl, ⟨gv, ha, pr⟩, gk, hc, hc63, hρ0, q⟩ := h
    have hu := hu_of hr
    have hlen : gv.length = g.length := Paired.length pr
    have hg9 := gk.few
    refine ⟨_, pss_cons (ps_set (i := 3) sc_row.nd rfl (Or.inl rfl) (pe_f GS hr (by rfl) (pa_cons (pv 0) pa_nil)))
      (pss_cons (ps_set (i := 4) sc_row.nd rfl (Or.inl rfl) (pe_lst (pa_cons (pe_ix ix_tup (pe_ix ix_list (pv 0) pe_int (fun _ _ => rfl)) pe_int (fun _ _ => rfl)) pa_nil)))
      (pss_cons (ps_set (i := 5) sc_row.nd rfl (Or.inl rfl) (pe_lst pa_nil))
      (pss_cons (ps_set (i := 6) sc_row.nd rfl (Or.inl rfl) pe_int)
      (pss_cons (ps_while PassesOwn.never (pt_cmpR (op_ne0 hr.units0) (pv 4) (pe_lst pa_nil) (nomark _))
        (pss_cons (ps_set (i := 7) sc_row.nd rfl (Or.inl rfl) (pe_bm0 PySem.F.plainAttrs_list PySem.F.slot_list_pop PySem.F.type_list_pop mt_pop (pv 4)))
        (pss_one (ps_if (pt_cmpR op_eq (pe_ix ix_str (pv 7) pe_int (fun _ _ => rfl)) pe_str (nomark _))
          (pss_one (ps_set (i := 6) sc_row.nd rfl (Or.inl rfl) (pe_op op_add (pv 6) pe_int)))
          (pss_cons (ps_set (i := 8) sc_row.nd rfl (Or.inl rfl) (pe_dget hu (pv 3) (pv 7) (fun _ _ => rfl)))
          (pss_cons (ps_if (pt_cmpR op_lt (pe_callB call_len_seq (by rfl) U.len bt_len (pa_cons (pv 5) pa_nil)) (pe_callB call_len_seq (by rfl) U.len bt_len (pa_cons (pv 1) pa_nil)) (nomark _))
            (pss_cons (ps_set (i := 9) sc_row.nd rfl (Or.inl rfl) (pe_f GO hr (by rfl) (pa_cons (pv 0) (pa_cons (pv 3) (pa_cons (pv 7) (pa_cons (pe_op op_sub (pe_op op_sub (pv 2) (pv 6)) (pe_f GN hr (by rfl) (pa_cons (pv 4) pa_nil))) pa_nil))))))
            (pss_one (ps_set (i := 8) sc_row.nd rfl (Or.inl rfl) (pe_ix ix_list (pv 9) (pe_op op_mod (pe_ix ix_list (pv 1) (pe_callB call_len_seq (by rfl) U.len bt_len (pa_cons (pv 5) pa_nil)) (fun _ _ => rfl)) (pe_callB call_len_seq (by rfl) U.len bt_len (pa_cons (pv 9) pa_nil))) (fun _ _ => rfl))))) pss_nil)
          (pss_cons (ps_expr (pe_bm PySem.F.plainAttrs_list PySem.F.slot_list_append PySem.F.type_list_append mt_append (pv 5) (pa_cons (pv 8) pa_nil)))
          (pss_one (ps_for PassesOwn.never rfl (RT.pi_revA (by rfl) U.reversed (pe_ix ix_tup (pe_ix ix_list (pv 0) (pv 8) (fun _ _ => rfl)) pe_int (fun _ _ => rfl))) (pg_name (i := 10) sc_row.nd rfl (Or.inl rfl))
            (pss_one (ps_expr (pe_bm PySem.F.plainAttrs_list PySem.F.slot_list_append PySem.F.type_list_append mt_append (pv 4) (pa_cons (pv 10) pa_nil)))))))))))))
      (pss_one (ps_ret (pv 5))))))), ?_⟩
    refine ⟨_, rfl, a, g, rfl, ⟨gv, ha, pr⟩, gk, fun d H1 kvs e1 hd0 hd hS => ?_⟩
    have h0 : 0 < gv.length := by
      have := gk.pos
      omega
    obtain ⟨x0, hx0, rx0⟩ := pr_get pr hρ0
    obtain ⟨b0, p0, rfl, hb0, hp0⟩ := mRule _ _ _ _ (tu_ex e1) rx0
    have ha1 := e1 _ _ ha
    refine ⟨_, rfl, a, _, 0, _, rfl, rfl, sq ha1, atI_nat (j := 0) hx0, b0, _, 0, _, rfl, rfl, st hb0, atI_nat (j := 0) rfl, (by show 1 ≤ sizeLine; decide), fun wa hwa0 => ?_⟩
    refine ⟨Nat.zero_le _, fun ro hro0 => ?_⟩
    have e2 : Ex H1 (upd H1 wa (.lst [.str ρ0.hd])) := Evl.Ex.new hwa0
    have e3 : Ex (upd H1 wa (.lst [.str ρ0.hd])) (upd (upd H1 wa (.lst [.str ρ0.hd])) ro (.lst [])) := Evl.Ex.new hro0
    have hwr : wa ≠ ro := ne_of_none upd_same hro0
    have hHwa := Evl.fresh_back e1 hwa0
    have hHro := Evl.fresh_back (e1.trans e2) hro0
    have hHd := hd0
    have hdw : d ≠ wa := ne_of_none hd hwa0
    have hdr : d ≠ ro := ne_of_none (e2 _ _ hd) hro0
    have hρ0m := List.mem_of_getElem? hρ0
    have hst : (valV kvs (.inr ρ0.hd)).isSome = true := by
      obtain ⟨ρ', m, e, s⟩ := gk.sh ρ0 hρ0m
      rw [← e]
      exact hS.full ρ' (by rw [List.take_length]; exact m) s
    refine ⟨fun m σ H' => ∃ ps row held, m = rowM cs.length ps row ∧ RowI g kvs ρ0.hd ps row held ∧ Ex H H' ∧ H' d = some (.dK kvs) ∧ H' wa = some (.lst (wl ps)) ∧ H' ro = some (.lst (row.map nv)) ∧ ∃ v7 v8 v9 v10, σ = [some (.ref a), some (.ref c), some (.int 4), some (.ref d), some (.ref wa), some (.ref ro), some (.int (held : Int)), v7, v8, v9, v10],
      ⟨_, [ρ0.hd], [], 0, rfl, RowI.start (gk.hdn ρ0 hρ0m) hst, (e1.trans e2).trans e3, (e2.trans e3) _ _ hd, e3 _ _ upd_same, upd_same, none, none, none, none, rfl⟩, ?_⟩
    rintro m σ H2 ⟨ps, row, held, rfl, hI, eH, hd2, hw2, hr2, v7, v8, v9, v10, rfl⟩
    refine ⟨_, rfl, Nat.zero_le _, fun z hz => ⟨wa, z, _, rfl, rfl, sq (Evl.Ex.new hz _ _ hw2), sq upd_same, _, rfl, ?_⟩⟩
    have ez : Ex H2 (upd H2 z (.lst [])) := Evl.Ex.new hz
    cases hem : (wl ps).isEmpty with
    | true =>
      refine iteF ?_
      have hnil := wl_nil hem
      subst hnil
      obtain ⟨t1, tl, rd⟩ := hI.rd
      have := rd [] [] .nil
      rw [List.append_nil, List.append_nil] at this
      have hb := hI.bd
      have hz := hI.sz
      rw [needOf_nil] at hb hz
      refine ⟨_, rfl, q ro _ row t1 (eH.trans ez) hHro (ez _ _ hr2) this (by omega) ?_⟩
      have hz : (row.length : Int) + 0 - (0 : Nat) ≤ 70 := hz
      omega
    | false =>
      cases ps with
      | nil => cases hem
      | cons p ps =>
        have hw3 := ez _ _ hw2
        have hd3 := ez _ _ hd2
        have hr3 := ez _ _ hr2
        refine iteT ⟨fun σ' H' => ∃ ps' row' held', rowM cs.length ps' row' < rowM cs.length (p :: ps) row ∧ RowI g kvs ρ0.hd ps' row' held' ∧ Ex H H' ∧ H' d = some (.dK kvs) ∧ H' wa = some (.lst (wl ps')) ∧ H' ro = some (.lst (row'.map nv)) ∧ ∃ v7 v8 v9 v10, σ' = [some (.ref a), some (.ref c), some (.int 4), some (.ref d), some (.ref wa), some (.ref ro), some (.int (held' : Int)), v7, v8, v9, v10],
          fun σ' H' ⟨a1, a2, a3, h1, h2⟩ => ⟨_, h1, a1, a2, a3, rfl, h2⟩, ?_⟩
        refine ⟨_, rfl, .inl ⟨rfl, _, sq hw3⟩, wa, _, _, rfl, rfl, hw3, wl_last p ps, ?_⟩
        let G : Hp := upd (upd H2 z (.lst [])) wa (.lst (wl (p :: ps)).dropLast)
        have eG : Ex H G := Evl.Ex.mut (eH.trans ez) hHwa
        have hwG : G wa = some (.lst (wl ps)) := by
          show upd _ wa _ wa = _
          rw [upd_same, wl_drop]
        have hdG : G d = some (.dK kvs) := by
          show upd _ wa _ d = _
          rw [upd_ne hdw]
          exact hd3
        have hrG : G ro = some (.lst (row.map nv)) := by
          show upd _ wa _ ro = _
          rw [upd_ne hwr.symm]
          exact hr3
        have hpp := hI.ok p (List.mem_cons_self ..)
        have hp2 : isSg p ∨ isNm p := hpp.imp id fun h => h.1
        obtain ⟨ch, hch, hcq⟩ := part_at hp2
        refine ⟨_, rfl, p, 0, ch, rfl, rfl, small100 (len100 hp2), hch, rfl, _, rfl, ?_⟩
        rw [hcq]
        cases hsg : sgB p with
        | true =>
          refine iteT ?_
          obtain ⟨hI', hM'⟩ := hI.sign (n := cs.length) (sg_of hp2 hsg)
          refine ⟨_, rfl, _, _, rfl, rfl, _, _, held + 1, hM', hI', eG, hdG, hwG, hrG, _, v8, v9, v10, rfl⟩
        | false =>
          refine iteF ?_
          have hpn := nm_of hp2 hsg
          have hsome : (valV kvs (.inr p)).isSome = true := (hpp.resolve_left fun y => by rw [sgB_sg y] at hsg; cases hsg).2
          obtain ⟨v, hv⟩ := Option.isSome_iff_exists.mp hsome
          obtain ⟨rs, ρs, rfl, hρs, hhs, hshort⟩ := hS.sound p v hv
          have hbd := hI.bd
          rw [needOf_cons, need1_nm hpn] at hbd
          have hnn := needOf_nn ps
          have hszr : row.length ≤ 100 := by
            have h1 := hI.sz
            rw [needOf_cons, need1_nm hpn, List.length_cons] at h1
            omega
          refine ⟨_, rfl, _, rfl, d, _, rfl, by have := DGet.k (k := Sum.inr p) hdG; rw [hv] at this; exact this, ?_⟩
          refine ⟨_, rfl, ro, _, rfl, .inl (sq hrG), _, rfl, c, _, rfl, .inl (sqL_ex hc eG), _, _, rfl, rfl, _, rfl, ite2 (fun cc => ?_) (fun cc => ?_)⟩
          · have cc := of_decide_eq_true cc
            rw [List.length_map, List.length_map] at cc
            have hlt : row.length < cs.length := by omega
            refine ⟨_, rfl, _, rfl, _, rfl, _, rfl, _, rfl, _, _, rfl, rfl, _, rfl, wa, ps.reverse, rfl, .inl hwG, by rw [List.length_reverse]; omega, (fun z hz => (hI.ok z (List.mem_cons_of_mem _ (List.mem_reverse.mp hz))).imp id fun h => h.1), fun G2 e2' => ⟨_, _, rfl, rfl, ?_⟩⟩
            rw [needOf_rev]
            refine ⟨a, d, g, kvs, p, 4 - held - needOf ps, rfl, ⟨gv, (eG.trans e2') _ _ ha, Paired.mono (fun _ _ => mRule _ _ _ _ (tu_ex (eG.trans e2'))) pr⟩, gk, e2' _ _ hdG, fun l G3 e3' hl hL => ?_⟩
            obtain ⟨ks, hks⟩ : ∃ ks, ks = (List.range g.length).filter (opB g kvs p (4 - held - needOf ps)) := ⟨_, rfl⟩
            have hin : rs ∈ ks := by
              rw [hks, List.mem_filter]
              refine ⟨List.mem_range.mpr (List.getElem?_eq_some_iff.mp hρs).1, ?_⟩
              have := opB_short (kvs := kvs) hρs hshort (show (2 : Int) ≤ 4 - held - needOf ps by omega)
              rw [hhs] at this
              exact this
            rw [← hks] at hL
            have hkl : 0 < ks.length := List.length_pos_of_mem hin
            have hml : (ks.map nv).length = ks.length := List.length_map ..
            have hL : G3 l = some (.lst (ks.map nv)) := hL
            have x0 := Int.emod_nonneg cs[row.length] (show (((ks.map nv).length : Nat) : Int) ≠ 0 by omega)
            have x1 := Int.emod_lt_of_pos cs[row.length] (show (0 : Int) < ((ks.map nv).length : Nat) by omega)
            obtain ⟨m, hm⟩ := Int.eq_ofNat_of_zero_le x0
            have hm2 : m < ks.length := by omega
            obtain ⟨r, hrr⟩ : ∃ r, r = ks[m] := ⟨_, rfl⟩
            have hat : atI (ks.map nv) (cs[row.length] % (((ks.map nv).length : Nat) : Int)) = some (nv r) := by
              rw [hm]
              exact atI_nat (by rw [List.getElem?_map, List.getElem?_eq_getElem hm2, hrr]; rfl)
            have hatc : atI (cs.map V.int) (((row.map nv).length : Nat) : Int) = some (V.int cs[row.length]) := by
              rw [List.length_map]
              exact atI_nat (by rw [List.getElem?_map, List.getElem?_eq_getElem hlt]; rfl)
            have e23 := e2'.trans e3'
            have eG3 := eG.trans e23
            refine ⟨_, rfl, _, rfl, _, rfl, ro, _, rfl, .inl (sq (e23 _ _ hrG)), c, _, _, _, rfl, rfl, sqL_ex hc eG3, hatc, _, rfl, l, _, rfl, .inl (sq hL), _, _, rfl, rfl, (by show (0 : Int) < ((ks.map nv).length : Nat); omega), l, _, _, _, rfl, rfl, sq hL, hat, ?_⟩
            have hrm : r ∈ ks := by rw [hrr]; exact List.getElem_mem hm2
            rw [hks, List.mem_filter] at hrm
            obtain ⟨ρ, hρ, hh, hneed, hok⟩ := opB_of gk hrm.2
            have hor : row.length < cs.length ∨ short ρ := .inl hlt
            have hro3 := e23 _ _ hrG
            have hwa3 := e23 _ _ hwG
            have hd3' := e23 _ _ hdG
            refine ⟨_, rfl, .inl ⟨rfl, _, sq hro3⟩, _, rfl, ro, _, _, rfl, rfl, hro3, by rw [List.length_map]; exact small1000 (by omega), ?_⟩
            have hps6 := gk.psl ρ (List.mem_of_getElem? hρ)
            obtain ⟨gx, hgx, rgx⟩ := pr_get pr hρ
            obtain ⟨b, pp, rfl, hb, hpp⟩ := mRule _ _ _ _ (tu_ex eG3) rgx
            let G4 : Hp := upd G3 ro (.lst ((row.map nv) ++ [nv r]))
            have a1 : Ex H G4 := Evl.Ex.mut eG3 hHro
            have t4 : Tu G3 G4 := tu_upd hro3 fun _ z => nomatch z
            have hw4 : G4 wa = some (.lst (wl ps)) := by
              show upd G3 ro _ wa = _
              rw [upd_ne hwr]
              exact hwa3
            have hd4 : G4 d = some (.dK kvs) := by
              show upd G3 ro _ d = _
              rw [upd_ne hdr]
              exact hd3'
            refine ⟨_, rfl, _, rfl, a, _, _, _, rfl, rfl, sq (a1 _ _ ha), atI_nat hgx, b, _, 1, _, rfl, rfl, st (t4 _ _ hb), atI_nat (j := 1) rfl, pp, _, rfl, .inr ⟨st (t4 _ _ hpp), ?_⟩⟩
            refine RT.for_ItvT (K := K) (xs := ρ.ps.map V.str) (fun i σ H' => Ex H H' ∧ H' d = some (.dK kvs) ∧ H' wa = some (.lst (wq ps ρ.ps i)) ∧ H' ro = some (.lst ((row ++ [r]).map nv)) ∧ H' pp = some (.tup (ρ.ps.map V.str)) ∧ ∃ v10, σ = [some (.ref a), some (.ref c), some (.int 4), some (.ref d), some (.ref wa), some (.ref ro), some (.int (held : Int)), some (.str p), some (nv r), some (.ref l), v10])
              ⟨a1, hd4, by rw [wq_zero]; exact hw4, by show upd G3 ro _ ro = _; rw [upd_same, List.map_append]; rfl, t4 _ _ hpp, _, rfl⟩ (fun i σ H' ⟨_, _, _, _, h, _⟩ => st h) ?_ ?_
            · rintro i x σ H6 hi hx ⟨f1, f0, f2, f3, f4, v10, rfl⟩
              refine ⟨_, rfl, .inl ⟨rfl, _, sq f2⟩, _, rfl, wa, _, _, rfl, rfl, f2, ?_, Evl.Ex.mut f1 hHwa, ?_, ?_, ?_, ?_, _, rfl⟩
              · have := wq_len (ps := ps) (qs := ρ.ps) (i := i)
                exact small1000 (by omega)
              · rw [upd_ne hdw]
                exact f0
              · rw [upd_same, wq_succ hi hx]
              · rw [upd_ne hwr.symm]
                exact f3
              · rw [upd_ne (ne_of f4 f2 fun z => nomatch z)]
                exact f4
            · rintro σ H6 ⟨f1, f0, f2, f3, f4, v10, rfl⟩
              rw [List.length_map, wq_full] at f2
              obtain ⟨hI', hM'⟩ := hI.name hc63 hpn hρ hh hneed hok hor
              exact ⟨_, _, held, hM', hI', f1, f0, f2, f3, _, _, _, _, rfl⟩
          · have cc : ¬ _ := fun y => cc (decide_eq_true y)
            obtain ⟨r, hrr⟩ : ∃ r, r = rs := ⟨_, rfl⟩
            obtain ⟨ρ, hρρ⟩ : ∃ ρ, ρ = ρs := ⟨_, rfl⟩
            have hρ : g[r]? = some ρ := by rw [hrr, hρρ]; exact hρs
            have hh : ρ.hd = p := by rw [hρρ]; exact hhs
            have hsh : short ρ := by rw [hρρ]; exact hshort
            rw [← hrr]
            have hneed : needOf ρ.ps ≤ 4 - held - needOf ps := by
              rw [needOf_sg hsh.1]
              have := hsh.2
              omega
            have hok : ∀ z ∈ ρ.ps, isSg z ∨ (isNm z ∧ (valV kvs (.inr z)).isSome = true) := fun z hz => .inl (hsh.1 z hz)
            have hor : row.length < cs.length ∨ short ρ := .inr hsh
            have hro3 := hrG
            have hwa3 := hwG
            have hd3' := hdG
            have eG3 := eG
            refine ⟨_, rfl, .inl ⟨rfl, _, sq hro3⟩, _, rfl, ro, _, _, rfl, rfl, hro3, by rw [List.length_map]; exact small1000 (by omega), ?_⟩
            have hps6 := gk.psl ρ (List.mem_of_getElem? hρ)
            obtain ⟨gx, hgx, rgx⟩ := pr_get pr hρ
            obtain ⟨b, pp, rfl, hb, hpp⟩ := mRule _ _ _ _ (tu_ex eG3) rgx
            let G4 : Hp := upd G ro (.lst ((row.map nv) ++ [nv r]))
            have a1 : Ex H G4 := Evl.Ex.mut eG3 hHro
            have t4 : Tu G G4 := tu_upd hro3 fun _ z => nomatch z
            have hw4 : G4 wa = some (.lst (wl ps)) := by
              show upd G ro _ wa = _
              rw [upd_ne hwr]
              exact hwa3
            have hd4 : G4 d = some (.dK kvs) := by
              show upd G ro _ d = _
              rw [upd_ne hdr]
              exact hd3'
            refine ⟨_, rfl, _, rfl, a, _, _, _, rfl, rfl, sq (a1 _ _ ha), atI_nat hgx, b, _, 1, _, rfl, rfl, st (t4 _ _ hb), atI_nat (j := 1) rfl, pp, _, rfl, .inr ⟨st (t4 _ _ hpp), ?_⟩⟩
            refine RT.for_ItvT (K := K) (xs := ρ.ps.map V.str) (fun i σ H' => Ex H H' ∧ H' d = some (.dK kvs) ∧ H' wa = some (.lst (wq ps ρ.ps i)) ∧ H' ro = some (.lst ((row ++ [r]).map nv)) ∧ H' pp = some (.tup (ρ.ps.map V.str)) ∧ ∃ v10, σ = [some (.ref a), some (.ref c), some (.int 4), some (.ref d), some (.ref wa), some (.ref ro), some (.int (held : Int)), some (.str p), some (nv r), v9, v10])
              ⟨a1, hd4, by rw [wq_zero]; exact hw4, by show upd G ro _ ro = _; rw [upd_same, List.map_append]; rfl, t4 _ _ hpp, _, rfl⟩ (fun i σ H' ⟨_, _, _, _, h, _⟩ => st h) ?_ ?_
            · rintro i x σ H6 hi hx ⟨f1, f0, f2, f3, f4, v10, rfl⟩
              refine ⟨_, rfl, .inl ⟨rfl, _, sq f2⟩, _, rfl, wa, _, _, rfl, rfl, f2, ?_, Evl.Ex.mut f1 hHwa, ?_, ?_, ?_, ?_, _, rfl⟩
              · have := wq_len (ps := ps) (qs := ρ.ps) (i := i)
                exact small1000 (by omega)
              · rw [upd_ne hdw]
                exact f0
              · rw [upd_same, wq_succ hi hx]
              · rw [upd_ne hwr.symm]
                exact f3
              · rw [upd_ne (ne_of f4 f2 fun z => nomatch z)]
                exact f4
            · rintro σ H6 ⟨f1, f0, f2, f3, f4, v10, rfl⟩
              rw [List.length_map, wq_full] at f2
              obtain ⟨hI', hM'⟩ := hI.name hc63 hpn hρ hh hneed hok hor
              exact ⟨_, _, held, hM', hI', f1, f0, f2, f3, _, _, _, _, rfl⟩
end
end FR

set_option Elab.async false
set_option linter.all false
set_option maxRecDepth 100000
set_option maxHeartbeats 4000000
namespace FR
open PySem L2
section
variable {P : Program} {w : World} {K : PySem.W.Frag} {mg : Str → Option Value} {base : Heap}
/-! ### read -/
theorem Rd.inv {g : List Rl} {p : Str} {ps : List Str} {rest t2 : List Nat} (h : Rd g (p :: ps) rest t2) :
    (∃ c t', p = sgn c ∧ t2 = c :: t' ∧ Rd g ps rest t') ∨ (∃ r ρ rest', g[r]? = some ρ ∧ ρ.hd = p ∧ isNm p ∧ rest = r :: rest' ∧ Rd g (ρ.ps ++ ps) rest' t2) := by
  generalize e : p :: ps = l at h
  cases h with
  | nil => cases e
  | @sg c ps' row t' h =>
    injection e with e1 e2
    subst e1 e2
    exact .inl ⟨c, t', rfl, rfl, h⟩
  | @nm r ρ ps' row t' hr hn h =>
    injection e with e1 e2
    subst e1 e2
    exact .inr ⟨r, ρ, row, hr, rfl, hn, rfl, h⟩
theorem Rd.inv0 {g : List Rl} {rest t2 : List Nat} (h : Rd g [] rest t2) : rest = [] ∧ t2 = [] := by
  generalize e : ([] : List Str) = l at h
  cases h with
  | nil => exact ⟨rfl, rfl⟩
  | sg h => cases e
  | nm _ _ _ => cases e
structure ReadI (g : List Rl) (row t : List Nat) (ps : List Str) (r1 rest t1 t2 : List Nat) : Prop where
  rd : Rd g ps rest t2
  er : row = r1 ++ rest
  et : t = t1 ++ t2
  ok : ∀ p ∈ ps, isSg p ∨ isNm p
  sz : ps.length + 6 * rest.length ≤ 500
theorem snocS (t1 : List Nat) (c : Nat) : ((⟨t1.toArray⟩ : Str) ++ (⟨#[c]⟩ : Str)) = (⟨(t1 ++ [c]).toArray⟩ : Str) := by
  show (⟨t1.toArray ++ #[c]⟩ : Str) = _
  simp
abbrev NRe : List Str := ["_law_grammar_here", "_law_row_here", "_law_waiting", "_law_signs_here", "_law_at", "_law_part", "_law_beneath"]
theorem sc_read : FnScope NRe ["_law_grammar_here", "_law_row_here"] (defScope sRead) := ⟨rfl, rfl, rfl, by decide +kernel, rfl, by decide +kernel, by decide +kernel⟩
def sp_read : Sp := fun vs H Q _ => ∃ (a r : Addr) (g : List Rl) (row t : List Nat) (ρ0 : Rl), vs = [.ref a, .ref r] ∧ LstAt RuleAt H a g ∧ GOk g ∧ H r = some (.lst (row.map nv)) ∧ g[0]? = some ρ0 ∧ Rd g [ρ0.hd] row t ∧ t.length ≤ 4 ∧ row.length ≤ 70 ∧
  ∀ H', Ex H H' → Q (.str ⟨t.toArray⟩) H'
theorem ok_read {f : Addr} {fd : FuncData} {k : Nat} (F : Fun K "_law_read" "_law_read" sRead f fd) (U : Txt K mg) :
    FnOk P w K mg base CX0 (k + 1) f fd ["_law_grammar_here", "_law_row_here"] sp_read := by
  refine F.ok sc_read (fun vs H Q E h => ?_) (fun cdv A0 outer s H vs Q E hr h => ?_)
  · obtain ⟨a, r, g, row, t, ρ0, rfl, _⟩ := h
    rfl
  · obtain ⟨a, r, g, row, t, ρ0, rfl, ⟨gv, ha, pr⟩, gk, hr0, hρ0, hrd, ht4, hr70, q⟩ := h
    have hlen : gv.length = g.length := Paired.length pr
    have hg9 := gk.few
    refine ⟨_, pss_cons (ps_set (i := 2) sc_read.nd rfl (Or.inl rfl) (pe_lst (pa_cons (pe_ix ix_tup (pe_ix ix_list (pv 0) pe_int (fun _ _ => rfl)) pe_int (fun _ _ => rfl)) pa_nil)))
      (pss_cons (ps_set (i := 3) sc_read.nd rfl (Or.inl rfl) pe_str)
      (pss_cons (ps_set (i := 4) sc_read.nd rfl (Or.inl rfl) pe_int)
      (pss_cons (ps_while PassesOwn.never (pt_cmpR (op_ne0 hr.units0) (pv 2) (pe_lst pa_nil) (nomark _))
        (pss_cons (ps_set (i := 5) sc_read.nd rfl (Or.inl rfl) (pe_bm0 PySem.F.plainAttrs_list PySem.F.slot_list_pop PySem.F.type_list_pop mt_pop (pv 2)))
        (pss_one (ps_if (pt_cmpR op_eq (pe_ix ix_str (pv 5) pe_int (fun _ _ => rfl)) pe_str (nomark _))
          (pss_one (ps_set (i := 3) sc_read.nd rfl (Or.inl rfl) (pe_op op_add_str (pv 3) (pe_ix ix_str (pv 5) pe_int (fun _ _ => rfl)))))
          (pss_cons (ps_if (PW.pt (pw_or (pt_cmpR op_ge (pv 4) (pe_callB call_len_seq (by rfl) U.len bt_len (pa_cons (pv 1) pa_nil)) (nomark _))
              (pw_or (pt_not (pt_chain op_le op_lt pe_int (pe_ix ix_list (pv 1) (pv 4) (fun _ _ => rfl)) (pe_callB call_len_seq (by rfl) U.len bt_len (pa_cons (pv 0) pa_nil))))
              (pw_or1 (pt_cmpR op_ne (pe_ix ix_tup (pe_ix ix_list (pv 0) (pe_ix ix_list (pv 1) (pv 4) (fun _ _ => rfl)) (fun _ _ => rfl)) pe_int (fun _ _ => rfl)) (pv 5) (nomark _))))))
            (pss_one (ps_ret pe_non)) pss_nil)
          (pss_cons (ps_for PassesOwn.never rfl (RT.pi_revA (by rfl) U.reversed (pe_ix ix_tup (pe_ix ix_list (pv 0) (pe_ix ix_list (pv 1) (pv 4) (fun _ _ => rfl)) (fun _ _ => rfl)) pe_int (fun _ _ => rfl))) (pg_name (i := 6) sc_read.nd rfl (Or.inl rfl))
            (pss_one (ps_expr (pe_bm PySem.F.plainAttrs_list PySem.F.slot_list_append PySem.F.type_list_append mt_append (pv 2) (pa_cons (pv 6) pa_nil)))))
          (pss_one (ps_set (i := 4) sc_read.nd rfl (Or.inl rfl) (pe_op op_add (pv 4) pe_int)))))))))
      (pss_cons (ps_if (pt_cmpR op_lt (pv 4) (pe_callB call_len_seq (by rfl) U.len bt_len (pa_cons (pv 1) pa_nil)) (nomark _)) (pss_one (ps_ret pe_non)) pss_nil)
      (pss_one (ps_ret (pv 3))))))), ?_⟩
    obtain ⟨x0, hx0, rx0⟩ := pr_get pr hρ0
    obtain ⟨b0, p0, rfl, hb0, hp0⟩ := rx0
    refine ⟨_, rfl, a, _, 0, _, rfl, rfl, sq ha, atI_nat (j := 0) hx0, b0, _, 0, _, rfl, rfl, st hb0, atI_nat (j := 0) rfl, (by show 1 ≤ sizeLine; decide), fun wa hwa0 => ?_⟩
    have e1 : Ex H (upd H wa (.lst [.str ρ0.hd])) := Evl.Ex.new hwa0
    have hρ0m := List.mem_of_getElem? hρ0
    have hraw : r ≠ wa := ne_of_none hr0 hwa0
    refine ⟨fun m σ H' => ∃ ps r1 rest t1 t2, m = ps.length + 6 * rest.length ∧ ReadI g row t ps r1 rest t1 t2 ∧ Ex H H' ∧ H' wa = some (.lst (wl ps)) ∧ ∃ v5 v6, σ = [some (.ref a), some (.ref r), some (.ref wa), some (.str ⟨t1.toArray⟩), some (.int (r1.length : Int)), v5, v6],
      ⟨_, [ρ0.hd], [], row, [], t, rfl, ⟨hrd, rfl, rfl, fun p hp => by rw [List.mem_singleton.mp hp]; exact .inr (gk.hdn ρ0 hρ0m), by rw [List.length_singleton]; omega⟩, e1, upd_same, none, none, rfl⟩, ?_⟩
    rintro m σ H2 ⟨ps, r1, rest, t1, t2, rfl, hI, eH, hw2, v5, v6, rfl⟩
    refine ⟨_, rfl, Nat.zero_le _, fun z hz => ⟨wa, z, _, rfl, rfl, sq (Evl.Ex.new hz _ _ hw2), sq upd_same, _, rfl, ?_⟩⟩
    have ez : Ex H2 (upd H2 z (.lst [])) := Evl.Ex.new hz
    cases hem : (wl ps).isEmpty with
    | true =>
      refine iteF ?_
      have hnil := wl_nil hem
      subst hnil
      obtain ⟨er, et⟩ := hI.rd.inv0
      have er2 := hI.er
      have et2 := hI.et
      rw [er, List.append_nil] at er2
      rw [et, List.append_nil] at et2
      refine ⟨_, rfl, _, rfl, r, _, rfl, .inl (sq ((eH.trans ez) _ _ hr0)), _, _, rfl, rfl, _, rfl, iteN (fun h => ?_) ?_⟩
      · have h := of_decide_eq_true h
        rw [List.length_map, er2] at h
        omega
      · refine ⟨_, rfl, ?_⟩
        rw [← et2]
        exact q _ (eH.trans ez)
    | false =>
      cases ps with
      | nil => cases hem
      | cons p ps =>
        have hw3 := ez _ _ hw2
        refine iteT ⟨fun σ' H' => ∃ ps' r1' rest' t1' t2', ps'.length + 6 * rest'.length < (p :: ps).length + 6 * rest.length ∧ ReadI g row t ps' r1' rest' t1' t2' ∧ Ex H H' ∧ H' wa = some (.lst (wl ps')) ∧ ∃ v5 v6, σ' = [some (.ref a), some (.ref r), some (.ref wa), some (.str ⟨t1'.toArray⟩), some (.int (r1'.length : Int)), v5, v6],
          fun σ' H' ⟨a1, a2, a3, a4, a5, h1, h2⟩ => ⟨_, h1, a1, a2, a3, a4, a5, rfl, h2⟩, ?_⟩
        refine ⟨_, rfl, .inl ⟨rfl, _, sq hw3⟩, wa, _, _, rfl, rfl, hw3, wl_last p ps, ?_⟩
        let G : Hp := upd (upd H2 z (.lst [])) wa (.lst (wl (p :: ps)).dropLast)
        have eG : Ex H G := Evl.Ex.mut (eH.trans ez) hwa0
        have hwG : G wa = some (.lst (wl ps)) := by
          show upd _ wa _ wa = _
          rw [upd_same, wl_drop]
        have hp2 : isSg p ∨ isNm p := hI.ok p (List.mem_cons_self ..)
        have hok' : ∀ q ∈ ps, isSg q ∨ isNm q := fun q hq => hI.ok q (List.mem_cons_of_mem _ hq)
        have hsz := hI.sz
        rw [List.length_cons] at hsz
        obtain ⟨ch, hch, hcq⟩ := part_at hp2
        refine ⟨_, rfl, p, 0, ch, rfl, rfl, small100 (len100 hp2), hch, rfl, _, rfl, ?_⟩
        rw [hcq]
        rcases hI.rd.inv with ⟨c, t', rfl, rfl, hrd'⟩ | ⟨rr, ρ, rest', hρ, hh, hpn, rfl, hrd'⟩
        · rw [show sgB (sgn c) = true from rfl]
          refine iteT ?_
          have hl1 : t1.length ≤ 4 := by
            have := congrArg List.length hI.et
            rw [List.length_append] at this
            omega
          refine ⟨_, rfl, _, rfl, sgn c, 1, c, rfl, rfl, small100 (by show 2 ≤ 100; decide), atI_nat (j := 1) rfl, _, _, rfl, rfl, small100 (by show t1.toArray.size + 1 ≤ 100; rw [List.size_toArray]; omega), ?_⟩
          refine ⟨ps, r1, rest, t1 ++ [c], t', by rw [List.length_cons]; omega, ⟨hrd', hI.er, by rw [hI.et, List.append_assoc]; rfl, hok', by omega⟩, eG, hwG, some (.str (sgn c)), v6, ?_⟩
          rw [← snocS]
          rfl
        · rw [sgB_nm hpn]
          refine iteF ?_
          have hrow : (row.map nv)[r1.length]? = some (nv rr) := by
            rw [List.getElem?_map, hI.er]
            simp
          have hrl : row.length = r1.length + (rest'.length + 1) := by
            have := congrArg List.length hI.er
            rw [List.length_append, List.length_cons] at this
            exact this
          obtain ⟨gx, hgx, rgx⟩ := pr_get pr hρ
          have hgl := (List.getElem?_eq_some_iff.mp hgx).1
          obtain ⟨b, pp, rfl, hb, hpp⟩ := mRule _ _ _ _ (tu_ex eG) rgx
          have hrG := eG _ _ hr0
          have haG := eG _ _ ha
          have hps6 := gk.psl ρ (List.mem_of_getElem? hρ)
          refine ⟨_, rfl, _, rfl, r, _, rfl, .inl (sq hrG), _, _, rfl, rfl, _, rfl, iteN (fun h => ?_) ?_⟩
          · have h := of_decide_eq_true h
            rw [List.length_map] at h
            omega
          refine ⟨_, rfl, _, rfl, r, _, _, _, rfl, rfl, sq hrG, atI_nat hrow, _, _, rfl, rfl, _, rfl, iteY (decide_eq_true (by omega)) ⟨_, rfl, a, _, rfl, .inl (sq haG), _, _, rfl, rfl, _, rfl, ?_⟩⟩
          rw [show decide ((rr : Int) < ((gv.length : Nat) : Int)) = true from decide_eq_true (by omega)]
          refine iteF ?_
          refine ⟨_, rfl, _, rfl, _, rfl, r, _, _, _, rfl, rfl, sq hrG, atI_nat hrow, a, _, _, _, rfl, rfl, sq haG, atI_nat hgx, b, _, 0, _, rfl, rfl, st hb, atI_nat (j := 0) rfl, _, rfl, rfl, _, rfl, ?_⟩
          rw [show decide (V.str ρ.hd = V.str p) = true from decide_eq_true (by rw [hh])]
          refine iteF ?_
          refine ⟨_, rfl, _, rfl, _, rfl, r, _, _, _, rfl, rfl, sq hrG, atI_nat hrow, a, _, _, _, rfl, rfl, sq haG, atI_nat hgx, b, _, 1, _, rfl, rfl, st hb, atI_nat (j := 1) rfl, pp, _, rfl, .inr ⟨st hpp, ?_⟩⟩
          refine RT.for_ItvT (K := K) (xs := ρ.ps.map V.str) (fun i σ H' => Ex H H' ∧ H' wa = some (.lst (wq ps ρ.ps i)) ∧ H' pp = some (.tup (ρ.ps.map V.str)) ∧ ∃ v6, σ = [some (.ref a), some (.ref r), some (.ref wa), some (.str ⟨t1.toArray⟩), some (.int (r1.length : Int)), some (.str p), v6])
            ⟨eG, by rw [wq_zero]; exact hwG, hpp, _, rfl⟩ (fun i σ H' ⟨_, _, h, _⟩ => st h) ?_ ?_
          · rintro i x σ H6 hi hx ⟨f1, f2, f4, v6, rfl⟩
            refine ⟨_, rfl, .inl ⟨rfl, _, sq f2⟩, _, rfl, wa, _, _, rfl, rfl, f2, ?_, Evl.Ex.mut f1 hwa0, ?_, ?_, _, rfl⟩
            · have := wq_len (ps := ps) (qs := ρ.ps) (i := i)
              exact small1000 (by omega)
            · rw [upd_same, wq_succ hi hx]
            · rw [upd_ne (ne_of f4 f2 fun z => nomatch z)]
              exact f4
          · rintro σ H6 ⟨f1, f2, f4, v6, rfl⟩
            rw [List.length_map, wq_full] at f2
            refine ⟨_, rfl, _, _, rfl, rfl, ρ.ps ++ ps, r1 ++ [rr], rest', t1, t2, ?_, ⟨hrd', by rw [hI.er, List.append_assoc]; rfl, hI.et, fun q hq => ?_, ?_⟩, f1, f2, some (.str p), v6, ?_⟩
            · rw [List.length_append, List.length_cons, List.length_cons]
              omega
            · exact (List.mem_append.mp hq).elim (gk.pse ρ (List.mem_of_getElem? hρ) q) (hok' q)
            · rw [List.length_cons] at hsz
              rw [List.length_append]
              omega
            · rw [List.length_append]
              rfl
end
end FR

set_option Elab.async false
set_option linter.all false
set_option maxRecDepth 100000
set_option maxHeartbeats 4000000
namespace FR
open PySem L2
/-! ### the trees of a row -/
abbrev SM := Nat × Nat
def eat : List Str → List SM → Nat × Nat × List SM
  | [], S => (0, 0, S)
  | p :: ps, S => if sgB p = true then ((eat ps S).1 + 1, (eat ps S).2.1, (eat ps S).2.2) else ((S.headD (0, 0)).1 + (eat ps S.tail).1, (S.headD (0, 0)).2 + (eat ps S.tail).2.1, (eat ps S.tail).2.2)
def nmc (ps : List Str) : Nat := (ps.filter fun p => !sgB p).length
theorem nmc_cons (p : Str) (ps : List Str) : nmc (p :: ps) = (if sgB p = true then 0 else 1) + nmc ps := by
  unfold nmc
  rw [List.filter_cons]
  cases sgB p
  · simp; omega
  · simp
theorem nmc_append (a b : List Str) : nmc (a ++ b) = nmc a + nmc b := by
  unfold nmc
  rw [List.filter_append, List.length_append]
theorem eat_sg {p : Str} {ps : List Str} {S : List SM} (h : sgB p = true) : eat (p :: ps) S = ((eat ps S).1 + 1, (eat ps S).2.1, (eat ps S).2.2) := by
  rw [eat, if_pos h]
theorem eat_nm {p : Str} {ps : List Str} {ab : SM} {S : List SM} (h : sgB p = false) : eat (p :: ps) (ab :: S) = (ab.1 + (eat ps S).1, ab.2 + (eat ps S).2.1, (eat ps S).2.2) := by
  rw [eat, if_neg (by rw [h]; exact Bool.false_ne_true)]
  rfl
def stk (g : List Rl) : List Nat → List SM
  | [] => []
  | r :: rest => match g[r]? with
    | none => []
    | some ρ => ((eat ρ.ps (stk g rest)).1, (eat ρ.ps (stk g rest)).2.1 + 1) :: (eat ρ.ps (stk g rest)).2.2
theorem stk_cons {g : List Rl} {r : Nat} {rest : List Nat} {ρ : Rl} (h : g[r]? = some ρ) : stk g (r :: rest) = ((eat ρ.ps (stk g rest)).1, (eat ρ.ps (stk g rest)).2.1 + 1) :: (eat ρ.ps (stk g rest)).2.2 := by
  rw [stk, h]
def trees (g : List Rl) : List Nat → List SM
  | [] => []
  | r :: rest => (stk g (r :: rest)).headD (0, 0) :: trees g rest
theorem trees_len (g : List Rl) : ∀ row : List Nat, (trees g row).length = row.length
  | [] => rfl
  | r :: rest => by rw [trees, List.length_cons, List.length_cons, trees_len g rest]
theorem trees_at {g : List Rl} : ∀ {pre post : List Nat} {ab : SM} {S : List SM}, stk g post = ab :: S → (trees g (pre ++ post))[pre.length]? = some ab
  | [], post, ab, S, h => by
    cases post with
    | nil => rw [stk] at h; cases h
    | cons r rest =>
      rw [List.nil_append, trees, h]
      rfl
  | x :: pre, post, ab, S, h => by
    rw [List.cons_append, trees, List.length_cons]
    exact trees_at h
theorem Fo.stk {g : List Rl} {t : List Nat} {ps : List Str} {i j : Nat} {row : List Nat} (h : Fo g t ps i j row) :
    ∀ post, ∃ tops, stk g (row ++ post) = tops ++ FR.stk g post ∧ tops.length = nmc ps ∧ ∀ st, eat ps (tops ++ st) = (j - i, row.length, st) := by
  induction h with
  | nil i => exact fun post => ⟨[], rfl, rfl, fun st => by rw [Nat.sub_self]; rfl⟩
  | @sg c i j ps row hc hf ih =>
    intro post
    obtain ⟨tops, h1, h2, h3⟩ := ih post
    have hs : sgB (sgn c) = true := rfl
    refine ⟨tops, h1, by rw [nmc_cons, hs, if_pos rfl, Nat.zero_add]; exact h2, fun st => ?_⟩
    rw [eat_sg hs, h3]
    have := hf.le
    show (j - (i + 1) + 1, _, _) = _
    rw [show j - (i + 1) + 1 = j - i by omega]
  | @nm r ρ ps i k j row1 row2 hr hn f1 f2 ih1 ih2 =>
    intro post
    obtain ⟨t2, a1, a2, a3⟩ := ih2 post
    obtain ⟨t1, b1, b2, b3⟩ := ih1 (row2 ++ post)
    have hs := sgB_nm hn
    refine ⟨(k - i, row1.length + 1) :: t2, ?_, ?_, fun st => ?_⟩
    · rw [List.cons_append, List.append_assoc, stk_cons hr, b1, b3, a1]
      rfl
    · rw [nmc_cons, hs, List.length_cons, a2]
      rw [if_neg Bool.false_ne_true]
      omega
    · rw [List.cons_append, eat_nm hs, a3]
      have h1 := f1.le
      have h2 := f2.le
      show (k - i + (j - k), row1.length + 1 + row2.length, st) = _
      rw [List.length_cons, List.length_append, show k - i + (j - k) = j - i by omega, show row1.length + 1 + row2.length = row1.length + row2.length + 1 by omega]
theorem Fo.top {g : List Rl} {t : List Nat} {A : Str} {i j : Nat} {row : List Nat} (h : Fo g t [A] i j row) (hn : isNm A) (post : List Nat) : ∃ S, FR.stk g (row ++ post) = (j - i, row.length) :: S := by
  obtain ⟨tops, h1, h2, h3⟩ := h.stk post
  have hs := sgB_nm hn
  rw [nmc_cons, hs] at h2
  rw [if_neg Bool.false_ne_true] at h2
  have h2 : tops.length = 1 := h2
  match tops, h2 with
  | [ab], _ =>
    have := h3 []
    rw [List.append_nil, eat_nm hs] at this
    have e : (ab.1 + 0, ab.2 + 0, ([] : List SM)) = (j - i, row.length, []) := this
    have e1 : ab.1 = j - i := by have := congrArg Prod.fst e; exact this
    have e2 : ab.2 = row.length := by have := congrArg (fun x => x.2.1) e; exact this
    refine ⟨FR.stk g post, ?_⟩
    rw [h1, ← e1, ← e2]
    rfl
structure RowOk (g : List Rl) (row : List Nat) : Prop where
  cut : ∀ r1 r rest, row = r1 ++ r :: rest → ∃ ρ, g[r]? = some ρ ∧ nmc ρ.ps ≤ (stk g rest).length
theorem Rd.rowOk {g : List Rl} {ps : List Str} {row t : List Nat} (h : Rd g ps row t) : RowOk g row := by
  induction h with
  | nil => exact ⟨fun r1 r rest e => by have := congrArg List.length e; rw [List.length_append, List.length_cons] at this; simp at this⟩
  | sg _ ih => exact ih
  | @nm r0 ρ ps row t hr hn h ih =>
    refine ⟨fun r1 r rest e => ?_⟩
    cases r1 with
    | cons x r1 =>
      rw [List.cons_append] at e
      injection e with e1 e2
      exact ih.cut r1 r rest e2
    | nil =>
      rw [List.nil_append] at e
      injection e with e1 e2
      subst e1 e2
      refine ⟨ρ, hr, ?_⟩
      have hf := h.fo (t := t) [] rfl
      obtain ⟨tops, h1, h2, _⟩ := hf.stk []
      rw [List.append_nil, FR.stk, List.append_nil] at h1
      rw [h1, h2, nmc_append]
      omega
def PPair (H : Hp) (v : V) (ab : SM) : Prop := ∃ x, v = .ref x ∧ H x = some (.tup [.int (ab.1 : Int), .int (ab.2 : Int)])
theorem mPPair : Mono PPair := fun _ _ _ _ t ⟨a, e, h⟩ => ⟨a, e, t _ _ h⟩
section
variable {P : Program} {w : World} {K : PySem.W.Frag} {mg : Str → Option Value} {base : Heap}
abbrev NT : List Str := ["_law_rules", "_law_row_here", "_law_tree_here", "_law_waiting", "_law_number", "_law_size", "_law_many", "_law_part", "_law_below"]
theorem sc_tree : FnScope NT ["_law_rules", "_law_row_here"] (defScope sTree) := ⟨rfl, rfl, rfl, by decide +kernel, rfl, by decide +kernel, by decide +kernel⟩
def sp_tree : Sp := fun vs H Q _ => ∃ (a r : Addr) (g : List Rl) (row : List Nat), vs = [.ref a, .ref r] ∧ LstAt RuleAt H a g ∧ GOk g ∧ H r = some (.lst (row.map nv)) ∧ RowOk g row ∧ row.length ≤ 70 ∧
  ∀ (l : Addr) (H' : Hp), Ex H H' → H l = none → LstAt PPair H' l (trees g row) → Q (.ref l) H'
theorem stk_len (g : List Rl) : ∀ row : List Nat, (stk g row).length ≤ row.length
  | [] => Nat.le_refl _
  | r :: rest => by
    have ih := stk_len g rest
    have eatl : ∀ (ps : List Str) (S : List SM), (eat ps S).2.2.length ≤ S.length := by
      intro ps
      induction ps with
      | nil => intro S; exact Nat.le_refl _
      | cons p ps ih =>
        intro S
        by_cases h : sgB p = true
        · rw [eat_sg h]
          exact ih S
        · cases S with
          | nil =>
            rw [eat, if_neg h]
            exact ih []
          | cons ab S =>
            rw [eat_nm (Bool.eq_false_iff.mpr h), List.length_cons]
            have := ih S
            show (eat ps S).2.2.length ≤ _
            omega
    cases hg : g[r]? with
    | none =>
      rw [stk, hg]
      exact Nat.zero_le _
    | some ρ =>
      rw [stk_cons hg, List.length_cons, List.length_cons]
      have := eatl ρ.ps (stk g rest)
      omega
theorem ok_tree {f : Addr} {fd : FuncData} {k : Nat} (F : Fun K "_law_tree" "_law_tree" sTree f fd) (U : Txt K mg) :
    FnOk P w K mg base CX0 (k + 1) f fd ["_law_rules", "_law_row_here"] sp_tree := by
  refine F.ok sc_tree (fun vs H Q E h => ?_) (fun cdv A0 outer s H vs Q E hr h => ?_)
  · obtain ⟨a, r, g, row, rfl, _⟩ := h
    rfl
  · obtain ⟨a, r, g, row, rfl, ⟨gv, ha, pr⟩, gk, hr0, hok, hr70, q⟩ := h
    refine ⟨_, pss_cons (ps_set (i := 2) sc_tree.nd rfl (Or.inl rfl) (pe_lst pa_nil))
      (pss_cons (ps_set (i := 3) sc_tree.nd rfl (Or.inl rfl) (pe_lst pa_nil))
      (pss_cons (ps_for PassesOwn.never rfl (RT.pi_revA (by rfl) U.reversed (pv 1)) (pg_name (i := 4) sc_tree.nd rfl (Or.inl rfl))
        (pss_cons (ps_set (i := 5) sc_tree.nd rfl (Or.inl rfl) pe_int)
        (pss_cons (ps_set (i := 6) sc_tree.nd rfl (Or.inl rfl) pe_int)
        (pss_cons (ps_for PassesOwn.never rfl (pi_tup (pe_ix ix_tup (pe_ix ix_list (pv 0) (pv 4) (fun _ _ => rfl)) pe_int (fun _ _ => rfl))) (pg_name (i := 7) sc_tree.nd rfl (Or.inl rfl))
          (pss_one (ps_if (pt_cmpR op_eq (pe_ix ix_str (pv 7) pe_int (fun _ _ => rfl)) pe_str (nomark _))
            (pss_one (ps_set (i := 5) sc_tree.nd rfl (Or.inl rfl) (pe_op op_add (pv 5) pe_int)))
            (pss_cons (ps_set (i := 8) sc_tree.nd rfl (Or.inl rfl) (pe_bm0 PySem.F.plainAttrs_list PySem.F.slot_list_pop PySem.F.type_list_pop mt_pop (pv 3)))
            (pss_cons (ps_set (i := 5) sc_tree.nd rfl (Or.inl rfl) (pe_op op_add (pv 5) (pe_ix ix_tup (pv 8) pe_int (fun _ _ => rfl))))
            (pss_one (ps_set (i := 6) sc_tree.nd rfl (Or.inl rfl) (pe_op op_add (pv 6) (pe_ix ix_tup (pv 8) pe_int (fun _ _ => rfl))))))))))
        (pss_cons (ps_expr (pe_bm PySem.F.plainAttrs_list PySem.F.slot_list_append PySem.F.type_list_append mt_append (pv 3) (pa_cons (pe_tup (pa_cons (pv 5) (pa_cons (pv 6) pa_nil))) pa_nil)))
        (pss_one (ps_expr (pe_bm PySem.F.plainAttrs_list PySem.F.slot_list_append PySem.F.type_list_append mt_append (pv 2) (pa_cons (pe_ix ix_list (pv 3) (pe_un un_neg pe_int) (fun _ _ => rfl)) pa_nil)))))))))
      (pss_cons (ps_expr (pe_bm0 PySem.F.plainAttrs_list PySem.F.slot_list_reverse PySem.F.type_list_reverse mt_reverse (pv 2)))
      (pss_one (ps_ret (pv 2)))))), ?_⟩
    refine ⟨Nat.zero_le _, fun th hth0 => ⟨Nat.zero_le _, fun wa hwa0 => ?_⟩⟩
    have e1 : Ex H (upd H th (.lst [])) := Evl.Ex.new hth0
    have e2 : Ex (upd H th (.lst [])) (upd (upd H th (.lst [])) wa (.lst [])) := Evl.Ex.new hwa0
    have hHw := Evl.fresh_back e1 hwa0
    have hne : th ≠ wa := ne_of_none upd_same hwa0
    refine ⟨_, rfl, r, _, rfl, .inl ⟨sq ((e1.trans e2) _ _ hr0), ?_⟩⟩
    refine RT.for_Itv (K := K) (xs := row.map nv) (fun i σ H' => Ex H H' ∧ (∃ v4 v5 v6 v7 v8, σ = [some (.ref a), some (.ref r), some (.ref th), some (.ref wa), v4, v5, v6, v7, v8]) ∧ LstAt PPair H' wa (stk g (row.drop (row.length - i))).reverse ∧ LstAt PPair H' th (trees g (row.drop (row.length - i))).reverse ∧ i ≤ row.length)
      ⟨e1.trans e2, ⟨none, none, none, none, none, rfl⟩, ?_, ?_, Nat.zero_le _⟩ (fun i σ H' ⟨e, _⟩ => sq (e _ _ hr0)) ?_ ?_
    · rw [Nat.sub_zero, List.drop_length]
      exact LstAt.nil
    · rw [Nat.sub_zero, List.drop_length]
      exact LstAt.nil.ex mPPair e2
    · rintro i x σ H1 hi hx ⟨f1, ⟨v4, v5, v6, v7, v8, rfl⟩, ⟨wv, hwv, pw⟩, ⟨tv, htv, pt⟩, hil⟩
      rw [List.length_map] at hi hx
      obtain ⟨rr, hrr, rfl⟩ : ∃ rr, row[row.length - 1 - i]? = some rr ∧ nv rr = x := by
        rw [List.getElem?_map] at hx
        exact Option.map_eq_some_iff.mp hx
      obtain ⟨rest, hrest⟩ : ∃ rest, rest = row.drop (row.length - i) := ⟨_, rfl⟩
      have hdrop : row.drop (row.length - (i + 1)) = rr :: rest := by
        have hl : row.length - (i + 1) < row.length := by omega
        rw [List.drop_eq_getElem_cons hl, hrest]
        rw [show row.length - 1 - i = row.length - (i + 1) by omega, List.getElem?_eq_getElem hl] at hrr
        rw [Option.some.inj hrr, show row.length - (i + 1) + 1 = row.length - i by omega]
      have hrow : row = row.take (row.length - (i + 1)) ++ rr :: rest := by rw [← hdrop, List.take_append_drop]
      obtain ⟨ρ, hρ, hnc⟩ := hok.cut _ _ _ hrow
      rw [← hrest] at pw pt
      have hρm := List.mem_of_getElem? hρ
      have hpse := gk.pse ρ hρm
      obtain ⟨gx, hgx, rgx⟩ := pr_get pr hρ
      obtain ⟨b, pp, rfl, hb, hpp⟩ := mRule _ _ _ _ (tu_ex f1) rgx
      have hsl := stk_len g rest
      have hrl : rest.length ≤ 70 := by
        rw [hrest, List.length_drop]
        omega
      refine ⟨_, rfl, _, rfl, a, _, _, _, rfl, rfl, sq (f1 _ _ ha), atI_nat hgx, b, _, 1, _, rfl, rfl, st hb, atI_nat (j := 1) rfl, pp, rfl, ⟨_, st hpp⟩, ?_⟩
      refine for_tup (K := K) (xs := ρ.ps.map V.str) (fun d σ H' => Ex H H' ∧ Tu H1 H' ∧ H' th = some (.lst tv) ∧ ∃ (s m : Nat) (S : List SM) (v7 v8 : Option V), σ = [some (.ref a), some (.ref r), some (.ref th), some (.ref wa), some (nv rr), some (nv s), some (nv m), v7, v8] ∧ LstAt PPair H' wa S.reverse ∧ nmc (ρ.ps.drop d) ≤ S.length ∧
          s + (eat (ρ.ps.drop d) S).1 = (eat ρ.ps (stk g rest)).1 ∧ m + (eat (ρ.ps.drop d) S).2.1 = (eat ρ.ps (stk g rest)).2.1 + 1 ∧ (eat (ρ.ps.drop d) S).2.2 = (eat ρ.ps (stk g rest)).2.2 ∧ S.length ≤ 100)
        ⟨f1, Tu.refl _, htv, 0, 1, stk g rest, v7, v8, rfl, ⟨wv, hwv, pw⟩, hnc, Nat.zero_add _, Nat.add_comm _ _, rfl, by omega⟩ (fun d σ H' _ ⟨_, t, _⟩ => st (t _ _ hpp)) ?_ ?_
      · rintro d x σ H2 hd ⟨k1, k2, k3, s, m, S, v7, v8, rfl, ⟨sv, hsv, ps2⟩, hn, q1, q2, q3, q4⟩
        obtain ⟨z, hz, rfl⟩ : ∃ z, ρ.ps[d]? = some z ∧ V.str z = x := by
          rw [List.getElem?_map] at hd
          exact Option.map_eq_some_iff.mp hd
        have hdl := (List.getElem?_eq_some_iff.mp hz).1
        have hdd : ρ.ps.drop d = z :: ρ.ps.drop (d + 1) := by
          rw [List.drop_eq_getElem_cons hdl]
          rw [List.getElem?_eq_getElem hdl] at hz
          rw [Option.some.inj hz]
        have hzp := hpse z (List.mem_of_getElem? hz)
        obtain ⟨c, hc, hcq⟩ := part_at hzp
        refine ⟨_, rfl, z, 0, c, rfl, rfl, small100 (len100 hzp), hc, rfl, _, rfl, ?_⟩
        rw [hcq]
        rw [hdd] at hn q1 q2 q3
        cases hzb : sgB z with
        | true =>
          rw [eat_sg hzb] at q1 q2 q3
          rw [nmc_cons, hzb, if_pos rfl, Nat.zero_add] at hn
          refine iteT ⟨_, rfl, _, _, rfl, rfl, k1, k2, k3, s + 1, m, S, _, v8, rfl, ⟨sv, hsv, ps2⟩, hn, ?_, q2, q3, q4⟩
          rw [← q1]
          show s + 1 + _ = s + (_ + 1)
          omega
        | false =>
          rw [nmc_cons, hzb] at hn
          rw [if_neg Bool.false_ne_true] at hn
          cases S with
          | nil => rw [List.length_nil] at hn; omega
          | cons ab S =>
            rw [eat_nm hzb] at q1 q2 q3
            rw [List.length_cons] at hn q4
            rw [List.reverse_cons] at ps2
            have hsl2 : sv.length = (S.reverse ++ [ab]).length := Paired.length ps2
            obtain ⟨y, hy, u, rfl, hu⟩ := pr_get ps2 (show (S.reverse ++ [ab])[sv.length - 1]? = some ab by rw [hsl2]; simp)
            refine iteF ⟨_, rfl, .inl ⟨rfl, _, sq hsv⟩, wa, sv, _, rfl, rfl, hsv, hy, ?_⟩
            have tt : Tu H2 (upd H2 wa (.lst sv.dropLast)) := tu_upd hsv fun _ y => nomatch y
            have hu2 := tt _ _ hu
            refine ⟨_, rfl, _, rfl, u, _, 0, _, rfl, rfl, st hu2, atI_nat (j := 0) rfl, _, _, rfl, rfl, ?_⟩
            refine ⟨_, rfl, _, rfl, u, _, 1, _, rfl, rfl, st hu2, atI_nat (j := 1) rfl, _, _, rfl, rfl, ?_⟩
            refine ⟨Evl.Ex.mut k1 hHw, k2.trans tt, by rw [upd_ne hne]; exact k3, s + ab.1, m + ab.2, S, _, _, rfl, ⟨_, upd_same, ?_⟩, by omega, ?_, ?_, q3, by omega⟩
            · have := pr_dropLast (Paired.mono (fun _ _ => mPPair _ _ _ _ tt) ps2)
              rw [List.dropLast_concat] at this
              exact this
            · rw [← q1]
              show s + ab.1 + _ = s + (ab.1 + _)
              omega
            · rw [← q2]
              show m + ab.2 + _ = m + (ab.2 + _)
              omega
      · rintro σ H2 ⟨k1, k2, k3, s, m, S, v7, v8, rfl, ⟨sv, hsv, ps2⟩, hn, q1, q2, q3, q4⟩
        rw [List.length_map, List.drop_length] at q1 q2 q3
        have q1 : s + 0 = _ := q1
        have q2 : m + 0 = _ := q2
        have q3 : S = _ := q3
        have hsvl := Paired.length ps2
        rw [List.length_reverse] at hsvl
        have htvl := Paired.length pt
        rw [List.length_reverse, trees_len] at htvl
        refine ⟨_, rfl, .inl ⟨rfl, _, sq hsv⟩, _, rfl, _, rfl, (by show 2 ≤ sizeLine; decide), fun u hu => ?_⟩
        have eu : Ex H2 (upd H2 u (.tup [nv s, nv m])) := Evl.Ex.new hu
        have hsv2 := eu _ _ hsv
        refine ⟨wa, sv, _, rfl, rfl, hsv2, small1000 (by omega), ?_⟩
        let G : Hp := upd (upd H2 u (.tup [nv s, nv m])) wa (.lst (sv ++ [.ref u]))
        have tG : Tu (upd H2 u (.tup [nv s, nv m])) G := tu_upd hsv2 fun _ z => nomatch z
        have htvG : G th = some (.lst tv) := by
          show upd _ wa _ th = _
          rw [upd_ne hne]
          exact eu _ _ k3
        have hwaG : G wa = some (.lst (sv ++ [.ref u])) := upd_same
        refine ⟨_, rfl, .inl ⟨rfl, _, sq htvG⟩, _, rfl, _, rfl, wa, _, _, _, rfl, rfl, sq hwaG, atI_last _ _, th, tv, _, rfl, rfl, htvG, small1000 (by omega), ?_⟩
        have t2 : Tu G (upd G th (.lst (tv ++ [.ref u]))) := tu_upd htvG fun _ z => nomatch z
        have hstk : stk g (row.drop (row.length - (i + 1))) = (s, m) :: S := by
          rw [hdrop, stk_cons hρ, ← q1, ← q2, ← q3]
          rfl
        have hup : ∀ H', Tu G H' → PPair H' (.ref u) (s, m) := fun H' t => ⟨u, rfl, t _ _ (tG _ _ upd_same)⟩
        refine ⟨Evl.Ex.mut (Evl.Ex.mut (k1.trans eu) hHw) hth0, ⟨_, _, _, _, _, rfl⟩, ?_, ?_, by omega⟩
        · rw [hstk, List.reverse_cons]
          exact ⟨_, by rw [upd_ne hne.symm]; exact hwaG, Paired.snoc (Paired.mono (fun _ _ => mPPair _ _ _ _ ((tu_ex eu).trans (tG.trans t2))) ps2) (hup _ t2)⟩
        · rw [hdrop, trees, ← hdrop, hstk, List.reverse_cons]
          exact ⟨_, upd_same, Paired.snoc (Paired.mono (fun _ _ => mPPair _ _ _ _ (k2.trans ((tu_ex eu).trans (tG.trans t2)))) pt) (hup _ t2)⟩
    · rintro σ H1 ⟨f1, ⟨v4, v5, v6, v7, v8, rfl⟩, _, ⟨tv, htv, pt⟩, _⟩
      rw [List.length_map, Nat.sub_self, List.drop_zero] at pt
      refine ⟨_, rfl, .inl ⟨rfl, _, sq htv⟩, th, tv, rfl, rfl, htv, _, rfl, ?_⟩
      have tt := tu_upd (o := .lst tv.reverse) htv fun _ z => nomatch z
      refine q th _ (Evl.Ex.mut f1 hth0) hth0 ⟨_, upd_same, ?_⟩
      have := pr_reverse (Paired.mono (fun _ _ => mPPair _ _ _ _ tt) pt)
      rw [List.reverse_reverse] at this
      exact this
end
end FR

set_option Elab.async false
set_option linter.all false
set_option maxRecDepth 100000
set_option maxHeartbeats 4000000
namespace L2
open PySem PySem.Spec PyProof.Rows
/-! ### x in a tuple of tuples; t + u -/
def rInT (K : PySem.W.Frag) : R2 := fun x y H Q => ∃ d ds, Dp K H x d ∧ Dp K H y (.tuple ds) ∧ d.canLay0 = true ∧ PyData.canLayAll0 ds = true ∧ d.depth ≤ 2 ∧ Q (.bl (ds.any fun z => PyData.eqv z d)) H
theorem op_inT {X : Cx} (hu : X.A.units + 64 < cLine) : OpR X (compareOp .In) (rInT X.K) := by
  intro pins s σ H x y v u Q I rx ry h
  obtain ⟨d, ds, hd, he, sd, se, h1, q⟩ := h
  obtain ⟨as, r1⟩ := Dp.reads I d x v hd rx
  obtain ⟨bs, r2⟩ := Dp.reads I (.tuple ds) y u he ry
  refine SeqAt.in_tuple_reads r2 r1 se sd ?_ ⟨.bl _, H, I, rfl, q⟩
  have : min (PyData.depthAll ds) d.depth ≤ d.depth := Nat.min_le_right _ _
  omega
def rCatE : R2 := fun x y H Q => ∃ a b xs ys, x = .ref a ∧ y = .ref b ∧ H a = some (.tup xs) ∧ H b = some (.tup ys) ∧ xs.length + ys.length ≤ sizeLine ∧ ∀ p H', Evl.Ex H H' → H' p = some (.tup (xs ++ ys)) → Q (.ref p) H'
theorem op_catE {X : Cx} : OpR X (binaryOp .Add) rCatE := by
  intro pins s σ H x y v u Q I rx ry h
  obtain ⟨a, b, xs, ys, rfl, rfl, ha, hb, hz, q⟩ := h
  exact op_catA pins s σ H _ _ v u Q I rx ry ⟨a, b, xs, ys, rfl, rfl, .inl (.inl ha), .inl (.inl hb), hz, (fun e => q b H (Evl.Ex.refl _) (by rw [e]; exact hb)),
    (fun _ e => q a H (Evl.Ex.refl _) (by rw [e, List.append_nil]; exact ha)), fun _ _ p hp => q p _ (Evl.Ex.new hp) upd_same⟩
end L2
namespace FR
open PySem L2
def spD (A : Str) (b z : Nat) : PyData := .tuple [.str A, .int (b : Int), .int (z : Int)]
theorem nm_ok {A : Str} (h : isNm A) : PyData.strOk A = true := by
  show A.cps.all (fun x => decide (x < 0x110000)) = true
  rw [← Array.all_toList, List.all_eq_true]
  intro c hc
  have := h.2.2 c hc
  exact decide_eq_true (by omega)
theorem spD_lay {A : Str} (h : isNm A) (b z : Nat) : (spD A b z).canLay0 = true := by simp [spD, PyData.canLay0, PyData.canLayAll0, nm_ok h]
theorem spD_depth (A : Str) (b z : Nat) : (spD A b z).depth ≤ 2 := by simp [spD, PyData.depth, PyData.depthAll]
theorem spD_eqv {A A' : Str} {b b' z z' : Nat} (h : PyData.eqv (spD A b z) (spD A' b' z') = true) : A = A' ∧ b = b' ∧ z = z' := by
  have e : PyData.eqv (spD A b z) (spD A' b' z') = ((A == A') && (((b : Int) == (b' : Int)) && (((z : Int) == (z' : Int)) && true))) := by simp only [spD, PyData.eqv, PyData.eqvAll]
  rw [e, Bool.and_eq_true, Bool.and_eq_true, Bool.and_eq_true] at h
  refine ⟨eq_of_beq h.1, ?_, ?_⟩
  · have := eq_of_beq h.2.1
    omega
  · have := eq_of_beq h.2.2.1
    omega
/-! ### pending roots -/
abbrev DI := List (Key × V)
def ky (c : Nat) : Key := Sum.inl (c : Int)
theorem ky_inj {c c' : Nat} (h : ky c = ky c') : c = c' := by
  have := Sum.inl.inj h
  omega
def SpOk (g : List Rl) (t : List Nat) (start : Spot) (u : Spot) (n : Node) : Prop := ∃ s : Spot, n = nS s.1 s.2.1 (s.2.2 - s.2.1) ∧ s.2.1 ≤ s.2.2 ∧ isNm s.1 ∧ Star (Ch g t) start s ∧ Plus (Ch g t) s u
def Inf (g : List Rl) (t : List Nat) (start : Spot) (kb ka : DI) (H : Hp) (c : Nat) (u : Spot) : Prop :=
  valV kb (ky c) = some (nv u.2.1) ∧ ∃ v ws, valV ka (ky c) = some v ∧ WayAt H v ws ∧ ws.length ≤ c ∧ Star (Ch g t) start u ∧ ∀ n ∈ ws, SpOk g t start u n
inductive Pd (g : List Rl) (t : List Nat) (start : Spot) (kb ka : DI) (H : Hp) : Nat → List Nat → Prop
  | nil (c) : Pd g t start kb ka H c []
  | cons {c A b e row1 rest} : Fo g t [A] b e row1 → isNm A → b ≤ t.length → Inf g t start kb ka H c (A, b, e) → Pd g t start kb ka H (c + row1.length) rest → Pd g t start kb ka H c (row1 ++ rest)
def Keeps (kb kb' : DI) (f : Nat → Prop) : Prop := ∀ c v, f c → valV kb (ky c) = some v → valV kb' (ky c) = some v
section
variable {g : List Rl} {t : List Nat} {start : Spot} {kb ka kb' ka' : DI} {H H' : Hp}
theorem Inf.keep {c : Nat} {u : Spot} (h : Inf g t start kb ka H c u) {f : Nat → Prop} (k1 : Keeps kb kb' f) (k2 : Keeps ka ka' f) (tt : Tu H H') (hf : f c) : Inf g t start kb' ka' H' c u := by
  obtain ⟨h1, v, ws, h2, h3, h4, h5, h6⟩ := h
  exact ⟨k1 c _ hf h1, v, ws, k2 c _ hf h2, mWay _ _ _ _ tt h3, h4, h5, h6⟩
theorem Pd.keep {c : Nat} {rest : List Nat} (h : Pd g t start kb ka H c rest) {f : Nat → Prop} (k1 : Keeps kb kb' f) (k2 : Keeps ka ka' f) (tt : Tu H H') (hf : ∀ c', c ≤ c' → f c') : Pd g t start kb' ka' H' c rest := by
  induction h with
  | nil c => exact .nil c
  | @cons c A b e row1 rest hfo hn hb hi hp ih => exact .cons hfo hn hb (hi.keep k1 k2 tt (hf c (Nat.le_refl _))) (ih fun c' hc => hf c' (by omega))
theorem Keeps.put {c : Nat} {v : V} {f : Nat → Prop} (hf : ∀ c', f c' → c' ≠ c) : Keeps kb (putK kb (ky c) v) f := fun c' v' h1 h2 => by
  rw [valV_put, if_neg (fun e => hf c' h1 (ky_inj e))]
  exact h2
theorem Keeps.trans {f : Nat → Prop} {k1 k2 k3 : DI} (a : Keeps k1 k2 f) (b : Keeps k2 k3 f) : Keeps k1 k3 f := fun c v h1 h2 => b c v h1 (a c v h1 h2)
theorem Keeps.mono {f f' : Nat → Prop} {k1 k2 : DI} (a : Keeps k1 k2 f) (h : ∀ c, f' c → f c) : Keeps k1 k2 f' := fun c v h1 h2 => a c v (h c h1) h2
theorem Keeps.refl {f : Nat → Prop} {k1 : DI} : Keeps k1 k1 f := fun _ _ _ h => h
theorem dg {H : Hp} {a : Addr} {kvs : DI} {c : Nat} {v : V} (h : H a = some (.dK kvs)) (hv : valV kvs (ky c) = some v) : DGet H a (.int (c : Int)) (some v) := by
  rw [← hv]
  exact DGet.k (k := ky c) h
theorem dg0 {H : Hp} {a : Addr} {kvs : DI} {c : Nat} {v : V} (h : H a = some (.dK kvs)) (hv : valV kvs (ky c) = some v) : DGet H a (.int ((0 : Int) + (c : Nat))) (some v) := by
  rw [Int.zero_add]
  exact dg h hv
/-- what is known while the parts of a rule are gone over -/
structure PI_ (g : List Rl) (t : List Nat) (start : Spot) (ρ : Rl) (b e k : Nat) (row1 : List Nat) (kb0 ka0 kb ka : DI) (H : Hp) (d en ch : Nat) (rowA rowB : List Nat) : Prop where
  row : row1 = rowA ++ rowB
  foA : Fo g t (ρ.ps.take d) b en rowA
  foB : Fo g t (ρ.ps.drop d) en e rowB
  hch : ch = k + 1 + rowA.length
  kp : Keeps kb0 kb (fun c => c = k ∨ k + 1 + row1.length ≤ c)
  kq : Keeps ka0 ka (fun c => c = k ∨ k + 1 + row1.length ≤ c)
  co : ∀ kb2 ka2 H2, Keeps kb kb2 (fun c => k + 1 ≤ c ∧ c < ch) → Keeps ka ka2 (fun c => k + 1 ≤ c ∧ c < ch) → Tu H H2 → ∀ rest', Pd g t start kb2 ka2 H2 ch rest' → Pd g t start kb2 ka2 H2 (k + 1) (rowA ++ rest')
theorem take_snoc {α : Type} {l : List α} {d : Nat} {x : α} (h : l[d]? = some x) : l.take (d + 1) = l.take d ++ [x] := by
  rw [List.take_add_one, h]
  rfl
theorem drop_cons' {α : Type} {l : List α} {d : Nat} {x : α} (h : l[d]? = some x) : l.drop d = x :: l.drop (d + 1) := by
  have hl := (List.getElem?_eq_some_iff.mp h).1
  rw [List.drop_eq_getElem_cons hl]
  rw [List.getElem?_eq_getElem hl] at h
  rw [Option.some.inj h]
theorem Fo.inv_sg {g : List Rl} {t : List Nat} {c : Nat} {ps : List Str} {i j : Nat} {row : List Nat} (h : Fo g t (sgn c :: ps) i j row) : t[i]? = some c ∧ Fo g t ps (i + 1) j row := by
  generalize e : sgn c :: ps = l at h
  cases h with
  | nil => cases e
  | @sg c' _ _ ps' _ hc h =>
    injection e with e1 e2
    have := sgn_inj e1
    subst this
    subst e2
    exact ⟨hc, h⟩
  | @nm r ρ ps' _ k _ row1 row2 hr hn h1 h2 =>
    injection e with e1 e2
    rw [← e1] at hn
    exact (sg_nm hn).elim
variable {ρ : Rl} {b e k d en ch : Nat} {row1 rowA rowB : List Nat} {kb0 ka0 : DI}
theorem PI_.sign (I : PI_ g t start ρ b e k row1 kb0 ka0 kb ka H d en ch rowA rowB) {c : Nat} (hz : ρ.ps[d]? = some (sgn c)) (tt : Tu H H') : PI_ g t start ρ b e k row1 kb0 ka0 kb ka H' (d + 1) (en + 1) ch rowA rowB := by
  have fb := I.foB
  rw [drop_cons' hz] at fb
  obtain ⟨hc, fb⟩ := fb.inv_sg
  refine ⟨I.row, ?_, fb, I.hch, I.kp, I.kq, fun kb2 ka2 H2 k1 k2 t2 => I.co kb2 ka2 H2 k1 k2 (tt.trans t2)⟩
  rw [take_snoc hz]
  have := I.foA.app (.sg hc (.nil (en + 1)))
  rw [List.append_nil] at this
  exact this
theorem PI_.name (I : PI_ g t start ρ b e k row1 kb0 ka0 kb ka H d en ch rowA rowB) {A' A : Str} {r : Nat} (hz : ρ.ps[d]? = some A') (hn : isNm A') (hr : g[r]? = some ρ) (hA : ρ.hd = A) (hnA : isNm A) (hb : b ≤ t.length) (hs : Star (Ch g t) start (A, b, e)) :
    ∃ m rowX rowY, rowB = rowX ++ rowY ∧ Fo g t [A'] en m rowX ∧ Ch g t (A, b, e) (A', en, m) ∧ en ≤ m ∧ ∀ v ws, WayAt H' v (ws ++ [nS A b (e - b)]) → b ≤ e → ws.length ≤ k → (∀ n ∈ ws, SpOk g t start (A, b, e) n) → Tu H H' →
      PI_ g t start ρ b e k row1 kb0 ka0 (putK kb (ky ch) (nv en)) (putK ka (ky ch) v) H' (d + 1) m (ch + rowX.length) (rowA ++ rowX) rowY := by
  have fb := I.foB
  rw [drop_cons' hz] at fb
  obtain ⟨m, rowX, rowY, hrow, fX, fY⟩ := Fo.split (a := [A']) (b := ρ.ps.drop (d + 1)) fb
  have hps : ρ.ps = ρ.ps.take d ++ A' :: ρ.ps.drop (d + 1) := by
    rw [← drop_cons' hz, List.take_append_drop]
  have hch : Ch g t (A, b, e) (A', en, m) := ⟨r, ρ, ρ.ps.take d, ρ.ps.drop (d + 1), rowA, rowX, rowY, hr, hA, hps, hb, I.foA, fX, hn, fY⟩
  refine ⟨m, rowX, rowY, hrow, fX, hch, fX.le, fun v ws hw hbe hwl hsp tt => ?_⟩
  have hrl : row1.length = rowA.length + (rowX.length + rowY.length) := by
    rw [I.row, hrow, List.length_append, List.length_append]
  have hX1 : 1 ≤ rowX.length := by
    obtain ⟨_, _, _, _, _, e1, _⟩ := fX.one hn
    rw [e1, List.length_cons]
    omega
  have hchk := I.hch
  refine ⟨by rw [I.row, hrow, List.append_assoc], ?_, fY, by rw [List.length_append]; omega, ?_, ?_, ?_⟩
  · rw [take_snoc hz]
    exact I.foA.app fX
  · exact I.kp.trans (Keeps.put fun c' h => by omega)
  · exact I.kq.trans (Keeps.put fun c' h => by omega)
  · intro kb2 ka2 H2 k1 k2 t2 rest' hp
    rw [List.append_assoc]
    refine I.co kb2 ka2 H2 ((Keeps.put fun c' (h : k + 1 ≤ c' ∧ c' < ch) => by omega).trans (k1.mono fun c (h : k + 1 ≤ c ∧ c < ch) => ⟨h.1, by omega⟩)) ((Keeps.put fun c' (h : k + 1 ≤ c' ∧ c' < ch) => by omega).trans (k2.mono fun c (h : k + 1 ≤ c ∧ c < ch) => ⟨h.1, by omega⟩)) (tt.trans t2) _ (.cons fX hn ?_ ?_ hp)
    · exact I.foA.len hb
    · refine Inf.keep (f := fun c => k + 1 ≤ c ∧ c < ch + rowX.length) ⟨?_, v, _, ?_, hw, ?_, hs.tail hch, ?_⟩ k1 k2 t2 ⟨by omega, by omega⟩
      · rw [valV_put, if_pos rfl]
      · rw [valV_put, if_pos rfl]
      · rw [List.length_append, List.length_singleton]
        omega
      · intro n hnm
        rcases List.mem_append.mp hnm with z | z
        · obtain ⟨s, h1, h2, h5, h3, h4⟩ := hsp n z
          exact ⟨s, h1, h2, h5, h3, h4.tail hch⟩
        · rw [List.mem_singleton.mp z]
          exact ⟨(A, b, e), rfl, hbe, hnA, hs, .one hch⟩
theorem PI_.done (I : PI_ g t start ρ b e k row1 kb0 ka0 kb ka H ρ.ps.length en ch rowA rowB) {rest : List Nat} (tt0 : Tu H' H) (hp : Pd g t start kb0 ka0 H' (k + 1 + row1.length) rest) : Pd g t start kb ka H (k + 1) (row1 ++ rest) := by
  have fb := I.foB
  rw [List.drop_length] at fb
  have hB : rowB = [] := by
    generalize e0 : ([] : List Str) = l at fb
    cases fb with
    | nil => rfl
    | sg _ _ => cases e0
    | nm _ _ _ _ => cases e0
  have hrow := I.row
  rw [hB, List.append_nil] at hrow
  have hch := I.hch
  rw [← hrow] at hch
  have := I.co kb ka H Keeps.refl Keeps.refl (Tu.refl _) rest (by
    rw [hch]
    exact hp.keep (f := fun c => c = k ∨ k + 1 + row1.length ≤ c) I.kp I.kq tt0 fun c' hc => .inr hc)
  rw [← hrow] at this
  exact this
end
theorem ways_dp {K : PySem.W.Frag} {H : Hp} {vs : List V} {ws : List Node} (h : Paired (NodeAt H) vs ws) : (∀ n ∈ ws, ∃ A b z, isNm A ∧ n = nS A b z) →
    ∃ ds, DpAll K H vs ds ∧ PyData.canLayAll0 ds = true ∧ ∀ A b z, ds.any (fun y => PyData.eqv y (spD A b z)) = true → nS A b z ∈ ws := by
  induction h with
  | nil => exact fun _ => ⟨[], .nil, by simp [PyData.canLayAll0], fun _ _ _ h => by cases h⟩
  | @cons v n vs ws hv _ ih =>
    intro hn
    obtain ⟨ds, h1, h2, h3⟩ := ih fun n hm => hn n (List.mem_cons_of_mem _ hm)
    obtain ⟨A, b, z, hA, rfl⟩ := hn n (List.mem_cons_self ..)
    obtain ⟨a, rfl, ha⟩ := hv
    have ha : H a = some (.tup [.str A, .int (b : Int), .int (z : Int)]) := ha
    refine ⟨spD A b z :: ds, .cons (.tup (st ha) (.cons (.str A) (.cons (.int _) (.cons (.int _) .nil)))) h1, ?_, fun A' b' z' h => ?_⟩
    · simp [PyData.canLayAll0, spD_lay hA, h2]
    · rw [List.any_cons, Bool.or_eq_true] at h
      rcases h with h | h
      · obtain ⟨rfl, rfl, rfl⟩ := spD_eqv h
        exact List.mem_cons_self ..
      · exact List.mem_cons_of_mem _ (h3 A' b' z' h)
section
variable {P : Program} {w : World} {K : PySem.W.Frag} {mg : Str → Option Value} {base : Heap}
abbrev NR : List Str := ["_law_rules", "_law_row_here", "_law_tree_here", "_law_begins", "_law_above", "_law_k", "_law_spot", "_law_end", "_law_child", "_law_part"]
theorem sc_round : FnScope NR ["_law_rules", "_law_row_here"] (defScope sRound) := ⟨rfl, rfl, rfl, by decide +kernel, rfl, by decide +kernel, by decide +kernel⟩
def sp_round : Sp := fun vs H Q _ => ∃ (a r : Addr) (g : List Rl) (row t : List Nat) (A0 : Str), vs = [.ref a, .ref r] ∧ LstAt RuleAt H a g ∧ GOk g ∧ H r = some (.lst (row.map nv)) ∧ RowOk g row ∧ row.length ≤ 70 ∧ Fo g t [A0] 0 t.length row ∧ isNm A0 ∧
  ∀ (b : Bool) (H' : Hp), Ex H H' → (b = true → ∃ s, Star (Ch g t) (A0, 0, t.length) s ∧ Plus (Ch g t) s s) → Q (.bl b) H'
theorem ok_round {f fT : Addr} {fd fdT : FuncData} {k : Nat} (F : Fun K "_law_round" "_law_round" sRound f fd) (U : Txt K mg) (GT : FnG P w K mg base "_law_tree" k ["_law_rules", "_law_row_here"] sp_tree fT fdT) :
    FnOk P w K mg base CX0 (k + 1) f fd ["_law_rules", "_law_row_here"] sp_round := by
  refine F.ok sc_round (fun vs H Q E h => ?_) (fun cdv A0' outer s H vs Q E hr h => ?_)
  · obtain ⟨a, r, g, row, t, A0, rfl, _⟩ := h
    rfl
  · obtain ⟨a, r, g, row, t, A0, rfl, ⟨gv, ha, pr⟩, gk, hr0, hok, hr70, hfo, hA0, q⟩ := h
    have hu := hu_of hr
    have hu64 := hr.units
    refine ⟨_, pss_cons (ps_set (i := 2) sc_round.nd rfl (Or.inl rfl) (pe_f GT hr (by rfl) (pa_cons (pv 0) (pa_cons (pv 1) pa_nil))))
      (pss_cons (ps_set (i := 3) sc_round.nd rfl (Or.inl rfl) (pe_disp (pps_cons pe_int pe_int pps_nil) (by rfl) (by rfl) (fun z => by cases z) (by decide)))
      (pss_cons (ps_set (i := 4) sc_round.nd rfl (Or.inl rfl) (pe_disp (pps_cons pe_int (pe_tup pa_nil) pps_nil) (by rfl) (by rfl) (fun z => by cases z) (by decide)))
      (pss_cons (ps_for PassesOwn.never rfl (pi_range1 rfl U.range (pa_cons (pe_callB call_len_seq (by rfl) U.len bt_len (pa_cons (pv 1) pa_nil)) pa_nil)) (pg_name (i := 5) sc_round.nd rfl (Or.inl rfl))
        (pss_cons (ps_set (i := 6) sc_round.nd rfl (Or.inl rfl) (pe_tup (pa_cons (pe_ix ix_tup (pe_ix ix_list (pv 0) (pe_ix ix_list (pv 1) (pv 5) (fun _ _ => rfl)) (fun _ _ => rfl)) pe_int (fun _ _ => rfl))
          (pa_cons (pe_dget hu (pv 3) (pv 5) (fun _ _ => rfl)) (pa_cons (pe_ix ix_tup (pe_ix ix_list (pv 2) (pv 5) (fun _ _ => rfl)) pe_int (fun _ _ => rfl)) pa_nil)))))
        (pss_cons (ps_if (pt_cmpR (op_inT hu64) (pv 6) (pe_dget hu (pv 4) (pv 5) (fun _ _ => rfl)) (by rfl)) (pss_one (ps_ret pe_bl)) pss_nil)
        (pss_cons (ps_set (i := 7) sc_round.nd rfl (Or.inl rfl) (pe_dget hu (pv 3) (pv 5) (fun _ _ => rfl)))
        (pss_cons (ps_set (i := 8) sc_round.nd rfl (Or.inl rfl) (pe_op op_add (pv 5) pe_int))
        (pss_one (ps_for PassesOwn.never rfl (pi_tup (pe_ix ix_tup (pe_ix ix_list (pv 0) (pe_ix ix_list (pv 1) (pv 5) (fun _ _ => rfl)) (fun _ _ => rfl)) pe_int (fun _ _ => rfl))) (pg_name (i := 9) sc_round.nd rfl (Or.inl rfl))
          (pss_one (ps_if (pt_cmpR op_eq (pe_ix ix_str (pv 9) pe_int (fun _ _ => rfl)) pe_str (nomark _))
            (pss_one (ps_set (i := 7) sc_round.nd rfl (Or.inl rfl) (pe_op op_add (pv 7) pe_int)))
            (pss_cons (ps_dput hu (pv 3) (pv 8) (pv 7) rfl)
            (pss_cons (ps_dput hu (pv 4) (pv 8) (pe_op op_catE (pe_dget hu (pv 4) (pv 5) (fun _ _ => rfl)) (pe_tup (pa_cons (pv 6) pa_nil))) rfl)
            (pss_cons (ps_set (i := 7) sc_round.nd rfl (Or.inl rfl) (pe_op op_add (pv 7) (pe_ix ix_tup (pe_ix ix_list (pv 2) (pv 8) (fun _ _ => rfl)) pe_int (fun _ _ => rfl))))
            (pss_one (ps_set (i := 8) sc_round.nd rfl (Or.inl rfl) (pe_op op_add (pv 8) (pe_ix ix_tup (pe_ix ix_list (pv 2) (pv 8) (fun _ _ => rfl)) pe_int (fun _ _ => rfl)))))))))))))))))
      (pss_one (ps_ret pe_bl))))), ?_⟩
    refine ⟨_, rfl, _, rfl, a, r, g, row, rfl, ⟨gv, ha, pr⟩, gk, hr0, hok, hr70, fun th H1 e1 hth0 hT => ?_⟩
    obtain ⟨tv, htv, pt⟩ := hT
    refine fun bd hbd0 => ⟨upd_same, [(Sum.inl 0, .int 0)], rfl, by decide, ?_⟩
    let Ha : Hp := upd (upd H1 bd (.dK [])) bd (.dK (mergeK [] [(Sum.inl 0, .int 0)]))
    have ea : Ex H1 Ha := Evl.Ex.mut (Evl.Ex.new hbd0) hbd0
    intro ad had0
    have hadb : bd ≠ ad := ne_of_none (show Ha bd = some _ from upd_same) had0
    refine ⟨Nat.zero_le _, fun u0 hu0 => ?_⟩
    have hau : ad ≠ u0 := ne_of_none (show upd Ha ad (.dK []) ad = some _ from upd_same) hu0
    have hbu : bd ≠ u0 := ne_of_none (show upd Ha ad (.dK []) bd = some _ by rw [upd_ne hadb]; exact upd_same) hu0
    refine ⟨by rw [upd_ne hau, upd_same], [(Sum.inl 0, .ref u0)], rfl, (by show 1 ≤ 15; decide), ?_⟩
    let Hb : Hp := upd (upd (upd Ha ad (.dK [])) u0 (.tup [])) ad (.dK (mergeK [] [(Sum.inl 0, .ref u0)]))
    have eb : Ex Ha Hb := Evl.Ex.mut ((Evl.Ex.new had0).trans (Evl.Ex.new hu0)) had0
    have e1b := ea.trans eb
    have had1 : H1 ad = none := Evl.fresh_back ea had0
    have hbdb : Hb bd = some (.dK (mergeK [] [(Sum.inl 0, .int 0)])) := eb _ _ upd_same
    have hadb2 : Hb ad = some (.dK (mergeK [] [(Sum.inl 0, .ref u0)])) := upd_same
    have hu0b : Hb u0 = some (.tup []) := by
      show upd _ ad _ u0 = _
      rw [upd_ne hau.symm, upd_same]
    have hr1 := e1 _ _ hr0
    have ha1 := e1 _ _ ha
    refine ⟨_, rfl, r, _, rfl, .inl (sq (e1b _ _ hr1)), _, rfl, by omega, by rw [List.length_map]; omega, ?_⟩
    refine for_range (lo := 0) (fun k σ H' => Ex H1 H' ∧ (∃ v5 v6 v7 v8 v9, σ = [some (.ref a), some (.ref r), some (.ref th), some (.ref bd), some (.ref ad), v5, v6, v7, v8, v9]) ∧ ∃ kb ka : DI, H' bd = some (.dK kb) ∧ H' ad = some (.dK ka) ∧ kb.length ≤ 1 + 6 * k ∧ ka.length ≤ 1 + 6 * k ∧
      Pd g t (A0, 0, t.length) kb ka H' k (row.drop k)) ⟨e1b, ⟨none, none, none, none, none, rfl⟩, _, _, hbdb, hadb2, by decide, Nat.le_refl 1, ?_⟩ ?_ ?_
    · rw [List.drop_zero, ← List.append_nil row]
      refine .cons hfo hA0 (Nat.zero_le _) ⟨rfl, .ref u0, [], rfl, ⟨u0, [], rfl, hu0b, .nil⟩, Nat.zero_le _, .refl, fun _ z => nomatch z⟩ (.nil _)
    · rintro k σ H2 hk ⟨f1, ⟨v5, v6, v7, v8, v9, rfl⟩, kb, ka, hb2, ha2, lb, la, hP⟩
      have hkl : k < row.length := by
        have : k < (((row.map nv).length : Nat) : Int).toNat := hk
        rw [List.length_map] at this
        omega
      generalize hl : row.drop k = l at hP
      cases hP with
      | nil =>
        have := congrArg List.length hl
        rw [List.length_drop, List.length_nil] at this
        omega
      | @cons _ A b e row1 rest fX hn hbt hI hPr =>
        obtain ⟨rr, ρ, rowC, hρ, hh, er, hf⟩ := fX.one hn
        obtain ⟨S, hS⟩ := fX.top hn rest
        subst hh
        have hbe := fX.le
        rw [er] at hl hPr
        rw [List.cons_append] at hl
        have hrowk : row[k]? = some rr := by
          have := congrArg (fun l => l[0]?) hl
          simpa using this
        have hdrop1 : row.drop (k + 1) = rowC ++ rest := by
          have := congrArg List.tail hl
          rw [List.tail_drop] at this
          exact this
        have hmapk : (row.map nv)[k]? = some (nv rr) := by rw [List.getElem?_map, hrowk]; rfl
        have htk : (trees g row)[k]? = some (e - b, row1.length) := by
          have := trees_at (g := g) (pre := row.take k) (post := row.drop k) (by rw [hl, ← List.cons_append, ← er]; exact hS)
          rw [List.take_append_drop, List.length_take, Nat.min_eq_left (by omega)] at this
          exact this
        obtain ⟨tx, htx, tu, rfl, htu⟩ := pr_get pt htk
        have hρm := List.mem_of_getElem? hρ
        have hpse := gk.pse ρ hρm
        have hpsl := gk.psl ρ hρm
        obtain ⟨gx, hgx, rgx⟩ := pr_get pr hρ
        obtain ⟨gb, pp, rfl, hgb, hpp⟩ := mRule _ _ _ _ (tu_ex e1) rgx
        obtain ⟨hI1, wv, ws, hI2, hW, hwl, hst, hsp⟩ := id hI
        obtain ⟨wx, wvs, rfl, hwx, pw⟩ := hW
        have hr2 := f1 _ _ hr1
        have ha2' := f1 _ _ ha1
        have hgb2 := f1 _ _ hgb
        refine ⟨_, rfl, _, rfl, _, rfl, r, _, _, _, rfl, rfl, sq hr2, at_i hmapk, a, _, _, _, rfl, rfl, sq ha2', atI_nat hgx, gb, _, 0, _, rfl, rfl, st hgb2, atI_nat (j := 0) rfl, _, rfl, _, rfl, bd, _, rfl, dg0 hb2 hI1, _, rfl, _, rfl, th, _, _, _, rfl, rfl, sq (f1 _ _ htv), at_i htx, tu, _, 0, _, rfl, rfl, st (f1 _ _ htu), atI_nat (j := 0) rfl, (by show 3 ≤ sizeLine; decide), fun sp hsp0 => ?_⟩
        let H3 : Hp := upd H2 sp (.tup [.str ρ.hd, nv b, .int ((e - b : Nat) : Int)])
        have e3 : Ex H2 H3 := Evl.Ex.new hsp0
        have hsp3 : H3 sp = some (.tup [.str ρ.hd, nv b, .int ((e - b : Nat) : Int)]) := upd_same
        have hb3 := e3 _ _ hb2
        have ha3 := e3 _ _ ha2
        have f13 := f1.trans e3
        have hnm : ∀ n ∈ ws, ∃ A b z, isNm A ∧ n = nS A b z := fun n hn => by
          obtain ⟨s, h1, _, h2, _⟩ := hsp n hn
          exact ⟨_, _, _, h2, h1⟩
        obtain ⟨ds, hd1, hd2, hd3⟩ := ways_dp (K := K) (H := H3) (Paired.mono (fun _ _ => mNode _ _ _ _ (tu_ex e3)) pw) hnm
        refine ⟨_, rfl, _, rfl, _, rfl, ad, _, rfl, dg0 ha3 hI2, spD ρ.hd b (e - b), ds, .tup (st hsp3) (.cons (.str _) (.cons (.int _) (.cons (.int _) .nil))), .tup (st (e3 _ _ hwx)) hd1, spD_lay hn b (e - b), hd2, spD_depth _ _ _, _, rfl, ite2 (fun cc => ?_) (fun cc => ?_)⟩
        · refine q true _ (e1.trans f13) fun _ => ?_
          obtain ⟨s, h1, h2, _, h3, h4⟩ := hsp _ (hd3 _ _ _ cc)
          obtain ⟨q1, q2, q3⟩ := nS_inj h1
          obtain ⟨s1, s2, s3⟩ := s
          have q1 : ρ.hd = s1 := q1
          have q2 : b = s2 := q2
          have q3 : e - b = s3 - s2 := q3
          have h2 : s2 ≤ s3 := h2
          have q4 : s3 = e := by omega
          subst q1 q2 q4
          exact ⟨_, h3, h4⟩
        · refine ⟨_, rfl, _, rfl, bd, _, rfl, dg0 hb3 hI1, ?_⟩
          refine ⟨_, rfl, _, _, rfl, rfl, ?_⟩
          have hpp3 := f13 _ _ hpp
          refine ⟨_, rfl, _, rfl, _, rfl, r, _, _, _, rfl, rfl, sq (e3 _ _ hr2), at_i hmapk, a, _, _, _, rfl, rfl, sq (e3 _ _ ha2'), atI_nat hgx, gb, _, 1, _, rfl, rfl, st (e3 _ _ hgb2), atI_nat (j := 1) rfl, pp, rfl, ⟨_, st hpp3⟩, ?_⟩
          have hrlen : row.length = k + (1 + (rowC.length + rest.length)) := by
            have := congrArg List.length hl
            rw [List.length_drop, List.length_cons, List.length_append] at this
            omega
          refine for_tup (K := K) (xs := ρ.ps.map V.str) (fun d σ H' => Ex H1 H' ∧ Tu H3 H' ∧ ∃ (kb' ka' : DI) (en ch : Nat) (rowA rowB : List Nat) (ei ci : Int) (v9 : Option V), σ = [some (.ref a), some (.ref r), some (.ref th), some (.ref bd), some (.ref ad), some (.int ((0 : Int) + (k : Nat))), some (.ref sp), some (.int ei), some (.int ci), v9] ∧ ei = (en : Int) ∧ ci = (ch : Int) ∧ H' bd = some (.dK kb') ∧ H' ad = some (.dK ka') ∧
              kb'.length ≤ 1 + 6 * k + d ∧ ka'.length ≤ 1 + 6 * k + d ∧ PI_ g t (A0, 0, t.length) ρ b e k rowC kb ka kb' ka' H' d en ch rowA rowB)
            ⟨f13, Tu.refl _, kb, ka, b, k + 1, [], rowC, _, _, _, rfl, rfl, by omega, hb3, ha3, by omega, by omega, ⟨rfl, .nil _, hf, rfl, Keeps.refl, Keeps.refl, fun _ _ _ _ _ _ _ h => h⟩⟩ (fun d σ H' _ ⟨_, tt, _⟩ => st (tt _ _ hpp3)) ?_ ?_
          · rintro d x σ H4 hd ⟨k1, k2, kb', ka', en, ch, rowA, rowB, ei, ci, v9, rfl, rfl, rfl, hb4, ha4, lb', la', hPI⟩
            obtain ⟨z, hz, rfl⟩ : ∃ z, ρ.ps[d]? = some z ∧ V.str z = x := by
              rw [List.getElem?_map] at hd
              exact Option.map_eq_some_iff.mp hd
            have hzp := hpse z (List.mem_of_getElem? hz)
            have hdl := (List.getElem?_eq_some_iff.mp hz).1
            obtain ⟨c, hc, hcq⟩ := part_at hzp
            refine ⟨_, rfl, z, 0, c, rfl, rfl, small100 (len100 hzp), hc, rfl, _, rfl, ?_⟩
            rw [hcq]
            cases hzb : sgB z with
            | true =>
              obtain ⟨cz, rfl, _⟩ := sg_of hzp hzb
              exact iteT ⟨_, rfl, _, _, rfl, rfl, k1, k2, kb', ka', en + 1, ch, rowA, rowB, _, _, _, rfl, rfl, rfl, hb4, ha4, by omega, by omega, hPI.sign hz (Tu.refl _)⟩
            | false =>
              refine iteF ?_
              have hzn := nm_of hzp hzb
              have hvk := hPI.kq k _ (.inl rfl) hI2
              have hwx4 := k2 _ _ (e3 _ _ hwx)
              have hsp4 := k2 _ _ hsp3
              refine ⟨_, rfl, _, rfl, _, rfl, bd, _, rfl, DPut.k (k := ky ch) hb4 (small1000 (by omega)), ?_⟩
              let G1 : Hp := upd H4 bd (.dK (putK kb' (ky ch) (nv en)))
              have t1 : Tu H4 G1 := tu_upd hb4 fun _ z => nomatch z
              have g1 : Ex H1 G1 := Evl.Ex.mut k1 hbd0
              have ha5 : G1 ad = some (.dK ka') := by
                show upd H4 bd _ ad = _
                rw [upd_ne hadb.symm]
                exact ha4
              have hb5 : G1 bd = some (.dK (putK kb' (ky ch) (nv en))) := upd_same
              refine ⟨_, rfl, _, rfl, ad, _, rfl, dg0 ha5 hvk, _, rfl, (by show 1 ≤ sizeLine; decide), fun u2 hu2 => ?_⟩
              have e2 : Ex G1 (upd G1 u2 (.tup [.ref sp])) := Evl.Ex.new hu2
              have hwvl := Paired.length pw
              refine ⟨wx, u2, wvs, [.ref sp], rfl, rfl, e2 _ _ (t1 _ _ hwx4), upd_same, small100 (by show wvs.length + 1 ≤ 100; omega), fun p G3 e4 hp3 => ?_⟩
              have e13' := e2.trans e4
              have ha6 := e13' _ _ ha5
              have hb6 := e13' _ _ hb5
              refine ⟨_, rfl, _, rfl, ad, _, rfl, DPut.k (k := ky ch) ha6 (small1000 (by omega)), ?_⟩
              let G4 : Hp := upd G3 ad (.dK (putK ka' (ky ch) (.ref p)))
              have t4 : Tu G3 G4 := tu_upd ha6 fun _ z => nomatch z
              have g4 : Ex H1 G4 := Evl.Ex.mut (g1.trans e13') had1
              have tAll : Tu H4 G4 := t1.trans ((tu_ex e13').trans t4)
              have hWn : WayAt G4 (.ref p) (ws ++ [nS ρ.hd b (e - b)]) :=
                ⟨p, _, rfl, t4 _ _ hp3, Paired.snoc (Paired.mono (fun _ _ => mNode _ _ _ _ ((tu_ex e3).trans (k2.trans tAll))) pw) ⟨sp, rfl, tAll _ _ hsp4⟩⟩
              obtain ⟨m, rowX, rowY, hrowB, fX', hCh, hle, hnext⟩ := hPI.name (H' := G4) hz hzn hρ rfl hn hbt hst
              have hPI' := hnext (.ref p) ws hWn hbe hwl hsp tAll
              obtain ⟨S', hS'⟩ := fX'.top hzn (rowY ++ rest)
              have hrowD : row = (row.take k ++ rr :: rowA) ++ (rowX ++ (rowY ++ rest)) := by
                have h1 : row.drop k = rr :: (rowC ++ rest) := hl
                rw [hPI.row, hrowB] at h1
                have h2 := List.take_append_drop k row
                rw [h1] at h2
                exact h2.symm.trans (by simp only [List.append_assoc, List.cons_append])
              have hlenA : (row.take k ++ rr :: rowA).length = ch := by
                rw [List.length_append, List.length_take, Nat.min_eq_left (by omega), List.length_cons, hPI.hch]
                omega
              have htc : (trees g row)[ch]? = some (m - en, rowX.length) := by
                have := trees_at (g := g) (pre := row.take k ++ rr :: rowA) hS'
                rw [← hrowD, hlenA] at this
                exact this
              obtain ⟨cx, hcx, cu, rfl, hcu⟩ := pr_get pt htc
              refine ⟨_, rfl, _, rfl, _, rfl, th, _, _, _, rfl, rfl, sq (g4 _ _ htv), atI_nat hcx, cu, _, 0, _, rfl, rfl, st (g4 _ _ hcu), atI_nat (j := 0) rfl, _, _, rfl, rfl, ?_⟩
              refine ⟨_, rfl, _, rfl, _, rfl, th, _, _, _, rfl, rfl, sq (g4 _ _ htv), atI_nat hcx, cu, _, 1, _, rfl, rfl, st (g4 _ _ hcu), atI_nat (j := 1) rfl, _, _, rfl, rfl, ?_⟩
              have hb7 : G4 bd = some (.dK (putK kb' (ky ch) (nv en))) := by
                show upd G3 ad _ bd = _
                rw [upd_ne hadb]
                exact hb6
              refine ⟨g4, k2.trans tAll, _, _, m, ch + rowX.length, rowA ++ rowX, rowY, _, _, _, rfl, ?_, ?_, hb7, upd_same, ?_, ?_, hPI'⟩
              · show (en : Int) + ((m - en : Nat) : Int) = (m : Int)
                omega
              · show (ch : Int) + ((rowX.length : Nat) : Int) = ((ch + rowX.length : Nat) : Int)
                omega
              · have := length_putK kb' (ky ch) (nv en)
                omega
              · have := length_putK ka' (ky ch) (.ref p)
                omega
          · rintro σ H4 ⟨k1, k2, kb', ka', en, ch, rowA, rowB, ei, ci, v9, rfl, rfl, rfl, hb4, ha4, lb', la', hPI⟩
            rw [List.length_map] at hPI lb' la'
            refine ⟨k1, ⟨_, _, _, _, _, rfl⟩, kb', ka', hb4, ha4, by omega, by omega, ?_⟩
            rw [hdrop1]
            refine hPI.done ((tu_ex e3).trans k2) ?_
            rw [List.length_cons] at hPr
            rw [show k + 1 + rowC.length = k + (rowC.length + 1) by omega]
            exact hPr
    · rintro σ H2 ⟨f1, _⟩
      exact q false _ (e1.trans f1) fun z => by cases z
end
end FR

set_option Elab.async false
set_option linter.all false
set_option maxRecDepth 100000
set_option maxHeartbeats 4000000
namespace FR
open PySem L2
theorem okC_sg {c : Nat} (h : isSg (sgn c)) : okC c = true := by
  obtain ⟨c', e, h1, h2, h3⟩ := h
  have := sgn_inj e
  subst this
  unfold okC
  rw [decide_eq_true h1, decide_eq_true h2, decide_eq_false h3]
  rfl
theorem Rd.okT {g : List Rl} (gk : GOk g) {ps : List Str} {row t : List Nat} (h : Rd g ps row t) : (∀ p ∈ ps, isSg p ∨ isNm p) → ∀ c ∈ t, okC c = true := by
  induction h with
  | nil => exact fun _ _ h => by cases h
  | @sg c ps row t _ ih =>
    intro hp c' hc
    rcases List.mem_cons.mp hc with e | e
    · subst e
      exact okC_sg ((hp (sgn c') (List.mem_cons_self ..)).resolve_right fun z => sg_nm z)
    · exact ih (fun p hp' => hp p (List.mem_cons_of_mem _ hp')) c' e
  | @nm r ρ ps row t hr hn _ ih =>
    intro hp
    exact ih fun p hp' => (List.mem_append.mp hp').elim (gk.pse ρ (List.mem_of_getElem? hr) p) fun h => hp p (List.mem_cons_of_mem _ h)
theorem cut_mid (ns : List Int) : ∃ cs : List Int, cutV (ns.map V.int) (some 11) (some 74) = cs.map V.int ∧ cs.length ≤ 63 := by
  unfold cutV
  rw [show (11 : Int) = ((11 : Nat) : Int) from rfl, show (74 : Int) = ((74 : Nat) : Int) from rfl, HT.sIx_nat, HT.sIx_nat, ← List.map_drop, ← List.map_take]
  refine ⟨_, rfl, ?_⟩
  rw [List.length_take, List.length_map]
  omega
section
variable {P : Program} {w : World} {K : PySem.W.Frag} {mg : Str → Option Value} {base : Heap}
abbrev NL : List Str := ["_law_script", "_law_rules", "_law_row_here", "_law_wood", "_law_found"]
theorem sc_law : FnScope NL ["_law_script"] (defScope sLaw) := ⟨rfl, rfl, rfl, by decide +kernel, rfl, by decide +kernel, by decide +kernel⟩
def sp_law (K : PySem.W.Frag) : Sp := fun vs H Q _ => ∃ (a : Addr) (ns : List Int), vs = [.ref a] ∧ SqL K H a (ns.map V.int) ∧ ∀ H', Q (.bl true) H'
theorem ok_law {f fG fR fE fI fN fX fS fO C : Addr} {fd fdG fdR fdE fdI fdN fdX fdS fdO : FuncData} {k : Nat} (F : Fun K "law" "law" sLaw f fd) (U : Txt K mg) (T : TW K mg C)
    (GG : FnG P w K mg base "_law_grammar" (k + 1) ["_law_script"] (sp_gram K) fG fdG) (GR : FnG P w K mg base "_law_row" (k + 1) ["_law_grammar_here", "_law_cells", "_law_room"] (sp_row K) fR fdR)
    (GE : FnG P w K mg base "_law_read" (k + 1) ["_law_grammar_here", "_law_row_here"] sp_read fE fdE) (GI : FnC P w K mg base C k ["self", "grammar", "text"] (sp_winit C) fI fdI)
    (GX : FnG P w K mg base "ring" (k + 1) ["wood"] (sp_ring C) fX fdX) (GS : FnG P w K mg base "settled" (k + 1) ["wood"] (sp_settled C) fS fdS) (GN : FnM P w K mg base C "nodes" (k + 1) ["self"] (sp_nodes C) fN fdN)
    (GO : FnG P w K mg base "_law_round" (k + 1) ["_law_rules", "_law_row_here"] sp_round fO fdO) : FnOk P w K mg base CX0 (k + 2) f fd ["_law_script"] (sp_law K) := by
  refine F.ok sc_law (fun vs H Q E h => ?_) (fun cdv A0 outer s H vs Q E hr h => ?_)
  · obtain ⟨a, ns, rfl, _⟩ := h
    rfl
  · obtain ⟨a, ns, rfl, hS, q⟩ := h
    refine ⟨_, pss_cons (ps_set (i := 1) sc_law.nd rfl (Or.inl rfl) (pe_f GG hr (by rfl) (pa_cons (pv 0) pa_nil)))
      (pss_cons (ps_set (i := 2) sc_law.nd rfl (Or.inl rfl) (pe_f GR hr (by rfl) (pa_cons (pv 1) (pa_cons (pe_slice sl_list (pv 0) (po_some pe_int) (po_some pe_int)) (pa_cons pe_int pa_nil)))))
      (pss_cons (ps_set (i := 3) sc_law.nd rfl (Or.inl rfl) (pe_make GI.m GI.ok hr (by rfl) T.mgC GI.b .nil pass0 (pa_cons (pe_callTy call_list_of (by rfl) U.list bt_list (pa_cons (pv 1) pa_nil)) (pa_cons (pe_f GE hr (by rfl) (pa_cons (pv 1) (pa_cons (pv 2) pa_nil))) pa_nil))))
      (pss_cons (ps_set (i := 4) sc_law.nd rfl (Or.inl rfl) (pe_f GX hr (by rfl) (pa_cons (pv 3) pa_nil)))
      (pss_cons (ps_if (pt_cmpR op_ne (pe_cmp (pc_isN (pv 4))) (pe_cmpR op_eq (pe_callB call_len_seq (by rfl) U.len bt_len (pa_cons (pe_f GS hr (by rfl) (pa_cons (pv 3) pa_nil)) pa_nil))
          (pe_callB call_len_seq (by rfl) U.len bt_len (pa_cons (pe_meth0 (pv 3) T.cl GN.m GN.ok hr GN.b .nil pass0) pa_nil)) (nomark _)) (nomark _)) (pss_one (ps_ret pe_bl)) pss_nil)
      (pss_one (ps_ret (pe_or (pe_cmp (pc_notN (pv 4))) (pe_one (pe_not (pe_f GO hr (by rfl) (pa_cons (pv 1) (pa_cons (pv 2) pa_nil)))))))))))), ?_⟩
    refine ⟨_, rfl, a, ns, rfl, hS, fun ga H1 g e1 hga0 hL gk => ?_⟩
    obtain ⟨ρ0, hρ0⟩ : ∃ ρ0, g[0]? = some ρ0 := ⟨_, List.getElem?_eq_getElem gk.pos⟩
    have hρ0n := gk.hdn ρ0 (List.mem_of_getElem? hρ0)
    obtain ⟨cs, hcs, hcl⟩ := cut_mid ns
    refine ⟨_, rfl, _, rfl, _, rfl, _, rfl, a, _, rfl, sqL_ex hS e1, fun c hc0 => ?_⟩
    have ec : Ex H1 (upd H1 c (.lst (cutV (ns.map V.int) (some 11) (some 74)))) := Evl.Ex.new hc0
    refine ⟨ga, c, g, cs, ρ0, rfl, hL.ex mRule ec, gk, sq (by rw [upd_same, hcs]), hcl, hρ0, fun ro H2 row t e2 hro0 hro hRd ht4 hr70 => ?_⟩
    have e12 := ec.trans e2
    have hL2 := hL.ex mRule e12
    obtain ⟨gv, hgv, pg⟩ := hL2
    refine ⟨_, rfl, ga, gv, rfl, .inl (sq hgv), fun gl hgl0 => ?_⟩
    have el : Ex H2 (upd H2 gl (.lst gv)) := Evl.Ex.new hgl0
    have hLl : LstAt RuleAt (upd H2 gl (.lst gv)) gl g := LstAt.nw mRule (tu_ex el) pg
    have hL3 : LstAt RuleAt (upd H2 gl (.lst gv)) ga g := (show LstAt RuleAt H2 ga g from ⟨gv, hgv, pg⟩).ex mRule el
    have hro3 := el _ _ hro
    refine ⟨_, rfl, _, rfl, ga, ro, g, row, t, ρ0, rfl, hL3, gk, hro3, hρ0, hRd, ht4, hr70, fun H3 e3 => ?_⟩
    refine fun x dx nx ndx nex => ?_
    have e0 : Ex H3 (upd (upd H3 dx (.own x)) x (.ins C dx [])) := fun b o e => by
      rw [upd_ne (ne_of_none e nx), upd_ne (ne_of_none e ndx)]
      exact e
    have hokT := hRd.okT gk fun p hp => by rw [List.mem_singleton.mp hp]; exact .inr hρ0n
    refine ⟨g, x, dx, gl, ⟨t.toArray⟩, ρ0, rfl, upd_same, (hLl.ex mRule e3).ex mRule e0, gk, hρ0, (by show t.toArray.size ≤ 4; rw [List.size_toArray]; exact ht4), (fun c hc => hokT c (by simpa using hc)), fun H4 p hW hO hZ hk => ⟨rfl, ?_⟩⟩
    have e34 : Ex H3 H4 := fun b o h => hk b o (e0 b o h) (ne_of_none h nx)
    have hO : WoodOk g t ρ0.hd p := hO
    have hFo : Fo g t [ρ0.hd] 0 t.length row := hRd.fo [] rfl
    have e24 := el.trans (e3.trans e34)
    have hL4 : LstAt RuleAt H4 ga g := (show LstAt RuleAt H2 ga g from ⟨gv, hgv, pg⟩).ex mRule e24
    have hro4 := e24 _ _ hro
    have hkl : (keysP p).length = p.length := List.length_map ..
    refine ⟨_, rfl, x, p, rfl, hW, hZ, hO.nd, hO.cl, fun told H5 e5 hS1 hall => ?_, fun l told H5 e5 hS1 hnot => ?_⟩
    · have hW5 := hW.ex e5
      refine ⟨_, rfl, _, rfl, x, p, rfl, hW5, hZ, hO.nd, fun l2 told2 H6 e6 hl2 hL6 hS2 => ?_⟩
      obtain ⟨v2, hv2, p2⟩ := hL6
      have hW6 := hW5.ex e6
      obtain ⟨dx6, ra6, z6, pk6, pd6, hx6, _⟩ := id hW6
      refine ⟨l2, _, rfl, .inl (sq hv2), _, rfl, x, dx6, _, rfl, hx6, wF_nodes _ _ _ _, x, p, rfl, hW6, fun l3 H7 e7 hl3 hL7 => ?_⟩
      obtain ⟨v3, hv3, p3⟩ := hL7
      have hc := (SetOk.count hS1 hS2 hO.nd).mp hall
      have hl2 := Paired.length p2
      have hl3' := Paired.length p3
      refine ⟨l3, _, rfl, .inl (sq hv3), rfl, rfl, _, rfl, ?_⟩
      have hb : decide (V.int (v2.length : Int) = V.int (v3.length : Int)) = true := decide_eq_true (by rw [hl2, hl3', hkl, hc])
      rw [hb]
      refine iteF ?_
      refine ⟨_, rfl, _, rfl, iteF ?_⟩
      have e57 := e5.trans (e6.trans e7)
      refine ⟨_, rfl, _, rfl, ga, ro, g, row, t, ρ0.hd, rfl, hL4.ex mRule e57, gk, e57 _ _ hro4, hRd.rowOk, hr70, hFo, hρ0n, fun b H8 e8 hring => ⟨b, rfl, ?_⟩⟩
      cases b with
      | false => exact q _
      | true =>
        obtain ⟨s, h1, h2⟩ := hring rfl
        obtain ⟨y, hy, hP⟩ := ring_of hO hFo hρ0n h1 h2
        exact (hS1.noring (hall y hy) hP).elim
    · have hW5 := hW.ex e5
      refine ⟨_, rfl, _, rfl, x, p, rfl, hW5, hZ, hO.nd, fun l2 told2 H6 e6 hl2 hL6 hS2 => ?_⟩
      obtain ⟨v2, hv2, p2⟩ := hL6
      have hW6 := hW5.ex e6
      obtain ⟨dx6, ra6, z6, pk6, pd6, hx6, _⟩ := id hW6
      refine ⟨l2, _, rfl, .inl (sq hv2), _, rfl, x, dx6, _, rfl, hx6, wF_nodes _ _ _ _, x, p, rfl, hW6, fun l3 H7 e7 hl3 hL7 => ?_⟩
      obtain ⟨v3, hv3, p3⟩ := hL7
      have hl2 := Paired.length p2
      have hl3' := Paired.length p3
      refine ⟨l3, _, rfl, .inl (sq hv3), rfl, rfl, _, rfl, ?_⟩
      have hb : decide (V.int (v2.length : Int) = V.int (v3.length : Int)) = false := decide_eq_false (fun z => hnot ((SetOk.count hS1 hS2 hO.nd).mpr (by
        have := V.int.inj z
        omega)))
      rw [hb]
      refine iteF ?_
      exact ⟨_, rfl, _, rfl, iteT (q _)⟩
end
end FR

set_option Elab.async false
set_option linter.all false
set_option maxRecDepth 100000
set_option maxHeartbeats 4000000
namespace FR
open PySem L2
structure DG (K : PySem.W.Frag) (x : Str) (st : Stmt) (f : Addr) (fd : FuncData) : Prop where
  a : PySem.W.nsIn K mainGlobals x = some (some (.ref f))
  F : Fun K x x st f fd
structure DM (K : PySem.W.Frag) (C : Addr) (m qual : Str) (st : Stmt) (f : Addr) (fd : FuncData) : Prop where
  at_ : PySem.W.findIn K (.ref C) m = some (some (.ref f))
  fn : PySem.W.isFn K (.ref f) = true
  F : Fun K m qual st f fd
theorem dg_mk {K : PySem.W.Frag} {x : Str} {st : Stmt} {f : Addr} {oc : Value} {od an : Option Addr} {osl : Array (Option Value)} {kV doc pm cdv ct : Value} (a : PySem.W.nsIn K mainGlobals x = some (some (.ref f))) (l : K.lookup f = some ⟨oc, od, .func (PySem.W.fnOf x x (defArgs st) (defBody st) (defScope st) .none kV doc pm an cdv ct), osl⟩)
    (c : PySem.W.codeIn K cdv x = true) (k : PySem.W.keepIn K (.ref f) = true) : DG K x st f (PySem.W.fnOf x x (defArgs st) (defBody st) (defScope st) .none kV doc pm an cdv ct) := ⟨a, fun_mk (st := st) l c k⟩
theorem dm_mk {K : PySem.W.Frag} {C : Addr} {m qual : Str} {st : Stmt} {f : Addr} {oc : Value} {od an : Option Addr} {osl : Array (Option Value)} {kV doc pm cdv ct : Value} (a : PySem.W.findIn K (.ref C) m = some (some (.ref f))) (i : PySem.W.isFn K (.ref f) = true)
    (l : K.lookup f = some ⟨oc, od, .func (PySem.W.fnOf m qual (defArgs st) (defBody st) (defScope st) .none kV doc pm an cdv ct), osl⟩) (c : PySem.W.codeIn K cdv qual = true) (k : PySem.W.keepIn K (.ref f) = true) :
    DM K C m qual st f (PySem.W.fnOf m qual (defArgs st) (defBody st) (defScope st) .none kV doc pm an cdv ct) := ⟨a, i, fun_mk (st := st) l c k⟩
section
variable {P : Program} {w : World} {K : PySem.W.Frag} {mg : Str → Option Value} {base h : Heap}
theorem DG.up {x : Str} {st : Stmt} {f : Addr} {fd : FuncData} {j k : Nat} {ps : List Str} {sp : Sp} (D : DG K x st f fd) (X : K.In h) (G : h.Ns mainGlobals mg) (b : Binds K fd ps []) (o : FnOk P w K mg base CX0 j f fd ps sp) (hk : j ≤ k := by decide) : FnG P w K mg base x k ps sp f fd :=
  ⟨o.mono hk, PySem.W.mg_of X G D.a, D.F.kp, b⟩
theorem DM.up {C : Addr} {m qual : Str} {st : Stmt} {f : Addr} {fd : FuncData} {j k : Nat} {ps : List Str} {sp : Sp} (D : DM K C m qual st f fd) (b : Binds K fd ps []) (o : FnOk P w K mg base CX0 j f fd ps sp) (hk : j ≤ k := by decide) : FnM P w K mg base C m k ps sp f fd :=
  ⟨o.mono hk, ⟨D.at_, D.fn, D.F.kp⟩, b⟩
theorem worth_is {lv : List (Str × PySem.W.WData)} (X : PySem.W.LooseAre lv mg h) {n : Int} (hn : n = 10 ^ 60) (hm : (Str.ofString "MOST_WORTH", PySem.W.WData.int n) ∈ lv) : ∃ t, mg "MOST_WORTH" = some (.int (10 ^ 60) t) := by
  obtain ⟨v, h1, h2⟩ := X.val _ hm
  subst hn
  cases h2 with
  | int i t => exact ⟨t, h1⟩
end
theorem all_mk {l : PySem.W.OpenLaw} {w : World} {K : PySem.W.Frag} {h : Heap} {mg : Str → Option Value} {fa fL ChartC WoodC : Addr} (X : K.In h) (G : h.Ns mainGlobals mg) (hW : ∃ t, mg "MOST_WORTH" = some (.int (10 ^ 60) t)) (hfa : mg "law" = some (.ref fa))
    {odL anL : Option Addr} {slL : Array (Option Value)} {ocL kVL dcL pmL cdL ctL : Value} {t_SIGNS t_RULES t_PARTS : Tok}
    {f_whole : Addr} {d_whole : FuncData} {f_stand : Addr} {d_stand : FuncData} {f_sign : Addr} {d_sign : FuncData} {f_name : Addr} {d_name : FuncData} {f_ctext : Addr} {d_ctext : FuncData} {f_aparts : Addr} {d_aparts : FuncData} {f_rule : Addr} {d_rule : FuncData} {f_checked : Addr} {d_checked : FuncData} {f_by : Addr} {d_by : FuncData} {f_first : Addr} {d_first : FuncData} {f_heights : Addr} {d_heights : FuncData} {f_wparts : Addr} {d_wparts : FuncData} {f_whead : Addr} {d_whead : FuncData} {f_wover : Addr} {d_wover : FuncData} {f_owners : Addr} {d_owners : FuncData} {f_settled : Addr} {d_settled : FuncData} {f_unset : Addr} {d_unset : FuncData} {f_ring : Addr} {d_ring : FuncData} {f_cell : Addr} {d_cell : FuncData} {f_mixed : Addr} {d_mixed : FuncData} {f_signs : Addr} {d_signs : FuncData} {f_names : Addr} {d_names : FuncData} {f_worth : Addr} {d_worth : FuncData} {f_parts : Addr} {d_parts : FuncData} {f_gram : Addr} {d_gram : FuncData} {f_shorts : Addr} {d_shorts : FuncData} {f_need : Addr} {d_need : FuncData} {f_open : Addr} {d_open : FuncData} {f_row : Addr} {d_row : FuncData} {f_read : Addr} {d_read : FuncData} {f_tree : Addr} {d_tree : FuncData} {f_round : Addr} {d_round : FuncData} {f_cinit : Addr} {d_cinit : FuncData} {f_offer : Addr} {d_offer : FuncData} {f_tpart : Addr} {d_tpart : FuncData} {f_tparts : Addr} {d_tparts : FuncData} {f_tlevel : Addr} {d_tlevel : FuncData} {f_rise : Addr} {d_rise : FuncData} {f_winit : Addr} {d_winit : FuncData} {f_reach : Addr} {d_reach : FuncData} {f_nodes : Addr} {d_nodes : FuncData} {f_ways : Addr} {d_ways : FuncData}
    (a_Chart : PySem.W.nsIn K mainGlobals "Chart" = some (some (.ref ChartC))) (a_Wood : PySem.W.nsIn K mainGlobals "Wood" = some (some (.ref WoodC)))
    (D_whole : DG K "is_whole" sIsWhole f_whole d_whole)
    (D_stand : DG K "may_stand" sMayStand f_stand d_stand)
    (D_sign : DG K "is_sign" sIsSign f_sign d_sign)
    (D_name : DG K "is_name" sIsName f_name d_name)
    (D_ctext : DG K "checked_text" sCText f_ctext d_ctext)
    (D_aparts : DG K "are_parts" sAreParts f_aparts d_aparts)
    (D_rule : DG K "is_rule" sIsRule f_rule d_rule)
    (D_checked : DG K "checked" sChecked f_checked d_checked)
    (D_by : DG K "rules_by_head" sByHead f_by d_by)
    (D_first : DG K "first_nodes" sFirst f_first d_first)
    (D_heights : DG K "heights_over" sHeights f_heights d_heights)
    (D_wparts : DG K "ways_of_parts" sWParts f_wparts d_wparts)
    (D_whead : DG K "ways_of_head" sWHead f_whead d_whead)
    (D_wover : DG K "ways_over" sWOver f_wover d_wover)
    (D_owners : DG K "owners" sOwners f_owners d_owners)
    (D_settled : DG K "settled" sSettled f_settled d_settled)
    (D_unset : DG K "unsettled_beneath" sUnset f_unset d_unset)
    (D_ring : DG K "ring" sRing f_ring d_ring)
    (D_cell : DG K "_law_cell_at" sCell f_cell d_cell)
    (D_mixed : DG K "_law_mixed" sMixed f_mixed d_mixed)
    (D_signs : DG K "_law_signs" sSigns f_signs d_signs)
    (D_names : DG K "_law_names" sNames f_names d_names)
    (D_worth : DG K "_law_worth" sWorth f_worth d_worth)
    (D_parts : DG K "_law_parts" sParts f_parts d_parts)
    (D_gram : DG K "_law_grammar" sGram f_gram d_gram)
    (D_shorts : DG K "_law_shorts" sShorts f_shorts d_shorts)
    (D_need : DG K "_law_need" sNeed f_need d_need)
    (D_open : DG K "_law_open" sOpen f_open d_open)
    (D_row : DG K "_law_row" sRow f_row d_row)
    (D_read : DG K "_law_read" sRead f_read d_read)
    (D_tree : DG K "_law_tree" sTree f_tree d_tree)
    (D_round : DG K "_law_round" sRound f_round d_round)
    (D_cinit : DM K ChartC "__init__" "Chart.__init__" sCInit f_cinit d_cinit)
    (D_offer : DM K ChartC "offer" "Chart.offer" sOffer f_offer d_offer)
    (D_tpart : DM K ChartC "take_part" "Chart.take_part" sTPart f_tpart d_tpart)
    (D_tparts : DM K ChartC "take_parts" "Chart.take_parts" sTParts f_tparts d_tparts)
    (D_tlevel : DM K ChartC "take_level" "Chart.take_level" sTLevel f_tlevel d_tlevel)
    (D_rise : DM K ChartC "rise" "Chart.rise" sRise f_rise d_rise)
    (D_winit : DM K WoodC "__init__" "Wood.__init__" sWInit f_winit d_winit)
    (D_reach : DM K WoodC "reach" "Wood.reach" sReach f_reach d_reach)
    (D_nodes : DM K WoodC "nodes" "Wood.nodes" sNodes f_nodes d_nodes)
    (D_ways : DM K WoodC "ways" "Wood.ways" sWays f_ways d_ways)
    (pg_Chart : PySem.W.plainGet K ChartC Str.empty = true) (hd_Chart : PySem.W.hasDictIn K ChartC = true) (po_Chart : PySem.W.plainOver K ChartC = true) (sa_Chart : PySem.W.findIn K (.ref ChartC) "__setattr__" = some (some (.builtin "object.__setattr__"))) (mk_Chart : PySem.W.makesIn K ChartC = true) (kc_Chart : PySem.W.keepIn K (.ref ChartC) = true) (n_Chart_rules : PySem.W.findIn K (.ref ChartC) "rules" = some none) (n_Chart_heights : PySem.W.findIn K (.ref ChartC) "heights" = some none) (n_Chart_level : PySem.W.findIn K (.ref ChartC) "level" = some none) (n_Chart_queue : PySem.W.findIn K (.ref ChartC) "queue" = some none) (n_Chart_higher : PySem.W.findIn K (.ref ChartC) "higher" = some none) (n_Chart_ends : PySem.W.findIn K (.ref ChartC) "ends" = some none) (n_Chart_behind : PySem.W.findIn K (.ref ChartC) "behind" = some none) (pg_Wood : PySem.W.plainGet K WoodC Str.empty = true) (hd_Wood : PySem.W.hasDictIn K WoodC = true) (po_Wood : PySem.W.plainOver K WoodC = true) (sa_Wood : PySem.W.findIn K (.ref WoodC) "__setattr__" = some (some (.builtin "object.__setattr__"))) (mk_Wood : PySem.W.makesIn K WoodC = true) (kc_Wood : PySem.W.keepIn K (.ref WoodC) = true) (n_Wood_rules : PySem.W.findIn K (.ref WoodC) "rules" = some none) (n_Wood_signs : PySem.W.findIn K (.ref WoodC) "signs" = some none) (n_Wood_peak : PySem.W.findIn K (.ref WoodC) "peak" = some none) (n_Wood_paths : PySem.W.findIn K (.ref WoodC) "paths" = some none)
    (z_isinstance : PySem.W.nsIn K mainGlobals "isinstance" = some none) (z_int : PySem.W.nsIn K mainGlobals "int" = some none) (z_bool : PySem.W.nsIn K mainGlobals "bool" = some none) (z_str : PySem.W.nsIn K mainGlobals "str" = some none) (z_tuple : PySem.W.nsIn K mainGlobals "tuple" = some none) (z_list : PySem.W.nsIn K mainGlobals "list" = some none) (z_len : PySem.W.nsIn K mainGlobals "len" = some none) (z_ord : PySem.W.nsIn K mainGlobals "ord" = some none) (z_sum : PySem.W.nsIn K mainGlobals "sum" = some none) (z_enumerate : PySem.W.nsIn K mainGlobals "enumerate" = some none) (z_range : PySem.W.nsIn K mainGlobals "range" = some none) (z_reversed : PySem.W.nsIn K mainGlobals "reversed" = some none) (m_SIGNS : PySem.W.nsIn K mainGlobals "MOST_SIGNS" = some (some (.int 60 t_SIGNS))) (m_RULES : PySem.W.nsIn K mainGlobals "MOST_RULES" = some (some (.int 60 t_RULES))) (m_PARTS : PySem.W.nsIn K mainGlobals "MOST_PARTS" = some (some (.int 6 t_PARTS)))
    (aL : PySem.W.nsIn K mainGlobals "law" = some (some (.ref fL))) (lL : K.lookup fL = some ⟨ocL, odL, .func (PySem.W.fnOf "law" "law" (defArgs sLaw) (defBody sLaw) (defScope sLaw) .none kVL dcL pmL anL cdL ctL), slL⟩) (cL : PySem.W.codeIn K cdL "law" = true) (kL : PySem.W.keepIn K (.ref fL) = true) :
    ∃ fd : FuncData, (∀ (s : Shared) (v : Value), BindsTo s fd ⟨[v], []⟩ [("_law_script", v)]) ∧ ∀ base : Heap, K.In base → base.Ns mainGlobals mg → FnOk l.prog w K mg base CX0 8 fa fd ["_law_script"] (sp_law K) := by
  have e := hfa.symm.trans (PySem.W.mg_of X G aL)
  cases e
  have U : Txt K mg := ⟨PySem.W.mg_none_of X G z_isinstance, PySem.W.mg_none_of X G z_int, PySem.W.mg_none_of X G z_bool, PySem.W.mg_none_of X G z_str, PySem.W.mg_none_of X G z_tuple, PySem.W.mg_none_of X G z_list, PySem.W.mg_none_of X G z_len, PySem.W.mg_none_of X G z_ord, PySem.W.mg_none_of X G z_sum, PySem.W.mg_none_of X G z_enumerate, PySem.W.mg_none_of X G z_range, PySem.W.mg_none_of X G z_reversed, ⟨_, PySem.W.mg_of X G m_SIGNS⟩, ⟨_, PySem.W.mg_of X G m_RULES⟩, ⟨_, PySem.W.mg_of X G m_PARTS⟩, hW⟩
  have T_Chart : TC K mg ChartC := ⟨⟨pg_Chart, hd_Chart, po_Chart, sa_Chart⟩, n_Chart_rules, n_Chart_heights, n_Chart_level, n_Chart_queue, n_Chart_higher, n_Chart_ends, n_Chart_behind, PySem.W.mg_of X G a_Chart⟩
  have T_Wood : TW K mg WoodC := ⟨⟨pg_Wood, hd_Wood, po_Wood, sa_Wood⟩, n_Wood_rules, n_Wood_signs, n_Wood_peak, n_Wood_paths, PySem.W.mg_of X G a_Wood⟩
  have b_whole := D_whole.F.binds (ps := ["thing"]) fun _ _ _ _ _ _ us hl => match us, hl with | [_], _ => rfl
  have b_stand := D_stand.F.binds (ps := ["sign"]) fun _ _ _ _ _ _ us hl => match us, hl with | [_], _ => rfl
  have b_sign := D_sign.F.binds (ps := ["thing"]) fun _ _ _ _ _ _ us hl => match us, hl with | [_], _ => rfl
  have b_name := D_name.F.binds (ps := ["thing"]) fun _ _ _ _ _ _ us hl => match us, hl with | [_], _ => rfl
  have b_ctext := D_ctext.F.binds (ps := ["thing"]) fun _ _ _ _ _ _ us hl => match us, hl with | [_], _ => rfl
  have b_aparts := D_aparts.F.binds (ps := ["thing"]) fun _ _ _ _ _ _ us hl => match us, hl with | [_], _ => rfl
  have b_rule := D_rule.F.binds (ps := ["thing"]) fun _ _ _ _ _ _ us hl => match us, hl with | [_], _ => rfl
  have b_checked := D_checked.F.binds (ps := ["thing"]) fun _ _ _ _ _ _ us hl => match us, hl with | [_], _ => rfl
  have b_by := D_by.F.binds (ps := ["rules"]) fun _ _ _ _ _ _ us hl => match us, hl with | [_], _ => rfl
  have b_first := D_first.F.binds (ps := ["rules", "signs"]) fun _ _ _ _ _ _ us hl => match us, hl with | [_, _], _ => rfl
  have b_heights := D_heights.F.binds (ps := ["rules", "signs"]) fun _ _ _ _ _ _ us hl => match us, hl with | [_, _], _ => rfl
  have b_wparts := D_wparts.F.binds (ps := ["rules", "heights", "node"]) fun _ _ _ _ _ _ us hl => match us, hl with | [_, _, _], _ => rfl
  have b_whead := D_whead.F.binds (ps := ["rules", "by", "heights", "node"]) fun _ _ _ _ _ _ us hl => match us, hl with | [_, _, _, _], _ => rfl
  have b_wover := D_wover.F.binds (ps := ["rules", "by", "heights", "node"]) fun _ _ _ _ _ _ us hl => match us, hl with | [_, _, _, _], _ => rfl
  have b_owners := D_owners.F.binds (ps := ["wood"]) fun _ _ _ _ _ _ us hl => match us, hl with | [_], _ => rfl
  have b_settled := D_settled.F.binds (ps := ["wood"]) fun _ _ _ _ _ _ us hl => match us, hl with | [_], _ => rfl
  have b_unset := D_unset.F.binds (ps := ["wood", "calm", "node"]) fun _ _ _ _ _ _ us hl => match us, hl with | [_, _, _], _ => rfl
  have b_ring := D_ring.F.binds (ps := ["wood"]) fun _ _ _ _ _ _ us hl => match us, hl with | [_], _ => rfl
  have b_cell := D_cell.F.binds (ps := ["_law_script", "_law_k"]) fun _ _ _ _ _ _ us hl => match us, hl with | [_, _], _ => rfl
  have b_mixed := D_mixed.F.binds (ps := ["_law_script", "_law_k"]) fun _ _ _ _ _ _ us hl => match us, hl with | [_, _], _ => rfl
  have b_signs := D_signs.F.binds (ps := ["_law_cell"]) fun _ _ _ _ _ _ us hl => match us, hl with | [_], _ => rfl
  have b_names := D_names.F.binds (ps := ["_law_cell"]) fun _ _ _ _ _ _ us hl => match us, hl with | [_], _ => rfl
  have b_worth := D_worth.F.binds (ps := ["_law_cell"]) fun _ _ _ _ _ _ us hl => match us, hl with | [_], _ => rfl
  have b_parts := D_parts.F.binds (ps := ["_law_cell", "_law_menu", "_law_most"]) fun _ _ _ _ _ _ us hl => match us, hl with | [_, _, _], _ => rfl
  have b_gram := D_gram.F.binds (ps := ["_law_script"]) fun _ _ _ _ _ _ us hl => match us, hl with | [_], _ => rfl
  have b_shorts := D_shorts.F.binds (ps := ["_law_grammar_here"]) fun _ _ _ _ _ _ us hl => match us, hl with | [_], _ => rfl
  have b_need := D_need.F.binds (ps := ["_law_parts_here"]) fun _ _ _ _ _ _ us hl => match us, hl with | [_], _ => rfl
  have b_open := D_open.F.binds (ps := ["_law_grammar_here", "_law_shorts_here", "_law_name", "_law_most"]) fun _ _ _ _ _ _ us hl => match us, hl with | [_, _, _, _], _ => rfl
  have b_row := D_row.F.binds (ps := ["_law_grammar_here", "_law_cells", "_law_room"]) fun _ _ _ _ _ _ us hl => match us, hl with | [_, _, _], _ => rfl
  have b_read := D_read.F.binds (ps := ["_law_grammar_here", "_law_row_here"]) fun _ _ _ _ _ _ us hl => match us, hl with | [_, _], _ => rfl
  have b_tree := D_tree.F.binds (ps := ["_law_rules", "_law_row_here"]) fun _ _ _ _ _ _ us hl => match us, hl with | [_, _], _ => rfl
  have b_round := D_round.F.binds (ps := ["_law_rules", "_law_row_here"]) fun _ _ _ _ _ _ us hl => match us, hl with | [_, _], _ => rfl
  have b_cinit := D_cinit.F.binds (ps := ["self", "rules"]) fun _ _ _ _ _ _ us hl => match us, hl with | [_, _], _ => rfl
  have b_offer := D_offer.F.binds (ps := ["self", "node"]) fun _ _ _ _ _ _ us hl => match us, hl with | [_, _], _ => rfl
  have b_tpart := D_tpart.F.binds (ps := ["self", "part", "i", "j"]) fun _ _ _ _ _ _ us hl => match us, hl with | [_, _, _, _], _ => rfl
  have b_tparts := D_tparts.F.binds (ps := ["self", "r", "d", "i", "j"]) fun _ _ _ _ _ _ us hl => match us, hl with | [_, _, _, _, _], _ => rfl
  have b_tlevel := D_tlevel.F.binds (ps := ["self"]) fun _ _ _ _ _ _ us hl => match us, hl with | [_], _ => rfl
  have b_rise := D_rise.F.binds (ps := ["self"]) fun _ _ _ _ _ _ us hl => match us, hl with | [_], _ => rfl
  have b_winit := D_winit.F.binds (ps := ["self", "grammar", "text"]) fun _ _ _ _ _ _ us hl => match us, hl with | [_, _, _], _ => rfl
  have b_reach := D_reach.F.binds (ps := ["self", "heights"]) fun _ _ _ _ _ _ us hl => match us, hl with | [_, _], _ => rfl
  have b_nodes := D_nodes.F.binds (ps := ["self"]) fun _ _ _ _ _ _ us hl => match us, hl with | [_], _ => rfl
  have b_ways := D_ways.F.binds (ps := ["self", "node"]) fun _ _ _ _ _ _ us hl => match us, hl with | [_, _], _ => rfl
  refine ⟨PySem.W.fnOf "law" "law" (defArgs sLaw) (defBody sLaw) (defScope sLaw) .none kVL dcL pmL anL cdL ctL, fun s v => .of_eq rfl, fun base _ _ => ?_⟩
  have o_whole := ok_is_whole (P := l.prog) (w := w) (base := base) (k := 0) D_whole.F U
  have o_stand := ok_may_stand (P := l.prog) (w := w) (base := base) (k := 0) D_stand.F U
  have o_sign := ok_is_sign (P := l.prog) (w := w) (base := base) (k := 1) D_sign.F U (D_stand.up (k := 1) X G b_stand o_stand)
  have o_name := ok_is_name (P := l.prog) (w := w) (base := base) (k := 0) D_name.F U
  have o_ctext := ok_ctext (P := l.prog) (w := w) (base := base) (k := 1) D_ctext.F U (D_stand.up (k := 1) X G b_stand o_stand)
  have o_aparts := ok_are_parts (P := l.prog) (w := w) (base := base) (k := 2) D_aparts.F U (D_sign.up (k := 2) X G b_sign o_sign) (D_name.up (k := 2) X G b_name o_name)
  have o_rule := ok_is_rule (P := l.prog) (w := w) (base := base) (k := 3) D_rule.F U (D_name.up (k := 3) X G b_name o_name) (D_aparts.up (k := 3) X G b_aparts o_aparts) (D_whole.up (k := 3) X G b_whole o_whole)
  have o_checked := ok_checked (P := l.prog) (w := w) (base := base) (k := 4) D_checked.F U (D_rule.up (k := 4) X G b_rule o_rule)
  have o_by := ok_by (P := l.prog) (w := w) (base := base) (k := 0) D_by.F U
  have o_first := ok_first (P := l.prog) (w := w) (base := base) (k := 0) D_first.F U
  have o_offer := ok_offer (P := l.prog) (w := w) (mg := mg) (base := base) (k := 0) D_offer.F T_Chart
  have o_tpart := ok_tpart (P := l.prog) (w := w) (mg := mg) (base := base) (k := 1) D_tpart.F T_Chart (D_offer.up (k := 1) b_offer o_offer)
  have o_tparts := ok_tparts (P := l.prog) (w := w) (mg := mg) (base := base) (k := 1) D_tparts.F U T_Chart (D_offer.up (k := 1) b_offer o_offer)
  have o_tlevel := ok_tlevel (P := l.prog) (w := w) (mg := mg) (base := base) (k := 2) D_tlevel.F U T_Chart (D_tpart.up (k := 2) b_tpart o_tpart) (D_tparts.up (k := 2) b_tparts o_tparts)
  have o_rise := ok_rise (P := l.prog) (w := w) (mg := mg) (base := base) (k := 1) D_rise.F T_Chart (D_offer.up (k := 1) b_offer o_offer)
  have o_cinit := ok_cinit (P := l.prog) (w := w) (mg := mg) (base := base) (k := 0) D_cinit.F T_Chart
  have o_heights := ok_heights (P := l.prog) (w := w) (mg := mg) (base := base) (k := 2) D_heights.F T_Chart ⟨o_cinit.mono (by decide), ⟨mk_Chart, D_cinit.at_, D_cinit.fn, kc_Chart⟩, b_cinit⟩ (D_first.up (k := 3) X G b_first o_first) (D_offer.up (k := 3) b_offer o_offer) (D_tlevel.up (k := 3) b_tlevel o_tlevel) (D_rise.up (k := 3) b_rise o_rise)
  have o_wparts := ok_wparts (P := l.prog) (w := w) (mg := mg) (base := base) (k := 0) D_wparts.F U
  have o_whead := ok_whead (P := l.prog) (w := w) (mg := mg) (base := base) (k := 0) D_whead.F U
  have o_wover := ok_wover (P := l.prog) (w := w) (mg := mg) (base := base) (k := 1) D_wover.F U (D_wparts.up (k := 1) X G b_wparts o_wparts) (D_whead.up (k := 1) X G b_whead o_whead)
  have o_nodes := ok_nodes (P := l.prog) (w := w) (mg := mg) (base := base) (k := 0) D_nodes.F U T_Wood
  have o_ways := ok_ways (P := l.prog) (w := w) (mg := mg) (base := base) (k := 0) D_ways.F U T_Wood
  have o_reach := ok_reach (P := l.prog) (w := w) (mg := mg) (base := base) (k := 2) D_reach.F T_Wood (D_by.up (k := 2) X G b_by o_by) (D_wover.up (k := 2) X G b_wover o_wover)
  have o_winit := ok_winit (P := l.prog) (w := w) (mg := mg) (base := base) (k := 5) D_winit.F U T_Wood (D_checked.up (k := 5) X G b_checked o_checked) (D_ctext.up (k := 5) X G b_ctext o_ctext) (D_heights.up (k := 5) X G b_heights o_heights) (D_reach.up (k := 5) b_reach o_reach)
  have o_owners := ok_owners (P := l.prog) (w := w) (mg := mg) (base := base) (k := 1) D_owners.F T_Wood (D_nodes.up (k := 1) b_nodes o_nodes) (D_ways.up (k := 1) b_ways o_ways)
  have o_settled := ok_settled (P := l.prog) (w := w) (mg := mg) (base := base) (k := 2) D_settled.F U T_Wood (D_owners.up (k := 2) X G b_owners o_owners) (D_nodes.up (k := 2) b_nodes o_nodes) (D_ways.up (k := 2) b_ways o_ways)
  have o_unset := ok_unset (P := l.prog) (w := w) (mg := mg) (base := base) (k := 1) D_unset.F T_Wood (D_ways.up (k := 1) b_ways o_ways)
  have o_ring := ok_ring (P := l.prog) (w := w) (mg := mg) (base := base) (k := 3) D_ring.F U T_Wood (D_settled.up (k := 3) X G b_settled o_settled) (D_nodes.up (k := 3) b_nodes o_nodes) (D_unset.up (k := 3) X G b_unset o_unset)
  have o_cell := ok_cell (P := l.prog) (w := w) (mg := mg) (base := base) (k := 0) D_cell.F U
  have o_mixed := ok_mixed (P := l.prog) (w := w) (mg := mg) (base := base) (k := 1) D_mixed.F (D_cell.up (k := 1) X G b_cell o_cell)
  have o_signs := ok_signs (P := l.prog) (w := w) (mg := mg) (base := base) (k := 0) D_signs.F
  have o_worth := ok_worth (P := l.prog) (w := w) (mg := mg) (base := base) (k := 0) D_worth.F
  have o_names := ok_names (P := l.prog) (w := w) (mg := mg) (base := base) (k := 0) D_names.F U
  have o_parts := ok_parts (P := l.prog) (w := w) (mg := mg) (base := base) (k := 0) D_parts.F U
  have o_gram := ok_gram (P := l.prog) (w := w) (mg := mg) (base := base) (k := 2) D_gram.F U (D_names.up (k := 2) X G b_names o_names) (D_mixed.up (k := 2) X G b_mixed o_mixed) (D_signs.up (k := 2) X G b_signs o_signs) (D_worth.up (k := 2) X G b_worth o_worth) (D_parts.up (k := 2) X G b_parts o_parts) (D_cell.up (k := 2) X G b_cell o_cell)
  have o_shorts := ok_shorts (P := l.prog) (w := w) (mg := mg) (base := base) (k := 0) D_shorts.F U
  have o_need := ok_need (P := l.prog) (w := w) (mg := mg) (base := base) (k := 0) D_need.F U
  have o_open := ok_open (P := l.prog) (w := w) (mg := mg) (base := base) (k := 1) D_open.F U (D_need.up (k := 1) X G b_need o_need)
  have o_row := ok_row (P := l.prog) (w := w) (mg := mg) (base := base) (k := 2) D_row.F U (D_shorts.up (k := 2) X G b_shorts o_shorts) (D_open.up (k := 2) X G b_open o_open) (D_need.up (k := 2) X G b_need o_need)
  have o_read := ok_read (P := l.prog) (w := w) (mg := mg) (base := base) (k := 0) D_read.F U
  have o_tree := ok_tree (P := l.prog) (w := w) (mg := mg) (base := base) (k := 0) D_tree.F U
  have o_round := ok_round (P := l.prog) (w := w) (mg := mg) (base := base) (k := 1) D_round.F U (D_tree.up (k := 1) X G b_tree o_tree)
  exact ok_law (k := 6) (fun_mk (st := sLaw) lL cL kL) U T_Wood (D_gram.up (k := 7) X G b_gram o_gram) (D_row.up (k := 7) X G b_row o_row) (D_read.up (k := 7) X G b_read o_read) ⟨o_winit.mono (by decide), ⟨mk_Wood, D_winit.at_, D_winit.fn, kc_Wood⟩, b_winit⟩ (D_ring.up (k := 7) X G b_ring o_ring) (D_settled.up (k := 7) X G b_settled o_settled) (D_nodes.up (k := 7) b_nodes o_nodes) (D_round.up (k := 7) X G b_round o_round)
/-- the law's end; what is known of the loose names is handed on -/
theorem walk {lw : PySem.W.OpenLaw} {p0 : Program} {lo : List Str} {XP : (Str → Option Value) → Heap → Prop} {YP : World → Heap → Prop} {dr : DefRec} {Kf : Params → PySem.W.Frag} {most : Nat} (h1 : lw.most = some most) (h2 : most ≤ sizeLine) (h3 : dr.params.defaults = [])
    (hY : ∀ (w0 : World) (hp : Heap), YP w0 hp → (Kf w0.params).In hp)
    (F : ∀ (w0 : World) (mg : Str → Option Value) (fa : Addr) (hp : Heap), (Kf w0.params).In hp → hp.Ns mainGlobals mg → XP mg hp → mg dr.name = some (.ref fa) → ∃ fd : FuncData, (∀ (s : Shared) (u : Value), BindsTo s fd ⟨[u], []⟩ [("_law_script", u)]) ∧
      ∀ base : Heap, (Kf w0.params).In base → base.Ns mainGlobals mg → FnOk lw.prog w0 (Kf w0.params) mg base CX0 8 fa fd ["_law_script"] (sp_law (Kf w0.params))) : PySem.W.WalkO p0 lo XP YP lw.row.toRowW dr [] (fun f vs => PySem.call f vs) := by
  refine Att.attach_call h1 h3 fun w0 sA sB mg mb fa ob pm cd doc ar vs ns Gr Yp c1 c2 c3 c4 c5 c6 c7 c8 => ?_
  obtain ⟨fd, hb, hF⟩ := F w0 mg fa _ (hY w0 _ Yp) Gr.T.g Gr.X c4
  exact L2.law_call (k := 8) (hY w0 _ Yp) Gr.T.g Gr.T.b Gr.T.builtins Gr.T.nolimit c8 c5 c6 (Nat.le_trans c7 h2) ⟨rfl, by decide, by decide⟩ hF hb (fun _ _ hS => ⟨ar, ns, rfl, hS, fun _ => rfl⟩) fun _ _ _ z => z
end FR


open PySem PySem.W PyProof.Rows in
set_option Elab.async false in
set_option maxRecDepth 100000 in
set_option maxHeartbeats 0 in
theorem PySem.Challenge.cw_forestread_k32_whole_rings_holds : PySem.Challenge.rw_forestread_k32_whole_rings.Holds := by
  w_on; o_law; k_head; (case hw => w_witness2)
  k_fill
  refine FR.walk (lw := PySem.Challenge.rw_forestread_k32_whole_rings) rfl (by decide) rfl (fun w h Y => PySem.W.kIn_of Y) ?F
  case F =>
    intro w mg fa h KX G XP hmg
    refine' FR.all_mk KX G (FR.worth_is XP.2 (by decide) (List.mem_singleton.mpr rfl)) hmg ?a_Chart ?a_Wood ?D_whole ?D_stand ?D_sign ?D_name ?D_ctext ?D_aparts ?D_rule ?D_checked ?D_by ?D_first ?D_heights ?D_wparts ?D_whead ?D_wover ?D_owners ?D_settled ?D_unset ?D_ring ?D_cell ?D_mixed ?D_signs ?D_names ?D_worth ?D_parts ?D_gram ?D_shorts ?D_need ?D_open ?D_row ?D_read ?D_tree ?D_round ?D_cinit ?D_offer ?D_tpart ?D_tparts ?D_tlevel ?D_rise ?D_winit ?D_reach ?D_nodes ?D_ways ?pg_Chart ?hd_Chart ?po_Chart ?sa_Chart ?mk_Chart ?kc_Chart ?n_Chart_rules ?n_Chart_heights ?n_Chart_level ?n_Chart_queue ?n_Chart_higher ?n_Chart_ends ?n_Chart_behind ?pg_Wood ?hd_Wood ?po_Wood ?sa_Wood ?mk_Wood ?kc_Wood ?n_Wood_rules ?n_Wood_signs ?n_Wood_peak ?n_Wood_paths ?z_isinstance ?z_int ?z_bool ?z_str ?z_tuple ?z_list ?z_len ?z_ord ?z_sum ?z_enumerate ?z_range ?z_reversed ?m_SIGNS ?m_RULES ?m_PARTS ?aL ?lL ?cL ?kL
    (case a_Chart => k_is)
    (case a_Wood => k_is)
    (case D_whole => refine' FR.dg_mk ?a ?l ?c ?k; (case a => k_is); (case l => k_is); (case c => k_is); (case k => k_is))
    (case D_stand => refine' FR.dg_mk ?a ?l ?c ?k; (case a => k_is); (case l => k_is); (case c => k_is); (case k => k_is))
    (case D_sign => refine' FR.dg_mk ?a ?l ?c ?k; (case a => k_is); (case l => k_is); (case c => k_is); (case k => k_is))
    (case D_name => refine' FR.dg_mk ?a ?l ?c ?k; (case a => k_is); (case l => k_is); (case c => k_is); (case k => k_is))
    (case D_ctext => refine' FR.dg_mk ?a ?l ?c ?k; (case a => k_is); (case l => k_is); (case c => k_is); (case k => k_is))
    (case D_aparts => refine' FR.dg_mk ?a ?l ?c ?k; (case a => k_is); (case l => k_is); (case c => k_is); (case k => k_is))
    (case D_rule => refine' FR.dg_mk ?a ?l ?c ?k; (case a => k_is); (case l => k_is); (case c => k_is); (case k => k_is))
    (case D_checked => refine' FR.dg_mk ?a ?l ?c ?k; (case a => k_is); (case l => k_is); (case c => k_is); (case k => k_is))
    (case D_by => refine' FR.dg_mk ?a ?l ?c ?k; (case a => k_is); (case l => k_is); (case c => k_is); (case k => k_is))
    (case D_first => refine' FR.dg_mk ?a ?l ?c ?k; (case a => k_is); (case l => k_is); (case c => k_is); (case k => k_is))
    (case D_heights => refine' FR.dg_mk ?a ?l ?c ?k; (case a => k_is); (case l => k_is); (case c => k_is); (case k => k_is))
    (case D_wparts => refine' FR.dg_mk ?a ?l ?c ?k; (case a => k_is); (case l => k_is); (case c => k_is); (case k => k_is))
    (case D_whead => refine' FR.dg_mk ?a ?l ?c ?k; (case a => k_is); (case l => k_is); (case c => k_is); (case k => k_is))
    (case D_wover => refine' FR.dg_mk ?a ?l ?c ?k; (case a => k_is); (case l => k_is); (case c => k_is); (case k => k_is))
    (case D_owners => refine' FR.dg_mk ?a ?l ?c ?k; (case a => k_is); (case l => k_is); (case c => k_is); (case k => k_is))
    (case D_settled => refine' FR.dg_mk ?a ?l ?c ?k; (case a => k_is); (case l => k_is); (case c => k_is); (case k => k_is))
    (case D_unset => refine' FR.dg_mk ?a ?l ?c ?k; (case a => k_is); (case l => k_is); (case c => k_is); (case k => k_is))
    (case D_ring => refine' FR.dg_mk ?a ?l ?c ?k; (case a => k_is); (case l => k_is); (case c => k_is); (case k => k_is))
    (case D_cell => refine' FR.dg_mk ?a ?l ?c ?k; (case a => k_is); (case l => k_is); (case c => k_is); (case k => k_is))
    (case D_mixed => refine' FR.dg_mk ?a ?l ?c ?k; (case a => k_is); (case l => k_is); (case c => k_is); (case k => k_is))
    (case D_signs => refine' FR.dg_mk ?a ?l ?c ?k; (case a => k_is); (case l => k_is); (case c => k_is); (case k => k_is))
    (case D_names => refine' FR.dg_mk ?a ?l ?c ?k; (case a => k_is); (case l => k_is); (case c => k_is); (case k => k_is))
    (case D_worth => refine' FR.dg_mk ?a ?l ?c ?k; (case a => k_is); (case l => k_is); (case c => k_is); (case k => k_is))
    (case D_parts => refine' FR.dg_mk ?a ?l ?c ?k; (case a => k_is); (case l => k_is); (case c => k_is); (case k => k_is))
    (case D_gram => refine' FR.dg_mk ?a ?l ?c ?k; (case a => k_is); (case l => k_is); (case c => k_is); (case k => k_is))
    (case D_shorts => refine' FR.dg_mk ?a ?l ?c ?k; (case a => k_is); (case l => k_is); (case c => k_is); (case k => k_is))
    (case D_need => refine' FR.dg_mk ?a ?l ?c ?k; (case a => k_is); (case l => k_is); (case c => k_is); (case k => k_is))
    (case D_open => refine' FR.dg_mk ?a ?l ?c ?k; (case a => k_is); (case l => k_is); (case c => k_is); (case k => k_is))
    (case D_row => refine' FR.dg_mk ?a ?l ?c ?k; (case a => k_is); (case l => k_is); (case c => k_is); (case k => k_is))
    (case D_read => refine' FR.dg_mk ?a ?l ?c ?k; (case a => k_is); (case l => k_is); (case c => k_is); (case k => k_is))
    (case D_tree => refine' FR.dg_mk ?a ?l ?c ?k; (case a => k_is); (case l => k_is); (case c => k_is); (case k => k_is))
    (case D_round => refine' FR.dg_mk ?a ?l ?c ?k; (case a => k_is); (case l => k_is); (case c => k_is); (case k => k_is))
    (case D_cinit => refine' FR.dm_mk ?a ?i ?l ?c ?k; (case a => k_is); (case i => k_is); (case l => k_is); (case c => k_is); (case k => k_is))
    (case D_offer => refine' FR.dm_mk ?a ?i ?l ?c ?k; (case a => k_is); (case i => k_is); (case l => k_is); (case c => k_is); (case k => k_is))
    (case D_tpart => refine' FR.dm_mk ?a ?i ?l ?c ?k; (case a => k_is); (case i => k_is); (case l => k_is); (case c => k_is); (case k => k_is))
    (case D_tparts => refine' FR.dm_mk ?a ?i ?l ?c ?k; (case a => k_is); (case i => k_is); (case l => k_is); (case c => k_is); (case k => k_is))
    (case D_tlevel => refine' FR.dm_mk ?a ?i ?l ?c ?k; (case a => k_is); (case i => k_is); (case l => k_is); (case c => k_is); (case k => k_is))
    (case D_rise => refine' FR.dm_mk ?a ?i ?l ?c ?k; (case a => k_is); (case i => k_is); (case l => k_is); (case c => k_is); (case k => k_is))
    (case D_winit => refine' FR.dm_mk ?a ?i ?l ?c ?k; (case a => k_is); (case i => k_is); (case l => k_is); (case c => k_is); (case k => k_is))
    (case D_reach => refine' FR.dm_mk ?a ?i ?l ?c ?k; (case a => k_is); (case i => k_is); (case l => k_is); (case c => k_is); (case k => k_is))
    (case D_nodes => refine' FR.dm_mk ?a ?i ?l ?c ?k; (case a => k_is); (case i => k_is); (case l => k_is); (case c => k_is); (case k => k_is))
    (case D_ways => refine' FR.dm_mk ?a ?i ?l ?c ?k; (case a => k_is); (case i => k_is); (case l => k_is); (case c => k_is); (case k => k_is))
    (case pg_Chart => k_is)
    (case hd_Chart => k_is)
    (case po_Chart => k_is)
    (case sa_Chart => k_is)
    (case mk_Chart => k_is)
    (case kc_Chart => k_is)
    (case n_Chart_rules => k_is)
    (case n_Chart_heights => k_is)
    (case n_Chart_level => k_is)
    (case n_Chart_queue => k_is)
    (case n_Chart_higher => k_is)
    (case n_Chart_ends => k_is)
    (case n_Chart_behind => k_is)
    (case pg_Wood => k_is)
    (case hd_Wood => k_is)
    (case po_Wood => k_is)
    (case sa_Wood => k_is)
    (case mk_Wood => k_is)
    (case kc_Wood => k_is)
    (case n_Wood_rules => k_is)
    (case n_Wood_signs => k_is)
    (case n_Wood_peak => k_is)
    (case n_Wood_paths => k_is)
    (case z_isinstance => k_is)
    (case z_int => k_is)
    (case z_bool => k_is)
    (case z_str => k_is)
    (case z_tuple => k_is)
    (case z_list => k_is)
    (case z_len => k_is)
    (case z_ord => k_is)
    (case z_sum => k_is)
    (case z_enumerate => k_is)
    (case z_range => k_is)
    (case z_reversed => k_is)
    (case m_SIGNS => k_is)
    (case m_RULES => k_is)
    (case m_PARTS => k_is)
    (case aL => k_is)
    (case lL => k_is)
    (case cL => k_is)
    (case kL => k_is)

