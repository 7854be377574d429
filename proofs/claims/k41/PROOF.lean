import PyProof.Rows.All
import Wide.All
import OpenK.AllK
import Wide.FinOn
import HandS.ForMost
import HandS.ForExc
import HandS.Walk
import HandS.Zip
import HandS.Deep
import HandS.TupAny
import HandS.TupMul
import HandS.Wide
import HandS.Conv
import KE.SortData
import KE.DataCmp
import HandS.WideBits
import HandS.Style
import HandS.IsInst
import HandS.SortInts
import KE.OsSortAny
import KE.DataMinMax
import HandS.Iter
import PySem.Challenge.RW_moduliroads_k41_whole_polygons
set_option Elab.async false
set_option linter.all false
set_option maxRecDepth 100000
set_option maxHeartbeats 4000000
namespace Cl
open PySem PySem.Spec PyProof.Rows L2

/-! ## values -/
inductive D where
  | non | bl (b : Bool) | int (i : Int) | str (x : Str)
  | tup (xs : List D) | lst (xs : List D) | ref (n : Nat) | fn (i : Nat)
  deriving Inhabited

mutual
def D.beq : D → D → Bool
  | .non, .non => true
  | .bl a, .bl b => a == b
  | .int a, .int b => a == b
  | .str a, .str b => decide (a = b)
  | .tup a, .tup b => D.beqs a b
  | .lst a, .lst b => D.beqs a b
  | .ref a, .ref b => a == b
  | .fn a, .fn b => a == b
  | _, _ => false
def D.beqs : List D → List D → Bool
  | [], [] => true
  | a :: as, b :: bs => D.beq a b && D.beqs as bs
  | _, _ => false
end
mutual
theorem D.beq_eq : ∀ {a b : D}, D.beq a b = true → a = b
  | .non, b, h => by cases b <;> simp [D.beq] at h <;> rfl
  | .bl a, b, h => by cases b <;> simp [D.beq] at h <;> simp [h]
  | .int a, b, h => by cases b <;> simp [D.beq] at h <;> simp [h]
  | .str a, b, h => by cases b <;> simp [D.beq] at h <;> simp [h]
  | .ref a, b, h => by cases b <;> simp [D.beq] at h <;> simp [h]
  | .fn a, b, h => by cases b <;> simp [D.beq] at h <;> simp [h]
  | .tup a, b, h => by
    cases b <;> simp [D.beq] at h
    rw [D.beqs_eq h]
  | .lst a, b, h => by
    cases b <;> simp [D.beq] at h
    rw [D.beqs_eq h]
theorem D.beqs_eq : ∀ {a b : List D}, D.beqs a b = true → a = b
  | [], b, h => by cases b <;> simp [D.beqs] at h <;> rfl
  | x :: a, b, h => by
    cases b with
    | nil => simp [D.beqs] at h
    | cons y b =>
      simp only [D.beqs, Bool.and_eq_true] at h
      rw [D.beq_eq h.1, D.beqs_eq h.2]
end
mutual
theorem D.beq_refl : ∀ a : D, D.beq a a = true
  | .non => rfl
  | .bl a => by simp [D.beq]
  | .int a => by simp [D.beq]
  | .str a => by simp [D.beq]
  | .ref a => by simp [D.beq]
  | .fn a => by simp [D.beq]
  | .tup a => by rw [D.beq]; exact D.beqs_refl a
  | .lst a => by rw [D.beq]; exact D.beqs_refl a
theorem D.beqs_refl : ∀ a : List D, D.beqs a a = true
  | [] => rfl
  | x :: a => by rw [D.beqs, D.beq_refl x, D.beqs_refl a]; rfl
end
instance : DecidableEq D := fun a b => if h : D.beq a b = true then isTrue (D.beq_eq h) else isFalse fun e => h (e ▸ D.beq_refl a)

/-- no reference from n on -/
def D.low (n : Nat) : D → Bool
  | .ref k => decide (k < n)
  | .tup xs => lows n xs
  | .lst xs => lows n xs
  | _ => true
where lows (n : Nat) : List D → Bool
  | [] => true
  | x :: xs => D.low n x && lows n xs

inductive Cell where
  | lst (xs : List D) | ro (xs : List D) | dK (kvs : List (Key × D)) | dT (kvs : List (List Key × D))
  deriving DecidableEq
abbrev Hc := List Cell
def Cell.low (n : Nat) : Cell → Bool
  | .lst xs => D.low.lows n xs
  | .ro xs => D.low.lows n xs
  | .dK kvs => kvs.all fun kv => kv.2.low n
  | .dT kvs => kvs.all fun kv => kv.2.low n

/-- what stands fixed: the written part, where the defs stand, the module's tuples -/
structure RC where
  K : PySem.W.Frag
  fa : Nat → Addr
  gt : List (Addr × D)

/-- a list, a tuple that stands still: apart from the cells and from what is held back -/
def AtL (R : RC) (ρ φ : List Addr) (H : Hp) (a : Addr) (xs : List V) : Prop := H a = some (.lst xs) ∧ a ∉ ρ ∧ a ∉ φ
def AtT (R : RC) (ρ φ : List Addr) (H : Hp) (a : Addr) (xs : List V) : Prop := H a = some (.tup xs) ∧ a ∉ ρ ∧ a ∉ φ

mutual
def RD (R : RC) (ρ φ : List Addr) (H : Hp) : D → V → Prop
  | .non, v => v = .non
  | .bl b, v => v = .bl b
  | .int i, v => v = .int i
  | .str x, v => v = .str x
  | .tup ds, v => ∃ a vs, v = .ref a ∧ AtT R ρ φ H a vs ∧ RDs R ρ φ H ds vs
  | .lst ds, v => ∃ a vs, v = .ref a ∧ AtL R ρ φ H a vs ∧ RDs R ρ φ H ds vs
  | .ref n, v => ∃ a, ρ[n]? = some a ∧ v = .ref a
  | .fn i, v => v = .ref (R.fa i)
def RDs (R : RC) (ρ φ : List Addr) (H : Hp) : List D → List V → Prop
  | [], vs => vs = []
  | d :: ds, vs => ∃ v vs', vs = v :: vs' ∧ RD R ρ φ H d v ∧ RDs R ρ φ H ds vs'
end

structure Ext (ρ ρ' : List Addr) (H H' : Hp) : Prop where
  pre : ∃ t, ρ' = ρ ++ t
  new : ∀ a ∈ ρ', a ∈ ρ ∨ H a = none
  keep : ∀ a o, H a = some o → a ∉ ρ → H' a = some o
  there : ∀ a o, H a = some o → ∃ o', H' a = some o'
theorem Ext.refl {ρ : List Addr} {H : Hp} : Ext ρ ρ H H := ⟨⟨[], by simp⟩, fun _ h => .inl h, fun _ _ h _ => h, fun _ o h => ⟨o, h⟩⟩
theorem Ext.trans {ρ ρ1 ρ2 : List Addr} {H H1 H2 : Hp} (e : Ext ρ ρ1 H H1) (f : Ext ρ1 ρ2 H1 H2) : Ext ρ ρ2 H H2 := by
  obtain ⟨t, rfl⟩ := e.pre
  obtain ⟨u, rfl⟩ := f.pre
  refine ⟨⟨t ++ u, by simp⟩, fun a ha => ?_, fun a o h n => ?_, fun a o h => by obtain ⟨o1, h1⟩ := e.there a o h; exact f.there a o1 h1⟩
  · rcases f.new a ha with h | h
    · exact e.new a h
    · by_cases hr : a ∈ ρ
      · exact .inl hr
      · refine .inr ?_
        cases q : H a with
        | none => rfl
        | some o => rw [e.keep a o q hr] at h; cases h
  · refine f.keep a o (e.keep a o h n) fun hm => ?_
    rcases e.new a hm with q | q
    · exact n q
    · rw [h] at q; cases q
theorem Ext.get {ρ ρ' : List Addr} {H H' : Hp} (e : Ext ρ ρ' H H') {n : Nat} {a : Addr} (h : ρ[n]? = some a) : ρ'[n]? = some a := by
  obtain ⟨t, rfl⟩ := e.pre
  have hn : n < ρ.length := by
    rcases Nat.lt_or_ge n ρ.length with q | q
    · exact q
    · rw [List.getElem?_eq_none q] at h; cases h
  rw [List.getElem?_append_left hn]; exact h
theorem Rd.some_at {H : Hp} {a : Addr} {u : HO} (r : Rd H a u) : ∃ o, H a = some o := by
  rcases r with r | ⟨o, r⟩
  · exact ⟨_, r⟩
  · exact ⟨_, r⟩
theorem Ext.rd {ρ ρ' : List Addr} {H H' : Hp} (e : Ext ρ ρ' H H') {a : Addr} {u : HO} (r : Rd H a u) (n : a ∉ ρ) : Rd H' a u ∧ a ∉ ρ' := by
  refine ⟨?_, fun hm => ?_⟩
  · rcases r with r | ⟨o, r⟩
    · exact .inl (e.keep a _ r n)
    · exact .inr ⟨o, e.keep a _ r n⟩
  · obtain ⟨o, ho⟩ := Rd.some_at r
    rcases e.new a hm with q | q
    · exact n q
    · rw [ho] at q; cases q
theorem AtL.ext {R : RC} {ρ ρ' φ : List Addr} {H H' : Hp} {a : Addr} {xs : List V} (h : AtL R ρ φ H a xs) (e : Ext ρ ρ' H H') : AtL R ρ' φ H' a xs := by
  obtain ⟨r, n, m⟩ := h
  exact ⟨e.keep a _ r n, (e.rd (.inl r) n).2, m⟩
theorem AtT.ext {R : RC} {ρ ρ' φ : List Addr} {H H' : Hp} {a : Addr} {xs : List V} (h : AtT R ρ φ H a xs) (e : Ext ρ ρ' H H') : AtT R ρ' φ H' a xs := by
  obtain ⟨r, n, m⟩ := h
  exact ⟨e.keep a _ r n, (e.rd (.inl r) n).2, m⟩
theorem AtL.sq {R : RC} {ρ φ : List Addr} {H : Hp} {a : Addr} {xs : List V} (h : AtL R ρ φ H a xs) : SqL R.K H a xs := SqL.of h.1
theorem AtT.sq {R : RC} {ρ φ : List Addr} {H : Hp} {a : Addr} {xs : List V} (h : AtT R ρ φ H a xs) : SqT R.K H a xs := SqT.of h.1
mutual
theorem RD.ext {R : RC} {ρ ρ' φ : List Addr} {H H' : Hp} (e : Ext ρ ρ' H H') : ∀ {d : D} {v : V}, RD R ρ φ H d v → RD R ρ' φ H' d v
  | .non, _, h => h
  | .bl _, _, h => h
  | .int _, _, h => h
  | .str _, _, h => h
  | .fn _, _, h => h
  | .ref n, v, h => by
    obtain ⟨a, h1, h2⟩ := (by simpa only [RD] using h : ∃ a, ρ[n]? = some a ∧ v = .ref a)
    simp only [RD]
    exact ⟨a, e.get h1, h2⟩
  | .tup ds, v, h => by
    simp only [RD] at h ⊢
    obtain ⟨a, vs, h1, h2, h3⟩ := h
    exact ⟨a, vs, h1, h2.ext e, RDs.ext e h3⟩
  | .lst ds, v, h => by
    simp only [RD] at h ⊢
    obtain ⟨a, vs, h1, h2, h3⟩ := h
    exact ⟨a, vs, h1, h2.ext e, RDs.ext e h3⟩
theorem RDs.ext {R : RC} {ρ ρ' φ : List Addr} {H H' : Hp} (e : Ext ρ ρ' H H') : ∀ {ds : List D} {vs : List V}, RDs R ρ φ H ds vs → RDs R ρ' φ H' ds vs
  | [], _, h => h
  | d :: ds, vs, h => by
    simp only [RDs] at h ⊢
    obtain ⟨v, vs', h1, h2, h3⟩ := h
    exact ⟨v, vs', h1, RD.ext e h2, RDs.ext e h3⟩
end
end Cl

namespace Cl
open PySem PySem.Spec PyProof.Rows L2

section
variable {R : RC} {ρ φ : List Addr} {H : Hp}
theorem AtL.weak {φ' : List Addr} (w : ∀ a ∈ φ', a ∈ φ) {a : Addr} {xs : List V} (h : AtL R ρ φ H a xs) : AtL R ρ φ' H a xs := by
  obtain ⟨r, n, m⟩ := h
  exact ⟨r, n, fun q => m (w a q)⟩
theorem AtT.weak {φ' : List Addr} (w : ∀ a ∈ φ', a ∈ φ) {a : Addr} {xs : List V} (h : AtT R ρ φ H a xs) : AtT R ρ φ' H a xs := by
  obtain ⟨r, n, m⟩ := h
  exact ⟨r, n, fun q => m (w a q)⟩
/-- a change of the places where RD looks that keeps lists, tuples, references -/
structure Mv (R : RC) (ρ φ : List Addr) (H : Hp) (ρ' φ' : List Addr) (H' : Hp) (ok : D → Bool) : Prop where
  l : ∀ a xs, AtL R ρ φ H a xs → AtL R ρ' φ' H' a xs
  t : ∀ a xs, AtT R ρ φ H a xs → AtT R ρ' φ' H' a xs
  r : ∀ n a, ok (.ref n) = true → ρ[n]? = some a → ρ'[n]? = some a
mutual
theorem RD.mv {ρ' φ' : List Addr} {H' : Hp} {k : Nat} (m : Mv R ρ φ H ρ' φ' H' (D.low k)) : ∀ {d : D} {v : V}, d.low k = true → RD R ρ φ H d v → RD R ρ' φ' H' d v
  | .non, _, _, h => h
  | .bl _, _, _, h => h
  | .int _, _, _, h => h
  | .str _, _, _, h => h
  | .fn _, _, _, h => h
  | .ref n, v, hl, h => by
    simp only [RD] at h ⊢
    obtain ⟨a, h1, h2⟩ := h
    exact ⟨a, m.r n a hl h1, h2⟩
  | .tup ds, v, hl, h => by
    simp only [RD] at h ⊢
    simp only [D.low] at hl
    obtain ⟨a, vs, h1, h2, h3⟩ := h
    exact ⟨a, vs, h1, m.t a vs h2, RDs.mv m hl h3⟩
  | .lst ds, v, hl, h => by
    simp only [RD] at h ⊢
    simp only [D.low] at hl
    obtain ⟨a, vs, h1, h2, h3⟩ := h
    exact ⟨a, vs, h1, m.l a vs h2, RDs.mv m hl h3⟩
theorem RDs.mv {ρ' φ' : List Addr} {H' : Hp} {k : Nat} (m : Mv R ρ φ H ρ' φ' H' (D.low k)) : ∀ {ds : List D} {vs : List V}, D.low.lows k ds = true → RDs R ρ φ H ds vs → RDs R ρ' φ' H' ds vs
  | [], _, _, h => h
  | d :: ds, vs, hl, h => by
    simp only [RDs] at h ⊢
    simp only [D.low.lows, Bool.and_eq_true] at hl
    obtain ⟨v, vs', h1, h2, h3⟩ := h
    exact ⟨v, vs', h1, RD.mv m hl.1 h2, RDs.mv m hl.2 h3⟩
end
mutual
theorem RD.low : ∀ {d : D} {v : V}, RD R ρ φ H d v → d.low ρ.length = true
  | .non, _, _ => rfl
  | .bl _, _, _ => rfl
  | .int _, _, _ => rfl
  | .str _, _, _ => rfl
  | .fn _, _, _ => rfl
  | .ref n, v, h => by
    simp only [RD] at h
    obtain ⟨a, h1, h2⟩ := h
    simp only [D.low, decide_eq_true_eq]
    rcases Nat.lt_or_ge n ρ.length with q | q
    · exact q
    · rw [List.getElem?_eq_none q] at h1; cases h1
  | .tup ds, v, h => by
    simp only [RD] at h
    obtain ⟨a, vs, h1, h2, h3⟩ := h
    simp only [D.low]
    exact RDs.low h3
  | .lst ds, v, h => by
    simp only [RD] at h
    obtain ⟨a, vs, h1, h2, h3⟩ := h
    simp only [D.low]
    exact RDs.low h3
theorem RDs.low : ∀ {ds : List D} {vs : List V}, RDs R ρ φ H ds vs → D.low.lows ρ.length ds = true
  | [], _, _ => rfl
  | d :: ds, vs, h => by
    simp only [RDs] at h
    obtain ⟨v, vs', h1, h2, h3⟩ := h
    simp only [D.low.lows, Bool.and_eq_true]
    exact ⟨RD.low h2, RDs.low h3⟩
end
mutual
theorem D.low_mono {n m : Nat} (hnm : n ≤ m) : ∀ {d : D}, d.low n = true → d.low m = true
  | .non, _ => rfl
  | .bl _, _ => rfl
  | .int _, _ => rfl
  | .str _, _ => rfl
  | .fn _, _ => rfl
  | .ref k, h => by simp only [D.low, decide_eq_true_eq] at h ⊢; omega
  | .tup ds, h => by simp only [D.low] at h ⊢; exact D.lows_mono hnm h
  | .lst ds, h => by simp only [D.low] at h ⊢; exact D.lows_mono hnm h
theorem D.lows_mono {n m : Nat} (hnm : n ≤ m) : ∀ {ds : List D}, D.low.lows n ds = true → D.low.lows m ds = true
  | [], _ => rfl
  | d :: ds, h => by
    simp only [D.low.lows, Bool.and_eq_true] at h ⊢
    exact ⟨D.low_mono hnm h.1, D.lows_mono hnm h.2⟩
end
theorem Mv.weak {φ' : List Addr} (w : ∀ a ∈ φ', a ∈ φ) (ok : D → Bool) : Mv R ρ φ H ρ φ' H ok := ⟨fun _ _ h => h.weak w, fun _ _ h => h.weak w, fun _ _ _ h => h⟩
theorem RD.weak {φ' : List Addr} (w : ∀ a ∈ φ', a ∈ φ) {d : D} {v : V} (h : RD R ρ φ H d v) : RD R ρ φ' H d v := RD.mv (Mv.weak w _) h.low h
theorem RDs.weak {φ' : List Addr} (w : ∀ a ∈ φ', a ∈ φ) {ds : List D} {vs : List V} (h : RDs R ρ φ H ds vs) : RDs R ρ φ' H ds vs := RDs.mv (Mv.weak w _) h.low h
theorem Rd.upd {p : Addr} {o : HO} (hp : H p = none) {a : Addr} {u : HO} (h : Rd H a u) : a ≠ p ∧ Rd (upd H p o) a u := by
  have ne : a ≠ p := by
    obtain ⟨q, hq⟩ := Rd.some_at h
    rintro rfl
    rw [hp] at hq; cases hq
  exact ⟨ne, h.imp (fun q => by rw [upd_ne ne]; exact q) fun ⟨o, q⟩ => ⟨o, by rw [upd_ne ne]; exact q⟩⟩
theorem Mv.fresh {p : Addr} {o : HO} (hp : H p = none) (ok : D → Bool) : Mv R ρ φ H ρ (p :: φ) (upd H p o) ok := by
  refine ⟨fun a xs h => ?_, fun a xs h => ?_, fun _ _ _ h => h⟩
  · obtain ⟨r, n, m⟩ := h
    have ne : a ≠ p := ne_of_none r hp
    exact ⟨by rw [upd_ne ne]; exact r, n, by simp [ne, m]⟩
  · obtain ⟨r, n, m⟩ := h
    have ne : a ≠ p := ne_of_none r hp
    exact ⟨by rw [upd_ne ne]; exact r, n, by simp [ne, m]⟩
theorem RD.fresh {p : Addr} {o : HO} (hp : H p = none) {d : D} {v : V} (h : RD R ρ φ H d v) : RD R ρ (p :: φ) (upd H p o) d v := RD.mv (Mv.fresh hp _) h.low h
theorem RDs.fresh {p : Addr} {o : HO} (hp : H p = none) {ds : List D} {vs : List V} (h : RDs R ρ φ H ds vs) : RDs R ρ (p :: φ) (upd H p o) ds vs := RDs.mv (Mv.fresh hp _) h.low h
/-- p leaves the held back ones and becomes a cell -/
theorem Mv.cell {p : Addr} (ok : D → Bool) : Mv R ρ (p :: φ) H (ρ ++ [p]) φ H ok := by
  refine ⟨fun a xs h => ?_, fun a xs h => ?_, fun n a _ h => ?_⟩
  · obtain ⟨r, n, m⟩ := h
    simp only [List.mem_cons, not_or] at m
    exact ⟨r, by simp [n, m.1], m.2⟩
  · obtain ⟨r, n, m⟩ := h
    simp only [List.mem_cons, not_or] at m
    exact ⟨r, by simp [n, m.1], m.2⟩
  · have hn : n < ρ.length := by
      rcases Nat.lt_or_ge n ρ.length with q | q
      · exact q
      · rw [List.getElem?_eq_none q] at h; cases h
    rw [List.getElem?_append_left hn]; exact h
theorem RDs.len : ∀ {ds : List D} {vs : List V}, RDs R ρ φ H ds vs → ds.length = vs.length
  | [], _, h => by simp only [RDs] at h; subst h; rfl
  | d :: ds, vs, h => by
    simp only [RDs] at h
    obtain ⟨v, vs', rfl, h2, h3⟩ := h
    simp [RDs.len h3]
theorem RDs.get : ∀ {ds : List D} {vs : List V} {i : Nat} {d : D}, RDs R ρ φ H ds vs → ds[i]? = some d → ∃ v, vs[i]? = some v ∧ RD R ρ φ H d v
  | [], _, _, _, _, e => by simp at e
  | x :: ds, vs, 0, d, h, e => by
    simp only [RDs] at h
    obtain ⟨v, vs', rfl, h2, h3⟩ := h
    simp at e; subst e
    exact ⟨v, rfl, h2⟩
  | x :: ds, vs, i + 1, d, h, e => by
    simp only [RDs] at h
    obtain ⟨v, vs', rfl, h2, h3⟩ := h
    obtain ⟨w, h1, h4⟩ := RDs.get (i := i) (d := d) h3 (by simpa using e)
    exact ⟨w, by simpa using h1, h4⟩
theorem RDs.get' : ∀ {ds : List D} {vs : List V} {i : Nat} {v : V}, RDs R ρ φ H ds vs → vs[i]? = some v → ∃ d, ds[i]? = some d ∧ RD R ρ φ H d v := fun {ds vs i v} h e => by
  have hl := h.len
  cases q : ds[i]? with
  | none =>
    have := List.getElem?_eq_none_iff.mp q
    rw [List.getElem?_eq_none (by omega)] at e; cases e
  | some d =>
    obtain ⟨w, h1, h2⟩ := h.get q
    rw [e] at h1; cases h1
    exact ⟨d, rfl, h2⟩
theorem RDs.append : ∀ {ds es : List D} {vs ws : List V}, RDs R ρ φ H ds vs → RDs R ρ φ H es ws → RDs R ρ φ H (ds ++ es) (vs ++ ws)
  | [], _, _, _, h, g => by simp only [RDs] at h; subst h; exact g
  | d :: ds, es, vs, ws, h, g => by
    simp only [RDs] at h
    obtain ⟨v, vs', rfl, h2, h3⟩ := h
    simp only [List.cons_append, RDs]
    exact ⟨v, vs' ++ ws, rfl, h2, h3.append g⟩
theorem RDs.one {d : D} {v : V} (h : RD R ρ φ H d v) : RDs R ρ φ H [d] [v] := by simp only [RDs]; exact ⟨v, [], rfl, h, rfl⟩
theorem RDs.cons {d : D} {v : V} {ds : List D} {vs : List V} (h : RD R ρ φ H d v) (g : RDs R ρ φ H ds vs) : RDs R ρ φ H (d :: ds) (v :: vs) := by simp only [RDs]; exact ⟨v, vs, rfl, h, g⟩
theorem RDs.take : ∀ {ds : List D} {vs : List V} (n : Nat), RDs R ρ φ H ds vs → RDs R ρ φ H (ds.take n) (vs.take n)
  | _, _, 0, _ => by simp [RDs]
  | [], _, n + 1, h => by simp only [RDs] at h; subst h; simp [RDs]
  | d :: ds, vs, n + 1, h => by
    simp only [RDs] at h
    obtain ⟨v, vs', rfl, h2, h3⟩ := h
    simp only [List.take_succ_cons]
    exact RDs.cons h2 (RDs.take n h3)
theorem RDs.drop : ∀ {ds : List D} {vs : List V} (n : Nat), RDs R ρ φ H ds vs → RDs R ρ φ H (ds.drop n) (vs.drop n)
  | _, _, 0, h => h
  | [], _, n + 1, h => by simp only [RDs] at h; subst h; simp [RDs]
  | d :: ds, vs, n + 1, h => by
    simp only [RDs] at h
    obtain ⟨v, vs', rfl, h2, h3⟩ := h
    simp only [List.drop_succ_cons]
    exact RDs.drop n h3
theorem RDs.set {x : D} {u : V} (r : RD R ρ φ H x u) : ∀ {ds : List D} {vs : List V} (i : Nat), RDs R ρ φ H ds vs → RDs R ρ φ H (ds.set i x) (vs.set i u)
  | [], _, _, h => by simp only [RDs] at h; subst h; simp [RDs]
  | d :: ds, vs, 0, h => by
    simp only [RDs] at h
    obtain ⟨v, vs', rfl, h2, h3⟩ := h
    exact RDs.cons r h3
  | d :: ds, vs, i + 1, h => by
    simp only [RDs] at h
    obtain ⟨v, vs', rfl, h2, h3⟩ := h
    exact RDs.cons h2 (RDs.set r i h3)
theorem RDs.eraseIdx : ∀ {ds : List D} {vs : List V} (i : Nat), RDs R ρ φ H ds vs → RDs R ρ φ H (ds.eraseIdx i) (vs.eraseIdx i)
  | [], _, _, h => by simp only [RDs] at h; subst h; simp [RDs]
  | d :: ds, vs, 0, h => by
    simp only [RDs] at h
    obtain ⟨v, vs', rfl, h2, h3⟩ := h
    exact h3
  | d :: ds, vs, i + 1, h => by
    simp only [RDs] at h
    obtain ⟨v, vs', rfl, h2, h3⟩ := h
    exact RDs.cons h2 (RDs.eraseIdx i h3)
theorem RDs.reverse : ∀ {ds : List D} {vs : List V}, RDs R ρ φ H ds vs → RDs R ρ φ H ds.reverse vs.reverse
  | [], _, h => by simp only [RDs] at h; subst h; simp [RDs]
  | d :: ds, vs, h => by
    simp only [RDs] at h
    obtain ⟨v, vs', rfl, h2, h3⟩ := h
    simp only [List.reverse_cons]
    exact (RDs.reverse h3).append (RDs.one h2)
theorem RDs.rep {ds : List D} {vs : List V} (h : RDs R ρ φ H ds vs) : ∀ n : Nat, RDs R ρ φ H (List.replicate n ds).flatten (List.replicate n vs).flatten
  | 0 => by simp [RDs]
  | n + 1 => by
    simp only [List.replicate_succ, List.flatten_cons]
    exact h.append (RDs.rep h n)
theorem RDs.all : ∀ {ds : List D} {vs : List V}, RDs R ρ φ H ds vs → ∀ v ∈ vs, ∃ d ∈ ds, RD R ρ φ H d v
  | [], _, h, v, hv => by simp only [RDs] at h; subst h; simp at hv
  | d :: ds, vs, h, v, hv => by
    simp only [RDs] at h
    obtain ⟨w, vs', rfl, h2, h3⟩ := h
    rcases List.mem_cons.mp hv with rfl | hv
    · exact ⟨d, by simp, h2⟩
    · obtain ⟨d', h4, h5⟩ := RDs.all h3 v hv
      exact ⟨d', by simp [h4], h5⟩
end

/-! ## the clean heap -/
def KRD (R : RC) (ρ φ : List Addr) (H : Hp) {κ : Type} (kvs : List (κ × D)) (kws : List (κ × V)) : Prop := kvs.map (·.1) = kws.map (·.1) ∧ RDs R ρ φ H (kvs.map (·.2)) (kws.map (·.2))
def RCell (R : RC) (ρ φ : List Addr) (H : Hp) (a : Addr) : Cell → Prop
  | .lst xs => ∃ vs, H a = some (.lst vs) ∧ RDs R ρ φ H xs vs
  | .ro xs => ∃ o vs, H a = some (.frz o (.lst vs)) ∧ RDs R ρ φ H xs vs
  | .dK kvs => ∃ kws, H a = some (.dK kws) ∧ KRD R ρ φ H kvs kws
  | .dT kvs => ∃ kws, H a = some (.dT kws) ∧ KRD R ρ φ H kvs kws
structure RelH (R : RC) (ρ φ : List Addr) (H : Hp) (h : Hc) : Prop where
  len : ρ.length = h.length
  nd : ρ.Nodup
  cells : ∀ (n : Nat) (a : Addr) (c : Cell), ρ[n]? = some a → h[n]? = some c → RCell R ρ φ H a c
  phi : ∀ a ∈ φ, (∃ o, H a = some o) ∧ a ∉ ρ
  gt : ∀ p ∈ R.gt, p.2.low 0 = true ∧ RD R ρ φ H p.2 (.ref p.1)
section
variable {R : RC} {ρ φ : List Addr} {H : Hp} {h : Hc}
theorem get_lt {α : Type} {l : List α} {n : Nat} {a : α} (e : l[n]? = some a) : n < l.length := by
  rcases Nat.lt_or_ge n l.length with q | q
  · exact q
  · rw [List.getElem?_eq_none q] at e; cases e
theorem nd_ix {α : Type} : ∀ {l : List α}, l.Nodup → ∀ {i j : Nat} {a : α}, l[i]? = some a → l[j]? = some a → i = j
  | [], _, _, _, _, e, _ => by simp at e
  | x :: l, hn, 0, 0, a, e, f => rfl
  | x :: l, hn, 0, j + 1, a, e, f => by
    simp at e f; subst e
    exact absurd (List.mem_of_getElem? f) (List.nodup_cons.mp hn).1
  | x :: l, hn, i + 1, 0, a, e, f => by
    simp at e f; subst f
    exact absurd (List.mem_of_getElem? e) (List.nodup_cons.mp hn).1
  | x :: l, hn, i + 1, j + 1, a, e, f => by
    simp at e f
    rw [nd_ix (List.nodup_cons.mp hn).2 e f]
theorem RelH.at (r : RelH R ρ φ H h) {n : Nat} {c : Cell} (e : h[n]? = some c) : ∃ a, ρ[n]? = some a ∧ RCell R ρ φ H a c := by
  have := get_lt e
  have hl := r.len
  obtain ⟨a, ha⟩ : ∃ a, ρ[n]? = some a := ⟨_, List.getElem?_eq_getElem (by omega)⟩
  exact ⟨a, ha, r.cells n a c ha e⟩
theorem RCell.some_at {a : Addr} {c : Cell} (r : RCell R ρ φ H a c) : ∃ o, H a = some o := by
  cases c with
  | lst xs => obtain ⟨vs, e, _⟩ := r; exact ⟨_, e⟩
  | ro xs => obtain ⟨o, vs, e, _⟩ := r; exact ⟨_, e⟩
  | dK kvs => obtain ⟨vs, e, _⟩ := r; exact ⟨_, e⟩
  | dT kvs => obtain ⟨vs, e, _⟩ := r; exact ⟨_, e⟩
theorem RelH.some_at (r : RelH R ρ φ H h) {a : Addr} (ha : a ∈ ρ) : ∃ o, H a = some o := by
  obtain ⟨n, hn, e⟩ := List.getElem_of_mem ha
  have hl := r.len
  have := r.cells n a (h[n]'(by omega)) (by rw [List.getElem?_eq_getElem hn, e]) (List.getElem?_eq_getElem (by omega))
  exact this.some_at
/-- a cell seen from other places, its own object as it was -/
theorem RCell.mv {ρ' φ' : List Addr} {H' : Hp} {k : Nat} (m : Mv R ρ φ H ρ' φ' H' (D.low k)) {a : Addr} {c : Cell} (hc : c.low k = true) (ha : H' a = H a) (r : RCell R ρ φ H a c) : RCell R ρ' φ' H' a c := by
  have kv : ∀ {κ : Type} (kvs : List (κ × D)), (kvs.all fun kv => kv.2.low k) = true → D.low.lows k (kvs.map (·.2)) = true := fun kvs => by
    induction kvs with
    | nil => intro _; rfl
    | cons x xs ih =>
      intro q
      rw [List.all_cons, Bool.and_eq_true] at q
      rw [List.map_cons, D.low.lows, Bool.and_eq_true]
      exact ⟨q.1, ih q.2⟩
  cases c with
  | lst xs => obtain ⟨vs, e, d⟩ := r; exact ⟨vs, by rw [ha]; exact e, d.mv m hc⟩
  | ro xs => obtain ⟨o, vs, e, d⟩ := r; exact ⟨o, vs, by rw [ha]; exact e, d.mv m hc⟩
  | dK kvs => obtain ⟨vs, e, d1, d2⟩ := r; exact ⟨vs, by rw [ha]; exact e, d1, d2.mv m (kv kvs hc)⟩
  | dT kvs => obtain ⟨vs, e, d1, d2⟩ := r; exact ⟨vs, by rw [ha]; exact e, d1, d2.mv m (kv kvs hc)⟩
theorem RCell.low {a : Addr} {c : Cell} (r : RCell R ρ φ H a c) : c.low ρ.length = true := by
  have kv : ∀ {κ : Type} (kvs : List (κ × D)), D.low.lows ρ.length (kvs.map (·.2)) = true → (kvs.all fun kv => kv.2.low ρ.length) = true := fun kvs => by
    induction kvs with
    | nil => intro _; rfl
    | cons x xs ih =>
      intro q
      rw [List.map_cons, D.low.lows, Bool.and_eq_true] at q
      rw [List.all_cons, Bool.and_eq_true]
      exact ⟨q.1, ih q.2⟩
  cases c with
  | lst xs => obtain ⟨vs, e, d⟩ := r; exact d.low
  | ro xs => obtain ⟨o, vs, e, d⟩ := r; exact d.low
  | dK kvs => obtain ⟨vs, e, d1, d2⟩ := r; exact kv kvs d2.low
  | dT kvs => obtain ⟨vs, e, d1, d2⟩ := r; exact kv kvs d2.low
/-- a new object, held back -/
theorem RelH.fresh (r : RelH R ρ φ H h) {p : Addr} {o : HO} (hp : H p = none) : RelH R ρ (p :: φ) (upd H p o) h := by
  have pn : p ∉ ρ := fun q => by obtain ⟨u, e⟩ := r.some_at q; rw [hp] at e; cases e
  refine ⟨r.len, r.nd, fun n a c ea ec => ?_, fun a ha => ?_, fun q hq => ⟨(r.gt q hq).1, (r.gt q hq).2.fresh hp⟩⟩
  · have ne : a ≠ p := fun z => pn (z ▸ List.mem_of_getElem? ea)
    have rc := r.cells n a c ea ec
    exact rc.mv (Mv.fresh hp _) rc.low (upd_ne ne)
  · rcases List.mem_cons.mp ha with rfl | ha
    · exact ⟨⟨o, upd_same⟩, pn⟩
    · obtain ⟨⟨u, e⟩, n⟩ := r.phi a ha
      refine ⟨⟨u, ?_⟩, n⟩
      rw [upd_ne (ne_of_none e hp)]; exact e
theorem RelH.weak (r : RelH R ρ φ H h) {φ' : List Addr} (w : ∀ a ∈ φ', a ∈ φ) : RelH R ρ φ' H h :=
  ⟨r.len, r.nd, fun n a c ea ec => (r.cells n a c ea ec).mv (Mv.weak w _) (r.cells n a c ea ec).low rfl, fun a ha => r.phi a (w a ha), fun p hp => ⟨(r.gt p hp).1, (r.gt p hp).2.weak w⟩⟩
theorem Ext.fresh {p : Addr} {o : HO} (hp : H p = none) : Ext ρ ρ H (upd H p o) :=
  ⟨⟨[], by simp⟩, fun _ q => .inl q, fun a u e _ => by rw [upd_ne (ne_of_none e hp)]; exact e, fun a u e => ⟨u, by rw [upd_ne (ne_of_none e hp)]; exact e⟩⟩
/-- a held back list becomes a cell -/
theorem RelH.cell {p : Addr} {c : Cell} (r : RelH R ρ (p :: φ) H h) (np : p ∉ φ) (hc : RCell R ρ (p :: φ) H p c) : RelH R (ρ ++ [p]) φ H (h ++ [c]) := by
  have hl := r.len
  have pn : p ∉ ρ := (r.phi p (by simp)).2
  refine ⟨by simp [hl], ?_, fun n a c' ea ec => ?_, fun a ha => ?_, fun q hq => ⟨(r.gt q hq).1, RD.mv (Mv.cell _) (r.gt q hq).2.low (r.gt q hq).2⟩⟩
  · rw [List.nodup_append]
    refine ⟨r.nd, by simp, fun x hx y hy => ?_⟩
    rcases List.mem_singleton.mp hy with rfl
    exact fun z => pn (z ▸ hx)
  · rcases Nat.lt_or_ge n ρ.length with q | q
    · rw [List.getElem?_append_left q] at ea
      rw [List.getElem?_append_left (by omega)] at ec
      have rc := r.cells n a c' ea ec
      exact rc.mv (Mv.cell _) rc.low rfl
    · have hn : n = ρ.length := by
        have := get_lt ea
        simp at this; omega
      subst hn
      rw [List.getElem?_append_right (by omega)] at ea
      rw [List.getElem?_append_right (by omega)] at ec
      simp [hl] at ea ec
      subst ea ec
      exact hc.mv (Mv.cell _) hc.low rfl
  · obtain ⟨x, n⟩ := r.phi a (by simp [ha])
    refine ⟨x, ?_⟩
    have : a ≠ p := fun z => np (z ▸ ha)
    simp [n, this]
theorem RelH.free (r : RelH R ρ φ H h) {p : Addr} (hp : H p = none) : p ∉ φ := fun q => by
  obtain ⟨⟨u, e⟩, _⟩ := r.phi p q
  rw [hp] at e; cases e
theorem Ext.cell {p : Addr} {H0 : Hp} {ρ0 : List Addr} (e : Ext ρ0 ρ H0 H) (hp : H0 p = none) : Ext ρ0 (ρ ++ [p]) H0 H := by
  obtain ⟨t, rfl⟩ := e.pre
  refine ⟨⟨t ++ [p], by simp⟩, fun a ha => ?_, e.keep, e.there⟩
  rcases List.mem_append.mp ha with q | q
  · exact e.new a q
  · rcases List.mem_singleton.mp q with rfl
    exact .inr hp
/-- a cell is written -/
theorem Ext.write {a : Addr} {o : HO} (ha : a ∈ ρ) : Ext ρ ρ H (upd H a o) :=
  ⟨⟨[], by simp⟩, fun _ q => .inl q, fun b u e n => by
    have ne : b ≠ a := fun z => n (z ▸ ha)
    rw [upd_ne ne]; exact e, fun b u e => by
    by_cases hb : b = a
    · subst hb; exact ⟨o, upd_same⟩
    · exact ⟨u, by rw [upd_ne hb]; exact e⟩⟩
theorem Mv.write {a : Addr} {o : HO} (ha : a ∈ ρ) (ok : D → Bool) : Mv R ρ φ H ρ φ (upd H a o) ok :=
  ⟨fun _ _ q => q.ext (Ext.write ha), fun _ _ q => q.ext (Ext.write ha), fun _ _ _ q => q⟩
theorem RelH.write (r : RelH R ρ φ H h) {n : Nat} {a : Addr} {o : HO} {c : Cell} (hn : ρ[n]? = some a) (hc : RCell R ρ φ (upd H a o) a c) : RelH R ρ φ (upd H a o) (h.set n c) := by
  have hm : a ∈ ρ := List.mem_of_getElem? hn
  refine ⟨by simp [r.len], r.nd, fun m b d eb ed => ?_, fun b hb => ?_, fun q hq => ⟨(r.gt q hq).1, (r.gt q hq).2.ext (Ext.write hm)⟩⟩
  · by_cases hmn : m = n
    · subst hmn
      rw [hn] at eb; cases eb
      rw [List.getElem?_set_self (by have := get_lt hn; have := r.len; omega)] at ed
      cases ed
      exact hc
    · rw [List.getElem?_set_ne (Ne.symm hmn)] at ed
      have ne : b ≠ a := fun z => by
        subst z
        exact hmn (nd_ix r.nd eb hn)
      have rc := r.cells m b d eb ed
      exact rc.mv (Mv.write hm _) rc.low (upd_ne ne)
  · obtain ⟨⟨u, e⟩, n'⟩ := r.phi b hb
    have ne : b ≠ a := fun z => n' (z ▸ hm)
    exact ⟨⟨u, by rw [upd_ne ne]; exact e⟩, n'⟩
/-- the cells from k on are forgotten -/
theorem Mv.cut {t : List Addr} : Mv R (ρ ++ t) φ H ρ φ H (D.low ρ.length) := by
  refine ⟨fun a xs q => ?_, fun a xs q => ?_, fun n a ok q => ?_⟩
  · obtain ⟨r, n, m⟩ := q
    exact ⟨r, fun z => n (by simp [z]), m⟩
  · obtain ⟨r, n, m⟩ := q
    exact ⟨r, fun z => n (by simp [z]), m⟩
  · simp only [D.low, decide_eq_true_eq] at ok
    rw [List.getElem?_append_left ok] at q; exact q
theorem RelH.cut {t : List Addr} (r : RelH R (ρ ++ t) φ H h) (ok : ∀ c ∈ h.take ρ.length, c.low ρ.length = true) : RelH R ρ φ H (h.take ρ.length) := by
  have hl := r.len
  simp at hl
  refine ⟨by simp; omega, (List.nodup_append.mp r.nd).1, fun n a c ea ec => ?_, fun a ha => ?_, fun q hq => ⟨(r.gt q hq).1, RD.mv Mv.cut (D.low_mono (Nat.zero_le _) (r.gt q hq).1) (r.gt q hq).2⟩⟩
  · have hn := get_lt ea
    rw [List.getElem?_take] at ec
    rw [if_pos hn] at ec
    have rc := r.cells n a c (by rw [List.getElem?_append_left hn]; exact ea) ec
    refine rc.mv Mv.cut (ok c ?_) rfl
    rw [List.mem_iff_getElem?]
    exact ⟨n, by rw [List.getElem?_take, if_pos hn]; exact ec⟩
  · obtain ⟨x, n⟩ := r.phi a ha
    exact ⟨x, fun z => n (by simp [z])⟩
theorem Ext.cut {ρ' : List Addr} {H' : Hp} (e : Ext ρ ρ' H H') : Ext ρ ρ H H' := ⟨⟨[], by simp⟩, fun _ q => .inl q, e.keep, e.there⟩
end

theorem Ext.none {ρ ρ' : List Addr} {H H' : Hp} (e : Ext ρ ρ' H H') {p : Addr} (h : H' p = none) : H p = none := by
  cases q : H p with
  | none => rfl
  | some o =>
    obtain ⟨o', h'⟩ := e.there p o q
    rw [h] at h'; cases h'
/-- the states that come after one -/
structure Later (ρ φ : List Addr) (H : Hp) (ρ' φ' : List Addr) (H' : Hp) : Prop where
  ext : Ext ρ ρ' H H'
  phi : ∀ a ∈ φ', a ∈ φ ∨ H a = none
theorem Later.of {ρ φ ρ' : List Addr} {H H' : Hp} (e : Ext ρ ρ' H H') : Later ρ φ H ρ' φ H' := ⟨e, fun _ h => .inl h⟩
theorem Later.trans {ρ φ ρ1 φ1 ρ2 φ2 : List Addr} {H H1 H2 : Hp} (a : Later ρ φ H ρ1 φ1 H1) (b : Later ρ1 φ1 H1 ρ2 φ2 H2) : Later ρ φ H ρ2 φ2 H2 :=
  ⟨a.ext.trans b.ext, fun c hc => (b.phi c hc).elim (a.phi c) fun h => .inr (a.ext.none h)⟩
theorem Later.fresh {ρ φ : List Addr} {H : Hp} {p : Addr} {o : HO} (hp : H p = none) : Later ρ φ H ρ (p :: φ) (upd H p o) :=
  ⟨Ext.fresh hp, fun a ha => by rcases List.mem_cons.mp ha with rfl | h; exact .inr hp; exact .inl h⟩
theorem Later.mv {R : RC} {ρ φ ρ' φ' : List Addr} {H H' : Hp} (l : Later ρ φ H ρ' φ' H') (ok : D → Bool) : Mv R ρ φ H ρ' φ' H' ok := by
  have at_ : ∀ a o, H a = some o → a ∉ ρ → a ∉ φ → H' a = some o ∧ a ∉ ρ' ∧ a ∉ φ' := fun a o h n m => by
    refine ⟨l.ext.keep a o h n, fun z => ?_, fun z => ?_⟩
    · rcases l.ext.new a z with q | q
      · exact n q
      · rw [h] at q; cases q
    · rcases l.phi a z with q | q
      · exact m q
      · rw [h] at q; cases q
  exact ⟨fun a xs ⟨h, n, m⟩ => at_ a _ h n m, fun a xs ⟨h, n, m⟩ => at_ a _ h n m, fun n a _ h => l.ext.get h⟩
theorem RD.later {R : RC} {ρ φ ρ' φ' : List Addr} {H H' : Hp} {d : D} {v : V} (h : RD R ρ φ H d v) (l : Later ρ φ H ρ' φ' H') : RD R ρ' φ' H' d v := RD.mv (l.mv _) h.low h
theorem RDs.later {R : RC} {ρ φ ρ' φ' : List Addr} {H H' : Hp} {ds : List D} {vs : List V} (h : RDs R ρ φ H ds vs) (l : Later ρ φ H ρ' φ' H') : RDs R ρ' φ' H' ds vs := RDs.mv (l.mv _) h.low h

/-! ## slots -/
abbrev CSt := List (Option D)
structure RelS (R : RC) (ρ φ : List Addr) (H : Hp) (c : CSt) (σ : L2.St) : Prop where
  len : c.length = σ.length
  at_ : ∀ (i : Nat) (d : D), c[i]? = some (some d) → ∃ v, σ[i]? = some (some v) ∧ RD R ρ φ H d v
section
variable {R : RC} {ρ φ : List Addr} {H : Hp} {c : CSt} {σ : L2.St}
theorem RelS.ext {ρ' : List Addr} {H' : Hp} (r : RelS R ρ φ H c σ) (e : Ext ρ ρ' H H') : RelS R ρ' φ H' c σ :=
  ⟨r.len, fun i d q => by obtain ⟨v, h1, h2⟩ := r.at_ i d q; exact ⟨v, h1, h2.ext e⟩⟩
theorem RelS.set (r : RelS R ρ φ H c σ) {d : D} {v : V} (i : Nat) (h : RD R ρ φ H d v) : RelS R ρ φ H (c.set i (some d)) (σ.set i (some v)) := by
  refine ⟨by simp [r.len], fun j e q => ?_⟩
  by_cases hj : j = i
  · subst hj
    have hlt := get_lt q
    simp at hlt
    rw [List.getElem?_set_self hlt] at q
    cases q
    exact ⟨v, by rw [List.getElem?_set_self (by have := r.len; omega)], h⟩
  · rw [List.getElem?_set_ne (Ne.symm hj)] at q
    rw [List.getElem?_set_ne (Ne.symm hj)]
    exact r.at_ j e q
theorem RelS.unset (r : RelS R ρ φ H c σ) (i : Nat) : RelS R ρ φ H (c.set i none) σ := by
  refine ⟨by simp [r.len], fun j e q => ?_⟩
  by_cases hj : j = i
  · subst hj
    have hlt := get_lt q
    simp at hlt
    rw [List.getElem?_set_self hlt] at q
    cases q
  · rw [List.getElem?_set_ne (Ne.symm hj)] at q
    exact r.at_ j e q
theorem RelS.fresh {p : Addr} {o : HO} (r : RelS R ρ φ H c σ) (hp : H p = none) : RelS R ρ (p :: φ) (upd H p o) c σ :=
  ⟨r.len, fun i d q => by obtain ⟨v, h1, h2⟩ := r.at_ i d q; exact ⟨v, h1, h2.fresh hp⟩⟩
theorem RelS.weak {φ' : List Addr} (w : ∀ a ∈ φ', a ∈ φ) (r : RelS R ρ φ H c σ) : RelS R ρ φ' H c σ :=
  ⟨r.len, fun i d q => by obtain ⟨v, h1, h2⟩ := r.at_ i d q; exact ⟨v, h1, h2.weak w⟩⟩
end
end Cl

namespace Cl
open PySem PySem.Spec PyProof.Rows L2

/-! ## the small language -/
mutual
inductive Tg where
  | v (i : Nat)
  | t (ts : Tgs)
inductive Tgs where
  | nil
  | cons (t : Tg) (ts : Tgs)
end
inductive Ty where
  | int | bool | str | tuple | list | dict
  deriving DecidableEq
inductive Bi where
  | len | abs | int | tuple | list | sorted | sortedR | sum | all | any | max | min | max2 | min2 | str | lenset
  deriving DecidableEq
mutual
inductive CE where
  | var (i : Nat)
  | cst (d : D)
  | glob (x : Str) (d : D)
  | bin (op : Operator) (a b : CE)
  | neg (a : CE)
  | not_ (a : CE)
  | cmp (op : CmpOp) (a b : CE)
  | chain (op op' : CmpOp) (a b c : CE)
  | and_ (a b : CE)
  | or_ (a b : CE)
  | ite (t a b : CE)
  | call (f : Nat) (args : CEs)
  | bi (b : Bi) (args : CEs)
  | isin (a : CE) (ts : List Ty)
  | pop (o : CE)
  | idx (a i : CE)
  | sl (a lo hi : CE)
  | rev (a : CE)
  | absent
  | tup (es : CEs)
  | lst (es : CEs)
  | comp (elt : CE) (t : Tg) (it : CI) (cond : CE) (own : List Nat)
  | lrange (it : CI)
  | cell (e : CE)
  | dict0 (t : Bool)
  | dget (o k d : CE)
  | callv (fe : CE) (fs : List Nat) (args : CEs)
inductive CEs where
  | nil
  | cons (e : CE) (es : CEs)
inductive CI where
  | seq (e : CE)
  | rng1 (a : CE)
  | rng2 (a b : CE)
  | rng3 (a b c : CE)
  | enum (e : CE)
  | zip (a b : CE)
end
mutual
inductive CS where
  | asg (t : Tg) (e : CE)
  | aug (i : Nat) (op : Operator) (e : CE)
  | sput (o i e : CE)
  | saug (o i : CE) (op : Operator) (e : CE)
  | expr (e : CE)
  | app (o e : CE)
  | ifs (t : CE) (a b : CSs)
  | for_ (t : Tg) (it : CI) (body : CSs)
  | whl (t : CE) (body : CSs)
  | ret (e : CE)
  | retN
  | brk
  | pass
  | raise (x : Nat) (e : CE)
  | try_ (body : CSs) (x : Nat) (suite : CSs)
  | kill (is : List Nat)
  | scope (ss : CSs)
inductive CSs where
  | nil
  | cons (s : CS) (ss : CSs)
end
structure Exc where
  cls : Nat
  arg : Option D
inductive ERes (α : Type) where
  | ok (a : α) (h : Hc)
  | exc (x : Exc) (h : Hc)
  | stuck
inductive Fl where
  | nx (σ : CSt) | rt (d : D) | bk (σ : CSt) | ct (σ : CSt)
inductive SRes where
  | ok (f : Fl) (h : Hc)
  | exc (x : Exc) (σ : CSt) (h : Hc)
  | stuck
def ERes.bind {α β : Type} (x : ERes α) (f : α → Hc → ERes β) : ERes β :=
  match x with
  | .ok a h => f a h
  | .exc x h => .exc x h
  | .stuck => .stuck
def ofO {α : Type} (x : Option α) (h : Hc) : ERes α :=
  match x with
  | some a => .ok a h
  | none => .stuck

/-! ## what the operators do -/
mutual
def D.toPy : D → PyData
  | .non => .none
  | .bl b => .bool b
  | .int i => .int i
  | .str x => .str x
  | .tup xs => .tuple (D.toPys xs)
  | .lst xs => .list (D.toPys xs)
  | .ref _ => .none
  | .fn _ => .none
def D.toPys : List D → List PyData
  | [] => []
  | x :: xs => D.toPy x :: D.toPys xs
end
mutual
/-- plain data -/
def D.plain : D → Bool
  | .tup xs => D.plains xs
  | .lst xs => D.plains xs
  | .ref _ => false
  | .fn _ => false
  | _ => true
def D.plains : List D → Bool
  | [] => true
  | x :: xs => D.plain x && D.plains xs
end
def D.okD (d : D) : Bool := d.plain && SeqAt.shaped d.toPy
def der (h : Hc) : D → D
  | .ref n => match h[n]? with
    | some (.lst xs) => .lst xs
    | some (.ro xs) => .lst xs
    | _ => .ref n
  | d => d
/-- a list that is no locked one -/
def derM (h : Hc) : D → D
  | .ref n => match h[n]? with
    | some (.lst xs) => .lst xs
    | _ => .ref n
  | d => d
def seqD (h : Hc) : D → Option (List D)
  | .tup xs => some xs
  | .lst xs => some xs
  | .ref n => match h[n]? with
    | some (.lst xs) => some xs
    | some (.ro xs) => some xs
    | _ => none
  | _ => none
def bitsI (i : Int) : Nat := Builtin.Int.intBits i
def mulOk (i j : Int) : Bool := decide (bitsI i ≤ 64) || decide (bitsI j ≤ 64) || decide (bitsI i + bitsI j ≤ 134217728)
def divOk (j : Int) : Bool := decide (j ≠ 0) && decide (j.natAbs.log2 < 9000)
def line : Nat := 16777216
def addL (h : Hc) (a b : D) : Option D :=
  match derM h a, derM h b with
  | .lst a, .lst b => if a.length + b.length ≤ line then some (.lst (a ++ b)) else none
  | _, _ => none
def addF (h : Hc) : D → D → Option D
  | .int a, .int b => some (.int (a + b))
  | .str a, .str b => if a.length + b.length ≤ line then some (.str (a ++ b)) else none
  | .tup a, .tup b => if a.length + b.length ≤ line then some (.tup (a ++ b)) else none
  | a, b => addL h a b
def mulL (h : Hc) (a : D) (b : Int) : Option D :=
  match derM h a with
  | .lst a => if -(2 ^ 63) ≤ b ∧ b < 2 ^ 63 ∧ a.length * b.toNat ≤ line then some (.lst (List.replicate b.toNat a).flatten) else none
  | _ => none
def mulF (h : Hc) : D → D → Option D
  | .int a, .int b => if mulOk a b then some (.int (a * b)) else none
  | .tup a, .int b => if -(2 ^ 63) ≤ b ∧ b < 2 ^ 63 ∧ a.length * b.toNat ≤ line then some (.tup (List.replicate b.toNat a).flatten) else none
  | a, .int b => mulL h a b
  | _, _ => none
def int2 (f : Int → Int → Option Int) : D → D → Option D
  | .int a, .int b => (f a b).map .int
  | _, _ => none
def binF (h : Hc) : Operator → D → D → Option D
  | .Add => addF h
  | .Sub => int2 fun a b => some (a - b)
  | .Mult => mulF h
  | .FloorDiv => int2 fun a b => if divOk b then some (a.fdiv b) else none
  | .Mod => int2 fun a b => if b = 0 then none else some (a.fmod b)
  | .Pow => int2 fun a b => if 0 ≤ b ∧ b ≤ 1000000 ∧ a.natAbs < 2 ^ 64 then some (a ^ b.toNat) else none
  | .LShift => int2 fun a b => if 0 ≤ b ∧ (bitsI a : Int) + b ≤ 134217728 then some (a * 2 ^ b.toNat) else none
  | .RShift => int2 fun a b => if 0 ≤ b then some (a / 2 ^ b.toNat) else none
  | .BitAnd => int2 fun a b => some (Builtin.bitAnd a b)
  | _ => fun _ _ => none
def eqG (h : Hc) (a b : D) : Option Bool :=
  if (der h a).okD && (der h b).okD then some (PyData.eqv (der h a).toPy (der h b).toPy) else none
def eqF (h : Hc) : D → D → Option Bool
  | .int a, .int b => some (decide (a = b))
  | .non, .int _ => some false
  | .int _, .non => some false
  | a, b => eqG h a b
def D.isN : D → Bool
  | .non => true
  | _ => false
def ltG (h : Hc) (a b : D) : Option Bool :=
  if (der h a).okD && (der h b).okD && PySem.W.alike (der h a).toPy (der h b).toPy && !(der h a).isN then some (PySem.W.dataLt (der h a).toPy (der h b).toPy) else none
/-- a < b -/
def ltF (h : Hc) : D → D → Option Bool
  | .int a, .int b => some (decide (a < b))
  | a, b => ltG h a b
inductive Kd where
  | non | bool | int | str | tuple | list | dict
  deriving DecidableEq
def kdD (h : Hc) : D → Option Kd
  | .non => some .non
  | .bl _ => some .bool
  | .int _ => some .int
  | .str _ => some .str
  | .tup _ => some .tuple
  | .lst _ => some .list
  | .ref n => match h[n]? with
    | some (.lst _) => some .list
    | some (.ro _) => some .list
    | some (.dK _) => some .dict
    | some (.dT _) => some .dict
    | none => none
  | .fn _ => none
def kdTy : Kd → Ty → Bool
  | .int, .int => true
  | .bool, .int => true
  | .bool, .bool => true
  | .str, .str => true
  | .tuple, .tuple => true
  | .list, .list => true
  | .dict, .dict => true
  | _, _ => false
def isDictD (h : Hc) : D → Bool
  | .ref n => match h[n]? with
    | some (.dK _) => true
    | some (.dT _) => true
    | _ => false
  | _ => false
def isLstD (h : Hc) : D → Bool
  | .ref n => match h[n]? with
    | some (.lst _) => true
    | _ => false
  | _ => false
def isFs (h : Hc) (ts : List Ty) (d : D) : Option Bool := (kdD h d).map fun k => ts.any (kdTy k)
def ixD (n : Nat) (i : Int) : Option Nat := if 0 ≤ i then (if i < n then some i.toNat else none) else if -(n : Int) ≤ i then some (i + n).toNat else none
def atD {α : Type} (xs : List α) (i : Int) : Option α := (ixD xs.length i).bind fun j => xs[j]?
def slx (n d : Nat) : Option Int → Nat
  | none => d
  | some v => if v < 0 then (v + (n : Int)).toNat else min v.toNat n
def cutD {α : Type} (xs : List α) (lo hi : Option Int) : List α := (xs.drop (slx xs.length 0 lo)).take (slx xs.length xs.length hi - slx xs.length 0 lo)
def keyD : D → Option Key
  | .int i => some (.inl i)
  | .str x => some (.inr x)
  | _ => none
def keysD : List D → Option (List Key)
  | [] => some []
  | d :: ds => match keyD d, keysD ds with
    | some k, some ks => some (k :: ks)
    | _, _ => none
def tkeyD : D → Option (List Key)
  | .tup ds => keysD ds
  | _ => none
def valD {κ : Type} [DecidableEq κ] (kvs : List (κ × D)) (k : κ) : Option D := (kvs.find? fun kv => decide (kv.1 = k)).map (·.2)
def putD {κ : Type} [DecidableEq κ] (kvs : List (κ × D)) (k : κ) (v : D) : List (κ × D) :=
  if (kvs.any fun kv => decide (kv.1 = k)) = true then kvs.map fun kv => if kv.1 = k then (kv.1, v) else kv else kvs ++ [(k, v)]
/-- d[k]: a dict's value, if there -/
def lookD (h : Hc) (n : Nat) (k : D) : Option (Option D) :=
  match h[n]? with
  | some (.dK kvs) => (keyD k).map fun k => valD kvs k
  | some (.dT kvs) => (tkeyD k).map fun k => valD kvs k
  | _ => none
def inData (h : Hc) (x : D) (y : D) (ys : List D) : Option Bool :=
  if (der h x).okD && y.okD then some (ys.any fun z => PyData.eqv z.toPy (der h x).toPy) else none
def inF (h : Hc) (x : D) (y : D) : Option Bool :=
  match der h y with
  | .lst ys => inData h x (.lst ys) ys
  | .tup ys => inData h x (.tup ys) ys
  | .str t => match x with
    | .str s => some (!(Builtin.Str.occurrences t s 0 t.length 1).isEmpty)
    | _ => none
  | .ref n => (lookD h n x).map Option.isSome
  | _ => none
def isNon (a b : D) : Option Bool :=
  match b with
  | .non => some a.isN
  | _ => none
def cmpF (h : Hc) : CmpOp → D → D → Option Bool
  | .Eq, a, b => eqF h a b
  | .NotEq, a, b => (eqF h a b).map (!·)
  | .Lt, a, b => ltF h a b
  | .Gt, a, b => ltF h b a
  | .LtE, a, b => (ltF h b a).map (!·)
  | .GtE, a, b => (ltF h a b).map (!·)
  | .Is, a, b => isNon a b
  | .IsNot, a, b => (isNon a b).map (!·)
  | .In, a, b => inF h a b
  | .NotIn, a, b => (inF h a b).map (!·)
def idxF (h : Hc) (a i : D) : Option D :=
  match a, i with
  | .str x, .int i => if x.length ≤ line then (atD x.cps.toList i).map fun c => .str ⟨#[c]⟩ else none
  | .ref n, i => match h[n]? with
    | some (.lst xs) => match i with | .int i => atD xs i | _ => none
    | some (.ro xs) => match i with | .int i => atD xs i | _ => none
    | _ => (lookD h n i).bind id
  | .tup xs, .int i => atD xs i
  | .lst xs, .int i => atD xs i
  | _, _ => none
def putF (h : Hc) (o i v : D) : Option Hc :=
  match o with
  | .ref n => match h[n]? with
    | some (.lst xs) => match i with
      | .int i => (ixD xs.length i).map fun j => h.set n (.lst (xs.set j v))
      | _ => none
    | some (.dK kvs) => if kvs.length < line then (keyD i).map fun k => h.set n (.dK (putD kvs k v)) else none
    | some (.dT kvs) => if kvs.length < line then (tkeyD i).map fun k => h.set n (.dT (putD kvs k v)) else none
    | _ => none
  | _ => none
def sliceF (h : Hc) (a : D) (lo hi : Option Int) : Option D :=
  match der h a with
  | .tup xs => some (.tup (cutD xs lo hi))
  | .lst xs => some (.lst (cutD xs lo hi))
  | .str x => if x.length ≤ line then some (.str ⟨(cutD x.cps.toList lo hi).toArray⟩) else none
  | _ => none
def revF (h : Hc) (a : D) : Option D :=
  match der h a with
  | .tup xs => some (.tup xs.reverse)
  | .lst xs => some (.lst xs.reverse)
  | _ => none
/-- a list's items -/
def lstD (h : Hc) : D → Option (List D)
  | .lst xs => some xs
  | .ref n => match h[n]? with
    | some (.lst xs) => some xs
    | some (.ro xs) => some xs
    | _ => none
  | _ => none
/-- stable sort by a Bool order -/
def insD (le : D → D → Bool) (x : D) : List D → List D
  | [] => [x]
  | y :: ys => if le x y then x :: y :: ys else y :: insD le x ys
def sortD (le : D → D → Bool) : List D → List D
  | [] => []
  | x :: xs => insD le x (sortD le xs)
def leD (a b : D) : Bool := !PySem.W.dataLt b.toPy a.toPy
def alikes (xs : List D) : Bool := xs.all fun x => xs.all fun y => PySem.W.alike x.toPy y.toPy
def D.isTup1 : D → Bool
  | .tup (_ :: _) => true
  | _ => false
def D.isFlat : D → Bool
  | .tup _ => false
  | .non => false
  | .ref _ => false
  | .fn _ => false
  | _ => true
def sortable (xs : List D) : Bool := xs.all D.isTup1 || xs.all D.isFlat
def sumI : List D → Option Int
  | [] => some 0
  | .int i :: xs => (sumI xs).map (i + ·)
  | _ => none
def allB : List D → Option (List Bool)
  | [] => some []
  | .bl b :: xs => (allB xs).map (b :: ·)
  | _ => none
def intsD : List D → Option (List Int)
  | [] => some []
  | .int i :: xs => (intsD xs).map (i :: ·)
  | _ => none
/-- sorted(xs): also of a tuple -/
def sortF (xs : List D) : Option (List D) := if (D.lst xs).okD && alikes xs && sortable xs && decide (xs.length ≤ line) then some (sortD leD xs) else none
def lenF (h : Hc) (d : D) : Option D :=
  match d with
  | .str x => if x.length ≤ line then some (.int x.length) else none
  | d => match seqD h d with
    | some xs => some (.int xs.length)
    | none => match d with
      | .ref n => match h[n]? with
        | some (.dK kvs) => some (.int kvs.length)
        | _ => none
      | _ => none
def intF : D → Option D
  | .int i => some (.int i)
  | .bl b => some (.int (if b then 1 else 0))
  | _ => none
def biF (h : Hc) : Bi → List D → Option D
  | .len, [d] => lenF h d
  | .abs, [.int i] => some (.int (if i < 0 then -i else i))
  | .int, [d] => intF d
  | .tuple, [d] => (seqD h d).map fun xs => .tup xs
  | .list, [d] => (seqD h d).map fun xs => .lst xs
  | .sorted, [d] => ((seqD h d).bind sortF).map .lst
  | .sum, [d] => (seqD h d).bind fun xs => (sumI xs).map .int
  | .all, [d] => (lstD h d).bind fun xs => (allB xs).map fun bs => .bl (bs.all id)
  | .any, [d] => (lstD h d).bind fun xs => (allB xs).map fun bs => .bl (bs.any id)
  | .max, [d] => (seqD h d).bind fun xs => match intsD xs with | some (x :: xs) => some (.int (xs.foldl max x)) | _ => none
  | .min, [d] => (seqD h d).bind fun xs => match intsD xs with | some (x :: xs) => some (.int (xs.foldl min x)) | _ => none
  | .max2, [.int a, .int b] => some (.int (if b > a then b else a))
  | .min2, [.int a, .int b] => some (.int (if b < a then b else a))
  | .str, [.int i] => if i.natAbs.log2 < 1920 then some (.str (toString i)) else none
  | .lenset, [d] => (lstD h d).bind fun xs => (intsD xs).bind fun is => if is.length ≤ 4000 then some (.int (firstMet (fun i => is.getD i 0) is.length).length) else none
  | _, _ => none

/-! ## the runs -/
abbrev Guard := List (Nat × Cell)
def gOk (g : Guard) (h : Hc) : Bool := g.all fun p => decide (h[p.1]? = some p.2)
def cwipe (σ : CSt) : List Nat → CSt
  | [] => σ
  | v :: vs => (cwipe σ vs).set v none
mutual
def asgT : Tg → D → CSt → Option CSt
  | .v i, d, σ => some (σ.set i (some d))
  | .t ts, d, σ => match d with
    | .tup ds => asgTs ts ds σ
    | _ => none
def asgTs : Tgs → List D → CSt → Option CSt
  | .nil, [], σ => some σ
  | .cons t ts, d :: ds, σ => match asgT t d σ with
    | some σ' => asgTs ts ds σ'
    | none => none
  | _, _, _ => none
end
abbrev EvF := CSt → Hc → ERes D
def boolR (r : ERes D) : ERes Bool :=
  match r with
  | .ok (.bl b) h => .ok b h
  | .ok _ _ => .stuck
  | .exc x h => .exc x h
  | .stuck => .stuck
def compF (fe fc : EvF) (t : Tg) (g : Guard) (σ : CSt) : List D → Hc → ERes (List D)
  | [], h => if gOk g h then .ok [] h else .stuck
  | x :: xs, h => if gOk g h then
      match asgT t x σ with
      | some σ' => match boolR (fc σ' h) with
        | .ok true h1 => match fe σ' h1 with
          | .ok y h2 => match compF fe fc t g σ xs h2 with
            | .ok ys h3 => .ok (y :: ys) h3
            | _ => .stuck
          | _ => .stuck
        | .ok false h1 => compF fe fc t g σ xs h1
        | _ => .stuck
      | none => .stuck
    else .stuck
def lmap (zs : List D) (r : ERes (List D)) : ERes D :=
  match r with
  | .ok ys h => .ok (.lst (zs ++ ys)) h
  | _ => .stuck
def guardOf (h : Hc) : D → Guard
  | .ref n => match h[n]? with
    | some c => [(n, c)]
    | none => []
  | _ => []
def rngD (a : Int) (c : Int) : Nat → List D
  | 0 => []
  | n + 1 => .int a :: rngD (a + c) c n
def enumD (i : Nat) : List D → List D
  | [] => []
  | x :: xs => .tup [.int i, x] :: enumD (i + 1) xs
def zipD : List D → List D → List D
  | x :: xs, y :: ys => .tup [x, y] :: zipD xs ys
  | _, _ => []
def zipO (h : Hc) (d e : D) : Option (List D) :=
  match lstD h d, lstD h e with
  | some xs, some ys => some (zipD xs ys)
  | _, _ => match d, e with
    | .tup xs, .tup ys => some (zipD xs ys)
    | _, _ => none
def smallI (a : Int) : Bool := decide (-(2 ^ 62) ≤ a) && decide (a < 2 ^ 62)
def rngN (i j c : Int) : Nat := if 0 < c then ((j - i + c - 1) / c).toNat else ((i - j - c - 1) / (-c)).toNat
structure Itd where
  xs : List D
  g : Guard
def CE.isAbs : CE → Bool
  | .absent => true
  | _ => false
def optR (abs : Bool) (f : Hc → ERes D) (h : Hc) : ERes (Option Int) :=
  if abs then .ok none h else (f h).bind fun d h => match d with
    | .int i => .ok (some i) h
    | _ => .stuck
def condR (abs : Bool) (f : EvF) : EvF := fun σ h => if abs then .ok (.bl true) h else f σ h
abbrev Caller := Nat → List D → Hc → ERes D
mutual
def evE (C : Caller) : CE → CSt → Hc → ERes D
  | .var i, σ, h => match σ[i]? with
    | some (some d) => .ok d h
    | _ => .stuck
  | .cst d, _, h => .ok d h
  | .glob _ d, _, h => .ok d h
  | .bin op a b, σ, h => (evE C a σ h).bind fun x h => (evE C b σ h).bind fun y h => ofO (binF h op x y) h
  | .neg a, σ, h => (evE C a σ h).bind fun x h => match x with
    | .int i => .ok (.int (-i)) h
    | _ => .stuck
  | .not_ a, σ, h => (evE C a σ h).bind fun x h => match x with
    | .bl b => .ok (.bl (!b)) h
    | _ => .stuck
  | .cmp op a b, σ, h => (evE C a σ h).bind fun x h => (evE C b σ h).bind fun y h => ofO ((cmpF h op x y).map .bl) h
  | .chain op op' a b c, σ, h => (evE C a σ h).bind fun x h => (evE C b σ h).bind fun y h => match cmpF h op x y with
    | some true => (evE C c σ h).bind fun z h => ofO ((cmpF h op' y z).map .bl) h
    | some false => .ok (.bl false) h
    | none => .stuck
  | .and_ a b, σ, h => (evE C a σ h).bind fun x h => match x with
    | .bl true => evE C b σ h
    | .bl false => .ok (.bl false) h
    | _ => .stuck
  | .or_ a b, σ, h => (evE C a σ h).bind fun x h => match x with
    | .bl true => .ok (.bl true) h
    | .bl false => evE C b σ h
    | _ => .stuck
  | .ite t a b, σ, h => (evE C t σ h).bind fun x h => match x with
    | .bl true => evE C a σ h
    | .bl false => evE C b σ h
    | _ => .stuck
  | .call f args, σ, h => (evEs C args σ h).bind fun ds h => C f ds h
  | .bi b args, σ, h => (evEs C args σ h).bind fun ds h => ofO (biF h b ds) h
  | .callv fe fs args, σ, h => (evE C fe σ h).bind fun x h => match x with
    | .fn i => if i ∈ fs then (evEs C args σ h).bind fun ds h => C i ds h else .stuck
    | _ => .stuck
  | .isin a ts, σ, h => (evE C a σ h).bind fun x h => ofO ((isFs h ts x).map .bl) h
  | .pop o, σ, h => (evE C o σ h).bind fun x h => match x with
    | .ref n => match h[n]? with
      | some (.lst xs) => match xs[xs.length - 1]? with
        | some d => .ok d (h.set n (.lst xs.dropLast))
        | none => .stuck
      | _ => .stuck
    | _ => .stuck
  | .idx a i, σ, h => (evE C a σ h).bind fun x h => (evE C i σ h).bind fun y h => ofO (idxF h x y) h
  | .sl a lo hi, σ, h => (evE C a σ h).bind fun x h => (optR lo.isAbs (evE C lo σ) h).bind fun l h => (optR hi.isAbs (evE C hi σ) h).bind fun u h => ofO (sliceF h x l u) h
  | .rev a, σ, h => (evE C a σ h).bind fun x h => ofO (revF h x) h
  | .absent, _, _ => .stuck
  | .tup es, σ, h => (evEs C es σ h).bind fun ds h => .ok (.tup ds) h
  | .lst es, σ, h => (evEs C es σ h).bind fun ds h => .ok (.lst ds) h
  | .comp elt t it cond own, σ, h => (evI C it σ h).bind fun d h => if d.xs.length ≤ line then lmap [] (compF (evE C elt) (condR cond.isAbs (evE C cond)) t d.g (cwipe σ own) d.xs h) else .stuck
  | .lrange it, σ, h => (evI C it σ h).bind fun d h => if d.xs.length ≤ line then .ok (.lst d.xs) h else .stuck
  | .cell e, σ, h => (evE C e σ h).bind fun x h => match x with
    | .lst xs => .ok (.ref h.length) (h ++ [.lst xs])
    | _ => .stuck
  | .dict0 t, _, h => .ok (.ref h.length) (h ++ [if t then .dT [] else .dK []])
  | .dget o k d, σ, h => (evE C o σ h).bind fun x h => if isDictD h x then (evE C k σ h).bind fun y h => (evE C d σ h).bind fun z h => match x with
    | .ref n => match lookD h n y with
      | some r => .ok (r.getD z) h
      | none => .stuck
    | _ => .stuck
    else .stuck
def evEs (C : Caller) : CEs → CSt → Hc → ERes (List D)
  | .nil, _, h => .ok [] h
  | .cons e es, σ, h => (evE C e σ h).bind fun d h => (evEs C es σ h).bind fun ds h => .ok (d :: ds) h
def evI (C : Caller) : CI → CSt → Hc → ERes Itd
  | .seq e, σ, h => (evE C e σ h).bind fun d h => match seqD h d with
    | some xs => .ok ⟨xs, guardOf h d⟩ h
    | none => .stuck
  | .rng1 a, σ, h => (evE C a σ h).bind fun d h => match d with
    | .int j => if smallI j then .ok ⟨rngD 0 1 j.toNat, []⟩ h else .stuck
    | _ => .stuck
  | .rng2 a b, σ, h => (evE C a σ h).bind fun d h => (evE C b σ h).bind fun e h => match d, e with
    | .int i, .int j => if smallI i && smallI j then .ok ⟨rngD i 1 (j - i).toNat, []⟩ h else .stuck
    | _, _ => .stuck
  | .rng3 a b c, σ, h => (evE C a σ h).bind fun d h => (evE C b σ h).bind fun e h => (evE C c σ h).bind fun f h => match d, e, f with
    | .int i, .int j, .int k => if Builtin.Range.small i j k && decide (k ≠ 0) && decide (k.natAbs < 1073741824) && decide (Builtin.Range.rangeSize i j k = (rngN i j k : Nat)) then .ok ⟨rngD i k (rngN i j k), []⟩ h else .stuck
    | _, _, _ => .stuck
  | .enum e, σ, h => (evE C e σ h).bind fun d h => match lstD h d with
    | some xs => .ok ⟨enumD 0 xs, guardOf h d⟩ h
    | none => .stuck
  | .zip a b, σ, h => (evE C a σ h).bind fun d h => (evE C b σ h).bind fun e h => match zipO h d e with
    | some zs => .ok ⟨zs, guardOf h d ++ guardOf h e⟩ h
    | none => .stuck
end

def wFuel : Nat := 1000000000
def testR (r : ERes D) : ERes Bool := boolR r
def forF (fb : CSt → Hc → SRes) (t : Tg) (g : Guard) : List D → CSt → Hc → SRes
  | [], σ, h => if gOk g h then .ok (.nx σ) h else .stuck
  | x :: xs, σ, h => if gOk g h then
      match asgT t x σ with
      | some σ' => match fb σ' h with
        | .ok (.nx σ2) h2 => forF fb t g xs σ2 h2
        | .ok (.ct σ2) h2 => forF fb t g xs σ2 h2
        | .ok (.bk σ2) h2 => .ok (.nx σ2) h2
        | .ok (.rt d) h2 => .ok (.rt d) h2
        | .exc x σ2 h2 => .exc x σ2 h2
        | .stuck => .stuck
      | none => .stuck
    else .stuck
def whF (fc : EvF) (fb : CSt → Hc → SRes) : Nat → CSt → Hc → SRes
  | 0, _, _ => .stuck
  | k + 1, σ, h => match boolR (fc σ h) with
    | .ok false h1 => .ok (.nx σ) h1
    | .ok true h1 => match fb σ h1 with
      | .ok (.nx σ2) h2 => whF fc fb k σ2 h2
      | .ok (.ct σ2) h2 => whF fc fb k σ2 h2
      | .ok (.bk σ2) h2 => .ok (.nx σ2) h2
      | .ok (.rt d) h2 => .ok (.rt d) h2
      | .exc x σ2 h2 => .exc x σ2 h2
      | .stuck => .stuck
    | .exc x h1 => .exc x σ h1
    | .stuck => .stuck
/-- an expression's result within a statement -/
def ERes.st {α : Type} (r : ERes α) (σ : CSt) (f : α → Hc → SRes) : SRes :=
  match r with
  | .ok a h => f a h
  | .exc x h => .exc x σ h
  | .stuck => .stuck
def stO {α : Type} (o : Option α) (f : α → SRes) : SRes :=
  match o with
  | some a => f a
  | none => .stuck
def ckill (σ : CSt) (is : List Nat) : CSt := cwipe σ is
def lowSt (n : Nat) (σ : CSt) : Bool := σ.all fun o => match o with | some d => d.low n | none => true
/-- may the cells from n on be forgotten -/
def cutOk (n : Nat) (h h' : Hc) : Bool := (List.zip (h'.take n) h).all fun p => p.1.low n || decide (p.1 = p.2)
def scopeR (h : Hc) (r : SRes) : SRes :=
  match r with
  | .ok (.nx σ) h' => if lowSt h.length σ && cutOk h.length h h' then .ok (.nx σ) (h'.take h.length) else .ok (.nx σ) h'
  | r => r
def refIdx (h : Hc) (x y : D) : Option D :=
  match x with
  | .ref n => idxF h (.ref n) y
  | _ => none
def noExc (r : SRes) : SRes :=
  match r with
  | .exc _ _ _ => .stuck
  | r => r
structure Env2 where
  C : Caller
  sub : Nat → Nat → Option Bool
mutual
def evS (P : Env2) : CS → CSt → Hc → SRes
  | .asg t e, σ, h => (evE P.C e σ h).st σ fun d h => stO (asgT t d σ) fun σ' => .ok (.nx σ') h
  | .aug i op e, σ, h => match σ[i]? with
    | some (some x) => (evE P.C e σ h).st σ fun y h => match x, y with
      | .int a, .int b => stO (binF h op (.int a) (.int b)) fun z => .ok (.nx (σ.set i (some z))) h
      | _, _ => .stuck
    | _ => .stuck
  | .sput o i e, σ, h => (evE P.C e σ h).st σ fun v h => (evE P.C o σ h).st σ fun x h => (evE P.C i σ h).st σ fun y h => stO (putF h x y v) fun h' => .ok (.nx σ) h'
  | .saug o i op e, σ, h => (evE P.C o σ h).st σ fun x h => (evE P.C i σ h).st σ fun y h => stO (refIdx h x y) fun u => (evE P.C e σ h).st σ fun v h =>
      match u, v with
      | .int a, .int b => stO (binF h op (.int a) (.int b)) fun w => stO (putF h x y w) fun h' => .ok (.nx σ) h'
      | _, _ => .stuck
  | .expr e, σ, h => (evE P.C e σ h).st σ fun _ h => .ok (.nx σ) h
  | .app o e, σ, h => (evE P.C o σ h).st σ fun x h => if isLstD h x = false then .stuck else (evE P.C e σ h).st σ fun v h => match x with
    | .ref n => match h[n]? with
      | some (.lst xs) => if xs.length < line then .ok (.nx σ) (h.set n (.lst (xs ++ [v]))) else .stuck
      | _ => .stuck
    | _ => .stuck
  | .ifs t a b, σ, h => (boolR (evE P.C t σ h)).st σ fun c h => if c then evSs P a σ h else evSs P b σ h
  | .for_ t it body, σ, h => (evI P.C it σ h).st σ fun d h => forF (evSs P body) t d.g d.xs σ h
  | .whl t body, σ, h => whF (evE P.C t) (evSs P body) wFuel σ h
  | .ret e, σ, h => (evE P.C e σ h).st σ fun d h => .ok (.rt d) h
  | .retN, _, h => .ok (.rt .non) h
  | .brk, σ, h => .ok (.bk σ) h
  | .pass, σ, h => .ok (.nx σ) h
  | .raise x e, σ, h => if e.isAbs then .exc ⟨x, none⟩ σ h else (evE P.C e σ h).st σ fun d h => .exc ⟨x, some d⟩ σ h
  | .try_ body x suite, σ, h => match evSs P body σ h with
    | .exc y σ' h' => match P.sub y.cls x with
      | some true => noExc (evSs P suite σ' h')
      | some false => .exc y σ' h'
      | none => .stuck
    | r => r
  | .kill is, σ, h => .ok (.nx (ckill σ is)) h
  | .scope ss, σ, h => scopeR h (evSs P ss σ h)
def evSs (P : Env2) : CSs → CSt → Hc → SRes
  | .nil, σ, h => .ok (.nx σ) h
  | .cons s ss, σ, h => match evS P s σ h with
    | .ok (.nx σ') h' => evSs P ss σ' h'
    | r => r
end
structure CDef where
  ns : Nat
  np : Nat
  body : CSs
structure Pg where
  defs : List CDef
  sub : Nat → Nat → Option Bool
def cstart (d : CDef) (args : List D) : CSt := args.map some ++ List.replicate (d.ns - args.length) none
def finR (h : Hc) (v : D) (h' : Hc) : ERes D := if v.low h.length && cutOk h.length h h' then .ok v (h'.take h.length) else .ok v h'
def Exc.low (n : Nat) (x : Exc) : Bool :=
  match x.arg with
  | some v => v.low n
  | none => true
def finX (h : Hc) (x : Exc) (h' : Hc) : ERes D := if x.low h.length && cutOk h.length h h' then .exc x (h'.take h.length) else .exc x h'
def runD (P : Env2) (d : CDef) (args : List D) (h : Hc) : ERes D :=
  if args.length = d.np then
    match evSs P d.body (cstart d args) h with
    | .ok (.rt v) h' => finR h v h'
    | .ok (.nx _) h' => finR h .non h'
    | .exc x _ h' => finX h x h'
    | _ => .stuck
  else .stuck
def callN (P : Pg) : Nat → Caller
  | 0, _, _, _ => .stuck
  | n + 1, f, args, h => match P.defs[f]? with
    | some d => runD ⟨callN P n, P.sub⟩ d args h
    | none => .stuck
end Cl

namespace Cl
open PySem PySem.Spec PyProof.Rows L2

theorem line_eq : line = sizeLine := by rw [sizeLine_eq]; rfl

/-! ## from data to Dp -/
section
variable {R : RC} {ρ φ : List Addr} {H : Hp} {h : Hc}
mutual
theorem RD.dp : ∀ {d : D} {v : V}, d.plain = true → RD R ρ φ H d v → Dp R.K H v d.toPy
  | .non, _, _, r => by simp only [RD] at r; subst r; simp only [D.toPy]; exact .non
  | .bl b, _, _, r => by simp only [RD] at r; subst r; simp only [D.toPy]; exact .bl b
  | .int b, _, _, r => by simp only [RD] at r; subst r; simp only [D.toPy]; exact .int b
  | .str b, _, _, r => by simp only [RD] at r; subst r; simp only [D.toPy]; exact .str b
  | .ref _, _, p, _ => by simp [D.plain] at p
  | .fn _, _, p, _ => by simp [D.plain] at p
  | .tup ds, _, p, r => by
    simp only [RD] at r
    obtain ⟨a, vs, rfl, h1, h2⟩ := r
    simp only [D.plain] at p
    simp only [D.toPy]
    exact .tup h1.sq (RDs.dp p h2)
  | .lst ds, _, p, r => by
    simp only [RD] at r
    obtain ⟨a, vs, rfl, h1, h2⟩ := r
    simp only [D.plain] at p
    simp only [D.toPy]
    exact .lst h1.sq (RDs.dp p h2)
theorem RDs.dp : ∀ {ds : List D} {vs : List V}, D.plains ds = true → RDs R ρ φ H ds vs → DpAll R.K H vs (D.toPys ds)
  | [], _, _, r => by simp only [RDs] at r; subst r; simp only [D.toPys]; exact .nil
  | d :: ds, _, p, r => by
    simp only [RDs] at r
    obtain ⟨v, vs', rfl, h1, h2⟩ := r
    simp only [D.plains, Bool.and_eq_true] at p
    simp only [D.toPys]
    exact .cons (RD.dp p.1 h1) (RDs.dp p.2 h2)
end
theorem okD_plain {d : D} (k : d.okD = true) : d.plain = true := (Bool.and_eq_true_iff.mp k).1
theorem okD_shaped {d : D} (k : d.okD = true) : SeqAt.shaped d.toPy = true := (Bool.and_eq_true_iff.mp k).2
/-- a value seen through its cell -/
theorem RD.der_dp (r : RelH R ρ φ H h) {d : D} {v : V} (q : RD R ρ φ H d v) (k : (der h d).plain = true) : Dp R.K H v (der h d).toPy := by
  cases d with
  | ref n =>
    simp only [RD] at q
    obtain ⟨a, e, rfl⟩ := q
    unfold der at k ⊢
    cases hc : h[n]? with
    | none => simp [hc, D.plain] at k
    | some c =>
      have rc := r.cells n a c e hc
      cases c with
      | lst xs =>
        obtain ⟨vs, e1, e2⟩ := rc
        simp only [hc, D.plain] at k
        simp only [hc, D.toPy]
        exact .lst (SqL.of e1) (e2.dp k)
      | ro xs =>
        obtain ⟨o, vs, e1, e2⟩ := rc
        simp only [hc, D.plain] at k
        simp only [hc, D.toPy]
        exact .lst (.inl (.inr ⟨o, e1⟩)) (e2.dp k)
      | dK _ => simp [hc, D.plain] at k
      | dT _ => simp [hc, D.plain] at k
  | _ => exact q.dp k
/-- what seqD reads -/
theorem RD.seq (r : RelH R ρ φ H h) {d : D} {v : V} (q : RD R ρ φ H d v) {xs : List D} (e : seqD h d = some xs) :
    ∃ a vs, v = .ref a ∧ (SqL R.K H a vs ∨ SqT R.K H a vs) ∧ RDs R ρ φ H xs vs := by
  cases d with
  | tup ds =>
    simp only [seqD, Option.some.injEq] at e; subst e
    simp only [RD] at q
    obtain ⟨a, vs, rfl, h1, h2⟩ := q
    exact ⟨a, vs, rfl, .inr h1.sq, h2⟩
  | lst ds =>
    simp only [seqD, Option.some.injEq] at e; subst e
    simp only [RD] at q
    obtain ⟨a, vs, rfl, h1, h2⟩ := q
    exact ⟨a, vs, rfl, .inl h1.sq, h2⟩
  | ref n =>
    simp only [RD] at q
    obtain ⟨a, ea, rfl⟩ := q
    unfold seqD at e
    cases hc : h[n]? with
    | none => simp [hc] at e
    | some c =>
      have rc := r.cells n a c ea hc
      cases c with
      | lst ys =>
        simp only [hc, Option.some.injEq] at e; subst e
        obtain ⟨vs, e1, e2⟩ := rc
        exact ⟨a, vs, rfl, .inl (SqL.of e1), e2⟩
      | ro ys =>
        simp only [hc, Option.some.injEq] at e; subst e
        obtain ⟨o, vs, e1, e2⟩ := rc
        exact ⟨a, vs, rfl, .inl (.inl (.inr ⟨o, e1⟩)), e2⟩
      | dK _ => simp [hc] at e
      | dT _ => simp [hc] at e
  | _ => simp [seqD] at e
/-- a list that can be read, tracked (no locked one) -/
theorem RD.der_lst (r : RelH R ρ φ H h) {d : D} {v : V} (q : RD R ρ φ H d v) {xs : List D} (e : derM h d = .lst xs) :
    ∃ a vs, v = .ref a ∧ H a = some (.lst vs) ∧ RDs R ρ φ H xs vs := by
  cases d with
  | lst ds =>
    simp only [derM, D.lst.injEq] at e; subst e
    simp only [RD] at q
    obtain ⟨a, vs, rfl, h1, h2⟩ := q
    exact ⟨a, vs, rfl, h1.1, h2⟩
  | ref n =>
    simp only [RD] at q
    obtain ⟨a, ea, rfl⟩ := q
    unfold derM at e
    cases hc : h[n]? with
    | none => simp [hc] at e
    | some c =>
      have rc := r.cells n a c ea hc
      cases c with
      | lst ys =>
        simp only [hc, D.lst.injEq] at e; subst e
        obtain ⟨vs, e1, e2⟩ := rc
        exact ⟨a, vs, rfl, e1, e2⟩
      | ro ys => simp [hc] at e
      | dK _ => simp [hc] at e
      | dT _ => simp [hc] at e
  | _ => simp [derM] at e

/-! ## results -/
/-- an exception that flies: its class, its own dict's one field -/
structure XC where
  cls : Nat → Value
  fld : Nat → Str
def RX (R : RC) (Y : XC) (ρ φ : List Addr) (H : Hp) (x : Exc) (cls : Value) (dd : Option Addr) : Prop :=
  cls = Y.cls x.cls ∧ match x.arg with
    | none => dd = none
    | some d => ∃ a v, dd = some a ∧ H a = some (.xd [(Y.fld x.cls, v)]) ∧ RD R ρ φ H d v
def Fin {α β : Type} (R : RC) (Y : XC) (W : WX) (σ : L2.St) (ρ φ : List Addr) (H : Hp) (rel : List Addr → Hp → α → β → Prop) (r : ERes α) (Q : β → Hp → Prop) : Prop :=
  match r with
  | .ok a h' => ∀ ρ' b H', Ext ρ ρ' H H' → RelH R ρ' φ H' h' → rel ρ' H' a b → Q b H'
  | .exc x h' => ∀ ρ' cls dd H', Ext ρ ρ' H H' → RelH R ρ' φ H' h' → RX R Y ρ' φ H' x cls dd → W cls dd σ H'
  | .stuck => False
theorem Fin.ext {α β : Type} {Y : XC} {W : WX} {σ : L2.St} {ρ' : List Addr} {H' : Hp} {rel : List Addr → Hp → α → β → Prop} {r : ERes α} {Q : β → Hp → Prop} (f : Fin R Y W σ ρ φ H rel r Q) (e : Ext ρ ρ' H H') :
    Fin R Y W σ ρ' φ H' rel r Q := by
  cases r with
  | ok a h' => exact fun ρ1 b H1 e1 => f ρ1 b H1 (e.trans e1)
  | exc x h' => exact fun ρ1 c d H1 e1 => f ρ1 c d H1 (e.trans e1)
  | stuck => exact f
theorem Fin.bind {α α' β β' : Type} {Y : XC} {W : WX} {σ : L2.St} {rel : List Addr → Hp → α → β → Prop} {rel' : List Addr → Hp → α' → β' → Prop} {r : ERes α} {f : α → Hc → ERes α'} {Q' : β' → Hp → Prop} {Q : β → Hp → Prop}
    (hf : Fin R Y W σ ρ φ H rel' (r.bind f) Q')
    (k : ∀ a h1 ρ1 b H1, r = .ok a h1 → Ext ρ ρ1 H H1 → RelH R ρ1 φ H1 h1 → rel ρ1 H1 a b → Fin R Y W σ ρ1 φ H1 rel' (f a h1) Q' → Q b H1) : Fin R Y W σ ρ φ H rel r Q := by
  cases r with
  | ok a h' => exact fun ρ1 b H1 e1 hH r1 => k a h' ρ1 b H1 rfl e1 hH r1 (Fin.ext (r := f a h') hf e1)
  | exc x h' => exact hf
  | stuck => exact hf
abbrev rD (R : RC) (φ : List Addr) : List Addr → Hp → D → V → Prop := fun ρ H d v => RD R ρ φ H d v
abbrev rDs (R : RC) (φ : List Addr) : List Addr → Hp → List D → List V → Prop := fun ρ H d v => RDs R ρ φ H d v
theorem Fin.ofO {β : Type} {Y : XC} {W : WX} {σ : L2.St} {α : Type} {rel : List Addr → Hp → α → β → Prop} {o : Option α} {Q : β → Hp → Prop} (f : Fin R Y W σ ρ φ H rel (ofO o h) Q) :
    ∃ a, o = some a ∧ ∀ ρ' b H', Ext ρ ρ' H H' → RelH R ρ' φ H' h → rel ρ' H' a b → Q b H' := by
  cases o with
  | none => exact f.elim
  | some a => exact ⟨a, rfl, f⟩
end
end Cl

namespace L2
open PySem PySem.Spec PyProof.Rows
theorem tuple_mul1 (l : Addr) (items : Array Value) (n : Nat) (dd : Option Addr) (sl : Array (Option Value)) (x : Int) (u : Tok) (c0 : (decide (x < -(2 ^ 63)) || decide (x ≥ 2 ^ 63)) = false) (c1 : (items.isEmpty || x == 1) = true) :
    Meets (Builtin.«tuple.__mul__» ⟨[.ref l, .int x u], []⟩) (fun _ R s => s.heap.get? l = some { cls := .type "tuple", dict := dd, data := .seq items n, slots := sl } ∧
      R (.ok (.ret (Value.ref l))) s) :=
  .of_wp fun prog w A R s h => by
    obtain ⟨hp, g, d, tk, os⟩ := s
    obtain ⟨hl, h⟩ := h
    have f1 := AutoSeq1.idx_int
    wp_walk using wpAny_loadPart' hl
    repeat (first
      | (refine wpAny_ite_false (decide_eq_false (by rw [c0]; exact Bool.false_ne_true)) ?_; wp_walk using wpAny_loadPart' hl)
      | (refine wpAny_ite_true (decide_eq_true c1) ?_; wp_walk using wpAny_loadPart' hl))
    exact ⟨_, rfl, h⟩
theorem tuple_mul0 (l : Addr) (items : Array Value) (n : Nat) (dd : Option Addr) (sl : Array (Option Value)) (x : Int) (u : Tok) (c0 : (decide (x < -(2 ^ 63)) || decide (x ≥ 2 ^ 63)) = false) (c1 : (items.isEmpty || x == 1) = false) (c2 : (decide (x ≤ 0) || items.isEmpty) = true) :
    Meets (Builtin.«tuple.__mul__» ⟨[.ref l, .int x u], []⟩) (fun _ R s => s.heap.get? l = some { cls := .type "tuple", dict := dd, data := .seq items n, slots := sl } ∧
      R (.ok (.ret (Value.ref s.heap.objs.size))) { s with heap := s.heap.push { cls := Value.type "tuple", data := Data.seq #[] }, toks := s.toks }) :=
  .of_wp fun prog w A R s h => by
    obtain ⟨hp, g, d, tk, os⟩ := s
    obtain ⟨hl, h⟩ := h
    have f1 := AutoSeq1.idx_int
    wp_walk using wpAny_loadPart' hl
    repeat (first
      | (refine wpAny_ite_false (decide_eq_false (by rw [c0]; exact Bool.false_ne_true)) ?_; wp_walk using wpAny_loadPart' hl)
      | (refine wpAny_ite_false (decide_eq_false (by rw [c1]; exact Bool.false_ne_true)) ?_; wp_walk using wpAny_loadPart' hl)
      | (refine wpAny_ite_true (decide_eq_true c2) ?_; wp_walk using wpAny_loadPart' hl))
    exact ⟨_, rfl, h⟩

def rRepA (K : PySem.W.Frag) : R2 := fun x y H Q => ∃ l k xs, x = .ref l ∧ y = .int k ∧ SqT K H l xs ∧ -(2 ^ 63) ≤ k ∧ k < 2 ^ 63 ∧ xs.length * k.toNat ≤ sizeLine ∧
  (xs = [] ∨ k = 1 → Q (.ref l) H) ∧ (¬ (xs = [] ∨ k = 1) → ∀ p, H p = none → Q (.ref p) (upd H p (.tup (List.replicate k.toNat xs).flatten)))
section
variable {X : Cx}
theorem op_repA : OpR X (binaryOp .Mult) (rRepA X.K) := by
  intro pins s σ H x y v u Q I rx ry h
  obtain ⟨l, k, xs, rfl, rfl, hT, h1, h2, hz, q1, q2⟩ := h
  cases rx
  obtain ⟨t, rfl⟩ := ry
  obtain ⟨its, r, ⟨⟨cls, dd, data, sl⟩, ho, hc, n, hd⟩, hs⟩ := I.tuple hT
  simp only at hc hd
  subst hc hd
  have hle : its.length = xs.length := r.length.symm
  have c0 : (decide (k < -(2 ^ 63)) || decide (k ≥ 2 ^ 63)) = false := by
    rw [decide_eq_false (by omega), decide_eq_false (by omega)] <;> rfl
  refine wpAny_binaryOp_repeat_ref (T := "tuple") (U := "int") (by decide) ⟨_, ho, rfl⟩ (fun s' => typeIs_int s' k t) noFill_tuple_mul F.fills_int_mul F.slot_int_rmul repeat_tuple F.slot_int_index.lookup
    (call_meets F.slot_int_rmul (typeIs_int s k t) F.entry_int_rmul (F.args_int_rmul_2 _ _) (int_rmul_tuple k t l its.toArray n dd sl)
      ⟨ho, rfl, ⟨_, ho, rfl⟩, ?_⟩)
  have emp : its.toArray.isEmpty = true ↔ xs = [] := by
    rw [List.isEmpty_toArray, List.isEmpty_iff]
    constructor
    · intro e; rw [e] at hle; exact List.eq_nil_of_length_eq_zero hle.symm
    · intro e; rw [e] at hle; exact List.eq_nil_of_length_eq_zero hle
  by_cases c1 : xs = [] ∨ k = 1
  · have c1' : (its.toArray.isEmpty || k == 1) = true := by
      rw [Bool.or_eq_true]
      rcases c1 with e | e
      · exact .inl (emp.mpr e)
      · exact .inr (by simp [e])
    refine call_meets F.slot_tuple_mul ⟨_, ho, rfl⟩ F.entry_tuple_mul (F.args_tuple_mul_2 _ _) (tuple_mul1 l its.toArray n dd sl k t c0 c1') ⟨ho, ?_⟩
    exact ⟨.ref l, H, I, rfl, q1 c1⟩
  · have hne : xs ≠ [] := fun e => c1 (.inl e)
    have hk : k ≠ 1 := fun e => c1 (.inr e)
    have hi : its.toArray.isEmpty = false := by
      cases e : its.toArray.isEmpty with
      | false => rfl
      | true => exact absurd (emp.mp e) hne
    have c1' : (its.toArray.isEmpty || k == 1) = false := by
      rw [hi, Bool.false_or]
      exact beq_eq_false_iff_ne.mpr hk
    by_cases c2 : k ≤ 0
    · have c2' : (decide (k ≤ 0) || its.toArray.isEmpty) = true := by rw [decide_eq_true c2]; rfl
      refine call_meets F.slot_tuple_mul ⟨_, ho, rfl⟩ F.entry_tuple_mul (F.args_tuple_mul_2 _ _) (tuple_mul0 l its.toArray n dd sl k t c0 c1' c2') ⟨ho, ?_⟩
      have e0 : (List.replicate k.toNat xs).flatten = [] := by rw [show k.toNat = 0 by omega]; rfl
      have q3 := q2 c1
      rw [e0] at q3
      refine ⟨.ref s.heap.objs.size, _, I.laid (t' := s.toks) (o := .tup []) (fun b ob q => Heap.get?_push_of_some _ q) (Nat.le_refl _) ?_, rfl, q3 _ (I.hok.fresh (Nat.le_refl _))⟩
      exact ⟨by simp, [], .nil, IsTup.new _ _⟩
    · have c2' : (decide (k ≤ 0) || its.toArray.isEmpty) = false := by rw [hi, Bool.or_false]; exact decide_eq_false c2
      have hsz0 : its.toArray.size = xs.length := by rw [List.size_toArray, hle]
      have hkk : ((k.toNat : Nat) : Int) = k := by omega
      have hm : ((its.toArray.size : Nat) : Int) * k ≤ (sizeLine : Nat) := by
        rw [hsz0, ← hkk]
        exact_mod_cast hz
      have hl2 : (sizeLine : Nat) = 16777216 := sizeLine_eq
      have flen : (List.replicate k.toNat its).flatten.length ≤ sizeLine := by
        rw [PyProof.Rows.lm_len_rep_flat, hle, Nat.mul_comm]
        exact hz
      have c4 : Builtin.Tuple.tupleTooMany (((its.toArray.size : Nat) : Int) * k) = false := by
        unfold Builtin.Tuple.tupleTooMany
        exact decide_eq_false (by omega)
      refine call_meets F.slot_tuple_mul ⟨_, ho, rfl⟩ F.entry_tuple_mul (F.args_tuple_mul_2 _ _) (tuple_mulW l its.toArray n dd sl k t c0 c1' c2' (by omega) c4 (by rw [size_rep, List.size_toArray]; exact flen)) ⟨ho, ?_⟩
      rw [size_rep]
      refine ⟨.ref s.heap.objs.size, _, I.laid (t' := s.toks) (o := .tup (List.replicate k.toNat xs).flatten) (fun b ob q => Heap.get?_push_of_some _ q) (Nat.le_refl _) ?_, rfl, q2 c1 _ (I.hok.fresh (Nat.le_refl _))⟩
      exact ⟨by rw [PyProof.Rows.lm_len_rep_flat, Nat.mul_comm]; exact hz, _, r.rep k.toNat, IsTup.new _ _⟩
def CDivZ (j : Int) : Prop := j ≠ 0 ∧ j.natAbs.log2 < 9000
theorem op_fdivZ : OpR X (binaryOp .FloorDiv) (rI (fun _ j => CDivZ j) fun i j => .int (i.fdiv j)) := opI fun i j _ _ _ _ _ hc q =>
  floordiv_int hc.1 q (.inl (PyProof.noPylong_of_log2 hc.2))
end
end L2
namespace Cl
open PySem PySem.Spec PyProof.Rows L2
/-- the reading of an operator whose answer is the clean one -/
def rC (R : RC) (f : Hc → D → D → Option D) : R2 := fun x y H Q => ∃ ρ φ h a b d, RelH R ρ φ H h ∧ RD R ρ φ H a x ∧ RD R ρ φ H b y ∧ f h a b = some d ∧
  ∀ ρ' v H', Ext ρ ρ' H H' → RelH R ρ' φ H' h → RD R ρ' φ H' d v → Q v H'
section
variable {R : RC} {ρ φ : List Addr} {H : Hp} {h : Hc}
/-- a new tuple, a new list -/
theorem new_tup (r : RelH R ρ φ H h) {p : Addr} (hp : H p = none) {ds : List D} {vs : List V} (q : RDs R ρ φ H ds vs) :
    Ext ρ ρ H (upd H p (.tup vs)) ∧ RelH R ρ φ (upd H p (.tup vs)) h ∧ RD R ρ φ (upd H p (.tup vs)) (.tup ds) (.ref p) := by
  have pn : p ∉ ρ := fun z => by obtain ⟨u, e⟩ := r.some_at z; rw [hp] at e; cases e
  have e : Ext ρ ρ H (upd H p (.tup vs)) := Ext.fresh hp
  refine ⟨e, (r.fresh hp).weak (fun a ha => by simp [ha]), ?_⟩
  simp only [RD]
  exact ⟨p, vs, rfl, ⟨upd_same, pn, r.free hp⟩, q.ext e⟩
theorem new_lst (r : RelH R ρ φ H h) {p : Addr} (hp : H p = none) {ds : List D} {vs : List V} (q : RDs R ρ φ H ds vs) :
    Ext ρ ρ H (upd H p (.lst vs)) ∧ RelH R ρ φ (upd H p (.lst vs)) h ∧ RD R ρ φ (upd H p (.lst vs)) (.lst ds) (.ref p) := by
  have pn : p ∉ ρ := fun z => by obtain ⟨u, e⟩ := r.some_at z; rw [hp] at e; cases e
  have e : Ext ρ ρ H (upd H p (.lst vs)) := Ext.fresh hp
  refine ⟨e, (r.fresh hp).weak (fun a ha => by simp [ha]), ?_⟩
  simp only [RD]
  exact ⟨p, vs, rfl, ⟨upd_same, pn, r.free hp⟩, q.ext e⟩
/-- the same, held back -/
theorem new_lstF (r : RelH R ρ φ H h) {p : Addr} (hp : H p = none) {ds : List D} {vs : List V} (q : RDs R ρ φ H ds vs) :
    Ext ρ ρ H (upd H p (.lst vs)) ∧ RelH R ρ (p :: φ) (upd H p (.lst vs)) h ∧ RDs R ρ (p :: φ) (upd H p (.lst vs)) ds vs :=
  ⟨Ext.fresh hp, r.fresh hp, q.fresh hp⟩
end
theorem mulOk_ok {i j : Int} (h : mulOk i j = true) : IntMulOk i j := by
  unfold mulOk at h
  simp only [Bool.or_eq_true, decide_eq_true_eq] at h
  rcases h with (h | h) | h
  · exact .of_left h
  · exact .of_right h
  · have h3 : CMulX i j := by
      unfold CMulX
      unfold bitsI at h
      omega
    exact h3.ok
section
variable {X : Cx} {R : RC} (hK : R.K = X.K)
include hK
theorem bin_add : OpR X (binaryOp .Add) (rC R addF) := by
  intro pins s σ H x y v u Q I rx ry ⟨ρ, φ, h, a, b, d, rH, ra, rb, e, k⟩
  have lists : addL h a b = some d → wpAny (model X.prog X.w) X.A (binaryOp .Add v u) (EP X pins σ Q) X.xe s := by
    intro e
    unfold addL at e
    split at e
    · rename_i xs ys ea eb
      split at e
      · rename_i hz
        cases e
        obtain ⟨l, vs, rfl, h1, h2⟩ := ra.der_lst rH ea
        obtain ⟨m, ws, rfl, h3, h4⟩ := rb.der_lst rH eb
        refine op_cat pins s σ H _ _ v u Q I rx ry ⟨l, m, vs, ws, rfl, rfl, h1, h3, ?_, fun p hp => ?_⟩
        · rw [← h2.len, ← h4.len, ← line_eq]; exact hz
        · obtain ⟨e1, e2, e3⟩ := new_lst rH hp (h2.append h4)
          exact k _ _ _ e1 e2 e3
      · cases e
    · cases e
  unfold addF at e
  split at e
  · cases e
    simp only [RD] at ra rb
    subst ra rb
    exact op_add pins s σ H _ _ v u Q I rx ry ⟨_, _, rfl, rfl, k _ _ _ Ext.refl rH (by simp only [RD])⟩
  · rename_i x y
    split at e
    · rename_i hz
      cases e
      simp only [RD] at ra rb
      subst ra rb
      exact op_add_str pins s σ H _ _ v u Q I rx ry ⟨_, _, rfl, rfl, by rw [← line_eq]; exact hz, k _ _ _ Ext.refl rH (by simp only [RD])⟩
    · cases e
  · rename_i xs ys
    split at e
    · rename_i hz
      cases e
      simp only [RD] at ra rb
      obtain ⟨l, vs, rfl, h1, h2⟩ := ra
      obtain ⟨m, ws, rfl, h3, h4⟩ := rb
      refine op_catA pins s σ H _ _ v u Q I rx ry ⟨l, m, vs, ws, rfl, rfl, hK ▸ h1.sq, hK ▸ h3.sq, ?_, fun z => ?_, fun z z2 => ?_, fun z z2 p hp => ?_⟩
      · rw [← h2.len, ← h4.len, ← line_eq]; exact hz
      · have : xs = [] := by
          have := h2.len
          rw [z] at this
          exact List.eq_nil_of_length_eq_zero this
        subst this
        refine k _ _ _ Ext.refl rH ?_
        simp only [RD, List.nil_append]
        exact ⟨m, ws, rfl, h3, h4⟩
      · have : ys = [] := by
          have := h4.len
          rw [z2] at this
          exact List.eq_nil_of_length_eq_zero this
        subst this
        refine k _ _ _ Ext.refl rH ?_
        simp only [RD, List.append_nil]
        exact ⟨l, vs, rfl, h1, h2⟩
      · obtain ⟨e1, e2, e3⟩ := new_tup rH hp (h2.append h4)
        exact k _ _ _ e1 e2 e3
    · cases e
  · exact lists e
theorem bin_mul : OpR X (binaryOp .Mult) (rC R mulF) := by
  intro pins s σ H x y v u Q I rx ry ⟨ρ, φ, h, a, b, d, rH, ra, rb, e, k⟩
  unfold mulF at e
  split at e
  · split at e
    · rename_i hz
      cases e
      simp only [RD] at ra rb
      subst ra rb
      obtain ⟨t, rfl⟩ := rx
      obtain ⟨t', rfl⟩ := ry
      exact mul_int ⟨.int _, H, I.tok _, ⟨_, rfl⟩, k _ _ _ Ext.refl rH (by simp only [RD])⟩ (mulOk_ok hz)
    · cases e
  · rename_i xs n
    split at e
    · rename_i hz
      cases e
      simp only [RD] at ra rb
      obtain ⟨l, vs, rfl, h1, h2⟩ := ra
      subst rb
      have hl := h2.len
      refine op_repA pins s σ H _ _ v u Q I rx ry ⟨l, n, vs, rfl, rfl, hK ▸ h1.sq, hz.1, hz.2.1, ?_, fun z => ?_, fun _ p hp => ?_⟩
      · rw [← hl, ← line_eq]; exact hz.2.2
      · have e2 : (List.replicate n.toNat xs).flatten = xs := by
          rcases z with z | z
          · have : xs = [] := by rw [z] at hl; exact List.eq_nil_of_length_eq_zero hl
            subst this
            simp
          · subst z
            simp
        rw [e2] at k
        refine k _ _ _ Ext.refl rH ?_
        simp only [RD]
        exact ⟨l, vs, rfl, h1, h2⟩
      · obtain ⟨e1, e2, e3⟩ := new_tup rH hp (h2.rep n.toNat)
        exact k _ _ _ e1 e2 e3
    · cases e
  · rename_i n _ _
    unfold mulL at e
    split at e
    · rename_i xs ea
      split at e
      · rename_i hz
        cases e
        obtain ⟨l, vs, rfl, h1, h2⟩ := ra.der_lst rH ea
        simp only [RD] at rb
        subst rb
        refine op_rep pins s σ H _ _ v u Q I rx ry ⟨l, n, vs, rfl, rfl, h1, hz.1, hz.2.1, ?_, fun p hp => ?_⟩
        · rw [← h2.len, ← line_eq]; exact hz.2.2
        · obtain ⟨e1, e2, e3⟩ := new_lst rH hp (h2.rep n.toNat)
          exact k _ _ _ e1 e2 e3
      · cases e
    · cases e
  · cases e
omit hK in
theorem bin_int {op : Operator} {f : Int → Int → Option Int} {C : Int → Int → Prop} {g : Int → Int → Int} (ho : OpR X (binaryOp op) (rI C fun i j => .int (g i j))) (hf : ∀ i j k, f i j = some k → C i j ∧ k = g i j) :
    OpR X (binaryOp op) (rC R fun _ => int2 f) := by
  intro pins s σ H x y v u Q I rx ry ⟨ρ, φ, h, a, b, d, rH, ra, rb, e, k⟩
  have e' : int2 f a b = some d := e
  unfold int2 at e'
  split at e'
  · rename_i i j
    cases q : f i j with
    | none => rw [q] at e'; cases e'
    | some n =>
      rw [q] at e'
      cases e'
      obtain ⟨c, rfl⟩ := hf i j n q
      simp only [RD] at ra rb
      subst ra rb
      exact ho pins s σ H _ _ v u Q I rx ry ⟨i, j, rfl, rfl, c, k _ _ _ Ext.refl rH (by simp only [RD])⟩
  · cases e'
theorem binR (op : Operator) : OpR X (binaryOp op) (rC R fun h => binF h op) := by
  cases op with
  | Add => exact bin_add hK
  | Mult => exact bin_mul hK
  | Sub => exact bin_int (C := fun _ _ => True) (g := fun i j => i - j) (opI fun i j t u s Q E _ q => sub_int q) (fun i j k q => by cases q; exact ⟨trivial, rfl⟩)
  | FloorDiv =>
    refine bin_int op_fdivZ (fun i j k q => ?_)
    split at q
    · rename_i hz
      cases q
      unfold divOk at hz
      simp only [Bool.and_eq_true, decide_eq_true_eq] at hz
      exact ⟨hz, rfl⟩
    · cases q
  | Mod =>
    refine bin_int op_modN (fun i j k q => ?_)
    split at q
    · cases q
    · rename_i hz
      cases q; exact ⟨hz, rfl⟩
  | Pow =>
    refine bin_int op_pow (fun i j k q => ?_)
    split at q
    · rename_i hz; cases q; exact ⟨hz, rfl⟩
    · cases q
  | LShift =>
    refine bin_int op_shlW (fun i j k q => ?_)
    split at q
    · rename_i hz; cases q
      refine ⟨⟨hz.1, ?_⟩, rfl⟩
      have := hz.2
      unfold bitsI at this
      have e : (2 : Int) ^ 27 = 134217728 := by decide
      rw [e]; exact this
    · cases q
  | RShift =>
    refine bin_int op_shr (fun i j k q => ?_)
    split at q
    · rename_i hz; cases q; exact ⟨hz, rfl⟩
    · cases q
  | BitAnd => exact bin_int (C := fun _ _ => True) (g := fun i j => Builtin.bitAnd i j) (fun pins s σ H x y v u Q I rx ry ⟨i, j, e1, e2, _, q⟩ => op_and pins s σ H x y v u Q I rx ry ⟨i, j, e1, e2, q⟩) (fun i j k q => by cases q; exact ⟨trivial, rfl⟩)
  | _ => exact fun pins s σ H x y v u Q I rx ry ⟨ρ, φ, h, a, b, d, rH, ra, rb, e, k⟩ => by cases e
end
end Cl

namespace Cl
open PySem PySem.Spec PyProof.Rows L2
/-! ## dicts -/
section
variable {R : RC} {ρ φ : List Addr} {H : Hp} {h : Hc}
theorem keyD_rd {d : D} {k : Key} {v : V} (e : keyD d = some k) (r : RD R ρ φ H d v) : v = kV k := by
  cases d with
  | int i => simp only [keyD, Option.some.injEq] at e; subst e; simp only [RD] at r; exact r
  | str x => simp only [keyD, Option.some.injEq] at e; subst e; simp only [RD] at r; exact r
  | _ => simp [keyD] at e
theorem keysD_rd : ∀ {ds : List D} {ks : List Key} {vs : List V}, keysD ds = some ks → RDs R ρ φ H ds vs → vs = ks.map kV
  | [], ks, vs, e, r => by
    simp only [keysD, Option.some.injEq] at e; subst e
    simp only [RDs] at r; exact r
  | d :: ds, ks, vs, e, r => by
    simp only [keysD] at e
    simp only [RDs] at r
    obtain ⟨v, vs', rfl, h1, h2⟩ := r
    split at e
    · rename_i k ks' e1 e2
      cases e
      rw [List.map_cons, ← keyD_rd e1 h1, ← keysD_rd e2 h2]
    · cases e
theorem krd_val {κ : Type} [DecidableEq κ] {kvs : List (κ × D)} {kws : List (κ × V)} (r : KRD R ρ φ H kvs kws) (k : κ) :
    (valD kvs k = none ∧ valV kws k = none) ∨ ∃ d v, valD kvs k = some d ∧ valV kws k = some v ∧ RD R ρ φ H d v := by
  obtain ⟨h1, h2⟩ := r
  induction kvs generalizing kws with
  | nil =>
    cases kws with
    | nil => exact .inl ⟨rfl, rfl⟩
    | cons b bs => simp at h1
  | cons a as ih =>
    cases kws with
    | nil => simp at h1
    | cons b bs =>
      simp only [List.map_cons, List.cons.injEq] at h1
      simp only [List.map_cons, RDs] at h2
      obtain ⟨v, vs, e, r1, r2⟩ := h2
      simp only [List.cons.injEq] at e
      obtain ⟨rfl, rfl⟩ := e
      by_cases hk : a.1 = k
      · refine .inr ⟨a.2, b.2, ?_, ?_, r1⟩
        · simp [valD, hk]
        · rw [valV_pos (by rw [← h1.1]; exact hk)]
      · have e1 : valD (a :: as) k = valD as k := by simp [valD, hk]
        have e2 : valV (b :: bs) k = valV bs k := valV_neg (by rw [← h1.1]; exact hk)
        rw [e1, e2]
        exact ih h1.2 r2
theorem krd_put {κ : Type} [DecidableEq κ] {kvs : List (κ × D)} {kws : List (κ × V)} (r : KRD R ρ φ H kvs kws) (k : κ) {d : D} {v : V} (q : RD R ρ φ H d v) : KRD R ρ φ H (putD kvs k d) (putK kws k v) := by
  have anyE : (kvs.any fun kv => decide (kv.1 = k)) = (kws.any fun kv => decide (kv.1 = k)) := by
    have h1 := r.1
    clear r
    induction kvs generalizing kws with
    | nil => cases kws with
      | nil => rfl
      | cons b bs => simp at h1
    | cons a as ih => cases kws with
      | nil => simp at h1
      | cons b bs =>
        simp only [List.map_cons, List.cons.injEq] at h1
        rw [List.any_cons, List.any_cons, ih h1.2, h1.1]
  unfold putD putK
  rw [anyE]
  split
  · obtain ⟨h1, h2⟩ := r
    clear anyE
    induction kvs generalizing kws with
    | nil => cases kws with
      | nil => exact ⟨rfl, h2⟩
      | cons b bs => simp at h1
    | cons a as ih => cases kws with
      | nil => simp at h1
      | cons b bs =>
        simp only [List.map_cons, List.cons.injEq] at h1
        simp only [List.map_cons, RDs] at h2
        obtain ⟨w, vs, e, r1, r2⟩ := h2
        simp only [List.cons.injEq] at e
        obtain ⟨rfl, rfl⟩ := e
        have ih' : KRD R ρ φ H (List.map (fun kv => if kv.1 = k then (kv.1, d) else kv) as) (List.map (fun kv => if kv.1 = k then (kv.1, v) else kv) bs) := by
          by_cases hany : (bs.any fun kv => decide (kv.1 = k)) = true
          · exact ih hany h1.2 r2
          · -- nothing to change behind
            have ne : ∀ x ∈ bs, ¬ x.1 = k := fun x hx e => hany (List.any_eq_true.mpr ⟨x, hx, by simp [e]⟩)
            have ne2 : ∀ x ∈ as, ¬ x.1 = k := fun x hx e => by
              have : x.1 ∈ as.map (·.1) := List.mem_map.mpr ⟨x, hx, rfl⟩
              rw [h1.2] at this
              obtain ⟨y, hy, ey⟩ := List.mem_map.mp this
              exact ne y hy (ey.trans e)
            have m1 : List.map (fun kv => if kv.1 = k then (kv.1, d) else kv) as = as := by
              conv => rhs; rw [← List.map_id as]
              exact List.map_congr_left fun x hx => by rw [if_neg (ne2 x hx)]; rfl
            have m2 : List.map (fun kv => if kv.1 = k then (kv.1, v) else kv) bs = bs := by
              conv => rhs; rw [← List.map_id bs]
              exact List.map_congr_left fun x hx => by rw [if_neg (ne x hx)]; rfl
            rw [m1, m2]
            exact ⟨h1.2, r2⟩
        obtain ⟨i1, i2⟩ := ih'
        by_cases hk : b.1 = k
        · have hk' : a.1 = k := by rw [h1.1]; exact hk
          refine ⟨?_, ?_⟩
          · simp only [List.map_cons, if_pos hk, if_pos hk', h1.1, i1]
          · simp only [List.map_cons, if_pos hk, if_pos hk']
            exact RDs.cons q i2
        · have hk' : ¬ a.1 = k := by rw [h1.1]; exact hk
          refine ⟨?_, ?_⟩
          · simp only [List.map_cons, if_neg hk, if_neg hk', h1.1, i1]
          · simp only [List.map_cons, if_neg hk, if_neg hk']
            exact RDs.cons r1 i2
  · obtain ⟨h1, h2⟩ := r
    refine ⟨by simp [h1], ?_⟩
    rw [List.map_append, List.map_append]
    exact h2.append (RDs.one q)
theorem look_get (r : RelH R ρ φ H h) {d : D} {y : V} (q : RD R ρ φ H d y) {n : Nat} {l : Addr} (el : ρ[n]? = some l) {o : Option D} (e : lookD h n d = some o) :
    ∃ o', DGet H l y o' ∧ ((o = none ∧ o' = none) ∨ ∃ d' v, o = some d' ∧ o' = some v ∧ RD R ρ φ H d' v) := by
  unfold lookD at e
  split at e
  · rename_i kvs hc
    obtain ⟨k, hk, rfl⟩ := Option.map_eq_some_iff.mp e
    obtain ⟨kws, h1, h2⟩ := r.cells n l _ el hc
    have := keyD_rd hk q
    subst this
    exact ⟨_, DGet.k h1, krd_val h2 k⟩
  · rename_i kvs hc
    obtain ⟨k, hk, rfl⟩ := Option.map_eq_some_iff.mp e
    obtain ⟨kws, h1, h2⟩ := r.cells n l _ el hc
    cases d with
    | tup ds =>
      simp only [RD] at q
      obtain ⟨a, vs, rfl, h3, h4⟩ := q
      have := keysD_rd (show keysD ds = some k from hk) h4
      subst this
      exact ⟨_, DGet.t h1 h3.1, krd_val h2 k⟩
    | _ => simp [tkeyD] at hk
  · cases e
end
section
variable {X : Cx} {R : RC} (hK : R.K = X.K)
/-- the reading of a comparison -/
def rB (R : RC) (f : Hc → D → D → Option Bool) : R2 := fun x y H Q => ∃ ρ φ h a b d, RelH R ρ φ H h ∧ RD R ρ φ H a x ∧ RD R ρ φ H b y ∧ f h a b = some d ∧ Q (.bl d) H
theorem der_str {h : Hc} {b : D} {t : Str} (e : der h b = .str t) : b = .str t := by
  cases b with
  | ref n =>
    exfalso
    cases hc : h[n]? with
    | none => simp [der, hc] at e
    | some c => cases c <;> simp [der, hc] at e
  | _ => simpa [der] using e
theorem der_ref {h : Hc} {b : D} {n : Nat} (e : der h b = .ref n) : b = .ref n := by
  cases b with
  | ref m =>
    cases hc : h[m]? with
    | none => simpa [der, hc] using e
    | some c => cases c <;> simp [der, hc] at e <;> rw [e]
  | _ => simp [der] at e
theorem rB_of {X : Cx} {R : RC} {op : CmpOp} {f g : Hc → D → D → Option Bool} (k : OpR X (compareOp op) (rB R f)) (e : ∀ h a b, f h a b = g h a b) : OpR X (compareOp op) (rB R g) := by
  have : f = g := by funext h a b; exact e h a b
  rw [← this]; exact k
theorem any_toPys (ys : List D) (e : PyData) : (D.toPys ys).any (fun z => PyData.eqv z e) = ys.any fun z => PyData.eqv z.toPy e := by
  induction ys with
  | nil => simp [D.toPys]
  | cons z zs ih => simp only [D.toPys, List.any_cons, ih]
theorem depth_ok {d : D} {A : Around} {e : D} (hu : A.units + 100 < cLine) (k : d.okD = true) : A.units + min d.toPy.depth e.toPy.depth < cLine := by
  have h1 := SeqAt.depth_of_shaped (okD_shaped k)
  have h2 : min d.toPy.depth e.toPy.depth ≤ d.toPy.depth := Nat.min_le_left _ _
  omega
include hK
theorem cmp_eq (hu : X.A.units + 100 < cLine) : OpR X (compareOp .Eq) (rB R eqF) := by
  intro pins s σ H x y v u Q I rx ry ⟨ρ, φ, h, a, b, d, rH, ra, rb, e, k⟩
  unfold eqF at e
  split at e
  · cases e
    simp only [RD] at ra rb
    subst ra rb
    refine op_eq pins s σ H _ _ v u Q I rx ry ⟨rfl, ?_⟩
    rename_i i j
    have : decide (V.int i = V.int j) = decide (i = j) := by simp
    rw [this]; exact k
  · cases e
    simp only [RD] at ra rb
    subst ra rb
    exact op_eq pins s σ H _ _ v u Q I rx ry ⟨rfl, by simpa using k⟩
  · cases e
    simp only [RD] at ra rb
    subst ra rb
    exact op_eq pins s σ H _ _ v u Q I rx ry ⟨rfl, by simpa using k⟩
  · unfold eqG at e
    split at e
    · rename_i hz
      cases e
      rw [Bool.and_eq_true] at hz
      exact op_eqD (by omega) pins s σ H _ _ v u Q I rx ry ⟨_, _, hK ▸ ra.der_dp rH (okD_plain hz.1), hK ▸ rb.der_dp rH (okD_plain hz.2), okD_shaped hz.1, okD_shaped hz.2, k⟩
    · cases e
theorem cmp_ne (hu : X.A.units + 100 < cLine) : OpR X (compareOp .NotEq) (rB R fun h a b => (eqF h a b).map (!·)) := by
  intro pins s σ H x y v u Q I rx ry ⟨ρ, φ, h, a, b, d, rH, ra, rb, e0, k⟩
  have e1 : (eqF h a b).map (!·) = some d := e0
  obtain ⟨c, e, hc⟩ := Option.map_eq_some_iff.mp e1
  subst hc
  unfold eqF at e
  split at e
  · cases e
    simp only [RD] at ra rb
    subst ra rb
    refine op_ne pins s σ H _ _ v u Q I rx ry ⟨rfl, ?_⟩
    rename_i i j
    have : decide (V.int i = V.int j) = decide (i = j) := by simp
    rw [this]; exact k
  · cases e
    simp only [RD] at ra rb
    subst ra rb
    exact op_ne pins s σ H _ _ v u Q I rx ry ⟨rfl, by simpa using k⟩
  · cases e
    simp only [RD] at ra rb
    subst ra rb
    exact op_ne pins s σ H _ _ v u Q I rx ry ⟨rfl, by simpa using k⟩
  · unfold eqG at e
    split at e
    · rename_i hz
      cases e
      rw [Bool.and_eq_true] at hz
      exact op_neD (by omega) pins s σ H _ _ v u Q I rx ry ⟨_, _, hK ▸ ra.der_dp rH (okD_plain hz.1), hK ▸ rb.der_dp rH (okD_plain hz.2), okD_shaped hz.1, okD_shaped hz.2, k⟩
    · cases e
/-- the four orders: by the rule for ints and the rule for data -/
theorem cmp_ord {op : CmpOp} {g : Bool → Bool} {swap : Bool} (hu : X.A.units + 100 < cLine)
    (hi : OpR X (compareOp op) (rI0 fun i j => .bl (g (decide ((if swap then j else i) < (if swap then i else j))))))
    (hd : ∀ (s : Shared) (a b : Value) (da db : PyData) (as bs : List Addr) (E : Value → Shared → Prop) (Q : Value → Shared → Prop), Reads s.heap a da as → Reads s.heap b db bs → PySem.W.alike da db = true → PySem.W.alike db da = true → da ≠ .none → db ≠ .none → X.A.units + min da.depth db.depth < cLine →
      Q (.bool (g (PySem.W.dataLt (if swap then db else da) (if swap then da else db)))) s → wpAny (model X.prog X.w) X.A (compareOp op a b) Q E s) :
    OpR X (compareOp op) (rB R fun h a b => (ltF h (if swap then b else a) (if swap then a else b)).map g) := by
  intro pins s σ H x y v u Q I rx ry ⟨ρ, φ, h, a, b, d, rH, ra, rb, e0, k⟩
  have e1 : (ltF h (if swap then b else a) (if swap then a else b)).map g = some d := e0
  obtain ⟨c, e, hc⟩ := Option.map_eq_some_iff.mp e1
  subst hc
  have hints : ∀ i j, a = .int i → b = .int j → c = decide ((if swap then j else i) < (if swap then i else j)) → wpAny (model X.prog X.w) X.A (compareOp op v u) (EP X pins σ Q) X.xe s := by
    intro i j ea eb ec
    subst ea eb ec
    simp only [RD] at ra rb
    subst ra rb
    exact hi pins s σ H _ _ v u Q I rx ry ⟨i, j, rfl, rfl, k⟩
  have data : (der h a).okD = true → (der h b).okD = true → PySem.W.alike (der h a).toPy (der h b).toPy = true → PySem.W.alike (der h b).toPy (der h a).toPy = true → (der h a).toPy ≠ .none → (der h b).toPy ≠ .none →
      c = PySem.W.dataLt (if swap then (der h b).toPy else (der h a).toPy) (if swap then (der h a).toPy else (der h b).toPy) → wpAny (model X.prog X.w) X.A (compareOp op v u) (EP X pins σ Q) X.xe s := by
    intro ka kb al al2 na nb ec
    obtain ⟨as, r1⟩ := Dp.reads I _ x v (hK ▸ ra.der_dp rH (okD_plain ka)) rx
    obtain ⟨bs, r2⟩ := Dp.reads I _ y u (hK ▸ rb.der_dp rH (okD_plain kb)) ry
    exact hd s v u _ _ as bs _ _ r1 r2 al al2 na nb (depth_ok hu ka) ⟨.bl _, H, I, rfl, by rw [← ec]; exact k⟩
  have nn : ∀ d : D, d.okD = true → (!d.isN) = true → d.toPy ≠ .none := fun d hd hn => by
    cases d with
    | non => simp [D.isN] at hn
    | ref n => simp [D.okD, D.plain] at hd
    | fn n => simp [D.okD, D.plain] at hd
    | _ => simp [D.toPy]
  have al_nn : ∀ p q : PyData, PySem.W.alike p q = true → p ≠ .none → q ≠ .none := fun p q al hp hq => by
    subst hq
    cases p <;> simp [PySem.W.alike] at al hp
  cases swap with
  | false =>
    simp only [Bool.false_eq_true, if_false] at e hints data
    unfold ltF at e
    split at e
    · cases e; exact hints _ _ rfl rfl rfl
    · unfold ltG at e
      split at e
      · rename_i hz
        cases e
        simp only [Bool.and_eq_true] at hz
        obtain ⟨⟨⟨ka, kb⟩, al⟩, hn⟩ := hz
        have na := nn _ ka hn
        exact data ka kb al (by rw [PySem.W.alike_comm]; exact al) na (al_nn _ _ al na) rfl
      · cases e
  | true =>
    simp only [if_true] at e hints data
    unfold ltF at e
    split at e
    · cases e; exact hints _ _ rfl rfl rfl
    · unfold ltG at e
      split at e
      · rename_i hz
        cases e
        simp only [Bool.and_eq_true] at hz
        obtain ⟨⟨⟨kb, ka⟩, al⟩, hn⟩ := hz
        have nb := nn _ kb hn
        exact data ka kb (by rw [PySem.W.alike_comm]; exact al) al (al_nn _ _ al nb) nb rfl
      · cases e
theorem cmp_in (neg : Bool) (hu : X.A.units + 100 < cLine) : OpR X (compareOp (if neg then .NotIn else .In)) (rB R fun h a b => (inF h a b).map fun c => if neg then !c else c) := by
  intro pins s σ H x y v u Q I rx ry ⟨ρ, φ, h, a, b, d, rH, ra, rb, e0, k⟩
  have e1 : (inF h a b).map (fun c => if neg then !c else c) = some d := e0
  obtain ⟨c, e, hc⟩ := Option.map_eq_some_iff.mp e1
  subst hc
  have fin : ∀ op, op = (if neg then CmpOp.NotIn else CmpOp.In) → (neg = false → wpAny (model X.prog X.w) X.A (compareOp .In v u) (EP X pins σ Q) X.xe s) → (neg = true → wpAny (model X.prog X.w) X.A (compareOp .NotIn v u) (EP X pins σ Q) X.xe s) → wpAny (model X.prog X.w) X.A (compareOp (if neg then .NotIn else .In) v u) (EP X pins σ Q) X.xe s := by
    intro op _ h1 h2
    cases neg with
    | false => exact h1 rfl
    | true => exact h2 rfl
  have data : ∀ ys t, der h b = t → (t = .lst ys ∨ t = .tup ys) → inData h a t ys = some c → wpAny (model X.prog X.w) X.A (compareOp (if neg then .NotIn else .In) v u) (EP X pins σ Q) X.xe s := by
    intro ys t et ht ec
    unfold inData at ec
    split at ec
    · rename_i hz
      cases ec
      rw [Bool.and_eq_true] at hz
      have kb : (der h b).okD = true := by rw [et]; exact hz.2
      obtain ⟨as, r1⟩ := Dp.reads I _ x v (hK ▸ ra.der_dp rH (okD_plain hz.1)) rx
      obtain ⟨bs, r2⟩ := Dp.reads I _ y u (hK ▸ rb.der_dp rH (okD_plain kb)) ry
      have sh := okD_shaped kb
      have hd := SeqAt.canLay_of_shaped (okD_shaped hz.1)
      have hdd := SeqAt.depth_of_shaped (okD_shaped hz.1)
      have anyE := any_toPys ys (der h a).toPy
      rw [et] at r2 sh
      rw [← anyE] at k
      rcases ht with rfl | rfl
      · simp only [D.toPy] at r2 sh
        have hx : PyData.canLayAll0 (D.toPys ys) = true := SeqAt.canLay_of_shaped sh
        have hr : X.A.units + 1 + min (PyData.depthAll (D.toPys ys)) (der h a).toPy.depth < cLine := by
          have := Nat.min_le_right (PyData.depthAll (D.toPys ys)) (der h a).toPy.depth
          omega
        exact fin _ rfl (fun z => by subst z; exact SeqAt.in_list_reads r2 r1 hx hd hr ⟨.bl _, H, I, rfl, by simpa using k⟩)
          (fun z => by subst z; exact SeqAt.notIn_list_reads r2 r1 hx hd hr ⟨.bl _, H, I, rfl, by simpa using k⟩)
      · simp only [D.toPy] at r2 sh
        have hx : PyData.canLayAll0 (D.toPys ys) = true := SeqAt.canLay_of_shaped sh
        have hr : X.A.units + 1 + min (PyData.depthAll (D.toPys ys)) (der h a).toPy.depth < cLine := by
          have := Nat.min_le_right (PyData.depthAll (D.toPys ys)) (der h a).toPy.depth
          omega
        exact fin _ rfl (fun z => by subst z; exact SeqAt.in_tuple_reads r2 r1 hx hd hr ⟨.bl _, H, I, rfl, by simpa using k⟩)
          (fun z => by subst z; exact SeqAt.notIn_tuple_reads r2 r1 hx hd hr ⟨.bl _, H, I, rfl, by simpa using k⟩)
    · cases ec
  unfold inF at e
  split at e
  · rename_i ys et
    exact data ys _ et (.inl rfl) e
  · rename_i ys et
    exact data ys _ et (.inr rfl) e
  · rename_i t et
    split at e
    · cases e
      simp only [RD] at ra
      subst ra
      have hb : b = .str t := der_str et
      subst hb
      simp only [RD] at rb
      subst rb
      exact fin _ rfl (fun z => by subst z; exact op_in_str pins s σ H _ _ v u Q I rx ry ⟨_, _, rfl, rfl, by simpa using k⟩)
        (fun z => by subst z; exact op_notin_str pins s σ H _ _ v u Q I rx ry ⟨_, _, rfl, rfl, by simpa using k⟩)
    · cases e
  · rename_i n et
    obtain ⟨o, e2, rfl⟩ := Option.map_eq_some_iff.mp e
    have hb : b = .ref n := der_ref et
    subst hb
    simp only [RD] at rb
    obtain ⟨l, el, rfl⟩ := rb
    obtain ⟨o', g, ho⟩ := look_get rH ra el e2
    have ho : o'.isSome = o.isSome := by
      rcases ho with ⟨rfl, rfl⟩ | ⟨_, _, rfl, rfl, _⟩ <;> rfl
    cases ry
    rw [← ho] at k
    exact fin _ rfl (fun z => by subst z; exact d_in (by omega) I g rx fun s' I' => ⟨.bl _, H, I', rfl, by simpa using k⟩)
      (fun z => by subst z; exact d_notIn (by omega) I g rx fun s' I' => ⟨.bl _, H, I', rfl, by simpa using k⟩)
  · cases e
theorem cmp_is (neg : Bool) : OpR X (compareOp (if neg then .IsNot else .Is)) (rB R fun h a b => (isNon a b).map fun c => if neg then !c else c) := by
  intro pins s σ H x y v u Q I rx ry ⟨ρ, φ, h, a, b, d, rH, ra, rb, e0, k⟩
  have e1 : (isNon a b).map (fun c => if neg then !c else c) = some d := e0
  obtain ⟨c, e, hc⟩ := Option.map_eq_some_iff.mp e1
  subst hc
  unfold isNon at e
  split at e
  · cases e
    have eb : y = .non := by simpa only [RD] using rb
    have ex : decide (x = .non) = a.isN := by
      cases a with
      | non => simp only [RD] at ra; subst ra; rfl
      | tup ds => simp only [RD] at ra; obtain ⟨_, _, rfl, _⟩ := ra; rfl
      | lst ds => simp only [RD] at ra; obtain ⟨_, _, rfl, _⟩ := ra; rfl
      | ref n => simp only [RD] at ra; obtain ⟨_, _, rfl⟩ := ra; rfl
      | _ => simp only [RD] at ra; subst ra; rfl
    cases neg with
    | false => exact op_isN pins s σ H _ _ v u Q I rx ry ⟨eb, by rw [ex]; exact k⟩
    | true => exact op_notN pins s σ H _ _ v u Q I rx ry ⟨eb, by rw [ex]; exact k⟩
  · cases e
theorem cmpR (op : CmpOp) (hu : X.A.units + 100 < cLine) : OpR X (compareOp op) (rB R fun h => cmpF h op) := by
  cases op with
  | Eq => exact cmp_eq hK hu
  | NotEq => exact cmp_ne hK hu
  | Lt =>
    have := cmp_ord (R := R) (op := .Lt) (g := id) (swap := false) hK hu (by simpa using op_lt) (fun s a b da db as bs E Q r1 r2 al _ n1 _ hd q => by simpa using PySem.W.lt_data r1 r2 al n1 hd (by simpa using q))
    exact rB_of this fun h a b => by simp [cmpF]
  | Gt =>
    have := cmp_ord (R := R) (op := .Gt) (g := id) (swap := true) hK hu (by simpa using op_gt) (fun s a b da db as bs E Q r1 r2 al _ n1 _ hd q => by simpa using PySem.W.gt_data r1 r2 al n1 hd (by simpa using q))
    exact rB_of this fun h a b => by simp [cmpF]
  | LtE =>
    have := cmp_ord (R := R) (op := .LtE) (g := (!·)) (swap := true) hK hu (by
      have := @op_le X
      have e : (fun i j : Int => V.bl (decide (i ≤ j))) = fun i j => V.bl (!decide (j < i)) := by
        funext i j
        congr 1
        by_cases h : i ≤ j
        · rw [decide_eq_true h, decide_eq_false (by omega)]; rfl
        · rw [decide_eq_false h, decide_eq_true (by omega)]; rfl
      rw [e] at this
      simpa using this) (fun s a b da db as bs E Q r1 r2 al _ n1 _ hd q => by simpa using PySem.W.le_data r1 r2 al n1 hd (by simpa using q))
    exact rB_of this fun h a b => by simp [cmpF]
  | GtE =>
    have := cmp_ord (R := R) (op := .GtE) (g := (!·)) (swap := false) hK hu (by
      have := @op_ge X
      have e : (fun i j : Int => V.bl (decide (j ≤ i))) = fun i j => V.bl (!decide (i < j)) := by
        funext i j
        congr 1
        by_cases h : j ≤ i
        · rw [decide_eq_true h, decide_eq_false (by omega)]; rfl
        · rw [decide_eq_false h, decide_eq_true (by omega)]; rfl
      rw [e] at this
      simpa using this) (fun s a b da db as bs E Q r1 r2 al _ n1 _ hd q => by simpa using PySem.W.ge_data r1 r2 al n1 hd (by simpa using q))
    exact rB_of this fun h a b => by simp [cmpF]
  | In => exact rB_of (cmp_in (R := R) hK false hu) fun h a b => by simp [cmpF]
  | NotIn => exact rB_of (cmp_in (R := R) hK true hu) fun h a b => by simp [cmpF]
  | Is => exact rB_of (cmp_is (R := R) hK false) fun h a b => by simp [cmpF]
  | IsNot => exact rB_of (cmp_is (R := R) hK true) fun h a b => by simp [cmpF]
end
end Cl

namespace Cl.So
open PySem PySem.Calls PyProof.Rows PySem.W
section
variable {prog : Program} {w : World} {A : Around} {E : Value → Shared → Prop} {s : Shared} {β : Type} {vs : List Value} {bs : List β} {enc : β → PyData} {R : Value → β → Prop}
/-- sorted(x), x a list or a tuple -/
theorem sorted_any {l : Addr} {T : String} {o : Obj} {n : Nat} {Q : Value → Shared → Prop} (hT : T = "list" ∨ T = "tuple") (ho : s.heap.get? l = some o) (hc : o.cls = .type T) (hd : o.data = .seq vs.toArray n)
    (e : EachIs R vs bs) (er : EachIs (fun v b => ∃ as, Reads s.heap v (enc b) as) vs bs) (hal : AllAlike (bs.map enc)) (hk : Sortable (bs.map enc)) (hL : bs.length ≤ sizeLine) (hu : ∀ b, b ∈ bs → A.units + 2 + (enc b).depth < cLine)
    (h : ∀ (h1 h' : Heap) (out : List Value) (c : Nat), (∀ b o', s.heap.get? b = some o' → h1.get? b = some o') → (∀ b o', h1.get? b = some o' → h'.get? b = some o') → h'.get? h1.objs.size = some (seqObj "list" out.toArray c) → out.length = bs.length → EachIs R out (bs.mergeSort (dataLe false enc)) → Q (.ref h1.objs.size) { s with heap := h' }) :
    wpAny (model prog w) A (call (.builtin "sorted") [.ref l]) Q E s := by
  have hlen := e.length
  refine call_function_entry_kw kind_sorted plain_sorted entry_sorted (args_sorted1 _) ?_
  unfold Builtin.«sorted»
  refine wpAny_bind (m := checkCount "sorted" 1 1 _) (wpAny_pure ?_)
  refine wpAny_bind (wpAny_collect_seq l hT ho hc hd (fun h1 k1 => ?_) (by rw [List.size_toArray, hlen]; exact hL))
  refine wpAny_bind (wpAny_newList ?_ (by show vs.toArray.toList.length ≤ _; rw [List.toList_toArray, hlen]; exact hL))
  have hat : (h1.push (seqObj "list" vs.toArray 0)).get? h1.objs.size = some (seqObj "list" vs.toArray 0) := Heap.get?_push_size _ rfl
  have k2 : ∀ b o', s.heap.get? b = some o' → (h1.push (seqObj "list" vs.toArray 0)).get? b = some o' := fun b o' q => Heap.get?_push_of_some _ (k1 b o' q)
  have ks : ∀ b o', s.heap.get? b = some o' → (sortingHeap (h1.push (seqObj "list" vs.toArray 0)) h1.objs.size vs).get? b = some o' := fun b o' q => sortingHeap_old (Nat.ne_of_lt (Heap.lt_size (k1 b o' q))) (k2 b o' q)
  have er' : EachIs (fun v b => ∃ as, Reads (sortingHeap (h1.push (seqObj "list" vs.toArray 0)) h1.objs.size vs) v (enc b) as) vs bs := er.mono fun _ _ ⟨as, r⟩ => ⟨as, PyProof.Rows.Reads.keeps ks r⟩
  show wpAny _ _ _ _ _ { s with heap := h1.push (seqObj "list" vs.toArray 0) }
  refine wpAny_bind (wpAny_holding (wpAny_call_entry_kw slot_list_sort ⟨_, hat, rfl⟩ entry_list_sort ?body (args_list_sort _)))
  case body =>
    show wpAny (model prog w) A.in1.in1 (Builtin.«list.sort» ⟨[.ref h1.objs.size], []⟩) _ _ _
    refine list_sort_vals (κ := dataKind (sortingHeap (h1.push (seqObj "list" vs.toArray 0)) h1.objs.size vs) (bs.map enc)) (s := { s with heap := h1.push (seqObj "list" vs.toArray 0) }) hat (SortsAt.data (s := { s with heap := sortingHeap (h1.push (seqObj "list" vs.toArray 0)) h1.objs.size vs }) (each_map (R := fun v d => ∃ as, Reads (sortingHeap (h1.push (seqObj "list" vs.toArray 0)) h1.objs.size vs) v d as) enc er') hal hk (bound_map hu)) (by rw [hlen]; exact hL) ?_
    obtain ⟨c, hc'⟩ : ∃ c, (sortedHeap (h1.push (seqObj "list" vs.toArray 0)) h1.objs.size vs (sortVals (dataKind (sortingHeap (h1.push (seqObj "list" vs.toArray 0)) h1.objs.size vs) (bs.map enc)) false vs vs).toArray).get? h1.objs.size = some (seqObj "list" (sortVals (dataKind (sortingHeap (h1.push (seqObj "list" vs.toArray 0)) h1.objs.size vs) (bs.map enc)) false vs vs).toArray c) := sortedHeap_at hat
    refine ⟨_, rfl, wpAny_pure ⟨_, rfl, h h1 _ _ c k1 (fun b o' q => ?_) hc' (by rw [sortVals_length false rfl]; exact hlen) (sortVals_data false e er' hal)⟩⟩
    rw [sortedHeap_old (Nat.ne_of_lt (Heap.lt_size q)) (by rw [Heap.size_push]; exact Nat.lt_succ_of_lt (Heap.lt_size q))]
    exact Heap.get?_push_of_some _ q
end
end Cl.So
namespace Cl
open PySem PySem.Spec PyProof.Rows L2

/-! ## the stable sort -/
section
variable {le : D → D → Bool} (trans : ∀ x y z, le x y = true → le y z = true → le x z = true) (total : ∀ x y, (le x y || le y x) = true)
include trans
theorem insD_filter (z x : D) : ∀ ys, (insD le x ys).filter (PySem.W.Srt.alike le z) = (x :: ys).filter (PySem.W.Srt.alike le z)
  | [] => rfl
  | y :: ys => by
    unfold insD
    split
    · rfl
    · rename_i hn
      rw [List.filter_cons, insD_filter z x ys]
      simp only [List.filter_cons]
      by_cases h1 : PySem.W.Srt.alike le z y = true
      · by_cases h2 : PySem.W.Srt.alike le z x = true
        · exfalso
          unfold PySem.W.Srt.alike at h1 h2
          simp only [Bool.and_eq_true] at h1 h2
          exact hn (trans _ _ _ h2.2 h1.1)
        · rw [if_pos h1, if_neg h2, if_neg h2, if_pos h1]
      · by_cases h2 : PySem.W.Srt.alike le z x = true
        · rw [if_neg h1, if_pos h2, if_pos h2, if_neg h1]
        · rw [if_neg h1, if_neg h2, if_neg h2, if_neg h1]
theorem sortD_filter (z : D) : ∀ xs, (sortD le xs).filter (PySem.W.Srt.alike le z) = xs.filter (PySem.W.Srt.alike le z)
  | [] => rfl
  | x :: xs => by
    unfold sortD
    rw [insD_filter trans]
    simp only [List.filter_cons, sortD_filter z xs]
theorem mem_insD {a x : D} : ∀ {ys}, a ∈ insD le x ys → a = x ∨ a ∈ ys
  | [], h => by simp [insD] at h; exact .inl h
  | y :: ys, h => by
    unfold insD at h
    split at h
    · simpa using h
    · rcases List.mem_cons.mp h with rfl | h
      · exact .inr (by simp)
      · rcases mem_insD h with h | h
        · exact .inl h
        · exact .inr (by simp [h])
include total
theorem insD_pw (x : D) : ∀ ys, ys.Pairwise (fun a b => le a b = true) → (insD le x ys).Pairwise (fun a b => le a b = true)
  | [], _ => by simp [insD]
  | y :: ys, h => by
    unfold insD
    rw [List.pairwise_cons] at h
    split
    · rename_i hy
      rw [List.pairwise_cons, List.pairwise_cons]
      refine ⟨fun b hb => ?_, h⟩
      rcases List.mem_cons.mp hb with rfl | hb
      · exact hy
      · exact trans _ _ _ hy (h.1 b hb)
    · rename_i hy
      rw [List.pairwise_cons]
      refine ⟨fun b hb => ?_, insD_pw x ys h.2⟩
      have hyx : le y x = true := by
        have := total x y
        rw [Bool.or_eq_true] at this
        rcases this with q | q
        · exact absurd q hy
        · exact q
      rcases mem_insD trans hb with rfl | hb
      · exact hyx
      · exact h.1 b hb
theorem sortD_pw : ∀ xs, (sortD le xs).Pairwise (fun a b => le a b = true)
  | [] => by simp [sortD]
  | x :: xs => insD_pw trans total x _ (sortD_pw xs)
theorem sortD_eq (xs : List D) : sortD le xs = xs.mergeSort le :=
  PySem.W.Srt.the le (fun x y z h1 h2 => trans x y z h1 h2) total (sortD_pw trans total xs) fun z => sortD_filter trans z xs
end
theorem leD_is : leD = PySem.W.dataLe false D.toPy := rfl
theorem sortD_leD (xs : List D) : sortD leD xs = xs.mergeSort (PySem.W.dataLe false D.toPy) := by
  have T := PySem.W.sortLe_total (PyProof.Rows.listOrd PyProof.Rows.itemOrd) false fun b : D => PySem.W.keyToks b.toPy
  have t : ∀ x y z, leD x y = true → leD y z = true → leD x z = true := fun x y z h1 h2 => T.trans x y z h1 h2
  have tt : ∀ x y, (leD x y || leD y x) = true := fun x y => by
    rw [Bool.or_eq_true]
    exact T.total x y
  exact sortD_eq t tt xs

/-! ## built-ins -/
section
variable {R : RC} {ρ φ : List Addr} {H : Hp} {h : Hc}
theorem RDs.each {s : Shared} {X : Cx} {pins : List (Addr × Obj)} {σ : L2.St} (I : Inv X pins σ H s) (hK : R.K = X.K) : ∀ {xs : List D} {vs : List V} {us : List Value}, D.plains xs = true → RDs R ρ φ H xs vs → Vals vs us →
    PySem.W.EachIs (fun u d => ∃ v, RelV v u ∧ RD R ρ φ H d v) us xs ∧ PySem.W.EachIs (fun u d => ∃ as, Reads s.heap u (D.toPy d) as) us xs
  | [], vs, us, _, r, q => by
    simp only [RDs] at r
    subst r
    cases q
    exact ⟨.nil, .nil⟩
  | d :: ds, vs, us, p, r, q => by
    simp only [RDs] at r
    obtain ⟨v, vs', rfl, h1, h2⟩ := r
    simp only [D.plains, Bool.and_eq_true] at p
    cases q with
    | cons q1 q2 =>
      obtain ⟨e1, e2⟩ := RDs.each I hK p.2 h2 q2
      exact ⟨.cons ⟨v, q1, h1⟩ e1, .cons (Dp.reads I _ _ _ (hK ▸ h1.dp p.1) q1) e2⟩
theorem of_each : ∀ {xs : List D} {us : List Value}, PySem.W.EachIs (fun u d => ∃ v, RelV v u ∧ RD R ρ φ H d v) us xs → ∃ vs, Vals vs us ∧ RDs R ρ φ H xs vs
  | [], _, .nil => ⟨[], .nil, by simp only [RDs]⟩
  | d :: ds, _, .cons ⟨v, r1, r2⟩ t => by
    obtain ⟨vs, h1, h2⟩ := of_each t
    exact ⟨v :: vs, .cons r1 h1, RDs.cons r2 h2⟩
theorem lst_seq (r : RelH R ρ φ H h) {d : D} {v : V} (q : RD R ρ φ H d v) {xs : List D} (e : lstD h d = some xs) : ∃ a vs, v = .ref a ∧ SqL R.K H a vs ∧ RDs R ρ φ H xs vs := by
  cases d with
  | lst ds =>
    simp only [lstD, Option.some.injEq] at e; subst e
    simp only [RD] at q
    obtain ⟨a, vs, rfl, h1, h2⟩ := q
    exact ⟨a, vs, rfl, h1.sq, h2⟩
  | ref n =>
    simp only [RD] at q
    obtain ⟨a, ea, rfl⟩ := q
    unfold lstD at e
    cases hc : h[n]? with
    | none => simp [hc] at e
    | some c =>
      have rc := r.cells n a c ea hc
      cases c with
      | lst ys =>
        simp only [hc, Option.some.injEq] at e; subst e
        obtain ⟨vs, e1, e2⟩ := rc
        exact ⟨a, vs, rfl, SqL.of e1, e2⟩
      | ro ys =>
        simp only [hc, Option.some.injEq] at e; subst e
        obtain ⟨o, vs, e1, e2⟩ := rc
        exact ⟨a, vs, rfl, .inl (.inr ⟨o, e1⟩), e2⟩
      | dK _ => simp [hc] at e
      | dT _ => simp [hc] at e
  | _ => simp [lstD] at e
theorem intsD_rd : ∀ {xs : List D} {ns : List Int} {vs : List V}, intsD xs = some ns → RDs R ρ φ H xs vs → vs = ns.map V.int ∧ xs = ns.map D.int
  | [], ns, vs, e, r => by
    simp only [intsD, Option.some.injEq] at e; subst e
    simp only [RDs] at r; subst r
    exact ⟨rfl, rfl⟩
  | d :: ds, ns, vs, e, r => by
    cases d with
    | int i =>
      simp only [intsD] at e
      obtain ⟨ms, e1, rfl⟩ := Option.map_eq_some_iff.mp e
      simp only [RDs, RD] at r
      obtain ⟨v, vs', rfl, rfl, h2⟩ := r
      obtain ⟨q1, q2⟩ := intsD_rd e1 h2
      rw [q1, q2]
      exact ⟨rfl, rfl⟩
    | _ => simp [intsD] at e
theorem sumI_ints : ∀ {xs : List D} {n : Int}, sumI xs = some n → ∃ ns, intsD xs = some ns ∧ n = ns.sum
  | [], n, e => by simp only [sumI, Option.some.injEq] at e; subst e; exact ⟨[], rfl, rfl⟩
  | d :: ds, n, e => by
    cases d with
    | int i =>
      simp only [sumI] at e
      obtain ⟨m, e1, rfl⟩ := Option.map_eq_some_iff.mp e
      obtain ⟨ns, e2, rfl⟩ := sumI_ints e1
      exact ⟨i :: ns, by simp [intsD, e2], by simp⟩
    | _ => simp [sumI] at e
theorem allB_rd : ∀ {xs : List D} {bs : List Bool} {vs : List V}, allB xs = some bs → RDs R ρ φ H xs vs → vs = bs.map V.bl
  | [], ns, vs, e, r => by
    simp only [allB, Option.some.injEq] at e; subst e
    simp only [RDs] at r; subst r
    rfl
  | d :: ds, ns, vs, e, r => by
    cases d with
    | bl i =>
      simp only [allB] at e
      obtain ⟨ms, e1, rfl⟩ := Option.map_eq_some_iff.mp e
      simp only [RDs, RD] at r
      obtain ⟨v, vs', rfl, rfl, h2⟩ := r
      rw [allB_rd e1 h2]
      rfl
    | _ => simp [allB] at e
end
def arg1 {α : Type} (f : Hc → D → Option α) (h : Hc) (ds : List D) : Option α :=
  match ds with
  | [d] => f h d
  | _ => none
theorem arg1_some {α : Type} {f : Hc → D → Option α} {h : Hc} {ds : List D} {x : α} (e : arg1 f h ds = some x) : ∃ d, ds = [d] ∧ f h d = some x := by
  match ds, e with
  | [d], e => exact ⟨d, rfl, e⟩
theorem depth_mem {b : D} : ∀ {xs : List D}, b ∈ xs → (D.toPy b).depth ≤ PyData.depthAll (D.toPys xs)
  | [], h => by simp at h
  | x :: xs, h => by
    simp only [D.toPys, PyData.depthAll]
    rcases List.mem_cons.mp h with rfl | h
    · omega
    · have := depth_mem h
      omega
/-- a built-in's reading: its answer is the clean one; the lists new -/
def rL (R : RC) (f : Hc → List D → Option (List D)) : List V → Hp → VK → Prop := fun vs H Q => ∃ ρ φ h ds xs, RelH R ρ φ H h ∧ RDs R ρ φ H ds vs ∧ f h ds = some xs ∧
  ∀ p ws, H p = none → RDs R ρ φ H xs ws → Q (.ref p) (upd H p (.lst ws))
def rV (R : RC) (f : Hc → List D → Option D) : List V → Hp → VK → Prop := fun vs H Q => ∃ ρ φ h ds d, RelH R ρ φ H h ∧ RDs R ρ φ H ds vs ∧ f h ds = some d ∧
  ∀ ρ' v H', Ext ρ ρ' H H' → RelH R ρ' φ H' h → RD R ρ' φ H' d v → Q v H'
section
variable {X : Cx} {R : RC} (hK : R.K = X.K)
include hK
theorem call_listC : CallR X (.type "list") (rL R (arg1 seqD)) := by
  intro pins s σ H vs us Q I r ⟨ρ, φ, h, ds, xs, rH, rd, e, k⟩
  obtain ⟨d, rfl, e⟩ := arg1_some e
  simp only [RDs] at rd
  obtain ⟨v, vs', rfl, h1, rfl⟩ := rd
  obtain ⟨a, ws, rfl, h2, h3⟩ := h1.seq rH e
  exact call_list_of pins s σ H _ us Q I r ⟨a, ws, rfl, hK ▸ h2, fun l hl => k l ws hl h3⟩
theorem call_sortedC (hu : X.A.units + 100 < cLine) : CallR X (.builtin "sorted") (rL R (arg1 fun h d => (seqD h d).bind sortF)) := by
  intro pins s σ H vs us Q I r ⟨ρ, φ, h, ds, ys, rH, rd, e, k⟩
  obtain ⟨d, rfl, e⟩ := arg1_some e
  simp only [RDs] at rd
  obtain ⟨v, vs', rfl, h1, rfl⟩ := rd
  obtain ⟨xs, e1, e2⟩ := Option.bind_eq_some_iff.mp e
  obtain ⟨a, ws, rfl, h2, h3⟩ := h1.seq rH e1
  unfold sortF at e2
  split at e2
  · rename_i hz
    cases e2
    simp only [Bool.and_eq_true, decide_eq_true_eq] at hz
    obtain ⟨⟨⟨k1, k2⟩, k3⟩, k4⟩ := hz
    obtain ⟨its, T, o, nn, rv, hT, hob, hcl, hda⟩ : ∃ (its : List Value) (T : String) (o : Obj) (nn : Nat), Vals ws its ∧ (T = "list" ∨ T = "tuple") ∧ s.heap.get? a = some o ∧ o.cls = .type T ∧ o.data = .seq its.toArray nn := by
      rcases h2 with h2 | h2
      · obtain ⟨its, rv, hl, hlen⟩ := I.list (hK ▸ h2 : SqL X.K H a ws)
        obtain ⟨o, ho, hc, n, hd⟩ := hl.isList
        exact ⟨its, _, o, n, rv, .inl rfl, ho, hc, hd⟩
      · obtain ⟨its, rv, hl, hlen⟩ := I.tuple (hK ▸ h2 : SqT X.K H a ws)
        obtain ⟨o, ho, hc, n, hd⟩ := hl
        exact ⟨its, _, o, n, rv, .inr rfl, ho, hc, hd⟩
    rw [Vals.ref1 r]
    have pl : D.plains xs = true := by have := okD_plain k1; simpa only [D.plain] using this
    obtain ⟨E1, E2⟩ := RDs.each I hK pl h3 rv
    have hdep : ∀ b, b ∈ xs → (D.toPy b).depth ≤ 64 := by
      have := SeqAt.depth_of_shaped (okD_shaped k1)
      simp only [D.toPy, PyData.depth] at this
      intro b hb
      have := depth_mem hb
      omega
    refine So.sorted_any (enc := D.toPy) hT hob hcl hda E1 E2 ?_ ?_ (by rw [← line_eq]; exact k4) (fun b hb => by have := hdep b hb; omega) fun g1 g2 out ep kp1 kp2 he' ho hout => ?_
    · intro d hd d' hd'
      obtain ⟨b, hb, rfl⟩ := List.mem_map.mp hd
      obtain ⟨b', hb', rfl⟩ := List.mem_map.mp hd'
      unfold alikes at k2
      exact List.all_eq_true.mp (List.all_eq_true.mp k2 b hb) b' hb'
    · unfold sortable at k3
      rw [Bool.or_eq_true] at k3
      rcases k3 with k3 | k3
      · refine .inl fun d hd => ?_
        obtain ⟨b, hb, rfl⟩ := List.mem_map.mp hd
        have := List.all_eq_true.mp k3 b hb
        match b, this with
        | .tup (x :: r), _ => exact ⟨D.toPy x, D.toPys r, by simp only [D.toPy, D.toPys]⟩
      · refine .inr fun d hd => ?_
        obtain ⟨b, hb, rfl⟩ := List.mem_map.mp hd
        have := List.all_eq_true.mp k3 b hb
        match b, this with
        | .bl x, _ => exact ⟨by simp [D.toPy], fun xs => by simp [D.toPy]⟩
        | .int x, _ => exact ⟨by simp [D.toPy], fun xs => by simp [D.toPy]⟩
        | .str x, _ => exact ⟨by simp [D.toPy], fun xs => by simp [D.toPy]⟩
        | .lst x, _ => exact ⟨by simp [D.toPy], fun xs => by simp [D.toPy]⟩
    rw [← sortD_leD] at hout
    obtain ⟨ws', r1, r2⟩ := of_each hout
    have I1 : Inv X pins σ H { s with heap := g1 } := I.kept (t' := s.toks) kp1
    refine ⟨.ref g1.objs.size, upd H g1.objs.size (.lst ws'), I1.laid (t' := s.toks) kp2 (Nat.le_refl _) ⟨?_, out, ep, r1, he'⟩, rfl, k _ ws' (I1.hok.fresh (Nat.le_refl _)) r2⟩
    rw [r1.length, ho, ← line_eq]; exact k4
  · cases e2
end
end Cl

namespace Cl
open PySem PySem.Spec PyProof.Rows L2
section
variable {prog : Program} {w : World} {A : Around} {E : Value → Shared → Prop} {s : Shared}
theorem iter_anyT {l : Addr} {items : Array Value} {Q : Value → Shared → Prop} (hl : s.heap.IsTuple l items)
    (h : ∀ s₂ : Shared, s₂ = { s with heap := s.heap.push { cls := .type "tuple_iterator", data := .fields #[.ref l, .int 0 0] } } →
      (s₂.heap.IsTupleIter s.heap.objs.size l 0 ∧ s₂.heap.IsTuple l items) → l ≠ s.heap.objs.size → (∀ b ∈ [s.heap.objs.size, l], b < s₂.heap.objs.size) → Q (.ref s.heap.objs.size) s₂) : wpAny (model prog w) A (pyIter (.ref l)) Q E s := by
  have hlt : l < s.heap.objs.size := by obtain ⟨_, e, _⟩ := hl; exact Heap.lt_size e
  refine wpAny_pyIter_tuple hl (h _ rfl ⟨⟨_, Heap.get?_push_size _ rfl, rfl, rfl⟩, hl.push _⟩ (Nat.ne_of_lt hlt) fun b hb => ?_)
  show b < (s.heap.push _).objs.size
  rw [Heap.size_push]
  rcases List.mem_cons.mp hb with rfl | hb
  · exact Nat.lt_succ_self _
  · rcases List.mem_cons.mp hb with rfl | hb
    · exact Nat.lt_succ_of_lt hlt
    · cases hb
theorem sum_tup_raw {l : Addr} {its : List Value} {ns : List Int} {Q : Value → Shared → Prop} (hh : A.handled = none) (hl : s.heap.IsTuple l its.toArray) (hi : IntsAre its ns)
    (h : ∀ h' tk t', (∀ b o, s.heap.get? b = some o → h'.get? b = some o) → Q (.int ns.sum t') { s with heap := h', toks := tk }) : wpAny (model prog w) A (call (.builtin "sum") [.ref l]) Q E s := by
  obtain ⟨xs, e⟩ := hi.allInts.items
  have hn : numsOf (intItems xs).toList = ns := by rw [← e]; exact hi.numsOf
  rw [nums_intItems] at hn
  rw [e] at hl
  refine call_sum_walkG (iter_anyT hl fun s₂ e2 st hlI hfp => ?_)
  subst e2
  refine ⟨_, _, _, _, _, _, numAt xs, rfl, Walks.tuple (A := A.in1) hh _ l hlI (intItems xs), st, hfp, (fun _ _ => intItems_at), fun h' tk t' hk => ?_⟩
  have := h h' tk t' (fun b o e => hk b o (fun hm => by
    rcases List.mem_cons.mp hm with e1 | hm
    · exact absurd (e1 ▸ Heap.lt_size e) (Nat.lt_irrefl _)
    · cases hm) (Heap.get?_push_of_some _ e))
  have e3 : preSum (numAt xs) (intItems xs).size = ns.sum := by
    have hsz : (intItems xs).size = xs.size := by simp [intItems]
    rw [hsz, preSum_eq, List.take_of_length_le (by simp), hn]
  rw [e3]
  exact this
end
/-- the value of a built-in -/
def biVal : Bi → Value
  | .len => .builtin "len" | .abs => .builtin "abs" | .int => .type "int" | .tuple => .type "tuple" | .list => .type "list"
  | .sorted => .builtin "sorted" | .sortedR => .none | .sum => .builtin "sum" | .all => .builtin "all" | .any => .builtin "any"
  | .max => .builtin "max" | .min => .builtin "min" | .max2 => .builtin "max" | .min2 => .builtin "min" | .str => .type "str" | .lenset => .none
def biName : Bi → Str
  | .len => "len" | .abs => "abs" | .int => "int" | .tuple => "tuple" | .list => "list" | .sorted => "sorted" | .sortedR => "sorted" | .sum => "sum" | .all => "all" | .any => "any"
  | .max => "max" | .min => "min" | .max2 => "max" | .min2 => "min" | .str => "str" | .lenset => "set"
section
variable {X : Cx} {R : RC} (hK : R.K = X.K)
theorem of_arg1 {α : Type} {f : Hc → D → Option α} {g : Hc → List D → Option α} {h : Hc} {ds : List D} (h0 : g h [] = none) (h1 : ∀ d, g h [d] = f h d) (h2 : ∀ a b l, g h (a :: b :: l) = none) : g h ds = arg1 f h ds := by
  match ds with
  | [] => exact h0
  | [d] => exact h1 d
  | a :: b :: l => exact h2 a b l
theorem arg1_map {α β : Type} {f : Hc → D → Option α} {k : α → β} {h : Hc} {ds : List D} : (arg1 f h ds).map k = arg1 (fun h d => (f h d).map k) h ds := by
  match ds with
  | [] => rfl
  | [d] => rfl
  | a :: b :: l => rfl
theorem rL_rV {f : Hc → List D → Option (List D)} {v : Value} (k : CallR X v (rL R f)) : CallR X v (rV R fun h ds => (f h ds).map D.lst) := by
  intro pins s σ H vs us Q I r ⟨ρ, φ, h, ds, d, rH, rd, e, q⟩
  obtain ⟨xs, e1, rfl⟩ := Option.map_eq_some_iff.mp e
  refine k pins s σ H vs us Q I r ⟨ρ, φ, h, ds, xs, rH, rd, e1, fun p ws hp hw => ?_⟩
  obtain ⟨q1, q2, q3⟩ := new_lst rH hp hw
  exact q _ _ _ q1 q2 q3
theorem rV_of {v : Value} {f g : Hc → List D → Option D} (k : CallR X v (rV R f)) (e : ∀ h ds, f h ds = g h ds) : CallR X v (rV R g) := by
  have : f = g := by funext h a; exact e h a
  rw [← this]; exact k
include hK
theorem biR (hc : X.calm = true) (hu : X.A.units + 100 < cLine) (b : Bi) (hb : b ≠ .sortedR) (hb2 : b ≠ .lenset) : CallR X (biVal b) (rV R fun h ds => biF h b ds) := by
  have one : ∀ {v : Value} {g : Hc → D → Option D}, (∀ h ds, biF h b ds = arg1 g h ds) → (∀ (pins : List (Addr × Obj)) (s : Shared) (σ : L2.St) (H : Hp) (us : List Value) (Q : VK) (ρ φ : List Addr) (h : Hc) (d d' : D) (x : V), Inv X pins σ H s → Vals [x] us → RelH R ρ φ H h → RD R ρ φ H d x → g h d = some d' →
      (∀ ρ' v H', Ext ρ ρ' H H' → RelH R ρ' φ H' h → RD R ρ' φ H' d' v → Q v H') → wpAny (model X.prog X.w) X.A (call v us) (EP X pins σ Q) X.xe s) → CallR X v (rV R fun h ds => biF h b ds) := by
    intro v g hg hk pins s σ H vs us Q I r ⟨ρ, φ, h, ds, d, rH, rd, e, q⟩
    have e' : biF h b ds = some d := e
    rw [hg] at e'
    obtain ⟨d0, rfl, e2⟩ := arg1_some e'
    simp only [RDs] at rd
    obtain ⟨x, vs', rfl, h1, rfl⟩ := rd
    exact hk pins s σ H us Q ρ φ h d0 d x I r rH h1 e2 q
  have rint : ∀ {d : D} {n : Int}, d = .int n → ∀ {R : RC} {ρ φ : List Addr} {H : Hp}, RD R ρ φ H d (.int n) := by
    intro d n e R ρ φ H
    subst e
    simp only [RD]
  cases b with
  | sortedR => exact absurd rfl hb
  | lenset => exact absurd rfl hb2
  | list => exact rV_of (rL_rV (call_listC hK)) fun h ds => ((of_arg1 (f := fun h d => (seqD h d).map D.lst) (g := fun h ds => biF h .list ds) rfl (fun d => rfl) (fun _ _ _ => rfl)).trans arg1_map.symm).symm
  | sorted => exact rV_of (rL_rV (call_sortedC hK hu)) fun h ds => ((of_arg1 (f := fun h d => ((seqD h d).bind sortF).map D.lst) (g := fun h ds => biF h .sorted ds) rfl (fun d => rfl) (fun _ _ _ => rfl)).trans arg1_map.symm).symm
  | len =>
    refine one (g := lenF) (fun h ds => ?_) fun pins s σ H us Q ρ φ h d d' x I r rH h1 e q => ?_
    · exact of_arg1 (g := fun h ds => biF h _ ds) rfl (fun d => rfl) (fun _ _ _ => rfl)
    unfold lenF at e
    split at e
    · split at e
      · rename_i hz
        cases e
        simp only [RD] at h1
        subst h1
        exact call_len_str pins s σ H _ us Q I r ⟨_, rfl, by rw [← line_eq]; exact hz, q _ _ _ Ext.refl rH (rint rfl)⟩
      · cases e
    · split at e
      · rename_i xs e1
        cases e
        obtain ⟨a, ws, rfl, h2, h3⟩ := h1.seq rH e1
        rw [h3.len] at q
        exact call_len_seq pins s σ H _ us Q I r ⟨a, ws, rfl, hK ▸ h2, q _ _ _ Ext.refl rH (rint rfl)⟩
      · split at e
        · rename_i n _ _
          simp only [RD] at h1
          obtain ⟨a, ea, rfl⟩ := h1
          split at e
          · rename_i kvs hc
            cases e
            obtain ⟨kws, h2, h3⟩ := rH.cells n a _ ea hc
            have hl : kvs.length = kws.length := by
              have := congrArg List.length h3.1
              simpa using this
            rw [hl] at q
            obtain ⟨u, rfl, ru⟩ := vals1 r
            cases ru
            exact d_len I (.inl h2) fun t s' I' => ⟨.int kws.length, H, I', ⟨_, rfl⟩, q _ _ _ Ext.refl rH (rint rfl)⟩
          · cases e
        · cases e
  | abs =>
    refine one (g := fun h d => match d with | .int i => some (.int (if i < 0 then -i else i)) | _ => none) (fun h ds => ?_) fun pins s σ H us Q ρ φ h d d' x I r rH h1 e q => ?_
    · exact of_arg1 (g := fun h ds => biF h _ ds) rfl (fun d => by cases d <;> rfl) (fun a _ _ => by cases a <;> rfl)
    cases d with
    | int i =>
      simp only [Option.some.injEq] at e
      subst e
      simp only [RD] at h1
      subst h1
      exact call_abs pins s σ H _ us Q I r ⟨i, rfl, q _ _ _ Ext.refl rH (rint rfl)⟩
    | _ => simp at e
  | int =>
    refine one (g := fun h d => intF d) (fun h ds => ?_) fun pins s σ H us Q ρ φ h d d' x I r rH h1 e q => ?_
    · exact of_arg1 (g := fun h ds => biF h _ ds) rfl (fun d => rfl) (fun _ _ _ => rfl)
    cases d with
    | int i =>
      simp only [intF, Option.some.injEq] at e
      subst e
      simp only [RD] at h1
      subst h1
      exact call_int1 pins s σ H _ us Q I r (.inl ⟨i, rfl, q _ _ _ Ext.refl rH (rint rfl)⟩)
    | bl i =>
      simp only [intF, Option.some.injEq] at e
      subst e
      simp only [RD] at h1
      subst h1
      exact call_int1 pins s σ H _ us Q I r (.inr ⟨i, rfl, q _ _ _ Ext.refl rH (rint rfl)⟩)
    | _ => simp [intF] at e
  | tuple =>
    refine one (g := fun h d => (seqD h d).map fun xs => .tup xs) (fun h ds => ?_) fun pins s σ H us Q ρ φ h d d' x I r rH h1 e q => ?_
    · exact of_arg1 (g := fun h ds => biF h _ ds) rfl (fun d => rfl) (fun _ _ _ => rfl)
    obtain ⟨xs, e1, rfl⟩ := Option.map_eq_some_iff.mp e
    cases d with
    | tup ds =>
      simp only [seqD, Option.some.injEq] at e1
      subst e1
      have h1' := h1
      simp only [RD] at h1
      obtain ⟨a, vs, rfl, h2, h3⟩ := h1
      exact call_tuple_of pins s σ H _ us Q I r ⟨a, vs, rfl, .inr ⟨hK ▸ h2.sq, q _ _ _ Ext.refl rH h1'⟩⟩
    | _ =>
      obtain ⟨a, ws, rfl, h2, h3⟩ := lst_seq rH h1 (by simpa [lstD, seqD] using e1)
      refine call_tuple_of pins s σ H _ us Q I r ⟨a, ws, rfl, .inl ⟨hK ▸ h2, fun l hl => ?_⟩⟩
      obtain ⟨q1, q2, q3⟩ := new_tup rH hl h3
      exact q _ _ _ q1 q2 q3
  | sum =>
    refine one (g := fun h d => (seqD h d).bind fun xs => (sumI xs).map .int) (fun h ds => ?_) fun pins s σ H us Q ρ φ h d d' x I r rH h1 e q => ?_
    · exact of_arg1 (g := fun h ds => biF h _ ds) rfl (fun d => rfl) (fun _ _ _ => rfl)
    obtain ⟨xs, e1, e2⟩ := Option.bind_eq_some_iff.mp e
    obtain ⟨n, e3, rfl⟩ := Option.map_eq_some_iff.mp e2
    obtain ⟨ns, e4, rfl⟩ := sumI_ints e3
    obtain ⟨a, ws, rfl, h2, h3⟩ := h1.seq rH e1
    obtain ⟨rfl, _⟩ := intsD_rd e4 h3
    rcases (hK ▸ h2 : SqL X.K H a (ns.map V.int) ∨ SqT X.K H a (ns.map V.int)) with h2 | h2
    · exact cr_sum hc pins s σ H _ us Q I r ⟨a, ns, rfl, h2, q _ _ _ Ext.refl rH (rint rfl)⟩
    · obtain ⟨its, rv, hl, _⟩ := I.tuple h2
      rw [Vals.ref1 r]
      exact sum_tup_raw (I.ok.hd hc) hl rv.ints fun h' tk t' hk => ⟨.int _, H, I.kept hk, ⟨_, rfl⟩, q _ _ _ Ext.refl rH (rint rfl)⟩
  | all =>
    refine one (g := fun h d => (lstD h d).bind fun xs => (allB xs).map fun bs => .bl (bs.all id)) (fun h ds => ?_) fun pins s σ H us Q ρ φ h d d' x I r rH h1 e q => ?_
    · exact of_arg1 (g := fun h ds => biF h _ ds) rfl (fun d => rfl) (fun _ _ _ => rfl)
    obtain ⟨xs, e1, e2⟩ := Option.bind_eq_some_iff.mp e
    obtain ⟨bs, e3, rfl⟩ := Option.map_eq_some_iff.mp e2
    obtain ⟨a, ws, rfl, h2, h3⟩ := lst_seq rH h1 e1
    have := allB_rd e3 h3
    subst this
    exact cr_all hc pins s σ H _ us Q I r ⟨a, bs, rfl, hK ▸ h2, q _ _ _ Ext.refl rH (by simp only [RD])⟩
  | any =>
    refine one (g := fun h d => (lstD h d).bind fun xs => (allB xs).map fun bs => .bl (bs.any id)) (fun h ds => ?_) fun pins s σ H us Q ρ φ h d d' x I r rH h1 e q => ?_
    · exact of_arg1 (g := fun h ds => biF h _ ds) rfl (fun d => rfl) (fun _ _ _ => rfl)
    obtain ⟨xs, e1, e2⟩ := Option.bind_eq_some_iff.mp e
    obtain ⟨bs, e3, rfl⟩ := Option.map_eq_some_iff.mp e2
    obtain ⟨a, ws, rfl, h2, h3⟩ := lst_seq rH h1 e1
    have := allB_rd e3 h3
    subst this
    exact cr_any hc pins s σ H _ us Q I r ⟨a, bs, rfl, hK ▸ h2, q _ _ _ Ext.refl rH (by simp only [RD])⟩
  | max =>
    refine one (g := fun h d => (seqD h d).bind fun xs => match intsD xs with | some (x :: xs) => some (.int (xs.foldl max x)) | _ => none) (fun h ds => ?_) fun pins s σ H us Q ρ φ h d d' x I r rH h1 e q => ?_
    · exact of_arg1 (g := fun h ds => biF h _ ds) rfl (fun d => rfl) (fun _ _ _ => rfl)
    obtain ⟨xs, e1, e2⟩ := Option.bind_eq_some_iff.mp e
    cases e3 : intsD xs with
    | none => rw [e3] at e2; cases e2
    | some ms =>
      rw [e3] at e2
      cases ms with
      | nil => cases e2
      | cons n ns =>
        cases e2
        obtain ⟨a, ws, rfl, h2, h3⟩ := h1.seq rH e1
        obtain ⟨rfl, _⟩ := intsD_rd e3 h3
        rw [Vals.ref1 r]
        have fin : ∀ {its : List Value} (i : Nat) (v : Value) (h' : Heap) (tk : Nat) (bs : List Addr), its.toArray[i]? = some v → Reads h' v (PySem.W.maxD (.int n) (ns.map .int)) bs → (∀ b o, s.heap.get? b = some o → h'.get? b = some o) → EP X pins σ Q v { s with heap := h', toks := tk } := by
          intro its i v h' tk bs _ hr hk
          rw [PySem.W.maxD_ints] at hr
          cases hr
          exact ⟨.int _, H, I.kept hk, ⟨_, rfl⟩, q _ _ _ Ext.refl rH (rint rfl)⟩
        have al : PySem.W.AlikeAll (PyData.int n :: ns.map PyData.int) := by
          have : ∀ d ∈ (PyData.int n :: ns.map PyData.int), ∃ i, d = .int i := by
            intro d hd
            rcases List.mem_cons.mp hd with rfl | hd
            · exact ⟨_, rfl⟩
            · obtain ⟨i, _, rfl⟩ := List.mem_map.mp hd
              exact ⟨_, rfl⟩
          refine ⟨fun d hd d' hd' => ?_, fun d hd => ?_⟩
          · obtain ⟨i, rfl⟩ := this d hd
            obtain ⟨j, rfl⟩ := this d' hd'
            rfl
          · obtain ⟨i, rfl⟩ := this d hd
            exact fun z => nomatch z
        have dep : X.A.units + 1 + PyData.depthAll (PyData.int n :: ns.map PyData.int) < cLine := by
          have : ∀ l : List Int, PyData.depthAll (l.map PyData.int) = 0 := by
            intro l
            induction l with
            | nil => simp [PyData.depthAll]
            | cons a l ih => simp [PyData.depthAll, PyData.depth, ih]
          have := this (n :: ns)
          rw [List.map_cons] at this
          omega
        have rds : ∀ {its : List Value}, IntsAre its (n :: ns) → ∃ as, ReadsAll s.heap its (PyData.int n :: ns.map PyData.int) as := by
          intro its hi
          have : ∀ {l : List Int} {its : List Value}, IntsAre its l → ∃ as, ReadsAll s.heap its (l.map PyData.int) as := by
            intro l
            induction l with
            | nil => intro its hi; cases hi; exact ⟨_, .nil⟩
            | cons a l ih =>
              intro its hi
              cases hi with
              | cons _ _ hi' =>
                obtain ⟨as, ha⟩ := ih hi'
                exact ⟨_, .cons (.int _ _) ha⟩
          exact this (l := n :: ns) hi
        rcases (hK ▸ h2 : SqL X.K H a ((n :: ns).map V.int) ∨ SqT X.K H a ((n :: ns).map V.int)) with h2 | h2
        · obtain ⟨its, rv, hl, _⟩ := I.list h2
          obtain ⟨as, ha⟩ := rds rv.ints
          exact PySem.W.max_list_data (I.ok.hd hc) hl.isList ha al dep fun i v h' tk bs g1 g2 g3 => fin (its := its) i v h' tk bs g1 g2 g3
        · obtain ⟨its, rv, hl, _⟩ := I.tuple h2
          obtain ⟨as, ha⟩ := rds rv.ints
          exact PySem.W.max_tuple_data (I.ok.hd hc) hl ha al dep fun i v h' tk bs g1 g2 g3 => fin (its := its) i v h' tk bs g1 g2 g3
  | min =>
    refine one (g := fun h d => (seqD h d).bind fun xs => match intsD xs with | some (x :: xs) => some (.int (xs.foldl min x)) | _ => none) (fun h ds => ?_) fun pins s σ H us Q ρ φ h d d' x I r rH h1 e q => ?_
    · exact of_arg1 (g := fun h ds => biF h _ ds) rfl (fun d => rfl) (fun _ _ _ => rfl)
    obtain ⟨xs, e1, e2⟩ := Option.bind_eq_some_iff.mp e
    cases e3 : intsD xs with
    | none => rw [e3] at e2; cases e2
    | some ms =>
      rw [e3] at e2
      cases ms with
      | nil => cases e2
      | cons n ns =>
        cases e2
        obtain ⟨a, ws, rfl, h2, h3⟩ := h1.seq rH e1
        obtain ⟨rfl, _⟩ := intsD_rd e3 h3
        rw [Vals.ref1 r]
        have fin : ∀ {its : List Value} (i : Nat) (v : Value) (h' : Heap) (tk : Nat) (bs : List Addr), its.toArray[i]? = some v → Reads h' v (PySem.W.minD (.int n) (ns.map .int)) bs → (∀ b o, s.heap.get? b = some o → h'.get? b = some o) → EP X pins σ Q v { s with heap := h', toks := tk } := by
          intro its i v h' tk bs _ hr hk
          rw [PySem.W.minD_ints] at hr
          cases hr
          exact ⟨.int _, H, I.kept hk, ⟨_, rfl⟩, q _ _ _ Ext.refl rH (rint rfl)⟩
        have al : PySem.W.AlikeAll (PyData.int n :: ns.map PyData.int) := by
          have : ∀ d ∈ (PyData.int n :: ns.map PyData.int), ∃ i, d = .int i := by
            intro d hd
            rcases List.mem_cons.mp hd with rfl | hd
            · exact ⟨_, rfl⟩
            · obtain ⟨i, _, rfl⟩ := List.mem_map.mp hd
              exact ⟨_, rfl⟩
          refine ⟨fun d hd d' hd' => ?_, fun d hd => ?_⟩
          · obtain ⟨i, rfl⟩ := this d hd
            obtain ⟨j, rfl⟩ := this d' hd'
            rfl
          · obtain ⟨i, rfl⟩ := this d hd
            exact fun z => nomatch z
        have dep : X.A.units + 1 + PyData.depthAll (PyData.int n :: ns.map PyData.int) < cLine := by
          have : ∀ l : List Int, PyData.depthAll (l.map PyData.int) = 0 := by
            intro l
            induction l with
            | nil => simp [PyData.depthAll]
            | cons a l ih => simp [PyData.depthAll, PyData.depth, ih]
          have := this (n :: ns)
          rw [List.map_cons] at this
          omega
        have rds : ∀ {its : List Value}, IntsAre its (n :: ns) → ∃ as, ReadsAll s.heap its (PyData.int n :: ns.map PyData.int) as := by
          intro its hi
          have : ∀ {l : List Int} {its : List Value}, IntsAre its l → ∃ as, ReadsAll s.heap its (l.map PyData.int) as := by
            intro l
            induction l with
            | nil => intro its hi; cases hi; exact ⟨_, .nil⟩
            | cons a l ih =>
              intro its hi
              cases hi with
              | cons _ _ hi' =>
                obtain ⟨as, ha⟩ := ih hi'
                exact ⟨_, .cons (.int _ _) ha⟩
          exact this (l := n :: ns) hi
        rcases (hK ▸ h2 : SqL X.K H a ((n :: ns).map V.int) ∨ SqT X.K H a ((n :: ns).map V.int)) with h2 | h2
        · obtain ⟨its, rv, hl, _⟩ := I.list h2
          obtain ⟨as, ha⟩ := rds rv.ints
          exact PySem.W.min_list_data (I.ok.hd hc) hl.isList ha al dep fun i v h' tk bs g1 g2 g3 => fin (its := its) i v h' tk bs g1 g2 g3
        · obtain ⟨its, rv, hl, _⟩ := I.tuple h2
          obtain ⟨as, ha⟩ := rds rv.ints
          exact PySem.W.min_tuple_data (I.ok.hd hc) hl ha al dep fun i v h' tk bs g1 g2 g3 => fin (its := its) i v h' tk bs g1 g2 g3
  | max2 =>
    intro pins s σ H vs us Q I r ⟨ρ, φ, h, ds, d, rH, rd, e, q⟩
    match ds, rd, e with
    | [.int i, .int j], rd, e =>
      simp only [biF, Option.some.injEq] at e
      subst e
      simp only [RDs, RD] at rd
      obtain ⟨_, _, rfl, rfl, _, _, rfl, rfl, rfl⟩ := rd
      exact call_max2 hc pins s σ H _ us Q I r ⟨i, j, rfl, q _ _ _ Ext.refl rH (rint rfl)⟩
  | min2 =>
    intro pins s σ H vs us Q I r ⟨ρ, φ, h, ds, d, rH, rd, e, q⟩
    match ds, rd, e with
    | [.int i, .int j], rd, e =>
      simp only [biF, Option.some.injEq] at e
      subst e
      simp only [RDs, RD] at rd
      obtain ⟨_, _, rfl, rfl, _, _, rfl, rfl, rfl⟩ := rd
      exact call_min2 hc pins s σ H _ us Q I r ⟨i, j, rfl, q _ _ _ Ext.refl rH (rint rfl)⟩
  | str =>
    refine one (g := fun h d => match d with | .int i => if i.natAbs.log2 < 1920 then some (.str (toString i)) else none | _ => none) (fun h ds => ?_) fun pins s σ H us Q ρ φ h d d' x I r rH h1 e q => ?_
    · exact of_arg1 (g := fun h ds => biF h _ ds) rfl (fun d => by cases d <;> rfl) (fun a _ _ => by cases a <;> rfl)
    cases d with
    | int i =>
      simp only at e
      split at e
      · rename_i hz
        cases e
        simp only [RD] at h1
        subst h1
        exact call_str_int pins s σ H _ us Q I r ⟨i, rfl, hz, q _ _ _ Ext.refl rH (by simp only [RD])⟩
      · cases e
    | _ => simp at e
end
end Cl

namespace Cl
open PySem PySem.Spec PyProof.Rows L2

/-! ## does a term fit its syntax -/
/-- what is known of the text: the defs' names, the module's constants, the exceptions' names -/
structure Sg where
  fns : List Str
  consts : List (Str × D)
  excs : List Str
def Sg.glob (S : Sg) (x : Str) : Option D :=
  match S.consts.lookup x with
  | some d => some d
  | none => (S.fns.findIdx? fun y => decide (y = x)).map .fn
def visK : Option NameKind → Bool
  | some .local => true
  | some .cell => true
  | some .free => true
  | _ => false
def nmOk (x : Str) : Bool := decide ((x == ("__debug__" : Str)) = false) && decide ((x == ("__classdict__" : Str)) = false) && decide ((x == ("__name__" : Str)) = false)
def isVarB (N : List Str) (sc : Scope) (i : Nat) (x : Str) : Bool := decide (N[i]? = some x) && visK (sc.names.lookup x) && nmOk x
def isGlB (sc : Scope) (x : Str) : Bool := decide (sc.names.lookup x = some .globalImplicit) && nmOk x
def chkC : D → Const → Bool
  | .non, .none => true
  | .bl a, .bool b => a == b
  | .int a, .int b => decide (a = b)
  | .str a, .str b => decide (a = b)
  | _, _ => false
def baseOk : Expr → Bool
  | .Call _ _ _ _ => false
  | _ => true
def notSet : Expr → Bool
  | .Set _ _ _ => false
  | _ => true
def tyName : Ty → Str
  | .int => "int" | .bool => "bool" | .str => "str" | .tuple => "tuple" | .list => "list" | .dict => "dict"
def chkTy (sc : Scope) : Ty → Expr → Bool
  | t, .Name x _ => decide (x = tyName t) && isGlB sc x
  | _, _ => false
def chkTys (sc : Scope) : List Ty → List Expr → Bool
  | [], [] => true
  | t :: ts, e :: es => chkTy sc t e && chkTys sc ts es
  | _, _ => false
mutual
def chkT (N : List Str) (sc : Scope) : Tg → Expr → Bool
  | .v i, .Name x _ => decide (N[i]? = some x) && (decide (sc.names.lookup x = some .local) || decide (sc.names.lookup x = some .cell)) && nmOk x
  | .t ts, .Tuple es _ _ => chkTs N sc ts es
  | _, _ => false
def chkTs (N : List Str) (sc : Scope) : Tgs → List Expr → Bool
  | .nil, [] => true
  | .cons t ts, e :: es => chkT N sc t e && chkTs N sc ts es
  | _, _ => false
end
def freshC : CE → Bool
  | .lst _ => true
  | .comp _ _ _ _ _ => true
  | .bi .list _ => true
  | .bi .sorted _ => true
  | .lrange _ => true
  | .bin .Add _ _ => true
  | .bin .Mult _ _ => true
  | .sl _ _ _ => true
  | _ => false
def isRng : CI → Bool
  | .rng1 _ => true
  | .rng2 _ _ => true
  | _ => false
mutual
/-- a target's places, all among vs -/
def tgIn (vs : List Nat) : Tg → Bool
  | .v i => decide (i ∈ vs)
  | .t ts => tgsIn vs ts
def tgsIn (vs : List Nat) : Tgs → Bool
  | .nil => true
  | .cons t ts => tgIn vs t && tgsIn vs ts
end
mutual
def chkE (S : Sg) (N : List Str) (sc : Scope) (cm : Bool) : CE → Expr → Bool
  | .var i, e => match e with
    | .Name x _ => isVarB N sc i x
    | _ => false
  | .cst d, e => match e with
    | .Constant c _ _ => chkC d c
    | _ => false
  | .glob x d, e => match e with
    | .Name y _ => decide (x = y) && isGlB sc y && decide (S.glob y = some d)
    | _ => false
  | .bin op a b, e => match e with
    | .BinOp l o r _ => decide (op = o) && chkE S N sc cm a l && chkE S N sc cm b r
    | _ => false
  | .neg a, e => match e with
    | .UnaryOp .USub l _ => chkE S N sc cm a l
    | _ => false
  | .not_ a, e => match e with
    | .UnaryOp .Not l _ => chkE S N sc cm a l
    | _ => false
  | .cmp op a b, e => match e with
    | .Compare l [o] [r] _ => decide (op = o) && notSet r && chkE S N sc cm a l && chkE S N sc cm b r
    | _ => false
  | .chain op op' a b c, e => match e with
    | .Compare l [o, o'] [r, q] _ => decide (op = o) && decide (op' = o') && notSet q && chkE S N sc cm a l && chkE S N sc cm b r && chkE S N sc cm c q
    | _ => false
  | .and_ a b, e => match e with
    | .BoolOp .And [x, y] _ => chkE S N sc cm a x && chkE S N sc cm b y
    | .BoolOp .And (x :: y :: z :: r) p => chkE S N sc cm a x && chkE S N sc cm b (.BoolOp .And (y :: z :: r) p)
    | _ => false
  | .or_ a b, e => match e with
    | .BoolOp .Or [x, y] _ => chkE S N sc cm a x && chkE S N sc cm b y
    | .BoolOp .Or (x :: y :: z :: r) p => chkE S N sc cm a x && chkE S N sc cm b (.BoolOp .Or (y :: z :: r) p)
    | _ => false
  | .ite t a b, e => match e with
    | .IfExp x y z _ => chkE S N sc cm t x && chkE S N sc cm a y && chkE S N sc cm b z
    | _ => false
  | .call f args, e => match e with
    | .Call (.Name x _) es [] _ => cm && decide (S.fns[f]? = some x) && isGlB sc x && chkEs S N sc cm args es
    | _ => false
  | .callv fe fs args, e => match e with
    | .Call (.Name x p) (y :: es) [] _ => cm && fs.all (fun i => decide (i < S.fns.length)) && chkE S N sc cm fe (.Name x p) && chkEs S N sc cm args (y :: es)
    | .Call (.Subscript l r p) (y :: es) [] _ => cm && fs.all (fun i => decide (i < S.fns.length)) && chkE S N sc cm fe (.Subscript l r p) && chkEs S N sc cm args (y :: es)
    | _ => false
  | .bi .lenset args, e => match e with
    | .Call (.Name x _) [.Call (.Name y _) [a] [] _] [] _ => cm && decide (x = "len") && decide (y = "set") && isGlB sc x && isGlB sc y && chkEs S N sc cm args [a]
    | _ => false
  | .bi b args, e => match e with
    | .Call (.Name x _) (a :: es) [] _ => cm && decide (x = biName b) && decide (b ≠ .sortedR) && isGlB sc x && chkEs S N sc cm args (a :: es)
    | _ => false
  | .isin a ts, e => match e with
    | .Call (.Name x _) [l, .Tuple es _ _] [] _ => cm && decide (x = "isinstance") && isGlB sc x && decide (es.length ≤ 6) && chkE S N sc cm a l && chkTys sc ts es
    | .Call (.Name x _) [l, t] [] _ => cm && decide (x = "isinstance") && isGlB sc x && chkE S N sc cm a l && chkTys sc ts [t]
    | _ => false
  | .pop o, e => match e with
    | .Call (.Attribute l m ap) [] [] cp => cm && decide (m = "pop") && baseOk l && decide (ap.endLine = cp.line) && chkE S N sc cm o l
    | _ => false
  | .idx a i, e => match e with
    | .Subscript l r _ => (match r with | .Slice _ _ _ _ => false | _ => true) && chkE S N sc cm a l && chkE S N sc cm i r
    | _ => false
  | .sl a lo hi, e => match e with
    | .Subscript l (.Slice x y none _) _ => chkE S N sc cm a l && (match x with | none => lo.isAbs | some x => !lo.isAbs && chkE S N sc cm lo x) && (match y with | none => hi.isAbs | some y => !hi.isAbs && chkE S N sc cm hi y)
    | _ => false
  | .rev a, e => match e with
    | .Subscript l (.Slice none none (some (.UnaryOp .USub (.Constant (.int 1) _ _) _)) _) _ => chkE S N sc cm a l
    | _ => false
  | .absent, _ => false
  | .tup es, e => match e with
    | .Tuple xs _ _ => decide (xs.length ≤ 4096) && chkEs S N sc cm es xs
    | _ => false
  | .lst es, e => match e with
    | .List xs _ => decide (xs.length ≤ 4096) && chkEs S N sc cm es xs
    | _ => false
  | .comp elt t it cond own, e => match e with
    | .ListComp x [⟨tg, iter, ifs, a⟩] scope _ => cm && decide (a = 0) && notSet iter && chkI S N sc cm it tg iter && blkC N sc scope (own.filterMap fun i => N[i]?.map fun x => (x, i)) && decide ((own.filterMap fun i => N[i]?.map fun x => (x, i)).map (·.2) = own)
        && chkT N scope t tg && tgIn own t && (match ifs with | [] => cond.isAbs | [c] => !cond.isAbs && chkE S N scope cm cond c | _ => false) && chkE S N scope cm elt x
    | _ => false
  | .lrange it, e => match e with
    | .Call (.Name x _) [r] [] _ => cm && decide (x = "list") && isGlB sc x && isRng it && chkI S N sc cm it (.Name x ⟨0, 0, 0, 0⟩) r
    | _ => false
  | .cell c, e => freshC c && chkE S N sc cm c e
  | .dict0 _, e => match e with
    | .Dict [] [] _ => true
    | _ => false
  | .dget o k d, e => match e with
    | .Call (.Attribute l m ap) [x, y] [] cp => cm && decide (m = "get") && baseOk l && decide (ap.endLine = cp.line) && chkE S N sc cm o l && chkE S N sc cm k x && chkE S N sc cm d y
    | _ => false
def chkEs (S : Sg) (N : List Str) (sc : Scope) (cm : Bool) : CEs → List Expr → Bool
  | .nil, [] => true
  | .cons c cs, e :: es => chkE S N sc cm c e && chkEs S N sc cm cs es
  | _, _ => false
def chkI (S : Sg) (N : List Str) (sc : Scope) (cm : Bool) : CI → Expr → Expr → Bool
  | .seq c, _, e => chkE S N sc cm c e
  | .rng1 a, _, e => match e with
    | .Call (.Name x _) [l] [] _ => decide (x = "range") && isGlB sc x && chkE S N sc cm a l
    | _ => false
  | .rng2 a b, _, e => match e with
    | .Call (.Name x _) [l, r] [] _ => decide (x = "range") && isGlB sc x && chkE S N sc cm a l && chkE S N sc cm b r
    | _ => false
  | .rng3 a b c, _, e => match e with
    | .Call (.Name x _) [l, r, q] [] _ => decide (x = "range") && isGlB sc x && chkE S N sc cm a l && chkE S N sc cm b r && chkE S N sc cm c q
    | _ => false
  | .enum a, tg, e => match tg with
    | .Tuple _ _ _ => match e with
      | .Call (.Name x _) [l] [] _ => decide (x = "enumerate") && isGlB sc x && chkE S N sc cm a l
      | _ => false
    | _ => false
  | .zip a b, tg, e => match tg with
    | .Tuple _ _ _ => match e with
      | .Call (.Name x _) [l, r] [] _ => decide (x = "zip") && isGlB sc x && chkE S N sc cm a l && chkE S N sc cm b r
      | _ => false
    | _ => false
end

/-! ## where a term runs -/
structure Sees (sc sc' : Scope) : Prop where
  loc : ∀ x, sc.names.lookup x = some .local → sc'.names.lookup x = some .local
  cell : ∀ x, sc.names.lookup x = some .cell → sc'.names.lookup x = some .cell
  free : ∀ x, sc.names.lookup x = some .free → sc'.names.lookup x = some .cell ∨ sc'.names.lookup x = some .free
  gl : ∀ x, sc.names.lookup x = some .globalImplicit → sc'.names.lookup x = some .globalImplicit
theorem Sees.refl {sc : Scope} : Sees sc sc := ⟨fun _ h => h, fun _ h => h, fun _ h => .inr h, fun _ h => h⟩
theorem lookup_relabel_keep {sc' : Scope} : ∀ {names : List (Str × NameKind)} {x : Str} {k : NameKind}, names.lookup x = some k → 
    (names.map fun (n, k) => if (k == NameKind.free && sc'.kind == .function && sc'.names.lookup n == some .cell) then (n, NameKind.cell) else (n, k)).lookup x = some k ∨ (k = .free ∧ (names.map fun (n, k) => if (k == NameKind.free && sc'.kind == .function && sc'.names.lookup n == some .cell) then (n, NameKind.cell) else (n, k)).lookup x = some .cell)
  | [], _, _, h => by simp at h
  | (n, k₀) :: r, x, k, h => by
    have ih := @lookup_relabel_keep sc' r x k
    show List.lookup x ((if (k₀ == NameKind.free && sc'.kind == .function && sc'.names.lookup n == some .cell) = true then (n, NameKind.cell) else (n, k₀)) :: _) = _ ∨ _ ∧ List.lookup x ((if (k₀ == NameKind.free && sc'.kind == .function && sc'.names.lookup n == some .cell) = true then (n, NameKind.cell) else (n, k₀)) :: _) = _
    by_cases hx : x = n
    · subst hx
      simp only [List.lookup, beq_self_eq_true] at h
      cases h
      split
      · rename_i hc
        simp only [Bool.and_eq_true, beq_iff_eq] at hc
        right
        refine ⟨hc.1.1, ?_⟩
        simp [List.lookup]
      · left
        simp [List.lookup]
    · have hb : (x == n) = false := by simpa using hx
      simp only [List.lookup, hb] at h
      have ih' := ih h
      split <;> simpa [List.lookup, hb] using ih'
theorem Sees.comp {scope : Scope} {cl : List (Str × Addr)} {C : Addr} {env : Env} : Sees scope (compEnvC scope cl C env).scope := by
  have key := @lookup_relabel_keep env.scope scope.names
  refine ⟨fun x h => ?_, fun x h => ?_, fun x h => ?_, fun x h => ?_⟩
  · rcases key h with q | ⟨q, _⟩
    · exact q
    · cases q
  · rcases key h with q | ⟨q, _⟩
    · exact q
    · cases q
  · rcases key h with q | ⟨_, q⟩
    · exact .inr q
    · exact .inl q
  · rcases key h with q | ⟨q, _⟩
    · exact q
    · cases q
end Cl

namespace Cl
open PySem PySem.Spec PyProof.Rows L2

def bltNames : List Str := ["len", "abs", "int", "tuple", "list", "sorted", "sum", "all", "any", "max", "min", "str", "set", "isinstance", "range", "enumerate", "zip", "bool", "dict", "reversed"]
/-- the value of a module's constant -/
def GV (R : RC) : D → V → Prop
  | .non, v => v = .non
  | .bl b, v => v = .bl b
  | .int i, v => v = .int i
  | .str x, v => v = .str x
  | .fn i, v => v = .ref (R.fa i)
  | .tup ds, v => ∃ a, v = .ref a ∧ (a, D.tup ds) ∈ R.gt
  | _, _ => False
theorem GV.rd {R : RC} {ρ φ : List Addr} {H : Hp} {h : Hc} (r : RelH R ρ φ H h) : ∀ {d : D} {v : V}, GV R d v → RD R ρ φ H d v
  | .non, _, q => by simp only [RD]; exact q
  | .bl _, _, q => by simp only [RD]; exact q
  | .int _, _, q => by simp only [RD]; exact q
  | .str _, _, q => by simp only [RD]; exact q
  | .fn _, _, q => by simp only [RD]; exact q
  | .tup ds, _, ⟨a, e, m⟩ => by subst e; exact (r.gt _ m).2
  | .lst _, _, q => q.elim
  | .ref _, _, q => q.elim
def spC (R : RC) (Y : XC) (C : Caller) (i : Nat) : Sp := fun vs H Q E => ∃ ρ φ ds h, RelH R ρ φ H h ∧ RDs R ρ φ H ds vs ∧ Fin R Y (fun cls dd _ H => E cls dd H) [] ρ φ H (rD R φ) (C i ds h) Q
/-- a run's ground: where a term runs, all that its proof leans on -/
structure Gd (S : Sg) (R : RC) (C : Caller) (Y : XC) (n : Nat) (N : List Str) (cm : Bool) (sc : Scope) (X : Cx) (W : WX) : Prop where
  hK : R.K = X.K
  hN : X.N = N
  nd : N.Nodup
  sees : Sees sc X.env.scope
  fnc : ∀ x, sc.names.lookup x = some .cell → X.fn x = true
  calm : cm = true → X.calm = true
  tk : Takes X W
  hu : X.A.units + 100 < cLine
  glob : ∀ x d, S.glob x = some d → ∃ u v, X.mg x = some u ∧ RelV v u ∧ GV R d v
  blt : ∀ x ∈ bltNames, X.mg x = none
  room : cm = true → Room n X.A
  calls : ∀ i x, S.fns[i]? = some x → ∃ fd ps, X.mg x = some (.ref (R.fa i)) ∧ PySem.W.keepIn X.K (.ref (R.fa i)) = true ∧ Binds X.K fd ps [] ∧ FnOk X.prog X.w X.K X.mg X.base (L2.CX X.prog X.w) n (R.fa i) fd ps (spC R Y C i)
def tE (R : RC) (Y : XC) (W : WX) (f : EvF) : TE := fun σ H Q => ∃ ρ φ c h, RelS R ρ φ H c σ ∧ RelH R ρ φ H h ∧ Fin R Y W σ ρ φ H (rD R φ) (f c h) Q
def tA (R : RC) (Y : XC) (W : WX) (f : CSt → Hc → ERes (List D)) : TA := fun σ H Q => ∃ ρ φ c h, RelS R ρ φ H c σ ∧ RelH R ρ φ H h ∧ Fin R Y W σ ρ φ H (rDs R φ) (f c h) Q
abbrev rEq {α : Type} : List Addr → Hp → α → α → Prop := fun _ _ a b => a = b
def tT (R : RC) (Y : XC) (W : WX) (f : EvF) : TT := fun σ H Q => ∃ ρ φ c h, RelS R ρ φ H c σ ∧ RelH R ρ φ H h ∧ Fin R Y W σ ρ φ H rEq (boolR (f c h)) Q
/-- a new list, held back -/
def FinL (R : RC) (Y : XC) (W : WX) (σ : L2.St) (ρ φ : List Addr) (H : Hp) (r : ERes D) (Q : V → Hp → Prop) : Prop :=
  match r with
  | .ok (.lst xs) h' => ∀ ρ' p ws H', Ext ρ ρ' H H' → RelH R ρ' (p :: φ) H' h' → H p = none → p ∉ φ → H' p = some (.lst ws) → RDs R ρ' (p :: φ) H' xs ws → Q (.ref p) H'
  | .ok _ _ => True
  | .exc x h' => ∀ ρ' cls dd H', Ext ρ ρ' H H' → RelH R ρ' φ H' h' → RX R Y ρ' φ H' x cls dd → W cls dd σ H'
  | .stuck => False
def tL (R : RC) (Y : XC) (W : WX) (f : EvF) : TE := fun σ H Q => ∃ ρ φ c h, RelS R ρ φ H c σ ∧ RelH R ρ φ H h ∧ FinL R Y W σ ρ φ H (f c h) Q ∧ ∀ d h', f c h = .ok d h' → ∃ xs, d = .lst xs
section
variable {S : Sg} {R : RC} {C : Caller} {Y : XC} {n : Nat} {N : List Str} {cm : Bool} {sc : Scope} {X : Cx} {W : WX} {e : Expr}
theorem pe_imp {t t' : TE} (h : PE X e t) (k : ∀ σ H Q, t' σ H Q → t σ H Q) : PE X e t' := ⟨fun pins s σ H Q I q => h.run pins s σ H Q I (k σ H Q q)⟩
theorem pt_imp {t t' : TT} (h : PT X e t) (k : ∀ σ H Q, t' σ H Q → t σ H Q) : PT X e t' := ⟨fun pins s σ H Q I q => h.run pins s σ H Q I (k σ H Q q)⟩
theorem pw_imp {t t' : TT} (h : PW X e t) (k : ∀ σ H Q, t' σ H Q → t σ H Q) : PW X e t' := ⟨fun wh pins s σ H Q I q => h.run wh pins s σ H Q I (k σ H Q q)⟩
theorem pa_imp {es : List Expr} {t t' : TA} (h : PA X es t) (k : ∀ σ H Q, t' σ H Q → t σ H Q) : PA X es t' := ⟨fun pos pins s σ H Q I q => h.run pos pins s σ H Q I (k σ H Q q)⟩
theorem tE_of {f g : EvF} (h : PE X e (tE R Y W f)) (k : ∀ c h, f c h = g c h) : PE X e (tE R Y W g) := by
  have : f = g := by funext c h; exact k c h
  rw [← this]; exact h
theorem Sees.vis {sc' : Scope} (s : Sees sc sc') {x : Str} (h : visK (sc.names.lookup x) = true) : Vis sc' x := by
  cases q : sc.names.lookup x with
  | none => rw [q] at h; cases h
  | some k =>
    cases k with
    | «local» => exact .inl (s.loc x q)
    | cell => exact .inr (.inl (s.cell x q))
    | free => exact (s.free x q).elim (fun z => .inr (.inl z)) fun z => .inr (.inr z)
    | globalExplicit => rw [q] at h; cases h
    | globalImplicit => rw [q] at h; cases h
theorem nm_dbg {x : Str} (h : nmOk x = true) : (x == ("__debug__" : Str)) = false ∧ (x == ("__classdict__" : Str)) = false ∧ x ≠ "__name__" := by
  unfold nmOk at h
  simp only [Bool.and_eq_true, decide_eq_true_eq] at h
  refine ⟨h.1.1, h.1.2, fun e => ?_⟩
  have := h.2
  rw [e] at this
  simp at this
theorem chk_ns : ∀ {c : CE} {e : Expr}, chkE S N sc cm c e = true → ∀ (es : List Expr) (env : PySem.Env), starEach (e :: es) env = (false, eval e env) :: starEach es env := by
  intro c e h es env
  cases e with
  | Starred v p =>
    exfalso
    cases c with
    | cell c =>
      have h' : (freshC c && chkE S N sc cm c (.Starred v p)) = true := h
      rw [Bool.and_eq_true] at h'
      obtain ⟨h1, h2⟩ := h'
      cases c with
      | bi b args => cases b <;> exact Bool.noConfusion (show false = true from h2)
      | _ => first | exact Bool.noConfusion (show false = true from h2) | exact Bool.noConfusion (show false = true from h1)
    | bi b args => cases b <;> exact Bool.noConfusion (show false = true from h)
    | _ => exact Bool.noConfusion (show false = true from h)
  | _ => rfl
theorem chks_plain : ∀ {cs : CEs} {es : List Expr}, chkEs S N sc cm cs es = true → ∀ (pos : Pos) (env : PySem.Env), (backTo pos (starEach es env)).any (·.1) = false
  | .nil, [], _, _, _ => rfl
  | .nil, _ :: _, h, _, _ => by simp [chkEs] at h
  | .cons c cs, [], h, _, _ => by simp [chkEs] at h
  | .cons c cs, e :: es, h, pos, env => by
    simp only [chkEs, Bool.and_eq_true] at h
    rw [chk_ns h.1]
    show ((false, _).1 || (backTo pos (starEach es env)).any (·.1)) = false
    rw [chks_plain h.2]
    rfl
theorem attr_base {o : Expr} {m : Str} {env : PySem.Env} (h : baseOk o = true) : attributeBase o m env (eval o env) = eval o env := by
  cases o <;> first | rfl | (simp [baseOk] at h)
theorem notset_fold {e : Expr} {env : PySem.Env} (h : notSet e = true) : ∀ x, foldedSetIterable e env x = pure x := by
  intro x
  cases e <;> first | rfl | (simp [notSet] at h)
theorem notset_mark {e : Expr} {op : CmpOp} (h : notSet e = true) : behindInMarks op e = false := by
  cases e <;> first | rfl | (simp [notSet] at h)
end
end Cl

namespace Cl
open PySem PySem.Spec PyProof.Rows L2
section
variable {S : Sg} {R : RC} {C : Caller} {Y : XC} {n : Nat} {N : List Str} {cm : Bool} {sc : Scope} {X : Cx} {W : WX} (G : Gd S R C Y n N cm sc X W) {pos : Pos}
include G
theorem Gd.glb {x : Str} (h : isGlB sc x = true) : Gl X x ∧ nmOk x = true := by
  unfold isGlB at h
  simp only [Bool.and_eq_true, decide_eq_true_eq] at h
  exact ⟨G.sees.gl x h.1, h.2⟩
theorem c_var {i : Nat} {x : Str} (h : isVarB N sc i x = true) : PE X (.Name x pos) (tE R Y W (evE C (.var i))) := by
  unfold isVarB at h
  simp only [Bool.and_eq_true, decide_eq_true_eq] at h
  obtain ⟨⟨h1, h2⟩, h3⟩ := h
  obtain ⟨d1, d2, _⟩ := nm_dbg h3
  refine pe_imp (pe_var (i := i) (by rw [G.hN]; exact h1) (G.sees.vis h2) d1 d2) fun σ H Q ⟨ρ, φ, c, h, hS, hH, f⟩ => ?_
  simp only [evE] at f
  cases q : c[i]? with
  | none => rw [q] at f; exact f.elim
  | some o =>
    cases o with
    | none => rw [q] at f; exact f.elim
    | some d =>
      rw [q] at f
      obtain ⟨v, h4, h5⟩ := hS.at_ i d q
      exact ⟨v, h4, f ρ v H Ext.refl hH h5⟩
omit G in
theorem c_cst {d : D} {c : Const} {k : Nat} (h : chkC d c = true) : PE X (.Constant c k pos) (tE R Y W (evE C (.cst d))) := by
  cases d with
  | non =>
    cases c <;> simp [chkC] at h
    exact pe_imp pe_non fun σ H Q ⟨ρ, φ, c, h, hS, hH, f⟩ => f ρ _ H Ext.refl hH (by simp only [RD])
  | bl b =>
    cases c <;> simp [chkC] at h
    subst h
    exact pe_imp pe_bl fun σ H Q ⟨ρ, φ, c, h, hS, hH, f⟩ => f ρ _ H Ext.refl hH (by simp only [RD])
  | int b =>
    cases c <;> simp [chkC] at h
    subst h
    exact pe_imp pe_int fun σ H Q ⟨ρ, φ, c, h, hS, hH, f⟩ => f ρ _ H Ext.refl hH (by simp only [RD])
  | str b =>
    cases c <;> simp [chkC] at h
    subst h
    exact pe_imp pe_str fun σ H Q ⟨ρ, φ, c, h, hS, hH, f⟩ => f ρ _ H Ext.refl hH (by simp only [RD])
  | _ => cases c <;> simp [chkC] at h
theorem c_glob {x y : Str} {d : D} (h1 : isGlB sc y = true) (h2 : S.glob y = some d) : PE X (.Name y pos) (tE R Y W (evE C (.glob x d))) := by
  obtain ⟨g1, g2⟩ := G.glb h1
  obtain ⟨u, v, m1, m2, m3⟩ := G.glob y d h2
  exact pe_imp (pe_glob g1 m1 m2 (nm_dbg g2).1) fun σ H Q ⟨ρ, φ, c, h, hS, hH, f⟩ => f ρ _ H Ext.refl hH (m3.rd hH)
variable {a b c : CE} {ea eb ec : Expr}
theorem c_bin {op : Operator} (ha : PE X ea (tE R Y W (evE C a))) (hb : PE X eb (tE R Y W (evE C b))) : PE X (.BinOp ea op eb pos) (tE R Y W (evE C (.bin op a b))) :=
  pe_imp (pe_op (binR G.hK op) ha hb) fun σ H Q ⟨ρ, φ, s, h, hS, hH, f⟩ => by
    simp only [evE] at f
    refine ⟨ρ, φ, s, h, hS, hH, f.bind fun x h1 ρ1 v H1 _ e1 hH1 r1 f1 => ?_⟩
    refine ⟨ρ1, φ, s, h1, hS.ext e1, hH1, f1.bind fun y h2 ρ2 u H2 _ e2 hH2 r2 f2 => ?_⟩
    obtain ⟨d, ed, k⟩ := Fin.ofO f2
    exact ⟨ρ2, φ, h2, x, y, d, hH2, r1.ext e2, r2, ed, k⟩
omit G in
theorem c_neg (ha : PE X ea (tE R Y W (evE C a))) : PE X (.UnaryOp .USub ea pos) (tE R Y W (evE C (.neg a))) :=
  pe_imp (pe_un un_neg ha) fun σ H Q ⟨ρ, φ, s, h, hS, hH, f⟩ => by
    simp only [evE] at f
    refine ⟨ρ, φ, s, h, hS, hH, f.bind fun x h1 ρ1 v H1 _ e1 hH1 r1 f1 => ?_⟩
    cases x with
    | int i =>
      simp only [RD] at r1
      exact ⟨i, r1, f1 _ _ _ Ext.refl hH1 (by simp only [RD])⟩
    | _ => exact f1.elim
omit G in
theorem c_not (ha : PE X ea (tE R Y W (evE C a))) : PE X (.UnaryOp .Not ea pos) (tE R Y W (evE C (.not_ a))) :=
  pe_imp (pe_not ha) fun σ H Q ⟨ρ, φ, s, h, hS, hH, f⟩ => by
    simp only [evE] at f
    refine ⟨ρ, φ, s, h, hS, hH, f.bind fun x h1 ρ1 v H1 _ e1 hH1 r1 f1 => ?_⟩
    cases x with
    | bl i =>
      simp only [RD] at r1
      exact ⟨i, r1, f1 _ _ _ Ext.refl hH1 (by simp only [RD])⟩
    | _ => exact f1.elim
theorem c_cmp {op : CmpOp} (hs : notSet eb = true) (ha : PE X ea (tE R Y W (evE C a))) (hb : PE X eb (tE R Y W (evE C b))) : PE X (.Compare ea [op] [eb] pos) (tE R Y W (evE C (.cmp op a b))) :=
  pe_imp (pe_cmpR (cmpR G.hK op G.hu) ha hb (notset_mark hs)) fun σ H Q ⟨ρ, φ, s, h, hS, hH, f⟩ => by
    simp only [evE] at f
    refine ⟨ρ, φ, s, h, hS, hH, f.bind fun x h1 ρ1 v H1 _ e1 hH1 r1 f1 => ?_⟩
    refine ⟨ρ1, φ, s, h1, hS.ext e1, hH1, f1.bind fun y h2 ρ2 u H2 _ e2 hH2 r2 f2 => ?_⟩
    obtain ⟨d, ed, k⟩ := Fin.ofO f2
    obtain ⟨q, eq, rfl⟩ := Option.map_eq_some_iff.mp ed
    exact ⟨ρ2, φ, h2, x, y, q, hH2, r1.ext e2, r2, eq, k _ _ _ Ext.refl hH2 (by simp only [RD])⟩
theorem chain_read {op op' : CmpOp} {σ : L2.St} {H : Hp} {Q : VK} (q : tE R Y W (evE C (.chain op op' a b c)) σ H Q) :
    tChain (rB R fun h => cmpF h op) (rB R fun h => cmpF h op') (tE R Y W (evE C a)) (tE R Y W (evE C b)) (tE R Y W (evE C c)) σ H Q := by
  obtain ⟨ρ, φ, s, h, hS, hH, f⟩ := q
  simp only [evE] at f
  refine ⟨ρ, φ, s, h, hS, hH, f.bind fun x h1 ρ1 v H1 _ e1 hH1 r1 f1 => ?_⟩
  refine ⟨ρ1, φ, s, h1, hS.ext e1, hH1, f1.bind fun y h2 ρ2 u H2 _ e2 hH2 r2 f2 => ?_⟩
  cases eq : cmpF h2 op x y with
  | none => rw [eq] at f2; exact f2.elim
  | some k =>
    rw [eq] at f2
    refine ⟨ρ2, φ, h2, x, y, k, hH2, r1.ext e2, r2, eq, k, rfl, ?_⟩
    cases k with
    | false => exact f2 _ _ _ Ext.refl hH2 (by simp only [RD])
    | true =>
      rw [if_pos rfl]
      refine ⟨ρ2, φ, s, h2, (hS.ext e1).ext e2, hH2, f2.bind fun z h3 ρ3 w H3 _ e3 hH3 r3 f3 => ?_⟩
      obtain ⟨d, ed, k⟩ := Fin.ofO f3
      obtain ⟨q, eq, rfl⟩ := Option.map_eq_some_iff.mp ed
      exact ⟨ρ3, φ, h3, y, z, q, hH3, r2.ext e3, r3, eq, k _ _ _ Ext.refl hH3 (by simp only [RD])⟩
theorem c_chain {op op' : CmpOp} (hs : notSet ec = true) (ha : PE X ea (tE R Y W (evE C a))) (hb : PE X eb (tE R Y W (evE C b))) (hc : PE X ec (tE R Y W (evE C c))) :
    PE X (.Compare ea [op, op'] [eb, ec] pos) (tE R Y W (evE C (.chain op op' a b c))) :=
  pe_imp (pe_chain (cmpR G.hK op G.hu) (cmpR G.hK op' G.hu) ha hb hc (notset_mark hs)) fun σ H Q q => chain_read G q
omit G in
theorem and_read {ta tb : EvF} {f : EvF} (hf : ∀ s h, f s h = (ta s h).bind fun x h => match x with | .bl true => tb s h | .bl false => .ok (.bl false) h | _ => .stuck) {σ : L2.St} {H : Hp} {Q : VK} (q : tE R Y W f σ H Q) : tAndV (tE R Y W ta) (tE R Y W tb) σ H Q := by
  obtain ⟨ρ, φ, s, h, hS, hH, f⟩ := q
  rw [hf] at f
  refine ⟨ρ, φ, s, h, hS, hH, f.bind fun x h1 ρ1 v H1 _ e1 hH1 r1 f1 => ?_⟩
  cases x with
  | bl k =>
    simp only [RD] at r1
    refine ⟨k, r1, ?_⟩
    cases k with
    | true => rw [if_pos rfl]; exact ⟨ρ1, φ, s, h1, hS.ext e1, hH1, f1⟩
    | false => exact f1 _ _ _ Ext.refl hH1 (by simp only [RD])
  | _ => exact f1.elim
omit G in
theorem or_read {ta tb : EvF} {f : EvF} (hf : ∀ s h, f s h = (ta s h).bind fun x h => match x with | .bl true => .ok (.bl true) h | .bl false => tb s h | _ => .stuck) {σ : L2.St} {H : Hp} {Q : VK} (q : tE R Y W f σ H Q) : tOrV (tE R Y W ta) (tE R Y W tb) σ H Q := by
  obtain ⟨ρ, φ, s, h, hS, hH, f⟩ := q
  rw [hf] at f
  refine ⟨ρ, φ, s, h, hS, hH, f.bind fun x h1 ρ1 v H1 _ e1 hH1 r1 f1 => ?_⟩
  cases x with
  | bl k =>
    simp only [RD] at r1
    refine ⟨k, r1, ?_⟩
    cases k with
    | true => exact f1 _ _ _ Ext.refl hH1 (by simp only [RD])
    | false => rw [if_neg Bool.false_ne_true]; exact ⟨ρ1, φ, s, h1, hS.ext e1, hH1, f1⟩
  | _ => exact f1.elim
omit G in
theorem c_and {rest : List Expr} (ha : PE X ea (tE R Y W (evE C a))) (hb : PE X (.BoolOp .And (eb :: rest) pos) (tE R Y W (evE C b))) : PE X (.BoolOp .And (ea :: eb :: rest) pos) (tE R Y W (evE C (.and_ a b))) :=
  pe_imp (pe_and ha hb) fun σ H Q q => and_read (fun s h => by simp only [evE]; all_goals rfl) q
omit G in
theorem c_or {rest : List Expr} (ha : PE X ea (tE R Y W (evE C a))) (hb : PE X (.BoolOp .Or (eb :: rest) pos) (tE R Y W (evE C b))) : PE X (.BoolOp .Or (ea :: eb :: rest) pos) (tE R Y W (evE C (.or_ a b))) :=
  pe_imp (pe_or ha hb) fun σ H Q q => or_read (fun s h => by simp only [evE]; all_goals rfl) q

/-! ### tests -/
omit G in
theorem boolR_bind {α : Type} (r : ERes α) (f : α → Hc → ERes D) : boolR (r.bind f) = r.bind fun a h => boolR (f a h) := by cases r <;> rfl
omit G in
theorem t_val {e : Expr} {f : EvF} (h : PE X e (tE R Y W f)) (he : ∀ whole, isTrue e X.env whole = (do let v ← whole; standAt e.pos; holding [v] (truthy v))) : PT X e (tT R Y W f) :=
  pt_imp (pt_val h he) fun σ H Q ⟨ρ, φ, s, h, hS, hH, k⟩ => by
    refine ⟨ρ, φ, s, h, hS, hH, ?_⟩
    cases q : f s h with
    | stuck => rw [q] at k; exact k.elim
    | exc x h' => rw [q] at k; exact k
    | ok d h' =>
      rw [q] at k
      cases d with
      | bl b =>
        intro ρ' v H' e1 hH1 r1
        simp only [RD] at r1
        exact ⟨b, r1, k ρ' b H' e1 hH1 rfl⟩
      | _ => exact k.elim
omit G in
theorem t_not (ha : PT X ea (tT R Y W (evE C a))) : PT X (.UnaryOp .Not ea pos) (tT R Y W (evE C (.not_ a))) :=
  pt_imp (pt_not ha) fun σ H Q ⟨ρ, φ, s, h, hS, hH, k⟩ => by
    refine ⟨ρ, φ, s, h, hS, hH, ?_⟩
    simp only [evE] at k
    cases q : evE C a s h with
    | stuck => rw [q] at k; exact k.elim
    | exc x h' => rw [q] at k; exact k
    | ok d h' =>
      rw [q] at k
      cases d with
      | bl b => exact fun ρ' v H' e1 hH1 r1 => k ρ' _ H' e1 hH1 (by rw [r1])
      | _ => exact k.elim
theorem t_cmp {op : CmpOp} (hs : notSet eb = true) (ha : PE X ea (tE R Y W (evE C a))) (hb : PE X eb (tE R Y W (evE C b))) : PT X (.Compare ea [op] [eb] pos) (tT R Y W (evE C (.cmp op a b))) :=
  pt_imp (pt_cmpR (cmpR G.hK op G.hu) ha hb (notset_mark hs)) fun σ H Q ⟨ρ, φ, s, h, hS, hH, f⟩ => by
    simp only [evE, boolR_bind] at f
    refine ⟨ρ, φ, s, h, hS, hH, f.bind fun x h1 ρ1 v H1 _ e1 hH1 r1 f1 => ?_⟩
    refine ⟨ρ1, φ, s, h1, hS.ext e1, hH1, f1.bind fun y h2 ρ2 u H2 _ e2 hH2 r2 f2 => ?_⟩
    cases eq : cmpF h2 op x y with
    | none => rw [eq] at f2; exact f2.elim
    | some k =>
      rw [eq] at f2
      exact ⟨ρ2, φ, h2, x, y, k, hH2, r1.ext e2, r2, eq, k, rfl, f2 _ _ _ Ext.refl hH2 rfl⟩
theorem t_chain {op op' : CmpOp} (hs : notSet ec = true) (ha : PE X ea (tE R Y W (evE C a))) (hb : PE X eb (tE R Y W (evE C b))) (hc : PE X ec (tE R Y W (evE C c))) :
    PT X (.Compare ea [op, op'] [eb, ec] pos) (tT R Y W (evE C (.chain op op' a b c))) :=
  pt_imp (pt_chain (cmpR G.hK op G.hu) (cmpR G.hK op' G.hu) ha hb hc (notset_mark hs)) fun σ H Q ⟨ρ, φ, s, h, hS, hH, k⟩ => by
    refine chain_read G ⟨ρ, φ, s, h, hS, hH, ?_⟩
    cases q : evE C (.chain op op' a b c) s h with
    | stuck => rw [q] at k; exact k.elim
    | exc x h' => rw [q] at k; exact k
    | ok d h' =>
      rw [q] at k
      cases d with
      | bl b =>
        intro ρ' v H' e1 hH1 r1
        simp only [RD] at r1
        exact ⟨b, r1, k ρ' b H' e1 hH1 rfl⟩
      | _ => exact k.elim
omit G in
theorem and_readT {ta tb : EvF} {f : EvF} (hf : ∀ s h, f s h = (ta s h).bind fun x h => match x with | .bl true => tb s h | .bl false => .ok (.bl false) h | _ => .stuck) {σ : L2.St} {H : Hp} {Q : Bool → Hp → Prop} (q : tT R Y W f σ H Q) : tAnd (tT R Y W ta) (tT R Y W tb) σ H Q := by
  obtain ⟨ρ, φ, s, h, hS, hH, f⟩ := q
  rw [hf] at f
  refine ⟨ρ, φ, s, h, hS, hH, ?_⟩
  cases q : ta s h with
  | stuck => rw [q] at f; exact f.elim
  | exc x h' => rw [q] at f; exact f
  | ok d h' =>
    rw [q] at f
    cases d with
    | bl k =>
        intro ρ1 v H1 e1 hH1 r1
        subst r1
        cases k with
        | true => rw [if_pos rfl]; exact ⟨ρ1, φ, s, h', hS.ext e1, hH1, Fin.ext (r := boolR (tb s h')) f e1⟩
        | false => exact f ρ1 _ H1 e1 hH1 rfl
    | _ => exact f.elim
omit G in
theorem or_readT {ta tb : EvF} {f : EvF} (hf : ∀ s h, f s h = (ta s h).bind fun x h => match x with | .bl true => .ok (.bl true) h | .bl false => tb s h | _ => .stuck) {σ : L2.St} {H : Hp} {Q : Bool → Hp → Prop} (q : tT R Y W f σ H Q) : tOr (tT R Y W ta) (tT R Y W tb) σ H Q := by
  obtain ⟨ρ, φ, s, h, hS, hH, f⟩ := q
  rw [hf] at f
  refine ⟨ρ, φ, s, h, hS, hH, ?_⟩
  cases q : ta s h with
  | stuck => rw [q] at f; exact f.elim
  | exc x h' => rw [q] at f; exact f
  | ok d h' =>
    rw [q] at f
    cases d with
    | bl k =>
        intro ρ1 v H1 e1 hH1 r1
        subst r1
        cases k with
        | false => rw [if_neg Bool.false_ne_true]; exact ⟨ρ1, φ, s, h', hS.ext e1, hH1, Fin.ext (r := boolR (tb s h')) f e1⟩
        | true => exact f ρ1 _ H1 e1 hH1 rfl
    | _ => exact f.elim
omit G in
theorem t_and {rest : List Expr} (ha : PT X ea (tT R Y W (evE C a))) (hb : PW X (.BoolOp .And (eb :: rest) pos) (tT R Y W (evE C b))) : PW X (.BoolOp .And (ea :: eb :: rest) pos) (tT R Y W (evE C (.and_ a b))) :=
  pw_imp (pw_and ha hb) fun σ H Q q => and_readT (fun s h => by simp only [evE]; all_goals rfl) q
omit G in
theorem t_or {rest : List Expr} (ha : PT X ea (tT R Y W (evE C a))) (hb : PW X (.BoolOp .Or (eb :: rest) pos) (tT R Y W (evE C b))) : PW X (.BoolOp .Or (ea :: eb :: rest) pos) (tT R Y W (evE C (.or_ a b))) :=
  pw_imp (pw_or ha hb) fun σ H Q q => or_readT (fun s h => by simp only [evE]; all_goals rfl) q
omit G in
theorem ite_readT {tt ta tb : EvF} {Z : Type} {f : CSt → Hc → ERes Z} {g : ERes D → ERes Z} (hg0 : ∀ x h, g (.exc x h) = .exc x h) (hg1 : g .stuck = .stuck) (hf : ∀ s h, f s h = g ((tt s h).bind fun x h => match x with | .bl true => ta s h | .bl false => tb s h | _ => .stuck))
    {ρ φ : List Addr} {s : CSt} {h : Hc} {σ : L2.St} {H : Hp} {β : Type} {rel : List Addr → Hp → Z → β → Prop} {Q : β → Hp → Prop} (k : Fin R Y W σ ρ φ H rel (f s h) Q) {P : Bool → Hp → Prop}
    (kt : ∀ b ρ1 H1 h1, Ext ρ ρ1 H H1 → RelH R ρ1 φ H1 h1 → Fin R Y W σ ρ1 φ H1 rel (g (if b then ta s h1 else tb s h1)) Q → P b H1) : Fin R Y W σ ρ φ H rEq (boolR (tt s h)) P := by
  rw [hf] at k
  cases q : tt s h with
  | stuck => rw [q] at k; rw [show g (ERes.bind ERes.stuck _) = ERes.stuck from hg1] at k; exact k.elim
  | exc x h' => rw [q] at k; rw [show g (ERes.bind (ERes.exc x h') _) = ERes.exc x h' from hg0 x h'] at k; exact k
  | ok d h' =>
    rw [q] at k
    cases d with
    | bl b =>
        intro ρ1 v H1 e1 hH1 r1
        subst r1
        cases b with
        | true => exact kt true ρ1 H1 h' e1 hH1 (Fin.ext (r := g (ta s h')) k e1)
        | false => exact kt false ρ1 H1 h' e1 hH1 (Fin.ext (r := g (tb s h')) k e1)
    | _ =>
      have k' : Fin R Y W σ ρ φ H rel (g ERes.stuck) Q := k
      rw [hg1] at k'
      exact k'.elim
omit G in
theorem c_ite (ht : PT X ea (tT R Y W (evE C a))) (hb : PE X eb (tE R Y W (evE C b))) (hc : PE X ec (tE R Y W (evE C c))) : PE X (.IfExp ea eb ec pos) (tE R Y W (evE C (.ite a b c))) :=
  pe_imp (pe_ifExp ht hb hc) fun σ H Q ⟨ρ, φ, s, h, hS, hH, k⟩ => by
    refine ⟨ρ, φ, s, h, hS, hH, ite_readT (g := id) (fun _ _ => rfl) rfl (fun s h => by simp only [evE, id]; rfl) k fun b ρ1 H1 h1 e1 hH1 k1 => ?_⟩
    cases b with
    | true => rw [if_pos rfl]; exact ⟨ρ1, φ, s, h1, hS.ext e1, hH1, k1⟩
    | false => rw [if_neg Bool.false_ne_true]; exact ⟨ρ1, φ, s, h1, hS.ext e1, hH1, k1⟩
omit G in
theorem pt_ifExp {t ta tb : TT} (ht : PT X ea t) (hb : PT X eb ta) (hc : PT X ec tb) : PT X (.IfExp ea eb ec pos) (fun σ H Q => t σ H fun b H1 => if b = true then ta σ H1 Q else tb σ H1 Q) := by
  refine ⟨fun pins s σ H Q I h => ?_⟩
  show wpAny _ _ (do if ← isTrue ea X.env (eval ea X.env) then isTrue eb X.env (eval eb X.env) else isTrue ec X.env (eval ec X.env)) _ _ s
  refine wpAny_bind (thn (ht.run pins s σ H _ I h) fun d s1 ⟨H1, I1, q1⟩ => ?_)
  cases d with
  | true => exact hb.run pins s1 σ H1 Q I1 q1
  | false => exact hc.run pins s1 σ H1 Q I1 q1
omit G in
theorem t_ite (ht : PT X ea (tT R Y W (evE C a))) (hb : PT X eb (tT R Y W (evE C b))) (hc : PT X ec (tT R Y W (evE C c))) : PT X (.IfExp ea eb ec pos) (tT R Y W (evE C (.ite a b c))) :=
  pt_imp (pt_ifExp ht hb hc) fun σ H Q ⟨ρ, φ, s, h, hS, hH, k⟩ => by
    refine ⟨ρ, φ, s, h, hS, hH, ite_readT (g := boolR) (f := fun s h => boolR (evE C (.ite a b c) s h)) (fun _ _ => rfl) rfl (fun s h => by simp only [evE]; rfl) k fun b ρ1 H1 h1 e1 hH1 k1 => ?_⟩
    cases b with
    | true => rw [if_pos rfl]; exact ⟨ρ1, φ, s, h1, hS.ext e1, hH1, k1⟩
    | false => rw [if_neg Bool.false_ne_true]; exact ⟨ρ1, φ, s, h1, hS.ext e1, hH1, k1⟩
end
end Cl

namespace Cl
open PySem PySem.Spec PyProof.Rows L2
def plainIxB : Expr → Bool
  | .Slice _ _ _ _ => false
  | _ => true
theorem plainIx_of {e : Expr} (h : plainIxB e = true) : PlainIx e := by
  intro o i
  cases e <;> first | rfl | exact Bool.noConfusion (show false = true from h)
section
variable {X : Cx} {R : RC} (hK : R.K = X.K)
theorem ix_dict (hu : X.A.units + 100 < cLine) : IxR X (fun x y H Q => ∃ a v, x = .ref a ∧ DGet H a y (some v) ∧ Q v H) := by
  intro value slice pins s σ H x y v u Q I rx ry ⟨a, z, ex, g, q⟩ hs
  subst ex
  obtain rfl : v = Value.ref a := rx
  have hT := dict_typeIs I g
  unfold subscriptTail
  refine wpAny_bind ?_
  rw [getitemInPython_of_ne hT.not_modules]
  refine wpAny_bind (wpAny_specialOf hT PySem.F.slot_dict_getitem.lookup ?_)
  have fin : wpAny (model X.prog X.w) X.A (subscripted slice false (.ref a) u) (fun r s₃ => wpAny (model X.prog X.w) X.A (letTemporaryGo value (.ref a) r >>= fun _ => pure r) (EP X pins σ Q) X.xe s₃) X.xe s := by
    rw [hs]
    exact wpAny_operating (wpAny_mono (d_getItem (by omega) I g ry fun w' s3 I3 rw' => (⟨z, H, I3, rw', q⟩ : EP X pins σ Q w' s3)) (fun r s₃ h₃ => wpAny_bind (wpAny_letTemporaryGo (wpAny_pure h₃))) fun _ _ x => x)
  first
    | exact wpAny_pure (wpAny_bind fin)
    | exact wpAny_bind fin
    | exact fin
theorem atD_at {α : Type} {xs : List α} {i : Int} : atD xs i = atI xs i := rfl
theorem rds_at {ρ φ : List Addr} {H : Hp} {xs : List D} {vs : List V} {i : Int} {d : D} (r : RDs R ρ φ H xs vs) (e : atD xs i = some d) : ∃ v, atI vs i = some v ∧ RD R ρ φ H d v := by
  unfold atD at e
  obtain ⟨j, e1, e2⟩ := Option.bind_eq_some_iff.mp e
  obtain ⟨v, h1, h2⟩ := r.get e2
  refine ⟨v, ?_, h2⟩
  unfold atI
  rw [← r.len]
  exact Option.bind_eq_some_iff.mpr ⟨j, e1, h1⟩
include hK
theorem idxR (hu : X.A.units + 100 < cLine) : IxR X (rC R idxF) := by
  intro value slice pins s σ H x y v u Q I rx ry ⟨ρ, φ, h, a, b, d, rH, ra, rb, e, k⟩ hs
  have lst : ∀ {l : Addr} {vs : List V} {xs : List D} {i : Int}, x = .ref l → b = .int i → SqL X.K H l vs → RDs R ρ φ H xs vs → atD xs i = some d → wpAny (model X.prog X.w) X.A (subscriptTail value slice v u) (EP X pins σ Q) X.xe s := by
    intro l vs xs i e1 e2 h1 h2 h3
    subst e1 e2
    simp only [RD] at rb
    subst rb
    obtain ⟨z, g1, g2⟩ := rds_at h2 h3
    exact ix_list value slice pins s σ H _ _ v u Q I rx ry ⟨l, vs, i, z, rfl, rfl, h1, g1, k _ _ _ Ext.refl rH g2⟩ hs
  unfold idxF at e
  split at e
  · rename_i z i
    split at e
    · rename_i hz
      obtain ⟨c, ec, rfl⟩ := Option.map_eq_some_iff.mp e
      simp only [RD] at ra rb
      subst ra rb
      exact ix_str value slice pins s σ H _ _ v u Q I rx ry ⟨z, i, c, rfl, rfl, by rw [← line_eq]; exact hz, ec, k _ _ _ Ext.refl rH (by simp only [RD])⟩ hs
    · cases e
  · rename_i n
    have ra' := ra
    simp only [RD] at ra
    obtain ⟨l, el, rfl⟩ := ra
    split at e
    · rename_i xs hc
      obtain ⟨vs, h1, h2⟩ := rH.cells n l _ el hc
      split at e
      · exact lst rfl rfl (SqL.of h1) h2 e
      · cases e
    · rename_i xs hc
      obtain ⟨o, vs, h1, h2⟩ := rH.cells n l _ el hc
      split at e
      · exact lst rfl rfl (.inl (.inr ⟨o, h1⟩)) h2 e
      · cases e
    · obtain ⟨o, e1, e2⟩ := Option.bind_eq_some_iff.mp e
      simp only [id] at e2
      subst e2
      obtain ⟨o', g, q⟩ := look_get rH rb el e1
      rcases q with ⟨q, _⟩ | ⟨d', w, q1, q2, q3⟩
      · cases q
      · cases q1
        subst q2
        exact ix_dict hu value slice pins s σ H _ _ v u Q I rx ry ⟨l, w, rfl, g, k _ _ _ Ext.refl rH q3⟩ hs
  · simp only [RD] at ra
    obtain ⟨l, vs, rfl, h1, h2⟩ := ra
    simp only [RD] at rb
    subst rb
    obtain ⟨z, g1, g2⟩ := rds_at h2 e
    exact ix_tup value slice pins s σ H _ _ v u Q I rx ry ⟨l, vs, _, z, rfl, rfl, hK ▸ h1.sq, g1, k _ _ _ Ext.refl rH g2⟩ hs
  · simp only [RD] at ra
    obtain ⟨l, vs, rfl, h1, h2⟩ := ra
    exact lst rfl rfl (hK ▸ h1.sq) h2 e
  · cases e
end
/-! ### isinstance -/
def kdStr : Kd → String
  | .non => "NoneType" | .bool => "bool" | .int => "int" | .str => "str" | .tuple => "tuple" | .list => "list" | .dict => "dict"
def tyStr : Ty → String
  | .int => "int" | .bool => "bool" | .str => "str" | .tuple => "tuple" | .list => "list" | .dict => "dict"
theorem kit_all (k : Kd) (t : Ty) : kitB (kdStr k) (tyStr t) = some (kdTy k t) := by
  cases k <;> cases t <;> decide +kernel
theorem ty_of {R : RC} {X : Cx} {ρ φ : List Addr} {H : Hp} {h : Hc} (rH : RelH R ρ φ H h) {d : D} {v : V} (r : RD R ρ φ H d v) {k : Kd} (e : kdD h d = some k) : TyX X.K H v (.type (kdStr k)) := by
  cases d with
  | non => simp only [kdD, Option.some.injEq] at e; subst e; simp only [RD] at r; subst r; exact .base .non
  | bl b => simp only [kdD, Option.some.injEq] at e; subst e; simp only [RD] at r; subst r; exact .base (.bl b)
  | int b => simp only [kdD, Option.some.injEq] at e; subst e; simp only [RD] at r; subst r; exact .base (.int b)
  | str b => simp only [kdD, Option.some.injEq] at e; subst e; simp only [RD] at r; subst r; exact .base (.str b)
  | tup ds =>
    simp only [kdD, Option.some.injEq] at e; subst e; simp only [RD] at r
    obtain ⟨a, vs, rfl, h1, _⟩ := r
    exact .base (.tup h1.1)
  | lst ds =>
    simp only [kdD, Option.some.injEq] at e; subst e; simp only [RD] at r
    obtain ⟨a, vs, rfl, h1, _⟩ := r
    exact .base (.lst h1.1)
  | ref n =>
    simp only [RD] at r
    obtain ⟨a, ea, rfl⟩ := r
    unfold kdD at e
    cases hc : h[n]? with
    | none => simp [hc] at e
    | some c =>
      have rc := rH.cells n a c ea hc
      cases c with
      | lst ys =>
        simp only [hc, Option.some.injEq] at e; subst e
        obtain ⟨vs, e1, _⟩ := rc
        exact .base (.lst e1)
      | ro ys =>
        simp only [hc, Option.some.injEq] at e; subst e
        obtain ⟨o, vs, e1, _⟩ := rc
        exact .base (.frz e1)
      | dK ys =>
        simp only [hc, Option.some.injEq] at e; subst e
        obtain ⟨vs, e1, _⟩ := rc
        exact .base (.dK e1)
      | dT ys =>
        simp only [hc, Option.some.injEq] at e; subst e
        obtain ⟨vs, e1, _⟩ := rc
        exact .base (.dT e1)
  | fn i => simp [kdD] at e
theorem boot_ty (t : Ty) : bootBuiltins (tyName t) = some (.type (tyStr t)) := by cases t <;> decide +kernel
theorem blt_ty (t : Ty) : tyName t ∈ bltNames := by cases t <;> decide +kernel
end Cl

namespace Cl
open PySem PySem.Spec PyProof.Rows L2
section
variable {S : Sg} {R : RC} {C : Caller} {Y : XC} {n : Nat} {N : List Str} {cm : Bool} {sc : Scope} {X : Cx} {W : WX} (G : Gd S R C Y n N cm sc X W) {pos : Pos}
/-! ### arguments -/
theorem a_nil : PA X [] (tA R Y W (evEs C .nil)) := pa_imp pa_nil fun σ H Q ⟨ρ, φ, s, h, hS, hH, f⟩ => by
  simp only [evEs] at f
  exact f ρ [] H Ext.refl hH (by simp only [RDs])
theorem a_cons {c : CE} {cs : CEs} {e : Expr} {es : List Expr} (hc : PE X e (tE R Y W (evE C c))) (hcs : PA X es (tA R Y W (evEs C cs))) (hs : starEach (e :: es) X.env = (false, eval e X.env) :: starEach es X.env) :
    PA X (e :: es) (tA R Y W (evEs C (.cons c cs))) :=
  pa_imp (pa_cons hc hcs hs) fun σ H Q ⟨ρ, φ, s, h, hS, hH, f⟩ => by
    simp only [evEs] at f
    refine ⟨ρ, φ, s, h, hS, hH, f.bind fun x h1 ρ1 v H1 _ e1 hH1 r1 f1 => ?_⟩
    refine ⟨ρ1, φ, s, h1, hS.ext e1, hH1, f1.bind fun y h2 ρ2 u H2 _ e2 hH2 r2 f2 => ?_⟩
    exact f2 ρ2 _ H2 Ext.refl hH2 (RDs.cons (r1.ext e2) r2)
theorem fin_sp {σ : L2.St} {ρ φ : List Addr} {H : Hp} {r : ERes D} {Q : VK} (f : Fin R Y W σ ρ φ H (rD R φ) r Q) : Fin R Y (fun cls dd _ H => WE W σ cls dd H) [] ρ φ H (rD R φ) r Q := by
  cases r <;> exact f
include G
theorem c_call {f : Nat} {args : CEs} {x : Str} {e : Expr} {es : List Expr} {p : Pos} (hcm : cm = true) (hf : S.fns[f]? = some x) (hg : isGlB sc x = true) (ha : PA X (e :: es) (tA R Y W (evEs C args)))
    (hs : starEach (e :: es) X.env = (false, eval e X.env) :: starEach es X.env) (hp : (backTo pos (starEach es X.env)).any (·.1) = false) : PE X (.Call (.Name x p) (e :: es) [] pos) (tE R Y W (evE C (.call f args))) := by
  obtain ⟨g1, g2⟩ := G.glb hg
  obtain ⟨fd, ps, m, kp, bd, F⟩ := G.calls f x hf
  refine pe_imp (pe_callS F (G.room hcm) g1 m kp bd (fun σ => passAt G.tk σ) ha (nm_dbg g2).1 hs hp) fun σ H Q ⟨ρ, φ, s, h, hS, hH, k⟩ => ?_
  simp only [evE] at k
  refine ⟨ρ, φ, s, h, hS, hH, k.bind fun ds h1 ρ1 vs H1 _ e1 hH1 r1 f1 => ?_⟩
  exact ⟨ρ1, φ, ds, h1, hH1, r1, fin_sp f1⟩
theorem c_call0 {f : Nat} {x : Str} {p : Pos} (hcm : cm = true) (hf : S.fns[f]? = some x) (hg : isGlB sc x = true) : PE X (.Call (.Name x p) [] [] pos) (tE R Y W (evE C (.call f .nil))) := by
  obtain ⟨g1, g2⟩ := G.glb hg
  obtain ⟨fd, ps, m, kp, bd, F⟩ := G.calls f x hf
  refine ⟨fun pins s σ H Q I ⟨ρ, φ, c, h, hS, hH, k⟩ => ?_⟩
  refine wpAny_Call_Name_kw (ld_glob I g1 m ?_ (nm_dbg g2).1)
  simp only [evE, evEs] at k
  have hk : wpAny (model X.prog X.w) X.A (call (.ref (R.fa f)) []) (EP X pins σ Q) X.xe s := run_fnS F (G.room hcm) bd (passAt G.tk σ) I .nil ⟨ρ, φ, [], h, hH, by simp only [RDs], fin_sp k⟩
  exact PySem.W.callWith_K0 I.kIn kp hk
theorem c_callv {fe : CE} {fs : List Nat} {args : CEs} {ef e : Expr} {es : List Expr} (hcm : cm = true) (hfs : ∀ i ∈ fs, ∃ x, S.fns[i]? = some x) (hf : PE X ef (tE R Y W (evE C fe))) (ha : PA X (e :: es) (tA R Y W (evEs C args)))
    (hd : ∀ {s : Shared} {Q : Value → Shared → Prop}, wpAny (model X.prog X.w) X.A (eval ef X.env) (fun f s₁ => wpAny (model X.prog X.w) X.A (callWith pos f [] (backTo pos (starEach (e :: es) X.env)) (backToKw pos (keywordEach [] X.env))) Q X.xe s₁) X.xe s → wpAny (model X.prog X.w) X.A (eval (.Call ef (e :: es) [] pos) X.env) Q X.xe s)
    (hs : starEach (e :: es) X.env = (false, eval e X.env) :: starEach es X.env) (hp : (backTo pos (starEach es X.env)).any (·.1) = false) : PE X (.Call ef (e :: es) [] pos) (tE R Y W (evE C (.callv fe fs args))) := by
  refine ⟨fun pins s σ H Q I ⟨ρ, φ, c, h, hS, hH, k⟩ => ?_⟩
  simp only [evE] at k
  have q0 : tE R Y W (evE C fe) σ H (fun v H1 => ∃ i ρ1 h1, i ∈ fs ∧ v = .ref (R.fa i) ∧ RelS R ρ1 φ H1 c σ ∧ RelH R ρ1 φ H1 h1 ∧ Fin R Y W σ ρ1 φ H1 (rD R φ) ((evEs C args c h1).bind fun ds h => C i ds h) Q) := by
    refine ⟨ρ, φ, c, h, hS, hH, k.bind fun x h1 ρ1 v H1 _ e1 hH1 r1 f1 => ?_⟩
    cases x with
    | fn i =>
      simp only at f1
      split at f1
      · rename_i hi
        simp only [RD] at r1
        exact ⟨i, ρ1, h1, hi, r1, hS.ext e1, hH1, f1⟩
      · exact f1.elim
    | _ => exact f1.elim
  refine hd (thn (hf.run pins s σ H _ I q0) fun u s1 ⟨y, H1, I1, ry, i, ρ1, h1, hi, ey, hS1, hH1, f1⟩ => ?_)
  subst ey
  obtain rfl : u = Value.ref (R.fa i) := ry
  obtain ⟨x, hx⟩ := hfs i hi
  obtain ⟨fd, ps, m, kp, bd, F⟩ := G.calls i x hx
  have q1 : tA R Y W (evEs C args) σ H1 (fun vs H2 => spC R Y C i vs H2 Q (fun cls dd H => WE W σ cls dd H)) := by
    refine ⟨ρ1, φ, c, h1, hS1, hH1, f1.bind fun ds h2 ρ2 vs H2 _ e2 hH2 r2 f2 => ?_⟩
    exact ⟨ρ2, φ, ds, h2, hH2, r2, fin_sp f2⟩
  refine PySem.W.callWith_K (h₀ := X.base) I1.ok.mod.kin kp (thn (ha.run pos pins s1 σ H1 _ I1 q1) fun us s2 ⟨vs, H2, I2, r, q⟩ => ⟨I2.kIn, ?_⟩) hs hp
  exact run_fnS F (G.room hcm) bd (passAt G.tk σ) I2 r q
/-! ### built-ins by name -/
theorem Gd.bl {x : Str} (h : x ∈ bltNames) : X.mg x = none := G.blt x h
theorem c_biV {v : Value} {g : Hc → List D → Option D} {args : CEs} {x : Str} {e : Expr} {es : List Expr} {p : Pos} {c : CE} (hv : (∃ id, v = .builtin id) ∨ ∃ T, v = .type T) (hc : CallR X v (rV R g)) (hb : bootBuiltins x = some v) (hx : x ∈ bltNames) (hg : isGlB sc x = true)
    (ha : PA X (e :: es) (tA R Y W (evEs C args))) (hs : starEach (e :: es) X.env = (false, eval e X.env) :: starEach es X.env) (hp : (backTo pos (starEach es X.env)).any (·.1) = false)
    (hev : ∀ s h, evE C c s h = (evEs C args s h).bind fun ds h => ofO (g h ds) h) : PE X (.Call (.Name x p) (e :: es) [] pos) (tE R Y W (evE C c)) := by
  obtain ⟨g1, g2⟩ := G.glb hg
  have rd : ∀ σ H Q, tE R Y W (evE C c) σ H Q → tCB (rV R g) (tA R Y W (evEs C args)) σ H Q := fun σ H Q ⟨ρ, φ, s, h, hS, hH, k⟩ => by
    rw [hev] at k
    refine ⟨ρ, φ, s, h, hS, hH, k.bind fun ds h1 ρ1 vs H1 _ e1 hH1 r1 f1 => ?_⟩
    obtain ⟨d, ed, q⟩ := Fin.ofO f1
    exact ⟨ρ1, φ, h1, ds, d, hH1, r1, ed, q⟩
  rcases hv with ⟨id, rfl⟩ | ⟨T, rfl⟩
  · exact pe_imp (pe_callB hc g1 (G.bl hx) hb ha (nm_dbg g2).2.2 (nm_dbg g2).1 hs hp) rd
  · exact pe_imp (pe_callTy hc g1 (G.bl hx) hb ha (nm_dbg g2).2.2 (nm_dbg g2).1 hs hp) rd
omit G in
theorem bi_boot (b : Bi) (h : b ≠ .sortedR) (h2 : b ≠ .lenset) : bootBuiltins (biName b) = some (biVal b) := by
  cases b <;> first | exact absurd rfl h | exact absurd rfl h2 | decide +kernel
omit G in
theorem bi_in (b : Bi) : biName b ∈ bltNames := by cases b <;> decide +kernel
omit G in
theorem bi_val (b : Bi) (h : b ≠ .sortedR) (h2 : b ≠ .lenset) : (∃ id, biVal b = .builtin id) ∨ ∃ T, biVal b = .type T := by
  cases b <;> first | exact absurd rfl h | exact absurd rfl h2 | exact .inl ⟨_, rfl⟩ | exact .inr ⟨_, rfl⟩
theorem c_bi {b : Bi} {args : CEs} {e : Expr} {es : List Expr} {p : Pos} (hcm : cm = true) (hb : b ≠ .sortedR) (hb2 : b ≠ .lenset) (hg : isGlB sc (biName b) = true) (ha : PA X (e :: es) (tA R Y W (evEs C args)))
    (hs : starEach (e :: es) X.env = (false, eval e X.env) :: starEach es X.env) (hp : (backTo pos (starEach es X.env)).any (·.1) = false) : PE X (.Call (.Name (biName b) p) (e :: es) [] pos) (tE R Y W (evE C (.bi b args))) :=
  c_biV G (bi_val b hb hb2) (biR G.hK (G.calm hcm) G.hu b hb hb2) (bi_boot b hb hb2) (bi_in b) hg ha hs hp fun s h => by simp only [evE]
/-! ### isinstance -/
theorem c_isin1 {a : CE} {t : Ty} {e : Expr} {p p2 : Pos} (hcm : cm = true) (hg : isGlB sc "isinstance" = true) (hg2 : isGlB sc (tyName t) = true) (ha : PE X e (tE R Y W (evE C a))) (hs : starEach [e, .Name (tyName t) p2] X.env = (false, eval e X.env) :: starEach [.Name (tyName t) p2] X.env) :
    PE X (.Call (.Name "isinstance" p) [e, .Name (tyName t) p2] [] pos) (tE R Y W (evE C (.isin a [t]))) := by
  obtain ⟨g1, g2⟩ := G.glb hg
  obtain ⟨g3, g4⟩ := G.glb hg2
  have hty : PE X (.Name (tyName t) p2) (tC (.ty (tyStr t))) := pe_bltn g3 (G.bl (blt_ty t)) (boot_ty t) rfl (nm_dbg g4).2.2 (nm_dbg g4).1
  refine pe_imp (pe_callB call_isi g1 (G.bl (by decide +kernel)) (by decide +kernel) (pa_cons ha (pa_cons hty pa_nil) hs) (nm_dbg g2).2.2 (nm_dbg g2).1 hs rfl) fun σ H Q ⟨ρ, φ, s, h, hS, hH, k⟩ => ?_
  simp only [evE] at k
  refine ⟨ρ, φ, s, h, hS, hH, k.bind fun d h1 ρ1 v H1 _ e1 hH1 r1 f1 => ?_⟩
  obtain ⟨b, eb, q⟩ := Fin.ofO f1
  obtain ⟨b', eb', rfl⟩ := Option.map_eq_some_iff.mp eb
  unfold isFs at eb'
  obtain ⟨kd, ek, rfl⟩ := Option.map_eq_some_iff.mp eb'
  refine ⟨v, .ty (tyStr t), _, _, kdTy kd t, rfl, .ty _, ty_of hH1 r1 ek, kit_ty (kit_all kd t), ?_⟩
  have e2 : ([t].any (kdTy kd)) = kdTy kd t := by simp
  rw [e2] at q
  exact q _ _ _ Ext.refl hH1 (by simp only [RD])
omit G in
theorem cls_all : ∀ ts : List Ty, Paired ClsV (ts.map fun t => V.ty (tyStr t)) (ts.map fun t => Value.type (tyStr t))
  | [] => .nil
  | t :: ts => .cons (.ty _) (cls_all ts)
omit G in
theorem kit_any {K : PySem.W.Frag} (k : Kd) : ∀ ts : List Ty, PySem.W.kitAny K (.type (kdStr k)) (ts.map fun t => .type (tyStr t)) = some (ts.any (kdTy k))
  | [] => kitAny_nil
  | t :: ts => by
    rw [List.map_cons, List.any_cons]
    refine kitAny_cons (kit_ty (kit_all k t)) (fun hb => ?_) fun hb => ?_
    · rw [hb, Bool.false_or]; exact kit_any k ts
    · rw [hb, Bool.true_or]
theorem tys_pa : ∀ {ts : List Ty} {es : List Expr}, chkTys sc ts es = true → ∃ t : TA, PA X es t ∧ ∀ σ H Q, Q (ts.map fun t => V.ty (tyStr t)) H → t σ H Q
  | [], [], _ => ⟨_, pa_nil, fun σ H Q q => q⟩
  | [], _ :: _, h => by simp [chkTys] at h
  | t :: ts, [], h => by simp [chkTys] at h
  | t :: ts, e :: es, h => by
    simp only [chkTys, Bool.and_eq_true] at h
    obtain ⟨h1, h2⟩ := h
    obtain ⟨u, hu, ku⟩ := tys_pa h2
    cases e with
    | Name x p2 =>
      simp only [chkTy, Bool.and_eq_true, decide_eq_true_eq] at h1
      obtain ⟨rfl, hg2⟩ := h1
      obtain ⟨g3, g4⟩ := G.glb hg2
      have hty : PE X (.Name (tyName t) p2) (tC (.ty (tyStr t))) := pe_bltn g3 (G.bl (blt_ty t)) (boot_ty t) rfl (nm_dbg g4).2.2 (nm_dbg g4).1
      exact ⟨_, pa_cons hty hu, fun σ H Q q => ku σ H _ q⟩
    | _ => simp [chkTy] at h1
theorem c_isinT {a : CE} {ts : List Ty} {e : Expr} {es : List Expr} {p p2 : Pos} {k : Nat} (hcm : cm = true) (hg : isGlB sc "isinstance" = true) (hl : es.length ≤ 6) (ht : chkTys sc ts es = true) (ha : PE X e (tE R Y W (evE C a)))
    (hs : starEach [e, .Tuple es k p2] X.env = (false, eval e X.env) :: starEach [.Tuple es k p2] X.env) : PE X (.Call (.Name "isinstance" p) [e, .Tuple es k p2] [] pos) (tE R Y W (evE C (.isin a ts))) := by
  obtain ⟨g1, g2⟩ := G.glb hg
  obtain ⟨u, hu, ku⟩ := tys_pa G ht
  have hlen : ∀ {ts : List Ty} {es : List Expr}, chkTys sc ts es = true → ts.length = es.length := by
    intro ts
    induction ts with
    | nil => intro es h; cases es with | nil => rfl | cons _ _ => simp [chkTys] at h
    | cons t ts ih => intro es h; cases es with
      | nil => simp [chkTys] at h
      | cons e es =>
        simp only [chkTys, Bool.and_eq_true] at h
        simp [ih h.2]
  have hlen := hlen ht
  refine pe_imp (pe_callB call_isiT g1 (G.bl (by decide +kernel)) (by decide +kernel) (pa_cons ha (pa_cons (pe_tup hu) pa_nil) hs) (nm_dbg g2).2.2 (nm_dbg g2).1 hs rfl) fun σ H Q ⟨ρ, φ, s, h, hS, hH, k⟩ => ?_
  simp only [evE] at k
  refine ⟨ρ, φ, s, h, hS, hH, k.bind fun d h1 ρ1 v H1 _ e1 hH1 r1 f1 => ku _ _ _ ⟨?_, fun p hp => ?_⟩⟩
  · rw [List.length_map, hlen, ← line_eq]
    unfold line
    omega
  obtain ⟨b, eb, q⟩ := Fin.ofO f1
  obtain ⟨b', eb', rfl⟩ := Option.map_eq_some_iff.mp eb
  unfold isFs at eb'
  obtain ⟨kd, ek, rfl⟩ := Option.map_eq_some_iff.mp eb'
  have rH2 := (hH1.fresh (o := .tup (ts.map fun t => V.ty (tyStr t))) hp).weak (φ' := φ) (fun a ha => by simp [ha])
  have r2 : RD R ρ1 φ (upd H1 p (.tup (ts.map fun t => V.ty (tyStr t)))) d v := r1.ext (Ext.fresh hp)
  refine ⟨v, p, _, _, ts.map fun t => .type (tyStr t), ts.any (kdTy kd), rfl, upd_same, cls_all ts, ty_of rH2 r2 ek, kit_any kd ts, q _ _ _ (Ext.fresh hp) rH2 (by simp only [RD])⟩
/-! ### subscripts, displays -/
theorem c_idx {a b : CE} {ea eb : Expr} (hp : plainIxB eb = true) (ha : PE X ea (tE R Y W (evE C a))) (hb : PE X eb (tE R Y W (evE C b))) : PE X (.Subscript ea eb pos) (tE R Y W (evE C (.idx a b))) :=
  pe_imp (pe_ix (idxR G.hK G.hu) ha hb (plainIx_of hp)) fun σ H Q ⟨ρ, φ, s, h, hS, hH, f⟩ => by
    simp only [evE] at f
    refine ⟨ρ, φ, s, h, hS, hH, f.bind fun x h1 ρ1 v H1 _ e1 hH1 r1 f1 => ?_⟩
    refine ⟨ρ1, φ, s, h1, hS.ext e1, hH1, f1.bind fun y h2 ρ2 u H2 _ e2 hH2 r2 f2 => ?_⟩
    obtain ⟨d, ed, k⟩ := Fin.ofO f2
    exact ⟨ρ2, φ, h2, x, y, d, hH2, r1.ext e2, r2, ed, k⟩
omit G in
theorem c_tup {es : CEs} {xs : List Expr} {k : Nat} (hl : ∀ s h ds h', evEs C es s h = .ok ds h' → ds.length ≤ 4096) (ha : PA X xs (tA R Y W (evEs C es))) : PE X (.Tuple xs k pos) (tE R Y W (evE C (.tup es))) :=
  pe_imp (pe_tup ha) fun σ H Q ⟨ρ, φ, s, h, hS, hH, f⟩ => by
    simp only [evE] at f
    refine ⟨ρ, φ, s, h, hS, hH, f.bind fun ds h1 ρ1 vs H1 eq e1 hH1 r1 f1 => ⟨?_, fun p hp => ?_⟩⟩
    · have := hl _ _ _ _ eq
      rw [← r1.len, ← line_eq]
      unfold line
      omega
    · obtain ⟨q1, q2, q3⟩ := new_tup hH1 hp r1
      exact f1 _ _ _ q1 q2 q3
omit G in
theorem l_lst {es : CEs} {xs : List Expr} (hl : ∀ s h ds h', evEs C es s h = .ok ds h' → ds.length ≤ 4096) (ha : PA X xs (tA R Y W (evEs C es))) : PE X (.List xs pos) (tL R Y W (evE C (.lst es))) :=
  pe_imp (pe_lst ha) fun σ H Q ⟨ρ, φ, s, h, hS, hH, f, _⟩ => by
    simp only [evE] at f
    refine ⟨ρ, φ, s, h, hS, hH, ?_⟩
    cases q : evEs C es s h with
    | stuck => rw [q] at f; exact f.elim
    | exc x h' => rw [q] at f; exact f
    | ok ds h1 =>
      rw [q] at f
      intro ρ1 vs H1 e1 hH1 r1
      refine ⟨?_, fun p hp => ?_⟩
      · have := hl _ _ _ _ q
        rw [← r1.len, ← line_eq]
        unfold line
        omega
      · obtain ⟨q1, q2, q3⟩ := new_lstF hH1 hp r1
        exact f ρ1 p vs _ (e1.trans q1) q2 (e1.none hp) (hH1.free hp) upd_same q3
omit G in
/-- a new list as it is; as a cell -/
theorem e_of_l {f : EvF} {e : Expr} (h : PE X e (tL R Y W f)) (hl : ∀ s h d h', f s h = .ok d h' → ∃ xs, d = .lst xs) : PE X e (tE R Y W f) :=
  pe_imp h fun σ H Q ⟨ρ, φ, s, h, hS, hH, k⟩ => by
    refine ⟨ρ, φ, s, h, hS, hH, ?_, fun d h' e => hl s h d h' e⟩
    cases q : f s h with
    | stuck => rw [q] at k; exact k.elim
    | exc x h' => rw [q] at k; exact k
    | ok d h' =>
      obtain ⟨xs, rfl⟩ := hl s h d h' q
      rw [q] at k
      intro ρ' p ws H' e1 rH hp np ep rd
      refine k ρ' _ H' e1 (rH.weak fun a ha => by simp [ha]) ?_
      simp only [RD]
      exact ⟨p, ws, rfl, ⟨ep, (rH.phi p (by simp)).2, np⟩, rd.weak fun a ha => by simp [ha]⟩
omit G in
theorem c_cell {a : CE} {e : Expr} (h : PE X e (tL R Y W (evE C a))) : PE X e (tE R Y W (evE C (.cell a))) :=
  pe_imp h fun σ H Q ⟨ρ, φ, s, h, hS, hH, k⟩ => by
    simp only [evE] at k
    refine ⟨ρ, φ, s, h, hS, hH, ?_, fun d h' e => ?_⟩
    · cases q : evE C a s h with
      | stuck => rw [q] at k; exact k.elim
      | exc x h' => rw [q] at k; exact k
      | ok d h' =>
        rw [q] at k
        cases d with
        | lst xs =>
          intro ρ' p ws H' e1 rH hp np ep rd
          refine k (ρ' ++ [p]) _ H' (e1.cell hp) (rH.cell np ⟨ws, ep, rd⟩) ?_
          simp only [RD]
          exact ⟨p, by rw [← rH.len]; simp, rfl⟩
        | _ => exact k.elim
    · rw [e] at k
      cases d with
      | lst xs => exact ⟨xs, rfl⟩
      | _ => exact k.elim
omit G in
theorem c_dict0 {t : Bool} : PE X (.Dict [] [] pos) (tE R Y W (evE C (.dict0 t))) := by
  cases t with
  | false =>
    refine pe_imp pe_dnewK fun σ H Q ⟨ρ, φ, s, h, hS, hH, k⟩ p hp => ?_
    simp only [evE] at k
    have rH := hH.fresh (o := .dK []) hp
    refine k (ρ ++ [p]) _ _ ((Ext.fresh hp).cell hp) (rH.cell (hH.free hp) ⟨[], upd_same, rfl, by simp [RDs]⟩) ?_
    simp only [RD]
    exact ⟨p, by rw [← hH.len]; simp, rfl⟩
  | true =>
    refine pe_imp pe_dnewT fun σ H Q ⟨ρ, φ, s, h, hS, hH, k⟩ p hp => ?_
    simp only [evE] at k
    have rH := hH.fresh (o := .dT []) hp
    refine k (ρ ++ [p]) _ _ ((Ext.fresh hp).cell hp) (rH.cell (hH.free hp) ⟨[], upd_same, rfl, by simp [RDs]⟩) ?_
    simp only [RD]
    exact ⟨p, by rw [← hH.len]; simp, rfl⟩
end
end Cl

namespace Cl
open PySem PySem.Spec PyProof.Rows L2
/-! ### slices -/
theorem slx_eq {n d : Nat} {o : Option Int} : slx n d o = HT.sIx n d o := by cases o <;> rfl
section
variable {R : RC} {ρ φ : List Addr} {H : Hp} {h : Hc}
theorem RDs.cut {xs : List D} {vs : List V} (r : RDs R ρ φ H xs vs) (lo hi : Option Int) : RDs R ρ φ H (cutD xs lo hi) (cutV vs lo hi) := by
  unfold cutD cutV
  rw [slx_eq, slx_eq, r.len]
  exact (r.drop _).take _
theorem cutS_cutD (z : Str) (lo hi : Option Int) : cutS z lo hi = ⟨(cutD z.cps.toList lo hi).toArray⟩ := by
  unfold cutS cutD
  rw [slx_eq, slx_eq]
  simp only [Array.length_toList]
  rfl
/-- what der sees -/
theorem RD.der_lt (r : RelH R ρ φ H h) {d : D} {v : V} (q : RD R ρ φ H d v) {xs : List D} (e : der h d = .lst xs) : ∃ a vs, v = .ref a ∧ SqL R.K H a vs ∧ RDs R ρ φ H xs vs := by
  cases d with
  | lst ds =>
    simp only [der, D.lst.injEq] at e; subst e
    simp only [RD] at q
    obtain ⟨a, vs, rfl, h1, h2⟩ := q
    exact ⟨a, vs, rfl, h1.sq, h2⟩
  | ref n =>
    simp only [RD] at q
    obtain ⟨a, ea, rfl⟩ := q
    unfold der at e
    cases hc : h[n]? with
    | none => simp [hc] at e
    | some c =>
      have rc := r.cells n a c ea hc
      cases c with
      | lst ys =>
        simp only [hc, D.lst.injEq] at e; subst e
        obtain ⟨vs, e1, e2⟩ := rc
        exact ⟨a, vs, rfl, SqL.of e1, e2⟩
      | ro ys =>
        simp only [hc, D.lst.injEq] at e; subst e
        obtain ⟨o, vs, e1, e2⟩ := rc
        exact ⟨a, vs, rfl, .inl (.inr ⟨o, e1⟩), e2⟩
      | dK _ => simp [hc] at e
      | dT _ => simp [hc] at e
  | _ => simp [der] at e
theorem RD.der_tp {d : D} {v : V} (q : RD R ρ φ H d v) {xs : List D} (e : der h d = .tup xs) : ∃ a vs, v = .ref a ∧ SqT R.K H a vs ∧ RDs R ρ φ H xs vs ∧ d = .tup xs := by
  cases d with
  | tup ds =>
    simp only [der, D.tup.injEq] at e; subst e
    simp only [RD] at q
    obtain ⟨a, vs, rfl, h1, h2⟩ := q
    exact ⟨a, vs, rfl, h1.sq, h2, rfl⟩
  | ref n =>
    unfold der at e
    cases hc : h[n]? with
    | none => simp [hc] at e
    | some c => cases c <;> simp [hc] at e
  | _ => simp [der] at e
end
/-- lists are told by rFr: new, held back -/
def rSl (R : RC) : V → Option Int → Option Int → Hp → VK → Prop := fun x lo hi H Q => ∃ ρ φ h a d, RelH R ρ φ H h ∧ RD R ρ φ H a x ∧ sliceF h a lo hi = some d ∧
  (∀ p xs ws, d = .lst xs → H p = none → RDs R ρ φ H xs ws → Q (.ref p) (upd H p (.lst ws))) ∧ ((∀ xs, d ≠ .lst xs) → ∀ ρ' v H', Ext ρ ρ' H H' → RelH R ρ' φ H' h → RD R ρ' φ H' d v → Q v H')
theorem slR {X : Cx} {R : RC} (hK : R.K = X.K) : SlR X (rSl R) := by
  intro pins s σ H x v vl vu lo hi sl Q I rx hs pl pu ⟨ρ, φ, h, a, d, rH, ra, e, k1, k2⟩
  unfold sliceF at e
  split at e
  · rename_i xs he
    obtain ⟨l, vs, rfl, h1, h2, rfl⟩ := RD.der_tp ra he
    cases e
    have k := k2 (fun xs z => nomatch z)
    refine sl_tupA pins s σ H _ v vl vu lo hi sl Q I rx hs pl pu ⟨l, vs, rfl, hK ▸ h1, fun hw => ?_, fun _ p hp => ?_⟩
    · have : cutD xs lo hi = xs := by
        unfold cutD
        rw [slx_eq, slx_eq, h2.len, hw.1, hw.2, List.drop_zero, Nat.sub_zero, ← h2.len, List.take_length]
      rw [this] at k
      exact k _ _ _ Ext.refl rH ra
    · obtain ⟨q1, q2, q3⟩ := new_tup rH hp (h2.cut lo hi)
      exact k _ _ _ q1 q2 q3
  · rename_i xs he
    obtain ⟨l, vs, rfl, h1, h2⟩ := RD.der_lt rH ra he
    cases e
    exact sl_list pins s σ H _ v vl vu lo hi sl Q I rx hs pl pu ⟨l, vs, rfl, hK ▸ h1, fun p hp => k1 p _ _ rfl hp (h2.cut lo hi)⟩
  · rename_i z he
    rw [der_str he] at ra
    simp only [RD] at ra
    subst ra
    split at e
    · rename_i hz
      cases e
      exact sl_str pins s σ H _ v vl vu lo hi sl Q I rx hs pl pu ⟨z, rfl, by rw [← line_eq]; exact hz, by rw [cutS_cutD]; exact k2 (fun xs z => nomatch z) _ _ _ Ext.refl rH (by simp only [RD])⟩
    · cases e
  · cases e
/-! ### the other way round -/
section
variable {prog : Program} {w : World} {A : Around} {E : Value → Shared → Prop} {s : Shared}
theorem rev_pick (xs : Array Value) : ((List.range xs.size).filterMap fun (m : Nat) => xs[(((xs.size : Nat) : Int) - 1 + (m : Int) * (-1)).toNat]?).toArray = xs.toList.reverse.toArray := by
  congr 1
  have e : ∀ m ∈ List.range xs.size, (xs[(((xs.size : Nat) : Int) - 1 + (m : Int) * (-1)).toNat]? : Option Value) = some (xs.toList.reverse.getD m .none) := by
    intro m hm
    have hm := List.mem_range.mp hm
    have : (((xs.size : Nat) : Int) - 1 + (m : Int) * (-1)).toNat = xs.size - 1 - m := by omega
    rw [this]
    have hl : m < xs.toList.reverse.length := by simpa using hm
    rw [List.getD_eq_getElem?_getD, List.getElem?_eq_getElem hl, Option.getD_some, List.getElem_reverse]
    rw [Array.getElem?_eq_getElem (by omega)]
    simp
  have z : ∀ (l : List Nat), (∀ m ∈ l, (xs[(((xs.size : Nat) : Int) - 1 + (m : Int) * (-1)).toNat]? : Option Value) = some (xs.toList.reverse.getD m .none)) → (l.filterMap fun (m : Nat) => xs[(((xs.size : Nat) : Int) - 1 + (m : Int) * (-1)).toNat]?) = l.map fun m => xs.toList.reverse.getD m .none := by
    intro l
    induction l with
    | nil => intro _; rfl
    | cons m l ih =>
      intro q
      rw [List.filterMap_cons, q m (by simp), List.map_cons, ih fun n hn => q n (by simp [hn])]
  rw [z _ e]
  refine List.ext_getElem ?_ fun i h1 h2 => ?_
  · simp
  · have hl : i < xs.toList.reverse.length := by simpa using h2
    rw [List.getElem_map, List.getElem_range, List.getD_eq_getElem?_getD, List.getElem?_eq_getElem hl, Option.getD_some]
theorem tup_back {t sl : Addr} {xs : Array Value} {vl vu vs : Value} {Q : Value → Shared → Prop} (ht : IsTup s.heap t xs) (hs : s.heap.IsSliceOf sl vl vu vs) (pl : IsPart vl none) (pu : IsPart vu none) (ps : IsPart vs (some (-1)))
    (h : Q (.ref s.heap.objs.size) { s with heap := s.heap.push { cls := .type "tuple", data := .seq xs.toList.reverse.toArray } }) (hz : xs.size ≤ sizeLine) : wpAny (model prog w) A (getItem (.ref t) (.ref sl)) Q E s := by
  obtain ⟨os, g1, g2, g3⟩ := id hs
  have ty : s.TypeIs (.ref sl) "slice" := ⟨os, g1, g2⟩
  have htake : sizeOk (.seq xs.toList.reverse.toArray) := by
    show xs.toList.reverse.toArray.size ≤ sizeLine
    simpa using hz
  cases pl
  cases pu
  cases ps with
  | int i tk =>
  unfold getItem
  refine wpAny_holding ?_
  refine wpAny_bind (wpAny_sequenceKey ht.typeIs (by decide) ?_)
  refine wpAny_bind (wpAny_callSpecial?_slot (name := Str.ofString "__getitem__") ht.typeIs PyProof.Rows.slot_tuple_getitem
    (wpAny_call_entry PyProof.Rows.slot_tuple_getitem ht.typeIs entry_tuple_getitem ?_ (args_tuple_getitem _ _)))
  show wpAny _ _ (Builtin.Tuple.tupleItemsOf (.ref t) >>= _) _ _ s
  refine wpAny_bind (tupleItemsOf_ ht ?_)
  refine wpAny_bind (wpAny_typeOf ty ?_)
  rw [if_pos (by decide)]
  have ap : ∀ {A' : Around} {Q' : Int × Int × Nat → Shared → Prop}, Q' ((xs.size : Int) - 1, -1, xs.size) s → wpAny (model prog w) A' (Builtin.Slice.sliceApplied (.ref sl) (pure (xs.size : Int))) Q' E s := fun {A' Q'} q => by
    unfold Builtin.Slice.sliceApplied Builtin.Slice.sliceFields
    refine wpAny_bind (wpAny_bind (wpAny_field g1 g3 (x := .none) rfl (wpAny_bind (wpAny_field g1 g3 (x := .none) rfl (wpAny_bind (wpAny_field g1 g3 (x := .int (-1) tk) rfl (wpAny_pure ?_)))))))
    refine wpAny_bind (slicePart_int ?_)
    show wpAny _ _ (if ((-1 : Int) == 0) = true then _ else _) _ _ s
    rw [if_neg (by decide)]
    refine wpAny_bind (slicePart_none (wpAny_bind (slicePart_none (wpAny_bind (wpAny_pure ?_)))))
    have e1 : Builtin.Slice.sliceAdjust none none (-1) (xs.size : Int) = ((xs.size : Int) - 1, -1) := rfl
    have e2 : Builtin.Slice.slicePlaces ((xs.size : Int) - 1) (-1) (-1) = xs.size := by
      unfold Builtin.Slice.slicePlaces
      rw [if_neg (by decide), show (-(-1) : Int) = 1 from rfl, Int.ediv_one]
      split <;> omega
    show wpAny _ _ (pure (((xs.size : Int) - 1), (-1 : Int), Builtin.Slice.slicePlaces ((xs.size : Int) - 1) (-1) (-1))) _ _ s
    rw [e2]
    exact wpAny_pure q
  refine wpAny_bind (ap ?_)
  have no : ¬ (((xs.size : Int) - 1 == 0 && (-1 : Int) == 1 && xs.size == xs.size) = true) := by
    rw [show ((-1 : Int) == 1) = false from by decide, Bool.and_false, Bool.false_and]
    exact Bool.false_ne_true
  show wpAny _ _ (if ((xs.size : Int) - 1 == 0 && (-1 : Int) == 1 && xs.size == xs.size) = true then _ else _) _ _ s
  rw [if_neg no, rev_pick]
  first
    | exact wpAny_bind (m := Builtin.Tuple.tupleExact _) (wpAny_newObj_type (wpAny_pure ⟨_, rfl, wpAny_pure h⟩) htake)
    | exact wpAny_bind (m := Builtin.Tuple.tupleExact _) (wpAny_newObj_type (wpAny_bind (wpAny_pure (wpAny_pure ⟨_, rfl, wpAny_pure h⟩))) htake)
    | exact wpAny_bind (wpAny_bind (m := Builtin.Tuple.tupleExact _) (wpAny_newObj_type (wpAny_pure (wpAny_pure ⟨_, rfl, wpAny_pure h⟩)) htake))
    | exact wpAny_bind (wpAny_bind (m := Builtin.Tuple.tupleExact _) (wpAny_newObj_type (wpAny_pure ⟨_, rfl, wpAny_pure h⟩) htake))
end
def tRev2 (K : PySem.W.Frag) (te : TE) : TE := fun σ H Q => te σ H fun x H1 => ∃ a xs, x = .ref a ∧ ((SqL K H1 a xs ∧ ∀ p, H1 p = none → Q (.ref p) (upd H1 p (.lst xs.reverse))) ∨ (SqT K H1 a xs ∧ ∀ p, H1 p = none → Q (.ref p) (upd H1 p (.tup xs.reverse))))
theorem pe_rev2 {X : Cx} {e : Expr} {te : TE} {k : Nat} {p1 p2 p3 pos : Pos} (he : PE X e te) : PE X (.Subscript e (.Slice none none (some (.UnaryOp .USub (.Constant (.int 1) k p1) p2)) p3) pos) (tRev2 X.K te) := by
  refine ⟨fun pins s σ H Q I hh => ?_⟩
  refine Subscript_ (thn (he.run pins s σ H _ I hh) fun v s1 ⟨x, H1, I1, r1, a, xs, ex, q⟩ => ?_)
  subst ex
  cases r1
  have hst : PO X (some (.UnaryOp .USub (.Constant (.int 1) k p1) p2)) (tPart (tUn (rU fun i => .int (-i)) (tC (.int 1)))) := po_some (pe_un un_neg pe_int)
  refine wpAny_Slice (thn (po_none.run pins s1 σ H1 (fun o Hn => o = none ∧ Hn = H1) I1 ⟨rfl, rfl⟩) fun vl s2 ⟨l, Ha, I2, pl, el, ea⟩ => ?_)
  subst el ea
  refine thn (po_none.run pins s2 σ Ha (fun o Hn => o = none ∧ Hn = Ha) I2 ⟨rfl, rfl⟩) fun vu s3 ⟨u, Hb, I3, pu, eu, eb⟩ => ?_
  subst eu eb
  refine thn (hst.run pins s3 σ Hb (fun o Hn => o = some (-1) ∧ Hn = Hb) I3 ⟨1, rfl, -1, rfl, rfl, rfl⟩) fun vs s4 ⟨o, Hd, I4, ps, eo, ed⟩ => ?_
  subst eo ed
  have J : Inv X pins σ Hd { s4 with heap := s4.heap.push { cls := .type "slice", data := .fields #[vl, vu, vs] } } := I4.kept (t' := s4.toks) fun b ob z => Heap.get?_push_of_some _ z
  show wpAny (model X.prog X.w) X.A (subscriptTail e (.Slice none none (some (.UnaryOp .USub (.Constant (.int 1) k p1) p2)) p3) (.ref a) (.ref s4.heap.objs.size)) (EP X pins σ Q) X.xe { s4 with heap := s4.heap.push { cls := .type "slice", data := .fields #[vl, vu, vs] } }
  rcases q with ⟨hx, q⟩ | ⟨hx, q⟩
  · obtain ⟨its, r, ht, hz⟩ := J.list hx
    have hlen := r.length
    refine tail_any (ops := [.ref a, .ref s4.heap.objs.size]) ht.isList.typeIs (PySem.slot_list_getitem.lookup) ?_ (by with_unfolding_all rfl)
    refine wpAny_getItem_list_slice ht.isList (Heap.IsSliceOf.new _ vl vu vs) pl pu ps (by decide) ?_ (by rw [List.size_toArray]; omega)
    rw [PySem.W.krv_pick]
    refine ⟨.ref _, _, J.laid (t' := s4.toks) (o := .lst xs.reverse) (fun b ob z => Heap.get?_push_of_some _ z) (Nat.le_refl _) ⟨?_, _, 0, r.reverse, Heap.get?_push_size _ rfl⟩, rfl, q _ (J.hok.fresh (Nat.le_refl _))⟩
    rw [List.length_reverse]; exact hz
  · obtain ⟨its, r, ht, hz⟩ := J.tuple hx
    have hlen := r.length
    refine tail_any (ops := [.ref a, .ref s4.heap.objs.size]) ht.typeIs (PyProof.Rows.slot_tuple_getitem.lookup) ?_ (by with_unfolding_all rfl)
    refine tup_back ht (Heap.IsSliceOf.new _ vl vu vs) pl pu ps ?_ (by rw [List.size_toArray]; omega)
    refine ⟨.ref _, _, J.laid (t' := s4.toks) (o := .tup xs.reverse) (fun b ob z => Heap.get?_push_of_some _ z) (Nat.le_refl _) ⟨?_, _, r.reverse, IsTup.new _ _⟩, rfl, q _ (J.hok.fresh (Nat.le_refl _))⟩
    rw [List.length_reverse]; exact hz
section
variable {S : Sg} {R : RC} {C : Caller} {Y : XC} {n : Nat} {N : List Str} {cm : Bool} {sc : Scope} {X : Cx} {W : WX} (G : Gd S R C Y n N cm sc X W) {pos : Pos}
def tO (R : RC) (Y : XC) (W : WX) (b : Bool) (f : EvF) : TO := fun σ H Q => ∃ ρ φ c h, RelS R ρ φ H c σ ∧ RelH R ρ φ H h ∧ Fin R Y W σ ρ φ H rEq (optR b (f c) h) Q
theorem po_imp {e : Option Expr} {t u : TO} (h : PO X e t) (k : ∀ σ H Q, u σ H Q → t σ H Q) : PO X e u := ⟨fun pins s σ H Q I q => h.run pins s σ H Q I (k σ H Q q)⟩
theorem po_abs {f : EvF} : PO X none (tO R Y W true f) := po_imp po_none fun σ H Q ⟨ρ, φ, c, h, hS, hH, k⟩ => by
  unfold optR at k
  rw [if_pos rfl] at k
  exact k ρ _ H Ext.refl hH rfl
theorem po_val {f : EvF} {e : Expr} (he : PE X e (tE R Y W f)) : PO X (some e) (tO R Y W false f) := po_imp (po_some he) fun σ H Q ⟨ρ, φ, c, h, hS, hH, k⟩ => by
  unfold optR at k
  rw [if_neg Bool.false_ne_true] at k
  refine ⟨ρ, φ, c, h, hS, hH, k.bind fun x h1 ρ1 v H1 _ e1 hH1 r1 f1 => ?_⟩
  cases x with
  | int i =>
    simp only [RD] at r1
    exact ⟨i, r1, f1 ρ1 _ H1 Ext.refl hH1 rfl⟩
  | _ => exact f1.elim
include G
theorem c_slK {a lo hi : CE} {ea : Expr} {elo ehi : Option Expr} {p2 : Pos} (ha : PE X ea (tE R Y W (evE C a))) (hl : PO X elo (tO R Y W lo.isAbs (evE C lo))) (hh : PO X ehi (tO R Y W hi.isAbs (evE C hi))) :
    PE X (.Subscript ea (.Slice elo ehi none p2) pos) (fun σ H Q => ∃ ρ φ s h, RelS R ρ φ H s σ ∧ RelH R ρ φ H h ∧ Fin R Y W σ ρ φ H (rD R φ) (evE C a s h) fun x H1 => tO R Y W lo.isAbs (evE C lo) σ H1 fun l H2 => tO R Y W hi.isAbs (evE C hi) σ H2 fun u H3 => rSl R x l u H3 Q) :=
  pe_imp (pe_slice (slR G.hK) ha hl hh) fun σ H Q q => q
theorem c_sl {a lo hi : CE} {ea : Expr} {elo ehi : Option Expr} {p2 : Pos} (ha : PE X ea (tE R Y W (evE C a))) (hl : PO X elo (tO R Y W lo.isAbs (evE C lo))) (hh : PO X ehi (tO R Y W hi.isAbs (evE C hi))) :
    PE X (.Subscript ea (.Slice elo ehi none p2) pos) (tE R Y W (evE C (.sl a lo hi))) :=
  pe_imp (c_slK G ha hl hh) fun σ H Q ⟨ρ, φ, s, h, hS, hH, f⟩ => by
    simp only [evE] at f
    refine ⟨ρ, φ, s, h, hS, hH, f.bind fun x h1 ρ1 v H1 _ e1 hH1 r1 f1 => ?_⟩
    refine ⟨ρ1, φ, s, h1, hS.ext e1, hH1, f1.bind fun y h2 ρ2 u H2 _ e2 hH2 r2 f2 => ?_⟩
    refine ⟨ρ2, φ, s, h2, (hS.ext e1).ext e2, hH2, f2.bind fun z h3 ρ3 w H3 _ e3 hH3 r3 f3 => ?_⟩
    obtain ⟨d, ed, k⟩ := Fin.ofO f3
    subst r2 r3
    refine ⟨ρ3, φ, h3, x, d, hH3, (r1.ext e2).ext e3, ed, fun p xs ws ex hp rs => ?_, fun _ => k⟩
    subst ex
    obtain ⟨q1, q2, q3⟩ := new_lst hH3 hp rs
    exact k _ _ _ q1 q2 q3

omit G in
theorem finL_new {σ : L2.St} {ρ φ : List Addr} {H : Hp} {d : D} {h : Hc} {Q : VK} {ρ1 : List Addr} {H1 : Hp} (e1 : Ext ρ ρ1 H H1) (k : FinL R Y W σ ρ φ H (.ok d h) Q) {p : Addr} {xs : List D} {ws : List V} (ed : d = .lst xs) (hH : RelH R ρ1 φ H1 h) (hp : H1 p = none) (rs : RDs R ρ1 φ H1 xs ws) : Q (.ref p) (upd H1 p (.lst ws)) := by
  subst ed
  obtain ⟨q1, q2, q3⟩ := new_lstF hH hp rs
  exact k ρ1 p ws _ (e1.trans q1) q2 (e1.none hp) (hH.free hp) upd_same q3

omit G in
theorem FinL.bind {α β : Type} {σ : L2.St} {ρ φ : List Addr} {H : Hp} {rel : List Addr → Hp → α → β → Prop} {r : ERes α} {f : α → Hc → ERes D} {Q' : VK} {Q : β → Hp → Prop}
    (hf : FinL R Y W σ ρ φ H (r.bind f) Q') (k : ∀ a h1 ρ1 b H1, r = .ok a h1 → Ext ρ ρ1 H H1 → RelH R ρ1 φ H1 h1 → rel ρ1 H1 a b → FinL R Y W σ ρ1 φ H1 (f a h1) Q' → Q b H1) : Fin R Y W σ ρ φ H rel r Q := by
  have up : ∀ {r : ERes D} {ρ1 : List Addr} {H1 : Hp}, Ext ρ ρ1 H H1 → FinL R Y W σ ρ φ H r Q' → FinL R Y W σ ρ1 φ H1 r Q' := fun {r ρ1 H1} e f => by
    cases r with
    | ok d h =>
      cases d with
      | lst xs => exact fun ρ2 p ws H2 e2 rH hp => f ρ2 p ws H2 (e.trans e2) rH (e.none hp)
      | _ => exact f
    | exc x h => exact fun ρ2 cls dd H2 e2 => f ρ2 cls dd H2 (e.trans e2)
    | stuck => exact f
  cases r with
  | ok a h' => exact fun ρ1 b H1 e1 hH r1 => k a h' ρ1 b H1 rfl e1 hH r1 (up (r := f a h') e1 hf)
  | exc x h' => exact hf
  | stuck => exact hf
theorem l_sl {a lo hi : CE} {ea : Expr} {elo ehi : Option Expr} {p2 : Pos} (ha : PE X ea (tE R Y W (evE C a))) (hl : PO X elo (tO R Y W lo.isAbs (evE C lo))) (hh : PO X ehi (tO R Y W hi.isAbs (evE C hi))) :
    PE X (.Subscript ea (.Slice elo ehi none p2) pos) (tL R Y W (evE C (.sl a lo hi))) :=
  pe_imp (c_slK G ha hl hh) fun σ H Q ⟨ρ, φ, s, h, hS, hH, f, only⟩ => by
    simp only [evE] at f only
    refine ⟨ρ, φ, s, h, hS, hH, f.bind fun x h1 ρ1 v H1 eq1 e1 hH1 r1 f1 => ?_⟩
    refine ⟨ρ1, φ, s, h1, hS.ext e1, hH1, f1.bind fun y h2 ρ2 u H2 eq2 e2 hH2 r2 f2 => ?_⟩
    refine ⟨ρ2, φ, s, h2, (hS.ext e1).ext e2, hH2, f2.bind fun z h3 ρ3 w H3 eq3 e3 hH3 r3 f3 => ?_⟩
    subst r2 r3
    cases ed : sliceF h3 x y z with
    | none => rw [ed] at f3; exact f3.elim
    | some d =>
      rw [ed] at f3
      obtain ⟨xs, rfl⟩ := only d h3 (by rw [eq1]; show (ERes.bind (optR _ _ h1) _) = _; rw [eq2]; show (ERes.bind (optR _ _ h2) _) = _; rw [eq3]; show ofO (sliceF h3 x y z) h3 = _; rw [ed]; rfl)
      exact ⟨ρ3, φ, h3, x, .lst xs, hH3, (r1.ext e2).ext e3, ed, fun p ys ws ex hp rs => finL_new (d := .lst xs) Ext.refl f3 ex hH3 hp rs, fun no => absurd rfl (no xs)⟩
theorem c_rev {a : CE} {ea : Expr} {k : Nat} {p1 p2 p3 : Pos} (ha : PE X ea (tE R Y W (evE C a))) : PE X (.Subscript ea (.Slice none none (some (.UnaryOp .USub (.Constant (.int 1) k p1) p2)) p3) pos) (tE R Y W (evE C (.rev a))) :=
  pe_imp (pe_rev2 ha) fun σ H Q ⟨ρ, φ, s, h, hS, hH, f⟩ => by
    simp only [evE] at f
    refine ⟨ρ, φ, s, h, hS, hH, f.bind fun x h1 ρ1 v H1 _ e1 hH1 r1 f1 => ?_⟩
    obtain ⟨d, ed, k⟩ := Fin.ofO f1
    unfold revF at ed
    split at ed
    · rename_i xs he
      obtain ⟨l, vs, rfl, g1, g2, _⟩ := RD.der_tp r1 he
      cases ed
      refine ⟨l, vs, rfl, .inr ⟨G.hK ▸ g1, fun p hp => ?_⟩⟩
      obtain ⟨q1, q2, q3⟩ := new_tup hH1 hp g2.reverse
      exact k _ _ _ q1 q2 q3
    · rename_i xs he
      obtain ⟨l, vs, rfl, g1, g2⟩ := RD.der_lt hH1 r1 he
      cases ed
      refine ⟨l, vs, rfl, .inl ⟨G.hK ▸ g1, fun p hp => ?_⟩⟩
      obtain ⟨q1, q2, q3⟩ := new_lst hH1 hp g2.reverse
      exact k _ _ _ q1 q2 q3
    · cases ed
theorem c_pop {o : CE} {eo : Expr} {apos cpos : Pos} (hb : baseOk eo = true) (hl : apos.endLine = cpos.line) (ho : PE X eo (tE R Y W (evE C o))) : PE X (.Call (.Attribute eo "pop" apos) [] [] cpos) (tE R Y W (evE C (.pop o))) :=
  pe_imp (pe_bm0 PySem.F.plainAttrs_list PySem.F.slot_list_pop PySem.F.type_list_pop mt_pop ho (attr_base hb) (by rw [hl]; exact beq_self_eq_true _)) fun σ H Q ⟨ρ, φ, s, h, hS, hH, f⟩ => by
    simp only [evE] at f
    refine ⟨ρ, φ, s, h, hS, hH, f.bind fun x h1 ρ1 v H1 _ e1 hH1 r1 f1 => ?_⟩
    cases x with
    | ref n =>
      simp only [RD] at r1
      obtain ⟨l, el, rfl⟩ := r1
      cases hc : h1[n]? with
      | none => simp only [hc] at f1; exact f1.elim
      | some c =>
        have rc := hH1.cells n l c el hc
        cases c with
        | lst xs =>
          obtain ⟨vs, g1, g2⟩ := rc
          simp only [hc] at f1
          cases hx : xs[xs.length - 1]? with
          | none => simp only [hx] at f1; exact f1.elim
          | some d =>
            simp only [hx] at f1
            obtain ⟨w, w1, w2⟩ := g2.get hx
            have hin : l ∈ ρ1 := List.mem_of_getElem? el
            have ew : Ext ρ1 ρ1 H1 (upd H1 l (.lst vs.dropLast)) := Ext.write hin
            have dl : RDs R ρ1 φ H1 xs.dropLast vs.dropLast := by
              rw [List.dropLast_eq_take, List.dropLast_eq_take, g2.len]
              exact g2.take _
            refine ⟨.inl ⟨rfl, vs, SqL.of g1⟩, l, vs, w, rfl, rfl, g1, by rw [← g2.len]; exact w1, ?_⟩
            exact f1 ρ1 w _ ew (hH1.write el ⟨vs.dropLast, upd_same, (dl.later (Later.of (φ := φ) (Ext.refl))).mv (k := ρ1.length) (Mv.write hin _) dl.low⟩) (RD.mv (k := ρ1.length) (Mv.write hin _) w2.low w2)
        | _ => simp only [hc] at f1; exact f1.elim
    | _ => exact f1.elim
theorem c_dget {o k d : CE} {eo ek ed : Expr} {apos cpos : Pos} (hb : baseOk eo = true) (hl : apos.endLine = cpos.line) (h1 : starEach [ek, ed] X.env = (false, eval ek X.env) :: starEach [ed] X.env) (h2 : starEach [ed] X.env = (false, eval ed X.env) :: starEach [] X.env)
    (ho : PE X eo (tE R Y W (evE C o))) (hk : PE X ek (tE R Y W (evE C k))) (hd : PE X ed (tE R Y W (evE C d))) : PE X (.Call (.Attribute eo "get" apos) [ek, ed] [] cpos) (tE R Y W (evE C (.dget o k d))) := by
  have t2 : backTo cpos (starEach [ek, ed] X.env) = [(false, eval ek X.env), (false, eval ed X.env)] := by rw [h1, h2]; rfl
  have m2 : M2 X eo "get" apos ek ed cpos := ⟨attr_base hb, by rw [t2]; rfl, by rw [hl]; exact beq_self_eq_true _, t2⟩
  have hu : X.A.units + 1 < cLine := by have := G.hu; omega
  refine pe_imp (pe_dget2 hu ho hk hd m2) fun σ H Q ⟨ρ, φ, s, h, hS, hH, f⟩ => ?_
  simp only [evE] at f
  refine ⟨ρ, φ, s, h, hS, hH, f.bind fun x h1 ρ1 v H1 _ e1 hH1 r1 f1 => ?_⟩
  by_cases hx : isDictD h1 x = true
  · simp only [hx, if_true] at f1
    cases x with
    | ref n =>
      have r1' := r1
      simp only [RD] at r1
      obtain ⟨l, el, rfl⟩ := r1
      have isd : IsD H1 l := by
        unfold isDictD at hx
        cases hc : h1[n]? with
        | none => simp only [hc] at hx; cases hx
        | some c =>
          have rc := hH1.cells n l c el hc
          cases c with
          | dK kvs => obtain ⟨kws, g, _⟩ := rc; exact .inl ⟨kws, .inl g⟩
          | dT kvs => obtain ⟨kws, g, _⟩ := rc; exact .inr ⟨kws, .inl g⟩
          | _ => simp only [hc] at hx; cases hx
      refine ⟨l, rfl, isd, ρ1, φ, s, h1, hS.ext e1, hH1, f1.bind fun y h2 ρ2 u H2 _ e2 hH2 r2 f2 => ?_⟩
      refine ⟨ρ2, φ, s, h2, (hS.ext e1).ext e2, hH2, f2.bind fun z h3 ρ3 w H3 _ e3 hH3 r3 f3 => ?_⟩
      have el3 := e3.get (e2.get el)
      cases eq : lookD h3 n y with
      | none => simp only [eq] at f3; exact f3.elim
      | some r =>
        simp only [eq] at f3
        obtain ⟨o', g, q⟩ := look_get hH3 (r2.ext e3) el3 eq
        refine ⟨o', g, ?_⟩
        rcases q with ⟨rfl, rfl⟩ | ⟨d', w', rfl, rfl, q3⟩
        · exact f3 _ _ _ Ext.refl hH3 r3
        · exact f3 _ _ _ Ext.refl hH3 q3
    | _ => exact absurd hx (by simp [isDictD])
  · simp only [hx] at f1
    exact f1.elim
end
end Cl

namespace Cl
open PySem PySem.Spec PyProof.Rows L2
/-! ### new lists by operators and built-ins -/
def rCL (R : RC) (f : Hc → D → D → Option D) : R2 := fun x y H Q => ∃ ρ φ h a b xs, RelH R ρ φ H h ∧ RD R ρ φ H a x ∧ RD R ρ φ H b y ∧ f h a b = some (.lst xs) ∧
  ∀ p ws, H p = none → RDs R ρ φ H xs ws → Q (.ref p) (upd H p (.lst ws))
section
variable {X : Cx} {R : RC}
theorem binL_add : OpR X (binaryOp .Add) (rCL R addF) := by
  intro pins s σ H x y v u Q I rx ry ⟨ρ, φ, h, a, b, d, rH, ra, rb, e, k⟩
  unfold addF at e
  split at e
  · cases e
  · split at e <;> cases e
  · split at e <;> cases e
  · unfold addL at e
    split at e
    · rename_i xs ys ea eb
      split at e
      · rename_i hz
        cases e
        obtain ⟨l, vs, rfl, h1, h2⟩ := ra.der_lst rH ea
        obtain ⟨m, ws, rfl, h3, h4⟩ := rb.der_lst rH eb
        exact op_cat pins s σ H _ _ v u Q I rx ry ⟨l, m, vs, ws, rfl, rfl, h1, h3, by rw [← h2.len, ← h4.len, ← line_eq]; exact hz, fun p hp => k p _ hp (h2.append h4)⟩
      · cases e
    · cases e
theorem binL_mul : OpR X (binaryOp .Mult) (rCL R mulF) := by
  intro pins s σ H x y v u Q I rx ry ⟨ρ, φ, h, a, b, d, rH, ra, rb, e, k⟩
  unfold mulF at e
  split at e
  · split at e <;> cases e
  · split at e <;> cases e
  · rename_i m _ _
    unfold mulL at e
    split at e
    · rename_i xs ea
      split at e
      · rename_i hz
        cases e
        obtain ⟨l, vs, rfl, h1, h2⟩ := ra.der_lst rH ea
        simp only [RD] at rb
        subst rb
        exact op_rep pins s σ H _ _ v u Q I rx ry ⟨l, m, vs, rfl, rfl, h1, hz.1, hz.2.1, by rw [← h2.len, ← line_eq]; exact hz.2.2, fun p hp => k p _ hp (h2.rep _)⟩
      · cases e
    · cases e
  · cases e
end
section
variable {S : Sg} {R : RC} {C : Caller} {Y : XC} {n : Nat} {N : List Str} {cm : Bool} {sc : Scope} {X : Cx} {W : WX} (G : Gd S R C Y n N cm sc X W) {pos : Pos}
theorem l_bin {op : Operator} (hop : op = .Add ∨ op = .Mult) {a b : CE} {ea eb : Expr} (ha : PE X ea (tE R Y W (evE C a))) (hb : PE X eb (tE R Y W (evE C b))) : PE X (.BinOp ea op eb pos) (tL R Y W (evE C (.bin op a b))) := by
  have ho : OpR X (binaryOp op) (rCL R fun h => binF h op) := by
    rcases hop with rfl | rfl
    · exact binL_add
    · exact binL_mul
  refine pe_imp (pe_op ho ha hb) fun σ H Q ⟨ρ, φ, s, h, hS, hH, f, only⟩ => ?_
  simp only [evE] at f only
  refine ⟨ρ, φ, s, h, hS, hH, f.bind fun x h1 ρ1 v H1 eq1 e1 hH1 r1 f1 => ?_⟩
  refine ⟨ρ1, φ, s, h1, hS.ext e1, hH1, f1.bind fun y h2 ρ2 u H2 eq2 e2 hH2 r2 f2 => ?_⟩
  cases ed : binF h2 op x y with
  | none => rw [ed] at f2; exact f2.elim
  | some d =>
    rw [ed] at f2
    obtain ⟨xs, rfl⟩ := only d h2 (by rw [eq1]; show (ERes.bind (evE C b s h1) _) = _; rw [eq2]; show ofO (binF h2 op x y) h2 = _; rw [ed]; rfl)
    exact ⟨ρ2, φ, h2, x, y, xs, hH2, r1.ext e2, r2, ed, fun p ws hp rs => finL_new (d := .lst xs) Ext.refl f2 rfl hH2 hp rs⟩
include G
theorem l_biV {v : Value} {g : Hc → List D → Option (List D)} {args : CEs} {x : Str} {e : Expr} {es : List Expr} {p : Pos} {c : CE} (hv : (∃ id, v = .builtin id) ∨ ∃ T, v = .type T) (hc : CallR X v (rL R g)) (hb : bootBuiltins x = some v) (hx : x ∈ bltNames) (hg : isGlB sc x = true)
    (ha : PA X (e :: es) (tA R Y W (evEs C args))) (hs : starEach (e :: es) X.env = (false, eval e X.env) :: starEach es X.env) (hp : (backTo pos (starEach es X.env)).any (·.1) = false)
    (hev : ∀ s h, evE C c s h = (evEs C args s h).bind fun ds h => ofO ((g h ds).map D.lst) h) : PE X (.Call (.Name x p) (e :: es) [] pos) (tL R Y W (evE C c)) := by
  obtain ⟨g1, g2⟩ := G.glb hg
  have rd : ∀ σ H Q, tL R Y W (evE C c) σ H Q → tCB (rL R g) (tA R Y W (evEs C args)) σ H Q := fun σ H Q ⟨ρ, φ, s, h, hS, hH, k, _⟩ => by
    rw [hev] at k
    refine ⟨ρ, φ, s, h, hS, hH, k.bind fun ds h1 ρ1 vs H1 _ e1 hH1 r1 f1 => ?_⟩
    cases ed : g h1 ds with
    | none => rw [ed] at f1; exact f1.elim
    | some xs =>
      rw [ed] at f1
      exact ⟨ρ1, φ, h1, ds, xs, hH1, r1, ed, fun p ws hp rs => finL_new (d := .lst xs) Ext.refl f1 rfl hH1 hp rs⟩
  rcases hv with ⟨id, rfl⟩ | ⟨T, rfl⟩
  · exact pe_imp (pe_callB hc g1 (G.bl hx) hb ha (nm_dbg g2).2.2 (nm_dbg g2).1 hs hp) rd
  · exact pe_imp (pe_callTy hc g1 (G.bl hx) hb ha (nm_dbg g2).2.2 (nm_dbg g2).1 hs hp) rd
omit G in
theorem bi_list_arg {h : Hc} {ds : List D} : biF h .list ds = (arg1 seqD h ds).map D.lst := by
  rcases ds with _ | ⟨d, _ | ⟨e, l⟩⟩ <;> rfl
omit G in
theorem bi_sorted_arg {h : Hc} {ds : List D} : biF h .sorted ds = (arg1 (fun h d => (seqD h d).bind sortF) h ds).map D.lst := by
  rcases ds with _ | ⟨d, _ | ⟨e, l⟩⟩ <;> rfl
theorem l_list {args : CEs} {e : Expr} {es : List Expr} {p : Pos} (hg : isGlB sc "list" = true) (ha : PA X (e :: es) (tA R Y W (evEs C args)))
    (hs : starEach (e :: es) X.env = (false, eval e X.env) :: starEach es X.env) (hp : (backTo pos (starEach es X.env)).any (·.1) = false) : PE X (.Call (.Name "list" p) (e :: es) [] pos) (tL R Y W (evE C (.bi .list args))) :=
  l_biV G (.inr ⟨_, rfl⟩) (call_listC G.hK) (by decide +kernel) (by decide +kernel) hg ha hs hp fun s h => by simp only [evE, bi_list_arg]
theorem l_sorted {args : CEs} {e : Expr} {es : List Expr} {p : Pos} (hg : isGlB sc "sorted" = true) (ha : PA X (e :: es) (tA R Y W (evEs C args)))
    (hs : starEach (e :: es) X.env = (false, eval e X.env) :: starEach es X.env) (hp : (backTo pos (starEach es X.env)).any (·.1) = false) : PE X (.Call (.Name "sorted" p) (e :: es) [] pos) (tL R Y W (evE C (.bi .sorted args))) :=
  l_biV G (.inl ⟨_, rfl⟩) (call_sortedC G.hK G.hu) (by decide +kernel) (by decide +kernel) hg ha hs hp fun s h => by simp only [evE, bi_sorted_arg]
theorem c_lenset {args : CEs} {a : Expr} {p p2 q : Pos} (hcm : cm = true) (hg : isGlB sc "len" = true) (hg2 : isGlB sc "set" = true) (ha : PA X [a] (tA R Y W (evEs C args))) (hs : starEach [a] X.env = (false, eval a X.env) :: starEach [] X.env) :
    PE X (.Call (.Name "len" p) [.Call (.Name "set" p2) [a] [] q] [] pos) (tE R Y W (evE C (.bi .lenset args))) := by
  obtain ⟨g1, g2⟩ := G.glb hg
  obtain ⟨g3, g4⟩ := G.glb hg2
  refine ⟨fun pins s σ H Q I ⟨ρ, φ, cs, h, hS, hH, f⟩ => ?_⟩
  simp only [evE] at f
  refine Call_ (ld_blt I g1 (G.bl (by decide +kernel)) boot_len ?_)
  refine PyProof.Rows.callWith_builtin1 (PyProof.Rows.args_cons ?_ rfl) rfl rfl
  refine Call_ (ld_blt I g3 (G.bl (by decide +kernel)) boot_set ?_)
  have f' : tA R Y W (evEs C args) σ H (fun vs H1 => ∃ (l : Addr) (ns : List Int), vs = [.ref l] ∧ SqL X.K H1 l (ns.map V.int) ∧ ns.length ≤ 4000 ∧ Q (.int (firstMet (fun i => ns.getD i 0) ns.length).length) H1) := by
    refine ⟨ρ, φ, cs, h, hS, hH, f.bind fun ds h1 ρ1 vs H1 _ e1 hH1 r1 f1 => ?_⟩
    obtain ⟨d, ed, k⟩ := Fin.ofO f1
    rcases ds with _ | ⟨d0, _ | ⟨d1, l⟩⟩
    · cases ed
    · simp only [RDs] at r1
      obtain ⟨v, vs', rfl, h1', rfl⟩ := r1
      have ed' : ((lstD h1 d0).bind fun xs => (intsD xs).bind fun is => if is.length ≤ 4000 then some (.int (firstMet (fun i => is.getD i 0) is.length).length) else none) = some d := ed
      obtain ⟨xs, x1, ed'⟩ := Option.bind_eq_some_iff.mp ed'
      obtain ⟨ns, x2, ed'⟩ := Option.bind_eq_some_iff.mp ed'
      split at ed'
      · rename_i hz
        cases ed'
        obtain ⟨a, ws, rfl, y1, y2⟩ := lst_seq hH1 h1' x1
        obtain ⟨z1, z2⟩ := intsD_rd x2 y2
        subst z1
        exact ⟨a, ns, rfl, G.hK ▸ y1, hz, k _ _ _ Ext.refl hH1 (by simp only [RD])⟩
      · cases ed'
    · cases ed
  refine PyProof.Rows.callWith_type1 (thn (ha.run q pins s σ H _ I f') fun us s1 ⟨vs, H1, I1, r1, l, ns, e1, hq, hl, k⟩ => ?_) hs rfl
  subst e1
  cases r1 with
  | cons r rr =>
  cases rr
  cases r
  obtain ⟨its, r, pl, hz⟩ := I1.list hq
  have hlen : its.toArray.size = ns.length := by rw [List.size_toArray, ← r.length, List.length_map]
  refine call_set_list (I1.ok.hd (G.calm hcm)) pl.isList (by simpa using RZ.intsAre_vals r) (by rw [hlen]; unfold scanBound; omega) fun h' tk hS hk => ?_
  refine PyProof.Rows.args_nil ?_
  rw [hlen] at hS
  obtain ⟨o, es, ep, t, ho, hex, hd, _, _, _, hf, hn⟩ := hS
  have I2 : Inv X pins σ H1 { s1 with heap := h', toks := tk } := I1.kept fun b o e => hk b o (Heap.lt_size e) e
  have hle := PyProof.Rows.firstMet_length_le (fun i => ns.getD i 0) ns.length
  exact call_len_set ho hex hd hf (by rw [hn]; omega) ⟨.int (firstMet (fun i => ns.getD i 0) ns.length).length, H1, I2.tok _, ⟨_, by rw [hn]⟩, k⟩
end
end Cl

namespace Cl
open PySem PySem.Spec PyProof.Rows L2
/-! ### what is walked -/
structure JOk (R : RC) (J : It) (xs : List D) (g : Guard) (ρ φ : List Addr) (H : Hp) : Prop where
  go : ∀ (i : Nat) (ρ' φ' : List Addr) (H' : Hp) (h' : Hc), Later ρ φ H ρ' φ' H' → RelH R ρ' φ' H' h' → gOk g h' = true → ∀ d, xs[i]? = some d →
    J.go i H' ∧ ∀ x H2, J.yld i H' x H2 → Ext ρ' ρ' H' H2 ∧ Later ρ' φ' H' ρ' φ' H2 ∧ RelH R ρ' φ' H2 h' ∧ RD R ρ' φ' H2 d x
  stop : ∀ (ρ' φ' : List Addr) (H' : Hp) (h' : Hc), Later ρ φ H ρ' φ' H' → RelH R ρ' φ' H' h' → gOk g h' = true → J.stop xs.length H'
def tI (R : RC) (Y : XC) (W : WX) (f : CSt → Hc → ERes Itd) : TI := fun σ H Q => ∃ ρ φ c h, RelS R ρ φ H c σ ∧ RelH R ρ φ H h ∧ Fin R Y W σ ρ φ H (fun ρ' H' d J => JOk R J d.xs d.g ρ' φ H') (f c h) Q
theorem pi_imp {X : Cx} {tg e : Expr} {t u : TI} (h : PI X tg e t) (k : ∀ σ H Q, u σ H Q → t σ H Q) : PI X tg e u := ⟨fun pins s σ H Q I q => h.run pins s σ H Q I (k σ H Q q)⟩
def iSeq (K : PySem.W.Frag) (tl : TE) : TI := fun σ H Q => tl σ H fun x H1 => ∃ a, x = .ref a ∧ (((∃ xs, SqL K H1 a xs) ∧ Q (Itl K a) H1) ∨ ((∃ xs, SqT K H1 a xs) ∧ Q (Itt K a) H1))
theorem pi_seq {X : Cx} {tg l : Expr} {tl : TE} (hl : PE X l tl) : PI X tg l (iSeq X.K tl) := by
  refine ⟨fun pins s σ H Q I h => thn (hl.run pins s σ H _ I h) fun v s1 ⟨x, H1, I1, r1, a, e, q1⟩ => ?_⟩
  subst e
  cases r1
  have fo : ∀ b ∈ [s1.heap.objs.size], FpOk X pins H1 b := fun b hb => by
    have e : b = s1.heap.objs.size := by simpa using hb
    subst e
    exact I1.fpOk (Nat.le_refl _) (I1.hok.fresh (Nat.le_refl _))
  rcases q1 with ⟨⟨xs, hq⟩, q⟩ | ⟨⟨xs, hq⟩, q⟩
  · obtain ⟨its, rv, p, hz⟩ := I1.list hq
    refine wpAny_pyIter_list p.isList ?_
    exact ⟨s1.heap.objs.size, [s1.heap.objs.size], _, _, H1, rfl, I1.kept (t' := s1.toks) fun b o e => Heap.get?_push_of_some _ e, turn_list a _, ⟨_, Heap.get?_push_size _ rfl, rfl, rfl⟩, fo, q⟩
  · obtain ⟨its, rv, p, hz⟩ := I1.tuple hq
    refine wpAny_pyIter_tuple (show s1.heap.IsTuple a its.toArray from p) ?_
    exact ⟨s1.heap.objs.size, [s1.heap.objs.size], _, _, H1, rfl, I1.kept (t' := s1.toks) fun b o e => Heap.get?_push_of_some _ e, turn_tuple a _, ⟨_, Heap.get?_push_size _ rfl, rfl, rfl⟩, fo, q⟩
section
variable {R : RC} {ρ φ : List Addr} {H : Hp} {h : Hc}
theorem Later.refl : Later ρ φ H ρ φ H := Later.of Ext.refl
theorem gOk_at {g : Guard} {h : Hc} {n : Nat} {c : Cell} (k : gOk g h = true) (m : (n, c) ∈ g) : h[n]? = some c := by
  unfold gOk at k
  have := List.all_eq_true.mp k _ m
  simpa using this
/-- a list that stays, as walked -/
theorem jok_list {a : Addr} {xs : List D} {g : Guard} (k : ∀ (ρ' φ' : List Addr) (H' : Hp) (h' : Hc), Later ρ φ H ρ' φ' H' → RelH R ρ' φ' H' h' → gOk g h' = true → ∃ vs, SqL R.K H' a vs ∧ RDs R ρ' φ' H' xs vs) : JOk R (Itl R.K a) xs g ρ φ H := by
  refine ⟨fun i ρ' φ' H' h' l rH gg d hd => ?_, fun ρ' φ' H' h' l rH gg => ?_⟩
  · obtain ⟨vs, h1, h2⟩ := k ρ' φ' H' h' l rH gg
    obtain ⟨v, h3, h4⟩ := h2.get hd
    refine ⟨⟨vs, v, h1, h3⟩, fun x H2 ⟨e, y⟩ => ?_⟩
    subst e
    have := y vs h1
    rw [h3] at this
    cases this
    exact ⟨Ext.refl, Later.refl, rH, h4⟩
  · obtain ⟨vs, h1, h2⟩ := k ρ' φ' H' h' l rH gg
    exact ⟨vs, h1, by rw [h2.len]; exact Nat.le_refl _⟩
theorem jok_tup {a : Addr} {xs : List D} {g : Guard} (k : ∀ (ρ' φ' : List Addr) (H' : Hp) (h' : Hc), Later ρ φ H ρ' φ' H' → RelH R ρ' φ' H' h' → gOk g h' = true → ∃ vs, SqT R.K H' a vs ∧ RDs R ρ' φ' H' xs vs) : JOk R (Itt R.K a) xs g ρ φ H := by
  refine ⟨fun i ρ' φ' H' h' l rH gg d hd => ?_, fun ρ' φ' H' h' l rH gg => ?_⟩
  · obtain ⟨vs, h1, h2⟩ := k ρ' φ' H' h' l rH gg
    obtain ⟨v, h3, h4⟩ := h2.get hd
    refine ⟨⟨vs, v, h1, h3⟩, fun x H2 ⟨e, y⟩ => ?_⟩
    subst e
    have := y vs h1
    rw [h3] at this
    cases this
    exact ⟨Ext.refl, Later.refl, rH, h4⟩
  · obtain ⟨vs, h1, h2⟩ := k ρ' φ' H' h' l rH gg
    exact ⟨vs, h1, by rw [h2.len]; exact Nat.le_refl _⟩
theorem rng_get {c : Int} : ∀ {n i : Nat} {a : Int} {d : D}, (rngD a c n)[i]? = some d → i < n ∧ d = .int (a + (i : Nat) * c)
  | 0, i, a, d, e => by simp [rngD] at e
  | n + 1, 0, a, d, e => by
    simp only [rngD, List.getElem?_cons_zero, Option.some.injEq] at e
    refine ⟨Nat.succ_pos _, ?_⟩
    rw [← e]
    simp
  | n + 1, i + 1, a, d, e => by
    simp only [rngD, List.getElem?_cons_succ] at e
    obtain ⟨h1, h2⟩ := rng_get e
    refine ⟨Nat.succ_lt_succ h1, ?_⟩
    rw [h2]
    congr 1
    have : ((i + 1 : Nat) : Int) * c = (i : Nat) * c + c := by rw [Int.natCast_succ, Int.add_mul, Int.one_mul]
    omega
theorem rng_len {c : Int} : ∀ {n : Nat} {a : Int}, (rngD a c n).length = n
  | 0, a => rfl
  | n + 1, a => by rw [rngD, List.length_cons, rng_len]
theorem jok_rng {lo : Int} {n : Nat} : JOk R (Itr lo n) (rngD lo 1 n) [] ρ φ H := by
  refine ⟨fun i ρ' φ' H' h' l rH gg d hd => ?_, fun ρ' φ' H' h' l rH gg => ?_⟩
  · obtain ⟨h1, h2⟩ := rng_get hd
    refine ⟨h1, fun x H2 ⟨e, y⟩ => ?_⟩
    subst e
    refine ⟨Ext.refl, Later.refl, rH, ?_⟩
    rw [h2, Int.mul_one]
    simp only [RD]
    exact y
  · show n ≤ _
    rw [rng_len]
    exact Nat.le_refl _
theorem jok_rngC {lo c : Int} {n : Nat} : JOk R (Itc lo c n) (rngD lo c n) [] ρ φ H := by
  refine ⟨fun i ρ' φ' H' h' l rH gg d hd => ?_, fun ρ' φ' H' h' l rH gg => ?_⟩
  · obtain ⟨h1, h2⟩ := rng_get hd
    refine ⟨h1, fun x H2 ⟨e, y⟩ => ?_⟩
    subst e
    refine ⟨Ext.refl, Later.refl, rH, ?_⟩
    rw [h2]
    simp only [RD]
    exact y
  · show n ≤ _
    rw [rng_len]
    exact Nat.le_refl _
end
section
variable {S : Sg} {R : RC} {C : Caller} {Y : XC} {n : Nat} {N : List Str} {cm : Bool} {sc : Scope} {X : Cx} {W : WX} (G : Gd S R C Y n N cm sc X W) {pos : Pos} {tg : Expr}
include G
theorem i_seq {a : CE} {e : Expr} (ha : PE X e (tE R Y W (evE C a))) : PI X tg e (tI R Y W (evI C (.seq a))) :=
  pi_imp (pi_seq ha) fun σ H Q ⟨ρ, φ, s, h, hS, hH, f⟩ => by
    simp only [evI] at f
    refine ⟨ρ, φ, s, h, hS, hH, f.bind fun x h1 ρ1 v H1 _ e1 hH1 r1 f1 => ?_⟩
    cases ex : seqD h1 x with
    | none => simp only [ex] at f1; exact f1.elim
    | some xs =>
      simp only [ex] at f1
      have r1' := r1
      cases x with
      | tup ds =>
        simp only [seqD, Option.some.injEq] at ex; subst ex
        simp only [RD] at r1
        obtain ⟨a, vs, rfl, g1, g2⟩ := r1
        refine ⟨a, rfl, .inr ⟨⟨vs, G.hK ▸ g1.sq⟩, ?_⟩⟩
        rw [← G.hK]
        refine f1 ρ1 _ H1 Ext.refl hH1 (jok_tup fun ρ' φ' H' h' l rH gg => ?_)
        have q := r1'.later l
        simp only [RD] at q
        obtain ⟨a', vs', e', q1, q2⟩ := q
        cases e'
        exact ⟨vs', q1.sq, q2⟩
      | lst ds =>
        simp only [seqD, Option.some.injEq] at ex; subst ex
        simp only [RD] at r1
        obtain ⟨a, vs, rfl, g1, g2⟩ := r1
        refine ⟨a, rfl, .inl ⟨⟨vs, G.hK ▸ g1.sq⟩, ?_⟩⟩
        rw [← G.hK]
        refine f1 ρ1 _ H1 Ext.refl hH1 (jok_list fun ρ' φ' H' h' l rH gg => ?_)
        have q := r1'.later l
        simp only [RD] at q
        obtain ⟨a', vs', e', q1, q2⟩ := q
        cases e'
        exact ⟨vs', q1.sq, q2⟩
      | ref m =>
        simp only [RD] at r1
        obtain ⟨a, ea, rfl⟩ := r1
        unfold seqD at ex
        cases hc : h1[m]? with
        | none => simp [hc] at ex
        | some c =>
          have gu : guardOf h1 (.ref m) = [(m, c)] := by simp only [guardOf, hc]
          rw [gu] at f1
          have rc := hH1.cells m a c ea hc
          cases c with
          | lst ys =>
            simp only [hc, Option.some.injEq] at ex; subst ex
            obtain ⟨vs, q1, q2⟩ := rc
            refine ⟨a, rfl, .inl ⟨⟨vs, SqL.of q1⟩, ?_⟩⟩
            rw [← G.hK]
            refine f1 ρ1 _ H1 Ext.refl hH1 (jok_list fun ρ' φ' H' h' l rH gg => ?_)
            obtain ⟨ws, w1, w2⟩ := rH.cells m a (.lst ys) (l.ext.get ea) (gOk_at (c := .lst ys) gg (by simp))
            exact ⟨ws, SqL.of w1, w2⟩
          | ro ys =>
            simp only [hc, Option.some.injEq] at ex; subst ex
            obtain ⟨o, vs, q1, q2⟩ := rc
            refine ⟨a, rfl, .inl ⟨⟨vs, .inl (.inr ⟨o, q1⟩)⟩, ?_⟩⟩
            rw [← G.hK]
            refine f1 ρ1 _ H1 Ext.refl hH1 (jok_list fun ρ' φ' H' h' l rH gg => ?_)
            obtain ⟨o', ws, w1, w2⟩ := rH.cells m a (.ro ys) (l.ext.get ea) (gOk_at (c := .ro ys) gg (by simp))
            exact ⟨ws, .inl (.inr ⟨o', w1⟩), w2⟩
          | dK _ => simp [hc] at ex
          | dT _ => simp [hc] at ex
      | _ => simp [seqD] at ex
omit G in
theorem small_of {i : Int} (h : smallI i = true) : -(2 ^ 62) ≤ i ∧ i < 2 ^ 62 := by
  unfold smallI at h
  simpa using h
theorem i_rng1 {a : CE} {e : Expr} {p : Pos} (hg : isGlB sc "range" = true) (ha : PE X e (tE R Y W (evE C a))) (hs : starEach [e] X.env = (false, eval e X.env) :: starEach [] X.env) : PI X tg (.Call (.Name "range" p) [e] [] pos) (tI R Y W (evI C (.rng1 a))) := by
  obtain ⟨g1, g2⟩ := G.glb hg
  refine pi_imp (pi_range1 g1 (G.bl (by decide +kernel)) (pa_cons ha pa_nil hs) (by rw [hs]; rfl)) fun σ H Q ⟨ρ, φ, s, h, hS, hH, f⟩ => ?_
  simp only [evI] at f
  refine ⟨ρ, φ, s, h, hS, hH, f.bind fun x h1 ρ1 v H1 _ e1 hH1 r1 f1 => ?_⟩
  cases x with
  | int j =>
    simp only [RD] at r1
    subst r1
    by_cases hj : smallI j = true
    · simp only [hj, if_true] at f1
      obtain ⟨j1, j2⟩ := small_of hj
      exact ⟨j, rfl, j1, j2, f1 ρ1 _ H1 Ext.refl hH1 jok_rng⟩
    · simp only [hj] at f1
      exact f1.elim
  | _ => exact f1.elim
theorem i_rng2 {a b : CE} {e e2 : Expr} {p : Pos} (hg : isGlB sc "range" = true) (ha : PE X e (tE R Y W (evE C a))) (hb : PE X e2 (tE R Y W (evE C b))) (hs : starEach [e, e2] X.env = (false, eval e X.env) :: starEach [e2] X.env) (hs2 : starEach [e2] X.env = (false, eval e2 X.env) :: starEach [] X.env) :
    PI X tg (.Call (.Name "range" p) [e, e2] [] pos) (tI R Y W (evI C (.rng2 a b))) := by
  obtain ⟨g1, g2⟩ := G.glb hg
  refine pi_imp (pi_range2 g1 (G.bl (by decide +kernel)) (pa_cons ha (pa_cons hb pa_nil hs2) hs) (by rw [hs, hs2]; rfl) (by rw [hs2]; rfl)) fun σ H Q ⟨ρ, φ, s, h, hS, hH, f⟩ => ?_
  simp only [evI] at f
  refine ⟨ρ, φ, s, h, hS, hH, f.bind fun x h1 ρ1 v H1 _ e1 hH1 r1 f1 => ?_⟩
  refine ⟨ρ1, φ, s, h1, hS.ext e1, hH1, f1.bind fun y h2 ρ2 u H2 _ e2 hH2 r2 f2 => ?_⟩
  have r1 := r1.ext e2
  cases x with
  | int i =>
    cases y with
    | int j =>
      simp only [RD] at r1 r2
      subst r1 r2
      by_cases hj : (smallI i && smallI j) = true
      · simp only [hj, if_true] at f2
        rw [Bool.and_eq_true] at hj
        obtain ⟨j1, j2⟩ := small_of hj.1
        obtain ⟨j3, j4⟩ := small_of hj.2
        exact ⟨i, j, rfl, ⟨j1, j2, j3, j4⟩, f2 ρ2 _ H2 Ext.refl hH2 jok_rng⟩
      · simp only [hj] at f2
        exact f2.elim
    | _ => exact f2.elim
  | _ => exact f2.elim
theorem i_rng3 {a b c : CE} {e e2 e3 : Expr} {p : Pos} (hg : isGlB sc "range" = true) (ha : PE X e (tE R Y W (evE C a))) (hb : PE X e2 (tE R Y W (evE C b))) (hc : PE X e3 (tE R Y W (evE C c))) (hs : starEach [e, e2, e3] X.env = (false, eval e X.env) :: starEach [e2, e3] X.env)
    (hs2 : starEach [e2, e3] X.env = (false, eval e2 X.env) :: starEach [e3] X.env) (hs3 : starEach [e3] X.env = (false, eval e3 X.env) :: starEach [] X.env) :
    PI X tg (.Call (.Name "range" p) [e, e2, e3] [] pos) (tI R Y W (evI C (.rng3 a b c))) := by
  obtain ⟨g1, g2⟩ := G.glb hg
  refine pi_imp (pi_range3 g1 (G.bl (by decide +kernel)) (pa_cons ha (pa_cons hb (pa_cons hc pa_nil hs3) hs2) hs) hs (by rw [hs2, hs3]; rfl)) fun σ H Q ⟨ρ, φ, s, h, hS, hH, f⟩ => ?_
  simp only [evI] at f
  refine ⟨ρ, φ, s, h, hS, hH, f.bind fun x h1 ρ1 v H1 _ e1 hH1 r1 f1 => ?_⟩
  refine ⟨ρ1, φ, s, h1, hS.ext e1, hH1, f1.bind fun y h2 ρ2 u H2 _ e2 hH2 r2 f2 => ?_⟩
  refine ⟨ρ2, φ, s, h2, (hS.ext e1).ext e2, hH2, f2.bind fun z h3 ρ3 w H3 _ e3 hH3 r3 f3 => ?_⟩
  have r1 := (r1.ext e2).ext e3
  have r2 := r2.ext e3
  cases x with
  | int i =>
    cases y with
    | int j =>
      cases z with
      | int k =>
        simp only [RD] at r1 r2 r3
        subst r1 r2 r3
        by_cases hj : (Builtin.Range.small i j k && decide (k ≠ 0) && decide (k.natAbs < 1073741824) && decide (Builtin.Range.rangeSize i j k = (rngN i j k : Nat))) = true
        · simp only [hj, if_true] at f3
          simp only [Bool.and_eq_true, decide_eq_true_eq] at hj
          obtain ⟨⟨⟨j1, j2⟩, j3⟩, j4⟩ := hj
          exact ⟨i, j, k, rngN i j k, rfl, ⟨j2, j3, j1, j4⟩, f3 ρ3 _ H3 Ext.refl hH3 jok_rngC⟩
        · simp only [hj] at f3
          exact f3.elim
      | _ => exact f3.elim
    | _ => exact f3.elim
  | _ => exact f3.elim
end

/-! ### targets -/
mutual
def tgIx : Tg → List Nat
  | .v i => [i]
  | .t ts => tgsIx ts
def tgsIx : Tgs → List Nat
  | .nil => []
  | .cons t ts => tgIx t ++ tgsIx ts
end
/-- as before but at the target's places -/
def Same (is : List Nat) (σ σ' : L2.St) : Prop := σ'.length = σ.length ∧ ∀ i, i ∉ is → σ'[i]? = σ[i]?
theorem Same.refl {is : List Nat} {σ : L2.St} : Same is σ σ := ⟨rfl, fun _ _ => rfl⟩
theorem Same.trans {is js : List Nat} {σ σ1 σ2 : L2.St} (a : Same is σ σ1) (b : Same js σ1 σ2) : Same (is ++ js) σ σ2 :=
  ⟨b.1.trans a.1, fun i hi => by
    rw [List.mem_append, not_or] at hi
    rw [b.2 i hi.2, a.2 i hi.1]⟩
def tG (R : RC) (t : Tg) : TG := fun v σ H Q => ∃ ρ φ c h d c', RelS R ρ φ H c σ ∧ RelH R ρ φ H h ∧ RD R ρ φ H d v ∧ asgT t d c = some c' ∧ ∀ σ', RelS R ρ φ H c' σ' → Same (tgIx t) σ σ' → Q σ' H
def tGs (R : RC) (ts : Tgs) : TGs := fun vs σ H Q => ∃ ρ φ c h ds c', RelS R ρ φ H c σ ∧ RelH R ρ φ H h ∧ RDs R ρ φ H ds vs ∧ asgTs ts ds c = some c' ∧ ∀ σ', RelS R ρ φ H c' σ' → Same (tgsIx ts) σ σ' → Q σ' H
theorem pg_imp {X : Cx} {e : Expr} {t u : TG} (h : PG X e t) (k : ∀ v σ H Q, u v σ H Q → t v σ H Q) : PG X e u := ⟨fun pins s σ H v w Q I r q => h.run pins s σ H v w Q I r (k v σ H Q q)⟩
theorem pgs_imp {X : Cx} {e : List Expr} {t u : TGs} (h : PGs X e t) (k : ∀ v σ H Q, u v σ H Q → t v σ H Q) : PGs X e u := ⟨fun pins s σ H v w Q I r q => h.run pins s σ H v w Q I r (k v σ H Q q)⟩
theorem chkT_plain {N : List Str} {sc : Scope} : ∀ {t : Tg} {e : Expr}, chkT N sc t e = true → ∀ (es : List Expr) (env : PySem.Env), assignEach (e :: es) env = (false, assign e env) :: assignEach es env := by
  intro t e h es env
  cases e with
  | Starred v p => cases t <;> simp [chkT] at h
  | _ => rfl
def tgsLen : Tgs → Nat
  | .nil => 0
  | .cons _ ts => tgsLen ts + 1
theorem chkTs_len {N : List Str} {sc : Scope} : ∀ {ts : Tgs} {es : List Expr} {env : PySem.Env}, chkTs N sc ts es = true → (assignEach es env).length = tgsLen ts ∧ (assignEach es env).findIdx? (·.1) = none
  | .nil, [], _, _ => ⟨rfl, rfl⟩
  | .nil, _ :: _, _, h => by simp [chkTs] at h
  | .cons _ _, [], _, h => by simp [chkTs] at h
  | .cons t ts, e :: es, env, h => by
    simp only [chkTs, Bool.and_eq_true] at h
    obtain ⟨h1, h2⟩ := @chkTs_len N sc ts es env h.2
    rw [chkT_plain h.1 es env]
    refine ⟨by rw [List.length_cons, h1]; rfl, ?_⟩
    rw [List.findIdx?_cons, h2]
    rfl
theorem asgTs_len : ∀ {ts : Tgs} {ds : List D} {c c' : CSt}, asgTs ts ds c = some c' → ds.length = tgsLen ts
  | .nil, [], _, _, _ => rfl
  | .nil, _ :: _, _, _, h => by simp [asgTs] at h
  | .cons _ _, [], _, _, h => by simp [asgTs] at h
  | .cons t ts, d :: ds, c, c', h => by
    simp only [asgTs] at h
    cases q : asgT t d c with
    | none => simp [q] at h
    | some c1 =>
      simp only [q] at h
      rw [List.length_cons, asgTs_len h]
      rfl
section
variable {S : Sg} {R : RC} {C : Caller} {Y : XC} {n : Nat} {N : List Str} {cm : Bool} {sc : Scope} {X : Cx} {W : WX} (G : Gd S R C Y n N cm sc X W)
include G
mutual
theorem g_tg (hcm : X.calm = true) : ∀ {t : Tg} {e : Expr}, chkT N sc t e = true → PG X e (tG R t)
  | .v i, e, h => by
    cases e with
    | Name x p =>
      simp only [chkT, Bool.and_eq_true, Bool.or_eq_true, decide_eq_true_eq] at h
      obtain ⟨⟨h1, h2⟩, h3⟩ := h
      have hl : Loc X.env.scope x := h2.elim (fun z => .inl (G.sees.loc x z)) fun z => .inr (G.sees.cell x z)
      have hf : X.fn x = true ∨ X.env.scope.names.lookup x = some .local := h2.elim (fun z => .inr (G.sees.loc x z)) fun z => .inl (G.fnc x z)
      refine pg_imp (pg_name (i := i) (by rw [G.hN]; exact G.nd) (by rw [G.hN]; exact h1) hl hf) fun v σ H Q ⟨ρ, φ, c, h, d, c', hS, hH, r, ea, k⟩ => ?_
      simp only [asgT, Option.some.injEq] at ea
      subst ea
      refine k _ (hS.set i r) ⟨by rw [List.length_set], fun j hj => ?_⟩
      rw [List.getElem?_set_ne]
      intro z
      exact hj (by simp [tgIx, z])
    | _ => simp [chkT] at h
  | .t ts, e, h => by
    cases e with
    | Tuple es k p =>
      simp only [chkT] at h
      obtain ⟨l1, l2⟩ := @chkTs_len N sc ts es X.env h
      refine pg_imp (pg_tup hcm (g_tgs hcm h) l1 l2) fun v σ H Q ⟨ρ, φ, c, hh, d, c', hS, hH, r, ea, k⟩ => ?_
      simp only [asgT] at ea
      cases d with
      | tup ds =>
        have r' := r
        simp only [RD] at r
        obtain ⟨a, vs, rfl, g1, g2⟩ := r
        exact ⟨a, vs, rfl, G.hK ▸ g1.sq, by rw [← g2.len]; exact asgTs_len ea, ρ, φ, c, hh, ds, c', hS, hH, g2, ea, k⟩
      | _ => cases ea
    | _ => simp [chkT] at h
theorem g_tgs (hcm : X.calm = true) : ∀ {ts : Tgs} {es : List Expr}, chkTs N sc ts es = true → PGs X es (tGs R ts)
  | .nil, [], _ => pgs_imp pgs_nil fun vs σ H Q ⟨ρ, φ, c, hh, ds, c', hS, hH, r, ea, k⟩ => by
    cases ds with
    | nil =>
      simp only [asgTs, Option.some.injEq] at ea
      subst ea
      simp only [RDs] at r
      exact ⟨r, k σ hS Same.refl⟩
    | cons _ _ => simp [asgTs] at ea
  | .nil, _ :: _, h => by simp [chkTs] at h
  | .cons _ _, [], h => by simp [chkTs] at h
  | .cons t ts, e :: es, h => by
    simp only [chkTs, Bool.and_eq_true] at h
    refine pgs_imp (pgs_cons (g_tg hcm h.1) (g_tgs hcm h.2) (by rw [chkT_plain h.1]; rfl)) fun vs σ H Q ⟨ρ, φ, c, hh, ds, c', hS, hH, r, ea, k⟩ => ?_
    cases ds with
    | nil => simp [asgTs] at ea
    | cons d ds =>
      simp only [RDs] at r
      obtain ⟨v, vs', rfl, r1, r2⟩ := r
      simp only [asgTs] at ea
      cases q : asgT t d c with
      | none => simp [q] at ea
      | some c1 =>
        simp only [q] at ea
        exact ⟨v, vs', rfl, ρ, φ, c, hh, d, c1, hS, hH, r1, q, fun σ1 hS1 s1 => ⟨ρ, φ, c1, hh, ds, c', hS1, hH, r2, ea, fun σ2 hS2 s2 => k σ2 hS2 (s1.trans s2)⟩⟩
end
omit G in
theorem enumD_get : ∀ {xs : List D} {k i : Nat} {d : D}, (enumD k xs)[i]? = some d → ∃ x, xs[i]? = some x ∧ d = .tup [.int ((k + i : Nat) : Int), x]
  | [], k, i, d, h => by simp [enumD] at h
  | x :: xs, k, 0, d, h => by
    simp only [enumD, List.getElem?_cons_zero, Option.some.injEq] at h
    exact ⟨x, rfl, h.symm⟩
  | x :: xs, k, i + 1, d, h => by
    simp only [enumD, List.getElem?_cons_succ] at h
    obtain ⟨y, h1, h2⟩ := enumD_get h
    refine ⟨y, by simpa using h1, ?_⟩
    rw [h2, show k + 1 + i = k + (i + 1) by omega]
omit G in
theorem enumD_len : ∀ {xs : List D} {k : Nat}, (enumD k xs).length = xs.length
  | [], k => rfl
  | x :: xs, k => by rw [enumD, List.length_cons, enumD_len, List.length_cons]
omit G in
theorem zipD_get : ∀ {xs ys : List D} {i : Nat} {d : D}, (zipD xs ys)[i]? = some d → ∃ x y, xs[i]? = some x ∧ ys[i]? = some y ∧ d = .tup [x, y]
  | [], _, i, d, h => by simp [zipD] at h
  | _ :: _, [], i, d, h => by simp [zipD] at h
  | x :: xs, y :: ys, 0, d, h => by
    simp only [zipD, List.getElem?_cons_zero, Option.some.injEq] at h
    exact ⟨x, y, rfl, rfl, h.symm⟩
  | x :: xs, y :: ys, i + 1, d, h => by
    simp only [zipD, List.getElem?_cons_succ] at h
    obtain ⟨a, b, h1, h2, h3⟩ := zipD_get h
    exact ⟨a, b, by simpa using h1, by simpa using h2, h3⟩
omit G in
theorem zipD_len : ∀ {xs ys : List D}, (zipD xs ys).length = min xs.length ys.length
  | [], _ => by simp [zipD]
  | _ :: _, [] => by simp [zipD]
  | x :: xs, y :: ys => by rw [zipD, List.length_cons, zipD_len, List.length_cons, List.length_cons]; omega
omit G in
theorem RDs.two {R : RC} {ρ φ : List Addr} {H : Hp} {d e : D} {v u : V} (a : RD R ρ φ H d v) (b : RD R ρ φ H e u) : RDs R ρ φ H [d, e] [v, u] := (RDs.one a).append (RDs.one b)
omit G in
/-- a list's items as they stand later -/
theorem lst_at {R : RC} {ρ φ : List Addr} {H : Hp} {h : Hc} {x : D} {xs : List D} {v : V} (ex : lstD h x = some xs) (hH : RelH R ρ φ H h) (r : RD R ρ φ H x v) :
    ∃ a, v = .ref a ∧ (∃ vs, SqL R.K H a vs) ∧ ∀ (ρ' φ' : List Addr) (H' : Hp) (h' : Hc), Later ρ φ H ρ' φ' H' → RelH R ρ' φ' H' h' → gOk (guardOf h x) h' = true → ∃ vs, SqL R.K H' a vs ∧ RDs R ρ' φ' H' xs vs := by
  have r1' := r
  cases x with
  | lst ds =>
    simp only [lstD, Option.some.injEq] at ex; subst ex
    simp only [RD] at r
    obtain ⟨a, vs, rfl, g1, g2⟩ := r
    refine ⟨a, rfl, ⟨vs, g1.sq⟩, fun ρ' φ' H' h' l rH gg => ?_⟩
    have q := r1'.later l
    simp only [RD] at q
    obtain ⟨a', vs', e', q1, q2⟩ := q
    cases e'
    exact ⟨vs', q1.sq, q2⟩
  | ref m =>
    simp only [RD] at r
    obtain ⟨a, ea, rfl⟩ := r
    unfold lstD at ex
    cases hc : h[m]? with
    | none => simp [hc] at ex
    | some c =>
      have gu : guardOf h (.ref m) = [(m, c)] := by simp only [guardOf, hc]
      rw [gu]
      have rc := hH.cells m a c ea hc
      cases c with
      | lst ys =>
        simp only [hc, Option.some.injEq] at ex; subst ex
        obtain ⟨vs, q1, q2⟩ := rc
        refine ⟨a, rfl, ⟨vs, SqL.of q1⟩, fun ρ' φ' H' h' l rH gg => ?_⟩
        obtain ⟨ws, w1, w2⟩ := rH.cells m a (.lst ys) (l.ext.get ea) (gOk_at (c := .lst ys) gg (by simp))
        exact ⟨ws, SqL.of w1, w2⟩
      | ro ys =>
        simp only [hc, Option.some.injEq] at ex; subst ex
        obtain ⟨o, vs, q1, q2⟩ := rc
        refine ⟨a, rfl, ⟨vs, .inl (.inr ⟨o, q1⟩)⟩, fun ρ' φ' H' h' l rH gg => ?_⟩
        obtain ⟨o', ws, w1, w2⟩ := rH.cells m a (.ro ys) (l.ext.get ea) (gOk_at (c := .ro ys) gg (by simp))
        exact ⟨ws, .inl (.inr ⟨o', w1⟩), w2⟩
      | dK _ => simp [hc] at ex
      | dT _ => simp [hc] at ex
  | _ => simp [lstD] at ex
omit G in
theorem gOk_app {g1 g2 : Guard} {h : Hc} (k : gOk (g1 ++ g2) h = true) : gOk g1 h = true ∧ gOk g2 h = true := by
  unfold gOk at k ⊢
  rw [List.all_append, Bool.and_eq_true] at k
  exact k
omit G in
theorem jok_enum {R : RC} {ρ φ : List Addr} {H : Hp} {a : Addr} {xs : List D} {g : Guard} (k : ∀ (ρ' φ' : List Addr) (H' : Hp) (h' : Hc), Later ρ φ H ρ' φ' H' → RelH R ρ' φ' H' h' → gOk g h' = true → ∃ vs, SqL R.K H' a vs ∧ RDs R ρ' φ' H' xs vs) : JOk R (Ite R.K a) (enumD 0 xs) g ρ φ H := by
  refine ⟨fun i ρ' φ' H' h' l rH gg d hd => ?_, fun ρ' φ' H' h' l rH gg => ?_⟩
  · obtain ⟨vs, h1, h2⟩ := k ρ' φ' H' h' l rH gg
    obtain ⟨x, hx, rfl⟩ := enumD_get hd
    obtain ⟨v, h3, h4⟩ := h2.get hx
    refine ⟨⟨vs, v, h1, h3⟩, fun y H2 ⟨T, w, e, hT, eH, q⟩ => ?_⟩
    subst e eH
    have := q vs h1
    rw [h3] at this
    cases this
    obtain ⟨q1, q2, q3⟩ := new_tup rH hT (RDs.two (d := .int ((0 + i : Nat) : Int)) (v := .int (i : Nat)) (by simp only [RD, Nat.zero_add]) h4)
    exact ⟨q1, Later.of q1, q2, q3⟩
  · obtain ⟨vs, h1, h2⟩ := k ρ' φ' H' h' l rH gg
    exact ⟨vs, h1, by rw [enumD_len, h2.len]; exact Nat.le_refl _⟩
omit G in
theorem jok_zip {R : RC} {ρ φ : List Addr} {H : Hp} {a b : Addr} {xs ys : List D} {g : Guard} (k : ∀ (ρ' φ' : List Addr) (H' : Hp) (h' : Hc), Later ρ φ H ρ' φ' H' → RelH R ρ' φ' H' h' → gOk g h' = true → ∃ vs, SqL R.K H' a vs ∧ RDs R ρ' φ' H' xs vs) (k2 : ∀ (ρ' φ' : List Addr) (H' : Hp) (h' : Hc), Later ρ φ H ρ' φ' H' → RelH R ρ' φ' H' h' → gOk g h' = true → ∃ vs, SqL R.K H' b vs ∧ RDs R ρ' φ' H' ys vs) : JOk R (Itz R.K a b) (zipD xs ys) g ρ φ H := by
  refine ⟨fun i ρ' φ' H' h' l rH gg d hd => ?_, fun ρ' φ' H' h' l rH gg => ?_⟩
  · obtain ⟨vs, h1, h2⟩ := k ρ' φ' H' h' l rH gg
    obtain ⟨us, m1, m2⟩ := k2 ρ' φ' H' h' l rH gg
    obtain ⟨x, y, hx, hy, rfl⟩ := zipD_get hd
    obtain ⟨v, h3, h4⟩ := h2.get hx
    obtain ⟨u, m3, m4⟩ := m2.get hy
    refine ⟨⟨vs, us, v, u, h1, m1, h3, m3⟩, fun z H2 ⟨T, w, w', e, hT, eH, q, q'⟩ => ?_⟩
    subst e eH
    have t1 := q vs h1
    rw [h3] at t1
    cases t1
    have t2 := q' us m1
    rw [m3] at t2
    cases t2
    obtain ⟨q1, q2, q3⟩ := new_tup rH hT (RDs.two h4 m4)
    exact ⟨q1, Later.of q1, q2, q3⟩
  · obtain ⟨vs, h1, h2⟩ := k ρ' φ' H' h' l rH gg
    obtain ⟨us, m1, m2⟩ := k2 ρ' φ' H' h' l rH gg
    refine ⟨vs, us, h1, m1, ?_⟩
    rw [zipD_len, ← h2.len, ← m2.len]
    omega
omit G in
theorem jok_zipT {R : RC} {ρ φ : List Addr} {H : Hp} {a b : Addr} {xs ys : List D} {g : Guard} (k : ∀ (ρ' φ' : List Addr) (H' : Hp) (h' : Hc), Later ρ φ H ρ' φ' H' → RelH R ρ' φ' H' h' → gOk g h' = true → ∃ vs, SqT R.K H' a vs ∧ RDs R ρ' φ' H' xs vs) (k2 : ∀ (ρ' φ' : List Addr) (H' : Hp) (h' : Hc), Later ρ φ H ρ' φ' H' → RelH R ρ' φ' H' h' → gOk g h' = true → ∃ vs, SqT R.K H' b vs ∧ RDs R ρ' φ' H' ys vs) : JOk R (RZ.ItzT R.K a b) (zipD xs ys) g ρ φ H := by
  refine ⟨fun i ρ' φ' H' h' l rH gg d hd => ?_, fun ρ' φ' H' h' l rH gg => ?_⟩
  · obtain ⟨vs, h1, h2⟩ := k ρ' φ' H' h' l rH gg
    obtain ⟨us, m1, m2⟩ := k2 ρ' φ' H' h' l rH gg
    obtain ⟨x, y, hx, hy, rfl⟩ := zipD_get hd
    obtain ⟨v, h3, h4⟩ := h2.get hx
    obtain ⟨u, m3, m4⟩ := m2.get hy
    refine ⟨⟨vs, us, v, u, h1, m1, h3, m3⟩, fun z H2 ⟨T, w, w', e, hT, eH, q, q'⟩ => ?_⟩
    subst e eH
    have t1 := q vs h1
    rw [h3] at t1
    cases t1
    have t2 := q' us m1
    rw [m3] at t2
    cases t2
    obtain ⟨q1, q2, q3⟩ := new_tup rH hT (RDs.two h4 m4)
    exact ⟨q1, Later.of q1, q2, q3⟩
  · obtain ⟨vs, h1, h2⟩ := k ρ' φ' H' h' l rH gg
    obtain ⟨us, m1, m2⟩ := k2 ρ' φ' H' h' l rH gg
    refine ⟨vs, us, h1, m1, ?_⟩
    rw [zipD_len, ← h2.len, ← m2.len]
    omega
theorem i_enum {a : CE} {e : Expr} {p tpos : Pos} {elts : List Expr} {kk : Nat} (hg : isGlB sc "enumerate" = true) (ha : PE X e (tE R Y W (evE C a))) (hs : starEach [e] X.env = (false, eval e X.env) :: starEach [] X.env) : PI X (.Tuple elts kk tpos) (.Call (.Name "enumerate" p) [e] [] pos) (tI R Y W (evI C (.enum a))) := by
  obtain ⟨g1, g2⟩ := G.glb hg
  refine pi_imp (pi_enum g1 (G.bl (by decide +kernel)) (pa_cons ha pa_nil hs) (by rw [hs]; rfl)) fun σ H Q ⟨ρ, φ, s, h, hS, hH, f⟩ => ?_
  simp only [evI] at f
  refine ⟨ρ, φ, s, h, hS, hH, f.bind fun x h1 ρ1 v H1 _ e1 hH1 r1 f1 => ?_⟩
  cases ex : lstD h1 x with
  | none => simp only [ex] at f1; exact f1.elim
  | some xs =>
    simp only [ex] at f1
    obtain ⟨b, rfl, ⟨vs, hq⟩, later⟩ := lst_at ex hH1 r1
    refine ⟨b, vs, rfl, G.hK ▸ hq, ?_⟩
    rw [← G.hK]
    exact f1 ρ1 _ H1 Ext.refl hH1 (jok_enum later)
theorem i_zip {a b : CE} {e e2 : Expr} {p tpos : Pos} {elts : List Expr} {kk : Nat} (hg : isGlB sc "zip" = true) (ha : PE X e (tE R Y W (evE C a))) (hb : PE X e2 (tE R Y W (evE C b))) (hs : starEach [e, e2] X.env = (false, eval e X.env) :: starEach [e2] X.env) (hs2 : starEach [e2] X.env = (false, eval e2 X.env) :: starEach [] X.env) :
    PI X (.Tuple elts kk tpos) (.Call (.Name "zip" p) [e, e2] [] pos) (tI R Y W (evI C (.zip a b))) := by
  obtain ⟨g1, g2⟩ := G.glb hg
  refine pi_imp (RZ.pi_zipA g1 (G.bl (by decide +kernel)) (pa_cons ha (pa_cons hb pa_nil hs2) hs) hs (by rw [hs2]; rfl)) fun σ H Q ⟨ρ, φ, s, h, hS, hH, f⟩ => ?_
  simp only [evI] at f
  refine ⟨ρ, φ, s, h, hS, hH, f.bind fun x h1 ρ1 v H1 _ e1 hH1 r1 f1 => ?_⟩
  refine ⟨ρ1, φ, s, h1, hS.ext e1, hH1, f1.bind fun y h2 ρ2 u H2 _ e2 hH2 r2 f2 => ?_⟩
  have r1 := r1.ext e2
  cases ez : zipO h2 x y with
  | none => simp only [ez] at f2; exact f2.elim
  | some zs =>
    simp only [ez] at f2
    unfold zipO at ez
    cases ex : lstD h2 x with
    | some xs =>
      cases ey : lstD h2 y with
      | some ys =>
        simp only [ex, ey, Option.some.injEq] at ez
        subst ez
        obtain ⟨a1, rfl, ⟨vs, hq⟩, l1⟩ := lst_at ex hH2 r1
        obtain ⟨b1, rfl, ⟨us, hq2⟩, l2⟩ := lst_at ey hH2 r2
        refine ⟨a1, b1, vs, us, rfl, .inl ⟨G.hK ▸ hq, G.hK ▸ hq2, ?_⟩⟩
        rw [← G.hK]
        exact f2 ρ2 _ H2 Ext.refl hH2 (jok_zip (fun ρ' φ' H' h' l rH gg => l1 ρ' φ' H' h' l rH (gOk_app gg).1) fun ρ' φ' H' h' l rH gg => l2 ρ' φ' H' h' l rH (gOk_app gg).2)
      | none =>
        simp only [ex, ey] at ez
        cases x with
        | tup xs => simp [lstD] at ex
        | _ => simp at ez
    | none =>
      simp only [ex] at ez
      cases x with
      | tup xs =>
        cases y with
        | tup ys =>
          simp only [Option.some.injEq] at ez
          subst ez
          have r1' := r1
          have r2' := r2
          simp only [RD] at r1 r2
          obtain ⟨a1, vs, rfl, g1, g2⟩ := r1
          obtain ⟨b1, us, rfl, m1, m2⟩ := r2
          refine ⟨a1, b1, vs, us, rfl, .inr ⟨G.hK ▸ g1.sq, G.hK ▸ m1.sq, ?_⟩⟩
          rw [← G.hK]
          refine f2 ρ2 _ H2 Ext.refl hH2 (jok_zipT (fun ρ' φ' H' h' l rH gg => ?_) fun ρ' φ' H' h' l rH gg => ?_)
          · have q := r1'.later l
            simp only [RD] at q
            obtain ⟨a', vs', e', q1, q2⟩ := q
            cases e'
            exact ⟨vs', q1.sq, q2⟩
          · have q := r2'.later l
            simp only [RD] at q
            obtain ⟨a', vs', e', q1, q2⟩ := q
            cases e'
            exact ⟨vs', q1.sq, q2⟩
        | _ => simp at ez
      | _ => simp at ez
end
end Cl

namespace Cl
open PySem PySem.Spec PyProof.Rows L2
section
variable {R : RC} {ρ φ : List Addr} {H : Hp} {h : Hc} {c : CSt} {σ : L2.St}
/-! ### writing at what is held back -/
theorem Mv.held {p : Addr} {o : HO} (hp : p ∈ φ) (ok : D → Bool) : Mv R ρ φ H ρ φ (upd H p o) ok :=
  ⟨fun a xs ⟨r, k, m⟩ => ⟨by rw [upd_ne (show a ≠ p from fun z => m (by rw [z]; exact hp))]; exact r, k, m⟩, fun a xs ⟨r, k, m⟩ => ⟨by rw [upd_ne (show a ≠ p from fun z => m (by rw [z]; exact hp))]; exact r, k, m⟩, fun _ _ _ q => q⟩
theorem RelH.held (r : RelH R ρ φ H h) {p : Addr} {o : HO} (hp : p ∈ φ) : RelH R ρ φ (upd H p o) h := by
  have pn := (r.phi p hp).2
  refine ⟨r.len, r.nd, fun i a c ea ec => ?_, fun a ha => ⟨?_, (r.phi a ha).2⟩, fun q hq => ⟨(r.gt q hq).1, RD.mv (Mv.held hp _) (r.gt q hq).2.low (r.gt q hq).2⟩⟩
  · have ne : a ≠ p := fun z => pn (z ▸ List.mem_of_getElem? ea)
    have rc := r.cells i a c ea ec
    exact rc.mv (Mv.held hp _) rc.low (upd_ne ne)
  · by_cases z : a = p
    · subst z; exact ⟨o, upd_same⟩
    · obtain ⟨u, e⟩ := (r.phi a ha).1
      exact ⟨u, by rw [upd_ne z]; exact e⟩
theorem Ext.writeNew {p : Addr} {o : HO} {ρ0 : List Addr} {H0 : Hp} (e : Ext ρ0 ρ H0 H) (hp : H0 p = Option.none) : Ext ρ0 ρ H0 (upd H p o) :=
  ⟨e.pre, e.new, fun a u q m => by rw [upd_ne (ne_of_none q hp)]; exact e.keep a u q m, fun a u q => by
    obtain ⟨u', q'⟩ := e.there a u q
    exact ⟨u', by rw [upd_ne (ne_of_none q hp)]; exact q'⟩⟩
theorem RelS.later {ρ' φ' : List Addr} {H' : Hp} (r : RelS R ρ φ H c σ) (l : Later ρ φ H ρ' φ' H') : RelS R ρ' φ' H' c σ :=
  ⟨r.len, fun i d q => by obtain ⟨v, h1, h2⟩ := r.at_ i d q; exact ⟨v, h1, h2.later l⟩⟩
theorem RelS.wipe (r : RelS R ρ φ H c σ) : ∀ vs : List Nat, RelS R ρ φ H (cwipe c vs) (wipe σ vs)
  | [] => r
  | v :: vs => by
    have ih := RelS.wipe r vs
    refine ⟨by simp [cwipe, L2.wipe, ih.len], fun i d q => ?_⟩
    by_cases hi : i = v
    · subst hi
      simp only [cwipe] at q
      have hlt := get_lt q
      simp at hlt
      rw [List.getElem?_set_self hlt] at q
      cases q
    · simp only [cwipe] at q
      rw [List.getElem?_set_ne (Ne.symm hi)] at q
      obtain ⟨w, w1, w2⟩ := ih.at_ i d q
      refine ⟨w, ?_, w2⟩
      simp only [L2.wipe]
      rw [List.getElem?_set_ne (Ne.symm hi)]
      exact w1
end
theorem wipe_in {σ : L2.St} {i : Nat} : ∀ {vs : List Nat}, i ∈ vs → i < σ.length → (wipe σ vs)[i]? = some none
  | [], h, _ => by simp at h
  | v :: vs, h, hl => by
    unfold wipe
    by_cases hi : v = i
    · subst hi
      exact List.getElem?_set_self (by rw [wipe_length]; exact hl)
    · rw [List.getElem?_set_ne hi]
      exact wipe_in ((List.mem_cons.mp h).resolve_left fun z => hi z.symm) hl
theorem wipe_same {σ σ' : L2.St} {vs is : List Nat} (hi : ∀ i ∈ is, i ∈ vs) (s : Same is (wipe σ vs) σ') : wipe σ' vs = wipe σ vs := by
  have hl : σ'.length = σ.length := by rw [s.1, wipe_length]
  refine List.ext_getElem? fun j => ?_
  by_cases hj : j ∈ vs
  · by_cases hlt : j < σ.length
    · rw [wipe_in hj hlt, wipe_in hj (by rw [hl]; exact hlt)]
    · rw [List.getElem?_eq_none (by rw [wipe_length, hl]; omega), List.getElem?_eq_none (by rw [wipe_length]; omega)]
  · have e1 : (wipe σ' vs)[j]? = σ'[j]? := wipe_out hj
    rw [e1, s.2 j fun z => hj (hi j z)]
mutual
theorem tgIn_ix {vs : List Nat} : ∀ {t : Tg}, tgIn vs t = true → ∀ i ∈ tgIx t, i ∈ vs
  | .v i, h, j, hj => by
    simp only [tgIn, decide_eq_true_eq] at h
    simp only [tgIx, List.mem_singleton] at hj
    subst hj; exact h
  | .t ts, h, j, hj => tgsIn_ix (by simpa only [tgIn] using h) j (by simpa only [tgIx] using hj)
theorem tgsIn_ix {vs : List Nat} : ∀ {ts : Tgs}, tgsIn vs ts = true → ∀ i ∈ tgsIx ts, i ∈ vs
  | .nil, _, j, hj => by simp [tgsIx] at hj
  | .cons t ts, h, j, hj => by
    simp only [tgsIn, Bool.and_eq_true] at h
    simp only [tgsIx, List.mem_append] at hj
    exact hj.elim (tgIn_ix h.1 j) (tgsIn_ix h.2 j)
end
abbrev W0 : WX := fun _ _ _ _ => False
section
variable {S : Sg} {R : RC} {C : Caller} {Y : XC} {n : Nat} {N : List Str} {cm : Bool} {sc : Scope} {X : Cx} {W : WX}
theorem pts_imp {ifs : List Expr} {t u : TT} (h : PTs X ifs t) (k : ∀ σ H Q, u σ H Q → t σ H Q) : PTs X ifs u := ⟨fun pins s σ H Q I q => h.run pins s σ H Q I (k σ H Q q)⟩
theorem ts_nil {f : EvF} : PTs X [] (tT R Y W (condR true f)) := pts_imp pts_nil fun σ H Q ⟨ρ, φ, c, h, hS, hH, k⟩ => k ρ true H Ext.refl hH rfl
theorem ts_one {f : EvF} {e : Expr} (h : PT X e (tT R Y W f)) : PTs X [e] (tT R Y W (condR false f)) := pts_imp (pts_one h) fun σ H Q q => q
theorem lc_read {fi : CSt → Hc → ERes Itd} {fe fc : EvF} {t : Tg} {own : List Nat} (ho : tgIn own t = true) {σ : L2.St} {H : Hp} {Q : VK}
    (q : tL R Y W (fun c h => (fi c h).bind fun d h => if d.xs.length ≤ line then lmap [] (compF fe fc t d.g (cwipe c own) d.xs h) else .stuck) σ H Q) : tLc (tI R Y W fi) (tG R t) (tT R Y W0 fc) (tE R Y W0 fe) own σ H Q := by
  obtain ⟨ρ, φ, c, h, hS, hH, f, _⟩ := q
  refine ⟨ρ, φ, c, h, hS, hH, f.bind fun d h1 ρ1 J H1 _ e1 hH1 jk f1 => ?_⟩
  by_cases hz : d.xs.length ≤ line
  · rw [if_pos hz] at f1
    intro Da hD
    have hS1 := hS.ext e1
    refine ⟨fun i m H2 => ∃ ρ2 h2 ws ys, m = d.xs.length - i ∧ i ≤ d.xs.length ∧ ws.length ≤ i ∧ Ext ρ1 ρ2 H1 H2 ∧ RelH R ρ2 (Da :: φ) H2 h2 ∧ H2 Da = some (.lst ws) ∧ RDs R ρ2 (Da :: φ) H2 ys ws ∧
      FinL R Y W σ ρ1 φ H1 (lmap ys (compF fe fc t d.g (cwipe c own) (d.xs.drop i) h2)) Q, ⟨d.xs.length, ρ1, h1, [], [], rfl, Nat.zero_le _, Nat.le_refl _, Ext.fresh hD, hH1.fresh hD, upd_same, by simp only [RDs], by simpa using f1⟩, ?_⟩
    rintro i m H2 ⟨ρ2, h2, ws, ys, rfl, hi, hw, e2, hH2, eD, rs, k⟩
    have la : Later ρ1 φ H1 ρ2 (Da :: φ) H2 := ⟨e2, fun a ha => (List.mem_cons.mp ha).elim (fun z => .inr (z ▸ hD)) .inl⟩
    have hg : gOk d.g h2 = true := by
      cases hd : d.xs.drop i with
      | nil =>
        rw [hd] at k
        unfold compF at k
        split at k
        · assumption
        · exact k.elim
      | cons x xs =>
        rw [hd] at k
        unfold compF at k
        split at k
        · assumption
        · exact k.elim
    by_cases hlt : i < d.xs.length
    · right
      rw [List.drop_eq_getElem_cons hlt] at k
      unfold compF at k
      rw [if_pos hg] at k
      obtain ⟨go, yl⟩ := jk.go i ρ2 (Da :: φ) H2 h2 la hH2 hg _ (List.getElem?_eq_getElem hlt)
      refine ⟨go, _, fun H' p' => ⟨d.xs.length - (i + 1), by omega, p'⟩, fun x H3 y => ?_⟩
      obtain ⟨e3, l3, hH3, rx⟩ := yl x H3 y
      cases ea : asgT t d.xs[i] (cwipe c own) with
      | none => simp only [ea] at k; exact k.elim
      | some c1 =>
        simp only [ea] at k
        have eD3 : H3 Da = some (.lst ws) := e3.keep Da _ eD (hH2.phi Da (by simp)).2
        have e13 := e2.trans e3
        have rs3 := rs.ext e3
        refine ⟨ρ2, Da :: φ, cwipe c own, h2, _, c1, (hS1.later (la.trans l3)).wipe own, hH3, rx, ea, fun σ2 hS2 sm => ⟨wipe_same (tgIn_ix ho) sm, ρ2, Da :: φ, c1, h2, hS2, hH3, ?_⟩⟩
        cases eb : boolR (fc c1 h2) with
        | stuck => simp only [eb] at k; exact k.elim
        | exc x h' => simp only [eb] at k; exact k.elim
        | ok b h3 =>
          simp only [eb] at k
          intro ρ4 b' H4 e4 hH4 hb
          subst hb
          have eD4 : H4 Da = some (.lst ws) := e4.keep Da _ eD3 (hH3.phi Da (by simp)).2
          cases b with
          | false =>
            rw [if_neg Bool.false_ne_true]
            exact ⟨ρ4, h3, ws, ys, rfl, hlt, by omega, e13.trans e4, hH4, eD4, rs3.ext e4, k⟩
          | true =>
            rw [if_pos rfl]
            refine ⟨ρ4, Da :: φ, c1, h3, hS2.ext e4, hH4, ?_⟩
            cases ev : fe c1 h3 with
            | stuck => simp only [ev] at k; exact k.elim
            | exc x h' => simp only [ev] at k; exact k.elim
            | ok z h4 =>
              simp only [ev] at k
              intro ρ5 v H5 e5 hH5 rv
              have eD5 : H5 Da = some (.lst ws) := e5.keep Da _ eD4 (hH4.phi Da (by simp)).2
              have inn : Da ∈ (Da :: φ) := by simp
              have rs5 := ((rs3.ext e4).ext e5).append (RDs.one rv)
              refine ⟨ws, eD5, by rw [← line_eq]; omega, ρ5, h4, ws ++ [v], ys ++ [z], rfl, hlt, by rw [List.length_append, List.length_singleton]; omega, ((e13.trans e4).trans e5).writeNew hD, hH5.held inn, upd_same, RDs.mv (Mv.held inn _) rs5.low rs5, ?_⟩
              cases er : compF fe fc t d.g (cwipe c own) (d.xs.drop (i + 1)) h4 with
              | ok zs h5 =>
                rw [er] at k
                show FinL R Y W σ ρ1 φ H1 (.ok (.lst (ys ++ [z] ++ zs)) h5) Q
                rw [List.append_assoc]
                exact k
              | exc x h' => rw [er] at k; exact k.elim
              | stuck => rw [er] at k; exact k.elim
    · left
      have hie : i = d.xs.length := by omega
      subst hie
      refine ⟨jk.stop ρ2 (Da :: φ) H2 h2 la hH2 hg, ?_⟩
      rw [List.drop_length] at k
      unfold compF at k
      rw [if_pos hg] at k
      have k' : FinL R Y W σ ρ1 φ H1 (.ok (.lst (ys ++ [])) h2) Q := k
      rw [List.append_nil] at k'
      exact k' ρ2 Da ws H2 e2 hH2 hD (hH1.free hD) eD rs
  · rw [if_neg hz] at f1
    exact f1.elim
theorem Gd.blk (G : Gd S R C Y n N cm sc X W) {scope : Scope} (s : Shared) (H : Hp) (Ca : Addr) (cl : List (Str × Addr)) (fp : List Addr) : Gd S R C Y n N cm scope (X.blk s H scope (compEnvC scope cl Ca X.env) fp) W0 :=
  ⟨G.hK, G.hN, G.nd, Sees.comp, fun x hx => by show (scope.names.lookup x == some .cell) = true; rw [hx]; rfl, G.calm, takes0, G.hu, G.glob, G.blt, G.room, G.calls⟩
theorem l_comp (G : Gd S R C Y n N cm sc X W) {elt cond : CE} {t : Tg} {it : CI} {own : List (Str × Nat)} {ee tg iter : Expr} {ifs : List Expr} {scope : Scope} {pos : Pos} (hcm : cm = true) (hi : PI X tg iter (tI R Y W (evI C it))) (hb : blkC N sc scope own = true) (ho : tgIn (own.map (·.2)) t = true) (hns : notSet iter = true)
    (hg : chkT N scope t tg = true)
    (ht : ∀ (s : Shared) (H : Hp) (Ca : Addr) (cl : List (Str × Addr)) (fp : List Addr), PTs (X.blk s H scope (compEnvC scope cl Ca X.env) fp) ifs (tT R Y W0 (condR cond.isAbs (evE C cond))))
    (he : ∀ (s : Shared) (H : Hp) (Ca : Addr) (cl : List (Str × Addr)) (fp : List Addr), PE (X.blk s H scope (compEnvC scope cl Ca X.env) fp) ee (tE R Y W0 (evE C elt))) :
    PE X (.ListComp ee [⟨tg, iter, ifs, 0⟩] scope pos) (tL R Y W (evE C (.comp elt t it cond (own.map (·.2))))) := by
  have b0 := blkOk_by hb
  have ok : BlkOk X.N X.env.scope scope own := ⟨b0.kind, b0.uniq, by rw [G.hN]; exact b0.ix, fun y hy e => by
    rcases b0.free y hy e with q | q
    · exact .inl (G.sees.cell _ q)
    · exact G.sees.free _ q, by rw [G.hN]; exact b0.own⟩
  refine pe_imp (pe_lc (G.calm hcm) (by rw [G.hN]; exact G.nd) hi ok (fun s H Ca cl fp => g_tg (G.blk s H Ca cl fp) (G.calm hcm) hg) ht he (notset_fold hns)) fun σ H Q q => lc_read ho ?_
  have : (fun c h => (evI C it c h).bind fun d h => if d.xs.length ≤ line then lmap [] (compF (evE C elt) (condR cond.isAbs (evE C cond)) t d.g (cwipe c (own.map (·.2))) d.xs h) else .stuck) = evE C (.comp elt t it cond (own.map (·.2))) := by
    funext c h
    simp only [evE]
  rw [this]
  exact q
end
end Cl

namespace Cl
open PySem PySem.Spec PyProof.Rows L2
/-! ### all expressions -/
def plainT : Expr → Bool
  | .UnaryOp .Not _ _ => false
  | .BoolOp _ _ _ => false
  | .IfExp _ _ _ _ => false
  | .Compare _ _ _ _ => false
  | _ => true
theorem plainT_of {e : Expr} (h : plainT e = true) (env : PySem.Env) (whole : Sem Value) : isTrue e env whole = (do let v ← whole; standAt e.pos; holding [v] (truthy v)) := by
  cases e with
  | UnaryOp op x p => cases op <;> first | rfl | exact Bool.noConfusion (show false = true from h)
  | _ => first | rfl | exact Bool.noConfusion (show false = true from h)
def isTst : CE → Bool
  | .not_ _ => true
  | .cmp _ _ _ => true
  | .chain _ _ _ _ _ => true
  | .and_ _ _ => true
  | .or_ _ _ => true
  | .ite _ _ _ => true
  | .cell _ => true
  | _ => false
section
variable {S : Sg} {R : RC} {C : Caller} {Y : XC} {n : Nat}
theorem chk_plain {N : List Str} {sc : Scope} {cm : Bool} : ∀ {c : CE} {e : Expr}, isTst c = false → chkE S N sc cm c e = true → plainT e = true := by
  intro c e hc h
  cases c with
  | bi b args => cases b <;> cases e <;> first | rfl | exact Bool.noConfusion (show false = true from h)
  | neg a =>
    cases e with
    | UnaryOp op x p => cases op <;> first | rfl | exact Bool.noConfusion (show false = true from h)
    | _ => first | rfl | exact Bool.noConfusion (show false = true from h)
  | _ => first
    | exact Bool.noConfusion (show true = false from hc)
    | (cases e <;> first | rfl | exact Bool.noConfusion (show false = true from h))
theorem chk_plainL {N : List Str} {sc : Scope} {cm : Bool} : ∀ {c : CE} {e : Expr}, freshC c = true → chkE S N sc cm c e = true → plainT e = true := by
  intro c e hc h
  refine chk_plain ?_ h
  cases c <;> first | rfl | exact Bool.noConfusion (show false = true from hc)
theorem chk_bool {N : List Str} {sc : Scope} {cm : Bool} {c : CE} {op : BoolOp} {es : List Expr} {p : Pos} (h : chkE S N sc cm c (.BoolOp op es p) = true) : (∃ a b, c = .and_ a b ∧ op = .And) ∨ (∃ a b, c = .or_ a b ∧ op = .Or) := by
  cases c with
  | and_ a b => cases op with
    | And => exact .inl ⟨a, b, rfl, rfl⟩
    | Or => exact Bool.noConfusion (show false = true from h)
  | or_ a b => cases op with
    | Or => exact .inr ⟨a, b, rfl, rfl⟩
    | And => exact Bool.noConfusion (show false = true from h)
  | bi b args => cases b <;> exact Bool.noConfusion (show false = true from h)
  | cell c =>
    exfalso
    have h' : (freshC c && chkE S N sc cm c (.BoolOp op es p)) = true := h
    rw [Bool.and_eq_true] at h'
    exact Bool.noConfusion (show false = true from chk_plainL h'.1 h'.2)
  | _ => exact Bool.noConfusion (show false = true from h)
structure Snd (S : Sg) (R : RC) (C : Caller) (Y : XC) (n : Nat) (c : CE) : Prop where
  e : ∀ {N cm sc X W e}, Gd S R C Y n N cm sc X W → chkE S N sc cm c e = true → PE X e (tE R Y W (evE C c))
  l : ∀ {N cm sc X W e}, Gd S R C Y n N cm sc X W → chkE S N sc cm c e = true → freshC c = true → PE X e (tL R Y W (evE C c))
  t : ∀ {N cm sc X W e}, Gd S R C Y n N cm sc X W → chkE S N sc cm c e = true → PT X e (tT R Y W (evE C c))
  w : ∀ {N cm sc X W op es p}, Gd S R C Y n N cm sc X W → chkE S N sc cm c (.BoolOp op es p) = true → PW X (.BoolOp op es p) (tT R Y W (evE C c))
theorem noW {c : CE} (hc : isTst c = false) {N : List Str} {sc : Scope} {cm : Bool} {op : BoolOp} {es : List Expr} {p : Pos} (h : chkE S N sc cm c (.BoolOp op es p) = true) : False :=
  Bool.noConfusion (show false = true from chk_plain hc h)
theorem Snd.val {c : CE} (hf : freshC c = false) (ht : isTst c = false) (he : ∀ {N cm sc X W e}, Gd S R C Y n N cm sc X W → chkE S N sc cm c e = true → PE X e (tE R Y W (evE C c))) : Snd S R C Y n c :=
  ⟨he, fun _ _ h => Bool.noConfusion (hf.symm.trans h), fun G h => t_val (he G h) (plainT_of (chk_plain ht h) _), fun G h => (noW ht h).elim⟩
theorem Snd.new {c : CE} (ht : isTst c = false) (he : ∀ {N cm sc X W e}, Gd S R C Y n N cm sc X W → chkE S N sc cm c e = true → PE X e (tE R Y W (evE C c)))
    (hl : ∀ {N cm sc X W e}, Gd S R C Y n N cm sc X W → chkE S N sc cm c e = true → freshC c = true → PE X e (tL R Y W (evE C c))) : Snd S R C Y n c :=
  ⟨he, hl, fun G h => t_val (he G h) (plainT_of (chk_plain ht h) _), fun G h => (noW ht h).elim⟩
/-- arguments -/
structure SndA (S : Sg) (R : RC) (C : Caller) (Y : XC) (n : Nat) (cs : CEs) : Prop where
  a : ∀ {N cm sc X W es}, Gd S R C Y n N cm sc X W → chkEs S N sc cm cs es = true → PA X es (tA R Y W (evEs C cs))
  z : ∀ {σ h ds h'}, evEs C cs σ h = .ok ds h' → ∀ {N : List Str} {cm : Bool} {sc : Scope} {es : List Expr}, chkEs S N sc cm cs es = true → ds.length = es.length
structure SndI (S : Sg) (R : RC) (C : Caller) (Y : XC) (n : Nat) (it : CI) : Prop where
  i : ∀ {N cm sc X W tg e}, Gd S R C Y n N cm sc X W → chkI S N sc cm it tg e = true → PI X tg e (tI R Y W (evI C it))
theorem chk_len {N : List Str} {cm : Bool} {sc : Scope} : ∀ {cs : CEs} {es : List Expr}, chkEs S N sc cm cs es = true → ∀ {σ h ds h'}, evEs C cs σ h = .ok ds h' → ds.length = es.length
  | .nil, [], _, σ, h, ds, h', e => by simp only [evEs, ERes.ok.injEq] at e; rw [← e.1]; rfl
  | .nil, _ :: _, q, _, _, _, _, _ => by simp [chkEs] at q
  | .cons _ _, [], q, _, _, _, _, _ => by simp [chkEs] at q
  | .cons c cs, x :: es, q, σ, h, ds, h', e => by
    simp only [chkEs, Bool.and_eq_true] at q
    simp only [evEs] at e
    cases e1 : evE C c σ h with
    | stuck => rw [e1] at e; cases e
    | exc y k => rw [e1] at e; cases e
    | ok d h1 =>
      rw [e1] at e
      cases e2 : evEs C cs σ h1 with
      | stuck => simp only [ERes.bind, e2] at e; cases e
      | exc y k => simp only [ERes.bind, e2] at e; cases e
      | ok ds2 h2 =>
        simp only [ERes.bind, e2, ERes.ok.injEq] at e
        rw [← e.1, List.length_cons, List.length_cons, chk_len q.2 e2]
/-! the constructors -/
theorem snd_var {i : Nat} : Snd S R C Y n (.var i) := .val rfl rfl fun {N cm sc X W e} G h => by
  cases e with
  | Name x p => exact c_var G h
  | _ => exact Bool.noConfusion (show false = true from h)
theorem snd_cst {d : D} : Snd S R C Y n (.cst d) := .val rfl rfl fun {N cm sc X W e} G h => by
  cases e with
  | Constant c k p => exact c_cst h
  | _ => exact Bool.noConfusion (show false = true from h)
theorem snd_glob {x : Str} {d : D} : Snd S R C Y n (.glob x d) := .val rfl rfl fun {N cm sc X W e} G h => by
  cases e with
  | Name y p =>
    simp only [chkE, Bool.and_eq_true, decide_eq_true_eq] at h
    exact c_glob G h.1.2 h.2
  | _ => exact Bool.noConfusion (show false = true from h)
theorem snd_bin {op : Operator} {a b : CE} (ha : Snd S R C Y n a) (hb : Snd S R C Y n b) : Snd S R C Y n (.bin op a b) := .new rfl (fun {N cm sc X W e} G h => by
  cases e with
  | BinOp l o r p =>
    simp only [chkE, Bool.and_eq_true, decide_eq_true_eq] at h
    obtain ⟨⟨rfl, h1⟩, h2⟩ := h
    exact c_bin G (ha.e G h1) (hb.e G h2)
  | _ => exact Bool.noConfusion (show false = true from h)) fun {N cm sc X W e} G h hf => by
  cases e with
  | BinOp l o r p =>
    simp only [chkE, Bool.and_eq_true, decide_eq_true_eq] at h
    obtain ⟨⟨rfl, h1⟩, h2⟩ := h
    refine l_bin ?_ (ha.e G h1) (hb.e G h2)
    cases op <;> first | exact .inl rfl | exact .inr rfl | exact Bool.noConfusion (show false = true from hf)
  | _ => exact Bool.noConfusion (show false = true from h)
theorem snd_neg {a : CE} (ha : Snd S R C Y n a) : Snd S R C Y n (.neg a) := .val rfl rfl fun {N cm sc X W e} G h => by
  cases e with
  | UnaryOp op x p => cases op with
    | USub => exact c_neg (ha.e G h)
    | _ => exact Bool.noConfusion (show false = true from h)
  | _ => exact Bool.noConfusion (show false = true from h)
theorem snd_not {a : CE} (ha : Snd S R C Y n a) : Snd S R C Y n (.not_ a) := ⟨fun {N cm sc X W e} G h => by
  cases e with
  | UnaryOp op x p => cases op with
    | Not => exact c_not (ha.e G h)
    | _ => exact Bool.noConfusion (show false = true from h)
  | _ => exact Bool.noConfusion (show false = true from h), fun _ _ h => Bool.noConfusion (show false = true from h), fun {N cm sc X W e} G h => by
  cases e with
  | UnaryOp op x p => cases op with
    | Not => exact t_not (ha.t G h)
    | _ => exact Bool.noConfusion (show false = true from h)
  | _ => exact Bool.noConfusion (show false = true from h), fun _ h => Bool.noConfusion (show false = true from h)⟩
theorem snd_cmp {op : CmpOp} {a b : CE} (ha : Snd S R C Y n a) (hb : Snd S R C Y n b) : Snd S R C Y n (.cmp op a b) := by
  have key : ∀ {N : List Str} {cm : Bool} {sc : Scope} {e : Expr}, chkE S N sc cm (.cmp op a b) e = true → ∃ l r p, e = .Compare l [op] [r] p ∧ notSet r = true ∧ chkE S N sc cm a l = true ∧ chkE S N sc cm b r = true := by
    intro N cm sc e h
    cases e with
    | Compare l ops rs p =>
      rcases ops with _ | ⟨o, _ | ⟨o2, ops⟩⟩
      · exact Bool.noConfusion (show false = true from h)
      · rcases rs with _ | ⟨r, _ | ⟨r2, rs⟩⟩
        · exact Bool.noConfusion (show false = true from h)
        · simp only [chkE, Bool.and_eq_true, decide_eq_true_eq] at h
          obtain ⟨⟨⟨rfl, h1⟩, h2⟩, h3⟩ := h
          exact ⟨l, r, p, rfl, h1, h2, h3⟩
        · exact Bool.noConfusion (show false = true from h)
      · exact Bool.noConfusion (show false = true from h)
    | _ => exact Bool.noConfusion (show false = true from h)
  exact ⟨fun G h => by obtain ⟨l, r, p, rfl, h1, h2, h3⟩ := key h; exact c_cmp G h1 (ha.e G h2) (hb.e G h3), fun _ _ h => Bool.noConfusion (show false = true from h),
    fun G h => by obtain ⟨l, r, p, rfl, h1, h2, h3⟩ := key h; exact t_cmp G h1 (ha.e G h2) (hb.e G h3), fun _ h => Bool.noConfusion (show false = true from h)⟩
theorem snd_chain {op op' : CmpOp} {a b c : CE} (ha : Snd S R C Y n a) (hb : Snd S R C Y n b) (hc : Snd S R C Y n c) : Snd S R C Y n (.chain op op' a b c) := by
  have key : ∀ {N : List Str} {cm : Bool} {sc : Scope} {e : Expr}, chkE S N sc cm (.chain op op' a b c) e = true → ∃ l r q p, e = .Compare l [op, op'] [r, q] p ∧ notSet q = true ∧ chkE S N sc cm a l = true ∧ chkE S N sc cm b r = true ∧ chkE S N sc cm c q = true := by
    intro N cm sc e h
    cases e with
    | Compare l ops rs p =>
      rcases ops with _ | ⟨o, _ | ⟨o2, _ | ⟨o3, ops⟩⟩⟩
      · exact Bool.noConfusion (show false = true from h)
      · exact Bool.noConfusion (show false = true from h)
      · rcases rs with _ | ⟨r, _ | ⟨r2, _ | ⟨r3, rs⟩⟩⟩
        · exact Bool.noConfusion (show false = true from h)
        · exact Bool.noConfusion (show false = true from h)
        · simp only [chkE, Bool.and_eq_true, decide_eq_true_eq] at h
          obtain ⟨⟨⟨⟨⟨rfl, rfl⟩, h1⟩, h2⟩, h3⟩, h4⟩ := h
          exact ⟨l, r, r2, p, rfl, h1, h2, h3, h4⟩
        · exact Bool.noConfusion (show false = true from h)
      · exact Bool.noConfusion (show false = true from h)
    | _ => exact Bool.noConfusion (show false = true from h)
  exact ⟨fun G h => by obtain ⟨l, r, q, p, rfl, h1, h2, h3, h4⟩ := key h; exact c_chain G h1 (ha.e G h2) (hb.e G h3) (hc.e G h4), fun _ _ h => Bool.noConfusion (show false = true from h),
    fun G h => by obtain ⟨l, r, q, p, rfl, h1, h2, h3, h4⟩ := key h; exact t_chain G h1 (ha.e G h2) (hb.e G h3) (hc.e G h4), fun _ h => Bool.noConfusion (show false = true from h)⟩
theorem snd_and {a b : CE} (ha : Snd S R C Y n a) (hb : Snd S R C Y n b) : Snd S R C Y n (.and_ a b) := by
  have key : ∀ {N : List Str} {cm : Bool} {sc : Scope} {e : Expr}, chkE S N sc cm (.and_ a b) e = true → ∃ x y r p, e = .BoolOp .And (x :: y :: r) p ∧ chkE S N sc cm a x = true ∧ ((r = [] ∧ chkE S N sc cm b y = true) ∨ chkE S N sc cm b (.BoolOp .And (y :: r) p) = true) := by
    intro N cm sc e h
    cases e with
    | BoolOp op es p =>
      cases op with
      | And =>
        rcases es with _ | ⟨x, _ | ⟨y, _ | ⟨z, r⟩⟩⟩
        · exact Bool.noConfusion (show false = true from h)
        · exact Bool.noConfusion (show false = true from h)
        · simp only [chkE, Bool.and_eq_true] at h
          exact ⟨x, y, [], p, rfl, h.1, .inl ⟨rfl, h.2⟩⟩
        · simp only [chkE, Bool.and_eq_true] at h
          exact ⟨x, y, z :: r, p, rfl, h.1, .inr h.2⟩
      | Or => exact Bool.noConfusion (show false = true from h)
    | _ => exact Bool.noConfusion (show false = true from h)
  have w : ∀ {N cm sc X W e}, Gd S R C Y n N cm sc X W → chkE S N sc cm (.and_ a b) e = true → PW X e (tT R Y W (evE C (.and_ a b))) := fun G h => by
    obtain ⟨x, y, r, p, rfl, h1, h2⟩ := key h
    rcases h2 with ⟨rfl, h2⟩ | h2
    · exact t_and (ha.t G h1) (pw_and1 (hb.t G h2))
    · exact t_and (ha.t G h1) (hb.w G h2)
  refine ⟨fun G h => ?_, fun _ _ h => Bool.noConfusion (show false = true from h), fun G h => (w G h).pt, fun G h => w G h⟩
  obtain ⟨x, y, r, p, rfl, h1, h2⟩ := key h
  rcases h2 with ⟨rfl, h2⟩ | h2
  · exact c_and (ha.e G h1) (pe_one (hb.e G h2))
  · exact c_and (ha.e G h1) (hb.e G h2)
theorem snd_or {a b : CE} (ha : Snd S R C Y n a) (hb : Snd S R C Y n b) : Snd S R C Y n (.or_ a b) := by
  have key : ∀ {N : List Str} {cm : Bool} {sc : Scope} {e : Expr}, chkE S N sc cm (.or_ a b) e = true → ∃ x y r p, e = .BoolOp .Or (x :: y :: r) p ∧ chkE S N sc cm a x = true ∧ ((r = [] ∧ chkE S N sc cm b y = true) ∨ chkE S N sc cm b (.BoolOp .Or (y :: r) p) = true) := by
    intro N cm sc e h
    cases e with
    | BoolOp op es p =>
      cases op with
      | Or =>
        rcases es with _ | ⟨x, _ | ⟨y, _ | ⟨z, r⟩⟩⟩
        · exact Bool.noConfusion (show false = true from h)
        · exact Bool.noConfusion (show false = true from h)
        · simp only [chkE, Bool.and_eq_true] at h
          exact ⟨x, y, [], p, rfl, h.1, .inl ⟨rfl, h.2⟩⟩
        · simp only [chkE, Bool.and_eq_true] at h
          exact ⟨x, y, z :: r, p, rfl, h.1, .inr h.2⟩
      | And => exact Bool.noConfusion (show false = true from h)
    | _ => exact Bool.noConfusion (show false = true from h)
  have w : ∀ {N cm sc X W e}, Gd S R C Y n N cm sc X W → chkE S N sc cm (.or_ a b) e = true → PW X e (tT R Y W (evE C (.or_ a b))) := fun G h => by
    obtain ⟨x, y, r, p, rfl, h1, h2⟩ := key h
    rcases h2 with ⟨rfl, h2⟩ | h2
    · exact t_or (ha.t G h1) (pw_or1 (hb.t G h2))
    · exact t_or (ha.t G h1) (hb.w G h2)
  refine ⟨fun G h => ?_, fun _ _ h => Bool.noConfusion (show false = true from h), fun G h => (w G h).pt, fun G h => w G h⟩
  obtain ⟨x, y, r, p, rfl, h1, h2⟩ := key h
  rcases h2 with ⟨rfl, h2⟩ | h2
  · exact c_or (ha.e G h1) (pe_one (hb.e G h2))
  · exact c_or (ha.e G h1) (hb.e G h2)
theorem snd_ite {t a b : CE} (ht : Snd S R C Y n t) (ha : Snd S R C Y n a) (hb : Snd S R C Y n b) : Snd S R C Y n (.ite t a b) := ⟨fun {N cm sc X W e} G h => by
  cases e with
  | IfExp x y z p =>
    simp only [chkE, Bool.and_eq_true] at h
    exact c_ite (ht.t G h.1.1) (ha.e G h.1.2) (hb.e G h.2)
  | _ => exact Bool.noConfusion (show false = true from h), fun _ _ h => Bool.noConfusion (show false = true from h), fun {N cm sc X W e} G h => by
  cases e with
  | IfExp x y z p =>
    simp only [chkE, Bool.and_eq_true] at h
    exact t_ite (ht.t G h.1.1) (ha.t G h.1.2) (hb.t G h.2)
  | _ => exact Bool.noConfusion (show false = true from h), fun _ h => Bool.noConfusion (show false = true from h)⟩
theorem snd_call {f : Nat} {args : CEs} (ha : SndA S R C Y n args) : Snd S R C Y n (.call f args) := .val rfl rfl fun {N cm sc X W e} G h => by
  cases e with
  | Call fn es kw p => cases fn with
    | Name x p2 => cases kw with
      | nil =>
        simp only [chkE, Bool.and_eq_true, decide_eq_true_eq] at h
        obtain ⟨⟨⟨h1, h2⟩, h3⟩, h4⟩ := h
        cases es with
        | nil =>
          cases args with
          | nil => exact c_call0 G h1 h2 h3
          | cons _ _ => simp [chkEs] at h4
        | cons y es =>
          have pl := chks_plain h4 p X.env
          cases args with
          | nil => simp [chkEs] at h4
          | cons c cs =>
            have q := h4
            simp only [chkEs, Bool.and_eq_true] at q
            exact c_call G h1 h2 h3 (ha.a G h4) (chk_ns q.1 es X.env) (chks_plain q.2 p X.env)
      | cons _ _ => exact Bool.noConfusion (show false = true from h)
    | _ => exact Bool.noConfusion (show false = true from h)
  | _ => exact Bool.noConfusion (show false = true from h)
end
end Cl

namespace Cl
open PySem PySem.Spec PyProof.Rows L2
section
variable {S : Sg} {R : RC} {C : Caller} {Y : XC} {n : Nat}
theorem snd_bi {b : Bi} {args : CEs} (ha : SndA S R C Y n args) : Snd S R C Y n (.bi b args) := by
  have one : ∀ {N : List Str} {cm : Bool} {sc : Scope} {e : Expr}, b ≠ .lenset → chkE S N sc cm (.bi b args) e = true → ∃ p a es q c cs, e = .Call (.Name (biName b) p) (a :: es) [] q ∧ cm = true ∧ b ≠ .sortedR ∧ isGlB sc (biName b) = true ∧ chkEs S N sc cm args (a :: es) = true ∧ args = .cons c cs := by
    intro N cm sc e hb h
    have go : (∃ x p a es q, e = .Call (.Name x p) (a :: es) [] q ∧ (cm && decide (x = biName b) && decide (b ≠ .sortedR) && isGlB sc x && chkEs S N sc cm args (a :: es)) = true) := by
      cases b <;> first
        | exact absurd rfl hb
        | (unfold chkE at h
           split at h
           · exact ⟨_, _, _, _, _, rfl, h⟩
           · cases h)
    obtain ⟨x, p, a, es, q, rfl, h'⟩ := go
    simp only [Bool.and_eq_true, decide_eq_true_eq] at h'
    obtain ⟨⟨⟨⟨h1, rfl⟩, h3⟩, h4⟩, h5⟩ := h'
    cases args with
    | nil => simp [chkEs] at h5
    | cons c cs => exact ⟨p, a, es, q, c, cs, rfl, h1, h3, h4, h5, rfl⟩
  refine .new rfl (fun {N cm sc X W e} G h => ?_) fun {N cm sc X W e} G h hf => ?_
  · by_cases hb : b = .lenset
    · subst hb
      unfold chkE at h
      split at h
      · simp only [Bool.and_eq_true, decide_eq_true_eq] at h
        obtain ⟨⟨⟨⟨⟨h1, rfl⟩, rfl⟩, h3⟩, h4⟩, h5⟩ := h
        cases args with
        | nil => simp [chkEs] at h5
        | cons c cs =>
          have q := h5
          simp only [chkEs, Bool.and_eq_true] at q
          exact c_lenset G h1 h3 h4 (ha.a G h5) (chk_ns q.1 [] X.env)
      · cases h
    · obtain ⟨p, a, es, q, c, cs, rfl, h1, h3, h4, h5, rfl⟩ := one hb h
      have z := h5
      simp only [chkEs, Bool.and_eq_true] at z
      exact c_bi G h1 h3 hb h4 (ha.a G h5) (chk_ns z.1 es X.env) (chks_plain z.2 q X.env)
  · have hb : b ≠ .lenset := fun z => by subst z; exact Bool.noConfusion (show false = true from hf)
    obtain ⟨p, a, es, q, c, cs, rfl, h1, h3, h4, h5, rfl⟩ := one hb h
    have z := h5
    simp only [chkEs, Bool.and_eq_true] at z
    cases b with
    | list => exact l_list G h4 (ha.a G h5) (chk_ns z.1 es X.env) (chks_plain z.2 q X.env)
    | sorted => exact l_sorted G h4 (ha.a G h5) (chk_ns z.1 es X.env) (chks_plain z.2 q X.env)
    | _ => exact Bool.noConfusion (show false = true from hf)
theorem snd_isin {a : CE} {ts : List Ty} (ha : Snd S R C Y n a) : Snd S R C Y n (.isin a ts) := .val rfl rfl fun {N cm sc X W e} G h => by
  unfold chkE at h
  split at h
  · simp only [Bool.and_eq_true, decide_eq_true_eq] at h
    obtain ⟨⟨⟨⟨⟨h1, rfl⟩, h3⟩, h4⟩, h5⟩, h6⟩ := h
    exact c_isinT G h1 h3 h4 h6 (ha.e G h5) (chk_ns h5 _ X.env)
  · simp only [Bool.and_eq_true, decide_eq_true_eq] at h
    obtain ⟨⟨⟨⟨h1, rfl⟩, h3⟩, h5⟩, h6⟩ := h
    rename_i l t q _
    rcases ts with _ | ⟨t0, _ | ⟨u, ts⟩⟩
    · simp [chkTys] at h6
    · simp only [chkTys, Bool.and_true] at h6
      cases t with
      | Name y p2 =>
        simp only [chkTy, Bool.and_eq_true, decide_eq_true_eq] at h6
        obtain ⟨rfl, h7⟩ := h6
        exact c_isin1 G h1 h3 h7 (ha.e G h5) (chk_ns h5 _ X.env)
      | _ => simp [chkTy] at h6
    · simp [chkTys] at h6
  · cases h
theorem snd_callv {fe : CE} {fs : List Nat} {args : CEs} (hf : Snd S R C Y n fe) (ha : SndA S R C Y n args) : Snd S R C Y n (.callv fe fs args) := .val rfl rfl fun {N cm sc X W e} G h => by
  have fok : ∀ {b : Bool}, fs.all (fun i => decide (i < S.fns.length)) = true → ∀ i ∈ fs, ∃ x, S.fns[i]? = some x := fun h i hi => by
    have := of_decide_eq_true (List.all_eq_true.mp h i hi)
    exact ⟨_, List.getElem?_eq_getElem this⟩
  simp only [chkE] at h
  split at h
  · rename_i x p y es q
    simp only [Bool.and_eq_true] at h
    obtain ⟨⟨⟨h1, h2⟩, h3⟩, h4⟩ := h
    cases args with
    | nil => simp [chkEs] at h4
    | cons c cs =>
      have q := h4
      simp only [chkEs, Bool.and_eq_true] at q
      exact c_callv G h1 (fok (b := true) h2) (hf.e G h3) (ha.a G h4) (fun k => wpAny_Call_Name_kw k) (chk_ns q.1 es X.env) (chks_plain q.2 _ X.env)
  · rename_i l r p y es q
    simp only [Bool.and_eq_true] at h
    obtain ⟨⟨⟨h1, h2⟩, h3⟩, h4⟩ := h
    cases args with
    | nil => simp [chkEs] at h4
    | cons c cs =>
      have q := h4
      simp only [chkEs, Bool.and_eq_true] at q
      exact c_callv G h1 (fok (b := true) h2) (hf.e G h3) (ha.a G h4) (fun k => Call_ k rfl) (chk_ns q.1 es X.env) (chks_plain q.2 _ X.env)
  · cases h
theorem snd_pop {o : CE} (ho : Snd S R C Y n o) : Snd S R C Y n (.pop o) := .val rfl rfl fun {N cm sc X W e} G h => by
  cases e with
  | Call f es kw q => cases f with
    | Attribute l m ap => cases es with
      | nil => cases kw with
        | nil =>
          simp only [chkE, Bool.and_eq_true, decide_eq_true_eq] at h
          obtain ⟨⟨⟨⟨h1, rfl⟩, h3⟩, h4⟩, h5⟩ := h
          exact c_pop G h3 h4 (ho.e G h5)
        | cons _ _ => exact Bool.noConfusion (show false = true from h)
      | cons _ _ => exact Bool.noConfusion (show false = true from h)
    | _ => exact Bool.noConfusion (show false = true from h)
  | _ => exact Bool.noConfusion (show false = true from h)
theorem snd_idx {a i : CE} (ha : Snd S R C Y n a) (hi : Snd S R C Y n i) : Snd S R C Y n (.idx a i) := .val rfl rfl fun {N cm sc X W e} G h => by
  cases e with
  | Subscript l r p =>
    simp only [chkE, Bool.and_eq_true] at h
    refine c_idx G ?_ (ha.e G h.1.2) (hi.e G h.2)
    have := h.1.1
    cases r <;> first | rfl | exact Bool.noConfusion (show false = true from this)
  | _ => exact Bool.noConfusion (show false = true from h)
theorem snd_sl {a lo hi : CE} (ha : Snd S R C Y n a) (hl : Snd S R C Y n lo) (hh : Snd S R C Y n hi) : Snd S R C Y n (.sl a lo hi) := by
  have key : ∀ {N : List Str} {cm : Bool} {sc : Scope} {e : Expr} {X : Cx} {W : WX} , Gd S R C Y n N cm sc X W → chkE S N sc cm (.sl a lo hi) e = true → ∃ l x y p2 p, e = .Subscript l (.Slice x y none p2) p ∧ chkE S N sc cm a l = true ∧ PO X x (tO R Y W lo.isAbs (evE C lo)) ∧ PO X y (tO R Y W hi.isAbs (evE C hi)) := by
    intro N cm sc e X W G h
    have po : ∀ {c : CE} (hc : Snd S R C Y n c) {x : Option Expr}, (match x with | none => c.isAbs | some x => !c.isAbs && chkE S N sc cm c x) = true → PO X x (tO R Y W c.isAbs (evE C c)) := by
      intro c hc x h
      cases x with
      | none =>
        have h : c.isAbs = true := h
        rw [h]; exact po_abs
      | some x =>
        have h : (!c.isAbs && chkE S N sc cm c x) = true := h
        rw [Bool.and_eq_true, Bool.not_eq_true'] at h
        rw [h.1]; exact po_val (hc.e G h.2)
    cases e with
    | Subscript l r p => cases r with
      | Slice x y st p2 => cases st with
        | none =>
          simp only [chkE, Bool.and_eq_true] at h
          exact ⟨l, x, y, p2, p, rfl, h.1.1, po hl h.1.2, po hh h.2⟩
        | some _ => exact Bool.noConfusion (show false = true from h)
      | _ => exact Bool.noConfusion (show false = true from h)
    | _ => exact Bool.noConfusion (show false = true from h)
  refine .new rfl (fun G h => ?_) fun G h _ => ?_
  · obtain ⟨l, x, y, p2, p, rfl, h1, h2, h3⟩ := key G h
    exact c_sl G (ha.e G h1) h2 h3
  · obtain ⟨l, x, y, p2, p, rfl, h1, h2, h3⟩ := key G h
    exact l_sl G (ha.e G h1) h2 h3
theorem snd_rev {a : CE} (ha : Snd S R C Y n a) : Snd S R C Y n (.rev a) := .val rfl rfl fun {N cm sc X W e} G h => by
  unfold chkE at h
  split at h
  · exact c_rev G (ha.e G h)
  · cases h
theorem snd_absent : Snd S R C Y n .absent := .val rfl rfl fun {N cm sc X W e} G h => by
  exact Bool.noConfusion (show false = true from h)
theorem snd_tup {es : CEs} (ha : SndA S R C Y n es) : Snd S R C Y n (.tup es) := .val rfl rfl fun {N cm sc X W e} G h => by
  cases e with
  | Tuple xs k p =>
    simp only [chkE, Bool.and_eq_true, decide_eq_true_eq] at h
    exact c_tup (fun s hh ds h' q => by rw [ha.z q h.2]; exact h.1) (ha.a G h.2)
  | _ => exact Bool.noConfusion (show false = true from h)
theorem snd_lst {es : CEs} (ha : SndA S R C Y n es) : Snd S R C Y n (.lst es) := by
  have key : ∀ {N cm sc X W e}, Gd S R C Y n N cm sc X W → chkE S N sc cm (.lst es) e = true → PE X e (tL R Y W (evE C (.lst es))) := by
    intro N cm sc X W e G h
    cases e with
    | List xs p =>
      simp only [chkE, Bool.and_eq_true, decide_eq_true_eq] at h
      exact l_lst (fun s hh ds h' q => by rw [ha.z q h.2]; exact h.1) (ha.a G h.2)
    | _ => exact Bool.noConfusion (show false = true from h)
  refine .new rfl (fun G h => e_of_l (key G h) fun s hh d h' q => ?_) fun G h _ => key G h
  simp only [evE] at q
  cases z : evEs C es s hh with
  | ok ds h1 => rw [z] at q; simp only [ERes.bind, ERes.ok.injEq] at q; exact ⟨ds, q.1.symm⟩
  | exc _ _ => rw [z] at q; cases q
  | stuck => rw [z] at q; cases q
theorem own_ok {N : List Str} {own : List Nat} {l : List (Str × Nat)} (h : l.map (·.2) = own) {P : List Nat → Prop} (k : P (l.map (·.2))) : P own := by rw [← h]; exact k
theorem snd_comp {elt cond : CE} {t : Tg} {it : CI} {own : List Nat} (he : Snd S R C Y n elt) (hi : SndI S R C Y n it) (hc : Snd S R C Y n cond) : Snd S R C Y n (.comp elt t it cond own) := by
  have key : ∀ {N cm sc X W e}, Gd S R C Y n N cm sc X W → chkE S N sc cm (.comp elt t it cond own) e = true → PE X e (tL R Y W (evE C (.comp elt t it cond own))) := by
    intro N cm sc X W e G h
    unfold chkE at h
    split at h
    · rename_i x tg iter ifs a scope p
      simp only [Bool.and_eq_true, decide_eq_true_eq] at h
      obtain ⟨⟨⟨⟨⟨⟨⟨⟨⟨h1, rfl⟩, h2⟩, h3⟩, h4⟩, h5⟩, h6⟩, h6b⟩, h7⟩, h8⟩ := h
      rw [← h5] at h6b ⊢
      refine l_comp G h1 (hi.i G h3) h4 h6b h2 h6 (fun s H Ca cl fp => ?_) fun s H Ca cl fp => he.e (G.blk s H Ca cl fp) h8
      split at h7
      · rw [h7]; exact ts_nil
      · rw [Bool.and_eq_true, Bool.not_eq_true'] at h7
        rw [h7.1]; exact ts_one (hc.t (G.blk s H Ca cl fp) h7.2)
      · cases h7
    · cases h
  refine .new rfl (fun G h => e_of_l (key G h) fun s hh d h' q => ?_) fun G h _ => key G h
  simp only [evE] at q
  cases z : evI C it s hh with
  | ok ds h1 =>
    rw [z] at q
    simp only [ERes.bind] at q
    split at q
    · cases z2 : compF (evE C elt) (condR cond.isAbs (evE C cond)) t ds.g (cwipe s own) ds.xs h1 with
      | ok ys h2 => rw [z2] at q; simp only [lmap, ERes.ok.injEq] at q; exact ⟨_, q.1.symm⟩
      | exc _ _ => rw [z2] at q; cases q
      | stuck => rw [z2] at q; cases q
    · cases q
  | exc _ _ => rw [z] at q; cases q
  | stuck => rw [z] at q; cases q
theorem rds_rg {R : RC} {ρ φ : List Addr} {H : Hp} : ∀ (n : Nat) (a : Int), RDs R ρ φ H (rngD a 1 n) ((List.range n).map fun i => V.int (a + (i : Nat)))
  | 0, a => by simp [rngD, RDs]
  | n + 1, a => by
    rw [List.range_succ_eq_map, List.map_cons, List.map_map]
    refine RDs.cons (by simp only [RD]; simp) ?_
    have e : ((fun i : Nat => V.int (a + (i : Nat))) ∘ Nat.succ) = fun i : Nat => V.int (a + 1 + (i : Nat)) := by
      funext i
      simp only [Function.comp, Nat.succ_eq_add_one]
      congr 1
      omega
    rw [e]
    exact rds_rg n (a + 1)
theorem bind_bind {α β γ : Type} (x : ERes α) (f : α → Hc → ERes β) (g : β → Hc → ERes γ) : (x.bind f).bind g = x.bind fun a h => (f a h).bind g := by cases x <;> rfl
theorem lrange_lst {it : CI} : ∀ s h d h', evE C (.lrange it) s h = .ok d h' → ∃ xs, d = .lst xs := by
  intro s hh d h' q
  simp only [evE] at q
  cases z : evI C it s hh with
  | ok ds h1 =>
    rw [z] at q
    simp only [ERes.bind] at q
    split at q
    · cases q; exact ⟨_, rfl⟩
    · cases q
  | exc _ _ => rw [z] at q; cases q
  | stuck => rw [z] at q; cases q
theorem l_lrange1 {N : List Str} {cm : Bool} {sc : Scope} {X : Cx} {W : WX} (G : Gd S R C Y n N cm sc X W) {pos p p2 q : Pos} {a : CE} {e : Expr} (hcm : cm = true) (hg : isGlB sc "list" = true) (hg2 : isGlB sc "range" = true) (ha : PE X e (tE R Y W (evE C a))) (hs : starEach [e] X.env = (false, eval e X.env) :: starEach [] X.env) :
    PE X (.Call (.Name "list" p) [.Call (.Name "range" p2) [e] [] q] [] pos) (tL R Y W (evE C (.lrange (.rng1 a)))) := by
  obtain ⟨g1, g2⟩ := G.glb hg
  obtain ⟨g3, g4⟩ := G.glb hg2
  refine pe_imp (pe_listRg (G.calm hcm) g1 (G.bl (by decide +kernel)) (prg_1 g3 (G.bl (by decide +kernel)) ha hs) rfl) fun σ H Q ⟨ρ, φ, s, h, hS, hH, f, _⟩ => ?_
  simp only [evE, evI, bind_bind] at f
  refine ⟨ρ, φ, s, h, hS, hH, f.bind fun x h1 ρ1 v H1 _ e1 hH1 r1 f1 => ?_⟩
  cases x with
  | int j =>
    simp only [RD] at r1
    subst r1
    by_cases hj : smallI j = true
    · simp only [hj, if_true, ERes.bind] at f1
      obtain ⟨j1, j2⟩ := small_of hj
      by_cases hz : (rngD 0 1 j.toNat).length ≤ line
      · rw [if_pos hz] at f1
        rw [rng_len] at hz
        refine ⟨j, rfl, ⟨by omega, by omega, j1, j2, by unfold line at hz; omega⟩, fun p hp => ?_⟩
        refine finL_new (d := .lst (rngD 0 1 j.toNat)) Ext.refl f1 rfl hH1 hp ?_
        unfold rgV
        rw [show (j - 0).toNat = j.toNat from by rw [Int.sub_zero]]
        exact rds_rg _ _
      · rw [if_neg hz] at f1; exact f1.elim
    · simp only [hj] at f1
      exact f1.elim
  | _ => exact f1.elim
theorem l_lrange2 {N : List Str} {cm : Bool} {sc : Scope} {X : Cx} {W : WX} (G : Gd S R C Y n N cm sc X W) {pos p p2 q : Pos} {a b : CE} {e e' : Expr} (hcm : cm = true) (hg : isGlB sc "list" = true) (hg2 : isGlB sc "range" = true) (ha : PE X e (tE R Y W (evE C a))) (hb : PE X e' (tE R Y W (evE C b)))
    (hs : starEach [e, e'] X.env = (false, eval e X.env) :: starEach [e'] X.env) (hs2 : starEach [e'] X.env = (false, eval e' X.env) :: starEach [] X.env) :
    PE X (.Call (.Name "list" p) [.Call (.Name "range" p2) [e, e'] [] q] [] pos) (tL R Y W (evE C (.lrange (.rng2 a b)))) := by
  obtain ⟨g1, g2⟩ := G.glb hg
  obtain ⟨g3, g4⟩ := G.glb hg2
  refine pe_imp (pe_listRg (G.calm hcm) g1 (G.bl (by decide +kernel)) (prg_2 g3 (G.bl (by decide +kernel)) ha hb hs hs2 (by rw [hs2]; rfl)) rfl) fun σ H Q ⟨ρ, φ, s, h, hS, hH, f, _⟩ => ?_
  simp only [evE, evI, bind_bind] at f
  refine ⟨ρ, φ, s, h, hS, hH, f.bind fun x h1 ρ1 v H1 _ e1 hH1 r1 f1 => ?_⟩
  refine ⟨ρ1, φ, s, h1, hS.ext e1, hH1, f1.bind fun y h2 ρ2 u H2 _ e2 hH2 r2 f2 => ?_⟩
  have r1 := r1.ext e2
  cases x with
  | int i =>
    cases y with
    | int j =>
      simp only [RD] at r1 r2
      subst r1 r2
      by_cases hj : (smallI i && smallI j) = true
      · simp only [hj, if_true, ERes.bind] at f2
        rw [Bool.and_eq_true] at hj
        obtain ⟨j1, j2⟩ := small_of hj.1
        obtain ⟨j3, j4⟩ := small_of hj.2
        by_cases hz : (rngD i 1 (j - i).toNat).length ≤ line
        · rw [if_pos hz] at f2
          rw [rng_len] at hz
          refine ⟨i, j, rfl, rfl, ⟨j1, j2, j3, j4, by unfold line at hz; omega⟩, fun p hp => ?_⟩
          refine finL_new (d := .lst (rngD i 1 (j - i).toNat)) Ext.refl f2 rfl hH2 hp ?_
          unfold rgV
          exact rds_rg _ _
        · rw [if_neg hz] at f2; exact f2.elim
      · simp only [hj] at f2
        exact f2.elim
    | _ => exact f2.elim
  | _ => exact f2.elim
theorem snd_lrange {it : CI} (h1 : ∀ a, it = .rng1 a → Snd S R C Y n a) (h2 : ∀ a b, it = .rng2 a b → Snd S R C Y n a ∧ Snd S R C Y n b) : Snd S R C Y n (.lrange it) := by
  have key : ∀ {N cm sc X W e}, Gd S R C Y n N cm sc X W → chkE S N sc cm (.lrange it) e = true → PE X e (tL R Y W (evE C (.lrange it))) := by
    intro N cm sc X W e G h
    unfold chkE at h
    split at h
    · simp only [Bool.and_eq_true, decide_eq_true_eq] at h
      obtain ⟨⟨⟨⟨k1, rfl⟩, k3⟩, k4⟩, k5⟩ := h
      cases it with
      | rng1 a =>
        unfold chkI at k5
        split at k5
        · simp only [Bool.and_eq_true, decide_eq_true_eq] at k5
          obtain ⟨⟨rfl, m2⟩, m3⟩ := k5
          exact l_lrange1 G k1 k3 m2 ((h1 a rfl).e G m3) (chk_ns m3 _ X.env)
        · cases k5
      | rng2 a b =>
        unfold chkI at k5
        split at k5
        · simp only [Bool.and_eq_true, decide_eq_true_eq] at k5
          obtain ⟨⟨⟨rfl, m2⟩, m3⟩, m4⟩ := k5
          exact l_lrange2 G k1 k3 m2 ((h2 a b rfl).1.e G m3) ((h2 a b rfl).2.e G m4) (chk_ns m3 _ X.env) (chk_ns m4 _ X.env)
        · cases k5
      | _ => exact Bool.noConfusion (show false = true from k4)
    · cases h
  exact .new rfl (fun G h => e_of_l (key G h) lrange_lst) fun G h _ => key G h
theorem snd_cell {c : CE} (hc : Snd S R C Y n c) : Snd S R C Y n (.cell c) := by
  have key : ∀ {N cm sc X W e}, Gd S R C Y n N cm sc X W → chkE S N sc cm (.cell c) e = true → PE X e (tE R Y W (evE C (.cell c))) ∧ plainT e = true := by
    intro N cm sc X W e G h
    have h' : (freshC c && chkE S N sc cm c e) = true := by
      cases c with
      | bi b args => cases b <;> exact h
      | _ => exact h
    rw [Bool.and_eq_true] at h'
    exact ⟨c_cell (hc.l G h'.2 h'.1), chk_plainL h'.1 h'.2⟩
  exact ⟨fun G h => (key G h).1, fun _ _ h => Bool.noConfusion (show false = true from h), fun G h => t_val (key G h).1 (plainT_of (key G h).2 _), fun G h => Bool.noConfusion (show false = true from (key G h).2)⟩
theorem snd_dict0 {t : Bool} : Snd S R C Y n (.dict0 t) := .val rfl rfl fun {N cm sc X W e} G h => by
  cases e with
  | Dict ks vs p => cases ks with
    | nil => cases vs with
      | nil => exact c_dict0
      | cons _ _ => exact Bool.noConfusion (show false = true from h)
    | cons _ _ => exact Bool.noConfusion (show false = true from h)
  | _ => exact Bool.noConfusion (show false = true from h)
theorem snd_dget {o k d : CE} (ho : Snd S R C Y n o) (hk : Snd S R C Y n k) (hd : Snd S R C Y n d) : Snd S R C Y n (.dget o k d) := .val rfl rfl fun {N cm sc X W e} G h => by
  unfold chkE at h
  split at h
  · simp only [Bool.and_eq_true, decide_eq_true_eq] at h
    obtain ⟨⟨⟨⟨⟨⟨h1, rfl⟩, h3⟩, h4⟩, h5⟩, h6⟩, h7⟩ := h
    exact c_dget G h3 h4 (chk_ns h6 _ X.env) (chk_ns h7 _ X.env) (ho.e G h5) (hk.e G h6) (hd.e G h7)
  · cases h
theorem snda_nil : SndA S R C Y n .nil := ⟨fun {N cm sc X W es} G h => by
  cases es with
  | nil => exact a_nil
  | cons _ _ => simp [chkEs] at h, fun e _ _ _ _ h => chk_len h e⟩
theorem snda_cons {c : CE} {cs : CEs} (hc : Snd S R C Y n c) (hcs : SndA S R C Y n cs) : SndA S R C Y n (.cons c cs) := ⟨fun {N cm sc X W es} G h => by
  cases es with
  | nil => simp [chkEs] at h
  | cons e es =>
    simp only [chkEs, Bool.and_eq_true] at h
    exact a_cons (hc.e G h.1) (hcs.a G h.2) (chk_ns h.1 es X.env), fun e _ _ _ _ h => chk_len h e⟩
theorem sndi_seq {a : CE} (ha : Snd S R C Y n a) : SndI S R C Y n (.seq a) := ⟨fun {N cm sc X W tg e} G h => i_seq G (ha.e G (by simpa only [chkI] using h))⟩
theorem sndi_r1 {a : CE} (ha : Snd S R C Y n a) : SndI S R C Y n (.rng1 a) := ⟨fun {N cm sc X W tg e} G h => by
  unfold chkI at h
  split at h
  · simp only [Bool.and_eq_true, decide_eq_true_eq] at h
    obtain ⟨⟨rfl, h2⟩, h3⟩ := h
    exact i_rng1 G h2 (ha.e G h3) (chk_ns h3 _ X.env)
  · cases h⟩
theorem sndi_r2 {a b : CE} (ha : Snd S R C Y n a) (hb : Snd S R C Y n b) : SndI S R C Y n (.rng2 a b) := ⟨fun {N cm sc X W tg e} G h => by
  unfold chkI at h
  split at h
  · simp only [Bool.and_eq_true, decide_eq_true_eq] at h
    obtain ⟨⟨⟨rfl, h2⟩, h3⟩, h4⟩ := h
    exact i_rng2 G h2 (ha.e G h3) (hb.e G h4) (chk_ns h3 _ X.env) (chk_ns h4 _ X.env)
  · cases h⟩
theorem sndi_r3 {a b c : CE} (ha : Snd S R C Y n a) (hb : Snd S R C Y n b) (hc : Snd S R C Y n c) : SndI S R C Y n (.rng3 a b c) := ⟨fun {N cm sc X W tg e} G h => by
  unfold chkI at h
  split at h
  · simp only [Bool.and_eq_true, decide_eq_true_eq] at h
    obtain ⟨⟨⟨⟨rfl, h2⟩, h3⟩, h4⟩, h5⟩ := h
    exact i_rng3 G h2 (ha.e G h3) (hb.e G h4) (hc.e G h5) (chk_ns h3 _ X.env) (chk_ns h4 _ X.env) (chk_ns h5 _ X.env)
  · cases h⟩
theorem sndi_enum {a : CE} (ha : Snd S R C Y n a) : SndI S R C Y n (.enum a) := ⟨fun {N cm sc X W tg e} G h => by
  unfold chkI at h
  split at h
  · split at h
    · simp only [Bool.and_eq_true, decide_eq_true_eq] at h
      obtain ⟨⟨rfl, h2⟩, h3⟩ := h
      exact i_enum G h2 (ha.e G h3) (chk_ns h3 _ X.env)
    · cases h
  · cases h⟩
theorem sndi_zip {a b : CE} (ha : Snd S R C Y n a) (hb : Snd S R C Y n b) : SndI S R C Y n (.zip a b) := ⟨fun {N cm sc X W tg e} G h => by
  unfold chkI at h
  split at h
  · split at h
    · simp only [Bool.and_eq_true, decide_eq_true_eq] at h
      obtain ⟨⟨⟨rfl, h2⟩, h3⟩, h4⟩ := h
      exact i_zip G h2 (ha.e G h3) (hb.e G h4) (chk_ns h3 _ X.env) (chk_ns h4 _ X.env)
    · cases h
  · cases h⟩
mutual
theorem snd : ∀ c : CE, Snd S R C Y n c
  | .var _ => snd_var
  | .cst _ => snd_cst
  | .glob _ _ => snd_glob
  | .bin _ a b => snd_bin (snd a) (snd b)
  | .neg a => snd_neg (snd a)
  | .not_ a => snd_not (snd a)
  | .cmp _ a b => snd_cmp (snd a) (snd b)
  | .chain _ _ a b c => snd_chain (snd a) (snd b) (snd c)
  | .and_ a b => snd_and (snd a) (snd b)
  | .or_ a b => snd_or (snd a) (snd b)
  | .ite t a b => snd_ite (snd t) (snd a) (snd b)
  | .call _ args => snd_call (snda args)
  | .bi _ args => snd_bi (snda args)
  | .isin a _ => snd_isin (snd a)
  | .pop o => snd_pop (snd o)
  | .idx a i => snd_idx (snd a) (snd i)
  | .sl a lo hi => snd_sl (snd a) (snd lo) (snd hi)
  | .rev a => snd_rev (snd a)
  | .absent => snd_absent
  | .tup es => snd_tup (snda es)
  | .lst es => snd_lst (snda es)
  | .comp elt _ it cond _ => snd_comp (snd elt) (sndi it) (snd cond)
  | .lrange it => match it with
    | .rng1 a => snd_lrange (fun b e => by cases e; exact snd a) fun b c e => by cases e
    | .rng2 a b => snd_lrange (fun c e => by cases e) fun c d e => by cases e; exact ⟨snd a, snd b⟩
    | .seq _ => snd_lrange (fun b e => by cases e) fun b c e => by cases e
    | .rng3 _ _ _ => snd_lrange (fun b e => by cases e) fun b c e => by cases e
    | .enum _ => snd_lrange (fun b e => by cases e) fun b c e => by cases e
    | .zip _ _ => snd_lrange (fun b e => by cases e) fun b c e => by cases e
  | .cell c => snd_cell (snd c)
  | .dict0 _ => snd_dict0
  | .dget o k d => snd_dget (snd o) (snd k) (snd d)
  | .callv fe _ args => snd_callv (snd fe) (snda args)
theorem snda : ∀ cs : CEs, SndA S R C Y n cs
  | .nil => snda_nil
  | .cons c cs => snda_cons (snd c) (snda cs)
theorem sndi : ∀ it : CI, SndI S R C Y n it
  | .seq a => sndi_seq (snd a)
  | .rng1 a => sndi_r1 (snd a)
  | .rng2 a b => sndi_r2 (snd a) (snd b)
  | .rng3 a b c => sndi_r3 (snd a) (snd b) (snd c)
  | .enum a => sndi_enum (snd a)
  | .zip a b => sndi_zip (snd a) (snd b)
end
end
end Cl

namespace Cl
open PySem PySem.Spec PyProof.Rows L2
/-! ### statements: their readings -/
def FinS (R : RC) (Y : XC) (W : WX) (D : Ends) (ρ φ : List Addr) (H : Hp) (r : SRes) : Prop :=
  match r with
  | .ok (.nx c') h' => ∀ ρ' σ' H', Ext ρ ρ' H H' → RelS R ρ' φ H' c' σ' → RelH R ρ' φ H' h' → D.nx σ' H'
  | .ok (.bk c') h' => ∀ ρ' σ' H', Ext ρ ρ' H H' → RelS R ρ' φ H' c' σ' → RelH R ρ' φ H' h' → D.bk σ' H'
  | .ok (.ct c') h' => ∀ ρ' σ' H', Ext ρ ρ' H H' → RelS R ρ' φ H' c' σ' → RelH R ρ' φ H' h' → D.ct σ' H'
  | .ok (.rt d) h' => ∀ ρ' v H', Ext ρ ρ' H H' → RelH R ρ' φ H' h' → RD R ρ' φ H' d v → D.rt v H'
  | .exc x c' h' => ∀ ρ' cls dd σ' H', Ext ρ ρ' H H' → RelS R ρ' φ H' c' σ' → RelH R ρ' φ H' h' → RX R Y ρ' φ H' x cls dd → W cls dd σ' H'
  | .stuck => False
def tS (R : RC) (Y : XC) (W : WX) (f : CSt → Hc → SRes) : TS := fun D σ H => ∃ ρ φ c h, RelS R ρ φ H c σ ∧ RelH R ρ φ H h ∧ FinS R Y W D ρ φ H (f c h)
section
variable {R : RC} {Y : XC} {W : WX} {D : Ends} {ρ φ : List Addr} {H : Hp}
theorem FinS.ext {ρ' : List Addr} {H' : Hp} {r : SRes} (f : FinS R Y W D ρ φ H r) (e : Ext ρ ρ' H H') : FinS R Y W D ρ' φ H' r := by
  cases r with
  | ok k h => cases k with
    | nx c => exact fun ρ1 σ1 H1 e1 => f ρ1 σ1 H1 (e.trans e1)
    | bk c => exact fun ρ1 σ1 H1 e1 => f ρ1 σ1 H1 (e.trans e1)
    | ct c => exact fun ρ1 σ1 H1 e1 => f ρ1 σ1 H1 (e.trans e1)
    | rt d => exact fun ρ1 v H1 e1 => f ρ1 v H1 (e.trans e1)
  | exc x c h => exact fun ρ1 cls dd σ1 H1 e1 => f ρ1 cls dd σ1 H1 (e.trans e1)
  | stuck => exact f
/-- other ends that take what these take -/
theorem FinS.ends {D' : Ends} {r : SRes} (f : FinS R Y W D ρ φ H r) (h1 : ∀ c σ' ρ' H' h', Ext ρ ρ' H H' → RelS R ρ' φ H' c σ' → RelH R ρ' φ H' h' → r = .ok (.nx c) h' → D.nx σ' H' → D'.nx σ' H') (h2 : ∀ σ' H', D.bk σ' H' → D'.bk σ' H') (h3 : ∀ σ' H', D.ct σ' H' → D'.ct σ' H') (h4 : ∀ v H', D.rt v H' → D'.rt v H') : FinS R Y W D' ρ φ H r := by
  cases r with
  | ok k h => cases k with
    | nx c => exact fun ρ1 σ1 H1 e1 s1 r1 => h1 c σ1 ρ1 H1 h e1 s1 r1 rfl (f ρ1 σ1 H1 e1 s1 r1)
    | bk c => exact fun ρ1 σ1 H1 e1 s1 r1 => h2 _ _ (f ρ1 σ1 H1 e1 s1 r1)
    | ct c => exact fun ρ1 σ1 H1 e1 s1 r1 => h3 _ _ (f ρ1 σ1 H1 e1 s1 r1)
    | rt d => exact fun ρ1 v H1 e1 s1 r1 => h4 _ _ (f ρ1 v H1 e1 s1 r1)
  | exc x c h => exact f
  | stuck => exact f
/-- through an expression -/
theorem FinS.st {α β : Type} {σ : L2.St} {c : CSt} {h : Hc} {rel : List Addr → Hp → α → β → Prop} {r : ERes α} {f : α → Hc → SRes} {Q : β → Hp → Prop} (hS : RelS R ρ φ H c σ)
    (hf : FinS R Y W D ρ φ H (r.st c f)) (k : ∀ a h1 ρ1 b H1, r = .ok a h1 → Ext ρ ρ1 H H1 → RelH R ρ1 φ H1 h1 → RelS R ρ1 φ H1 c σ → rel ρ1 H1 a b → FinS R Y W D ρ1 φ H1 (f a h1) → Q b H1) : Fin R Y W σ ρ φ H rel r Q := by
  cases r with
  | ok a h' => exact fun ρ1 b H1 e1 hH r1 => k a h' ρ1 b H1 rfl e1 hH (hS.ext e1) r1 (FinS.ext (r := f a h') hf e1)
  | exc x h' => exact fun ρ1 cls dd H1 e1 hH rx => hf ρ1 cls dd σ H1 e1 (hS.ext e1) hH rx
  | stuck => exact hf
theorem FinS.stO {α : Type} {o : Option α} {f : α → SRes} (hf : FinS R Y W D ρ φ H (stO o f)) : ∃ a, o = some a ∧ FinS R Y W D ρ φ H (f a) := by
  cases o with
  | none => exact hf.elim
  | some a => exact ⟨a, rfl, hf⟩
theorem RelS.unsets {c : CSt} {σ : L2.St} (r : RelS R ρ φ H c σ) : ∀ is : List Nat, RelS R ρ φ H (cwipe c is) σ
  | [] => r
  | i :: is => (r.unsets is).unset i
end
/-- the ground of statements -/
structure Gs (S : Sg) (R : RC) (P : Env2) (Y : XC) (n : Nat) (N : List Str) (cm : Bool) (sc : Scope) (X : Cx) (W : WX) : Prop where
  g : Gd S R P.C Y n N cm sc X W
  hsc : X.env.scope = sc
  hfn : sc.kind = .function
  po : cm = true → PassesOwn (model X.prog X.w) X.A X.env X.xe
  stk : X.stack = X.env :: X.outer
  frm : X.env.frame = some X.env.locals
  exc : ∀ i x, S.excs[i]? = some x → ∃ Ca B nid iid bmB, ExcBaseFacts B nid iid bmB ∧ PySem.W.excIn X.K Ca bmB nid = true ∧ X.mg x = some (.ref Ca) ∧ PySem.W.keepIn X.K (.ref Ca) = true ∧ (∀ X' : Cx, X'.K = X.K → Raises X' (.ref Ca)) ∧ Y.cls i = .ref Ca
  sub : ∀ i j b, P.sub i j = some b → PySem.W.exmOne X.K (Y.cls i) (Y.cls j) = some b
section
variable {S : Sg} {R : RC} {P : Env2} {Y : XC} {n : Nat} {N : List Str} {cm : Bool} {sc : Scope} {X : Cx} {W : WX} {pos : Pos} {st : Stmt}
theorem ps_imp {t u : TS} (h : PS X st t) (k : ∀ D σ H, u D σ H → t D σ H) : PS X st u := ⟨fun pins s σ H D I q => h.run pins s σ H D I (k D σ H q)⟩
theorem pss_imp {sts : List Stmt} {t u : TS} (h : PSs X sts t) (k : ∀ D σ H, u D σ H → t D σ H) : PSs X sts u := ⟨fun pins s σ H D I q => h.run pins s σ H D I (k D σ H q)⟩
/-! small statements -/
theorem s_ret {c : CE} {e : Expr} (he : PE X e (tE R Y W (evE P.C c))) : PS X (.Return (some e) pos) (tS R Y W (evS P (.ret c))) :=
  ps_imp (ps_ret he) fun D σ H ⟨ρ, φ, s, h, hS, hH, f⟩ => by
    simp only [evS] at f
    exact ⟨ρ, φ, s, h, hS, hH, FinS.st (h := h) hS f fun d h1 ρ1 v H1 _ e1 hH1 hS1 r1 f1 => f1 ρ1 v H1 Ext.refl hH1 r1⟩
theorem s_retN : PS X (.Return none pos) (tS R Y W (evS P .retN)) := ps_imp ps_retN fun D σ H ⟨ρ, φ, s, h, hS, hH, f⟩ => by
  simp only [evS] at f
  exact f ρ _ H Ext.refl hH (by simp only [RD])
theorem s_brk : PS X (.Break pos) (tS R Y W (evS P .brk)) := ps_imp ps_break fun D σ H ⟨ρ, φ, s, h, hS, hH, f⟩ => by
  simp only [evS] at f
  exact f ρ σ H Ext.refl hS hH
theorem s_pass : PS X (.Pass pos) (tS R Y W (evS P .pass)) := ps_imp ps_pass fun D σ H ⟨ρ, φ, s, h, hS, hH, f⟩ => by
  simp only [evS] at f
  exact f ρ σ H Ext.refl hS hH
theorem s_expr {c : CE} {e : Expr} (he : PE X e (tE R Y W (evE P.C c))) (hs : swapsWith e none pos.line X.env = pure false) : PS X (.Expr e pos) (tS R Y W (evS P (.expr c))) :=
  ps_imp (ps_expr he hs) fun D σ H ⟨ρ, φ, s, h, hS, hH, f⟩ => by
    simp only [evS] at f
    exact ⟨ρ, φ, s, h, hS, hH, FinS.st (h := h) hS f fun d h1 ρ1 v H1 _ e1 hH1 hS1 r1 f1 => f1 ρ1 σ H1 Ext.refl hS1 hH1⟩
theorem boolR_st {r : ERes D} {c : CSt} {f : Bool → Hc → SRes} {D : Ends} {ρ φ : List Addr} {H : Hp} {σ : L2.St} {Q : Bool → Hp → Prop} (hS : RelS R ρ φ H c σ) (hf : FinS R Y W D ρ φ H ((boolR r).st c f))
    (k : ∀ a h1 ρ1 H1, Ext ρ ρ1 H H1 → RelH R ρ1 φ H1 h1 → RelS R ρ1 φ H1 c σ → FinS R Y W D ρ1 φ H1 (f a h1) → Q a H1) : Fin R Y W σ ρ φ H rEq (boolR r) Q :=
  FinS.st (h := []) hS hf fun a h1 ρ1 b H1 _ e1 hH1 hS1 r1 f1 => by
    subst r1
    exact k a h1 ρ1 H1 e1 hH1 hS1 f1
theorem s_ifs {t : CE} {a b : CSs} {e : Expr} {xs ys : List Stmt} (ht : PT X e (tT R Y W (evE P.C t))) (ha : PSs X xs (tS R Y W (evSs P a))) (hb : PSs X ys (tS R Y W (evSs P b))) : PS X (.If e xs ys pos) (tS R Y W (evS P (.ifs t a b))) :=
  ps_imp (ps_if ht ha hb) fun D σ H ⟨ρ, φ, s, h, hS, hH, f⟩ => by
    simp only [evS] at f
    refine ⟨ρ, φ, s, h, hS, hH, boolR_st hS f fun c h1 ρ1 H1 e1 hH1 hS1 f1 => ?_⟩
    cases c with
    | true => rw [if_pos rfl]; exact ⟨ρ1, φ, s, h1, hS1, hH1, f1⟩
    | false => rw [if_neg Bool.false_ne_true]; exact ⟨ρ1, φ, s, h1, hS1, hH1, f1⟩
/-! blocks -/
theorem ss_nil : PSs X [] (tS R Y W (evSs P .nil)) := pss_imp pss_nil fun D σ H ⟨ρ, φ, s, h, hS, hH, f⟩ => by
  simp only [evSs] at f
  exact f ρ σ H Ext.refl hS hH
theorem ss_cons {c : CS} {cs : CSs} {sts : List Stmt} (h1 : PS X st (tS R Y W (evS P c))) (h2 : PSs X sts (tS R Y W (evSs P cs))) : PSs X (st :: sts) (tS R Y W (evSs P (.cons c cs))) :=
  pss_imp (pss_cons h1 h2) fun D σ H ⟨ρ, φ, s, h, hS, hH, f⟩ => by
    simp only [evSs] at f
    refine ⟨ρ, φ, s, h, hS, hH, ?_⟩
    cases q : evS P c s h with
    | ok k h' => cases k with
      | nx c' =>
        rw [q] at f
        intro ρ1 σ1 H1 e1 hS1 hH1
        exact ⟨ρ1, φ, c', h', hS1, hH1, FinS.ext f e1⟩
      | bk c' => rw [q] at f; exact f
      | ct c' => rw [q] at f; exact f
      | rt d => rw [q] at f; exact f
    | exc x c' h' => rw [q] at f; exact f
    | stuck => rw [q] at f; exact f
theorem ss_kill {is : List Nat} {cs : CSs} {sts : List Stmt} (h2 : PSs X sts (tS R Y W (evSs P cs))) : PSs X sts (tS R Y W (evSs P (.cons (.kill is) cs))) :=
  pss_imp h2 fun D σ H ⟨ρ, φ, s, h, hS, hH, f⟩ => by
    simp only [evSs, evS] at f
    exact ⟨ρ, φ, cwipe s is, h, hS.unsets is, hH, f⟩
/-- the cells from n on forgotten -/
theorem cut_rel {ρ φ : List Addr} {H H' : Hp} {h h' : Hc} {t : List Addr} (hH : RelH R ρ φ H h) (hH' : RelH R (ρ ++ t) φ H' h') (hc : cutOk h.length h h' = true) : RelH R ρ φ H' (h'.take h.length) := by
  rw [← hH.len]
  refine hH'.cut fun c hm => ?_
  unfold cutOk at hc
  rw [← hH.len] at hc
  obtain ⟨i, hi⟩ := List.mem_iff_getElem?.mp hm
  have hil : i < ρ.length := by
    rcases Nat.lt_or_ge i ρ.length with q | q
    · exact q
    · rw [List.getElem?_take_eq_none q] at hi; cases hi
  obtain ⟨c0, hc0⟩ : ∃ c0, h[i]? = some c0 := ⟨_, List.getElem?_eq_getElem (by rw [← hH.len]; exact hil)⟩
  have hz : (List.zip (h'.take ρ.length) h)[i]? = some (c, c0) := by
    rw [List.getElem?_zip_eq_some]
    exact ⟨hi, hc0⟩
  have := List.all_eq_true.mp hc _ (List.mem_of_getElem? hz)
  simp only [Bool.or_eq_true, decide_eq_true_eq] at this
  rcases this with q | q
  · exact q
  · subst q
    obtain ⟨a, _, rc⟩ := hH.at hc0
    exact rc.low
theorem low_rel {ρ φ : List Addr} {H' : Hp} {c : CSt} {σ : L2.St} {t : List Addr} (hS : RelS R (ρ ++ t) φ H' c σ) (hl : lowSt ρ.length c = true) : RelS R ρ φ H' c σ :=
  ⟨hS.len, fun i d q => by
    obtain ⟨v, h1, h2⟩ := hS.at_ i d q
    refine ⟨v, h1, RD.mv (Mv.cut) ?_ h2⟩
    have := List.all_eq_true.mp hl _ (List.mem_of_getElem? q)
    exact this⟩
theorem ss_scope {cs : CSs} {sts : List Stmt} (h2 : PSs X sts (tS R Y W (evSs P cs))) : PSs X sts (tS R Y W (evSs P (.cons (.scope cs) .nil))) :=
  pss_imp h2 fun D σ H ⟨ρ, φ, s, h, hS, hH, f⟩ => by
    simp only [evSs, evS] at f
    refine ⟨ρ, φ, s, h, hS, hH, ?_⟩
    cases q : evSs P cs s h with
    | ok k h' => cases k with
      | nx c' =>
        rw [q] at f
        unfold scopeR at f
        by_cases z : (lowSt h.length c' && cutOk h.length h h') = true
        · simp only [z, if_true] at f
          rw [Bool.and_eq_true] at z
          intro ρ1 σ1 H1 e1 hS1 hH1
          obtain ⟨t, rfl⟩ := e1.pre
          exact f ρ σ1 H1 e1.cut (low_rel hS1 (by rw [hH.len]; exact z.1)) (cut_rel hH hH1 z.2)
        · simp only [z] at f
          exact f
      | bk c' => rw [q] at f; exact f
      | ct c' => rw [q] at f; exact f
      | rt d => rw [q] at f; exact f
    | exc x c' h' => rw [q] at f; exact f
    | stuck => rw [q] at f; exact f
/-! loops -/
theorem s_whl (hp : PassesOwn (model X.prog X.w) X.A X.env X.xe) {t : CE} {a : CSs} {e : Expr} {xs : List Stmt} (ht : PT X e (tT R Y W (evE P.C t))) (ha : PSs X xs (tS R Y W (evSs P a))) : PS X (.While e xs [] pos) (tS R Y W (evS P (.whl t a))) :=
  ps_imp (ps_while hp ht ha) fun D σ H ⟨ρ, φ, s, h, hS, hH, f⟩ => by
    simp only [evS] at f
    refine ⟨fun m σ1 H1 => ∃ ρ1 c1 h1, RelS R ρ1 φ H1 c1 σ1 ∧ RelH R ρ1 φ H1 h1 ∧ Ext ρ ρ1 H H1 ∧ FinS R Y W D ρ1 φ H1 (whF (evE P.C t) (evSs P a) m c1 h1), ⟨wFuel, ρ, s, h, hS, hH, Ext.refl, f⟩, ?_⟩
    rintro m σ1 H1 ⟨ρ1, c1, h1, hS1, hH1, e1, f1⟩
    cases m with
    | zero => exact f1.elim
    | succ m =>
      unfold whF at f1
      refine ⟨ρ1, φ, c1, h1, hS1, hH1, ?_⟩
      cases q : boolR (evE P.C t c1 h1) with
      | stuck => rw [q] at f1; exact f1.elim
      | exc x h' => rw [q] at f1; exact fun ρ2 cls dd H2 e2 hH2 rx => f1 ρ2 cls dd σ1 H2 e2 (hS1.ext e2) hH2 rx
      | ok b h2 =>
        rw [q] at f1
        intro ρ2 b' H2 e2 hH2 eb
        subst eb
        cases b with
        | false =>
          rw [if_neg Bool.false_ne_true]
          exact f1 ρ2 σ1 H2 e2 (hS1.ext e2) hH2
        | true =>
          rw [if_pos rfl]
          refine ⟨_, fun σ' H' w => ⟨m, Nat.lt_succ_self m, w⟩, ρ2, φ, c1, h2, hS1.ext e2, hH2, ?_⟩
          have e12 := e1.trans e2
          cases r : evSs P a c1 h2 with
          | ok k h3 => cases k with
            | nx c2 =>
              simp only [r] at f1
              exact fun ρ3 σ3 H3 e3 hS3 hH3 => ⟨ρ3, c2, h3, hS3, hH3, e12.trans e3, FinS.ext f1 (e2.trans e3)⟩
            | ct c2 =>
              simp only [r] at f1
              exact fun ρ3 σ3 H3 e3 hS3 hH3 => ⟨ρ3, c2, h3, hS3, hH3, e12.trans e3, FinS.ext f1 (e2.trans e3)⟩
            | bk c2 =>
              simp only [r] at f1
              exact fun ρ3 σ3 H3 e3 hS3 hH3 => f1 ρ3 σ3 H3 (e2.trans e3) hS3 hH3
            | rt d =>
              simp only [r] at f1
              exact fun ρ3 σ3 H3 e3 hS3 hH3 => f1 ρ3 σ3 H3 (e2.trans e3) hS3 hH3
          | exc x c2 h3 =>
            simp only [r] at f1
            exact fun ρ3 cls dd σ3 H3 e3 hS3 hH3 rx => f1 ρ3 cls dd σ3 H3 (e2.trans e3) hS3 hH3 rx
          | stuck => simp only [r] at f1; exact f1.elim
theorem s_for (hp : PassesOwn (model X.prog X.w) X.A X.env X.xe) (hc : X.calm = true) {t : Tg} {it : CI} {a : CSs} {tg e : Expr} {xs : List Stmt} (hi : PI X tg e (tI R Y W (evI P.C it))) (hg : PG X tg (tG R t)) (ha : PSs X xs (tS R Y W (evSs P a))) (hn : notSet e = true) :
    PS X (.For tg e xs [] pos) (tS R Y W (evS P (.for_ t it a))) :=
  ps_imp (ps_for hp hc hi hg ha (notset_fold hn)) fun D σ H ⟨ρ, φ, s, h, hS, hH, f⟩ => by
    simp only [evS] at f
    refine ⟨ρ, φ, s, h, hS, hH, FinS.st (h := h) hS f fun d h1 ρ1 J H1 _ e1 hH1 hS1 jk f1 => ?_⟩
    refine ⟨fun i m σ2 H2 => ∃ ρ2 c2 h2, m = d.xs.length - i ∧ i ≤ d.xs.length ∧ RelS R ρ2 φ H2 c2 σ2 ∧ RelH R ρ2 φ H2 h2 ∧ Ext ρ1 ρ2 H1 H2 ∧ FinS R Y W D ρ2 φ H2 (forF (evSs P a) t d.g (d.xs.drop i) c2 h2), ⟨d.xs.length, ρ1, s, h1, rfl, Nat.zero_le _, hS1, hH1, Ext.refl, by rw [List.drop_zero]; exact f1⟩, ?_⟩
    rintro i m σ2 H2 ⟨ρ2, c2, h2, rfl, hi', hS2, hH2, e2, f2⟩
    have la : Later ρ1 φ H1 ρ2 φ H2 := Later.of e2
    have hgd : gOk d.g h2 = true := by
      cases hd : d.xs.drop i with
      | nil =>
        rw [hd] at f2
        unfold forF at f2
        split at f2
        · assumption
        · exact f2.elim
      | cons x xs =>
        rw [hd] at f2
        unfold forF at f2
        split at f2
        · assumption
        · exact f2.elim
    by_cases hlt : i < d.xs.length
    · right
      rw [List.drop_eq_getElem_cons hlt] at f2
      unfold forF at f2
      rw [if_pos hgd] at f2
      obtain ⟨go, yl⟩ := jk.go i ρ2 φ H2 h2 la hH2 hgd _ (List.getElem?_eq_getElem hlt)
      refine ⟨go, _, fun σ' H' p' => ⟨d.xs.length - (i + 1), by omega, p'⟩, fun x H3 y => ?_⟩
      obtain ⟨e3, l3, hH3, rx⟩ := yl x H3 y
      cases ea : asgT t d.xs[i] c2 with
      | none => simp only [ea] at f2; exact f2.elim
      | some c3 =>
        simp only [ea] at f2
        refine ⟨ρ2, φ, c2, h2, _, c3, hS2.later l3, hH3, rx, ea, fun σ3 hS3 _ => ⟨ρ2, φ, c3, h2, hS3, hH3, ?_⟩⟩
        have e23 := e2.trans e3
        cases r : evSs P a c3 h2 with
        | ok k h3 => cases k with
          | nx c4 =>
            simp only [r] at f2
            exact fun ρ4 σ4 H4 e4 hS4 hH4 => ⟨ρ4, c4, h3, rfl, hlt, hS4, hH4, e23.trans e4, FinS.ext f2 (e3.trans e4)⟩
          | ct c4 =>
            simp only [r] at f2
            exact fun ρ4 σ4 H4 e4 hS4 hH4 => ⟨ρ4, c4, h3, rfl, hlt, hS4, hH4, e23.trans e4, FinS.ext f2 (e3.trans e4)⟩
          | bk c4 =>
            simp only [r] at f2
            exact fun ρ4 σ4 H4 e4 hS4 hH4 => f2 ρ4 σ4 H4 (e3.trans e4) hS4 hH4
          | rt d =>
            simp only [r] at f2
            exact fun ρ4 σ4 H4 e4 hS4 hH4 => f2 ρ4 σ4 H4 (e3.trans e4) hS4 hH4
        | exc x c4 h3 =>
          simp only [r] at f2
          exact fun ρ4 cls dd σ4 H4 e4 hS4 hH4 rx => f2 ρ4 cls dd σ4 H4 (e3.trans e4) hS4 hH4 rx
        | stuck => simp only [r] at f2; exact f2.elim
    · left
      have hie : i = d.xs.length := by omega
      subst hie
      refine ⟨jk.stop ρ2 φ H2 h2 la hH2 hgd, ?_⟩
      rw [List.drop_length] at f2
      unfold forF at f2
      rw [if_pos hgd] at f2
      exact f2 ρ2 σ2 H2 Ext.refl hS2 hH2
end
end Cl

namespace Cl
open PySem PySem.Spec PyProof.Rows L2
section
variable {R : RC} {ρ φ : List Addr} {H : Hp} {h : Hc}
theorem KRD.write {κ : Type} {kvs : List (κ × D)} {kws : List (κ × V)} (r : KRD R ρ φ H kvs kws) {a : Addr} {o : HO} (ha : a ∈ ρ) : KRD R ρ φ (upd H a o) kvs kws :=
  ⟨r.1, RDs.mv (k := ρ.length) (Mv.write ha _) r.2.low r.2⟩
theorem RDs.write {ds : List D} {vs : List V} (r : RDs R ρ φ H ds vs) {a : Addr} {o : HO} (ha : a ∈ ρ) : RDs R ρ φ (upd H a o) ds vs := RDs.mv (k := ρ.length) (Mv.write ha _) r.low r
theorem RD.write {d : D} {v : V} (r : RD R ρ φ H d v) {a : Addr} {o : HO} (ha : a ∈ ρ) : RD R ρ φ (upd H a o) d v := RD.mv (k := ρ.length) (Mv.write ha _) r.low r
theorem ixD_ixN {n : Nat} {i : Int} {j : Nat} (e : ixD n i = some j) : ixN n i = some j := e
/-- o[i] = v: what it does -/
def Put (X : Cx) (x y v : V) (H H' : Hp) : Prop := rSetL x y v H (fun H2 => H2 = H') ∨ ∃ a, x = .ref a ∧ DPut H a y v H'
theorem put_rel (rH : RelH R ρ φ H h) {x y v : D} {xv yv vv : V} (rx : RD R ρ φ H x xv) (ry : RD R ρ φ H y yv) (rv : RD R ρ φ H v vv) {h' : Hc} (e : putF h x y v = some h') (X : Cx) : ∃ H', Put X xv yv vv H H' ∧ Ext ρ ρ H H' ∧ RelH R ρ φ H' h' := by
  cases x with
  | ref n =>
    simp only [RD] at rx
    obtain ⟨a, ea, rfl⟩ := rx
    have ha : a ∈ ρ := List.mem_of_getElem? ea
    unfold putF at e
    cases hc : h[n]? with
    | none => simp [hc] at e
    | some c =>
      have rc := rH.cells n a c ea hc
      simp only [hc] at e
      cases c with
      | ro xs => cases e
      | lst xs =>
        obtain ⟨vs, h1, h2⟩ := rc
        cases y with
        | int i =>
          simp only [RD] at ry
          subst ry
          obtain ⟨j, ej, rfl⟩ := Option.map_eq_some_iff.mp e
          rw [h2.len] at ej
          exact ⟨_, .inl ⟨a, vs, i, j, rfl, rfl, h1, ej, rfl⟩, Ext.write ha, rH.write ea ⟨_, upd_same, (RDs.set rv j h2).write ha⟩⟩
        | _ => cases e
      | dK kvs =>
        obtain ⟨kws, h1, h2⟩ := rc
        have hl : kvs.length = kws.length := by have := congrArg List.length h2.1; simpa using this
        have e : (if kvs.length < line then (keyD y).map fun k => h.set n (.dK (putD kvs k v)) else none) = some h' := e
        by_cases hz : kvs.length < line
        · rw [if_pos hz] at e
          obtain ⟨k, ek, rfl⟩ := Option.map_eq_some_iff.mp e
          exact ⟨_, .inr ⟨a, rfl, .inl ⟨kws, k, h1, keyD_rd ek ry, by rw [← hl, ← line_eq]; exact hz, rfl⟩⟩, Ext.write ha, rH.write ea ⟨_, upd_same, (krd_put h2 k rv).write ha⟩⟩
        · rw [if_neg hz] at e; cases e
      | dT kvs =>
        obtain ⟨kws, h1, h2⟩ := rc
        have hl : kvs.length = kws.length := by have := congrArg List.length h2.1; simpa using this
        have e : (if kvs.length < line then (tkeyD y).map fun k => h.set n (.dT (putD kvs k v)) else none) = some h' := e
        by_cases hz : kvs.length < line
        · rw [if_pos hz] at e
          obtain ⟨k, ek, rfl⟩ := Option.map_eq_some_iff.mp e
          cases y with
          | tup ds =>
            have ek : keysD ds = some k := ek
            simp only [RD] at ry
            obtain ⟨b, ws, rfl, g1, g2⟩ := ry
            have eb := keysD_rd ek g2
            subst eb
            exact ⟨_, .inr ⟨a, rfl, .inr ⟨kws, k, b, h1, rfl, g1.1, by rw [← hl, ← line_eq]; exact hz, rfl⟩⟩, Ext.write ha, rH.write ea ⟨_, upd_same, (krd_put h2 k rv).write ha⟩⟩
          | _ => cases ek
        · rw [if_neg hz] at e; cases e
  | _ => cases e
end
section
variable {X : Cx} {R : RC}
theorem set_put (hu : X.A.units + 100 < cLine) : PSet X (fun o i v H Q => ∃ H', Put X o i v H H' ∧ Q H') := by
  intro pins s σ H o i v ov iv u Q I ro ri rv ⟨H', p, q⟩
  rcases p with p | ⟨a, rfl, p⟩
  · refine set_list pins s σ H o i v ov iv u Q I ro ri rv ?_
    obtain ⟨l, xs, k, j, e1, e2, e3, e4, e5⟩ := p
    exact ⟨l, xs, k, j, e1, e2, e3, e4, by rw [e5]; exact q⟩
  · obtain rfl : ov = Value.ref a := ro
    exact d_setItem (by omega) I p ri rv fun s1 I1 => ⟨H', I1, q⟩
def Got (K : PySem.W.Frag) (x y z : V) (H : Hp) : Prop := (∃ p xs i, x = .ref p ∧ y = .int i ∧ SqL K H p xs ∧ atI xs i = some z) ∨ ∃ a, x = .ref a ∧ DGet H a y (some z)
theorem get_got (hu : X.A.units + 100 < cLine) : PGet X (fun o i H Q => ∃ z, Got X.K o i z H ∧ Q z H) := by
  intro pins s σ H o i ov iv Q I ro ri ⟨z, g, q⟩
  rcases g with ⟨p, xs, k, rfl, rfl, hq, he⟩ | ⟨a, rfl, g⟩
  · cases ro
    obtain ⟨t, rfl⟩ := ri
    obtain ⟨its, r, pl, hz⟩ := I.list hq
    obtain ⟨j, h1, h2, h3, h4, h5⟩ := atI_get he
    obtain ⟨w, ew, rw'⟩ := r.get h2
    have hl := r.length
    have hn := line63
    have fin : EP X pins σ Q w s := ⟨z, H, I, rw', q⟩
    by_cases h0 : 0 ≤ k
    · have hj : k.toNat = j := by
        rw [seqIndex_of h0 h5] at h1
        exact Option.some.inj h1
      exact wpAny_getItem_list pl.isList h0 (by omega) (by rw [hj]; simpa using ew) fin
    · have hj : (k + (its.toArray.size : Int)).toNat = j := by
        rw [seqIndex_neg (by omega) h4] at h1
        rw [List.size_toArray, ← hl]
        exact Option.some.inj h1
      exact wpAny_getItem_list_neg pl.isList (by omega) (by rw [List.size_toArray]; omega) (by omega) (by rw [hj]; simpa using ew) fin
  · obtain rfl : ov = Value.ref a := ro
    exact d_getItem (by omega) I g ri fun w' s3 I3 rw' => ⟨z, H, I3, rw', q⟩
def lstIx (xs : List D) : D → Option D
  | .int i => atD xs i
  | _ => none
theorem got_rel {ρ φ : List Addr} {H : Hp} {h : Hc} (rH : RelH R ρ φ H h) {n : Nat} {y : D} {xv yv : V} (rx : RD R ρ φ H (.ref n) xv) (ry : RD R ρ φ H y yv) {d : D} (e : idxF h (.ref n) y = some d) : ∃ z, Got R.K xv yv z H ∧ RD R ρ φ H d z := by
  have rx' := rx
  simp only [RD] at rx
  obtain ⟨a, ea, rfl⟩ := rx
  have lk : lookD h n y = some (some d) → ∃ z, Got R.K (.ref a) yv z H ∧ RD R ρ φ H d z := fun q => by
    obtain ⟨o', g, q'⟩ := look_get rH ry ea q
    rcases q' with ⟨q1, _⟩ | ⟨d', w, q1, q2, q3⟩
    · cases q1
    · cases q1
      subst q2
      exact ⟨w, .inr ⟨a, rfl, g⟩, q3⟩
  unfold idxF at e
  have fin : ∀ {xs : List D} {vs : List V}, SqL R.K H a vs → RDs R ρ φ H xs vs → lstIx xs y = some d → ∃ z, Got R.K (.ref a) yv z H ∧ RD R ρ φ H d z := by
    intro xs vs h1 h2 e
    cases y with
    | int i =>
      simp only [RD] at ry
      subst ry
      obtain ⟨v, g1, g2⟩ := rds_at h2 e
      exact ⟨v, .inl ⟨a, vs, i, rfl, rfl, h1, g1⟩, g2⟩
    | _ => cases e
  cases hc : h[n]? with
  | none =>
    simp only [hc] at e
    obtain ⟨o, e1, e2⟩ := Option.bind_eq_some_iff.mp e
    simp only [id] at e2; subst e2
    exact lk e1
  | some c =>
    have rc := rH.cells n a c ea hc
    simp only [hc] at e
    cases c with
    | lst xs => obtain ⟨vs, h1, h2⟩ := rc; exact fin (SqL.of h1) h2 (by cases y <;> exact e)
    | ro xs => obtain ⟨o, vs, h1, h2⟩ := rc; exact fin (.inl (.inr ⟨o, h1⟩)) h2 (by cases y <;> exact e)
    | dK kvs =>
      obtain ⟨o, e1, e2⟩ := Option.bind_eq_some_iff.mp e
      simp only [id] at e2; subst e2
      exact lk e1
    | dT kvs =>
      obtain ⟨o, e1, e2⟩ := Option.bind_eq_some_iff.mp e
      simp only [id] at e2; subst e2
      exact lk e1
def augOp : Operator → Bool
  | .Add => true
  | .Sub => true
  | .Mult => true
  | .FloorDiv => true
  | _ => false
theorem ip_int {op : Operator} (h : augOp op = true) : PIp X op (fun x y H Q => ∃ i j k, x = .int i ∧ y = .int j ∧ binF [] op (.int i) (.int j) = some (.int k) ∧ Q (.int k) H) := by
  intro pins s σ H x y v u Q I r1 r2 ⟨i, j, k, e1, e2, e3, q⟩
  subst e1 e2
  obtain ⟨t, rfl⟩ := r1
  obtain ⟨t', rfl⟩ := r2
  have fin : ∀ {m : Int}, k = m → ∀ tk : Tok, EP X pins σ Q (.int m tk) { s with toks := s.toks + 1 } := fun {m} e tk => by subst e; exact ⟨.int _, H, I.tok _, ⟨_, rfl⟩, q⟩
  cases op with
  | Add =>
    have e3 : some (Cl.D.int (i + j)) = some (.int k) := e3
    cases e3
    exact iadd_int (fin rfl _)
  | Sub =>
    have e3 : some (Cl.D.int (i - j)) = some (.int k) := e3
    cases e3
    exact isub_int (fin rfl _)
  | Mult =>
    have e3 : (if mulOk i j then some (Cl.D.int (i * j)) else none) = some (.int k) := e3
    split at e3
    · rename_i hz
      cases e3
      exact PyProof.Rows.imul_int (fin rfl _) (mulOk_ok hz)
    · cases e3
  | FloorDiv =>
    have e3 : (if divOk j then some (i.fdiv j) else none).map Cl.D.int = some (.int k) := e3
    split at e3
    · rename_i hz
      cases e3
      unfold divOk at hz
      rw [Bool.and_eq_true, decide_eq_true_eq, decide_eq_true_eq] at hz
      exact ifloordiv_int hz.1 (fin rfl _) (.inl (PyProof.noPylong_of_log2 hz.2))
    · cases e3
  | _ => exact Bool.noConfusion (show false = true from h)
end
section
variable {S : Sg} {R : RC} {P : Env2} {Y : XC} {n : Nat} {N : List Str} {cm : Bool} {sc : Scope} {X : Cx} {W : WX} {pos : Pos} (G : Gs S R P Y n N cm sc X W)
include G
theorem s_aug {i : Nat} {x : Str} {op : Operator} {c : CE} {e : Expr} {p : Pos} (h1 : N[i]? = some x) (h2 : sc.names.lookup x = some .local ∨ sc.names.lookup x = some .cell) (ho : augOp op = true) (he : PE X e (tE R Y W (evE P.C c))) : PS X (.AugAssign (.Name x p) op e pos) (tS R Y W (evS P (.aug i op c))) := by
  have hl : Loc X.env.scope x := h2.elim (fun z => .inl (G.g.sees.loc x z)) fun z => .inr (G.g.sees.cell x z)
  have hf : X.fn x = true ∨ X.env.scope.names.lookup x = some .local := h2.elim (fun z => .inr (G.g.sees.loc x z)) fun z => .inl (G.g.fnc x z)
  refine ps_imp (ps_aug (by rw [G.g.hN]; exact G.g.nd) (by rw [G.g.hN]; exact h1) hl he (ip_int ho) hf) fun D σ H ⟨ρ, φ, s, h, hS, hH, f⟩ => ?_
  simp only [evS] at f
  cases q : s[i]? with
  | none => simp only [q] at f; exact f.elim
  | some o =>
    cases o with
    | none => simp only [q] at f; exact f.elim
    | some d =>
      simp only [q] at f
      obtain ⟨v, e1, r1⟩ := hS.at_ i d q
      refine ⟨v, e1, ρ, φ, s, h, hS, hH, FinS.st (h := h) hS f fun y h1 ρ1 u H1 _ e1 hH1 hS1 r2 f1 => ?_⟩
      have r1 := r1.ext e1
      cases d with
      | int a =>
        cases y with
        | int b =>
          obtain ⟨z, ez, f2⟩ := FinS.stO f1
          simp only [RD] at r1 r2
          have ez' : binF [] op (.int a) (.int b) = some z := by
            rw [← ez]
            clear ez
            cases op <;> first | rfl | exact Bool.noConfusion (show false = true from ho)
          obtain ⟨k, rfl⟩ : ∃ k, z = .int k := by
            cases op with
            | Add => cases ez'; exact ⟨_, rfl⟩
            | Sub => cases ez'; exact ⟨_, rfl⟩
            | Mult =>
              have ez' : (if mulOk a b then some (Cl.D.int (a * b)) else none) = some z := ez'
              split at ez' <;> cases ez'
              exact ⟨_, rfl⟩
            | FloorDiv =>
              have ez' : (if divOk b then some (a.fdiv b) else none).map Cl.D.int = some z := ez'
              split at ez' <;> cases ez'
              exact ⟨_, rfl⟩
            | _ => exact Bool.noConfusion (show false = true from ho)
          exact ⟨a, b, k, r1, r2, ez', f2 ρ1 _ H1 Ext.refl (hS1.set i (by simp only [RD])) hH1⟩
        | _ => exact f1.elim
      | _ => exact f1.elim
omit G in
theorem sub_asg {o i : Expr} {p : Pos} {env : PySem.Env} (h : plainIxB i = true) : ∀ v, assign (.Subscript o i p) env v = (do
      let ov ← holding [v] (eval o env)
      let iv ← holding [v, ov] (eval i env)
      standAt p
      holding [v, ov, iv] (setItem ov iv v)
      release [v, ov, iv] []) := by
  intro v
  cases i <;> first | rfl | exact Bool.noConfusion (show false = true from h)
theorem s_sput {o i c : CE} {eo ei e : Expr} {p : Pos} (hp : plainIxB ei = true) (ho : PE X eo (tE R Y W (evE P.C o))) (hi : PE X ei (tE R Y W (evE P.C i))) (he : PE X e (tE R Y W (evE P.C c))) : PS X (.Assign [.Subscript eo ei p] e pos) (tS R Y W (evS P (.sput o i c))) := by
  have hs : swapsWithSole [.Subscript eo ei p] e pos.line X.env = pure false := by cases e <;> rfl
  have hw : swappedStores [.Subscript eo ei p] e X.env = pure none := by cases e <;> rfl
  refine ps_imp (ps_asg he (pg_sub ho hi (set_put G.g.hu) (sub_asg hp)) hs hw) fun D σ H ⟨ρ, φ, s, h, hS, hH, f⟩ => ?_
  simp only [evS] at f
  refine ⟨ρ, φ, s, h, hS, hH, FinS.st (h := h) hS f fun v h1 ρ1 u H1 _ e1 hH1 hS1 r1 f1 => ?_⟩
  refine ⟨ρ1, φ, s, h1, hS1, hH1, FinS.st (h := h) hS1 f1 fun x h2 ρ2 w H2 _ e2 hH2 hS2 r2 f2 => ?_⟩
  refine ⟨ρ2, φ, s, h2, hS2, hH2, FinS.st (h := h) hS2 f2 fun y h3 ρ3 z H3 _ e3 hH3 hS3 r3 f3 => ?_⟩
  obtain ⟨h4, e4, f4⟩ := FinS.stO f3
  obtain ⟨H4, pt, ex, hH4⟩ := put_rel hH3 (r2.ext e3) r3 ((r1.ext e2).ext e3) e4 X
  exact ⟨H4, pt, f4 ρ3 σ H4 ex (hS3.ext ex) hH4⟩
theorem s_saug {o i c : CE} {op : Operator} {eo ei e : Expr} {p : Pos} (hp : plainIxB ei = true) (hop : augOp op = true) (ho : PE X eo (tE R Y W (evE P.C o))) (hi : PE X ei (tE R Y W (evE P.C i))) (he : PE X e (tE R Y W (evE P.C c))) : PS X (.AugAssign (.Subscript eo ei p) op e pos) (tS R Y W (evS P (.saug o i op c))) := by
  have hst : ∀ ov iv new, augStore ei ov iv new = (do holding [new, ov, iv] (setItem ov iv new); release [new, ov, iv] []; pure .next) := by
    intro ov iv new
    cases ei <;> first | rfl | exact Bool.noConfusion (show false = true from hp)
  refine ps_imp (ps_augS ho hi (get_got G.g.hu) he (ip_int hop) (set_put G.g.hu) hst) fun D σ H ⟨ρ, φ, s, h, hS, hH, f⟩ => ?_
  simp only [evS] at f
  refine ⟨ρ, φ, s, h, hS, hH, FinS.st (h := h) hS f fun x h1 ρ1 w H1 _ e1 hH1 hS1 r1 f1 => ?_⟩
  refine ⟨ρ1, φ, s, h1, hS1, hH1, FinS.st (h := h) hS1 f1 fun y h2 ρ2 z H2 _ e2 hH2 hS2 r2 f2 => ?_⟩
  obtain ⟨u, eu, f2⟩ := FinS.stO f2
  have r1 := r1.ext e2
  cases x with
  | ref m =>
    obtain ⟨zv, gt, rz⟩ := got_rel hH2 r1 r2 eu
    refine ⟨zv, G.g.hK ▸ gt, ρ2, φ, s, h2, hS2, hH2, FinS.st (h := h) hS2 f2 fun v h3 ρ3 vv H3 _ e3 hH3 hS3 r3 f3 => ?_⟩
    cases u with
    | int a =>
      cases v with
      | int b =>
        have rz := rz.ext e3
        simp only [RD] at rz r3
        obtain ⟨w, ew, f3⟩ := FinS.stO f3
        obtain ⟨h4, e4, f4⟩ := FinS.stO f3
        have ew' : binF [] op (.int a) (.int b) = some w := by
          rw [← ew]
          cases op <;> first | rfl | exact Bool.noConfusion (show false = true from hop)
        obtain ⟨k, rfl⟩ : ∃ k, w = .int k := by
          cases op with
          | Add => cases ew'; exact ⟨_, rfl⟩
          | Sub => cases ew'; exact ⟨_, rfl⟩
          | Mult =>
            have ew' : (if mulOk a b then some (Cl.D.int (a * b)) else none) = some w := ew'
            split at ew' <;> cases ew'
            exact ⟨_, rfl⟩
          | FloorDiv =>
            have ew' : (if divOk b then some (a.fdiv b) else none).map Cl.D.int = some w := ew'
            split at ew' <;> cases ew'
            exact ⟨_, rfl⟩
          | _ => exact Bool.noConfusion (show false = true from hop)
        obtain ⟨H4, pt, ex, hH4⟩ := put_rel hH3 (r1.ext e3) (r2.ext e3) (show RD R ρ3 φ H3 (.int k) (.int k) from by simp only [RD]) e4 X
        exact ⟨a, b, k, rz, r3, ew', H4, pt, f4 ρ3 σ H4 ex (hS3.ext ex) hH4⟩
      | _ => exact f3.elim
    | _ => exact f3.elim
  | _ => cases eu
end
end Cl

namespace Cl
open PySem PySem.Spec PyProof.Rows L2
section
variable {S : Sg} {R : RC} {P : Env2} {Y : XC} {n : Nat} {N : List Str} {cm : Bool} {sc : Scope} {X : Cx} {W : WX} {pos : Pos} (G : Gs S R P Y n N cm sc X W)
include G
theorem s_app {o c : CE} {eo e : Expr} {apos cpos : Pos} (hb : baseOk eo = true) (hl : apos.endLine = cpos.line) (h1 : starEach [e] X.env = (false, eval e X.env) :: starEach [] X.env) (ho : PE X eo (tE R Y W (evE P.C o))) (he : PE X e (tE R Y W (evE P.C c))) :
    PS X (.Expr (.Call (.Attribute eo "append" apos) [e] [] cpos) pos) (tS R Y W (evS P (.app o c))) := by
  have t1 : backTo cpos (starEach [e] X.env) = [(false, eval e X.env)] := by rw [h1]; rfl
  have mt : MtR X "list.append" rAppend := mt_append
  refine ps_imp (ps_expr (pe_bm PySem.F.plainAttrs_list PySem.F.slot_list_append PySem.F.type_list_append mt ho (pa_cons he pa_nil h1) (attr_base hb) (by rw [t1]; rfl) (by rw [hl]; exact beq_self_eq_true _) h1 rfl)) fun D σ H ⟨ρ, φ, s, h, hS, hH, f⟩ => ?_
  simp only [evS] at f
  refine ⟨ρ, φ, s, h, hS, hH, FinS.st (h := h) hS f fun x h1 ρ1 w H1 _ e1 hH1 hS1 r1 f1 => ?_⟩
  by_cases hx : isLstD h1 x = false
  · rw [if_pos hx] at f1; exact f1.elim
  · rw [if_neg hx] at f1
    cases x with
    | ref m =>
      have r1' := r1
      simp only [RD] at r1
      obtain ⟨a, ea, rfl⟩ := r1
      have ty : tyV X.K "list" (.ref a) H1 := by
        unfold isLstD at hx
        cases hc : h1[m]? with
        | none => simp [hc] at hx
        | some cc =>
          have rc := hH1.cells m a cc ea hc
          cases cc with
          | lst xs => obtain ⟨vs, g1, g2⟩ := rc; exact .inl ⟨rfl, vs, SqL.of g1⟩
          | _ => simp [hc] at hx
      refine ⟨ty, ρ1, φ, s, h1, hS1, hH1, FinS.st (h := h) hS1 f1 fun v h2 ρ2 u H2 _ e2 hH2 hS2 r2 f2 => ?_⟩
      have ea2 := e2.get ea
      cases hc : h2[m]? with
      | none => simp only [hc] at f2; exact f2.elim
      | some cc =>
        have rc := hH2.cells m a cc ea2 hc
        cases cc with
        | lst xs =>
          obtain ⟨vs, g1, g2⟩ := rc
          simp only [hc] at f2
          by_cases hz : xs.length < line
          · rw [if_pos hz] at f2
            have ha : a ∈ ρ2 := List.mem_of_getElem? ea2
            have ex : Ext ρ2 ρ2 H2 (upd H2 a (.lst (vs ++ [u]))) := Ext.write ha
            exact ⟨a, vs, u, rfl, rfl, g1, by rw [← g2.len, ← line_eq]; exact hz, f2 ρ2 σ _ ex (hS2.ext ex) (hH2.write ea2 ⟨_, upd_same, (g2.append (RDs.one r2)).write ha⟩)⟩
          · rw [if_neg hz] at f2; exact f2.elim
        | _ => simp only [hc] at f2; exact f2.elim
    | _ => simp [isLstD] at hx
theorem s_raise {i : Nat} {c : CE} {x m : Str} {j : Nat} {p p2 p3 : Pos} (hcm : cm = true) (hx : S.excs[i]? = some x) (hg : isGlB sc x = true) (ha : c.isAbs = true) : PS X (.Raise (some (.Call (.Name x p) [.Constant (.str m) j p2] [] p3)) none pos) (tS R Y W (evS P (.raise i c))) := by
  obtain ⟨g1, g2⟩ := G.g.glb hg
  obtain ⟨Ca, B, nid, iid, bmB, F, q, gC, kC, rs, ey⟩ := G.exc i x hx
  refine ps_imp (ps_raise (G.g.calm hcm) G.g.tk (pmk_own F q gC kC (rs X rfl) g1 (nm_dbg g2).1)) fun D σ H ⟨ρ, φ, s, h, hS, hH, f⟩ => ?_
  simp only [evS, ha, if_true] at f
  exact f ρ _ _ σ H Ext.refl hS hH ⟨ey.symm, rfl⟩
/-! ### try -/
theorem Gs.tr {W' : WX} (pn : List (Addr × Obj)) (xe : Value → Shared → Prop) (tk : Takes (X.tr pn xe) W') (po : PassesOwn (model X.prog X.w) X.A X.env xe) : Gs S R P Y n N cm sc (X.tr pn xe) W' :=
  ⟨⟨G.g.hK, G.g.hN, G.g.nd, G.g.sees, G.g.fnc, G.g.calm, tk, G.g.hu, G.g.glob, G.g.blt, G.g.room, G.g.calls⟩, G.hsc, G.hfn, fun _ => po, G.stk, G.frm, G.exc, G.sub⟩
theorem Gs.suite (a : Addr) (pn : List (Addr × Obj)) : Gs S R P Y n N false sc (X.suite a pn) W0 :=
  ⟨⟨G.g.hK, G.g.hN, G.g.nd, G.g.sees, G.g.fnc, fun z => Bool.noConfusion z, takes0, G.g.hu, G.g.glob, G.g.blt, fun z => Bool.noConfusion z, G.g.calls⟩, G.hsc, G.hfn, fun z => Bool.noConfusion z, G.stk, G.frm, G.exc, G.sub⟩
theorem s_try {body suite : CSs} {i : Nat} {x : Str} {xs : List Stmt} {y0 : Stmt} {ys : List Stmt} {np p2 : Pos} (hx : S.excs[i]? = some x) (hg : isGlB sc x = true)
    (hb : ∀ {X' W'}, Gs S R P Y n N cm sc X' W' → PSs X' xs (tS R Y W' (evSs P body))) (hs : ∀ {X' W'}, Gs S R P Y n N false sc X' W' → PSs X' (y0 :: ys) (tS R Y W' (evSs P suite))) :
    PS X (.Try xs [.ExceptHandler (some (.Name x np)) none (y0 :: ys) p2] [] [] pos) (tS R Y W (evS P (.try_ body i suite))) := by
  obtain ⟨g1, g2⟩ := G.g.glb hg
  obtain ⟨Ca, B, nid, iid, bmB, F, q, gC, kC, rs, ey⟩ := G.exc i x hx
  refine ps_imp (ps_try_only (c := .ref Ca) (Wout := W) (tb := fun W' => tS R Y W' (evSs P body)) (ts := fun _ _ _ => tS R Y W0 (evSs P suite)) G.stk G.frm ⟨g1, (nm_dbg g2).1, .inl gC⟩ G.g.tk (fun W' pn xe tk po => hb (G.tr pn xe tk po)) fun a oe cls d pn _ _ => hs (G.suite a _)) fun D σ H ⟨ρ, φ, s, h, hS, hH, f⟩ => ?_
  simp only [evS] at f
  refine ⟨ρ, φ, s, h, hS, hH, ?_⟩
  cases r : evSs P body s h with
  | ok k h' => rw [r] at f; cases k <;> exact f
  | stuck => rw [r] at f; exact f
  | exc y c' h' =>
    rw [r] at f
    intro ρ1 cls dd σ1 H1 e1 hS1 hH1 rx
    have ecls : cls = Y.cls y.cls := rx.1
    cases sb : P.sub y.cls i with
    | none => simp only [sb] at f; exact f.elim
    | some b =>
      refine ⟨b, by rw [ecls, ← ey]; exact G.sub _ _ _ sb, fun hb1 a na => ?_, fun hb1 => ?_⟩
      · subst hb1
        simp only [sb] at f
        refine ⟨ρ1, φ, c', h', hS1, hH1, ?_⟩
        cases r2 : evSs P suite c' h' with
        | ok k h2 => rw [r2] at f; cases k <;> exact FinS.ext (r := SRes.ok _ h2) f e1
        | stuck => rw [r2] at f; exact f
        | exc _ _ _ => rw [r2] at f; exact f.elim
      · subst hb1
        simp only [sb] at f
        exact f ρ1 cls dd σ1 H1 e1 hS1 hH1 rx
/-! ### assignments -/
omit G in
theorem sw_none {e : Expr} {l : Nat} {env : PySem.Env} (h : (match e with | .ListComp _ _ _ _ => false | .SetComp _ _ _ _ => false | .DictComp _ _ _ _ _ => false | _ => true) = true) (t : Option Expr) : swapsWith e t l env = pure false := by
  cases e <;> first | rfl | exact Bool.noConfusion (show false = true from h)
theorem s_setP {i : Nat} {x : Str} {c : CE} {e : Expr} {p : Pos} (h : chkT N sc (.v i) (.Name x p) = true) (he : PE X e (tE R Y W (evE P.C c))) (hs : swapsWith e (some (.Name x p)) pos.line X.env = pure false) : PS X (.Assign [.Name x p] e pos) (tS R Y W (evS P (.asg (.v i) c))) := by
  simp only [chkT, Bool.and_eq_true, Bool.or_eq_true, decide_eq_true_eq] at h
  obtain ⟨⟨h1, h2⟩, h3⟩ := h
  have hl : Loc X.env.scope x := h2.elim (fun z => .inl (G.g.sees.loc x z)) fun z => .inr (G.g.sees.cell x z)
  have hf : X.fn x = true ∨ X.env.scope.names.lookup x = some .local := h2.elim (fun z => .inr (G.g.sees.loc x z)) fun z => .inl (G.g.fnc x z)
  refine ps_imp (ps_set (by rw [G.g.hN]; exact G.g.nd) (by rw [G.g.hN]; exact h1) hl he hs hf) fun D σ H ⟨ρ, φ, s, h, hS, hH, f⟩ => ?_
  simp only [evS] at f
  refine ⟨ρ, φ, s, h, hS, hH, FinS.st (h := h) hS f fun d h1 ρ1 v H1 _ e1 hH1 hS1 r1 f1 => ?_⟩
  obtain ⟨c', ec, f2⟩ := FinS.stO f1
  simp only [asgT, Option.some.injEq] at ec
  subst ec
  exact f2 ρ1 _ H1 Ext.refl (hS1.set i r1) hH1
/-! readings of new lists -/
omit G in
theorem rd_lst {f : EvF} (hl : ∀ s h d h', f s h = .ok d h' → ∃ xs, d = .lst xs) {σ : L2.St} {H : Hp} {Q : VK} (q : tE R Y W f σ H Q) : tL R Y W f σ H Q := by
  obtain ⟨ρ, φ, s, h, hS, hH, k⟩ := q
  refine ⟨ρ, φ, s, h, hS, hH, ?_, fun d h' e => hl s h d h' e⟩
  cases q : f s h with
  | stuck => rw [q] at k; exact k.elim
  | exc x h' => rw [q] at k; exact k
  | ok d h' =>
    obtain ⟨xs, rfl⟩ := hl s h d h' q
    rw [q] at k
    intro ρ' p ws H' e1 rH hp np ep rd
    refine k ρ' _ H' e1 (rH.weak fun a ha => by simp [ha]) ?_
    simp only [RD]
    exact ⟨p, ws, rfl, ⟨ep, (rH.phi p (by simp)).2, np⟩, rd.weak fun a ha => by simp [ha]⟩
omit G in
theorem rd_cell {C : Caller} {a : CE} {σ : L2.St} {H : Hp} {Q : VK} (q : tE R Y W (evE C (.cell a)) σ H Q) : tL R Y W (evE C a) σ H Q := by
  obtain ⟨ρ, φ, s, h, hS, hH, k⟩ := q
  simp only [evE] at k
  refine ⟨ρ, φ, s, h, hS, hH, ?_, fun d h' e => ?_⟩
  · cases q : evE C a s h with
    | stuck => rw [q] at k; exact k.elim
    | exc x h' => rw [q] at k; exact k
    | ok d h' =>
      rw [q] at k
      cases d with
      | lst xs =>
        intro ρ' p ws H' e1 rH hp np ep rd
        refine k (ρ' ++ [p]) _ H' (e1.cell hp) (rH.cell np ⟨ws, ep, rd⟩) ?_
        simp only [RD]
        exact ⟨p, by rw [← rH.len]; simp, rfl⟩
      | _ => exact k.elim
  · rw [e] at k
    cases d with
    | lst xs => exact ⟨xs, rfl⟩
    | _ => exact k.elim
omit G in
theorem comp_lst {C : Caller} {elt cond : CE} {t : Tg} {it : CI} {own : List Nat} : ∀ s h d h', evE C (.comp elt t it cond own) s h = .ok d h' → ∃ xs, d = .lst xs := by
  intro s hh d h' q
  simp only [evE] at q
  cases z : evI C it s hh with
  | ok ds h1 =>
    rw [z] at q
    simp only [ERes.bind] at q
    split at q
    · cases z2 : compF (evE C elt) (condR cond.isAbs (evE C cond)) t ds.g (cwipe s own) ds.xs h1 with
      | ok ys h2 => rw [z2] at q; simp only [lmap, ERes.ok.injEq] at q; exact ⟨_, q.1.symm⟩
      | exc _ _ => rw [z2] at q; cases q
      | stuck => rw [z2] at q; cases q
    · cases q
  | exc _ _ => rw [z] at q; cases q
  | stuck => rw [z] at q; cases q
/-- x = [..] on one line -/
theorem s_setC {i : Nat} {x : Str} {c : CE} {elt cond : CE} {t : Tg} {it : CI} {own : List Nat} {e : Expr} {p : Pos} (h1 : N[i]? = some x) (h2 : sc.names.lookup x = some .local) (hc : chkE S N sc cm (.comp elt t it cond own) e = true)
    (hs : swapsWith e (some (.Name x p)) pos.line X.env = pure true) (hr : ∀ σ H Q, tE R Y W (evE P.C c) σ H Q → tL R Y W (evE P.C (.comp elt t it cond own)) σ H Q) : PS X (.Assign [.Name x p] e pos) (tS R Y W (evS P (.asg (.v i) c))) := by
  unfold chkE at hc
  split at hc
  · rename_i y tg iter ifs a scope p2
    simp only [Bool.and_eq_true, decide_eq_true_eq] at hc
    obtain ⟨⟨⟨⟨⟨⟨⟨⟨⟨k1, rfl⟩, k2⟩, k3⟩, k4⟩, k5⟩, k6⟩, k6b⟩, k7⟩, k8⟩ := hc
    have b0 := blkOk_by k4
    have ok : BlkOk X.N X.env.scope scope (own.filterMap fun i => N[i]?.map fun x => (x, i)) := ⟨b0.kind, b0.uniq, by rw [G.g.hN]; exact b0.ix, fun y hy e => by
      rcases b0.free y hy e with q | q
      · exact .inl (G.g.sees.cell _ q)
      · exact G.g.sees.free _ q, by rw [G.g.hN]; exact b0.own⟩
    have ht : ∀ (s : Shared) (H : Hp) (Ca : Addr) (cl : List (Str × Addr)) (fp : List Addr), PTs (X.blk s H scope (compEnvC scope cl Ca X.env) fp) ifs (tT R Y W0 (condR cond.isAbs (evE P.C cond))) := fun s H Ca cl fp => by
      split at k7
      · rw [k7]; exact ts_nil
      · rw [Bool.and_eq_true, Bool.not_eq_true'] at k7
        rw [k7.1]; exact ts_one ((snd cond).t (G.g.blk s H Ca cl fp) k7.2)
      · cases k7
    refine ps_imp (ps_setLc (i := i) (G.g.calm k1) (by rw [G.g.hN]; exact G.g.nd) (by rw [G.g.hN]; exact h1) (G.g.sees.loc x h2) hs ((sndi it).i G.g k3) ok (fun s H Ca cl fp => g_tg (G.g.blk s H Ca cl fp) (G.g.calm k1) k6) ht (fun s H Ca cl fp => (snd elt).e (G.g.blk s H Ca cl fp) k8) (notset_fold k2)) fun D σ H ⟨ρ, φ, s, h, hS, hH, f⟩ => ?_
    simp only [evS] at f
    rw [k5]
    refine lc_read k6b ?_
    have : (fun c h => (evI P.C it c h).bind fun d h => if d.xs.length ≤ line then lmap [] (compF (evE P.C elt) (condR cond.isAbs (evE P.C cond)) t d.g (cwipe c own) d.xs h) else .stuck) = evE P.C (.comp elt t it cond own) := by
      funext c h
      simp only [evE]
    rw [this]
    refine hr σ H _ ⟨ρ, φ, s, h, hS, hH, FinS.st (h := h) hS f fun d h1 ρ1 v H1 _ e1 hH1 hS1 r1 f1 => ?_⟩
    obtain ⟨c', ec, f2⟩ := FinS.stO f1
    simp only [asgT, Option.some.injEq] at ec
    subst ec
    exact f2 ρ1 _ H1 Ext.refl (hS1.set i r1) hH1
  · cases hc
theorem s_setT {ts : Tgs} {c : CE} {es : List Expr} {e : Expr} {k : Nat} {p : Pos} (hcm : cm = true) (h : chkTs N sc ts es = true) (he : PE X e (tE R Y W (evE P.C c))) (hw : swappedStores [.Tuple es k p] e X.env = pure none) : PS X (.Assign [.Tuple es k p] e pos) (tS R Y W (evS P (.asg (.t ts) c))) := by
  have hs : swapsWithSole [.Tuple es k p] e pos.line X.env = pure false := by cases e <;> rfl
  refine ps_imp (ps_asg he (g_tg G.g (G.g.calm hcm) (t := .t ts) (by simpa only [chkT] using h)) hs hw) fun D σ H ⟨ρ, φ, s, h, hS, hH, f⟩ => ?_
  simp only [evS] at f
  refine ⟨ρ, φ, s, h, hS, hH, FinS.st (h := h) hS f fun d h1 ρ1 v H1 _ e1 hH1 hS1 r1 f1 => ?_⟩
  obtain ⟨c', ec, f2⟩ := FinS.stO f1
  exact ⟨ρ1, φ, s, h1, d, c', hS1, hH1, r1, ec, fun σ' hS' _ => f2 ρ1 σ' H1 Ext.refl hS' hH1⟩
theorem s_par2 {i j : Nat} {es : CEs} {x y : Str} {a b : Expr} {px py pt p2 : Pos} {kt k2 : Nat} (hcm : cm = true) (h1 : N[i]? = some x) (h2 : N[j]? = some y) (hij : i ≠ j) (hx : sc.names.lookup x = some .local) (hy : sc.names.lookup y = some .local) (ha : PA X [a, b] (tA R Y W (evEs P.C es)))
    (hw : swappedStores [.Tuple [.Name x px, .Name y py] kt pt] (.Tuple [a, b] k2 p2) X.env = pure (some [x, y])) : PS X (.Assign [.Tuple [.Name x px, .Name y py] kt pt] (.Tuple [a, b] k2 p2) pos) (tS R Y W (evS P (.asg (.t (.cons (.v i) (.cons (.v j) .nil))) (.tup es)))) := by
  refine ps_imp (ps_par (G.g.calm hcm) (by rw [G.g.hN]; exact G.g.nd) (by rw [G.g.hN]; exact h1) (by rw [G.g.hN]; exact h2) hij (G.g.sees.loc x hx) (G.g.sees.loc y hy) ha hw) fun D σ H ⟨ρ, φ, s, h, hS, hH, f⟩ => ?_
  simp only [evS, evE] at f
  have f' : FinS R Y W D ρ φ H ((evEs P.C es s h).st s fun ds h => stO (asgT (.t (.cons (.v i) (.cons (.v j) .nil))) (.tup ds) s) fun σ' => .ok (.nx σ') h) := by
    cases q : evEs P.C es s h <;> (rw [q] at f; exact f)
  refine ⟨ρ, φ, s, h, hS, hH, FinS.st (h := h) hS f' fun ds h1 ρ1 vs H1 _ e1 hH1 hS1 r1 f1 => ?_⟩
  obtain ⟨c', ec, f2⟩ := FinS.stO f1
  rcases ds with _ | ⟨d1, _ | ⟨d2, _ | ⟨d3, ds⟩⟩⟩
  · simp [asgT, asgTs] at ec
  · simp [asgT, asgTs] at ec
  · simp only [asgT, asgTs, Option.some.injEq] at ec
    subst ec
    simp only [RDs] at r1
    obtain ⟨v1, vs1, rfl, q1, v2, vs2, rfl, q2, rfl⟩ := r1
    exact ⟨v1, v2, rfl, f2 ρ1 _ H1 Ext.refl ((hS1.set i q1).set j q2) hH1⟩
  · simp [asgT, asgTs] at ec
theorem s_par3 {i j l : Nat} {es : CEs} {x y z : Str} {a b c : Expr} {px py pz pt p2 : Pos} {kt k2 : Nat} (hcm : cm = true) (h1 : N[i]? = some x) (h2 : N[j]? = some y) (h3 : N[l]? = some z) (hij : i ≠ j) (hil : i ≠ l) (hjl : j ≠ l) (hx : sc.names.lookup x = some .local) (hy : sc.names.lookup y = some .local) (hz : sc.names.lookup z = some .local)
    (ha : PA X [a, b, c] (tA R Y W (evEs P.C es)))
    (hw : swappedStores [.Tuple [.Name x px, .Name y py, .Name z pz] kt pt] (.Tuple [a, b, c] k2 p2) X.env = pure (some [x, y, z])) : PS X (.Assign [.Tuple [.Name x px, .Name y py, .Name z pz] kt pt] (.Tuple [a, b, c] k2 p2) pos) (tS R Y W (evS P (.asg (.t (.cons (.v i) (.cons (.v j) (.cons (.v l) .nil)))) (.tup es)))) := by
  refine ps_imp (ps_par3 (G.g.calm hcm) (by rw [G.g.hN]; exact G.g.nd) (by rw [G.g.hN]; exact h1) (by rw [G.g.hN]; exact h2) (by rw [G.g.hN]; exact h3) hij hil hjl (G.g.sees.loc x hx) (G.g.sees.loc y hy) (G.g.sees.loc z hz) ha hw) fun D σ H ⟨ρ, φ, s, h, hS, hH, f⟩ => ?_
  simp only [evS, evE] at f
  have f' : FinS R Y W D ρ φ H ((evEs P.C es s h).st s fun ds h => stO (asgT (.t (.cons (.v i) (.cons (.v j) (.cons (.v l) .nil)))) (.tup ds) s) fun σ' => .ok (.nx σ') h) := by
    cases q : evEs P.C es s h <;> (rw [q] at f; exact f)
  refine ⟨ρ, φ, s, h, hS, hH, FinS.st (h := h) hS f' fun ds h1 ρ1 vs H1 _ e1 hH1 hS1 r1 f1 => ?_⟩
  obtain ⟨c', ec, f2⟩ := FinS.stO f1
  rcases ds with _ | ⟨d1, _ | ⟨d2, _ | ⟨d3, _ | ⟨d4, ds⟩⟩⟩⟩
  · simp [asgT, asgTs] at ec
  · simp [asgT, asgTs] at ec
  · simp [asgT, asgTs] at ec
  · simp only [asgT, asgTs, Option.some.injEq] at ec
    subst ec
    simp only [RDs] at r1
    obtain ⟨v1, vs1, rfl, q1, v2, vs2, rfl, q2, v3, vs3, rfl, q3, rfl⟩ := r1
    exact ⟨v1, v2, v3, rfl, f2 ρ1 _ H1 Ext.refl (((hS1.set i q1).set j q2).set l q3) hH1⟩
  · simp [asgT, asgTs] at ec
end
end Cl

namespace Cl
open PySem PySem.Spec PyProof.Rows L2
/-! ### do the statements fit -/
/-- is a comprehension stored while its frame still stands (0: no comprehension; 1: yes; 2: no; 3: not served) -/
def lcMode (sc : Scope) (x : Str) (p : Pos) : Expr → Nat
  | .ListComp _ _ s q => if decide (sc.names.lookup x = some .local) && (p.line == q.line) && !(s.names.any fun (n, k) => n == x && (k == .local || k == .cell)) then 1 else 2
  | .SetComp _ _ _ _ => 3
  | .DictComp _ _ _ _ _ => 3
  | _ => 0
def notStar : Expr → Bool
  | .Starred _ _ => false
  | _ => true
/-- a, b = x, y: 0 as a tuple, 2 and 3 stored from the right, 9 not served -/
def parMode (sc : Scope) : List Expr → Expr → Nat
  | [.Name x px, .Name y py], .Tuple [a, b] _ _ =>
    if notStar a && notStar b then
      if decide (sc.names.lookup x = some .local) && decide (sc.names.lookup y = some .local) && (py.line == px.line) && decide (x ≠ y) then
        if foldedForSure 8 a && foldedForSure 8 b then 0 else if constantsAlone 8 a && constantsAlone 8 b then 9 else 2
      else if !decide (sc.names.lookup x = some .local) || !decide (sc.names.lookup y = some .local) then 0 else 9
    else 9
  | [.Name x px, .Name y py, .Name z pz], .Tuple [a, b, c] _ _ =>
    if notStar a && notStar b && notStar c then
      if decide (sc.names.lookup x = some .local) && decide (sc.names.lookup y = some .local) && decide (sc.names.lookup z = some .local) && (py.line == px.line) && (pz.line == px.line) && decide (x ≠ y) && decide (x ≠ z) && decide (y ≠ z) then
        if foldedForSure 8 a && foldedForSure 8 b && foldedForSure 8 c then 0 else if constantsAlone 8 a && constantsAlone 8 b && constantsAlone 8 c then 9 else 3
      else if !decide (sc.names.lookup x = some .local) || !decide (sc.names.lookup y = some .local) || !decide (sc.names.lookup z = some .local) then 0 else 9
    else 9
  | es, .Tuple vs _ _ => if !(es.length == 2 || es.length == 3) || vs.length != es.length then 0 else 9
  | _, _ => 0
theorem star_no {a : Expr} : notStar a = true → (match a with | .Starred _ _ => true | _ => false) = false := by
  intro h
  cases a <;> first | rfl | exact Bool.noConfusion (show false = true from h)
theorem ne_beq {x y : Str} (h : x ≠ y) : (y == x) = false := by simpa using Ne.symm h
theorem par0 {sc : Scope} {es : List Expr} {e : Expr} {k : Nat} {p : Pos} {env : PySem.Env} (hsc : env.scope = sc) (hk : sc.kind = .function) (h : parMode sc es e = 0) : swappedStores [.Tuple es k p] e env = pure none := by
  have bk : env.blockKind = .function := by unfold Env.blockKind; rw [hsc, hk]; rfl
  have kn : ∀ x, env.kindOf x = sc.names.lookup x := fun x => by unfold Env.kindOf; rw [hsc]
  unfold parMode at h
  split at h
  · rename_i x px y py a b k2 p2
    split at h
    · rename_i hs
      split at h
      · rename_i hc
        split at h
        · rename_i hf
          simp only [Bool.and_eq_true, decide_eq_true_eq, beq_iff_eq] at hc hf hs
          obtain ⟨⟨⟨c1, c2⟩, c3⟩, c4⟩ := hc
          have s1 := star_no hs.1
          have s2 := star_no hs.2
          unfold swappedStores
          simp [bk, kn, c1, c2, c3, Ne.symm c4, c4, ne_beq c4, hf.1, hf.2, Expr.pos, s1, s2, List.eraseDups, List.eraseDupsBy, List.eraseDupsBy.loop]
        · split at h <;> cases h
      · split at h
        · rename_i hn
          simp only [Bool.and_eq_true] at hs
          have s1 := star_no hs.1
          have s2 := star_no hs.2
          unfold swappedStores
          rw [Bool.or_eq_true, Bool.not_eq_true', Bool.not_eq_true', decide_eq_false_iff_not, decide_eq_false_iff_not] at hn
          by_cases hx : sc.names.lookup x = some .local
          · have hy : ¬ sc.names.lookup y = some .local := hn.resolve_left fun z => z hx
            simp [bk, kn, hx, hy, Expr.pos, s1, s2, List.filterMap_cons]
          · by_cases hy : sc.names.lookup y = some .local ∧ py.line = px.line
            · simp [bk, kn, hx, hy.1, hy.2, Expr.pos, s1, s2, List.filterMap_cons]
            · simp [bk, kn, hx, hy, Expr.pos, s1, s2, List.filterMap_cons]
        · cases h
    · cases h
  · rename_i x px y py z pz a b c k2 p2
    split at h
    · rename_i hs
      split at h
      · rename_i hc
        split at h
        · rename_i hf
          simp only [Bool.and_eq_true, decide_eq_true_eq, beq_iff_eq] at hc hf hs
          obtain ⟨⟨⟨⟨⟨⟨⟨c1, c2⟩, c3⟩, c4⟩, c5⟩, c6⟩, c7⟩, c8⟩ := hc
          have s1 := star_no hs.1.1
          have s2 := star_no hs.1.2
          have s3 := star_no hs.2
          unfold swappedStores
          simp [bk, kn, c1, c2, c3, c4, c5, c6, c7, c8, Ne.symm c6, Ne.symm c7, Ne.symm c8, ne_beq c6, ne_beq c7, ne_beq c8, hf.1.1, hf.1.2, hf.2, Expr.pos, s1, s2, s3, List.eraseDups, List.eraseDupsBy, List.eraseDupsBy.loop]
        · split at h <;> cases h
      · split at h
        · rename_i hn
          simp only [Bool.and_eq_true] at hs
          have s1 := star_no hs.1.1
          have s2 := star_no hs.1.2
          have s3 := star_no hs.2
          unfold swappedStores
          simp only [Bool.or_eq_true, Bool.not_eq_true', decide_eq_false_iff_not] at hn
          by_cases hx : sc.names.lookup x = some .local <;> by_cases hy : sc.names.lookup y = some .local ∧ py.line = px.line <;> by_cases hz : sc.names.lookup z = some .local ∧ pz.line = px.line <;>
            first
              | (exfalso; exact hn.elim (fun q => q.elim (fun q => q hx) fun q => q hy.1) fun q => q hz.1)
              | simp [bk, kn, hx, hy, hz, Expr.pos, s1, s2, s3, List.filterMap_cons]
        · cases h
    · cases h
  · rename_i vs k2 p2 _ _
    split at h
    · rename_i hc
      unfold swappedStores
      have hc' : (!(es.length == 2 || es.length == 3) || vs.length != es.length || env.blockKind != .function) = true := by rw [hc]; rfl
      simp only [hc', if_true]
    · cases h
  · rename_i hn1 hn2 hn
    cases e <;> first | rfl | exact absurd rfl (hn _ _ _) | exact absurd rfl (hn2 _ _ _) | exact absurd rfl (hn1 _ _ _)
theorem par2 {sc : Scope} {es : List Expr} {e : Expr} {k : Nat} {p : Pos} {env : PySem.Env} (hsc : env.scope = sc) (hk : sc.kind = .function) (h : parMode sc es e = 2) :
    ∃ x px y py a b k2 p2, es = [.Name x px, .Name y py] ∧ e = .Tuple [a, b] k2 p2 ∧ sc.names.lookup x = some .local ∧ sc.names.lookup y = some .local ∧ x ≠ y ∧ swappedStores [.Tuple es k p] e env = pure (some [x, y]) := by
  have bk : env.blockKind = .function := by unfold Env.blockKind; rw [hsc, hk]; rfl
  have kn : ∀ x, env.kindOf x = sc.names.lookup x := fun x => by unfold Env.kindOf; rw [hsc]
  unfold parMode at h
  split at h
  · rename_i x px y py a b k2 p2
    split at h
    · rename_i hs
      split at h
      · rename_i hc
        split at h
        · cases h
        · rename_i hf
          split at h
          · cases h
          · rename_i hg
            simp only [Bool.and_eq_true, decide_eq_true_eq, beq_iff_eq] at hc hf hs hg
            obtain ⟨⟨⟨c1, c2⟩, c3⟩, c4⟩ := hc
            have s1 := star_no hs.1
            have s2 := star_no hs.2
            refine ⟨x, px, y, py, a, b, k2, p2, rfl, rfl, c1, c2, c4, ?_⟩
            unfold swappedStores
            simp [bk, kn, c1, c2, c3, Ne.symm c4, c4, ne_beq c4, hf, hg, Expr.pos, s1, s2, List.eraseDups, List.eraseDupsBy, List.eraseDupsBy.loop]
            intro q
            exfalso
            rcases q with q | q
            · cases a <;> first | exact Bool.noConfusion (show false = true from q) | exact Bool.noConfusion (show false = true from hs.1)
            · cases b <;> first | exact Bool.noConfusion (show false = true from q) | exact Bool.noConfusion (show false = true from hs.2)
      · split at h <;> cases h
    · cases h
  · split at h
    · split at h
      · split at h
        · cases h
        · split at h <;> cases h
      · split at h <;> cases h
    · cases h
  · split at h <;> cases h
  · cases h
theorem par3 {sc : Scope} {es : List Expr} {e : Expr} {k : Nat} {p : Pos} {env : PySem.Env} (hsc : env.scope = sc) (hk : sc.kind = .function) (h : parMode sc es e = 3) :
    ∃ x px y py z pz a b c k2 p2, es = [.Name x px, .Name y py, .Name z pz] ∧ e = .Tuple [a, b, c] k2 p2 ∧ sc.names.lookup x = some .local ∧ sc.names.lookup y = some .local ∧ sc.names.lookup z = some .local ∧ x ≠ y ∧ x ≠ z ∧ y ≠ z ∧ swappedStores [.Tuple es k p] e env = pure (some [x, y, z]) := by
  have bk : env.blockKind = .function := by unfold Env.blockKind; rw [hsc, hk]; rfl
  have kn : ∀ x, env.kindOf x = sc.names.lookup x := fun x => by unfold Env.kindOf; rw [hsc]
  unfold parMode at h
  split at h
  · split at h
    · split at h
      · split at h
        · cases h
        · split at h <;> cases h
      · split at h <;> cases h
    · cases h
  · rename_i x px y py z pz a b c k2 p2
    split at h
    · rename_i hs
      split at h
      · rename_i hc
        split at h
        · cases h
        · rename_i hf
          split at h
          · cases h
          · rename_i hg
            simp only [Bool.and_eq_true, decide_eq_true_eq, beq_iff_eq] at hc hf hs hg
            obtain ⟨⟨⟨⟨⟨⟨⟨c1, c2⟩, c3⟩, c4⟩, c5⟩, c6⟩, c7⟩, c8⟩ := hc
            have s1 := star_no hs.1.1
            have s2 := star_no hs.1.2
            have s3 := star_no hs.2
            refine ⟨x, px, y, py, z, pz, a, b, c, k2, p2, rfl, rfl, c1, c2, c3, c6, c7, c8, ?_⟩
            have hf' : foldedForSure 8 a = true → foldedForSure 8 b = true → foldedForSure 8 c = false := fun q1 q2 => by
              cases q3 : foldedForSure 8 c with
              | false => rfl
              | true => exact absurd ⟨⟨q1, q2⟩, q3⟩ hf
            have hg' : constantsAlone 8 a = true → constantsAlone 8 b = true → constantsAlone 8 c = false := fun q1 q2 => by
              cases q3 : constantsAlone 8 c with
              | false => rfl
              | true => exact absurd ⟨⟨q1, q2⟩, q3⟩ hg
            unfold swappedStores
            have e1 : (foldedForSure 8 a && (foldedForSure 8 b && foldedForSure 8 c)) = false := by
              cases q1 : foldedForSure 8 a <;> cases q2 : foldedForSure 8 b <;> simp_all
            have e2 : (constantsAlone 8 a && (constantsAlone 8 b && constantsAlone 8 c)) = false := by
              cases q1 : constantsAlone 8 a <;> cases q2 : constantsAlone 8 b <;> simp_all
            simp [bk, kn, c1, c2, c3, c4, c5, c6, c7, c8, Ne.symm c6, Ne.symm c7, Ne.symm c8, ne_beq c6, ne_beq c7, ne_beq c8, Expr.pos, s1, s2, s3, List.eraseDups, List.eraseDupsBy, List.eraseDupsBy.loop, -Bool.and_eq_true, e1, e2]
            intro q
            exfalso
            rcases q with q | q | q
            · cases a <;> first | exact Bool.noConfusion (show false = true from q) | exact Bool.noConfusion (show false = true from hs.1.1)
            · cases b <;> first | exact Bool.noConfusion (show false = true from q) | exact Bool.noConfusion (show false = true from hs.1.2)
            · cases c <;> first | exact Bool.noConfusion (show false = true from q) | exact Bool.noConfusion (show false = true from hs.2)
      · split at h <;> cases h
    · cases h
  · split at h <;> cases h
  · cases h
end Cl

namespace Cl
open PySem PySem.Spec PyProof.Rows L2
def compOf : CE → CE
  | .cell c => c
  | c => c
def isCompB : CE → Bool
  | .comp _ _ _ _ _ => true
  | _ => false
mutual
def chkS (S : Sg) (N : List Str) (sc : Scope) : Bool → CS → Stmt → Bool
  | cm, .asg t c, st => match st with
    | .Assign [.Name x p] e _ => (match t with | .v _ => true | _ => false) && chkT N sc t (.Name x p) && (match lcMode sc x p e with
      | 0 => chkE S N sc cm c e
      | 1 => isCompB (compOf c) && chkE S N sc cm (compOf c) e
      | 2 => chkE S N sc cm c e
      | _ => false)
    | .Assign [.Tuple es _ _] e _ => cm && (match t with | .t ts => chkTs N sc ts es | _ => false) && chkE S N sc cm c e && (match parMode sc es e with | 0 => true | 2 => true | 3 => true | _ => false)
    | _ => false
  | cm, .aug i op c, st => match st with
    | .AugAssign (.Name x _) o e _ => decide (op = o) && decide (N[i]? = some x) && (decide (sc.names.lookup x = some .local) || decide (sc.names.lookup x = some .cell)) && augOp op && chkE S N sc cm c e
    | _ => false
  | cm, .sput o i c, st => match st with
    | .Assign [.Subscript eo ei _] e _ => plainIxB ei && chkE S N sc cm o eo && chkE S N sc cm i ei && chkE S N sc cm c e
    | _ => false
  | cm, .saug o i op c, st => match st with
    | .AugAssign (.Subscript eo ei _) q e _ => decide (op = q) && plainIxB ei && augOp op && chkE S N sc cm o eo && chkE S N sc cm i ei && chkE S N sc cm c e
    | _ => false
  | cm, .expr c, st => match st with
    | .Expr e _ => (match e with | .ListComp _ _ _ _ => false | .SetComp _ _ _ _ => false | .DictComp _ _ _ _ _ => false | _ => true) && chkE S N sc cm c e
    | _ => false
  | cm, .app o c, st => match st with
    | .Expr (.Call (.Attribute eo m ap) [e] [] cp) _ => decide (m = "append") && baseOk eo && decide (ap.endLine = cp.line) && chkE S N sc cm o eo && chkE S N sc cm c e
    | _ => false
  | cm, .ifs t a b, st => match st with
    | .If e xs ys _ => chkE S N sc cm t e && chkSs S N sc cm a xs && chkSs S N sc cm b ys
    | _ => false
  | cm, .for_ t it a, st => match st with
    | .For tg e xs [] _ => cm && chkT N sc t tg && notSet e && chkI S N sc cm it tg e && chkSs S N sc cm a xs
    | _ => false
  | cm, .whl t a, st => match st with
    | .While e xs [] _ => cm && chkE S N sc cm t e && chkSs S N sc cm a xs
    | _ => false
  | cm, .ret c, st => match st with
    | .Return (some e) _ => chkE S N sc cm c e
    | _ => false
  | _, .retN, st => match st with
    | .Return none _ => true
    | _ => false
  | _, .brk, st => match st with
    | .Break _ => true
    | _ => false
  | _, .pass, st => match st with
    | .Pass _ => true
    | _ => false
  | cm, .raise i c, st => match st with
    | .Raise (some (.Call (.Name x _) [.Constant (.str _) _ _] [] _)) none _ => cm && decide (S.excs[i]? = some x) && isGlB sc x && c.isAbs
    | _ => false
  | cm, .try_ body i suite, st => match st with
    | .Try xs [.ExceptHandler (some (.Name x _)) none (y0 :: ys) _] [] [] _ => decide (S.excs[i]? = some x) && isGlB sc x && chkSs S N sc cm body xs && chkSs S N sc false suite (y0 :: ys)
    | _ => false
  | _, .kill _, _ => false
  | _, .scope _, _ => false
def chkSs (S : Sg) (N : List Str) (sc : Scope) : Bool → CSs → List Stmt → Bool
  | _, .nil, sts => match sts with
    | [] => true
    | _ => false
  | cm, .cons c cs, sts => (match c with | .kill _ => chkSs S N sc cm cs sts | _ => false) || (match cs with | .nil => chkSc S N sc cm c sts | _ => false) || (match sts with
    | st :: sts => chkS S N sc cm c st && chkSs S N sc cm cs sts
    | [] => false)
def chkSc (S : Sg) (N : List Str) (sc : Scope) : Bool → CS → List Stmt → Bool
  | cm, .scope ss, sts => chkSs S N sc cm ss sts
  | _, _, _ => false
end
section
variable {S : Sg} {R : RC} {P : Env2} {Y : XC} {n : Nat}
theorem chk_tup {N : List Str} {sc : Scope} {cm : Bool} {c : CE} {es : List Expr} {k : Nat} {p : Pos} (h : chkE S N sc cm c (.Tuple es k p) = true) : ∃ cs, c = .tup cs ∧ chkEs S N sc cm cs es = true := by
  cases c with
  | tup cs =>
    simp only [chkE, Bool.and_eq_true, decide_eq_true_eq] at h
    exact ⟨cs, rfl, h.2⟩
  | bi b args => cases b <;> exact Bool.noConfusion (show false = true from h)
  | cell c =>
    exfalso
    have h' : (freshC c && chkE S N sc cm c (.Tuple es k p)) = true := h
    rw [Bool.and_eq_true] at h'
    cases c with
    | bi b args => cases b <;> exact Bool.noConfusion (show false = true from h'.2)
    | _ => first | exact Bool.noConfusion (show false = true from h'.2) | exact Bool.noConfusion (show false = true from h'.1)
  | _ => exact Bool.noConfusion (show false = true from h)
structure SndS (S : Sg) (R : RC) (P : Env2) (Y : XC) (n : Nat) (c : CS) : Prop where
  s : ∀ {N cm sc X W st}, Gs S R P Y n N cm sc X W → chkS S N sc cm c st = true → PS X st (tS R Y W (evS P c))
  sc : ∀ ss, c = .scope ss → ∀ {N cm sc X W sts}, Gs S R P Y n N cm sc X W → chkSs S N sc cm ss sts = true → PSs X sts (tS R Y W (evSs P ss))
structure SndSs (S : Sg) (R : RC) (P : Env2) (Y : XC) (n : Nat) (cs : CSs) : Prop where
  s : ∀ {N cm sc X W sts}, Gs S R P Y n N cm sc X W → chkSs S N sc cm cs sts = true → PSs X sts (tS R Y W (evSs P cs))
theorem lc_swap {N : List Str} {cm : Bool} {sc : Scope} {X : Cx} {W : WX} (G : Gs S R P Y n N cm sc X W) {x : Str} {p : Pos} {e : Expr} (l : Nat) :
    (lcMode sc x p e = 0 → swapsWith e (some (.Name x p)) l X.env = pure false) ∧ (lcMode sc x p e = 2 → swapsWith e (some (.Name x p)) l X.env = pure false) ∧ (lcMode sc x p e = 1 → sc.names.lookup x = some .local ∧ swapsWith e (some (.Name x p)) l X.env = pure true) := by
  have bk : X.env.blockKind = .function := by unfold Env.blockKind; rw [G.hsc, G.hfn]; rfl
  have kn : X.env.kindOf x = sc.names.lookup x := by unfold Env.kindOf; rw [G.hsc]
  cases e with
  | ListComp a gs s q =>
    have e0 : swapsWith (.ListComp a gs s q) (some (.Name x p)) l X.env = pure (X.env.blockKind == .function && X.env.kindOf x == some .local && p.line == q.line && !(s.names.any fun (n, k) => n == x && (k == .local || k == .cell))) := rfl
    rw [e0, bk, kn]
    have e1 : lcMode sc x p (.ListComp a gs s q) = if (decide (sc.names.lookup x = some .local) && (p.line == q.line) && !(s.names.any fun (n, k) => n == x && (k == .local || k == .cell))) = true then 1 else 2 := rfl
    rw [e1]
    by_cases hc : (decide (sc.names.lookup x = some .local) && (p.line == q.line) && !(s.names.any fun (n, k) => n == x && (k == .local || k == .cell))) = true
    · rw [if_pos hc]
      refine ⟨fun z => (by cases z), fun z => (by cases z), fun _ => ?_⟩
      simp only [Bool.and_eq_true, decide_eq_true_eq] at hc
      refine ⟨hc.1.1, ?_⟩
      rw [hc.1.1, hc.1.2, hc.2]
      rfl
    · rw [if_neg hc]
      refine ⟨fun z => (by cases z), fun _ => ?_, fun z => (by cases z)⟩
      congr 1
      cases h1 : (p.line == q.line) with
      | false => simp
      | true =>
        cases h2 : (s.names.any fun (n, k) => n == x && (k == .local || k == .cell)) with
        | true => simp
        | false =>
          simp only [h1, h2, Bool.and_true, Bool.not_false, decide_eq_true_eq] at hc
          simp only [Bool.and_true, Bool.not_false]
          simp [hc]
  | SetComp _ _ _ _ => exact ⟨fun z => absurd (show (3 : Nat) = 0 from z) (by decide), fun z => absurd (show (3 : Nat) = 2 from z) (by decide), fun z => absurd (show (3 : Nat) = 1 from z) (by decide)⟩
  | DictComp _ _ _ _ _ => exact ⟨fun z => absurd (show (3 : Nat) = 0 from z) (by decide), fun z => absurd (show (3 : Nat) = 2 from z) (by decide), fun z => absurd (show (3 : Nat) = 1 from z) (by decide)⟩
  | _ => exact ⟨fun _ => rfl, fun z => absurd (show (0 : Nat) = 2 from z) (by decide), fun z => absurd (show (0 : Nat) = 1 from z) (by decide)⟩
theorem snds_asg {t : Tg} {c : CE} : SndS S R P Y n (.asg t c) := ⟨fun {N cm sc X W st} G h => by
  unfold chkS at h
  split at h
  · rename_i x p e pos
    rw [Bool.and_eq_true, Bool.and_eq_true] at h
    obtain ⟨⟨h1, h2⟩, h3⟩ := h
    cases t with
    | v i =>
      obtain ⟨w0, w2, w1⟩ := lc_swap G (x := x) (p := p) (e := e) pos.line
      split at h3
      · rename_i hm
        exact s_setP G h2 ((snd c).e G.g h3) (w0 hm)
      · rename_i hm
        obtain ⟨hl, hs⟩ := w1 hm
        rw [Bool.and_eq_true] at h3
        simp only [chkT, Bool.and_eq_true, decide_eq_true_eq] at h2
        cases c with
        | comp a t2 it d own => exact s_setC G h2.1.1 hl h3.2 hs fun σ H Q q => rd_lst comp_lst q
        | cell c2 =>
          cases c2 with
          | comp a t2 it d own => exact s_setC G h2.1.1 hl h3.2 hs fun σ H Q q => rd_cell q
          | _ => exact Bool.noConfusion (show false = true from h3.1)
        | _ => exact Bool.noConfusion (show false = true from h3.1)
      · rename_i hm
        exact s_setP G h2 ((snd c).e G.g h3) (w2 hm)
      · cases h3
    | t ts => exact Bool.noConfusion (show false = true from h1)
  · rename_i es k p e pos
    simp only [Bool.and_eq_true] at h
    obtain ⟨⟨⟨h1, h2⟩, h3⟩, h4⟩ := h
    cases t with
    | v i => exact Bool.noConfusion (show false = true from h2)
    | t ts =>
      have h2 : chkTs N sc ts es = true := h2
      split at h4
      · rename_i hm
        exact s_setT G h1 h2 ((snd c).e G.g h3) (par0 G.hsc G.hfn hm)
      · rename_i hm
        obtain ⟨x, px, y, py, a, b, k2, p2, rfl, rfl, l1, l2, hxy, hw⟩ := par2 (k := k) (p := p) G.hsc G.hfn hm
        obtain ⟨cs, rfl, h5⟩ := chk_tup h3
        rcases ts with _ | ⟨t1, _ | ⟨t2, _ | ⟨t3, ts⟩⟩⟩
        · simp [chkTs] at h2
        · simp [chkTs] at h2
        · simp only [chkTs, Bool.and_eq_true] at h2
          cases t1 with
          | v i =>
            cases t2 with
            | v j =>
              simp only [chkT, Bool.and_eq_true, decide_eq_true_eq] at h2
              obtain ⟨⟨⟨h21, _⟩, _⟩, ⟨⟨h22, _⟩, _⟩, _⟩ := h2
              refine s_par2 G h1 h21 h22 (fun z => hxy ?_) l1 l2 ((snda cs).a G.g h5) hw
              rw [z, h22] at h21
              exact (Option.some.inj h21).symm
            | t _ => simp [chkT] at h2
          | t _ => simp [chkT] at h2
        · simp [chkTs] at h2
      · rename_i hm
        obtain ⟨x, px, y, py, z, pz, a, b, d, k2, p2, rfl, rfl, l1, l2, l3, hxy, hxz, hyz, hw⟩ := par3 (k := k) (p := p) G.hsc G.hfn hm
        obtain ⟨cs, rfl, h5⟩ := chk_tup h3
        rcases ts with _ | ⟨t1, _ | ⟨t2, _ | ⟨t3, _ | ⟨t4, ts⟩⟩⟩⟩
        · simp [chkTs] at h2
        · simp [chkTs] at h2
        · simp [chkTs] at h2
        · simp only [chkTs, Bool.and_eq_true] at h2
          cases t1 with
          | v i =>
            cases t2 with
            | v j =>
              cases t3 with
              | v l =>
                simp only [chkT, Bool.and_eq_true, decide_eq_true_eq] at h2
                obtain ⟨⟨⟨h21, _⟩, _⟩, ⟨⟨h22, _⟩, _⟩, ⟨⟨h23, _⟩, _⟩, _⟩ := h2
                refine s_par3 G h1 h21 h22 h23 (fun q => hxy ?_) (fun q => hxz ?_) (fun q => hyz ?_) l1 l2 l3 ((snda cs).a G.g h5) hw
                · rw [q, h22] at h21
                  exact (Option.some.inj h21).symm
                · rw [q, h23] at h21
                  exact (Option.some.inj h21).symm
                · rw [q, h23] at h22
                  exact (Option.some.inj h22).symm
              | t _ => simp [chkT] at h2
            | t _ => simp [chkT] at h2
          | t _ => simp [chkT] at h2
        · simp [chkTs] at h2
      · cases h4
  · exact Bool.noConfusion h, fun ss z => (by cases z)⟩
theorem snds_aug {i : Nat} {op : Operator} {c : CE} : SndS S R P Y n (.aug i op c) := ⟨fun {N cm sc X W st} G h => by
  unfold chkS at h
  split at h
  · simp only [Bool.and_eq_true, Bool.or_eq_true, decide_eq_true_eq] at h
    obtain ⟨⟨⟨⟨rfl, h1⟩, h2⟩, h3⟩, h4⟩ := h
    exact s_aug G h1 h2 h3 ((snd c).e G.g h4)
  · exact Bool.noConfusion h, fun ss z => (by cases z)⟩
theorem snds_sput {o i c : CE} : SndS S R P Y n (.sput o i c) := ⟨fun {N cm sc X W st} G h => by
  unfold chkS at h
  split at h
  · simp only [Bool.and_eq_true] at h
    obtain ⟨⟨⟨h1, h2⟩, h3⟩, h4⟩ := h
    exact s_sput G h1 ((snd o).e G.g h2) ((snd i).e G.g h3) ((snd c).e G.g h4)
  · exact Bool.noConfusion h, fun ss z => (by cases z)⟩
theorem snds_saug {o i c : CE} {op : Operator} : SndS S R P Y n (.saug o i op c) := ⟨fun {N cm sc X W st} G h => by
  unfold chkS at h
  split at h
  · simp only [Bool.and_eq_true, decide_eq_true_eq] at h
    obtain ⟨⟨⟨⟨⟨rfl, h1⟩, h2⟩, h3⟩, h4⟩, h5⟩ := h
    exact s_saug G h1 h2 ((snd o).e G.g h3) ((snd i).e G.g h4) ((snd c).e G.g h5)
  · exact Bool.noConfusion h, fun ss z => (by cases z)⟩
theorem snds_expr {c : CE} : SndS S R P Y n (.expr c) := ⟨fun {N cm sc X W st} G h => by
  unfold chkS at h
  split at h
  · rw [Bool.and_eq_true] at h
    exact s_expr ((snd c).e G.g h.2) (sw_none h.1 none)
  · exact Bool.noConfusion h, fun ss z => (by cases z)⟩
theorem snds_app {o c : CE} : SndS S R P Y n (.app o c) := ⟨fun {N cm sc X W st} G h => by
  unfold chkS at h
  split at h
  · simp only [Bool.and_eq_true, decide_eq_true_eq] at h
    obtain ⟨⟨⟨⟨rfl, h1⟩, h2⟩, h3⟩, h4⟩ := h
    exact s_app G h1 h2 (chk_ns h4 _ X.env) ((snd o).e G.g h3) ((snd c).e G.g h4)
  · exact Bool.noConfusion h, fun ss z => (by cases z)⟩
theorem snds_raise {i : Nat} {c : CE} : SndS S R P Y n (.raise i c) := ⟨fun {N cm sc X W st} G h => by
  unfold chkS at h
  split at h
  · simp only [Bool.and_eq_true, decide_eq_true_eq] at h
    obtain ⟨⟨⟨h1, h2⟩, h3⟩, h4⟩ := h
    exact s_raise G h1 h2 h3 h4
  · exact Bool.noConfusion h, fun ss z => (by cases z)⟩
theorem snds_ret {c : CE} : SndS S R P Y n (.ret c) := ⟨fun {N cm sc X W st} G h => by
  unfold chkS at h
  split at h
  · exact s_ret ((snd c).e G.g h)
  · exact Bool.noConfusion h, fun ss z => (by cases z)⟩
theorem snds_if {t : CE} {a b : CSs} (ha : SndSs S R P Y n a) (hb : SndSs S R P Y n b) : SndS S R P Y n (.ifs t a b) := ⟨fun {N cm sc X W st} G h => by
  unfold chkS at h
  split at h
  · simp only [Bool.and_eq_true] at h
    exact s_ifs ((snd t).t G.g h.1.1) (ha.s G h.1.2) (hb.s G h.2)
  · exact Bool.noConfusion h, fun ss z => (by cases z)⟩
theorem snds_for {t : Tg} {it : CI} {a : CSs} (ha : SndSs S R P Y n a) : SndS S R P Y n (.for_ t it a) := ⟨fun {N cm sc X W st} G h => by
  unfold chkS at h
  split at h
  · simp only [Bool.and_eq_true] at h
    obtain ⟨⟨⟨⟨h1, h2⟩, h3⟩, h4⟩, h5⟩ := h
    exact s_for (G.po h1) (G.g.calm h1) ((sndi it).i G.g h4) (g_tg G.g (G.g.calm h1) h2) (ha.s G h5) h3
  · exact Bool.noConfusion h, fun ss z => (by cases z)⟩
theorem snds_whl {t : CE} {a : CSs} (ha : SndSs S R P Y n a) : SndS S R P Y n (.whl t a) := ⟨fun {N cm sc X W st} G h => by
  unfold chkS at h
  split at h
  · simp only [Bool.and_eq_true] at h
    obtain ⟨⟨h1, h2⟩, h3⟩ := h
    exact s_whl (G.po h1) ((snd t).t G.g h2) (ha.s G h3)
  · exact Bool.noConfusion h, fun ss z => (by cases z)⟩
theorem snds_try {body suite : CSs} {i : Nat} (ha : SndSs S R P Y n body) (hb : SndSs S R P Y n suite) : SndS S R P Y n (.try_ body i suite) := ⟨fun {N cm sc X W st} G h => by
  unfold chkS at h
  split at h
  · simp only [Bool.and_eq_true, decide_eq_true_eq] at h
    obtain ⟨⟨⟨h1, h2⟩, h3⟩, h4⟩ := h
    exact s_try G h1 h2 (fun G' => ha.s G' h3) (fun G' => hb.s G' h4)
  · exact Bool.noConfusion h, fun ss z => (by cases z)⟩
theorem sndss_cons {c : CS} {cs : CSs} (hc : SndS S R P Y n c) (hcs : SndSs S R P Y n cs) : SndSs S R P Y n (.cons c cs) := ⟨fun {N cm sc X W sts} G h => by
  unfold chkSs at h
  rw [Bool.or_eq_true, Bool.or_eq_true] at h
  rcases h with (h | h) | h
  · cases c with
    | kill is => exact ss_kill (hcs.s G h)
    | _ => exact Bool.noConfusion (show false = true from h)
  · cases cs with
    | nil =>
      have h : chkSc S N sc cm c sts = true := h
      unfold chkSc at h
      split at h
      · exact ss_scope (hc.sc _ rfl G h)
      · cases h
    | cons _ _ => exact Bool.noConfusion (show false = true from h)
  · split at h
    · rw [Bool.and_eq_true] at h
      exact ss_cons (hc.s G h.1) (hcs.s G h.2)
    · cases h⟩
theorem sndss_nil : SndSs S R P Y n .nil := ⟨fun {N cm sc X W sts} G h => by
  unfold chkSs at h
  split at h
  · exact ss_nil
  · cases h⟩
mutual
theorem snds : ∀ c : CS, SndS S R P Y n c
  | .asg _ _ => snds_asg
  | .aug _ _ _ => snds_aug
  | .sput _ _ _ => snds_sput
  | .saug _ _ _ _ => snds_saug
  | .expr _ => snds_expr
  | .app _ _ => snds_app
  | .ifs _ a b => snds_if (sndss a) (sndss b)
  | .for_ _ _ a => snds_for (sndss a)
  | .whl _ a => snds_whl (sndss a)
  | .ret _ => snds_ret
  | .retN => ⟨fun {N cm sc X W st} G h => by
    unfold chkS at h
    split at h
    · exact s_retN
    · exact Bool.noConfusion h, fun ss z => (by cases z)⟩
  | .brk => ⟨fun {N cm sc X W st} G h => by
    unfold chkS at h
    split at h
    · exact s_brk
    · exact Bool.noConfusion h, fun ss z => (by cases z)⟩
  | .pass => ⟨fun {N cm sc X W st} G h => by
    unfold chkS at h
    split at h
    · exact s_pass
    · exact Bool.noConfusion h, fun ss z => (by cases z)⟩
  | .raise _ _ => snds_raise
  | .try_ a _ b => snds_try (sndss a) (sndss b)
  | .kill _ => ⟨fun {N cm sc X W st} G h => by unfold chkS at h; exact Bool.noConfusion h, fun ss z => (by cases z)⟩
  | .scope ss => ⟨fun {N cm sc X W st} G h => by unfold chkS at h; exact Bool.noConfusion h, fun ss' z => by cases z; exact fun G h => (sndss ss).s G h⟩
theorem sndss : ∀ cs : CSs, SndSs S R P Y n cs
  | .nil => sndss_nil
  | .cons c cs => sndss_cons (snds c) (sndss cs)
end
end
end Cl

namespace Cl
open PySem PySem.Spec PyProof.Rows L2
/-! ### defs -/
structure DTx where
  name : Str
  st : Stmt
  N : List Str
  ps : List Str
def fnScB (N ps : List Str) (sc : Scope) : Bool :=
  (match sc.kind with | .function => true | _ => false) && !sc.isCoroutine && !sc.isGenerator && decide N.Nodup && decide (N.take ps.length = ps) && (ps.all fun x => decide (sc.names.lookup x = some .local) || decide (sc.names.lookup x = some .cell)) && (sc.names.all fun y => match y.2 with | .free => false | _ => true)
theorem fnSc_of {N ps : List Str} {sc : Scope} (h : fnScB N ps sc = true) : FnScope N ps sc := by
  unfold fnScB at h
  simp only [Bool.and_eq_true, Bool.not_eq_true', decide_eq_true_eq] at h
  obtain ⟨⟨⟨⟨⟨⟨h1, h2⟩, h3⟩, h4⟩, h5⟩, h6⟩, h7⟩ := h
  refine ⟨?_, h2, h3, h4, h5, fun x hx => ?_, fun y hy e => ?_⟩
  · split at h1
    · assumption
    · cases h1
  · have := List.all_eq_true.mp h6 x hx
    simpa only [Bool.or_eq_true, decide_eq_true_eq] using this
  · have := List.all_eq_true.mp h7 y hy
    rw [e] at this
    cases this
def chkD (S : Sg) (d : DTx) (c : CDef) : Bool := decide (d.N.length = c.ns) && decide (d.ps.length = c.np) && fnScB d.N d.ps (L2.defScope d.st) && chkSs S d.N (L2.defScope d.st) true c.body (L2.defBody d.st)
def chkDs (S : Sg) : List DTx → List CDef → Bool
  | [], [] => true
  | d :: ds, c :: cs => chkD S d c && chkDs S ds cs
  | _, _ => false
theorem chkDs_at {S : Sg} : ∀ {ds : List DTx} {cs : List CDef} {i : Nat} {d : DTx}, chkDs S ds cs = true → ds[i]? = some d → ∃ c, cs[i]? = some c ∧ chkD S d c = true
  | [], _, _, _, _, e => by simp at e
  | d :: ds, [], _, _, h, _ => by simp [chkDs] at h
  | d :: ds, c :: cs, 0, d', h, e => by
    simp only [chkDs, Bool.and_eq_true] at h
    simp only [List.getElem?_cons_zero, Option.some.injEq] at e
    subst e
    exact ⟨c, rfl, h.1⟩
  | d :: ds, c :: cs, i + 1, d', h, e => by
    simp only [chkDs, Bool.and_eq_true] at h
    rw [List.getElem?_cons_succ] at e ⊢
    exact chkDs_at h.2 e
/-- what the text's top has written -/
structure TxOk (S : Sg) (R : RC) (Y : XC) (P : Pg) (w : World) (K : PySem.W.Frag) (mg : Str → Option Value) (ds : List DTx) : Prop where
  hK : R.K = K
  fns : S.fns = ds.map (·.name)
  chk : chkDs S ds P.defs = true
  defs : ∀ (i : Nat) (d : DTx), ds[i]? = some d → ∃ fd, mg d.name = some (.ref (R.fa i)) ∧ Fun K d.name d.name d.st (R.fa i) fd ∧ Binds K fd d.ps []
  glob : ∀ x d, S.glob x = some d → ∃ u v, mg x = some u ∧ RelV v u ∧ GV R d v
  blt : ∀ x ∈ bltNames, mg x = none
  exc : ∀ i x, S.excs[i]? = some x → ∃ Ca B nid iid bmB, ExcBaseFacts B nid iid bmB ∧ PySem.W.excIn K Ca bmB nid = true ∧ mg x = some (.ref Ca) ∧ PySem.W.keepIn K (.ref Ca) = true ∧ (∀ X' : Cx, X'.K = K → Raises X' (.ref Ca)) ∧ Y.cls i = .ref Ca
  sub : ∀ i j b, P.sub i j = some b → PySem.W.exmOne K (Y.cls i) (Y.cls j) = some b
theorem start_rel {R : RC} {ρ φ : List Addr} {H : Hp} {N : List Str} {vs : List V} {ds : List D} {c : CDef} (r : RDs R ρ φ H ds vs) (hN : N.length = c.ns) : RelS R ρ φ H (cstart c ds) (L2.start N vs) := by
  have hl := r.len
  refine ⟨?_, fun i d e => ?_⟩
  · unfold cstart L2.start
    rw [List.length_append, List.length_map, List.length_replicate, List.length_append, List.length_map, List.length_replicate, hN, hl]
  · unfold cstart at e
    by_cases hi : i < ds.length
    · rw [List.getElem?_append_left (by rw [List.length_map]; exact hi), List.getElem?_map] at e
      cases q : ds[i]? with
      | none => rw [q] at e; cases e
      | some d' =>
        rw [q] at e
        cases e
        obtain ⟨v, g1, g2⟩ := r.get q
        refine ⟨v, ?_, g2⟩
        unfold L2.start
        rw [List.getElem?_append_left (by rw [List.length_map, ← hl]; exact hi), List.getElem?_map, g1]
        rfl
    · rw [List.getElem?_append_right (by rw [List.length_map]; omega), List.getElem?_replicate] at e
      split at e <;> cases e
section
variable {R : RC} {Y : XC} {E : XK} {ρ φ : List Addr} {H : Hp} {h : Hc} {Q : VK} {P2 : Env2}
theorem fin_cut {d : D} {h' : Hc} (hH : RelH R ρ φ H h) (f : Fin R Y (fun cls dd _ H => E cls dd H) [] ρ φ H (rD R φ) (finR h d h') Q) {ρ' : List Addr} {v : V} {H' : Hp} (e : Ext ρ ρ' H H') (hH' : RelH R ρ' φ H' h') (r : RD R ρ' φ H' d v) : Q v H' := by
  unfold finR at f
  by_cases z : (d.low h.length && cutOk h.length h h') = true
  · rw [if_pos z] at f
    rw [Bool.and_eq_true] at z
    obtain ⟨t, rfl⟩ := e.pre
    exact f ρ v H' e.cut (cut_rel hH hH' z.2) (RD.mv Mv.cut (by rw [hH.len]; exact z.1) r)
  · rw [if_neg z] at f
    exact f ρ' v H' e hH' r
theorem finX_cut {x : Exc} {h' : Hc} (hH : RelH R ρ φ H h) (f : Fin R Y (fun cls dd _ H => E cls dd H) [] ρ φ H (rD R φ) (finX h x h') Q) {ρ' : List Addr} {cls : Value} {dd : Option Addr} {H' : Hp} (e : Ext ρ ρ' H H') (hH' : RelH R ρ' φ H' h') (r : RX R Y ρ' φ H' x cls dd) : E cls dd H' := by
  unfold finX at f
  by_cases z : (x.low h.length && cutOk h.length h h') = true
  · rw [if_pos z] at f
    rw [Bool.and_eq_true] at z
    obtain ⟨t, rfl⟩ := e.pre
    refine f ρ cls dd H' e.cut (cut_rel hH hH' z.2) ⟨r.1, ?_⟩
    have r2 := r.2
    have z1 := z.1
    unfold Exc.low at z1
    cases q : x.arg with
    | none => rw [q] at r2; exact r2
    | some d =>
      rw [q] at r2 z1
      obtain ⟨a, v, g1, g2, g3⟩ := r2
      exact ⟨a, v, g1, g2, RD.mv Mv.cut (by rw [hH.len]; exact z1) g3⟩
  · rw [if_neg z] at f
    exact f ρ' cls dd H' e hH' r
theorem body_read {c : CDef} {ds : List D} {vs : List V} {N : List Str} (hN : N.length = c.ns) (hH : RelH R ρ φ H h) (r : RDs R ρ φ H ds vs) (f : Fin R Y (fun cls dd _ H => E cls dd H) [] ρ φ H (rD R φ) (runD P2 c ds h) Q) :
    tS R Y (fun cls dd _ H => E cls dd H) (evSs P2 c.body) { nx := fun _ H' => Q .non H', rt := Q } (L2.start N vs) H := by
  refine ⟨ρ, φ, cstart c ds, h, start_rel r hN, hH, ?_⟩
  unfold runD at f
  by_cases hl : ds.length = c.np
  · rw [if_pos hl] at f
    cases q : evSs P2 c.body (cstart c ds) h with
    | ok k h' =>
      rw [q] at f
      cases k with
      | nx σ => exact fun ρ' σ' H' e hS' hH' => fin_cut hH f e hH' (by simp only [RD])
      | rt d => exact fun ρ' v H' e hH' r' => fin_cut hH f e hH' r'
      | bk σ => exact f.elim
      | ct σ => exact f.elim
    | exc x σ h' =>
      rw [q] at f
      exact fun ρ' cls dd σ' H' e hS' hH' rx => finX_cut hH f e hH' rx
    | stuck => rw [q] at f; exact f.elim
  · rw [if_neg hl] at f
    exact f.elim
end
section
variable {S : Sg} {R : RC} {Y : XC} {P : Pg} {prog : Program} {w : World} {K : PySem.W.Frag} {mg : Str → Option Value} {ds : List DTx} {base : Heap}
theorem sp_len {n i : Nat} {c : CDef} (hc : P.defs[i]? = some c) {vs : List V} {H : Hp} {Q : VK} {E : XK} (h : spC R Y (callN P (n + 1)) i vs H Q E) : vs.length = c.np := by
  obtain ⟨ρ, φ, ds, hh, hH, r, f⟩ := h
  have f : Fin R Y _ [] ρ φ H (rD R φ) (match P.defs[i]? with | some d => runD ⟨callN P n, P.sub⟩ d ds hh | none => .stuck) Q := f
  rw [hc] at f
  have f : Fin R Y _ [] ρ φ H (rD R φ) (runD ⟨callN P n, P.sub⟩ c ds hh) Q := f
  rw [← r.len]
  unfold runD at f
  by_cases hl : ds.length = c.np
  · exact hl
  · rw [if_neg hl] at f
    exact f.elim
theorem all_ok (T : TxOk S R Y P w K mg ds) : ∀ (n i : Nat) (d : DTx), ds[i]? = some d → ∀ fd, Fun K d.name d.name d.st (R.fa i) fd → FnOk prog w K mg base (L2.CX prog w) n (R.fa i) fd d.ps (spC R Y (callN P n) i) := by
  intro n
  induction n with
  | zero =>
    intro i d hd fd F
    exact ⟨fun vs H Q E ⟨ρ, φ, dd, hh, hH, r, f⟩ => f.elim, fun A outer s H args us vs Q E _ _ _ _ ⟨ρ, φ, dd, hh, hH, r, f⟩ => f.elim⟩
  | succ n ih =>
    intro i d hd fd F
    obtain ⟨c, hc, k⟩ := chkDs_at T.chk hd
    unfold chkD at k
    simp only [Bool.and_eq_true, decide_eq_true_eq] at k
    obtain ⟨⟨⟨k1, k2⟩, k3⟩, k4⟩ := k
    have SC := fnSc_of k3
    refine F.okX SC (fun vs H Q E h => by rw [k2]; exact sp_len hc h) fun cdv A outer s H vs Q E hr h => ?_
    refine ⟨tS R Y (fun cls dd _ H => E cls dd H) (evSs ⟨callN P n, P.sub⟩ c.body), ?_, ?_⟩
    · refine (sndss (P := ⟨callN P n, P.sub⟩) (n := n) c.body).s (S := S) ⟨⟨T.hK, rfl, SC.nd, Sees.refl, fun _ _ => rfl, fun _ => rfl, takes_of rfl rfl rfl rfl, ?_, T.glob, T.blt, fun _ => hr, fun j x hx => ?_⟩, rfl, SC.kind, fun _ => passes_of rfl, rfl, rfl, T.exc, T.sub⟩ k4
      · have := hr.un
        show (A.deeper _).units + 100 < cLine
        omega
      · rw [T.fns, List.getElem?_map] at hx
        cases q : ds[j]? with
        | none => rw [q] at hx; cases hx
        | some d' =>
          rw [q] at hx
          cases hx
          obtain ⟨fd', m', F', b'⟩ := T.defs j d' q
          exact ⟨fd', d'.ps, m', F'.kp, b', ih j d' q fd' F'⟩
    · obtain ⟨ρ, φ, dd, hh, hH, r, f⟩ := h
      have f : Fin R Y (fun cls dd _ H => E cls dd H) [] ρ φ H (rD R φ) (match P.defs[i]? with | some d => runD ⟨callN P n, P.sub⟩ d dd hh | none => .stuck) Q := f
      rw [hc] at f
      exact body_read k1 hH r f
/-! ### the end -/
theorem exm_of {cls c : Value} {C : Addr} {b : Bool} (hc : c = .ref C) (h1 : PySem.W.subIn K c (.type "BaseException") = some true) (h2 : PySem.W.isClsIn K C = true) (h3 : PySem.W.typeIn K c = some (.type "type")) (h4 : PySem.W.subIn K cls c = some b) : PySem.W.exmOne K cls c = some b := by
  subst hc
  have e2 : ((PySem.W.clsIn K C).isSome && PySem.W.typeIn K (.ref C) == some (.type "type")) = true := by
    rw [show (PySem.W.clsIn K C).isSome = true from h2, h3]; rfl
  show (if (PySem.W.subIn K (.ref C) (.type "BaseException") == some true) = true then (if ((PySem.W.clsIn K C).isSome && PySem.W.typeIn K (.ref C) == some (.type "type")) = true then PySem.W.subIn K cls (.ref C) else none) else none) = some b
  rw [if_pos (by rw [h1]; rfl), if_pos e2]
  exact h4

def noLists (K : PySem.W.Frag) : Bool := K.all fun p => match p.2.cls with | .type t => !decide (t = "list") | _ => true
theorem lookup_in {α : Type} : ∀ {l : List (Addr × α)} {a : Addr} {o : α}, l.lookup a = some o → (a, o) ∈ l
  | [], _, _, e => by simp at e
  | (b, u) :: l, a, o, e => by
    rw [List.lookup_cons] at e
    cases q : (a == b) with
    | true =>
      rw [q] at e
      cases e
      rw [eq_of_beq q]
      exact List.mem_cons_self
    | false =>
      rw [q] at e
      exact List.mem_cons_of_mem _ (lookup_in e)
theorem noLists_of (h : noLists K = true) {a : Addr} {o : Obj} (e : K.lookup a = some o) : o.cls ≠ .type "list" := fun z => by
  have := List.all_eq_true.mp h _ (lookup_in e)
  simp only [z] at this
  simp at this
theorem ints_rds {ρ φ : List Addr} {H : Hp} : ∀ ns : List Int, RDs R ρ φ H (ns.map D.int) (ns.map V.int)
  | [] => by simp [RDs]
  | n :: ns => by
    rw [List.map_cons, List.map_cons]
    exact RDs.cons (by simp only [RD]) (ints_rds ns)
/-- the law's promise -/
theorem law_sp {n i : Nat} {a : Addr} {H : Hp} {ns : List Int} (hg : R.gt = []) (nl : noLists K = true) (hS : SqL K H a (ns.map V.int)) {h' : Hc} (run : callN P n i [.ref 0] [.ro (ns.map D.int)] = .ok (.bl true) h') (hO : Only H) {Q : VK} {E : XK} (k : ∀ H', Q (.bl true) H') :
    spC R Y (callN P n) i [.ref a] H Q E := by
  have hf : ∃ o, H a = some (.frz o (.lst (ns.map V.int))) := by
    rcases hS with (h | ⟨o, h⟩) | ⟨o, its, m, h1, h2, _⟩
    · rcases hO a with q | ⟨o, ys, q⟩ <;> (rw [h] at q; cases q)
    · exact ⟨o, h⟩
    · exact absurd h2 (noLists_of nl h1)
  obtain ⟨o, hf⟩ := hf
  refine ⟨[a], [], [.ref 0], [.ro (ns.map D.int)], ⟨rfl, by simp, fun j b c e1 e2 => ?_, fun b hb => (by simp at hb), fun p hp => (by rw [hg] at hp; simp at hp)⟩, RDs.one (by simp only [RD]; exact ⟨a, rfl, rfl⟩), ?_⟩
  · cases j with
    | zero =>
      simp only [List.getElem?_cons_zero, Option.some.injEq] at e1 e2
      subst e1 e2
      exact ⟨o, _, hf, ints_rds ns⟩
    | succ j => simp at e1
  · rw [run]
    intro ρ' v H' _ _ r
    simp only [RD] at r
    subst r
    exact k H'
end
/-- the goal that k_head leaves, from the facts and the run -/
theorem walk_cl {S : Sg} {P : Pg} {ds : List DTx} {l : PySem.W.OpenLaw} {q : Program} {loose : List Str} {XP : (Str → Option Value) → Heap → Prop} {YP : World → Heap → Prop} {d : DefRec} {K : Params → PySem.W.Frag} {x : Str} {n i : Nat}
    (hn : l.most = some 63) (hdf : d.params.defaults = []) (hr : Room n callerA) (hY : ∀ (w : World) (h : Heap), YP w h → (K w.params).In h) (nl : ∀ w : World, noLists (K w.params) = true)
    (dx : DTx) (hdx : ds[i]? = some dx) (hps : dx.ps = [x])
    (hba : ∀ (kV doc pm : Value) (an : Option Addr) (cdv ct u : Value), bindArgs (PySem.W.fnOf dx.name dx.name (L2.defArgs dx.st) (L2.defBody dx.st) (L2.defScope dx.st) .none kV doc pm an cdv ct) ⟨[u], []⟩ = pure [(x, u)])
    (F : ∀ (w : World) (mg : Str → Option Value) (fa : Addr) (h : Heap), (K w.params).In h → h.Ns mainGlobals mg → mg d.name = some (.ref fa) → ∃ R Y, R.gt = [] ∧ TxOk S R Y P w (K w.params) mg ds ∧ R.fa i = fa)
    (run : ∀ ns : List Int, ns.length ≤ 63 → ∃ h', callN P n i [.ref 0] [.ro (ns.map D.int)] = .ok (.bl true) h') :
    PySem.W.WalkO q loose XP YP l.row.toRowW d [] (fun f vs => PySem.call f vs) := by
  refine L2.walk_of (n := 63) (k := n) (x := x) (CX := fun w => L2.CX l.prog w) (K := K) (sp := fun w vs H Q E => ∃ (a : Addr) (ns : List Int), vs = [.ref a] ∧ ns.length ≤ 63 ∧ Only H ∧ SqL (K w.params) H a (ns.map V.int) ∧ ∀ H', Q (.bl true) H') hn (by rw [sizeLine_eq]; omega) hdf hr hY ?_ ?_ ?_
  · intro w mg fa h X G hfa
    obtain ⟨R, Y, hg, T, rfl⟩ := F w mg fa h X G hfa
    obtain ⟨fd, m, Fn, B⟩ := T.defs i dx hdx
    refine ⟨fd, fun s u => ?_, fun base hb hns => ?_⟩
    · obtain ⟨oc, od, kV, doc, pm, an, cdv, ct, osl, rfl, lk, hcd⟩ := Fn.ex
      exact .of_eq (hba kV doc pm an cdv ct u)
    · have A := all_ok (prog := l.prog) (w := w) (base := base) T n i dx hdx fd Fn
      rw [hps] at A
      refine FnOk.imp A fun vs H Q E ⟨a, ns, e, hl, hO, hS, k⟩ => ?_
      subst e
      obtain ⟨h', e⟩ := run ns hl
      exact law_sp hg (nl w) hS e hO k
  · intro w H a ns hl hO hS
    exact ⟨a, ns, rfl, hl, hO, hS, fun _ => rfl⟩
  · intro w H s e s' ⟨_, _, _, _, _, _, _, _, _, _, _, _, z⟩
    exact z
theorem lookup_in2 {α : Type} : ∀ {l : List ((Nat × Nat) × α)} {a : Nat × Nat} {o : α}, l.lookup a = some o → (a, o) ∈ l
  | [], _, _, e => by simp at e
  | (b, u) :: l, a, o, e => by
    rw [List.lookup_cons] at e
    cases q : (a == b) with
    | true =>
      rw [q] at e
      cases e
      rw [eq_of_beq q]
      exact List.mem_cons_self
    | false =>
      rw [q] at e
      exact List.mem_cons_of_mem _ (lookup_in2 e)
theorem glob_mem {S : Sg} {x : Str} {d : D} (e : S.glob x = some d) : (x, d) ∈ S.consts ∨ ∃ i, S.fns[i]? = some x ∧ d = .fn i := by
  unfold Sg.glob at e
  cases q : S.consts.lookup x with
  | some v =>
    rw [q] at e
    cases e
    exact .inl (PySem.mem_of_lookup q)
  | none =>
    rw [q] at e
    obtain ⟨i, h1, h2⟩ := Option.map_eq_some_iff.mp e
    refine .inr ⟨i, ?_, h2.symm⟩
    obtain ⟨h3, h4, _⟩ := List.findIdx?_eq_some_iff_getElem.mp h1
    rw [List.getElem?_eq_getElem h3]
    simp only [decide_eq_true_eq] at h4
    rw [h4]
end Cl

namespace Cl
open PySem PySem.Spec PyProof.Rows L2
/-! ### reckoning with the clean runs -/
theorem ERes.ok_bind {α β : Type} {a : α} {h : Hc} {f : α → Hc → ERes β} : (ERes.ok a h).bind f = f a h := rfl
theorem ERes.exc_bind {α β : Type} {x : Exc} {h : Hc} {f : α → Hc → ERes β} : (ERes.exc x h : ERes α).bind f = .exc x h := rfl
theorem st_ok {α : Type} {a : α} {h : Hc} {σ : CSt} {f : α → Hc → SRes} : (ERes.ok a h).st σ f = f a h := rfl
theorem st_exc {α : Type} {x : Exc} {h : Hc} {σ : CSt} {f : α → Hc → SRes} : (ERes.exc x h : ERes α).st σ f = .exc x σ h := rfl
theorem ofO_some {α : Type} {a : α} {h : Hc} : ofO (some a) h = .ok a h := rfl
theorem stO_some {α : Type} {a : α} {f : α → SRes} : stO (some a) f = f a := rfl
theorem boolR_bl {b : Bool} {h : Hc} : boolR (.ok (.bl b) h) = .ok b h := rfl
theorem cutOk_app {h t : Hc} : cutOk h.length h (h ++ t) = true := by
  unfold cutOk
  rw [List.take_left']
  · rw [List.all_eq_true]
    intro p hp
    obtain ⟨i, hi⟩ := List.mem_iff_getElem?.mp hp
    rw [List.getElem?_zip_eq_some] at hi
    have : p.1 = p.2 := by
      have := hi.1.symm.trans hi.2
      exact Option.some.inj this
    simp [this]
  · rfl
theorem cutOk_self {h : Hc} : cutOk h.length h h = true := by
  have := @cutOk_app h []
  rwa [List.append_nil] at this
mutual
theorem low_plain {n : Nat} : ∀ {d : D}, d.plain = true → d.low n = true
  | .non, _ => rfl
  | .bl _, _ => rfl
  | .int _, _ => rfl
  | .str _, _ => rfl
  | .ref _, h => by simp [D.plain] at h
  | .fn _, h => by simp [D.plain] at h
  | .tup xs, h => by
    simp only [D.plain] at h
    simp only [D.low]
    exact lows_plain h
  | .lst xs, h => by
    simp only [D.plain] at h
    simp only [D.low]
    exact lows_plain h
theorem lows_plain {n : Nat} : ∀ {ds : List D}, D.plains ds = true → D.low.lows n ds = true
  | [], _ => rfl
  | d :: ds, h => by
    simp only [D.plains, Bool.and_eq_true] at h
    simp only [D.low.lows, Bool.and_eq_true]
    exact ⟨low_plain h.1, lows_plain h.2⟩
end
/-- back from a def that leaves no new cell reachable -/
theorem finR_app {h t : Hc} {d : D} (hd : d.low h.length = true) : finR h d (h ++ t) = .ok d h := by
  unfold finR
  rw [hd, cutOk_app, Bool.true_and, if_pos rfl, List.take_left' rfl]
theorem finR_self {h : Hc} {d : D} : finR h d h = .ok d h := by
  unfold finR
  split
  · rw [List.take_length]
  · rfl
theorem finX_self {h : Hc} {x : Exc} : finX h x h = .exc x h := by
  unfold finX
  split
  · rw [List.take_length]
  · rfl
/-- a call, by its def -/
theorem call_eq {P : Pg} {n i : Nat} {d : CDef} {args : List D} {h : Hc} (hd : P.defs[i]? = some d) (hl : args.length = d.np) : callN P (n + 1) i args h = match evSs ⟨callN P n, P.sub⟩ d.body (cstart d args) h with
    | .ok (.rt v) h' => finR h v h'
    | .ok (.nx _) h' => finR h .non h'
    | .exc x _ h' => finX h x h'
    | _ => .stuck := by
  show (match P.defs[i]? with | some d => runD ⟨callN P n, P.sub⟩ d args h | none => .stuck) = _
  rw [hd]
  show runD _ d args h = _
  unfold runD
  rw [if_pos hl]
  all_goals rfl
/-- a comprehension without effects -/
theorem compF_pure {fe fc : EvF} {t : Tg} {g : Guard} {σ : CSt} {h : Hc} (hg : gOk g h = true) (f : D → D) (p : D → Bool) : ∀ {xs : List D}, (∀ x ∈ xs, ∃ σ1, asgT t x σ = some σ1 ∧ boolR (fc σ1 h) = .ok (p x) h ∧ (p x = true → fe σ1 h = .ok (f x) h)) →
    compF fe fc t g σ xs h = .ok ((xs.filter p).map f) h
  | [], _ => by unfold compF; rw [if_pos hg]; rfl
  | x :: xs, k => by
    obtain ⟨σ1, e1, e2, e3⟩ := k x (by simp)
    have ih := compF_pure hg f p (xs := xs) fun y hy => k y (by simp [hy])
    unfold compF
    rw [if_pos hg, e1]
    simp only [e2]
    cases q : p x with
    | true =>
      simp only [e3 q, ih]
      rw [List.filter_cons_of_pos q, List.map_cons]
    | false =>
      simp only [ih]
      rw [List.filter_cons_of_neg (by simp [q])]
/-- .. with a state that goes through -/
theorem compF_thru {fe fc : EvF} {t : Tg} {g : Guard} {σ : CSt} {S : Type} (enc : S → Hc) (hg : ∀ s, gOk g (enc s) = true) (f : S → D → D) (nx : S → D → S) : ∀ {xs : List D} (s : S), (∀ s, ∀ x ∈ xs, ∃ σ1, asgT t x σ = some σ1 ∧ boolR (fc σ1 (enc s)) = .ok true (enc s) ∧ fe σ1 (enc s) = .ok (f s x) (enc (nx s x))) →
    ∃ ys, compF fe fc t g σ xs (enc s) = .ok ys (enc (xs.foldl nx s)) ∧ ys.length = xs.length ∧ ∀ y ∈ ys, ∃ s x, x ∈ xs ∧ y = f s x
  | [], s, _ => ⟨[], by unfold compF; rw [if_pos (hg s)]; rfl, rfl, fun y hy => by simp at hy⟩
  | x :: xs, s, k => by
    obtain ⟨σ1, e1, e2, e3⟩ := k s x (by simp)
    obtain ⟨ys, i1, i2, i3⟩ := compF_thru enc hg f nx (xs := xs) (nx s x) fun s y hy => k s y (by simp [hy])
    refine ⟨f s x :: ys, ?_, by simp [i2], fun y hy => ?_⟩
    · unfold compF
      rw [if_pos (hg s), e1]
      simp only [e2, e3, i1]
      rfl
    · rcases List.mem_cons.mp hy with rfl | hy
      · exact ⟨s, x, by simp, rfl⟩
      · obtain ⟨s', x', h1, h2⟩ := i3 y hy
        exact ⟨s', x', by simp [h1], h2⟩
/-- a loop whose body goes on -/
theorem forF_fold {fb : CSt → Hc → SRes} {t : Tg} {g : Guard} {S : Type} (eσ : S → CSt) (eh : S → Hc) (nx : S → D → S) (I : S → Prop) (hg : ∀ s, I s → gOk g (eh s) = true) : ∀ {xs : List D} (s : S), I s →
    (∀ s, I s → ∀ x ∈ xs, I (nx s x) ∧ ∃ σ1, asgT t x (eσ s) = some σ1 ∧ fb σ1 (eh s) = .ok (.nx (eσ (nx s x))) (eh (nx s x))) → forF fb t g xs (eσ s) (eh s) = .ok (.nx (eσ (xs.foldl nx s))) (eh (xs.foldl nx s)) ∧ I (xs.foldl nx s)
  | [], s, hI, _ => ⟨by unfold forF; rw [if_pos (hg s hI)]; rfl, hI⟩
  | x :: xs, s, hI, k => by
    obtain ⟨i1, σ1, e1, e2⟩ := k s hI x (by simp)
    have ih := forF_fold eσ eh nx I hg (xs := xs) (nx s x) i1 fun s hs y hy => k s hs y (by simp [hy])
    refine ⟨?_, ih.2⟩
    unfold forF
    rw [if_pos (hg s hI), e1]
    simp only [e2]
    exact ih.1
/-- a loop with an invariant on what has been walked; it may leave -/
theorem forF_inv {fb : CSt → Hc → SRes} {t : Tg} {g : Guard} {xs : List D} (I : Nat → CSt → Hc → Prop) (B : SRes → Prop) (hg : ∀ i σ h, I i σ h → gOk g h = true) (hend : ∀ σ h, I xs.length σ h → B (.ok (.nx σ) h))
    (hs : ∀ (i : Nat) (x : D) (σ : CSt) (h : Hc), xs[i]? = some x → I i σ h → ∃ σ1, asgT t x σ = some σ1 ∧ ((∃ σ2 h2, fb σ1 h = .ok (.nx σ2) h2 ∧ I (i + 1) σ2 h2) ∨ (∃ σ2 h2, fb σ1 h = .ok (.bk σ2) h2 ∧ B (.ok (.nx σ2) h2)) ∨ (∃ d h2, fb σ1 h = .ok (.rt d) h2 ∧ B (.ok (.rt d) h2)))) :
    ∀ (i : Nat) (σ : CSt) (h : Hc), i ≤ xs.length → I i σ h → B (forF fb t g (xs.drop i) σ h) := by
  suffices key : ∀ (m i : Nat) (σ : CSt) (h : Hc), xs.length - i = m → i ≤ xs.length → I i σ h → B (forF fb t g (xs.drop i) σ h) from fun i σ h hi hI => key _ i σ h rfl hi hI
  intro m
  induction m with
  | zero =>
    intro i σ h hm hi hI
    have : i = xs.length := by omega
    subst this
    rw [List.drop_length]
    unfold forF
    rw [if_pos (hg _ _ _ hI)]
    exact hend σ h hI
  | succ m ih =>
    intro i σ h hm hi hI
    have hlt : i < xs.length := by omega
    rw [List.drop_eq_getElem_cons hlt]
    unfold forF
    rw [if_pos (hg _ _ _ hI)]
    obtain ⟨σ1, e1, k⟩ := hs i xs[i] σ h (List.getElem?_eq_getElem hlt) hI
    rw [e1]
    rcases k with ⟨σ2, h2, e2, k⟩ | ⟨σ2, h2, e2, k⟩ | ⟨d, h2, e2, k⟩
    · simp only [e2]
      exact ih (i + 1) σ2 h2 (by omega) hlt k
    · simp only [e2]; exact k
    · simp only [e2]; exact k
end Cl

namespace Cl
open PySem PySem.Spec PyProof.Rows L2
/-! ### the clauses of the runs, each with all its arguments -/
theorem EV {C : Caller} : (∀ (i : Nat) (σ : CSt) (h : Hc), evE C (.var i) σ h = (match σ[i]? with
    | some (some d) => .ok d h
    | _ => .stuck))
  ∧ (∀ (d : D) (σ : CSt) (h : Hc), evE C (.cst d) σ h = (.ok d h))
  ∧ (∀ (u0 : Str) (d : D) (σ : CSt) (h : Hc), evE C (.glob u0 d) σ h = (.ok d h))
  ∧ (∀ (op : Operator) (a : CE) (b : CE) (σ : CSt) (h : Hc), evE C (.bin op a b) σ h = ((evE C a σ h).bind fun x h => (evE C b σ h).bind fun y h => ofO (binF h op x y) h))
  ∧ (∀ (a : CE) (σ : CSt) (h : Hc), evE C (.neg a) σ h = ((evE C a σ h).bind fun x h => match x with
    | .int i => .ok (.int (-i)) h
    | _ => .stuck))
  ∧ (∀ (a : CE) (σ : CSt) (h : Hc), evE C (.not_ a) σ h = ((evE C a σ h).bind fun x h => match x with
    | .bl b => .ok (.bl (!b)) h
    | _ => .stuck))
  ∧ (∀ (op : CmpOp) (a : CE) (b : CE) (σ : CSt) (h : Hc), evE C (.cmp op a b) σ h = ((evE C a σ h).bind fun x h => (evE C b σ h).bind fun y h => ofO ((cmpF h op x y).map .bl) h))
  ∧ (∀ (op : CmpOp) (op' : CmpOp) (a : CE) (b : CE) (c : CE) (σ : CSt) (h : Hc), evE C (.chain op op' a b c) σ h = ((evE C a σ h).bind fun x h => (evE C b σ h).bind fun y h => match cmpF h op x y with
    | some true => (evE C c σ h).bind fun z h => ofO ((cmpF h op' y z).map .bl) h
    | some false => .ok (.bl false) h
    | none => .stuck))
  ∧ (∀ (a : CE) (b : CE) (σ : CSt) (h : Hc), evE C (.and_ a b) σ h = ((evE C a σ h).bind fun x h => match x with
    | .bl true => evE C b σ h
    | .bl false => .ok (.bl false) h
    | _ => .stuck))
  ∧ (∀ (a : CE) (b : CE) (σ : CSt) (h : Hc), evE C (.or_ a b) σ h = ((evE C a σ h).bind fun x h => match x with
    | .bl true => .ok (.bl true) h
    | .bl false => evE C b σ h
    | _ => .stuck))
  ∧ (∀ (t : CE) (a : CE) (b : CE) (σ : CSt) (h : Hc), evE C (.ite t a b) σ h = ((evE C t σ h).bind fun x h => match x with
    | .bl true => evE C a σ h
    | .bl false => evE C b σ h
    | _ => .stuck))
  ∧ (∀ (f : Nat) (args : CEs) (σ : CSt) (h : Hc), evE C (.call f args) σ h = ((evEs C args σ h).bind fun ds h => C f ds h))
  ∧ (∀ (b : Bi) (args : CEs) (σ : CSt) (h : Hc), evE C (.bi b args) σ h = ((evEs C args σ h).bind fun ds h => ofO (biF h b ds) h))
  ∧ (∀ (a : CE) (ts : List Ty) (σ : CSt) (h : Hc), evE C (.isin a ts) σ h = ((evE C a σ h).bind fun x h => ofO ((isFs h ts x).map .bl) h))
  ∧ (∀ (fe : CE) (fs : List Nat) (args : CEs) (σ : CSt) (h : Hc), evE C (.callv fe fs args) σ h = ((evE C fe σ h).bind fun x h => match x with
    | .fn i => if i ∈ fs then (evEs C args σ h).bind fun ds h => C i ds h else .stuck
    | _ => .stuck))
  ∧ (∀ (o : CE) (σ : CSt) (h : Hc), evE C (.pop o) σ h = ((evE C o σ h).bind fun x h => match x with
    | .ref n => match h[n]? with
      | some (.lst xs) => match xs[xs.length - 1]? with
        | some d => .ok d (h.set n (.lst xs.dropLast))
        | none => .stuck
      | _ => .stuck
    | _ => .stuck))
  ∧ (∀ (a : CE) (i : CE) (σ : CSt) (h : Hc), evE C (.idx a i) σ h = ((evE C a σ h).bind fun x h => (evE C i σ h).bind fun y h => ofO (idxF h x y) h))
  ∧ (∀ (a : CE) (lo : CE) (hi : CE) (σ : CSt) (h : Hc), evE C (.sl a lo hi) σ h = ((evE C a σ h).bind fun x h => (optR lo.isAbs (evE C lo σ) h).bind fun l h => (optR hi.isAbs (evE C hi σ) h).bind fun u h => ofO (sliceF h x l u) h))
  ∧ (∀ (a : CE) (σ : CSt) (h : Hc), evE C (.rev a) σ h = ((evE C a σ h).bind fun x h => ofO (revF h x) h))
  ∧ (∀  (σ : CSt) (h : Hc), evE C (.absent) σ h = (.stuck))
  ∧ (∀ (es : CEs) (σ : CSt) (h : Hc), evE C (.tup es) σ h = ((evEs C es σ h).bind fun ds h => .ok (.tup ds) h))
  ∧ (∀ (es : CEs) (σ : CSt) (h : Hc), evE C (.lst es) σ h = ((evEs C es σ h).bind fun ds h => .ok (.lst ds) h))
  ∧ (∀ (elt : CE) (t : Tg) (it : CI) (cond : CE) (own : List Nat) (σ : CSt) (h : Hc), evE C (.comp elt t it cond own) σ h = ((evI C it σ h).bind fun d h => if d.xs.length ≤ line then lmap [] (compF (evE C elt) (condR cond.isAbs (evE C cond)) t d.g (cwipe σ own) d.xs h) else .stuck))
  ∧ (∀ (it : CI) (σ : CSt) (h : Hc), evE C (.lrange it) σ h = ((evI C it σ h).bind fun d h => if d.xs.length ≤ line then .ok (.lst d.xs) h else .stuck))
  ∧ (∀ (e : CE) (σ : CSt) (h : Hc), evE C (.cell e) σ h = ((evE C e σ h).bind fun x h => match x with
    | .lst xs => .ok (.ref h.length) (h ++ [.lst xs])
    | _ => .stuck))
  ∧ (∀ (t : Bool) (σ : CSt) (h : Hc), evE C (.dict0 t) σ h = (.ok (.ref h.length) (h ++ [if t then .dT [] else .dK []])))
  ∧ (∀ (o : CE) (k : CE) (d : CE) (σ : CSt) (h : Hc), evE C (.dget o k d) σ h = ((evE C o σ h).bind fun x h => if isDictD h x then (evE C k σ h).bind fun y h => (evE C d σ h).bind fun z h => match x with
    | .ref n => match lookD h n y with
      | some r => .ok (r.getD z) h
      | none => .stuck
    | _ => .stuck
    else .stuck))
  ∧ (∀ (σ : CSt) (h : Hc), evEs C .nil σ h = .ok [] h) ∧ (∀ (e : CE) (es : CEs) (σ : CSt) (h : Hc), evEs C (.cons e es) σ h = (evE C e σ h).bind fun d h => (evEs C es σ h).bind fun ds h => .ok (d :: ds) h)
  ∧ (∀ (e : CE) (σ : CSt) (h : Hc), evI C (.seq e) σ h = ((evE C e σ h).bind fun d h => match seqD h d with
    | some xs => .ok ⟨xs, guardOf h d⟩ h
    | none => .stuck))
  ∧ (∀ (a : CE) (σ : CSt) (h : Hc), evI C (.rng1 a) σ h = ((evE C a σ h).bind fun d h => match d with
    | .int j => if smallI j then .ok ⟨rngD 0 1 j.toNat, []⟩ h else .stuck
    | _ => .stuck))
  ∧ (∀ (a : CE) (b : CE) (σ : CSt) (h : Hc), evI C (.rng2 a b) σ h = ((evE C a σ h).bind fun d h => (evE C b σ h).bind fun e h => match d, e with
    | .int i, .int j => if smallI i && smallI j then .ok ⟨rngD i 1 (j - i).toNat, []⟩ h else .stuck
    | _, _ => .stuck))
  ∧ (∀ (a : CE) (b : CE) (c : CE) (σ : CSt) (h : Hc), evI C (.rng3 a b c) σ h = ((evE C a σ h).bind fun d h => (evE C b σ h).bind fun e h => (evE C c σ h).bind fun f h => match d, e, f with
    | .int i, .int j, .int k => if Builtin.Range.small i j k && decide (k ≠ 0) && decide (k.natAbs < 1073741824) && decide (Builtin.Range.rangeSize i j k = (rngN i j k : Nat)) then .ok ⟨rngD i k (rngN i j k), []⟩ h else .stuck
    | _, _, _ => .stuck))
  ∧ (∀ (e : CE) (σ : CSt) (h : Hc), evI C (.enum e) σ h = ((evE C e σ h).bind fun d h => match lstD h d with
    | some xs => .ok ⟨enumD 0 xs, guardOf h d⟩ h
    | none => .stuck))
  ∧ (∀ (a : CE) (b : CE) (σ : CSt) (h : Hc), evI C (.zip a b) σ h = ((evE C a σ h).bind fun d h => (evE C b σ h).bind fun e h => match zipO h d e with
    | some zs => .ok ⟨zs, guardOf h d ++ guardOf h e⟩ h
    | none => .stuck)) := by
  refine ⟨?_, ?_, ?_, ?_, ?_, ?_, ?_, ?_, ?_, ?_, ?_, ?_, ?_, ?_, ?_, ?_, ?_, ?_, ?_, ?_, ?_, ?_, ?_, ?_, ?_, ?_, ?_, ?_, ?_, ?_, ?_, ?_, ?_, ?_, ?_⟩ <;> intros <;> simp only [evE, evEs, evI] <;> all_goals rfl
theorem EB : (∀ (α β : Type) (a : α) (h : Hc) (f : α → Hc → ERes β), (ERes.ok a h).bind f = f a h) ∧ (∀ (α β : Type) (x : Exc) (h : Hc) (f : α → Hc → ERes β), (ERes.exc x h : ERes α).bind f = .exc x h) ∧
  (∀ (α : Type) (a : α) (h : Hc) (σ : CSt) (f : α → Hc → SRes), (ERes.ok a h).st σ f = f a h) ∧ (∀ (α : Type) (x : Exc) (h : Hc) (σ : CSt) (f : α → Hc → SRes), (ERes.exc x h : ERes α).st σ f = .exc x σ h) ∧
  (∀ (α : Type) (a : α) (h : Hc), ofO (some a) h = .ok a h) ∧ (∀ (α : Type) (a : α) (f : α → SRes), stO (some a) f = f a) ∧ (∀ (b : Bool) (h : Hc), boolR (.ok (.bl b) h) = .ok b h) ∧ (∀ (h : Hc) (d : D), finR h d h = .ok d h) ∧ (∀ (h : Hc) (x : Exc), finX h x h = .exc x h) :=
  ⟨fun _ _ _ _ _ => rfl, fun _ _ _ _ _ => rfl, fun _ _ _ _ _ => rfl, fun _ _ _ _ _ => rfl, fun _ _ _ => rfl, fun _ _ _ => rfl, fun _ _ => rfl, fun _ _ => finR_self, fun _ _ => finX_self⟩
theorem ES {P : Env2} : (∀ (t : Tg) (e : CE) (σ : CSt) (h : Hc), evS P (.asg t e) σ h = ((evE P.C e σ h).st σ fun d h => stO (asgT t d σ) fun σ' => .ok (.nx σ') h))
  ∧ (∀ (i : Nat) (op : Operator) (e : CE) (σ : CSt) (h : Hc), evS P (.aug i op e) σ h = (match σ[i]? with
    | some (some x) => (evE P.C e σ h).st σ fun y h => match x, y with
      | .int a, .int b => stO (binF h op (.int a) (.int b)) fun z => .ok (.nx (σ.set i (some z))) h
      | _, _ => .stuck
    | _ => .stuck))
  ∧ (∀ (o : CE) (i : CE) (e : CE) (σ : CSt) (h : Hc), evS P (.sput o i e) σ h = ((evE P.C e σ h).st σ fun v h => (evE P.C o σ h).st σ fun x h => (evE P.C i σ h).st σ fun y h => stO (putF h x y v) fun h' => .ok (.nx σ) h'))
  ∧ (∀ (o : CE) (i : CE) (op : Operator) (e : CE) (σ : CSt) (h : Hc), evS P (.saug o i op e) σ h = ((evE P.C o σ h).st σ fun x h => (evE P.C i σ h).st σ fun y h => stO (refIdx h x y) fun u => (evE P.C e σ h).st σ fun v h =>
      match u, v with
      | .int a, .int b => stO (binF h op (.int a) (.int b)) fun w => stO (putF h x y w) fun h' => .ok (.nx σ) h'
      | _, _ => .stuck))
  ∧ (∀ (e : CE) (σ : CSt) (h : Hc), evS P (.expr e) σ h = ((evE P.C e σ h).st σ fun _ h => .ok (.nx σ) h))
  ∧ (∀ (o : CE) (e : CE) (σ : CSt) (h : Hc), evS P (.app o e) σ h = ((evE P.C o σ h).st σ fun x h => if isLstD h x = false then .stuck else (evE P.C e σ h).st σ fun v h => match x with
    | .ref n => match h[n]? with
      | some (.lst xs) => if xs.length < line then .ok (.nx σ) (h.set n (.lst (xs ++ [v]))) else .stuck
      | _ => .stuck
    | _ => .stuck))
  ∧ (∀ (t : CE) (a : CSs) (b : CSs) (σ : CSt) (h : Hc), evS P (.ifs t a b) σ h = ((boolR (evE P.C t σ h)).st σ fun c h => if c then evSs P a σ h else evSs P b σ h))
  ∧ (∀ (t : Tg) (it : CI) (body : CSs) (σ : CSt) (h : Hc), evS P (.for_ t it body) σ h = ((evI P.C it σ h).st σ fun d h => forF (evSs P body) t d.g d.xs σ h))
  ∧ (∀ (t : CE) (body : CSs) (σ : CSt) (h : Hc), evS P (.whl t body) σ h = (whF (evE P.C t) (evSs P body) wFuel σ h))
  ∧ (∀ (e : CE) (σ : CSt) (h : Hc), evS P (.ret e) σ h = ((evE P.C e σ h).st σ fun d h => .ok (.rt d) h))
  ∧ (∀  (σ : CSt) (h : Hc), evS P (.retN) σ h = (.ok (.rt .non) h))
  ∧ (∀  (σ : CSt) (h : Hc), evS P (.brk) σ h = (.ok (.bk σ) h))
  ∧ (∀  (σ : CSt) (h : Hc), evS P (.pass) σ h = (.ok (.nx σ) h))
  ∧ (∀ (x : Nat) (e : CE) (σ : CSt) (h : Hc), evS P (.raise x e) σ h = (if e.isAbs then .exc ⟨x, none⟩ σ h else (evE P.C e σ h).st σ fun d h => .exc ⟨x, some d⟩ σ h))
  ∧ (∀ (body : CSs) (x : Nat) (suite : CSs) (σ : CSt) (h : Hc), evS P (.try_ body x suite) σ h = (match evSs P body σ h with
    | .exc y σ' h' => match P.sub y.cls x with
      | some true => noExc (evSs P suite σ' h')
      | some false => .exc y σ' h'
      | none => .stuck
    | r => r))
  ∧ (∀ (is : List Nat) (σ : CSt) (h : Hc), evS P (.kill is) σ h = (.ok (.nx (ckill σ is)) h))
  ∧ (∀ (ss : CSs) (σ : CSt) (h : Hc), evS P (.scope ss) σ h = (scopeR h (evSs P ss σ h)))
  ∧ (∀ (σ : CSt) (h : Hc), evSs P .nil σ h = .ok (.nx σ) h) ∧ (∀ (s : CS) (ss : CSs) (σ : CSt) (h : Hc), evSs P (.cons s ss) σ h = (match evS P s σ h with
    | .ok (.nx σ') h' => evSs P ss σ' h'
    | r => r)) := by
  refine ⟨?_, ?_, ?_, ?_, ?_, ?_, ?_, ?_, ?_, ?_, ?_, ?_, ?_, ?_, ?_, ?_, ?_, ?_, ?_⟩ <;> intros <;> simp only [evS, evSs] <;> rfl
end Cl

namespace Cl
open PySem PySem.Spec PyProof.Rows L2
/-! ### calls by their body's run -/
theorem call_rt {P : Pg} {n i : Nat} {d : CDef} {b : CSs} {σ : CSt} {args : List D} {h t : Hc} {v : D} (hd : P.defs[i]? = some d) (hl : args.length = d.np) (hb : d.body = b) (hσ : cstart d args = σ) (hv : v.low h.length = true) (e : evSs ⟨callN P n, P.sub⟩ b σ h = .ok (.rt v) (h ++ t)) : callN P (n + 1) i args h = .ok v h := by
  subst hb hσ
  rw [call_eq hd hl, e]
  exact finR_app hv
theorem call_rt0 {P : Pg} {n i : Nat} {d : CDef} {b : CSs} {σ : CSt} {args : List D} {h h' : Hc} {v : D} (hd : P.defs[i]? = some d) (hl : args.length = d.np) (hb : d.body = b) (hσ : cstart d args = σ) (e : evSs ⟨callN P n, P.sub⟩ b σ h = .ok (.rt v) h') : callN P (n + 1) i args h = finR h v h' := by
  subst hb hσ
  rw [call_eq hd hl, e]
theorem call_rtp {P : Pg} {n i : Nat} {d : CDef} {b : CSs} {σ : CSt} {args : List D} {h : Hc} {v : D} (hd : P.defs[i]? = some d) (hl : args.length = d.np) (hb : d.body = b) (hσ : cstart d args = σ) (e : evSs ⟨callN P n, P.sub⟩ b σ h = .ok (.rt v) h) : callN P (n + 1) i args h = .ok v h := by
  subst hb hσ
  rw [call_eq hd hl, e]
  exact finR_self
theorem call_nxp {P : Pg} {n i : Nat} {d : CDef} {b : CSs} {σ σ' : CSt} {args : List D} {h : Hc} (hd : P.defs[i]? = some d) (hl : args.length = d.np) (hb : d.body = b) (hσ : cstart d args = σ) (e : evSs ⟨callN P n, P.sub⟩ b σ h = .ok (.nx σ') h) : callN P (n + 1) i args h = .ok .non h := by
  subst hb hσ
  rw [call_eq hd hl, e]
  exact finR_self
theorem call_xp {P : Pg} {n i : Nat} {d : CDef} {b : CSs} {σ σ' : CSt} {args : List D} {h : Hc} {x : Exc} (hd : P.defs[i]? = some d) (hl : args.length = d.np) (hb : d.body = b) (hσ : cstart d args = σ) (e : evSs ⟨callN P n, P.sub⟩ b σ h = .exc x σ' h) : callN P (n + 1) i args h = .exc x h := by
  subst hb hσ
  rw [call_eq hd hl, e]
  exact finX_self
/-! ### statements in a row -/
theorem seqN {P : Env2} {s : CS} {ss : CSs} {σ σ' : CSt} {h h' : Hc} (e : evS P s σ h = .ok (.nx σ') h') : evSs P (.cons s ss) σ h = evSs P ss σ' h' := by simp only [evSs, e]
theorem seqR {P : Env2} {s : CS} {ss : CSs} {σ : CSt} {h h' : Hc} {d : D} (e : evS P s σ h = .ok (.rt d) h') : evSs P (.cons s ss) σ h = .ok (.rt d) h' := by simp only [evSs, e]
theorem seqX {P : Env2} {s : CS} {ss : CSs} {σ σ' : CSt} {h h' : Hc} {x : Exc} (e : evS P s σ h = .exc x σ' h') : evSs P (.cons s ss) σ h = .exc x σ' h' := by simp only [evSs, e]
theorem asgV {P : Env2} {i : Nat} {e : CE} {σ : CSt} {h h' : Hc} {d : D} (k : evE P.C e σ h = .ok d h') : evS P (.asg (.v i) e) σ h = .ok (.nx (σ.set i (some d))) h' := by simp only [ES, EB, k, asgT]
theorem retE {P : Env2} {e : CE} {σ : CSt} {h h' : Hc} {d : D} (k : evE P.C e σ h = .ok d h') : evS P (.ret e) σ h = .ok (.rt d) h' := by simp only [ES, EB, k]
theorem ifT {P : Env2} {t : CE} {a b : CSs} {σ : CSt} {h h' : Hc} (k : evE P.C t σ h = .ok (.bl true) h') : evS P (.ifs t a b) σ h = evSs P a σ h' := by simp only [ES, EB, k, if_true]
theorem ifF {P : Env2} {t : CE} {a b : CSs} {σ : CSt} {h h' : Hc} (k : evE P.C t σ h = .ok (.bl false) h') : evS P (.ifs t a b) σ h = evSs P b σ h' := by simp only [ES, EB, k]; rfl
theorem ifB {P : Env2} {t : CE} {a b : CSs} {σ : CSt} {h h' : Hc} {c : Bool} (k : evE P.C t σ h = .ok (.bl c) h') : evS P (.ifs t a b) σ h = if c then evSs P a σ h' else evSs P b σ h' := by simp only [ES, EB, k]
theorem forS {P : Env2} {t : Tg} {e : CE} {body : CSs} {σ : CSt} {h h' : Hc} {d : D} {xs : List D} {g : Guard} (k : evE P.C e σ h = .ok d h') (k2 : seqD h' d = some xs) (k3 : guardOf h' d = g) : evS P (.for_ t (.seq e) body) σ h = forF (evSs P body) t g xs σ h' := by
  simp only [ES, EV, EB, k, k2, k3]
theorem forR1 {P : Env2} {t : Tg} {a : CE} {body : CSs} {σ : CSt} {h h' : Hc} {j : Int} (k : evE P.C a σ h = .ok (.int j) h') (k2 : smallI j = true) : evS P (.for_ t (.rng1 a) body) σ h = forF (evSs P body) t [] (rngD 0 1 j.toNat) σ h' := by
  simp only [ES, EV, EB, k, k2, if_true]
theorem forR2 {P : Env2} {t : Tg} {a b : CE} {body : CSs} {σ : CSt} {h h' h'' : Hc} {i j : Int} (k : evE P.C a σ h = .ok (.int i) h') (k1 : evE P.C b σ h' = .ok (.int j) h'') (k2 : smallI i = true) (k3 : smallI j = true) : evS P (.for_ t (.rng2 a b) body) σ h = forF (evSs P body) t [] (rngD i 1 (j - i).toNat) σ h'' := by
  simp only [ES, EV, EB, k, k1, k2, k3, Bool.and_self, if_true]
theorem raiseN {P : Env2} {x : Nat} {σ : CSt} {h : Hc} : evS P (.raise x .absent) σ h = .exc ⟨x, none⟩ σ h := by simp only [ES, CE.isAbs, if_true]
/-! ### loops -/
/-- a loop over made items whose body goes on -/
theorem forF_map {α S : Type} {fb : CSt → Hc → SRes} {t : Tg} {g : Guard} (enc : α → D) (R : S → CSt → Hc → Prop) (f : S → α → S) (hg : ∀ s σ h, R s σ h → gOk g h = true) : ∀ (xs : List α), (∀ s x σ h, x ∈ xs → R s σ h → ∃ σ1, asgT t (enc x) σ = some σ1 ∧ ∃ σ2 h2, fb σ1 h = .ok (.nx σ2) h2 ∧ R (f s x) σ2 h2) →
    ∀ (s : S) (σ : CSt) (h : Hc), R s σ h → ∃ σ' h', forF fb t g (xs.map enc) σ h = .ok (.nx σ') h' ∧ R (xs.foldl f s) σ' h'
  | [], _, s, σ, h, r => ⟨σ, h, by rw [List.map_nil, forF, if_pos (hg _ _ _ r)], r⟩
  | x :: xs, k, s, σ, h, r => by
    obtain ⟨σ1, e1, σ2, h2, e2, r2⟩ := k s x σ h (by simp) r
    obtain ⟨σ', h', e3, r3⟩ := forF_map enc R f hg xs (fun s y σ h hy => k s y σ h (by simp [hy])) (f s x) σ2 h2 r2
    refine ⟨σ', h', ?_, r3⟩
    rw [List.map_cons, forF, if_pos (hg _ _ _ r), e1]
    simp only [e2]
    exact e3
/-- .. with an exact state -/
theorem forF_mapE {α S : Type} {fb : CSt → Hc → SRes} {t : Tg} {g : Guard} (enc : α → D) (eσ : S → CSt) (eh : S → Hc) (f : S → α → S) (I : S → Prop) (hg : ∀ s, I s → gOk g (eh s) = true) (xs : List α) (k : ∀ s x, x ∈ xs → I s → I (f s x) ∧ ∃ σ1, asgT t (enc x) (eσ s) = some σ1 ∧ fb σ1 (eh s) = .ok (.nx (eσ (f s x))) (eh (f s x))) (s : S) (hI : I s) :
    forF fb t g (xs.map enc) (eσ s) (eh s) = .ok (.nx (eσ (xs.foldl f s))) (eh (xs.foldl f s)) ∧ I (xs.foldl f s) := by
  obtain ⟨σ', h', e, rfl, rfl, r⟩ := forF_map (fb := fb) (t := t) (g := g) enc (fun s σ h => σ = eσ s ∧ h = eh s ∧ I s) f (fun s σ h r => by obtain ⟨_, rfl, r⟩ := r; exact hg s r) xs (fun s x σ h hx r => by
    obtain ⟨rfl, rfl, r⟩ := r
    obtain ⟨i, σ1, e1, e2⟩ := k s x hx r
    exact ⟨σ1, e1, _, _, e2, rfl, rfl, i⟩) s (eσ s) (eh s) ⟨rfl, rfl, hI⟩
  exact ⟨e, r⟩
/-- a loop over made items that may leave with a value -/
theorem forF_ret {α : Type} {fb : CSt → Hc → SRes} {t : Tg} {g : Guard} (enc : α → D) (R : CSt → Hc → Prop) (B : SRes → Prop) (hg : ∀ σ h, R σ h → gOk g h = true) (hend : ∀ σ h, R σ h → B (.ok (.nx σ) h)) : ∀ (xs : List α), (∀ x σ h, x ∈ xs → R σ h → ∃ σ1, asgT t (enc x) σ = some σ1 ∧ ((∃ σ2 h2, fb σ1 h = .ok (.nx σ2) h2 ∧ R σ2 h2) ∨ (∃ d h2, fb σ1 h = .ok (.rt d) h2 ∧ B (.ok (.rt d) h2)))) →
    ∀ (σ : CSt) (h : Hc), R σ h → B (forF fb t g (xs.map enc) σ h)
  | [], _, σ, h, r => by rw [List.map_nil, forF, if_pos (hg _ _ r)]; exact hend σ h r
  | x :: xs, k, σ, h, r => by
    obtain ⟨σ1, e1, q⟩ := k x σ h (by simp) r
    rw [List.map_cons, forF, if_pos (hg _ _ r), e1]
    rcases q with ⟨σ2, h2, e2, r2⟩ | ⟨d, h2, e2, b⟩
    · simp only [e2]
      exact forF_ret enc R B hg hend xs (fun y σ h hy => k y σ h (by simp [hy])) σ2 h2 r2
    · simp only [e2]; exact b
/-- while: a size that falls -/
theorem whF_meas {fc : EvF} {fb : CSt → Hc → SRes} (I : Nat → CSt → Hc → Prop) (B : SRes → Prop) (k : ∀ m σ h, I m σ h → (∃ h', boolR (fc σ h) = .ok false h' ∧ B (.ok (.nx σ) h')) ∨ (∃ h1 σ2 h2, boolR (fc σ h) = .ok true h1 ∧ fb σ h1 = .ok (.nx σ2) h2 ∧ ∃ m', m' < m ∧ I m' σ2 h2)) :
    ∀ (n m : Nat) (σ : CSt) (h : Hc), m < n → I m σ h → B (whF fc fb n σ h) := by
  intro n
  induction n with
  | zero => intro m σ h hm; omega
  | succ n ih =>
    intro m σ h hm hI
    rw [whF]
    rcases k m σ h hI with ⟨h', e, b⟩ | ⟨h1, σ2, h2, e1, e2, m', hm', hI'⟩
    · simp only [e]; exact b
    · simp only [e1, e2]
      exact ih m' σ2 h2 (by omega) hI'
/-- while, as a statement -/
theorem whS {P : Env2} {t : CE} {body : CSs} {σ : CSt} {h : Hc} (I : Nat → CSt → Hc → Prop) (B : SRes → Prop) (k : ∀ m σ h, I m σ h → (∃ h', boolR (evE P.C t σ h) = .ok false h' ∧ B (.ok (.nx σ) h')) ∨ (∃ h1 σ2 h2, boolR (evE P.C t σ h) = .ok true h1 ∧ evSs P body σ h1 = .ok (.nx σ2) h2 ∧ ∃ m', m' < m ∧ I m' σ2 h2)) (m : Nat) (hm : m < 1000000000) (hI : I m σ h) : B (evS P (.whl t body) σ h) := by
  simp only [ES]
  exact whF_meas I B k wFuel m σ h hm hI

/-! ### plain data -/
mutual
/-- how deep -/
def D.dep : D → Nat
  | .tup xs => D.deps xs + 1
  | .lst xs => D.deps xs + 1
  | _ => 0
def D.deps : List D → Nat
  | [] => 0
  | x :: xs => max (D.dep x) (D.deps xs)
end
mutual
theorem depth_dep : ∀ (d : D), PyData.depth d.toPy ≤ d.dep + 1
  | .non => by simp [D.toPy, PyData.depth]
  | .bl _ => by simp [D.toPy, PyData.depth]
  | .int _ => by simp [D.toPy, PyData.depth]
  | .str _ => by simp [D.toPy, PyData.depth]
  | .ref _ => by simp [D.toPy, PyData.depth]
  | .fn _ => by simp [D.toPy, PyData.depth]
  | .tup xs => by
    have := depths_dep xs
    simp only [D.toPy, PyData.depth, D.dep]
    omega
  | .lst xs => by
    have := depths_dep xs
    simp only [D.toPy, PyData.depth, D.dep]
    omega
theorem depths_dep : ∀ (ds : List D), PyData.depthAll (D.toPys ds) ≤ D.deps ds + 1
  | [] => by simp [D.toPys, PyData.depthAll]
  | d :: ds => by
    have h1 := depth_dep d
    have h2 := depths_dep ds
    simp only [D.toPys, PyData.depthAll, D.deps]
    omega
end
mutual
/-- ints, texts, None, tuples and lists of these: Python's == is equality -/
def D.hard : D → Bool
  | .non => true
  | .int _ => true
  | .str x => PyData.strOk x
  | .tup xs => D.hards xs
  | .lst xs => D.hards xs
  | _ => false
def D.hards : List D → Bool
  | [] => true
  | x :: xs => D.hard x && D.hards xs
end
mutual
theorem hard_plain : ∀ {d : D}, d.hard = true → d.plain = true
  | .non, _ => rfl
  | .int _, _ => rfl
  | .str _, _ => rfl
  | .bl _, h => by simp [D.hard] at h
  | .ref _, h => by simp [D.hard] at h
  | .fn _, h => by simp [D.hard] at h
  | .tup xs, h => by
    simp only [D.hard] at h
    simp only [D.plain]
    exact hards_plain h
  | .lst xs, h => by
    simp only [D.hard] at h
    simp only [D.plain]
    exact hards_plain h
theorem hards_plain : ∀ {ds : List D}, D.hards ds = true → D.plains ds = true
  | [], _ => rfl
  | d :: ds, h => by
    simp only [D.hards, Bool.and_eq_true] at h
    simp only [D.plains, Bool.and_eq_true]
    exact ⟨hard_plain h.1, hards_plain h.2⟩
end
mutual
theorem canLay_hard : ∀ {d : D}, d.hard = true → PyData.canLay0 d.toPy = true
  | .non, _ => rfl
  | .bl _, h => by simp [D.hard] at h
  | .int _, _ => by simp [D.toPy, PyData.canLay0]
  | .str _, h => by simpa [D.toPy, PyData.canLay0, D.hard] using h
  | .ref _, h => by simp [D.hard] at h
  | .fn _, h => by simp [D.hard] at h
  | .tup xs, h => by
    simp only [D.hard] at h
    simp only [D.toPy, PyData.canLay0]
    exact canLays_hard h
  | .lst xs, h => by
    simp only [D.hard] at h
    simp only [D.toPy, PyData.canLay0]
    exact canLays_hard h
theorem canLays_hard : ∀ {ds : List D}, D.hards ds = true → PyData.canLayAll0 (D.toPys ds) = true
  | [], _ => rfl
  | d :: ds, h => by
    simp only [D.hards, Bool.and_eq_true] at h
    simp only [D.toPys, PyData.canLayAll0, Bool.and_eq_true]
    exact ⟨canLay_hard h.1, canLays_hard h.2⟩
end
theorem okD_of {d : D} (h : d.hard = true) (k : d.dep ≤ 63) : d.okD = true := by
  unfold D.okD SeqAt.shaped
  rw [hard_plain h, canLay_hard h, Bool.true_and, Bool.true_and, decide_eq_true_eq]
  have := depth_dep d
  omega
mutual
theorem eqv_hard : ∀ {a b : D}, a.hard = true → b.hard = true → PyData.eqv a.toPy b.toPy = decide (a = b)
  | .non, b, _, hb => by cases b <;> simp [D.hard] at hb <;> simp [D.toPy, PyData.eqv]
  | .int i, b, _, hb => by cases b <;> simp [D.hard] at hb <;> simp [D.toPy, PyData.eqv, Bool.beq_eq_decide_eq]
  | .str x, b, _, hb => by cases b <;> simp [D.hard] at hb <;> (simp [D.toPy, PyData.eqv]; try rw [Bool.eq_iff_iff]; try simp)
  | .bl _, _, h, _ => by simp [D.hard] at h
  | .ref _, _, h, _ => by simp [D.hard] at h
  | .fn _, _, h, _ => by simp [D.hard] at h
  | .tup xs, b, ha, hb => by
    cases b <;> simp [D.hard] at hb <;> simp [D.toPy, PyData.eqv]
    rw [eqvs_hard (by simpa [D.hard] using ha) hb]
  | .lst xs, b, ha, hb => by
    cases b <;> simp [D.hard] at hb <;> simp [D.toPy, PyData.eqv]
    rw [eqvs_hard (by simpa [D.hard] using ha) hb]
theorem eqvs_hard : ∀ {as bs : List D}, D.hards as = true → D.hards bs = true → PyData.eqvAll (D.toPys as) (D.toPys bs) = decide (as = bs)
  | [], bs, _, _ => by cases bs <;> simp [D.toPys, PyData.eqvAll]
  | a :: as, bs, ha, hb => by
    cases bs with
    | nil => simp [D.toPys, PyData.eqvAll]
    | cons b bs =>
      simp only [D.hards, Bool.and_eq_true] at ha hb
      simp only [D.toPys, PyData.eqvAll, eqv_hard ha.1 hb.1, eqvs_hard ha.2 hb.2, List.cons.injEq, Bool.decide_and]
end
theorem eqF_hard {h : Hc} {a b : D} (ha : a.hard = true) (hb : b.hard = true) (da : a.dep ≤ 63) (db : b.dep ≤ 63) : eqF h a b = some (decide (a = b)) := by
  have key : eqG h a b = some (decide (a = b)) := by
    unfold eqG
    have h1 : der h a = a := by cases a <;> first | rfl | simp [D.hard] at ha
    have h2 : der h b = b := by cases b <;> first | rfl | simp [D.hard] at hb
    rw [h1, h2, okD_of ha da, okD_of hb db, eqv_hard ha hb]
    rfl
  unfold eqF
  split
  · simp
  · simp
  · simp
  · exact key
abbrev natD (f : List Nat) : List D := f.map fun n => D.int (n : Nat)
theorem hards_natD : ∀ (l : List Nat), D.hards (natD l) = true
  | [] => rfl
  | a :: l => by
    rw [natD, List.map_cons, D.hards, D.hard, Bool.true_and]
    exact hards_natD l
theorem deps_natD : ∀ (l : List Nat), D.deps (natD l) = 0
  | [] => rfl
  | a :: l => by
    have := deps_natD l
    simp only [natD] at this
    simp [D.deps, D.dep, this]
theorem plains_natD (l : List Nat) : D.plains (natD l) = true := hards_plain (hards_natD l)
theorem any_natD {a : Nat} : ∀ (l : List Nat), ((natD l).any fun z => PyData.eqv z.toPy (D.int (a : Nat)).toPy) = decide (a ∈ l)
  | [] => rfl
  | b :: l => by
    rw [natD, List.map_cons, List.any_cons]
    have := any_natD (a := a) l
    rw [natD] at this
    rw [this]
    rw [Bool.eq_iff_iff]
    simp only [D.toPy, PyData.eqv, Bool.or_eq_true, decide_eq_true_eq, beq_iff_eq, List.mem_cons, Int.natCast_inj]
    exact ⟨fun h => h.imp Eq.symm id, fun h => h.imp Eq.symm id⟩
theorem cell_at {h : Hc} {c : Cell} : (h ++ [c])[h.length]? = some c := by simp
theorem cell_set {h : Hc} {c c' : Cell} : (h ++ [c]).set h.length c' = h ++ [c'] := by simp
theorem inF_nat {H : Hc} {a n : Nat} {l : List Nat} (e : H[n]? = some (.lst (natD l))) : inF H (.int (a : Nat)) (.ref n) = some (decide (a ∈ l)) := by
  have k1 : der H (.ref n) = .lst (natD l) := by simp only [der, e]
  have k2 : der H (.int (a : Nat)) = .int (a : Nat) := rfl
  have k3 : (D.int (a : Nat)).okD = true := okD_of rfl (Nat.zero_le _)
  have k4 : (D.lst (natD l)).okD = true := okD_of (by rw [D.hard]; exact hards_natD l) (by rw [D.dep, deps_natD]; omega)
  have k5 : inData H (.int (a : Nat)) (.lst (natD l)) (natD l) = some (decide (a ∈ l)) := by
    unfold inData
    simp only [k2, k3, k4, any_natD, Bool.and_self, if_true]
  unfold inF
  rw [k1]
  exact k5
theorem atD_nat {l : List Nat} {i : Nat} {v : Nat} (e : l[i]? = some v) : atD (natD l) (i : Int) = some (.int (v : Nat)) := by
  have hlt := (List.getElem?_eq_some_iff.mp e).1
  unfold atD ixD
  rw [if_pos (by omega), if_pos (by rw [natD, List.length_map]; omega)]
  simp [natD, e]
theorem atD_of {α : Type} {l : List α} {i : Nat} {v : α} (e : l[i]? = some v) : atD l (i : Int) = some v := by
  have hlt := (List.getElem?_eq_some_iff.mp e).1
  unfold atD ixD
  rw [if_pos (by omega), if_pos (by omega)]
  simp [e]
end Cl

namespace Cl
open PySem PySem.Spec PyProof.Rows L2
theorem forF_cntA {α : Type} {fb : CSt → Hc → SRes} {t : Tg} {g : Guard} (enc : α → D) (R : Nat → CSt → Hc → Prop) (hg : ∀ i σ h, R i σ h → gOk g h = true) : ∀ (xs : List α) (j : Nat), (∀ i x σ h, i < j + xs.length → x ∈ xs → R i σ h → ∃ σ1, asgT t (enc x) σ = some σ1 ∧ ∃ σ2 h2, fb σ1 h = .ok (.nx σ2) h2 ∧ R (i + 1) σ2 h2) → ∀ (σ : CSt) (h : Hc), R j σ h →
    ∃ σ' h', forF fb t g (xs.map enc) σ h = .ok (.nx σ') h' ∧ R (j + xs.length) σ' h'
  | [], j, _, σ, h, r => ⟨σ, h, by rw [List.map_nil, forF, if_pos (hg _ _ _ r)], r⟩
  | x :: xs, j, k, σ, h, r => by
    obtain ⟨σ1, e1, σ2, h2, e2, r2⟩ := k j x σ h (by simp) (by simp) r
    obtain ⟨σ', h', e3, r3⟩ := forF_cntA enc R hg xs (j + 1) (fun i y σ h hi hy => k i y σ h (by simp; omega) (by simp [hy])) σ2 h2 r2
    refine ⟨σ', h', ?_, by rw [List.length_cons, show j + (xs.length + 1) = j + 1 + xs.length by omega]; exact r3⟩
    rw [List.map_cons, forF, if_pos (hg _ _ _ r), e1]
    simp only [e2]
    exact e3
theorem forF_cnt {α : Type} {fb : CSt → Hc → SRes} {t : Tg} {g : Guard} (enc : α → D) (R : Nat → CSt → Hc → Prop) (hg : ∀ i σ h, R i σ h → gOk g h = true) (xs : List α) (k : ∀ i x σ h, i < xs.length → x ∈ xs → R i σ h → ∃ σ1, asgT t (enc x) σ = some σ1 ∧ ∃ σ2 h2, fb σ1 h = .ok (.nx σ2) h2 ∧ R (i + 1) σ2 h2) (σ : CSt) (h : Hc) (r : R 0 σ h) :
    ∃ σ' h', forF fb t g (xs.map enc) σ h = .ok (.nx σ') h' ∧ R xs.length σ' h' := by
  obtain ⟨σ', h', e, r'⟩ := forF_cntA enc R hg xs 0 (fun i x σ h hi => k i x σ h (by omega)) σ h r
  rw [Nat.zero_add] at r'
  exact ⟨σ', h', e, r'⟩
/-- a comprehension with effects -/
theorem compF_eff {fe fc : EvF} {t : Tg} {g : Guard} {σ : CSt} (I : Hc → Prop) (V : D → Prop) (hg : ∀ h, I h → gOk g h = true) : ∀ (xs : List D), (∀ x h, x ∈ xs → I h → ∃ σ1, asgT t x σ = some σ1 ∧ boolR (fc σ1 h) = .ok true h ∧ ∃ y h', fe σ1 h = .ok y h' ∧ I h' ∧ V y) → ∀ h, I h →
    ∃ ys h', compF fe fc t g σ xs h = .ok ys h' ∧ I h' ∧ ys.length = xs.length ∧ ∀ y ∈ ys, V y
  | [], _, h, i => ⟨[], h, by rw [compF, if_pos (hg h i)], i, rfl, fun y hy => by simp at hy⟩
  | x :: xs, k, h, i => by
    obtain ⟨σ1, e1, e2, y, h', e3, i', v⟩ := k x h (by simp) i
    obtain ⟨ys, h2, e4, i2, l2, v2⟩ := compF_eff I V hg xs (fun x h hx => k x h (by simp [hx])) h' i'
    refine ⟨y :: ys, h2, ?_, i2, by simp [l2], fun z hz => ?_⟩
    · rw [compF, if_pos (hg h i), e1]
      simp only [e2, e3, e4]
    · rcases List.mem_cons.mp hz with rfl | hz
      · exact v
      · exact v2 z hz
theorem natD_of {k : Nat} : ∀ {ys : List D}, (∀ y ∈ ys, ∃ v : Nat, v < k ∧ y = .int (v : Nat)) → ∃ L : List Nat, ys = natD L ∧ L.length = ys.length ∧ ∀ v ∈ L, v < k
  | [], _ => ⟨[], rfl, rfl, fun v hv => by simp at hv⟩
  | y :: ys, h => by
    obtain ⟨v, hv, rfl⟩ := h y (by simp)
    obtain ⟨L, rfl, e, hl⟩ := natD_of (ys := ys) fun z hz => h z (by simp [hz])
    refine ⟨v :: L, rfl, by simp, fun z hz => ?_⟩
    rcases List.mem_cons.mp hz with rfl | hz
    · exact hv
    · exact hl z hz
theorem ev_var {C : Caller} {i : Nat} {σ : CSt} {h : Hc} {d : D} (e : σ[i]? = some (some d)) : evE C (.var i) σ h = .ok d h := by simp only [EV, e]
theorem ev_cst {C : Caller} {d : D} {σ : CSt} {h : Hc} : evE C (.cst d) σ h = .ok d h := by simp only [EV]
theorem ev_bin {C : Caller} {op : Operator} {a b : CE} {σ : CSt} {h h1 h2 : Hc} {x y z : D} (ka : evE C a σ h = .ok x h1) (kb : evE C b σ h1 = .ok y h2) (kz : binF h2 op x y = some z) : evE C (.bin op a b) σ h = .ok z h2 := by simp only [EV, EB, ka, kb, kz]
theorem ev_cmp {C : Caller} {op : CmpOp} {a b : CE} {σ : CSt} {h h1 h2 : Hc} {x y : D} {z : Bool} (ka : evE C a σ h = .ok x h1) (kb : evE C b σ h1 = .ok y h2) (kz : cmpF h2 op x y = some z) : evE C (.cmp op a b) σ h = .ok (.bl z) h2 := by simp only [EV, EB, ka, kb, kz, Option.map_some]
theorem ev_ite {C : Caller} {t a b : CE} {σ : CSt} {h h1 : Hc} {c : Bool} (k : evE C t σ h = .ok (.bl c) h1) : evE C (.ite t a b) σ h = if c then evE C a σ h1 else evE C b σ h1 := by
  simp only [EV, EB, k]
  cases c <;> rfl
theorem ev_not {C : Caller} {t : CE} {σ : CSt} {h h1 : Hc} {c : Bool} (k : evE C t σ h = .ok (.bl c) h1) : evE C (.not_ t) σ h = .ok (.bl (!c)) h1 := by simp only [EV, EB, k]
theorem ev_and {C : Caller} {a b : CE} {σ : CSt} {h h1 : Hc} {c : Bool} (k : evE C a σ h = .ok (.bl c) h1) : evE C (.and_ a b) σ h = if c then evE C b σ h1 else .ok (.bl false) h1 := by
  simp only [EV, EB, k]
  cases c <;> rfl
theorem ev_or {C : Caller} {a b : CE} {σ : CSt} {h h1 : Hc} {c : Bool} (k : evE C a σ h = .ok (.bl c) h1) : evE C (.or_ a b) σ h = if c then .ok (.bl true) h1 else evE C b σ h1 := by
  simp only [EV, EB, k]
  cases c <;> rfl
theorem ev_idx {C : Caller} {a i : CE} {σ : CSt} {h h1 h2 : Hc} {x y z : D} (ka : evE C a σ h = .ok x h1) (kb : evE C i σ h1 = .ok y h2) (kz : idxF h2 x y = some z) : evE C (.idx a i) σ h = .ok z h2 := by simp only [EV, EB, ka, kb, kz]
theorem ev_bi1 {C : Caller} {b : Bi} {a : CE} {σ : CSt} {h h1 : Hc} {x z : D} (ka : evE C a σ h = .ok x h1) (kz : biF h1 b [x] = some z) : evE C (.bi b (.cons a .nil)) σ h = .ok z h1 := by simp only [EV, EB, ka, kz]
theorem ev_bi2 {C : Caller} {b : Bi} {a a' : CE} {σ : CSt} {h h1 h2 : Hc} {x y z : D} (ka : evE C a σ h = .ok x h1) (kb : evE C a' σ h1 = .ok y h2) (kz : biF h2 b [x, y] = some z) : evE C (.bi b (.cons a (.cons a' .nil))) σ h = .ok z h2 := by simp only [EV, EB, ka, kb, kz]
theorem ev_c1 {C : Caller} {f : Nat} {a : CE} {σ : CSt} {h h1 : Hc} {x : D} (ka : evE C a σ h = .ok x h1) : evE C (.call f (.cons a .nil)) σ h = C f [x] h1 := by simp only [EV, EB, ka]
theorem ev_c2 {C : Caller} {f : Nat} {a b : CE} {σ : CSt} {h h1 h2 : Hc} {x y : D} (ka : evE C a σ h = .ok x h1) (kb : evE C b σ h1 = .ok y h2) : evE C (.call f (.cons a (.cons b .nil))) σ h = C f [x, y] h2 := by simp only [EV, EB, ka, kb]
theorem ev_c3 {C : Caller} {f : Nat} {a b c : CE} {σ : CSt} {h h1 h2 h3 : Hc} {x y z : D} (ka : evE C a σ h = .ok x h1) (kb : evE C b σ h1 = .ok y h2) (kc : evE C c σ h2 = .ok z h3) : evE C (.call f (.cons a (.cons b (.cons c .nil)))) σ h = C f [x, y, z] h3 := by simp only [EV, EB, ka, kb, kc]
theorem ev_t1 {C : Caller} {a : CE} {σ : CSt} {h h1 : Hc} {x : D} (ka : evE C a σ h = .ok x h1) : evE C (.tup (.cons a .nil)) σ h = .ok (.tup [x]) h1 := by simp only [EV, EB, ka]
theorem ev_t2 {C : Caller} {a b : CE} {σ : CSt} {h h1 h2 : Hc} {x y : D} (ka : evE C a σ h = .ok x h1) (kb : evE C b σ h1 = .ok y h2) : evE C (.tup (.cons a (.cons b .nil))) σ h = .ok (.tup [x, y]) h2 := by simp only [EV, EB, ka, kb]
theorem ev_t3 {C : Caller} {a b c : CE} {σ : CSt} {h h1 h2 h3 : Hc} {x y z : D} (ka : evE C a σ h = .ok x h1) (kb : evE C b σ h1 = .ok y h2) (kc : evE C c σ h2 = .ok z h3) : evE C (.tup (.cons a (.cons b (.cons c .nil)))) σ h = .ok (.tup [x, y, z]) h3 := by simp only [EV, EB, ka, kb, kc]
theorem ev_nil {C : Caller} {σ : CSt} {h : Hc} : evEs C .nil σ h = .ok [] h := by simp only [EV]
theorem ev_cons {C : Caller} {e : CE} {es : CEs} {σ : CSt} {h h1 h2 : Hc} {x : D} {xs : List D} (ka : evE C e σ h = .ok x h1) (kb : evEs C es σ h1 = .ok xs h2) : evEs C (.cons e es) σ h = .ok (x :: xs) h2 := by simp only [EV, EB, ka, kb]
theorem ev_tup {C : Caller} {es : CEs} {σ : CSt} {h h1 : Hc} {xs : List D} (k : evEs C es σ h = .ok xs h1) : evE C (.tup es) σ h = .ok (.tup xs) h1 := by simp only [EV, EB, k]
theorem ev_lst {C : Caller} {es : CEs} {σ : CSt} {h h1 : Hc} {xs : List D} (k : evEs C es σ h = .ok xs h1) : evE C (.lst es) σ h = .ok (.lst xs) h1 := by simp only [EV, EB, k]
theorem ev_call {C : Caller} {f : Nat} {es : CEs} {σ : CSt} {h h1 : Hc} {xs : List D} (k : evEs C es σ h = .ok xs h1) : evE C (.call f es) σ h = C f xs h1 := by simp only [EV, EB, k]
theorem ev_cell {C : Caller} {e : CE} {σ : CSt} {h h1 : Hc} {xs : List D} (k : evE C e σ h = .ok (.lst xs) h1) : evE C (.cell e) σ h = .ok (.ref h1.length) (h1 ++ [.lst xs]) := by simp only [EV, EB, k]
theorem ev_isin {C : Caller} {a : CE} {ts : List Ty} {σ : CSt} {h h1 : Hc} {x : D} {b : Bool} (ka : evE C a σ h = .ok x h1) (kb : isFs h1 ts x = some b) : evE C (.isin a ts) σ h = .ok (.bl b) h1 := by simp only [EV, EB, ka, kb, Option.map_some]
theorem ev_neg {C : Caller} {a : CE} {σ : CSt} {h h1 : Hc} {i : Int} (ka : evE C a σ h = .ok (.int i) h1) : evE C (.neg a) σ h = .ok (.int (-i)) h1 := by simp only [EV, EB, ka]
theorem optR_no {f : Hc → ERes D} {h : Hc} : optR (CE.isAbs .absent) f h = .ok none h := rfl
theorem optR_is {e : CE} {f : Hc → ERes D} {h h1 : Hc} {i : Int} (hb : e.isAbs = false) (k : f h = .ok (.int i) h1) : optR e.isAbs f h = .ok (some i) h1 := by
  unfold optR
  rw [hb, if_neg (by simp), k]
  rfl
theorem ev_slu {C : Caller} {a hi : CE} {σ : CSt} {h h1 h2 : Hc} {x z : D} {u : Int} (hb : hi.isAbs = false) (ka : evE C a σ h = .ok x h1) (kb : evE C hi σ h1 = .ok (.int u) h2) (kz : sliceF h2 x none (some u) = some z) : evE C (.sl a .absent hi) σ h = .ok z h2 := by
  simp only [EV, EB, ka, optR_no, optR_is hb kb, kz]
theorem ev_sll {C : Caller} {a lo : CE} {σ : CSt} {h h1 h2 : Hc} {x z : D} {u : Int} (hb : lo.isAbs = false) (ka : evE C a σ h = .ok x h1) (kb : evE C lo σ h1 = .ok (.int u) h2) (kz : sliceF h2 x (some u) none = some z) : evE C (.sl a lo .absent) σ h = .ok z h2 := by
  simp only [EV, EB, ka, optR_no, optR_is hb kb, kz]
theorem cutD_mem {α : Type} {xs : List α} {lo hi : Option Int} {x : α} (h : x ∈ cutD xs lo hi) : x ∈ xs := List.mem_of_mem_drop (List.mem_of_mem_take h)
theorem cutD_len {α : Type} {xs : List α} {lo hi : Option Int} : (cutD xs lo hi).length ≤ xs.length := by
  unfold cutD
  rw [List.length_take, List.length_drop]
  omega
theorem exprE {P : Env2} {e : CE} {σ : CSt} {h h' : Hc} {d : D} (k : evE P.C e σ h = .ok d h') : evS P (.expr e) σ h = .ok (.nx σ) h' := by simp only [ES, EB, k]
theorem exprX {P : Env2} {e : CE} {σ : CSt} {h h' : Hc} {x : Exc} (k : evE P.C e σ h = .exc x h') : evS P (.expr e) σ h = .exc x σ h' := by simp only [ES, EB, k]
theorem ev_call1 {C : Caller} {f i : Nat} {σ : CSt} {h : Hc} {d : D} {r : ERes D} (e : σ[i]? = some (some d)) (k : C f [d] h = r) : evE C (.call f (.cons (.var i) .nil)) σ h = r := by
  simp only [EV, EB, e, k]
theorem allB_map {α : Type} (p : α → Bool) : ∀ xs : List α, allB (xs.map fun x => D.bl (p x)) = some (xs.map p)
  | [] => rfl
  | x :: xs => by simp [allB, allB_map p xs]
theorem plains_all {xs : List D} (h : D.plains xs = true) : ∀ x ∈ xs, x.plain = true := by
  induction xs with
  | nil => intro x hx; simp at hx
  | cons y ys ih =>
    simp only [D.plains, Bool.and_eq_true] at h
    intro x hx
    rcases List.mem_cons.mp hx with rfl | hx
    · exact h.1
    · exact ih h.2 x hx
theorem plains_iff {xs : List D} : D.plains xs = true ↔ ∀ x ∈ xs, x.plain = true := by
  constructor
  · exact plains_all
  · intro h
    induction xs with
    | nil => rfl
    | cons x xs ih =>
      rw [D.plains, h x (by simp), ih fun y hy => h y (by simp [hy])]
      rfl
theorem rngD_nat : ∀ (n i : Nat), rngD (i : Int) 1 n = natD (List.range' i n)
  | 0, i => rfl
  | n + 1, i => by
    rw [rngD, List.range'_succ, natD, List.map_cons]
    have := rngD_nat n (i + 1)
    rw [natD] at this
    rw [← this]
    rfl
theorem rngD_zero (n : Nat) : rngD 0 1 n = natD (List.range n) := by
  rw [List.range_eq_range']; exact rngD_nat n 0
theorem atD_natG {l : List Nat} {i : Nat} (h : i < l.length) : atD (natD l) (i : Int) = some (.int (l.getD i 0 : Nat)) := by
  refine atD_nat ?_
  rw [List.getElem?_eq_getElem h, List.getD_eq_getElem?_getD, List.getElem?_eq_getElem h]
  rfl
theorem natD_plain_tup {l : List Nat} : (D.tup (natD l)).plain = true := by rw [D.plain]; exact plains_natD l
theorem mulOk_r {a b : Int} (h : bitsI b ≤ 64) : mulOk a b = true := by unfold mulOk; rw [decide_eq_true h, Bool.or_true]; rfl
theorem divOk_s {m : Int} (h0 : 0 < m) (h : m < 2 ^ 62) : divOk m = true := by
  unfold divOk
  rw [decide_eq_true (by omega), Bool.true_and, decide_eq_true_eq]
  have : m.natAbs < 2 ^ 62 := by omega
  have := (Nat.log2_lt (by omega : m.natAbs ≠ 0)).mpr this
  omega
theorem finR_len {h h' : Hc} {v : D} (e : h'.length = h.length) : finR h v h' = .ok v h' := by
  unfold finR
  split
  · rw [← e, List.take_length]
  · rfl
theorem mulOk_l {a b : Int} (h : bitsI a ≤ 64) : mulOk a b = true := by unfold mulOk; rw [decide_eq_true h]; rfl
end Cl

namespace Cl
open PySem PySem.Spec PyProof.Rows L2
/-! ### the draws that all laws have -/
def BL_state_0 : CSs := (.cons (.asg (.v 1) (.bin .Add (.bin .Mult (.var 1) (.cst (.int 1000003))) (.bi .abs (.cons (.var 3) .nil)))) (.cons (.asg (.v 2) (.bin .Mod (.bi .int (.cons (.bin .Add (.bin .Mult (.var 2) (.cst (.int 48271))) (.var 3)) .nil)) (.cst (.int 2147483647)))) .nil))
def BD_state : CDef := ⟨4, 1, (.cons (.asg (.v 1) (.cst (.int 0))) (.cons (.asg (.v 2) (.cst (.int 1))) (.cons (.for_ (.v 3) (.seq (.sl (.var 0) .absent (.cst (.int 63)))) BL_state_0) (.cons (.ret (.cell (.lst (.cons (.var 1) (.cons (.var 2) .nil))))) .nil))))⟩
def BD_take : CDef := ⟨3, 2, (.cons (.ifs (.cmp .Gt (.idx (.var 0) (.cst (.int 0))) (.cst (.int 0))) (.cons (.asg (.v 2) (.bin .Mod (.bi .int (.cons (.idx (.var 0) (.cst (.int 0))) .nil)) (.var 1))) (.cons (.sput (.var 0) (.cst (.int 0)) (.bin .FloorDiv (.idx (.var 0) (.cst (.int 0))) (.var 1))) (.cons (.ret (.var 2)) .nil))) .nil) (.cons (.sput (.var 0) (.cst (.int 1)) (.bin .Mod (.bi .int (.cons (.bin .Add (.bin .Mult (.idx (.var 0) (.cst (.int 1))) (.cst (.int 48271))) (.cst (.int 11))) .nil)) (.cst (.int 2147483647)))) (.cons (.ret (.bin .Mod (.bi .int (.cons (.bin .FloorDiv (.idx (.var 0) (.cst (.int 1))) (.cst (.int 7))) .nil)) (.var 1))) .nil)))⟩
def HX (ns : List D) (s t : Int) (X : Hc) : Hc := .ro ns :: .lst [.int s, .int t] :: X
theorem run_take {P : Pg} {it : Nat} (hd : P.defs[it]? = some BD_take) {n : Nat} {ns : List D} {s t m : Int} {X : Hc} (h0 : 0 < m) (h1 : m < 2 ^ 62) :
    ∃ (v : Nat) (s' t' : Int), (v : Int) < m ∧ callN P (n + 1) it [.ref 1, .int m] (HX ns s t X) = .ok (.int (v : Nat)) (HX ns s' t' X) := by
  have d7 : divOk 7 = true := by decide
  have dm := divOk_s h0 h1
  have m0 : ¬ m = 0 := by omega
  by_cases hs : 0 < s
  · have hr : 0 ≤ s.fmod m := Int.fmod_nonneg_of_pos _ h0
    have hlt : s.fmod m < m := Int.fmod_lt_of_pos _ h0
    refine ⟨(s.fmod m).toNat, s.fdiv m, t, by omega, ?_⟩
    rw [Int.toNat_of_nonneg hr]
    rw [call_rt0 (σ := [some (.ref 1), some (.int m), none]) (d := BD_take) (b := BD_take.body) (h' := HX ns (s.fdiv m) t X) (v := .int (s.fmod m)) hd rfl rfl rfl]
    · exact finR_len rfl
    · show evSs _ ((.cons (.ifs (.cmp .Gt (.idx (.var 0) (.cst (.int 0))) (.cst (.int 0))) (.cons (.asg (.v 2) (.bin .Mod (.bi .int (.cons (.idx (.var 0) (.cst (.int 0))) .nil)) (.var 1))) (.cons (.sput (.var 0) (.cst (.int 0)) (.bin .FloorDiv (.idx (.var 0) (.cst (.int 0))) (.var 1))) (.cons (.ret (.var 2)) .nil))) .nil) (.cons (.sput (.var 0) (.cst (.int 1)) (.bin .Mod (.bi .int (.cons (.bin .Add (.bin .Mult (.idx (.var 0) (.cst (.int 1))) (.cst (.int 48271))) (.cst (.int 11))) .nil)) (.cst (.int 2147483647)))) (.cons (.ret (.bin .Mod (.bi .int (.cons (.bin .FloorDiv (.idx (.var 0) (.cst (.int 1))) (.cst (.int 7))) .nil)) (.var 1))) .nil)))) _ _ = _
      unfold HX
      simp [ES, EV, EB, asgT, idxF, atD, ixD, cmpF, ltF, hs, biF, intF, binF, int2, m0, dm, putF]
  · have hr : ∀ x : Int, 0 ≤ x.fmod m := fun x => Int.fmod_nonneg_of_pos _ h0
    have hlt : ∀ x : Int, x.fmod m < m := fun x => Int.fmod_lt_of_pos _ h0
    have km : mulOk t 48271 = true := mulOk_r (by decide)
    refine ⟨((((t * 48271 + 11).fmod 2147483647).fdiv 7).fmod m).toNat, s, (t * 48271 + 11).fmod 2147483647, by have := hr (((t * 48271 + 11).fmod 2147483647).fdiv 7); have := hlt (((t * 48271 + 11).fmod 2147483647).fdiv 7); omega, ?_⟩
    rw [Int.toNat_of_nonneg (hr _)]
    rw [call_rt0 (σ := [some (.ref 1), some (.int m), none]) (d := BD_take) (b := BD_take.body) (h' := HX ns s ((t * 48271 + 11).fmod 2147483647) X) (v := .int ((((t * 48271 + 11).fmod 2147483647).fdiv 7).fmod m)) hd rfl rfl rfl]
    · exact finR_len rfl
    · show evSs _ ((.cons (.ifs (.cmp .Gt (.idx (.var 0) (.cst (.int 0))) (.cst (.int 0))) (.cons (.asg (.v 2) (.bin .Mod (.bi .int (.cons (.idx (.var 0) (.cst (.int 0))) .nil)) (.var 1))) (.cons (.sput (.var 0) (.cst (.int 0)) (.bin .FloorDiv (.idx (.var 0) (.cst (.int 0))) (.var 1))) (.cons (.ret (.var 2)) .nil))) .nil) (.cons (.sput (.var 0) (.cst (.int 1)) (.bin .Mod (.bi .int (.cons (.bin .Add (.bin .Mult (.idx (.var 0) (.cst (.int 1))) (.cst (.int 48271))) (.cst (.int 11))) .nil)) (.cst (.int 2147483647)))) (.cons (.ret (.bin .Mod (.bi .int (.cons (.bin .FloorDiv (.idx (.var 0) (.cst (.int 1))) (.cst (.int 7))) .nil)) (.var 1))) .nil)))) _ _ = _
      unfold HX
      simp [ES, EV, EB, idxF, atD, ixD, cmpF, ltF, hs, biF, intF, binF, int2, addF, mulF, km, m0, dm, d7, putF]
theorem run_state {P : Pg} {ia : Nat} (hd : P.defs[ia]? = some BD_state) {n : Nat} {ns : List Int} (hl : ns.length ≤ 63) : ∃ s t : Int, callN P (n + 1) ia [.ref 0] [.ro (ns.map D.int)] = .ok (.ref 1) (HX (ns.map D.int) s t []) := by
  obtain ⟨σ', H', e, ⟨s, t, o3, rfl⟩, hH⟩ := forF_map (fb := evSs ⟨callN P n, P.sub⟩ BL_state_0) (t := .v 3) (g := []) D.int (fun (_ : Unit) σ H => (∃ s t o3, σ = [some (.ref 0), some (.int s), some (.int t), o3]) ∧ H = [.ro (ns.map D.int)]) (fun _ _ => ()) (fun _ _ _ _ => rfl) ns (fun _ c σ H hm R => by
    obtain ⟨⟨s, t, o3, rfl⟩, rfl⟩ := R
    have k1 : mulOk s 1000003 = true := mulOk_r (by decide)
    have k2 : mulOk t 48271 = true := mulOk_r (by decide)
    refine ⟨_, rfl, [some (.ref 0), some (.int (s * 1000003 + if c < 0 then -c else c)), some (.int ((t * 48271 + c).fmod 2147483647)), some (.int c)], [.ro (ns.map D.int)], ?_, ⟨_, _, _, rfl⟩, rfl⟩
    unfold BL_state_0
    simp [ES, EV, EB, asgT, binF, addF, mulF, k1, k2, biF, intF, int2]) () [some (.ref 0), some (.int 0), some (.int 1), none] [.ro (ns.map D.int)] ⟨⟨_, _, _, rfl⟩, rfl⟩
  rw [hH] at e
  refine ⟨s, t, ?_⟩
  rw [call_rt0 (σ := [some (.ref 0), none, none, none]) (d := BD_state) (b := BD_state.body) (h' := HX (ns.map D.int) s t []) (v := .ref 1) hd rfl rfl rfl]
  · rfl
  · show evSs _ ((.cons (.asg (.v 1) (.cst (.int 0))) (.cons (.asg (.v 2) (.cst (.int 1))) (.cons (.for_ (.v 3) (.seq (.sl (.var 0) .absent (.cst (.int 63)))) BL_state_0) (.cons (.ret (.cell (.lst (.cons (.var 1) (.cons (.var 2) .nil))))) .nil))))) _ _ = _
    rw [seqN (σ' := [some (.ref 0), some (.int 0), none, none]) (h' := [.ro (ns.map D.int)]) (asgV (by simp only [EV])), seqN (σ' := [some (.ref 0), some (.int 0), some (.int 1), none]) (h' := [.ro (ns.map D.int)]) (asgV (by simp only [EV]))]
    rw [seqN (σ' := [some (.ref 0), some (.int s), some (.int t), o3]) (h' := [.ro (ns.map D.int)])]
    · refine seqR (retE ?_)
      simp only [EV, EB, List.getElem?_cons_zero, List.getElem?_cons_succ]
      rfl
    · rw [forS (P := ⟨callN P n, P.sub⟩) (h' := [.ro (ns.map D.int)]) (d := .lst (ns.map D.int)) (xs := ns.map D.int) (g := []) _ rfl rfl]
      · exact e
      · simp only [EV, EB, List.getElem?_cons_zero, CE.isAbs, optR, sliceF, der]
        simp only [if_true, EB]
        rw [if_neg (by simp)]
        simp only [EB, cutD, slx]
        simp [EB]
        rw [List.take_of_length_le (by rw [List.length_map]; omega)]
theorem take2 {C : Caller} {it : Nat} {ns : List D} {s t : Int} {X : Hc} {e1 e2 : CE} {σ : CSt} {m : Int} (hC : ∀ s t m X, 0 < m → m < 2 ^ 62 → ∃ (v : Nat) (s' t' : Int), (v : Int) < m ∧ C it [.ref 1, .int m] (HX ns s t X) = .ok (.int (v : Nat)) (HX ns s' t' X)) (h0 : 0 < m) (h1 : m < 2 ^ 62) (k1 : evE C e1 σ (HX ns s t X) = .ok (.ref 1) (HX ns s t X)) (k2 : evE C e2 σ (HX ns s t X) = .ok (.int m) (HX ns s t X)) :
    ∃ (v : Nat) (s' t' : Int), (v : Int) < m ∧ evE C (.call it (.cons e1 (.cons e2 .nil))) σ (HX ns s t X) = .ok (.int (v : Nat)) (HX ns s' t' X) := by
  obtain ⟨v, s', t', hv, e⟩ := hC s t m X h0 h1
  exact ⟨v, s', t', hv, by simp only [EV, EB, k1, k2, e]⟩
abbrev TakeOk (C : Caller) (it : Nat) (ns : List D) : Prop := ∀ s t m X, 0 < m → m < 2 ^ 62 → ∃ (v : Nat) (s' t' : Int), (v : Int) < m ∧ C it [.ref 1, .int m] (HX ns s t X) = .ok (.int (v : Nat)) (HX ns s' t' X)
theorem take_ok {P : Pg} {it : Nat} (hd : P.defs[it]? = some BD_take) {n : Nat} {ns : List D} : TakeOk (callN P (n + 1)) it ns := fun s t m X h0 h1 => run_take hd h0 h1
/-- a menu's item, drawn -/
theorem menu {C : Caller} {it : Nat} {ns : List D} {s t : Int} {X : Hc} {e1 : CE} {σ : CSt} (hC : TakeOk C it ns) (ms : List Nat) (hm : 0 < ms.length) (hs : ms.length < 100) (k1 : ∀ s t X, evE C e1 σ (HX ns s t X) = .ok (.ref 1) (HX ns s t X)) (es : CEs) (he : ∀ h, evEs C es σ h = .ok (natD ms) h) (k : Int) (hk : k = ms.length) :
    ∃ (v : Nat) (s' t' : Int), v ∈ ms ∧ evE C (.idx (.lst es) (.call it (.cons e1 (.cons (.cst (.int k)) .nil)))) σ (HX ns s t X) = .ok (.int (v : Nat)) (HX ns s' t' X) := by
  obtain ⟨v, s', t', hv, e⟩ := take2 (m := k) (e2 := .cst (.int k)) hC (by omega) (by omega) (k1 s t X) (by simp only [EV])
  have hlt : v < ms.length := by omega
  refine ⟨ms[v], s', t', List.getElem_mem hlt, ?_⟩
  exact ev_idx (ev_lst (he _)) e (atD_nat (List.getElem?_eq_getElem hlt))
/-- a row of drawn numbers -/
theorem comp_draw {C : Caller} {ns : List D} {X : Hc} {elt a : CE} {i k : Nat} {σ : CSt} {s t s1 t1 : Int} {m : Nat} (hm : m ≤ 1000) (ea : evE C a σ (HX ns s t X) = .ok (.int (m : Nat)) (HX ns s1 t1 X))
    (el : ∀ (x : Nat) (s t : Int), ∃ (v : Nat) (s' t' : Int), v < k ∧ evE C elt ((cwipe σ [i]).set i (some (.int (x : Nat)))) (HX ns s t X) = .ok (.int (v : Nat)) (HX ns s' t' X)) :
    ∃ (L : List Nat) (s' t' : Int), L.length = m ∧ (∀ v ∈ L, v < k) ∧ evE C (.comp elt (.v i) (.rng1 a) .absent [i]) σ (HX ns s t X) = .ok (.lst (natD L)) (HX ns s' t' X) := by
  obtain ⟨ys, h', e, ⟨s', t', rfl⟩, hl, hv⟩ := compF_eff (fe := evE C elt) (fc := condR true (evE C .absent)) (t := .v i) (g := []) (σ := cwipe σ [i]) (fun h => ∃ s t, h = HX ns s t X) (fun y => ∃ v : Nat, v < k ∧ y = .int (v : Nat)) (fun _ _ => rfl) (natD (List.range m)) (fun x h hx I => by
    obtain ⟨s, t, rfl⟩ := I
    obtain ⟨x, _, rfl⟩ := List.mem_map.mp hx
    obtain ⟨v, s', t', hv, e⟩ := el x s t
    exact ⟨_, rfl, rfl, _, _, e, ⟨s', t', rfl⟩, v, hv, rfl⟩) (HX ns s1 t1 X) ⟨s1, t1, rfl⟩
  obtain ⟨L, rfl, hL, hk⟩ := natD_of hv
  refine ⟨L, s', t', by rw [hL, hl, natD, List.length_map, List.length_range], hk, ?_⟩
  have hsm : smallI (m : Nat) = true := by unfold smallI; simp; omega
  simp only [EV, EB, ea, hsm, if_true]
  rw [if_pos (by rw [Int.toNat_natCast, rngD_zero, natD, List.length_map, List.length_range]; unfold line; omega), Int.toNat_natCast, rngD_zero]
  simp only [CE.isAbs, e, lmap, List.nil_append]
theorem menuD {C : Caller} {it : Nat} {ns : List D} {s t : Int} {X : Hc} {e1 : CE} {σ : CSt} (hC : TakeOk C it ns) (ms : List D) (hm : 0 < ms.length) (hs : ms.length < 100) (k1 : ∀ s t X, evE C e1 σ (HX ns s t X) = .ok (.ref 1) (HX ns s t X)) (es : CEs) (he : evEs C es σ (HX ns s t X) = .ok ms (HX ns s t X)) (k : Int) (hk : k = ms.length) :
    ∃ (v : D) (s' t' : Int), v ∈ ms ∧ evE C (.idx (.lst es) (.call it (.cons e1 (.cons (.cst (.int k)) .nil)))) σ (HX ns s t X) = .ok v (HX ns s' t' X) := by
  obtain ⟨v, s', t', hv, e⟩ := take2 (m := k) (e2 := .cst (.int k)) hC (by omega) (by omega) (k1 s t X) ev_cst
  have hlt : v < ms.length := by omega
  exact ⟨ms[v], s', t', List.getElem_mem hlt, ev_idx (ev_lst he) e (atD_of (List.getElem?_eq_getElem hlt))⟩
/-! ### expressions that make plain data -/
def PE (C : Caller) (σ : CSt) (h : Hc) (e : CE) : Prop := ∃ d, evE C e σ h = .ok d h ∧ d.plain = true
def PEs (C : Caller) (σ : CSt) (h : Hc) (es : CEs) (n : Nat) : Prop := ∃ ds, evEs C es σ h = .ok ds h ∧ D.plains ds = true ∧ ds.length = n
/-- .. a tuple of at most n items -/
def PT (C : Caller) (σ : CSt) (h : Hc) (e : CE) (n : Nat) : Prop := ∃ ds, evE C e σ h = .ok (.tup ds) h ∧ D.plains ds = true ∧ ds.length ≤ n
section
variable {C : Caller} {σ : CSt} {h : Hc}
theorem PE.c {d : D} (hp : d.plain = true) : PE C σ h (.cst d) := ⟨d, ev_cst, hp⟩
theorem PE.v {i : Nat} {d : D} (e : σ[i]? = some (some d)) (hp : d.plain = true) : PE C σ h (.var i) := ⟨d, ev_var e, hp⟩
theorem PEs.n : PEs C σ h .nil 0 := ⟨[], ev_nil, rfl, rfl⟩
theorem PEs.k {e : CE} {es : CEs} {n : Nat} (a : PE C σ h e) (b : PEs C σ h es n) : PEs C σ h (.cons e es) (n + 1) := by
  obtain ⟨d, e1, p1⟩ := a
  obtain ⟨ds, e2, p2, l2⟩ := b
  exact ⟨d :: ds, ev_cons e1 e2, by rw [D.plains, p1, p2]; rfl, by simp [l2]⟩
theorem PT.t {es : CEs} {n : Nat} (a : PEs C σ h es n) : PT C σ h (.tup es) n := by
  obtain ⟨ds, e, p, l⟩ := a
  exact ⟨ds, ev_tup e, p, by omega⟩
theorem PT.e {e : CE} {n : Nat} (a : PT C σ h e n) : PE C σ h e := by
  obtain ⟨ds, e, p, l⟩ := a
  exact ⟨_, e, by rw [D.plain]; exact p⟩
theorem PT.v {i : Nat} {ds : List D} {n : Nat} (e : σ[i]? = some (some (.tup ds))) (hp : D.plains ds = true) (hl : ds.length ≤ n) : PT C σ h (.var i) n := ⟨ds, ev_var e, hp, hl⟩
theorem PT.l {e : CE} {n : Nat} (a : PT C σ h e n) : PE C σ h (.bi .list (.cons e .nil)) := by
  obtain ⟨ds, e, p, l⟩ := a
  exact ⟨.lst ds, ev_bi1 e rfl, by rw [D.plain]; exact p⟩
theorem plains_app {xs ys : List D} (hx : D.plains xs = true) (hy : D.plains ys = true) : D.plains (xs ++ ys) = true := by
  rw [plains_iff] at *
  intro x h
  rcases List.mem_append.mp h with h | h
  · exact hx x h
  · exact hy x h
theorem PT.app {a b : CE} {n m : Nat} (ka : PT C σ h a n) (kb : PT C σ h b m) (hl : n + m ≤ 1000) : PT C σ h (.bin .Add a b) (n + m) := by
  obtain ⟨xs, e1, p1, l1⟩ := ka
  obtain ⟨ys, e2, p2, l2⟩ := kb
  refine ⟨xs ++ ys, ev_bin e1 e2 ?_, plains_app p1 p2, by rw [List.length_append]; omega⟩
  simp only [binF, addF]
  exact if_pos (by unfold line; omega)
theorem plains_rep {xs : List D} (h : D.plains xs = true) : ∀ n, D.plains (List.replicate n xs).flatten = true
  | 0 => rfl
  | n + 1 => by rw [List.replicate_succ, List.flatten_cons]; exact plains_app h (plains_rep h n)
theorem rep_len {xs : List D} : ∀ n, (List.replicate n xs).flatten.length = n * xs.length
  | 0 => by simp
  | n + 1 => by rw [List.replicate_succ, List.flatten_cons, List.length_append, rep_len n, Nat.succ_mul]; omega
theorem PT.mul {a b : CE} {m : Nat} (ka : PT C σ h a 1) (kb : evE C b σ h = .ok (.int (m : Nat)) h) (hm : m ≤ 1000) : PT C σ h (.bin .Mult a b) m := by
  obtain ⟨xs, e1, p1, l1⟩ := ka
  refine ⟨(List.replicate m xs).flatten, ev_bin e1 kb ?_, plains_rep p1 m, ?_⟩
  · simp only [binF, mulF, Int.toNat_natCast]
    refine if_pos ⟨by omega, by omega, ?_⟩
    have : xs.length * m ≤ 1 * m := Nat.mul_le_mul_right _ l1
    unfold line; omega
  · rw [rep_len]
    have : m * xs.length ≤ m * 1 := Nat.mul_le_mul_left _ l1
    omega
theorem PT.rev {a : CE} {n : Nat} (ka : PT C σ h a n) : PT C σ h (.rev a) n := by
  obtain ⟨xs, e1, p1, l1⟩ := ka
  refine ⟨xs.reverse, by simp only [EV, EB, e1, revF, der], ?_, by simpa using l1⟩
  rw [plains_iff] at *
  intro x hx
  exact p1 x (List.mem_reverse.mp hx)
theorem PT.sl {a : CE} {n : Nat} (u : Int) (ka : PT C σ h a n) : PT C σ h (.sl a (.cst (.int u)) .absent) n := by
  obtain ⟨xs, e1, p1, l1⟩ := ka
  refine ⟨cutD xs (some u) none, ev_sll rfl e1 ev_cst rfl, ?_, Nat.le_trans cutD_len l1⟩
  rw [plains_iff] at *
  intro x hx
  exact p1 x (cutD_mem hx)
theorem PE.ints {e : CE} {i : Int} (k : evE C e σ h = .ok (.int i) h) : PE C σ h e := ⟨_, k, rfl⟩
end
end Cl

namespace Cl
open PySem PySem.Spec PyProof.Rows L2

/-! ## a run under a longer heap: the same run, its references moved on -/
mutual
def D.sh (k : Nat) : D → D
  | .non => .non
  | .bl b => .bl b
  | .int i => .int i
  | .str x => .str x
  | .fn i => .fn i
  | .ref n => .ref (n + k)
  | .tup xs => .tup (D.shs k xs)
  | .lst xs => .lst (D.shs k xs)
def D.shs (k : Nat) : List D → List D
  | [] => []
  | x :: xs => D.sh k x :: D.shs k xs
end
theorem shs_map (k : Nat) : ∀ xs, D.shs k xs = xs.map (D.sh k)
  | [] => rfl
  | x :: xs => by rw [D.shs, shs_map k xs]; rfl
@[simp] theorem sh_non (k) : D.sh k .non = .non := by simp only [D.sh]
@[simp] theorem sh_bl (k b) : D.sh k (.bl b) = .bl b := by simp only [D.sh]
@[simp] theorem sh_int (k b) : D.sh k (.int b) = .int b := by simp only [D.sh]
@[simp] theorem sh_str (k b) : D.sh k (.str b) = .str b := by simp only [D.sh]
@[simp] theorem sh_fn (k b) : D.sh k (.fn b) = .fn b := by simp only [D.sh]
@[simp] theorem sh_ref (k b) : D.sh k (.ref b) = .ref (b + k) := by simp only [D.sh]
@[simp] theorem sh_tup (k xs) : D.sh k (.tup xs) = .tup (xs.map (D.sh k)) := by simp only [D.sh, shs_map]
@[simp] theorem sh_lst (k xs) : D.sh k (.lst xs) = .lst (xs.map (D.sh k)) := by simp only [D.sh, shs_map]
def kvS {κ : Type} (k : Nat) (kvs : List (κ × D)) : List (κ × D) := kvs.map fun p => (p.1, p.2.sh k)
def Cell.sh (k : Nat) : Cell → Cell
  | .lst xs => .lst (xs.map (D.sh k))
  | .ro xs => .ro (xs.map (D.sh k))
  | .dK kvs => .dK (kvS k kvs)
  | .dT kvs => .dT (kvS k kvs)
mutual
theorem sh_inj (k : Nat) : ∀ a b : D, D.sh k a = D.sh k b → a = b
  | .non, b, h => by cases b <;> simp_all
  | .bl _, b, h => by cases b <;> simp_all
  | .int _, b, h => by cases b <;> simp_all
  | .str _, b, h => by cases b <;> simp_all
  | .fn _, b, h => by cases b <;> simp_all
  | .ref _, b, h => by cases b <;> simp_all
  | .tup xs, b, h => by
    cases b with
    | tup ys =>
      simp only [D.sh, D.tup.injEq] at h
      rw [shs_inj k xs ys h]
    | _ => simp at h
  | .lst xs, b, h => by
    cases b with
    | lst ys =>
      simp only [D.sh, D.lst.injEq] at h
      rw [shs_inj k xs ys h]
    | _ => simp at h
theorem shs_inj (k : Nat) : ∀ a b : List D, D.shs k a = D.shs k b → a = b
  | [], [], _ => rfl
  | [], _ :: _, h => by simp [D.shs] at h
  | _ :: _, [], h => by simp [D.shs] at h
  | x :: xs, y :: ys, h => by
    simp only [D.shs, List.cons.injEq] at h
    rw [sh_inj k x y h.1, shs_inj k xs ys h.2]
end
theorem map_inj {α β : Type} {f : α → β} (hf : ∀ a b, f a = f b → a = b) : ∀ xs ys : List α, xs.map f = ys.map f → xs = ys
  | [], [], _ => rfl
  | [], _ :: _, h => by simp at h
  | _ :: _, [], h => by simp at h
  | x :: xs, y :: ys, h => by
    simp only [List.map_cons, List.cons.injEq] at h
    rw [hf x y h.1, map_inj hf xs ys h.2]
theorem kvS_inj {κ : Type} (k : Nat) (xs ys : List (κ × D)) (h : kvS k xs = kvS k ys) : xs = ys :=
  map_inj (f := fun p : κ × D => (p.1, p.2.sh k)) (fun a b e => by
    obtain ⟨a1, a2⟩ := a
    obtain ⟨b1, b2⟩ := b
    simp only [Prod.mk.injEq] at e
    rw [e.1, sh_inj k _ _ e.2]) xs ys h
theorem csh_inj (k : Nat) (a b : Cell) (h : a.sh k = b.sh k) : a = b := by
  cases a <;> cases b <;> simp only [Cell.sh, Cell.lst.injEq, Cell.ro.injEq, Cell.dK.injEq, Cell.dT.injEq, reduceCtorEq] at h
  · rw [map_inj (sh_inj k) _ _ h]
  · rw [map_inj (sh_inj k) _ _ h]
  · rw [kvS_inj k _ _ h]
  · rw [kvS_inj k _ _ h]
def hp (p h : Hc) : Hc := p ++ h.map (Cell.sh p.length)
def σsh (k : Nat) (σ : CSt) : CSt := σ.map fun o => o.map (D.sh k)
variable {p : Hc}
theorem hp_len (h : Hc) : (hp p h).length = h.length + p.length := by simp [hp]; omega
theorem hp_at (h : Hc) (n : Nat) : (hp p h)[n + p.length]? = (h[n]?).map (Cell.sh p.length) := by
  rw [hp, List.getElem?_append_right (by omega), List.getElem?_map]
  congr 2; omega
theorem hp_set (h : Hc) (n : Nat) (c : Cell) : (hp p h).set (n + p.length) (c.sh p.length) = hp p (h.set n c) := by
  rw [hp, List.set_append_right _ _ (by omega), hp, List.map_set]
  congr 2; omega
theorem hp_push (h : Hc) (c : Cell) : hp p h ++ [c.sh p.length] = hp p (h ++ [c]) := by simp [hp]
theorem hp_take (h : Hc) (n : Nat) : (hp p h).take (n + p.length) = hp p (h.take n) := by
  rw [hp, List.take_append, List.take_of_length_le (by omega), hp, List.map_take]
  congr 2; omega
mutual
theorem toPy_sh (k : Nat) : ∀ d : D, (d.sh k).toPy = d.toPy
  | .non => by simp only [D.sh]
  | .bl _ => by simp only [D.sh]
  | .int _ => by simp only [D.sh]
  | .str _ => by simp only [D.sh]
  | .fn _ => by simp only [D.sh]
  | .ref _ => by simp only [D.sh, D.toPy]
  | .tup xs => by simp only [D.sh, D.toPy, toPys_sh k xs]
  | .lst xs => by simp only [D.sh, D.toPy, toPys_sh k xs]
theorem toPys_sh (k : Nat) : ∀ xs : List D, D.toPys (D.shs k xs) = D.toPys xs
  | [] => by simp only [D.shs]
  | x :: xs => by simp only [D.shs, D.toPys, toPy_sh k x, toPys_sh k xs]
end
mutual
theorem plain_sh (k : Nat) : ∀ d : D, (d.sh k).plain = d.plain
  | .non => by simp only [D.sh]
  | .bl _ => by simp only [D.sh]
  | .int _ => by simp only [D.sh]
  | .str _ => by simp only [D.sh]
  | .fn _ => by simp only [D.sh]
  | .ref _ => by simp only [D.sh, D.plain]
  | .tup xs => by simp only [D.sh, D.plain, plains_sh k xs]
  | .lst xs => by simp only [D.sh, D.plain, plains_sh k xs]
theorem plains_sh (k : Nat) : ∀ xs : List D, D.plains (D.shs k xs) = D.plains xs
  | [] => by simp only [D.shs]
  | x :: xs => by simp only [D.shs, D.plains, plain_sh k x, plains_sh k xs]
end
mutual
theorem low_sh (k n : Nat) : ∀ d : D, (d.sh k).low (n + k) = d.low n
  | .non => by simp only [D.sh, D.low]
  | .bl _ => by simp only [D.sh, D.low]
  | .int _ => by simp only [D.sh, D.low]
  | .str _ => by simp only [D.sh, D.low]
  | .fn _ => by simp only [D.sh, D.low]
  | .ref m => by
    simp only [D.sh, D.low]
    simp
  | .tup xs => by simp only [D.sh, D.low, lows_sh k n xs]
  | .lst xs => by simp only [D.sh, D.low, lows_sh k n xs]
theorem lows_sh (k n : Nat) : ∀ xs : List D, D.low.lows (n + k) (D.shs k xs) = D.low.lows n xs
  | [] => by simp only [D.shs, D.low.lows]
  | x :: xs => by simp only [D.shs, D.low.lows, low_sh k n x, lows_sh k n xs]
end
theorem okD_sh (k : Nat) (d : D) : (d.sh k).okD = d.okD := by simp only [D.okD, plain_sh, toPy_sh]
theorem der_sh (h : Hc) (d : D) : der (hp p h) (d.sh p.length) = (der h d).sh p.length := by
  cases d with
  | ref n =>
    simp only [sh_ref, der, hp_at]
    cases h[n]? with
    | none => simp
    | some c => cases c <;> simp [Cell.sh]
  | _ => simp [der]
theorem derM_sh (h : Hc) (d : D) : derM (hp p h) (d.sh p.length) = (derM h d).sh p.length := by
  cases d with
  | ref n =>
    simp only [sh_ref, derM, hp_at]
    cases h[n]? with
    | none => simp
    | some c => cases c <;> simp [Cell.sh]
  | _ => simp [derM]
theorem seqD_sh (h : Hc) (d : D) : seqD (hp p h) (d.sh p.length) = (seqD h d).map (List.map (D.sh p.length)) := by
  cases d with
  | ref n =>
    simp only [sh_ref, seqD, hp_at]
    cases h[n]? with
    | none => simp
    | some c => cases c <;> simp [Cell.sh]
  | _ => simp [seqD]
theorem lstD_sh (h : Hc) (d : D) : lstD (hp p h) (d.sh p.length) = (lstD h d).map (List.map (D.sh p.length)) := by
  cases d with
  | ref n =>
    simp only [sh_ref, lstD, hp_at]
    cases h[n]? with
    | none => simp
    | some c => cases c <;> simp [Cell.sh]
  | _ => simp [lstD]
theorem eqG_sh (h : Hc) (a b : D) : eqG (hp p h) (a.sh p.length) (b.sh p.length) = eqG h a b := by
  simp only [eqG, der_sh, okD_sh, toPy_sh]
theorem eqF_sh (h : Hc) (a b : D) : eqF (hp p h) (a.sh p.length) (b.sh p.length) = eqF h a b := by
  have := eqG_sh (p := p) h a b
  cases a <;> cases b <;> first | (simp only [sh_non, sh_bl, sh_int, sh_str, sh_fn, sh_ref, sh_tup, sh_lst, eqF] at this ⊢; done) | (simp only [sh_non, sh_bl, sh_int, sh_str, sh_fn, sh_ref, sh_tup, sh_lst, eqF] at this ⊢; exact this)
theorem isN_sh (k : Nat) (a : D) : (a.sh k).isN = a.isN := by cases a <;> simp [D.isN]
theorem ltG_sh (h : Hc) (a b : D) : ltG (hp p h) (a.sh p.length) (b.sh p.length) = ltG h a b := by
  simp only [ltG, der_sh, okD_sh, toPy_sh, isN_sh]
theorem ltF_sh (h : Hc) (a b : D) : ltF (hp p h) (a.sh p.length) (b.sh p.length) = ltF h a b := by
  have := ltG_sh (p := p) h a b
  cases a <;> cases b <;> first | (simp only [sh_non, sh_bl, sh_int, sh_str, sh_fn, sh_ref, sh_tup, sh_lst, ltF] at this ⊢; done) | (simp only [sh_non, sh_bl, sh_int, sh_str, sh_fn, sh_ref, sh_tup, sh_lst, ltF] at this ⊢; exact this)
theorem addL_sh (h : Hc) (a b : D) : addL (hp p h) (a.sh p.length) (b.sh p.length) = (addL h a b).map (D.sh p.length) := by
  simp only [addL, derM_sh]
  cases derM h a <;> cases derM h b <;> simp only [sh_non, sh_bl, sh_int, sh_str, sh_fn, sh_ref, sh_tup, sh_lst, Option.map_none]
  simp only [List.length_map]
  split <;> simp
theorem addF_sh (h : Hc) (a b : D) : addF (hp p h) (a.sh p.length) (b.sh p.length) = (addF h a b).map (D.sh p.length) := by
  have := addL_sh (p := p) h a b
  cases a <;> cases b <;> simp only [sh_non, sh_bl, sh_int, sh_str, sh_fn, sh_ref, sh_tup, sh_lst, addF] at this ⊢ <;> first | exact this | skip
  · simp
  · split <;> simp
  · simp only [List.length_map]
    split <;> simp
theorem mulL_sh (h : Hc) (a : D) (b : Int) : mulL (hp p h) (a.sh p.length) b = (mulL h a b).map (D.sh p.length) := by
  simp only [mulL, derM_sh]
  cases derM h a <;> simp only [sh_non, sh_bl, sh_int, sh_str, sh_fn, sh_ref, sh_tup, sh_lst, Option.map_none]
  simp only [List.length_map]
  split <;> simp [List.map_flatten]
theorem mulF_sh (h : Hc) (a b : D) : mulF (hp p h) (a.sh p.length) (b.sh p.length) = (mulF h a b).map (D.sh p.length) := by
  have := fun i => mulL_sh (p := p) h a i
  cases a <;> cases b <;> simp only [sh_non, sh_bl, sh_int, sh_str, sh_fn, sh_ref, sh_tup, sh_lst, mulF, Option.map_none] at this ⊢ <;> first | exact this _ | skip
  · split <;> simp
  · simp only [List.length_map]
    split <;> simp [List.map_flatten]
theorem int2_sh (f : Int → Int → Option Int) (a b : D) (k : Nat) : int2 f (a.sh k) (b.sh k) = (int2 f a b).map (D.sh k) := by
  cases a <;> cases b <;> simp only [sh_non, sh_bl, sh_int, sh_str, sh_fn, sh_ref, sh_tup, sh_lst, int2, Option.map_none]
  cases f _ _ <;> simp
theorem binF_sh (h : Hc) (op : Operator) (a b : D) : binF (hp p h) op (a.sh p.length) (b.sh p.length) = (binF h op a b).map (D.sh p.length) := by
  cases op <;> simp only [binF] <;> first | exact addF_sh h a b | exact mulF_sh h a b | exact int2_sh _ a b _ | rfl
theorem kdD_sh (h : Hc) (d : D) : kdD (hp p h) (d.sh p.length) = kdD h d := by
  cases d with
  | ref n =>
    simp only [sh_ref, kdD, hp_at]
    cases h[n]? with
    | none => simp
    | some c => cases c <;> simp [Cell.sh]
  | _ => simp [kdD]
theorem isDictD_sh (h : Hc) (d : D) : isDictD (hp p h) (d.sh p.length) = isDictD h d := by
  cases d with
  | ref n =>
    simp only [sh_ref, isDictD, hp_at]
    cases h[n]? with
    | none => simp
    | some c => cases c <;> simp [Cell.sh]
  | _ => simp [isDictD]
theorem isLstD_sh (h : Hc) (d : D) : isLstD (hp p h) (d.sh p.length) = isLstD h d := by
  cases d with
  | ref n =>
    simp only [sh_ref, isLstD, hp_at]
    cases h[n]? with
    | none => simp
    | some c => cases c <;> simp [Cell.sh]
  | _ => simp [isLstD]
theorem isFs_sh (h : Hc) (ts : List Ty) (d : D) : isFs (hp p h) ts (d.sh p.length) = isFs h ts d := by simp only [isFs, kdD_sh]
theorem atD_sh {α β : Type} (f : α → β) (xs : List α) (i : Int) : atD (xs.map f) i = (atD xs i).map f := by
  simp only [atD, List.length_map]
  cases ixD xs.length i <;> simp
theorem cutD_sh {α β : Type} (f : α → β) (xs : List α) (lo hi : Option Int) : cutD (xs.map f) lo hi = (cutD xs lo hi).map f := by
  simp only [cutD, List.length_map, List.map_take, List.map_drop]
theorem keyD_sh (k : Nat) (d : D) : keyD (d.sh k) = keyD d := by cases d <;> simp [keyD]
theorem keysD_sh (k : Nat) : ∀ xs : List D, keysD (xs.map (D.sh k)) = keysD xs
  | [] => rfl
  | x :: xs => by simp only [List.map_cons, keysD, keyD_sh, keysD_sh k xs]
theorem tkeyD_sh (k : Nat) (d : D) : tkeyD (d.sh k) = tkeyD d := by cases d <;> simp [tkeyD, keysD_sh]
theorem valD_sh {κ : Type} [DecidableEq κ] (k : Nat) (kvs : List (κ × D)) (x : κ) : valD (kvS k kvs) x = (valD kvs x).map (D.sh k) := by
  induction kvs with
  | nil => rfl
  | cons q qs ih =>
    simp only [valD, kvS, List.map_cons, List.find?_cons] at ih ⊢
    by_cases e : q.1 = x
    · simp [e]
    · simp only [decide_eq_false e]; exact ih
theorem any_kvS {κ : Type} (k : Nat) (kvs : List (κ × D)) (f : κ → Bool) : (kvS k kvs).any (fun kv => f kv.1) = kvs.any (fun kv => f kv.1) := by
  induction kvs with
  | nil => rfl
  | cons q qs ih =>
    simp only [kvS, List.map_cons, List.any_cons] at ih ⊢
    rw [ih]
theorem putD_sh {κ : Type} [DecidableEq κ] (k : Nat) (kvs : List (κ × D)) (x : κ) (v : D) : putD (kvS k kvs) x (v.sh k) = kvS k (putD kvs x v) := by
  simp only [putD, any_kvS k kvs (fun y => decide (y = x))]
  split
  · simp only [kvS, List.map_map]
    apply List.map_congr_left
    intro q hq
    simp only [Function.comp]
    split <;> rfl
  · simp [kvS]
theorem lookD_sh (h : Hc) (n : Nat) (k : D) : lookD (hp p h) (n + p.length) (k.sh p.length) = (lookD h n k).map (Option.map (D.sh p.length)) := by
  simp only [lookD, hp_at]
  cases h[n]? with
  | none => simp
  | some c =>
    cases c <;> simp only [Option.map_some, Cell.sh, Option.map_none, keyD_sh, tkeyD_sh]
    · cases keyD k <;> simp [valD_sh]
    · cases tkeyD k <;> simp [valD_sh]
theorem inData_sh (h : Hc) (x y : D) (ys : List D) : inData (hp p h) (x.sh p.length) (y.sh p.length) (ys.map (D.sh p.length)) = inData h x y ys := by
  simp only [inData, der_sh, okD_sh, toPy_sh, List.any_map, Function.comp_def]
theorem inF_sh (h : Hc) (x y : D) : inF (hp p h) (x.sh p.length) (y.sh p.length) = inF h x y := by
  simp only [inF, der_sh]
  cases der h y with
  | lst ys => have := inData_sh (p := p) h x (.lst ys) ys; simpa using this
  | tup ys => have := inData_sh (p := p) h x (.tup ys) ys; simpa using this
  | str t => cases x <;> simp
  | ref n =>
    simp only [sh_ref, lookD_sh]
    cases lookD h n x with
    | none => rfl
    | some o => cases o <;> simp
  | _ => simp
theorem isNon_sh (k : Nat) (a b : D) : isNon (a.sh k) (b.sh k) = isNon a b := by
  cases b <;> simp [isNon, isN_sh]
theorem cmpF_sh (h : Hc) (op : CmpOp) (a b : D) : cmpF (hp p h) op (a.sh p.length) (b.sh p.length) = cmpF h op a b := by
  cases op <;> simp only [cmpF, eqF_sh, ltF_sh, inF_sh, isNon_sh]
theorem idxF_sh (h : Hc) (a i : D) : idxF (hp p h) (a.sh p.length) (i.sh p.length) = (idxF h a i).map (D.sh p.length) := by
  cases a with
  | str x => 
    cases i <;> simp only [sh_non, sh_bl, sh_int, sh_str, sh_fn, sh_ref, sh_tup, sh_lst, idxF, Option.map_none]
    split
    · cases atD x.cps.toList _ <;> simp
    · rfl
  | tup xs => cases i <;> simp [idxF, atD_sh]
  | lst xs => cases i <;> simp [idxF, atD_sh]
  | ref n =>
    simp only [sh_ref, idxF, hp_at, lookD_sh]
    cases h[n]? with
    | none => 
      simp only [Option.map_none]
      cases lookD h n i with
      | none => rfl
      | some o => cases o <;> simp
    | some c =>
      cases c <;> simp only [Option.map_some, Cell.sh]
      · cases i <;> simp [atD_sh]
      · cases i <;> simp [atD_sh]
      · cases lookD h n i with
        | none => rfl
        | some o => cases o <;> simp
      · cases lookD h n i with
        | none => rfl
        | some o => cases o <;> simp
  | _ => simp [idxF]
end Cl

namespace Cl
open PySem PySem.Spec PyProof.Rows L2
variable {p : Hc}
theorem putF_sh (h : Hc) (o i v : D) : putF (hp p h) (o.sh p.length) (i.sh p.length) (v.sh p.length) = (putF h o i v).map (hp p) := by
  cases o with
  | ref n =>
    simp only [sh_ref, putF, hp_at]
    cases e : h[n]? with
    | none => rfl
    | some c =>
      cases c with
      | lst xs =>
        simp only [Option.map_some, Cell.sh]
        cases i <;> simp only [sh_non, sh_bl, sh_int, sh_str, sh_fn, sh_ref, sh_tup, sh_lst, Option.map_none, List.length_map]
        cases ixD xs.length _ <;> simp only [Option.map_none, Option.map_some]
        rw [← hp_set]
        simp [Cell.sh, List.map_set]
      | ro xs => rfl
      | dK kvs =>
        simp only [Option.map_some, Cell.sh, kvS, List.length_map, keyD_sh]
        split
        · cases keyD i <;> simp only [Option.map_none, Option.map_some]
          rw [← hp_set]
          simp only [Cell.sh, ← putD_sh]; rfl
        · rfl
      | dT kvs =>
        simp only [Option.map_some, Cell.sh, kvS, List.length_map, tkeyD_sh]
        split
        · cases tkeyD i <;> simp only [Option.map_none, Option.map_some]
          rw [← hp_set]
          simp only [Cell.sh, ← putD_sh]; rfl
        · rfl
  | _ => simp [putF]
theorem sliceF_sh (h : Hc) (a : D) (lo hi : Option Int) : sliceF (hp p h) (a.sh p.length) lo hi = (sliceF h a lo hi).map (D.sh p.length) := by
  simp only [sliceF, der_sh]
  cases der h a <;> simp only [sh_non, sh_bl, sh_int, sh_str, sh_fn, sh_ref, sh_tup, sh_lst, Option.map_none, Option.map_some, cutD_sh]
  split <;> simp
theorem revF_sh (h : Hc) (a : D) : revF (hp p h) (a.sh p.length) = (revF h a).map (D.sh p.length) := by
  simp only [revF, der_sh]
  cases der h a <;> simp
theorem leD_sh (k : Nat) (a b : D) : leD (a.sh k) (b.sh k) = leD a b := by simp only [leD, toPy_sh]
theorem insD_sh (k : Nat) (x : D) : ∀ xs : List D, insD leD (x.sh k) (xs.map (D.sh k)) = (insD leD x xs).map (D.sh k)
  | [] => rfl
  | y :: ys => by
    simp only [List.map_cons, insD, leD_sh, insD_sh k x ys]
    split <;> simp
theorem sortD_sh (k : Nat) : ∀ xs : List D, sortD leD (xs.map (D.sh k)) = (sortD leD xs).map (D.sh k)
  | [] => rfl
  | x :: xs => by simp only [List.map_cons, sortD, sortD_sh k xs, insD_sh]
theorem isTup1_sh (k : Nat) (d : D) : (d.sh k).isTup1 = d.isTup1 := by
  cases d with
  | tup xs => cases xs <;> simp [D.isTup1]
  | _ => simp [D.isTup1]
theorem isFlat_sh (k : Nat) (d : D) : (d.sh k).isFlat = d.isFlat := by cases d <;> simp [D.isFlat]
theorem alikes_sh (k : Nat) (xs : List D) : alikes (xs.map (D.sh k)) = alikes xs := by
  simp only [alikes, List.all_map, Function.comp_def, toPy_sh]
theorem sortable_sh (k : Nat) (xs : List D) : sortable (xs.map (D.sh k)) = sortable xs := by
  have e1 : (D.isTup1 ∘ D.sh k) = D.isTup1 := funext fun d => isTup1_sh k d
  have e2 : (D.isFlat ∘ D.sh k) = D.isFlat := funext fun d => isFlat_sh k d
  simp only [sortable, List.all_map, e1, e2]
theorem sortF_sh (k : Nat) (xs : List D) : sortF (xs.map (D.sh k)) = (sortF xs).map (List.map (D.sh k)) := by
  have e := okD_sh k (.lst xs)
  rw [sh_lst] at e
  have e2 : ((D.lst (xs.map (D.sh k))).okD && alikes (xs.map (D.sh k)) && sortable (xs.map (D.sh k)) && decide ((xs.map (D.sh k)).length ≤ line)) = ((D.lst xs).okD && alikes xs && sortable xs && decide (xs.length ≤ line)) := by
    rw [e, alikes_sh, sortable_sh, List.length_map]
  unfold sortF
  rw [e2, sortD_sh]
  split <;> rfl
theorem sumI_sh (k : Nat) : ∀ xs : List D, sumI (xs.map (D.sh k)) = sumI xs
  | [] => rfl
  | x :: xs => by
    cases x <;> simp only [List.map_cons, sh_non, sh_bl, sh_int, sh_str, sh_fn, sh_ref, sh_tup, sh_lst, sumI, sumI_sh k xs]
theorem allB_sh (k : Nat) : ∀ xs : List D, allB (xs.map (D.sh k)) = allB xs
  | [] => rfl
  | x :: xs => by
    cases x <;> simp only [List.map_cons, sh_non, sh_bl, sh_int, sh_str, sh_fn, sh_ref, sh_tup, sh_lst, allB, allB_sh k xs]
theorem intsD_sh (k : Nat) : ∀ xs : List D, intsD (xs.map (D.sh k)) = intsD xs
  | [] => rfl
  | x :: xs => by
    cases x <;> simp only [List.map_cons, sh_non, sh_bl, sh_int, sh_str, sh_fn, sh_ref, sh_tup, sh_lst, intsD, intsD_sh k xs]
theorem lenF_sh (h : Hc) (d : D) : lenF (hp p h) (d.sh p.length) = (lenF h d).map (D.sh p.length) := by
  cases d with
  | str x => 
    simp only [sh_str, lenF]
    split <;> simp
  | ref n =>
    have := seqD_sh (p := p) h (.ref n)
    simp only [sh_ref] at this
    simp only [sh_ref, lenF, this, hp_at]
    cases seqD h (.ref n) with
    | some xs => simp
    | none =>
      simp only [Option.map_none]
      cases h[n]? with
      | none => rfl
      | some c => cases c <;> simp [Cell.sh, kvS]
  | _ => simp [lenF, seqD]
theorem intF_sh (k : Nat) (d : D) : intF (d.sh k) = (intF d).map (D.sh k) := by cases d <;> simp [intF]
theorem one_sh {f g : D → Option D} (k : Nat) (hfg : ∀ d, f (d.sh k) = (g d).map (D.sh k)) : True := trivial
theorem biF_sh (h : Hc) (b : Bi) (ds : List D) : biF (hp p h) b (ds.map (D.sh p.length)) = (biF h b ds).map (D.sh p.length) := by
  match ds with
  | [] => cases b <;> rfl
  | [d] =>
    simp only [List.map_cons, List.map_nil]
    cases b with
    | len => simp only [biF, lenF_sh]
    | abs => cases d <;> simp [biF]
    | int => simp only [biF, intF_sh]
    | tuple => simp only [biF, seqD_sh]; cases seqD h d <;> simp
    | list => simp only [biF, seqD_sh]; cases seqD h d <;> simp
    | sorted =>
      simp only [biF, seqD_sh]
      cases seqD h d with
      | none => rfl
      | some xs =>
        simp only [Option.map_some, Option.bind_some, sortF_sh]
        cases sortF xs <;> simp
    | sortedR => rfl
    | sum =>
      simp only [biF, seqD_sh]
      cases seqD h d with
      | none => rfl
      | some xs =>
        simp only [Option.map_some, Option.bind_some, sumI_sh]
        cases sumI xs <;> simp
    | all =>
      simp only [biF, lstD_sh]
      cases lstD h d with
      | none => rfl
      | some xs =>
        simp only [Option.map_some, Option.bind_some, allB_sh]
        cases allB xs <;> simp
    | any =>
      simp only [biF, lstD_sh]
      cases lstD h d with
      | none => rfl
      | some xs =>
        simp only [Option.map_some, Option.bind_some, allB_sh]
        cases allB xs <;> simp
    | max =>
      simp only [biF, seqD_sh]
      cases seqD h d with
      | none => rfl
      | some xs =>
        simp only [Option.map_some, Option.bind_some, intsD_sh]
        cases intsD xs with
        | none => rfl
        | some l => cases l <;> simp
    | min =>
      simp only [biF, seqD_sh]
      cases seqD h d with
      | none => rfl
      | some xs =>
        simp only [Option.map_some, Option.bind_some, intsD_sh]
        cases intsD xs with
        | none => rfl
        | some l => cases l <;> simp
    | max2 => cases d <;> simp [biF]
    | min2 => cases d <;> simp [biF]
    | str =>
      cases d <;> simp only [biF, sh_non, sh_bl, sh_int, sh_str, sh_fn, sh_ref, sh_tup, sh_lst, Option.map_none]
      split <;> simp
    | lenset =>
      simp only [biF, lstD_sh]
      cases lstD h d with
      | none => rfl
      | some xs =>
        simp only [Option.map_some, Option.bind_some, intsD_sh]
        cases intsD xs with
        | none => rfl
        | some l =>
          simp only [Option.bind_some]
          split <;> simp
  | [d, e] =>
    simp only [List.map_cons, List.map_nil]
    cases b <;> first | rfl | (cases d <;> cases e <;> simp [biF])
  | d :: e :: f :: r =>
    simp only [List.map_cons]
    cases b <;> first | rfl | (cases d <;> cases e <;> simp [biF])
/-! guards, targets -/
def gsh (k : Nat) (g : Guard) : Guard := g.map fun q => (q.1 + k, q.2.sh k)
theorem gOk_sh (g : Guard) (h : Hc) : gOk (gsh p.length g) (hp p h) = gOk g h := by
  simp only [gOk, gsh, List.all_map, Function.comp_def, hp_at]
  congr 1
  funext q
  rw [decide_eq_decide]
  cases h[q.1]? with
  | none => simp
  | some c =>
    simp only [Option.map_some, Option.some.injEq]
    exact ⟨csh_inj _ _ _, fun e => by rw [e]⟩
theorem σsh_set (k i : Nat) (σ : CSt) (o : Option D) : σsh k (σ.set i o) = (σsh k σ).set i (o.map (D.sh k)) := by simp [σsh, List.map_set]
theorem σsh_at (k i : Nat) (σ : CSt) : (σsh k σ)[i]? = (σ[i]?).map (Option.map (D.sh k)) := by simp [σsh]
theorem cwipe_sh (k : Nat) (σ : CSt) : ∀ vs, cwipe (σsh k σ) vs = σsh k (cwipe σ vs)
  | [] => rfl
  | v :: vs => by simp only [cwipe, cwipe_sh k σ vs, σsh_set, Option.map_none]
mutual
theorem asgT_sh (k : Nat) : ∀ (t : Tg) (d : D) (σ : CSt), asgT t (d.sh k) (σsh k σ) = (asgT t d σ).map (σsh k)
  | .v i, d, σ => by simp only [asgT, Option.map_some, σsh_set]
  | .t ts, d, σ => by
    cases d <;> simp only [asgT, sh_non, sh_bl, sh_int, sh_str, sh_fn, sh_ref, sh_tup, sh_lst, Option.map_none]
    exact asgTs_sh k ts _ σ
theorem asgTs_sh (k : Nat) : ∀ (ts : Tgs) (ds : List D) (σ : CSt), asgTs ts (ds.map (D.sh k)) (σsh k σ) = (asgTs ts ds σ).map (σsh k)
  | .nil, [], σ => by simp only [List.map_nil, asgTs, Option.map_some]
  | .nil, _ :: _, σ => by simp only [List.map_cons, asgTs, Option.map_none]
  | .cons _ _, [], σ => by simp only [List.map_nil, asgTs, Option.map_none]
  | .cons t ts, d :: ds, σ => by
    simp only [List.map_cons, asgTs, asgT_sh k t d σ]
    cases asgT t d σ with
    | none => rfl
    | some σ' => simp only [Option.map_some, asgTs_sh k ts ds σ']
end
theorem guardOf_sh (h : Hc) (d : D) : guardOf (hp p h) (d.sh p.length) = gsh p.length (guardOf h d) := by
  cases d with
  | ref n =>
    simp only [sh_ref, guardOf, hp_at]
    cases h[n]? <;> simp [gsh]
  | _ => simp [guardOf, gsh]
theorem rngD_sh (k : Nat) (c : Int) : ∀ (n : Nat) (a : Int), (rngD a c n).map (D.sh k) = rngD a c n
  | 0, _ => rfl
  | n + 1, a => by simp only [rngD, List.map_cons, sh_int, rngD_sh k c n]
theorem enumD_sh (k : Nat) : ∀ (xs : List D) (i : Nat), enumD i (xs.map (D.sh k)) = (enumD i xs).map (D.sh k)
  | [], _ => rfl
  | x :: xs, i => by simp only [List.map_cons, enumD, enumD_sh k xs, sh_tup, List.map_nil, sh_int]
theorem zipD_sh (k : Nat) : ∀ (xs ys : List D), zipD (xs.map (D.sh k)) (ys.map (D.sh k)) = (zipD xs ys).map (D.sh k)
  | [], _ => by simp [zipD]
  | _ :: _, [] => by simp [zipD]
  | x :: xs, y :: ys => by simp only [List.map_cons, zipD, zipD_sh k xs ys, sh_tup, List.map_nil]
theorem zipO_sh {p : Hc} (h : Hc) (d e : D) : zipO (hp p h) (d.sh p.length) (e.sh p.length) = (zipO h d e).map (List.map (D.sh p.length)) := by
  unfold zipO
  rw [lstD_sh, lstD_sh]
  cases lstD h d with
  | some xs =>
    cases lstD h e with
    | some ys => simp only [Option.map_some, zipD_sh]
    | none => cases d <;> cases e <;> simp [zipD_sh]
  | none => cases d <;> cases e <;> simp [zipD_sh]
def Exc.sh (k : Nat) (x : Exc) : Exc := ⟨x.cls, x.arg.map (D.sh k)⟩
def ERes.sh {α : Type} (g : α → α) (p : Hc) : ERes α → ERes α
  | .ok a h => .ok (g a) (hp p h)
  | .exc x h => .exc (x.sh p.length) (hp p h)
  | .stuck => .stuck
def flS (k : Nat) : Fl → Fl
  | .nx σ => .nx (σsh k σ)
  | .rt d => .rt (d.sh k)
  | .bk σ => .bk (σsh k σ)
  | .ct σ => .ct (σsh k σ)
def SRes.sh (p : Hc) : SRes → SRes
  | .ok f h => .ok (flS p.length f) (hp p h)
  | .exc x σ h => .exc (x.sh p.length) (σsh p.length σ) (hp p h)
  | .stuck => .stuck
abbrev dS (p : Hc) : D → D := D.sh p.length
abbrev lS (p : Hc) : List D → List D := List.map (D.sh p.length)
theorem bind_sh {α β : Type} {g : α → α} {g' : β → β} {r' r : ERes α} {F' F : α → Hc → ERes β} (hr : r' = r.sh g p) (hf : ∀ a h, F' (g a) (hp p h) = (F a h).sh g' p) : r'.bind F' = (r.bind F).sh g' p := by
  subst hr
  cases r with
  | ok a h => exact hf a h
  | exc x h => rfl
  | stuck => rfl
theorem ofO_sh {α : Type} {g : α → α} {o' o : Option α} (h : Hc) (e : o' = o.map g) : ofO o' (hp p h) = (ofO o h).sh g p := by
  subst e
  cases o <;> rfl
theorem boolR_sh {r' r : ERes D} (e : r' = r.sh (dS p) p) : boolR r' = (boolR r).sh id p := by
  subst e
  cases r with
  | ok d h => cases d <;> simp [ERes.sh, boolR]
  | exc x h => rfl
  | stuck => rfl
def EvSh (p : Hc) (f' f : EvF) : Prop := ∀ σ h, f' (σsh p.length σ) (hp p h) = (f σ h).sh (dS p) p
theorem condR_sh {ab : Bool} {f' f : EvF} (H : EvSh p f' f) : EvSh p (condR ab f') (condR ab f) := by
  intro σ h
  cases ab
  · exact H σ h
  · simp [condR, ERes.sh]
theorem compF_sh {fe' fe fc' fc : EvF} (He : EvSh p fe' fe) (Hq : EvSh p fc' fc) (t : Tg) (g : Guard) (σ : CSt) : ∀ (xs : List D) (h : Hc), compF fe' fc' t (gsh p.length g) (σsh p.length σ) (xs.map (D.sh p.length)) (hp p h) = (compF fe fc t g σ xs h).sh (lS p) p
  | [], h => by
    simp only [List.map_nil, compF, gOk_sh]
    split <;> rfl
  | x :: xs, h => by
    simp only [List.map_cons, compF, gOk_sh, asgT_sh]
    split
    · cases asgT t x σ with
      | none => rfl
      | some σ' =>
        simp only [Option.map_some, boolR_sh (Hq σ' h)]
        cases boolR (fc σ' h) with
        | exc x h => rfl
        | stuck => rfl
        | ok b h1 =>
          cases b with
          | false => exact compF_sh He Hq t g σ xs h1
          | true =>
            simp only [ERes.sh, id, He σ' h1]
            cases fe σ' h1 with
            | exc x h => rfl
            | stuck => rfl
            | ok y h2 =>
              simp only [ERes.sh, compF_sh He Hq t g σ xs h2]
              cases compF fe fc t g σ xs h2 <;> simp [ERes.sh]
    · rfl
theorem lmap_sh {r' r : ERes (List D)} (e : r' = r.sh (lS p) p) : lmap [] r' = (lmap [] r).sh (dS p) p := by
  subst e
  cases r <;> simp [ERes.sh, lmap]
theorem optR_sh {ab : Bool} {f' f : Hc → ERes D} (H : ∀ h, f' (hp p h) = (f h).sh (dS p) p) (h : Hc) : optR ab f' (hp p h) = (optR ab f h).sh id p := by
  simp only [optR]
  split
  · rfl
  · exact bind_sh (H h) (fun d h => by cases d <;> simp [ERes.sh])
end Cl

namespace Cl
open PySem PySem.Spec PyProof.Rows L2
mutual
/-- no references within -/
def D.nr : D → Bool
  | .non => true
  | .bl _ => true
  | .int _ => true
  | .str _ => true
  | .fn _ => true
  | .ref _ => false
  | .tup xs => D.nrs xs
  | .lst xs => D.nrs xs
def D.nrs : List D → Bool
  | [] => true
  | x :: xs => D.nr x && D.nrs xs
end
mutual
theorem nr_sh (k : Nat) : ∀ d : D, d.nr = true → d.sh k = d
  | .non, _ => by simp only [D.sh]
  | .bl _, _ => by simp only [D.sh]
  | .int _, _ => by simp only [D.sh]
  | .str _, _ => by simp only [D.sh]
  | .fn _, _ => by simp only [D.sh]
  | .ref _, h => by simp [D.nr] at h
  | .tup xs, h => by simp only [D.nr] at h; simp only [D.sh, nrs_shs k xs h]
  | .lst xs, h => by simp only [D.nr] at h; simp only [D.sh, nrs_shs k xs h]
theorem nrs_shs (k : Nat) : ∀ xs : List D, D.nrs xs = true → D.shs k xs = xs
  | [], _ => by simp only [D.shs]
  | x :: xs, h => by
    simp only [D.nrs, Bool.and_eq_true] at h
    simp only [D.shs, nr_sh k x h.1, nrs_shs k xs h.2]
end
theorem nrs_sh (k : Nat) (xs : List D) (h : D.nrs xs = true) : xs.map (D.sh k) = xs := by rw [← shs_map, nrs_shs k xs h]
mutual
def CE.nr : CE → Bool
  | .var _ => true
  | .cst d => d.nr
  | .glob _ d => d.nr
  | .bin _ a b => a.nr && b.nr
  | .neg a => a.nr
  | .not_ a => a.nr
  | .cmp _ a b => a.nr && b.nr
  | .chain _ _ a b c => a.nr && b.nr && c.nr
  | .and_ a b => a.nr && b.nr
  | .or_ a b => a.nr && b.nr
  | .ite t a b => t.nr && a.nr && b.nr
  | .call _ args => args.nr
  | .bi _ args => args.nr
  | .isin a _ => a.nr
  | .pop o => o.nr
  | .idx a i => a.nr && i.nr
  | .sl a lo hi => a.nr && lo.nr && hi.nr
  | .rev a => a.nr
  | .absent => true
  | .tup es => es.nr
  | .lst es => es.nr
  | .comp elt _ it cond _ => elt.nr && it.nr && cond.nr
  | .lrange it => it.nr
  | .cell e => e.nr
  | .dict0 _ => true
  | .dget o k d => o.nr && k.nr && d.nr
  | .callv fe _ args => fe.nr && args.nr
def CEs.nr : CEs → Bool
  | .nil => true
  | .cons e es => e.nr && es.nr
def CI.nr : CI → Bool
  | .seq e => e.nr
  | .rng1 a => a.nr
  | .rng2 a b => a.nr && b.nr
  | .rng3 a b c => a.nr && b.nr && c.nr
  | .enum e => e.nr
  | .zip a b => a.nr && b.nr
end
mutual
def CS.nr : CS → Bool
  | .asg _ e => e.nr
  | .aug _ _ e => e.nr
  | .sput o i e => o.nr && i.nr && e.nr
  | .saug o i _ e => o.nr && i.nr && e.nr
  | .expr e => e.nr
  | .app o e => o.nr && e.nr
  | .ifs t a b => t.nr && a.nr && b.nr
  | .for_ _ it body => it.nr && body.nr
  | .whl t body => t.nr && body.nr
  | .ret e => e.nr
  | .retN => true
  | .brk => true
  | .pass => true
  | .raise _ e => e.nr
  | .try_ body _ suite => body.nr && suite.nr
  | .kill _ => true
  | .scope ss => ss.nr
def CSs.nr : CSs → Bool
  | .nil => true
  | .cons s ss => s.nr && ss.nr
end
variable {p : Hc}
def CallSh (p : Hc) (C : Caller) : Prop := ∀ f args h, C f (args.map (D.sh p.length)) (hp p h) = (C f args h).sh (dS p) p
def itS (k : Nat) (d : Itd) : Itd := ⟨d.xs.map (D.sh k), gsh k d.g⟩
section
variable {C : Caller} (HC : CallSh p C)
include HC
mutual
theorem evE_sh : ∀ (e : CE), e.nr = true → ∀ (σ : CSt) (h : Hc), evE C e (σsh p.length σ) (hp p h) = (evE C e σ h).sh (dS p) p
  | .var i, _, σ, h => by
    simp only [evE, σsh_at]
    cases σ[i]? with
    | none => rfl
    | some o => cases o <;> rfl
  | .cst d, hn, σ, h => by
    simp only [CE.nr] at hn
    simp only [evE, ERes.sh, dS, nr_sh _ d hn]
  | .glob x d, hn, σ, h => by
    simp only [CE.nr] at hn
    simp only [evE, ERes.sh, dS, nr_sh _ d hn]
  | .bin op a b, hn, σ, h => by
    simp only [CE.nr, Bool.and_eq_true] at hn
    simp only [evE]
    exact bind_sh (evE_sh a hn.1 σ h) fun x h => bind_sh (evE_sh b hn.2 σ h) fun y h => ofO_sh h (binF_sh h op x y)
  | .neg a, hn, σ, h => by
    simp only [CE.nr] at hn
    simp only [evE]
    exact bind_sh (evE_sh a hn σ h) fun x h => by cases x <;> simp [ERes.sh]
  | .not_ a, hn, σ, h => by
    simp only [CE.nr] at hn
    simp only [evE]
    exact bind_sh (evE_sh a hn σ h) fun x h => by cases x <;> simp [ERes.sh]
  | .cmp op a b, hn, σ, h => by
    simp only [CE.nr, Bool.and_eq_true] at hn
    simp only [evE]
    exact bind_sh (evE_sh a hn.1 σ h) fun x h => bind_sh (evE_sh b hn.2 σ h) fun y h => ofO_sh h (by rw [dS, cmpF_sh]; cases cmpF h op x y <;> simp)
  | .chain op op' a b c, hn, σ, h => by
    simp only [CE.nr, Bool.and_eq_true] at hn
    simp only [evE]
    refine bind_sh (evE_sh a hn.1.1 σ h) fun x h => bind_sh (evE_sh b hn.1.2 σ h) fun y h => ?_
    simp only [dS, cmpF_sh]
    cases cmpF h op x y with
    | none => rfl
    | some v =>
      cases v
      · simp [ERes.sh]
      · exact bind_sh (evE_sh c hn.2 σ h) fun z h => ofO_sh h (by rw [dS, cmpF_sh]; cases cmpF h op' y z <;> simp)
  | .and_ a b, hn, σ, h => by
    simp only [CE.nr, Bool.and_eq_true] at hn
    simp only [evE]
    refine bind_sh (evE_sh a hn.1 σ h) fun x h => ?_
    cases x with
    | bl v => 
      cases v
      · simp [ERes.sh]
      · simpa using evE_sh b hn.2 σ h
    | _ => simp [ERes.sh]
  | .or_ a b, hn, σ, h => by
    simp only [CE.nr, Bool.and_eq_true] at hn
    simp only [evE]
    refine bind_sh (evE_sh a hn.1 σ h) fun x h => ?_
    cases x with
    | bl v => 
      cases v
      · simpa using evE_sh b hn.2 σ h
      · simp [ERes.sh]
    | _ => simp [ERes.sh]
  | .ite t a b, hn, σ, h => by
    simp only [CE.nr, Bool.and_eq_true] at hn
    simp only [evE]
    refine bind_sh (evE_sh t hn.1.1 σ h) fun x h => ?_
    cases x with
    | bl v => 
      cases v
      · simpa using evE_sh b hn.2 σ h
      · simpa using evE_sh a hn.1.2 σ h
    | _ => simp [ERes.sh]
  | .call f args, hn, σ, h => by
    simp only [CE.nr] at hn
    simp only [evE]
    exact bind_sh (evEs_sh args hn σ h) fun ds h => HC f ds h
  | .bi b args, hn, σ, h => by
    simp only [CE.nr] at hn
    simp only [evE]
    exact bind_sh (evEs_sh args hn σ h) fun ds h => ofO_sh h (biF_sh h b ds)
  | .callv fe fs args, hn, σ, h => by
    simp only [CE.nr, Bool.and_eq_true] at hn
    simp only [evE]
    refine bind_sh (evE_sh fe hn.1 σ h) fun x h => ?_
    cases x with
    | fn i =>
      simp only [dS, sh_fn]
      split
      · exact bind_sh (evEs_sh args hn.2 σ h) fun ds h => HC i ds h
      · rfl
    | _ => simp [ERes.sh]
  | .isin a ts, hn, σ, h => by
    simp only [CE.nr] at hn
    simp only [evE]
    exact bind_sh (evE_sh a hn σ h) fun x h => ofO_sh h (by rw [dS, isFs_sh]; cases isFs h ts x <;> simp)
  | .pop o, hn, σ, h => by
    simp only [CE.nr] at hn
    simp only [evE]
    refine bind_sh (evE_sh o hn σ h) fun x h => ?_
    cases x with
    | ref n =>
      simp only [dS, sh_ref, hp_at]
      cases e : h[n]? with
      | none => rfl
      | some c =>
        cases c with
        | lst xs =>
          simp only [Option.map_some, Cell.sh, List.length_map, List.getElem?_map]
          cases xs[xs.length - 1]? with
          | none => rfl
          | some d =>
            simp only [Option.map_some, ERes.sh, ← hp_set, Cell.sh, List.map_dropLast]
        | _ => rfl
    | _ => simp [ERes.sh]
  | .idx a i, hn, σ, h => by
    simp only [CE.nr, Bool.and_eq_true] at hn
    simp only [evE]
    exact bind_sh (evE_sh a hn.1 σ h) fun x h => bind_sh (evE_sh i hn.2 σ h) fun y h => ofO_sh h (idxF_sh h x y)
  | .sl a lo hi, hn, σ, h => by
    simp only [CE.nr, Bool.and_eq_true] at hn
    simp only [evE]
    exact bind_sh (evE_sh a hn.1.1 σ h) fun x h => bind_sh (optR_sh (fun h => evE_sh lo hn.1.2 σ h) h) fun l h => bind_sh (optR_sh (fun h => evE_sh hi hn.2 σ h) h) fun u h => ofO_sh h (sliceF_sh h x l u)
  | .rev a, hn, σ, h => by
    simp only [CE.nr] at hn
    simp only [evE]
    exact bind_sh (evE_sh a hn σ h) fun x h => ofO_sh h (revF_sh h x)
  | .absent, _, σ, h => by simp only [evE, ERes.sh]
  | .tup es, hn, σ, h => by
    simp only [CE.nr] at hn
    simp only [evE]
    exact bind_sh (evEs_sh es hn σ h) fun ds h => by simp [ERes.sh]
  | .lst es, hn, σ, h => by
    simp only [CE.nr] at hn
    simp only [evE]
    exact bind_sh (evEs_sh es hn σ h) fun ds h => by simp [ERes.sh]
  | .comp elt t it cond own, hn, σ, h => by
    simp only [CE.nr, Bool.and_eq_true] at hn
    simp only [evE]
    refine bind_sh (evI_sh it hn.1.2 σ h) fun d h => ?_
    simp only [itS, List.length_map]
    split
    · rw [cwipe_sh]
      exact lmap_sh (compF_sh (fun σ h => evE_sh elt hn.1.1 σ h) (condR_sh (fun σ h => evE_sh cond hn.2 σ h)) t d.g (cwipe σ own) d.xs h)
    · rfl
  | .lrange it, hn, σ, h => by
    simp only [CE.nr] at hn
    simp only [evE]
    refine bind_sh (evI_sh it hn σ h) fun d h => ?_
    simp only [itS, List.length_map]
    split
    · simp [ERes.sh]
    · rfl
  | .cell e, hn, σ, h => by
    simp only [CE.nr] at hn
    simp only [evE]
    refine bind_sh (evE_sh e hn σ h) fun x h => ?_
    cases x with
    | lst xs =>
      simp only [dS, sh_lst, ERes.sh, hp_len, sh_ref, ← hp_push, Cell.sh]
    | _ => simp [ERes.sh]
  | .dict0 t, _, σ, h => by
    simp only [evE, ERes.sh, hp_len, dS, sh_ref, ← hp_push]
    cases t <;> simp [Cell.sh, kvS]
  | .dget o k d, hn, σ, h => by
    simp only [CE.nr, Bool.and_eq_true] at hn
    simp only [evE]
    refine bind_sh (evE_sh o hn.1.1 σ h) fun x h => ?_
    simp only [dS, isDictD_sh]
    split
    · refine bind_sh (evE_sh k hn.1.2 σ h) fun y h => bind_sh (evE_sh d hn.2 σ h) fun z h => ?_
      cases x with
      | ref n =>
        simp only [dS, sh_ref, lookD_sh]
        cases lookD h n y with
        | none => rfl
        | some r => cases r <;> simp [ERes.sh]
      | _ => simp [ERes.sh]
    · rfl
theorem evEs_sh : ∀ (es : CEs), es.nr = true → ∀ (σ : CSt) (h : Hc), evEs C es (σsh p.length σ) (hp p h) = (evEs C es σ h).sh (lS p) p
  | .nil, _, σ, h => by simp [evEs, ERes.sh]
  | .cons e es, hn, σ, h => by
    simp only [CEs.nr, Bool.and_eq_true] at hn
    simp only [evEs]
    exact bind_sh (evE_sh e hn.1 σ h) fun d h => bind_sh (evEs_sh es hn.2 σ h) fun ds h => by simp [ERes.sh]
theorem evI_sh : ∀ (e : CI), e.nr = true → ∀ (σ : CSt) (h : Hc), evI C e (σsh p.length σ) (hp p h) = (evI C e σ h).sh (itS p.length) p
  | .seq e, hn, σ, h => by
    simp only [CI.nr] at hn
    simp only [evI]
    refine bind_sh (evE_sh e hn σ h) fun d h => ?_
    simp only [dS, seqD_sh, guardOf_sh]
    cases seqD h d <;> rfl
  | .rng1 a, hn, σ, h => by
    simp only [CI.nr] at hn
    simp only [evI]
    refine bind_sh (evE_sh a hn σ h) fun d h => ?_
    cases d with
    | int j =>
      simp only [dS, sh_int]
      split
      · simp [ERes.sh, itS, rngD_sh, gsh]
      · rfl
    | _ => simp [ERes.sh]
  | .rng2 a b, hn, σ, h => by
    simp only [CI.nr, Bool.and_eq_true] at hn
    simp only [evI]
    refine bind_sh (evE_sh a hn.1 σ h) fun d h => bind_sh (evE_sh b hn.2 σ h) fun e h => ?_
    cases d <;> cases e <;> simp only [dS, sh_non, sh_bl, sh_int, sh_str, sh_fn, sh_ref, sh_tup, sh_lst] <;> first | rfl | skip
    split
    · simp [ERes.sh, itS, rngD_sh, gsh]
    · rfl
  | .rng3 a b c, hn, σ, h => by
    simp only [CI.nr, Bool.and_eq_true] at hn
    simp only [evI]
    refine bind_sh (evE_sh a hn.1.1 σ h) fun d h => bind_sh (evE_sh b hn.1.2 σ h) fun e h => bind_sh (evE_sh c hn.2 σ h) fun f h => ?_
    cases d <;> simp only [dS, sh_non, sh_bl, sh_int, sh_str, sh_fn, sh_ref, sh_tup, sh_lst] <;> first | rfl | skip
    cases e <;> simp only [dS, sh_non, sh_bl, sh_int, sh_str, sh_fn, sh_ref, sh_tup, sh_lst] <;> first | rfl | skip
    cases f <;> simp only [dS, sh_non, sh_bl, sh_int, sh_str, sh_fn, sh_ref, sh_tup, sh_lst] <;> first | rfl | skip
    split
    · simp [ERes.sh, itS, rngD_sh, gsh]
    · rfl
  | .enum e, hn, σ, h => by
    simp only [CI.nr] at hn
    simp only [evI]
    refine bind_sh (evE_sh e hn σ h) fun d h => ?_
    simp only [dS, lstD_sh, guardOf_sh]
    cases lstD h d with
    | none => rfl
    | some xs => simp only [Option.map_some, ERes.sh, itS, enumD_sh]
  | .zip a b, hn, σ, h => by
    simp only [CI.nr, Bool.and_eq_true] at hn
    simp only [evI]
    refine bind_sh (evE_sh a hn.1 σ h) fun d h => bind_sh (evE_sh b hn.2 σ h) fun e h => ?_
    simp only [dS, zipO_sh, guardOf_sh]
    cases zipO h d e with
    | none => rfl
    | some zs => simp only [Option.map_some, ERes.sh, itS, gsh, List.map_append]
end
end
end Cl

namespace Cl
open PySem PySem.Spec PyProof.Rows L2
variable {p : Hc}
theorem st_sh {α : Type} {g : α → α} {r' r : ERes α} {F' F : α → Hc → SRes} (σ : CSt) (hr : r' = r.sh g p) (hf : ∀ a h, F' (g a) (hp p h) = (F a h).sh p) : r'.st (σsh p.length σ) F' = (r.st σ F).sh p := by
  subst hr
  cases r with
  | ok a h => exact hf a h
  | exc x h => rfl
  | stuck => rfl
theorem stO_sh {α : Type} {g : α → α} {o' o : Option α} {F' F : α → SRes} (ho : o' = o.map g) (hf : ∀ a, F' (g a) = (F a).sh p) : stO o' F' = (stO o F).sh p := by
  subst ho
  cases o with
  | some a => exact hf a
  | none => rfl
def SvSh (p : Hc) (f' f : CSt → Hc → SRes) : Prop := ∀ σ h, f' (σsh p.length σ) (hp p h) = (f σ h).sh p
theorem forF_sh {fb' fb : CSt → Hc → SRes} (H : SvSh p fb' fb) (t : Tg) (g : Guard) : ∀ (xs : List D) (σ : CSt) (h : Hc), forF fb' t (gsh p.length g) (xs.map (D.sh p.length)) (σsh p.length σ) (hp p h) = (forF fb t g xs σ h).sh p
  | [], σ, h => by
    simp only [List.map_nil, forF, gOk_sh]
    split <;> rfl
  | x :: xs, σ, h => by
    simp only [List.map_cons, forF, gOk_sh, asgT_sh]
    split
    · cases asgT t x σ with
      | none => rfl
      | some σ' =>
        simp only [Option.map_some, H σ' h]
        cases fb σ' h with
        | exc x σ2 h2 => rfl
        | stuck => rfl
        | ok f h2 =>
          cases f with
          | nx σ2 => exact forF_sh H t g xs σ2 h2
          | ct σ2 => exact forF_sh H t g xs σ2 h2
          | bk σ2 => rfl
          | rt d => rfl
    · rfl
theorem whF_sh {fc' fc : EvF} {fb' fb : CSt → Hc → SRes} (Hq : EvSh p fc' fc) (H : SvSh p fb' fb) : ∀ (k : Nat) (σ : CSt) (h : Hc), whF fc' fb' k (σsh p.length σ) (hp p h) = (whF fc fb k σ h).sh p := by
  intro k
  induction k with
  | zero => intro σ h; simp only [whF, SRes.sh]
  | succ k ih =>
    intro σ h
    simp only [whF, boolR_sh (Hq σ h)]
    cases boolR (fc σ h) with
    | exc x h1 => rfl
    | stuck => rfl
    | ok b h1 =>
      cases b with
      | false => rfl
      | true =>
        simp only [ERes.sh, id, H σ h1]
        cases fb σ h1 with
        | exc x σ2 h2 => rfl
        | stuck => rfl
        | ok f h2 =>
          cases f with
          | nx σ2 => exact ih σ2 h2
          | ct σ2 => exact ih σ2 h2
          | bk σ2 => rfl
          | rt d => rfl
theorem lowSt_sh (h : Hc) (σ : CSt) : lowSt (hp p h).length (σsh p.length σ) = lowSt h.length σ := by
  simp only [lowSt, σsh, List.all_map, hp_len]
  congr 1
  funext o
  cases o with
  | none => rfl
  | some d => exact low_sh _ _ d
theorem clow_sh (k n : Nat) (c : Cell) : (c.sh k).low (n + k) = c.low n := by
  have e : ∀ xs : List D, D.low.lows (n + k) (xs.map (D.sh k)) = D.low.lows n xs := fun xs => by rw [← shs_map, lows_sh]
  cases c <;> simp only [Cell.sh, Cell.low, e, kvS, List.all_map, Function.comp_def, low_sh]
theorem cutOk_sh (h h' : Hc) : cutOk (hp p h).length (hp p h) (hp p h') = cutOk h.length h h' := by
  simp only [cutOk]
  rw [hp_len, hp_take]
  simp only [hp]
  rw [List.zip_append rfl, List.all_append]
  have e1 : (p.zip p).all (fun q => q.1.low (h.length + p.length) || decide (q.1 = q.2)) = true := by
    rw [List.all_eq_true]
    intro q hq
    have : q.1 = q.2 := by
      generalize p = r at hq
      induction r with
      | nil => simp at hq
      | cons c cs ih =>
        simp only [List.zip_cons_cons, List.mem_cons] at hq
        rcases hq with rfl | hq
        · rfl
        · exact ih hq
    simp [this]
  rw [e1, Bool.true_and, List.zip_map, List.all_map]
  congr 1
  funext q
  simp only [Function.comp, Prod.map, clow_sh]
  congr 1
  rw [decide_eq_decide]
  exact ⟨csh_inj _ _ _, fun e => by rw [e]⟩
theorem scopeR_sh (h : Hc) (r : SRes) : scopeR (hp p h) (r.sh p) = (scopeR h r).sh p := by
  cases r with
  | exc x σ h' => rfl
  | stuck => rfl
  | ok f h' =>
    cases f with
    | nx σ =>
      simp only [SRes.sh, flS, scopeR, lowSt_sh, cutOk_sh]
      split
      · simp only [SRes.sh, flS, hp_len, hp_take]
      · rfl
    | _ => rfl
theorem refIdx_sh (h : Hc) (x y : D) : refIdx (hp p h) (x.sh p.length) (y.sh p.length) = (refIdx h x y).map (dS p) := by
  cases x with
  | ref n => 
    have := idxF_sh (p := p) h (.ref n) y
    simp only [sh_ref] at this
    simp only [sh_ref, refIdx, this]
  | _ => simp [refIdx]
theorem noExc_sh (r : SRes) : noExc (r.sh p) = (noExc r).sh p := by cases r <;> rfl
section
variable {C : Caller} {sub : Nat → Nat → Option Bool} (HC : CallSh p C)
include HC
mutual
theorem evS_sh : ∀ (s : CS), s.nr = true → ∀ (σ : CSt) (h : Hc), evS ⟨C, sub⟩ s (σsh p.length σ) (hp p h) = (evS ⟨C, sub⟩ s σ h).sh p
  | .asg t e, hn, σ, h => by
    simp only [CS.nr] at hn
    simp only [evS]
    exact st_sh σ (evE_sh HC e hn σ h) fun d h => stO_sh (asgT_sh _ t d σ) fun σ' => rfl
  | .aug i op e, hn, σ, h => by
    simp only [CS.nr] at hn
    simp only [evS, σsh_at]
    cases σ[i]? with
    | none => rfl
    | some o =>
      cases o with
      | none => rfl
      | some x =>
        simp only [Option.map_some]
        refine st_sh σ (evE_sh HC e hn σ h) fun y h => ?_
        cases x <;> simp only [dS, sh_non, sh_bl, sh_int, sh_str, sh_fn, sh_ref, sh_tup, sh_lst] <;> first | rfl | skip
        cases y <;> simp only [dS, sh_non, sh_bl, sh_int, sh_str, sh_fn, sh_ref, sh_tup, sh_lst] <;> first | rfl | skip
        rename_i a b
        refine stO_sh (g := dS p) ?_ fun z => ?_
        · have := binF_sh (p := p) h op (.int a) (.int b)
          simpa using this
        · simp only [SRes.sh, flS, σsh_set, Option.map_some]
  | .sput o i e, hn, σ, h => by
    simp only [CS.nr, Bool.and_eq_true] at hn
    simp only [evS]
    exact st_sh σ (evE_sh HC e hn.2 σ h) fun v h => st_sh σ (evE_sh HC o hn.1.1 σ h) fun x h => st_sh σ (evE_sh HC i hn.1.2 σ h) fun y h => stO_sh (putF_sh h x y v) fun h' => rfl
  | .saug o i op e, hn, σ, h => by
    simp only [CS.nr, Bool.and_eq_true] at hn
    simp only [evS]
    refine st_sh σ (evE_sh HC o hn.1.1 σ h) fun x h => st_sh σ (evE_sh HC i hn.1.2 σ h) fun y h => stO_sh (refIdx_sh h x y) fun u => st_sh σ (evE_sh HC e hn.2 σ h) fun v h => ?_
    cases u <;> simp only [dS, sh_non, sh_bl, sh_int, sh_str, sh_fn, sh_ref, sh_tup, sh_lst] <;> first | rfl | skip
    cases v <;> simp only [dS, sh_non, sh_bl, sh_int, sh_str, sh_fn, sh_ref, sh_tup, sh_lst] <;> first | rfl | skip
    rename_i a b
    refine stO_sh (g := dS p) ?_ fun w => stO_sh (putF_sh h x y w) fun h' => rfl
    have := binF_sh (p := p) h op (.int a) (.int b)
    simpa using this
  | .expr e, hn, σ, h => by
    simp only [CS.nr] at hn
    simp only [evS]
    exact st_sh σ (evE_sh HC e hn σ h) fun d h => rfl
  | .app o e, hn, σ, h => by
    simp only [CS.nr, Bool.and_eq_true] at hn
    simp only [evS]
    refine st_sh σ (evE_sh HC o hn.1 σ h) fun x h => ?_
    simp only [dS, isLstD_sh]
    split
    · rfl
    · refine st_sh σ (evE_sh HC e hn.2 σ h) fun v h => ?_
      cases x with
      | ref n =>
        simp only [sh_ref, hp_at]
        cases e : h[n]? with
        | none => rfl
        | some c =>
          cases c with
          | lst xs =>
            simp only [Option.map_some, Cell.sh, List.length_map]
            split
            · simp only [SRes.sh, flS, ← hp_set, Cell.sh, List.map_append, List.map_cons, List.map_nil]
            · rfl
          | _ => rfl
      | _ => simp [SRes.sh]
  | .ifs t a b, hn, σ, h => by
    simp only [CS.nr, Bool.and_eq_true] at hn
    simp only [evS]
    refine st_sh (g := id) σ (boolR_sh (evE_sh HC t hn.1.1 σ h)) fun c h => ?_
    cases c
    · exact evSs_sh b hn.2 σ h
    · exact evSs_sh a hn.1.2 σ h
  | .for_ t it body, hn, σ, h => by
    simp only [CS.nr, Bool.and_eq_true] at hn
    simp only [evS]
    exact st_sh σ (evI_sh HC it hn.1 σ h) fun d h => forF_sh (fun σ h => evSs_sh body hn.2 σ h) t d.g d.xs σ h
  | .whl t body, hn, σ, h => by
    simp only [CS.nr, Bool.and_eq_true] at hn
    simp only [evS]
    exact whF_sh (fun σ h => evE_sh HC t hn.1 σ h) (fun σ h => evSs_sh body hn.2 σ h) wFuel σ h
  | .ret e, hn, σ, h => by
    simp only [CS.nr] at hn
    simp only [evS]
    exact st_sh σ (evE_sh HC e hn σ h) fun d h => rfl
  | .retN, hn, σ, h => by simp [evS, SRes.sh, flS]
  | .brk, hn, σ, h => by simp [evS, SRes.sh, flS]
  | .pass, hn, σ, h => by simp [evS, SRes.sh, flS]
  | .raise x e, hn, σ, h => by
    simp only [CS.nr] at hn
    simp only [evS]
    split
    · rfl
    · exact st_sh σ (evE_sh HC e hn σ h) fun d h => rfl
  | .try_ body x suite, hn, σ, h => by
    simp only [CS.nr, Bool.and_eq_true] at hn
    simp only [evS, evSs_sh body hn.1 σ h]
    cases evSs ⟨C, sub⟩ body σ h with
    | ok f h' => rfl
    | stuck => rfl
    | exc y σ' h' =>
      simp only [SRes.sh, Exc.sh]
      cases sub y.cls x with
      | none => rfl
      | some b =>
        cases b
        · rfl
        · simp only [evSs_sh suite hn.2 σ' h', noExc_sh]
          cases noExc (evSs ⟨C, sub⟩ suite σ' h') <;> rfl
  | .kill is, hn, σ, h => by simp only [evS, SRes.sh, flS, ckill, cwipe_sh]
  | .scope ss, hn, σ, h => by
    simp only [CS.nr] at hn
    simp only [evS, evSs_sh ss hn σ h, scopeR_sh]
theorem evSs_sh : ∀ (ss : CSs), ss.nr = true → ∀ (σ : CSt) (h : Hc), evSs ⟨C, sub⟩ ss (σsh p.length σ) (hp p h) = (evSs ⟨C, sub⟩ ss σ h).sh p
  | .nil, _, σ, h => by simp only [evSs, SRes.sh, flS]
  | .cons s ss, hn, σ, h => by
    simp only [CSs.nr, Bool.and_eq_true] at hn
    simp only [evSs, evS_sh s hn.1 σ h]
    cases evS ⟨C, sub⟩ s σ h with
    | ok f h' =>
      cases f with
      | nx σ' => exact evSs_sh ss hn.2 σ' h'
      | _ => rfl
    | exc x σ' h' => rfl
    | stuck => rfl
end
end
def Pg.nr (P : Pg) : Bool := P.defs.all fun d => d.body.nr
theorem cstart_sh (k : Nat) (d : CDef) (args : List D) : cstart d (args.map (D.sh k)) = σsh k (cstart d args) := by
  simp [cstart, σsh, Function.comp_def]
theorem xlow_sh (k n : Nat) (x : Exc) : (x.sh k).low (n + k) = x.low n := by
  cases x with
  | mk c a => cases a with
    | none => rfl
    | some d => exact low_sh _ _ d
theorem runD_sh {C : Caller} {sub} (HC : CallSh p C) (d : CDef) (hd : d.body.nr = true) (args : List D) (h : Hc) : runD ⟨C, sub⟩ d (args.map (D.sh p.length)) (hp p h) = (runD ⟨C, sub⟩ d args h).sh (dS p) p := by
  have fin : ∀ v h', finR (hp p h) (dS p v) (hp p h') = (finR h v h').sh (dS p) p := by
    intro v h'
    simp only [finR, cutOk_sh]
    have e : (dS p v).low (hp p h).length = v.low h.length := by rw [hp_len]; exact low_sh _ _ v
    rw [e]
    split
    · simp only [ERes.sh, hp_len, hp_take]
    · rfl
  simp only [runD, List.length_map, cstart_sh]
  split
  · rw [evSs_sh HC d.body hd]
    cases evSs ⟨C, sub⟩ d.body (cstart d args) h with
    | ok f h' =>
      cases f with
      | rt v => exact fin v h'
      | nx σ => 
        have := fin .non h'
        simp only [dS, sh_non] at this
        exact this
      | _ => rfl
    | exc x σ h' =>
      simp only [SRes.sh, finX, cutOk_sh]
      have e : (x.sh p.length).low (hp p h).length = x.low h.length := by rw [hp_len]; exact xlow_sh _ _ x
      rw [e]
      split
      · simp only [ERes.sh, hp_len, hp_take]
      · rfl
    | stuck => rfl
  · rfl
/-- a run under a longer heap -/
theorem callN_sh {P : Pg} (hP : P.nr = true) : ∀ n, CallSh p (callN P n) := by
  intro n
  induction n with
  | zero => intro f args h; rfl
  | succ n ih =>
    intro f args h
    simp only [callN]
    cases e : P.defs[f]? with
    | none => rfl
    | some d =>
      exact runD_sh ih d (List.all_eq_true.mp hP d (List.mem_of_getElem? e)) args h
/-- what a run without heap tells, told under any heap -/
theorem frame {P : Pg} (hP : P.nr = true) {n f : Nat} {args : List D} (ha : D.nrs args = true) {v : D} (hv : v.nr = true) (e : callN P n f args [] = .ok v []) (h : Hc) : callN P n f args h = .ok v h := by
  have := callN_sh (p := h) hP n f args []
  rw [nrs_sh _ _ ha, e] at this
  simpa [hp, ERes.sh, nr_sh _ v hv] using this
theorem frameX {P : Pg} (hP : P.nr = true) {n f : Nat} {args : List D} (ha : D.nrs args = true) {x : Exc} (hv : (match x.arg with | some v => v.nr | none => true) = true) (e : callN P n f args [] = .exc x []) (h : Hc) : callN P n f args h = .exc x h := by
  have := callN_sh (p := h) hP n f args []
  rw [nrs_sh _ _ ha, e] at this
  have ex : x.sh h.length = x := by
    cases x with
    | mk c a => cases a with
      | none => rfl
      | some d => simp only [Exc.sh, Option.map_some, nr_sh _ d hv]
  simpa [hp, ERes.sh, ex] using this
/-- a closed run's test, for the kernel -/
def runs (P : Pg) (n f : Nat) (args : List D) (v : D) : Bool :=
  D.nrs args && v.nr && (match callN P n f args [] with | .ok w [] => D.beq w v | _ => false)
theorem runs_at {P : Pg} (hP : P.nr = true) {n f : Nat} {args : List D} {v : D} (e : runs P n f args v = true) (h : Hc) : callN P n f args h = .ok v h := by
  simp only [runs, Bool.and_eq_true] at e
  refine frame hP e.1.1 e.1.2 ?_ h
  have e2 := e.2
  cases hc : callN P n f args [] with
  | ok w h' =>
    rw [hc] at e2
    cases h' with
    | nil => rw [D.beq_eq e2]
    | cons a b => exact absurd e2 (by simp)
  | exc x h' => rw [hc] at e2; exact absurd e2 (by simp)
  | stuck => rw [hc] at e2; exact absurd e2 (by simp)
end Cl

namespace Cl
open PySem PySem.Spec PyProof.Rows L2

/-! ## calls that tell more: a run that does not stick stays the same -/
def Le {α : Type} (r r' : ERes α) : Prop := r = .stuck ∨ r' = r
theorem Le.rfl' {α : Type} (r : ERes α) : Le r r := .inr rfl
theorem Le.stuck {α : Type} (r : ERes α) : Le .stuck r := .inl rfl
theorem bind_le {α β : Type} {r r' : ERes α} {F F' : α → Hc → ERes β} (hr : Le r r') (hf : ∀ a h, Le (F a h) (F' a h)) : Le (r.bind F) (r'.bind F') := by
  rcases hr with e | e
  · subst e; exact .inl rfl
  · subst e
    cases r' with
    | ok a h => exact hf a h
    | exc x h => exact .inr rfl
    | stuck => exact .inl rfl
def SLe (r r' : SRes) : Prop := r = .stuck ∨ r' = r
theorem st_le {α : Type} {r r' : ERes α} {F F' : α → Hc → SRes} {σ : CSt} (hr : Le r r') (hf : ∀ a h, SLe (F a h) (F' a h)) : SLe (r.st σ F) (r'.st σ F') := by
  rcases hr with e | e
  · subst e; exact .inl rfl
  · subst e
    cases r' with
    | ok a h => exact hf a h
    | exc x h => exact .inr rfl
    | stuck => exact .inl rfl
theorem stO_le {α : Type} {o : Option α} {F F' : α → SRes} (hf : ∀ a, SLe (F a) (F' a)) : SLe (stO o F) (stO o F') := by
  cases o with
  | some a => exact hf a
  | none => exact .inl rfl
theorem boolR_le {r r' : ERes D} (hr : Le r r') : Le (boolR r) (boolR r') := by
  rcases hr with e | e
  · subst e; exact .inl rfl
  · subst e; exact .inr rfl
theorem lmap_le {r r' : ERes (List D)} (hr : Le r r') : Le (lmap [] r) (lmap [] r') := by
  rcases hr with e | e
  · subst e; exact .inl rfl
  · subst e; exact .inr rfl
def EvLe (f f' : EvF) : Prop := ∀ σ h, Le (f σ h) (f' σ h)
theorem condR_le {ab : Bool} {f f' : EvF} (H : EvLe f f') : EvLe (condR ab f) (condR ab f') := by
  intro σ h
  cases ab
  · exact H σ h
  · exact .inr rfl
theorem optR_le {ab : Bool} {f f' : Hc → ERes D} (H : ∀ h, Le (f h) (f' h)) (h : Hc) : Le (optR ab f h) (optR ab f' h) := by
  simp only [optR]
  split
  · exact .inr rfl
  · exact bind_le (H h) fun _ _ => .inr rfl
theorem compF_le {fe fe' fc fc' : EvF} (He : EvLe fe fe') (Hq : EvLe fc fc') (t : Tg) (g : Guard) (σ : CSt) : ∀ (xs : List D) (h : Hc), Le (compF fe fc t g σ xs h) (compF fe' fc' t g σ xs h)
  | [], h => .inr (by simp only [compF])
  | x :: xs, h => by
    simp only [compF]
    split
    · cases asgT t x σ with
      | none => exact .inl rfl
      | some σ' =>
        simp only
        rcases boolR_le (Hq σ' h) with e | e
        · rw [e]; exact .inl rfl
        · rw [e]
          cases boolR (fc σ' h) with
          | exc x h => exact .inl rfl
          | stuck => exact .inl rfl
          | ok b h1 =>
            cases b with
            | false => exact compF_le He Hq t g σ xs h1
            | true =>
              simp only
              rcases He σ' h1 with e | e
              · rw [e]; exact .inl rfl
              · rw [e]
                cases fe σ' h1 with
                | exc x h => exact .inl rfl
                | stuck => exact .inl rfl
                | ok y h2 =>
                  simp only
                  rcases compF_le He Hq t g σ xs h2 with e | e
                  · rw [e]; exact .inl rfl
                  · rw [e]; exact .inr rfl
    · exact .inl rfl
theorem if_le {α : Type} {c : Prop} [Decidable c] {a b a' b' : ERes α} (h1 : Le a a') (h2 : Le b b') : Le (if c then a else b) (if c then a' else b') := by
  split
  · exact h1
  · exact h2
def CLe (C C' : Caller) : Prop := ∀ f args h, Le (C f args h) (C' f args h)
section
variable {C C' : Caller} (HC : CLe C C')
include HC
mutual
theorem evE_le : ∀ (e : CE) (σ : CSt) (h : Hc), Le (evE C e σ h) (evE C' e σ h)
  | .var i, σ, h => .inr (by simp only [evE])
  | .cst d, σ, h => .inr (by simp only [evE])
  | .glob x d, σ, h => .inr (by simp only [evE])
  | .bin op a b, σ, h => by
    simp only [evE]
    exact bind_le (evE_le a σ h) fun x h => bind_le (evE_le b σ h) fun y h => .inr rfl
  | .neg a, σ, h => by
    simp only [evE]
    exact bind_le (evE_le a σ h) fun x h => .inr rfl
  | .not_ a, σ, h => by
    simp only [evE]
    exact bind_le (evE_le a σ h) fun x h => .inr rfl
  | .cmp op a b, σ, h => by
    simp only [evE]
    exact bind_le (evE_le a σ h) fun x h => bind_le (evE_le b σ h) fun y h => .inr rfl
  | .chain op op' a b c, σ, h => by
    simp only [evE]
    refine bind_le (evE_le a σ h) fun x h => bind_le (evE_le b σ h) fun y h => ?_
    cases cmpF h op x y with
    | none => exact .inl rfl
    | some v =>
      cases v
      · exact .inr rfl
      · exact bind_le (evE_le c σ h) fun z h => .inr rfl
  | .and_ a b, σ, h => by
    simp only [evE]
    refine bind_le (evE_le a σ h) fun x h => ?_
    cases x with
    | bl v => 
      cases v
      · exact .inr rfl
      · exact evE_le b σ h
    | _ => exact .inl rfl
  | .or_ a b, σ, h => by
    simp only [evE]
    refine bind_le (evE_le a σ h) fun x h => ?_
    cases x with
    | bl v => 
      cases v
      · exact evE_le b σ h
      · exact .inr rfl
    | _ => exact .inl rfl
  | .ite t a b, σ, h => by
    simp only [evE]
    refine bind_le (evE_le t σ h) fun x h => ?_
    cases x with
    | bl v => 
      cases v
      · exact evE_le b σ h
      · exact evE_le a σ h
    | _ => exact .inl rfl
  | .call f args, σ, h => by
    simp only [evE]
    exact bind_le (evEs_le args σ h) fun ds h => HC f ds h
  | .bi b args, σ, h => by
    simp only [evE]
    exact bind_le (evEs_le args σ h) fun ds h => .inr rfl
  | .callv fe fs args, σ, h => by
    simp only [evE]
    refine bind_le (evE_le fe σ h) fun x h => ?_
    cases x with
    | fn i => exact if_le (bind_le (evEs_le args σ h) fun ds h => HC i ds h) (.inl rfl)
    | _ => exact .inl rfl
  | .isin a ts, σ, h => by
    simp only [evE]
    exact bind_le (evE_le a σ h) fun x h => .inr rfl
  | .pop o, σ, h => by
    simp only [evE]
    exact bind_le (evE_le o σ h) fun x h => .inr rfl
  | .idx a i, σ, h => by
    simp only [evE]
    exact bind_le (evE_le a σ h) fun x h => bind_le (evE_le i σ h) fun y h => .inr rfl
  | .sl a lo hi, σ, h => by
    simp only [evE]
    exact bind_le (evE_le a σ h) fun x h => bind_le (optR_le (fun h => evE_le lo σ h) h) fun l h => bind_le (optR_le (fun h => evE_le hi σ h) h) fun u h => .inr rfl
  | .rev a, σ, h => by
    simp only [evE]
    exact bind_le (evE_le a σ h) fun x h => .inr rfl
  | .absent, σ, h => .inl (by simp only [evE])
  | .tup es, σ, h => by
    simp only [evE]
    exact bind_le (evEs_le es σ h) fun x h => .inr rfl
  | .lst es, σ, h => by
    simp only [evE]
    exact bind_le (evEs_le es σ h) fun x h => .inr rfl
  | .comp elt t it cond own, σ, h => by
    simp only [evE]
    refine bind_le (evI_le it σ h) fun d h => if_le ?_ (.inl rfl)
    exact lmap_le (compF_le (fun σ h => evE_le elt σ h) (condR_le fun σ h => evE_le cond σ h) t d.g _ d.xs h)
  | .lrange it, σ, h => by
    simp only [evE]
    exact bind_le (evI_le it σ h) fun x h => .inr rfl
  | .cell e, σ, h => by
    simp only [evE]
    exact bind_le (evE_le e σ h) fun x h => .inr rfl
  | .dict0 t, σ, h => .inr (by simp only [evE])
  | .dget o k d, σ, h => by
    simp only [evE]
    refine bind_le (evE_le o σ h) fun x h => if_le ?_ (.inl rfl)
    exact bind_le (evE_le k σ h) fun y h => bind_le (evE_le d σ h) fun z h => .inr rfl
theorem evEs_le : ∀ (es : CEs) (σ : CSt) (h : Hc), Le (evEs C es σ h) (evEs C' es σ h)
  | .nil, σ, h => .inr (by simp only [evEs])
  | .cons e es, σ, h => by
    simp only [evEs]
    exact bind_le (evE_le e σ h) fun d h => bind_le (evEs_le es σ h) fun ds h => .inr rfl
theorem evI_le : ∀ (e : CI) (σ : CSt) (h : Hc), Le (evI C e σ h) (evI C' e σ h)
  | .seq e, σ, h => by
    simp only [evI]
    exact bind_le (evE_le e σ h) fun d h => .inr rfl
  | .rng1 a, σ, h => by
    simp only [evI]
    exact bind_le (evE_le a σ h) fun d h => .inr rfl
  | .rng2 a b, σ, h => by
    simp only [evI]
    exact bind_le (evE_le a σ h) fun d h => bind_le (evE_le b σ h) fun e h => .inr rfl
  | .rng3 a b c, σ, h => by
    simp only [evI]
    exact bind_le (evE_le a σ h) fun d h => bind_le (evE_le b σ h) fun e h => bind_le (evE_le c σ h) fun f h => .inr rfl
  | .enum e, σ, h => by
    simp only [evI]
    exact bind_le (evE_le e σ h) fun d h => .inr rfl
  | .zip a b, σ, h => by
    simp only [evI]
    exact bind_le (evE_le a σ h) fun d h => bind_le (evE_le b σ h) fun e h => .inr rfl
end
end
def SvLe (f f' : CSt → Hc → SRes) : Prop := ∀ σ h, SLe (f σ h) (f' σ h)
theorem forF_le {fb fb' : CSt → Hc → SRes} (H : SvLe fb fb') (t : Tg) (g : Guard) : ∀ (xs : List D) (σ : CSt) (h : Hc), SLe (forF fb t g xs σ h) (forF fb' t g xs σ h)
  | [], σ, h => .inr (by simp only [forF])
  | x :: xs, σ, h => by
    simp only [forF]
    split
    · cases asgT t x σ with
      | none => exact .inl rfl
      | some σ' =>
        simp only
        rcases H σ' h with e | e
        · rw [e]; exact .inl rfl
        · rw [e]
          cases fb σ' h with
          | exc x σ2 h2 => exact .inr rfl
          | stuck => exact .inl rfl
          | ok f h2 =>
            cases f with
            | nx σ2 => exact forF_le H t g xs σ2 h2
            | ct σ2 => exact forF_le H t g xs σ2 h2
            | bk σ2 => exact .inr rfl
            | rt d => exact .inr rfl
    · exact .inl rfl
theorem whF_le {fc fc' : EvF} {fb fb' : CSt → Hc → SRes} (Hq : EvLe fc fc') (H : SvLe fb fb') : ∀ (k : Nat) (σ : CSt) (h : Hc), SLe (whF fc fb k σ h) (whF fc' fb' k σ h) := by
  intro k
  induction k with
  | zero => intro σ h; exact .inl rfl
  | succ k ih =>
    intro σ h
    simp only [whF]
    rcases boolR_le (Hq σ h) with e | e
    · rw [e]; exact .inl rfl
    · rw [e]
      cases boolR (fc σ h) with
      | exc x h1 => exact .inr rfl
      | stuck => exact .inl rfl
      | ok b h1 =>
        cases b with
        | false => exact .inr rfl
        | true =>
          simp only
          rcases H σ h1 with e | e
          · rw [e]; exact .inl rfl
          · rw [e]
            cases fb σ h1 with
            | exc x σ2 h2 => exact .inr rfl
            | stuck => exact .inl rfl
            | ok f h2 =>
              cases f with
              | nx σ2 => exact ih σ2 h2
              | ct σ2 => exact ih σ2 h2
              | bk σ2 => exact .inr rfl
              | rt d => exact .inr rfl
section
variable {C C' : Caller} {sub : Nat → Nat → Option Bool} (HC : CLe C C')
include HC
mutual
theorem evS_le : ∀ (s : CS) (σ : CSt) (h : Hc), SLe (evS ⟨C, sub⟩ s σ h) (evS ⟨C', sub⟩ s σ h)
  | .asg t e, σ, h => by
    simp only [evS]
    exact st_le (evE_le HC e σ h) fun d h => .inr rfl
  | .aug i op e, σ, h => by
    simp only [evS]
    cases σ[i]? with
    | none => exact .inl rfl
    | some o =>
      cases o with
      | none => exact .inl rfl
      | some x => exact st_le (evE_le HC e σ h) fun d h => .inr rfl
  | .sput o i e, σ, h => by
    simp only [evS]
    exact st_le (evE_le HC e σ h) fun v h => st_le (evE_le HC o σ h) fun x h => st_le (evE_le HC i σ h) fun y h => .inr rfl
  | .saug o i op e, σ, h => by
    simp only [evS]
    exact st_le (evE_le HC o σ h) fun x h => st_le (evE_le HC i σ h) fun y h => stO_le fun u => st_le (evE_le HC e σ h) fun v h => .inr rfl
  | .expr e, σ, h => by
    simp only [evS]
    exact st_le (evE_le HC e σ h) fun d h => .inr rfl
  | .app o e, σ, h => by
    simp only [evS]
    refine st_le (evE_le HC o σ h) fun x h => ?_
    split
    · exact .inl rfl
    · exact st_le (evE_le HC e σ h) fun v h => .inr rfl
  | .ifs t a b, σ, h => by
    simp only [evS]
    refine st_le (boolR_le (evE_le HC t σ h)) fun c h => ?_
    cases c
    · exact evSs_le b σ h
    · exact evSs_le a σ h
  | .for_ t it body, σ, h => by
    simp only [evS]
    exact st_le (evI_le HC it σ h) fun d h => forF_le (fun σ h => evSs_le body σ h) t d.g d.xs σ h
  | .whl t body, σ, h => by
    simp only [evS]
    exact whF_le (fun σ h => evE_le HC t σ h) (fun σ h => evSs_le body σ h) wFuel σ h
  | .ret e, σ, h => by
    simp only [evS]
    exact st_le (evE_le HC e σ h) fun d h => .inr rfl
  | .retN, σ, h => .inr (by simp only [evS])
  | .brk, σ, h => .inr (by simp only [evS])
  | .pass, σ, h => .inr (by simp only [evS])
  | .raise x e, σ, h => by
    simp only [evS]
    split
    · exact .inr rfl
    · exact st_le (evE_le HC e σ h) fun d h => .inr rfl
  | .try_ body x suite, σ, h => by
    simp only [evS]
    rcases evSs_le body σ h with e | e
    · rw [e]; exact .inl rfl
    · rw [e]
      cases evSs ⟨C, sub⟩ body σ h with
      | ok f h' => exact .inr rfl
      | stuck => exact .inl rfl
      | exc y σ' h' =>
        simp only
        cases sub y.cls x with
        | none => exact .inl rfl
        | some b =>
          cases b
          · exact .inr rfl
          · simp only
            rcases evSs_le suite σ' h' with e | e
            · rw [e]; exact .inl rfl
            · rw [e]; exact .inr rfl
  | .kill is, σ, h => .inr (by simp only [evS])
  | .scope ss, σ, h => by
    simp only [evS]
    rcases evSs_le ss σ h with e | e
    · rw [e]; exact .inl rfl
    · rw [e]; exact .inr rfl
theorem evSs_le : ∀ (ss : CSs) (σ : CSt) (h : Hc), SLe (evSs ⟨C, sub⟩ ss σ h) (evSs ⟨C', sub⟩ ss σ h)
  | .nil, σ, h => .inr (by simp only [evSs])
  | .cons s ss, σ, h => by
    simp only [evSs]
    rcases evS_le s σ h with e | e
    · rw [e]; exact .inl rfl
    · rw [e]
      cases evS ⟨C, sub⟩ s σ h with
      | ok f h' =>
        cases f with
        | nx σ' => exact evSs_le ss σ' h'
        | _ => exact .inr rfl
      | exc x σ' h' => exact .inr rfl
      | stuck => exact .inl rfl
end
end
theorem runD_le {C C' : Caller} {sub} (HC : CLe C C') (d : CDef) (args : List D) (h : Hc) : Le (runD ⟨C, sub⟩ d args h) (runD ⟨C', sub⟩ d args h) := by
  simp only [runD]
  split
  · rcases evSs_le (sub := sub) HC d.body (cstart d args) h with e | e
    · rw [e]; exact .inl rfl
    · rw [e]; exact .inr rfl
  · exact .inl rfl
theorem callN_succ (P : Pg) : ∀ n, CLe (callN P n) (callN P (n + 1)) := by
  intro n
  induction n with
  | zero => intro f args h; exact .inl rfl
  | succ n ih =>
    intro f args h
    rw [callN, callN]
    cases P.defs[f]? with
    | none => exact .inl rfl
    | some d => exact runD_le ih d args h
theorem CLe.trans {A B C : Caller} (h1 : CLe A B) (h2 : CLe B C) : CLe A C := fun f a h => by
  rcases h1 f a h with e | e
  · exact .inl e
  · rcases h2 f a h with e2 | e2
    · exact .inl (e.symm.trans e2)
    · exact .inr (e2.trans e)
theorem callN_add (P : Pg) (n : Nat) : ∀ k, CLe (callN P n) (callN P (n + k))
  | 0 => fun f a h => .inr rfl
  | k + 1 => (callN_add P n k).trans (callN_succ P (n + k))
theorem callN_up {P : Pg} {n m f : Nat} {args : List D} {h h' : Hc} {v : D} (e : callN P n f args h = .ok v h') (hm : n ≤ m) : callN P m f args h = .ok v h' := by
  obtain ⟨k, rfl⟩ := Nat.exists_eq_add_of_le hm
  rcases callN_add P n k f args h with e2 | e2
  · rw [e] at e2; cases e2
  · rw [e2, e]
/-- calls, some of them told by a table -/
def callT (T : Nat → List D → Option D) (P : Pg) : Nat → Caller
  | 0, _, _, _ => .stuck
  | n + 1, f, args, h => match T f args with
    | some v => .ok v h
    | none => match P.defs[f]? with
      | some d => runD ⟨callT T P n, P.sub⟩ d args h
      | none => .stuck
/-- the table's values are those of the program -/
def TOk (T : Nat → List D → Option D) (P : Pg) (k : Nat) : Prop := ∀ f args v h, T f args = some v → callN P k f args h = .ok v h
theorem callT_le {T : Nat → List D → Option D} {P : Pg} {k : Nat} (H : TOk T P k) : ∀ n, CLe (callT T P n) (callN P (n + k)) := by
  intro n
  induction n with
  | zero => intro f args h; exact .inl rfl
  | succ n ih =>
    intro f args h
    simp only [callT]
    cases e : T f args with
    | some v => exact .inr (callN_up (H f args v h e) (by omega))
    | none =>
      rw [show n + 1 + k = (n + k) + 1 by omega]
      simp only [callN]
      cases P.defs[f]? with
      | none => exact .inl rfl
      | some d => exact runD_le ih d args h
def runT (T : Nat → List D → Option D) (P : Pg) (n f : Nat) (args : List D) (v : D) : Bool :=
  D.nrs args && v.nr && (match callT T P n f args [] with | .ok w [] => D.beq w v | _ => false)
theorem runT_at {T : Nat → List D → Option D} {P : Pg} {k : Nat} (hP : P.nr = true) (H : TOk T P k) {n f : Nat} {args : List D} {v : D} (e : runT T P n f args v = true) {m : Nat} (hm : n + k ≤ m) (h : Hc) : callN P m f args h = .ok v h := by
  simp only [runT, Bool.and_eq_true] at e
  have e2 := e.2
  have e3 : callT T P n f args [] = .ok v [] := by
    cases hc : callT T P n f args [] with
    | ok w h' =>
      rw [hc] at e2
      cases h' with
      | nil => rw [D.beq_eq e2]
      | cons a b => exact absurd e2 (by simp)
    | exc x h' => rw [hc] at e2; exact absurd e2 (by simp)
    | stuck => rw [hc] at e2; exact absurd e2 (by simp)
  have e4 : callN P (n + k) f args [] = .ok v [] := by
    rcases callT_le H n f args [] with e5 | e5
    · rw [e3] at e5; cases e5
    · rw [e5, e3]
  exact frame hP e.1.1 e.1.2 (callN_up e4 hm) h
end Cl

namespace Cl
open PySem PySem.Spec PyProof.Rows L2
/-! ### Euclid, by the number of its steps -/
/-- how many steps are left, at most -/
def eMeas (x y : Nat) : Nat := if y = 0 then 0 else 2 * (x * y).log2 + (if x < y then 1 else 0) + 2
theorem log2_double {a b : Nat} (ha : 0 < a) (h : 2 * a ≤ b) : a.log2 + 1 ≤ b.log2 := by
  have hb : b ≠ 0 := by omega
  rw [Nat.le_log2 hb]
  have := Nat.log2_self_le (by omega : a ≠ 0)
  rw [Nat.pow_succ]
  omega
theorem eMeas_step {x y : Nat} (hy : y ≠ 0) : eMeas y (x % y) < eMeas x y := by
  unfold eMeas
  rw [if_neg hy]
  have hy0 : 0 < y := by omega
  have hlt := Nat.mod_lt x hy0
  by_cases hr : x % y = 0
  · rw [if_pos hr]; omega
  · rw [if_neg hr]
    by_cases hx : x < y
    · rw [Nat.mod_eq_of_lt hx, if_pos hx, if_neg (by omega), Nat.mul_comm y x]
      omega
    · rw [if_neg hx, if_neg (by omega)]
      have h1 := Nat.div_add_mod x y
      have h2 : 1 ≤ x / y := Nat.div_pos (by omega) hy0
      have h3 : y * 1 ≤ y * (x / y) := Nat.mul_le_mul_left _ h2
      have h4 : 2 * (x % y) ≤ x := by omega
      have h5 : 2 * (y * (x % y)) ≤ x * y := by
        calc 2 * (y * (x % y)) = y * (2 * (x % y)) := by rw [Nat.mul_left_comm]
          _ ≤ y * x := Nat.mul_le_mul_left _ h4
          _ = x * y := Nat.mul_comm _ _
      have := log2_double (Nat.mul_pos hy0 (by omega : 0 < x % y)) h5
      omega
theorem eMeas_lt {x y : Nat} (hx : x.log2 < 100000000) (hy : y.log2 < 100000000) : eMeas x y < 1000000000 := by
  unfold eMeas
  split
  · omega
  · by_cases h0 : x = 0
    · subst h0
      rw [Nat.zero_mul, show Nat.log2 0 = 0 from by decide]
      split <;> omega
    · rename_i hy0
      have h1 := (Nat.log2_lt h0).mp (Nat.lt_succ_self _)
      have h2 := (Nat.log2_lt hy0).mp (Nat.lt_succ_self _)
      have h3 : x * y < 2 ^ ((x.log2 + 1) + (y.log2 + 1)) := by
        rw [Nat.pow_add]
        exact Nat.mul_lt_mul'' h1 h2
      have h4 := (Nat.log2_lt (Nat.mul_ne_zero h0 hy0)).mpr h3
      split <;> omega
def smallG (n d : Int) : Bool := decide (n.natAbs.log2 < 100000000) && decide (d.natAbs.log2 < 100000000)
theorem absD (i : Int) : (if i < 0 then -i else i) = (i.natAbs : Nat) := by split <;> omega
/-- n over d in lowest terms -/
def sgcd (n d : Int) : Int := if d < 0 then -((Nat.gcd n.natAbs d.natAbs : Nat) : Int) else ((Nat.gcd n.natAbs d.natAbs : Nat) : Int)
def lowM (n d : Int) : Option (Int × Int) := if smallG n d && divOk (sgcd n d) then some (n.fdiv (sgcd n d), d.fdiv (sgcd n d)) else none
abbrev qD (q : Int × Int) : D := .tup [.int q.1, .int q.2]
def BL_gcd : CSs := (.cons (.asg (.t (.cons (.v 0) (.cons (.v 1) .nil))) (.tup (.cons (.var 1) (.cons (.bin .Mod (.var 0) (.var 1)) .nil)))) .nil)
def BD_gcd : CDef := ⟨2, 2, (.cons (.asg (.t (.cons (.v 0) (.cons (.v 1) .nil))) (.tup (.cons (.bi .abs (.cons (.var 0) .nil)) (.cons (.bi .abs (.cons (.var 1) .nil)) .nil)))) (.cons (.whl (.cmp .NotEq (.var 1) (.cst (.int 0))) BL_gcd) (.cons (.ret (.var 0)) .nil)))⟩
theorem asgE {P : Env2} {t : Tg} {e : CE} {σ σ' : CSt} {h h' : Hc} {d : D} (k : evE P.C e σ h = .ok d h') (k2 : asgT t d σ = some σ') : evS P (.asg t e) σ h = .ok (.nx σ') h' := by simp only [ES, EB, k, k2]
/-- Euclid's loop over two places -/
theorem euclid {Pe : Env2} {test : CE} {body : CSs} (mk : Int → Int → CSt) (h : Hc) (ht : ∀ x y : Int, evE Pe.C test (mk x y) h = .ok (.bl (!decide (y = 0))) h) (hb : ∀ x y : Int, y ≠ 0 → evSs Pe body (mk x y) h = .ok (.nx (mk y (x.fmod y))) h)
    (x y : Nat) (hx : x.log2 < 100000000) (hy : y.log2 < 100000000) : evS Pe (.whl test body) (mk x y) h = .ok (.nx (mk (Nat.gcd x y : Nat) 0)) h := by
  refine whS (P := Pe) (fun m σ H => ∃ a b : Nat, σ = mk a b ∧ H = h ∧ Nat.gcd a b = Nat.gcd x y ∧ m = eMeas a b) (fun r => r = .ok (.nx (mk (Nat.gcd x y : Nat) 0)) h) (fun m σ H I => ?_) (eMeas x y) (eMeas_lt hx hy) ⟨x, y, rfl, rfl, rfl, rfl⟩
  obtain ⟨a, b, rfl, rfl, hg, rfl⟩ := I
  by_cases hb0 : b = 0
  · left
    subst hb0
    rw [Nat.gcd_zero_right] at hg
    exact ⟨H, by rw [ht]; rfl, by rw [← hg]; rfl⟩
  · right
    refine ⟨H, mk (b : Nat) ((a % b : Nat) : Int), H, ?_, ?_, eMeas b (a % b), eMeas_step hb0, b, a % b, rfl, rfl, ?_, rfl⟩
    · rw [ht, decide_eq_false (by omega)]; rfl
    · rw [hb _ _ (by omega)]
      rw [Int.fmod_eq_emod_of_nonneg _ (by omega)]
      rfl
    · rw [← hg, Nat.gcd_comm a b, Nat.gcd_rec b a, Nat.gcd_comm]
theorem run_gcd {P : Pg} {i : Nat} (hd : P.defs[i]? = some BD_gcd) {n : Nat} {h : Hc} {a b : Int} (hs : smallG a b = true) : callN P (n + 1) i [.int a, .int b] h = .ok (.int (Nat.gcd a.natAbs b.natAbs : Nat)) h := by
  simp only [smallG, Bool.and_eq_true, decide_eq_true_eq] at hs
  refine call_rtp (d := BD_gcd) (b := BD_gcd.body) (σ := [some (.int a), some (.int b)]) hd rfl rfl rfl ?_
  show evSs _ (.cons (.asg (.t (.cons (.v 0) (.cons (.v 1) .nil))) (.tup (.cons (.bi .abs (.cons (.var 0) .nil)) (.cons (.bi .abs (.cons (.var 1) .nil)) .nil)))) (.cons (.whl (.cmp .NotEq (.var 1) (.cst (.int 0))) BL_gcd) (.cons (.ret (.var 0)) .nil))) _ _ = _
  have e1 : evS ⟨callN P n, P.sub⟩ (.asg (.t (.cons (.v 0) (.cons (.v 1) .nil))) (.tup (.cons (.bi .abs (.cons (.var 0) .nil)) (.cons (.bi .abs (.cons (.var 1) .nil)) .nil)))) [some (.int a), some (.int b)] h = .ok (.nx [some (.int (a.natAbs : Nat)), some (.int (b.natAbs : Nat))]) h :=
    asgE (ev_t2 (ev_bi1 (z := .int (a.natAbs : Nat)) (ev_var rfl) (by simp only [biF]; rw [absD])) (ev_bi1 (z := .int (b.natAbs : Nat)) (ev_var rfl) (by simp only [biF]; rw [absD]))) rfl
  have e2 := euclid (Pe := ⟨callN P n, P.sub⟩) (test := .cmp .NotEq (.var 1) (.cst (.int 0))) (body := BL_gcd) (fun x y => [some (.int x), some (.int y)]) h (fun x y => ev_cmp (ev_var rfl) ev_cst rfl) (fun x y hy => by
    unfold BL_gcd
    rw [seqN (asgE (ev_t2 (ev_var rfl) (ev_bin (op := .Mod) (z := .int (x.fmod y)) (ev_var rfl) (ev_var rfl) (by simp only [binF, int2]; rw [if_neg hy]; rfl))) rfl)]
    simp only [ES]; all_goals rfl) a.natAbs b.natAbs hs.1 hs.2
  rw [seqN e1, seqN e2]
  exact seqR (retE (ev_var rfl))
def BD_low (ig : Nat) : CDef := ⟨3, 2, (.cons (.asg (.v 2) (.call ig (.cons (.var 0) (.cons (.var 1) .nil)))) (.cons (.ifs (.cmp .Lt (.var 1) (.cst (.int 0))) (.cons (.asg (.v 2) (.neg (.var 2))) .nil) .nil) (.cons (.ret (.tup (.cons (.bin .FloorDiv (.var 0) (.var 2)) (.cons (.bin .FloorDiv (.var 1) (.var 2)) .nil)))) .nil)))⟩
theorem run_low {P : Pg} {i ig : Nat} (hd : P.defs[i]? = some (BD_low ig)) (hg : P.defs[ig]? = some BD_gcd) {n : Nat} {h : Hc} {a b : Int} {q : Int × Int} (hq : lowM a b = some q) : callN P (n + 2) i [.int a, .int b] h = .ok (qD q) h := by
  unfold lowM at hq
  split at hq
  · rename_i hc
    rw [Bool.and_eq_true] at hc
    cases hq
    refine call_rtp (d := BD_low ig) (b := (BD_low ig).body) (σ := [some (.int a), some (.int b), none]) hd rfl rfl rfl ?_
    show evSs _ (.cons (.asg (.v 2) (.call ig (.cons (.var 0) (.cons (.var 1) .nil)))) (.cons (.ifs (.cmp .Lt (.var 1) (.cst (.int 0))) (.cons (.asg (.v 2) (.neg (.var 2))) .nil) .nil) (.cons (.ret (.tup (.cons (.bin .FloorDiv (.var 0) (.var 2)) (.cons (.bin .FloorDiv (.var 1) (.var 2)) .nil)))) .nil))) _ _ = _
    rw [seqN (σ' := [some (.int a), some (.int b), some (.int (Nat.gcd a.natAbs b.natAbs : Nat))]) (h' := h) (asgV (P := ⟨callN P (n + 1), P.sub⟩) ((ev_c2 (ev_var rfl) (ev_var rfl)).trans (run_gcd hg (n := n) hc.1)))]
    have ec : evE (callN P (n + 1)) (.cmp .Lt (.var 1) (.cst (.int 0))) [some (.int a), some (.int b), some (.int (Nat.gcd a.natAbs b.natAbs : Nat))] h = .ok (.bl (decide (b < 0))) h := ev_cmp (ev_var rfl) ev_cst rfl
    by_cases hb : b < 0
    · have hg : sgcd a b = -((Nat.gcd a.natAbs b.natAbs : Nat) : Int) := if_pos hb
      rw [hg] at hc ⊢
      rw [decide_eq_true hb] at ec
      rw [seqN (σ' := [some (.int a), some (.int b), some (.int (-(Nat.gcd a.natAbs b.natAbs : Nat)))]) (h' := h) (by
        rw [ifT (P := ⟨callN P (n + 1), P.sub⟩) ec, seqN (asgV (P := ⟨callN P (n + 1), P.sub⟩) (ev_neg (ev_var rfl)))]; simp only [ES]; rfl)]
      exact seqR (retE (ev_t2 (ev_bin (op := .FloorDiv) (ev_var rfl) (ev_var rfl) (by simp only [binF, int2]; rw [if_pos hc.2]; rfl)) (ev_bin (op := .FloorDiv) (ev_var rfl) (ev_var rfl) (by simp only [binF, int2]; rw [if_pos hc.2]; rfl))))
    · have hg : sgcd a b = ((Nat.gcd a.natAbs b.natAbs : Nat) : Int) := if_neg hb
      rw [hg] at hc ⊢
      rw [decide_eq_false hb] at ec
      rw [seqN (σ' := [some (.int a), some (.int b), some (.int (Nat.gcd a.natAbs b.natAbs : Nat))]) (h' := h) (by rw [ifF (P := ⟨callN P (n + 1), P.sub⟩) ec]; simp only [ES])]
      exact seqR (retE (ev_t2 (ev_bin (op := .FloorDiv) (ev_var rfl) (ev_var rfl) (by simp only [binF, int2]; rw [if_pos hc.2]; rfl)) (ev_bin (op := .FloorDiv) (ev_var rfl) (ev_var rfl) (by simp only [binF, int2]; rw [if_pos hc.2]; rfl))))
  · cases hq
/-! the law's own -/
def BL_frac : CSs := (.cons (.asg (.t (.cons (.v 2) (.cons (.v 3) .nil))) (.tup (.cons (.var 3) (.cons (.bin .Mod (.bi .int (.cons (.var 2) .nil)) (.var 3)) .nil)))) .nil)
def BD_frac : CDef := ⟨4, 2, (.cons (.asg (.t (.cons (.v 2) (.cons (.v 3) .nil))) (.tup (.cons (.bi .abs (.cons (.var 0) .nil)) (.cons (.bi .abs (.cons (.var 1) .nil)) .nil)))) (.cons (.whl (.cmp .NotEq (.var 3) (.cst (.int 0))) BL_frac) (.cons (.ifs (.cmp .Lt (.var 1) (.cst (.int 0))) (.cons (.asg (.v 2) (.neg (.var 2))) .nil) .nil) (.cons (.ret (.tup (.cons (.bin .FloorDiv (.var 0) (.var 2)) (.cons (.bin .FloorDiv (.var 1) (.var 2)) .nil)))) .nil))))⟩
theorem run_frac {P : Pg} {i : Nat} (hd : P.defs[i]? = some BD_frac) {n : Nat} {h : Hc} {a b : Int} {q : Int × Int} (hq : lowM a b = some q) : callN P (n + 1) i [.int a, .int b] h = .ok (qD q) h := by
  unfold lowM at hq
  split at hq
  · rename_i hc
    rw [Bool.and_eq_true] at hc
    have hs := hc.1
    simp only [smallG, Bool.and_eq_true, decide_eq_true_eq] at hs
    cases hq
    refine call_rtp (d := BD_frac) (b := BD_frac.body) (σ := [some (.int a), some (.int b), none, none]) hd rfl rfl rfl ?_
    show evSs _ (.cons (.asg (.t (.cons (.v 2) (.cons (.v 3) .nil))) (.tup (.cons (.bi .abs (.cons (.var 0) .nil)) (.cons (.bi .abs (.cons (.var 1) .nil)) .nil)))) (.cons (.whl (.cmp .NotEq (.var 3) (.cst (.int 0))) BL_frac) (.cons (.ifs (.cmp .Lt (.var 1) (.cst (.int 0))) (.cons (.asg (.v 2) (.neg (.var 2))) .nil) .nil) (.cons (.ret (.tup (.cons (.bin .FloorDiv (.var 0) (.var 2)) (.cons (.bin .FloorDiv (.var 1) (.var 2)) .nil)))) .nil)))) _ _ = _
    have e1 : evS ⟨callN P n, P.sub⟩ (.asg (.t (.cons (.v 2) (.cons (.v 3) .nil))) (.tup (.cons (.bi .abs (.cons (.var 0) .nil)) (.cons (.bi .abs (.cons (.var 1) .nil)) .nil)))) [some (.int a), some (.int b), none, none] h = .ok (.nx [some (.int a), some (.int b), some (.int (a.natAbs : Nat)), some (.int (b.natAbs : Nat))]) h :=
      asgE (ev_t2 (ev_bi1 (z := .int (a.natAbs : Nat)) (ev_var rfl) (by simp only [biF]; rw [absD])) (ev_bi1 (z := .int (b.natAbs : Nat)) (ev_var rfl) (by simp only [biF]; rw [absD]))) rfl
    have e2 := euclid (Pe := ⟨callN P n, P.sub⟩) (test := .cmp .NotEq (.var 3) (.cst (.int 0))) (body := BL_frac) (fun x y => [some (.int a), some (.int b), some (.int x), some (.int y)]) h (fun x y => ev_cmp (ev_var rfl) ev_cst rfl) (fun x y hy => by
      unfold BL_frac
      rw [seqN (asgE (ev_t2 (ev_var rfl) (ev_bin (op := .Mod) (z := .int (x.fmod y)) (ev_bi1 (ev_var rfl) rfl) (ev_var rfl) (by simp only [binF, int2]; rw [if_neg hy]; rfl))) rfl)]
      simp only [ES]; all_goals rfl) a.natAbs b.natAbs hs.1 hs.2
    rw [seqN e1, seqN e2]
    have ec : evE (callN P n) (.cmp .Lt (.var 1) (.cst (.int 0))) [some (.int a), some (.int b), some (.int (Nat.gcd a.natAbs b.natAbs : Nat)), some (.int 0)] h = .ok (.bl (decide (b < 0))) h := ev_cmp (ev_var rfl) ev_cst rfl
    by_cases hb : b < 0
    · have hg : sgcd a b = -((Nat.gcd a.natAbs b.natAbs : Nat) : Int) := if_pos hb
      rw [hg] at hc ⊢
      rw [decide_eq_true hb] at ec
      rw [seqN (σ' := [some (.int a), some (.int b), some (.int (-(Nat.gcd a.natAbs b.natAbs : Nat))), some (.int 0)]) (h' := h) (by
        rw [ifT (P := ⟨callN P n, P.sub⟩) ec, seqN (asgV (P := ⟨callN P n, P.sub⟩) (ev_neg (ev_var rfl)))]; simp only [ES]; rfl)]
      exact seqR (retE (ev_t2 (ev_bin (op := .FloorDiv) (ev_var rfl) (ev_var rfl) (by simp only [binF, int2]; rw [if_pos hc.2]; rfl)) (ev_bin (op := .FloorDiv) (ev_var rfl) (ev_var rfl) (by simp only [binF, int2]; rw [if_pos hc.2]; rfl))))
    · have hg : sgcd a b = ((Nat.gcd a.natAbs b.natAbs : Nat) : Int) := if_neg hb
      rw [hg] at hc ⊢
      rw [decide_eq_false hb] at ec
      rw [seqN (σ' := [some (.int a), some (.int b), some (.int (Nat.gcd a.natAbs b.natAbs : Nat)), some (.int 0)]) (h' := h) (by rw [ifF (P := ⟨callN P n, P.sub⟩) ec]; simp only [ES])]
      exact seqR (retE (ev_t2 (ev_bin (op := .FloorDiv) (ev_var rfl) (ev_var rfl) (by simp only [binF, int2]; rw [if_pos hc.2]; rfl)) (ev_bin (op := .FloorDiv) (ev_var rfl) (ev_var rfl) (by simp only [binF, int2]; rw [if_pos hc.2]; rfl))))
  · cases hq
end Cl

namespace Cl
open PySem PySem.Spec PyProof.Rows L2
/-! ### sums, products, quotients -/
def mulM (a b : Int) : Option Int := if mulOk a b then some (a * b) else none
theorem binMul {h : Hc} {a b z : Int} (k : mulM a b = some z) : binF h .Mult (.int a) (.int b) = some (.int z) := by
  unfold mulM at k
  split at k
  · rename_i c
    cases k
    simp only [binF, mulF]
    rw [if_pos c]
  · cases k
abbrev Q2 := Int × Int
def sumM (p q : Q2) : Option Q2 := (mulM p.1 q.2).bind fun x => (mulM q.1 p.2).bind fun y => (mulM p.2 q.2).bind fun z => lowM (x + y) z
def lessM (p q : Q2) : Option Q2 := (mulM p.1 q.2).bind fun x => (mulM q.1 p.2).bind fun y => (mulM p.2 q.2).bind fun z => lowM (x - y) z
def prodM (p q : Q2) : Option Q2 := (mulM p.1 q.1).bind fun x => (mulM p.2 q.2).bind fun y => lowM x y
def overM (p q : Q2) : Option Q2 := (mulM p.1 q.2).bind fun x => (mulM p.2 q.1).bind fun y => lowM x y
abbrev LowC (C : Caller) (il : Nat) : Prop := ∀ (a b : Int) (q : Q2) (h : Hc), lowM a b = some q → C il [.int a, .int b] h = .ok (qD q) h
theorem lowC_low {P : Pg} {i ig : Nat} (hd : P.defs[i]? = some (BD_low ig)) (hg : P.defs[ig]? = some BD_gcd) {n : Nat} : LowC (callN P (n + 2)) i := fun _ _ _ _ hq => run_low hd hg hq
theorem lowC_frac {P : Pg} {i : Nat} (hd : P.defs[i]? = some BD_frac) {n : Nat} : LowC (callN P (n + 1)) i := fun _ _ _ _ hq => run_frac hd hq
def ixE (i : Nat) (k : Int) : CE := .idx (.var i) (.cst (.int k))
theorem ev_q0 {C : Caller} {i : Nat} {σ : CSt} {h : Hc} {p : Q2} (e : σ[i]? = some (some (qD p))) : evE C (ixE i 0) σ h = .ok (.int p.1) h := ev_idx (ev_var e) ev_cst rfl
theorem ev_q1 {C : Caller} {i : Nat} {σ : CSt} {h : Hc} {p : Q2} (e : σ[i]? = some (some (qD p))) : evE C (ixE i 1) σ h = .ok (.int p.2) h := ev_idx (ev_var e) ev_cst rfl
def BD_sum (il : Nat) : CDef := ⟨2, 2, .cons (.ret (.call il (.cons (.bin .Add (.bin .Mult (ixE 0 0) (ixE 1 1)) (.bin .Mult (ixE 1 0) (ixE 0 1))) (.cons (.bin .Mult (ixE 0 1) (ixE 1 1)) .nil)))) .nil⟩
def BD_less (il : Nat) : CDef := ⟨2, 2, .cons (.ret (.call il (.cons (.bin .Sub (.bin .Mult (ixE 0 0) (ixE 1 1)) (.bin .Mult (ixE 1 0) (ixE 0 1))) (.cons (.bin .Mult (ixE 0 1) (ixE 1 1)) .nil)))) .nil⟩
def BD_prod (il : Nat) : CDef := ⟨2, 2, .cons (.ret (.call il (.cons (.bin .Mult (ixE 0 0) (ixE 1 0)) (.cons (.bin .Mult (ixE 0 1) (ixE 1 1)) .nil)))) .nil⟩
def BD_over (il : Nat) : CDef := ⟨2, 2, .cons (.ret (.call il (.cons (.bin .Mult (ixE 0 0) (ixE 1 1)) (.cons (.bin .Mult (ixE 0 1) (ixE 1 0)) .nil)))) .nil⟩
/-- the program's quotient, which refuses zero -/
def BD_overP (ix il : Nat) : CDef := ⟨2, 2, .cons (.ifs (.cmp .Eq (ixE 1 0) (.cst (.int 0))) (.cons (.raise ix .absent) .nil) .nil) (.cons (.ret (.call il (.cons (.bin .Mult (ixE 0 0) (ixE 1 1)) (.cons (.bin .Mult (ixE 0 1) (ixE 1 0)) .nil)))) .nil)⟩
section
variable {P : Pg} {i il n : Nat} {h : Hc} {p q r : Q2}
theorem run_sum (hd : P.defs[i]? = some (BD_sum il)) (hl : LowC (callN P n) il) (hq : sumM p q = some r) : callN P (n + 1) i [qD p, qD q] h = .ok (qD r) h := by
  simp only [sumM, Option.bind_eq_some_iff] at hq
  obtain ⟨x, hx, y, hy, z, hz, hq⟩ := hq
  refine call_rtp (d := BD_sum il) (b := (BD_sum il).body) (σ := [some (qD p), some (qD q)]) hd rfl rfl rfl ?_
  exact seqR (retE ((ev_c2 (ev_bin (op := .Add) (z := .int (x + y)) (ev_bin (ev_q0 rfl) (ev_q1 rfl) (binMul hx)) (ev_bin (ev_q0 rfl) (ev_q1 rfl) (binMul hy)) rfl) (ev_bin (ev_q1 rfl) (ev_q1 rfl) (binMul hz))).trans (hl _ _ _ _ hq)))
theorem run_less (hd : P.defs[i]? = some (BD_less il)) (hl : LowC (callN P n) il) (hq : lessM p q = some r) : callN P (n + 1) i [qD p, qD q] h = .ok (qD r) h := by
  simp only [lessM, Option.bind_eq_some_iff] at hq
  obtain ⟨x, hx, y, hy, z, hz, hq⟩ := hq
  refine call_rtp (d := BD_less il) (b := (BD_less il).body) (σ := [some (qD p), some (qD q)]) hd rfl rfl rfl ?_
  exact seqR (retE ((ev_c2 (ev_bin (op := .Sub) (z := .int (x - y)) (ev_bin (ev_q0 rfl) (ev_q1 rfl) (binMul hx)) (ev_bin (ev_q0 rfl) (ev_q1 rfl) (binMul hy)) rfl) (ev_bin (ev_q1 rfl) (ev_q1 rfl) (binMul hz))).trans (hl _ _ _ _ hq)))
theorem run_prod (hd : P.defs[i]? = some (BD_prod il)) (hl : LowC (callN P n) il) (hq : prodM p q = some r) : callN P (n + 1) i [qD p, qD q] h = .ok (qD r) h := by
  simp only [prodM, Option.bind_eq_some_iff] at hq
  obtain ⟨x, hx, y, hy, hq⟩ := hq
  refine call_rtp (d := BD_prod il) (b := (BD_prod il).body) (σ := [some (qD p), some (qD q)]) hd rfl rfl rfl ?_
  exact seqR (retE ((ev_c2 (ev_bin (ev_q0 rfl) (ev_q0 rfl) (binMul hx)) (ev_bin (ev_q1 rfl) (ev_q1 rfl) (binMul hy))).trans (hl _ _ _ _ hq)))
theorem run_over (hd : P.defs[i]? = some (BD_over il)) (hl : LowC (callN P n) il) (hq : overM p q = some r) : callN P (n + 1) i [qD p, qD q] h = .ok (qD r) h := by
  simp only [overM, Option.bind_eq_some_iff] at hq
  obtain ⟨x, hx, y, hy, hq⟩ := hq
  refine call_rtp (d := BD_over il) (b := (BD_over il).body) (σ := [some (qD p), some (qD q)]) hd rfl rfl rfl ?_
  exact seqR (retE ((ev_c2 (ev_bin (ev_q0 rfl) (ev_q1 rfl) (binMul hx)) (ev_bin (ev_q1 rfl) (ev_q0 rfl) (binMul hy))).trans (hl _ _ _ _ hq)))
theorem run_overP {ix : Nat} (hd : P.defs[i]? = some (BD_overP ix il)) (hl : LowC (callN P n) il) (h0 : q.1 ≠ 0) (hq : overM p q = some r) : callN P (n + 1) i [qD p, qD q] h = .ok (qD r) h := by
  simp only [overM, Option.bind_eq_some_iff] at hq
  obtain ⟨x, hx, y, hy, hq⟩ := hq
  refine call_rtp (d := BD_overP ix il) (b := (BD_overP ix il).body) (σ := [some (qD p), some (qD q)]) hd rfl rfl rfl ?_
  have ec : evE (callN P n) (.cmp .Eq (ixE 1 0) (.cst (.int 0))) [some (qD p), some (qD q)] h = .ok (.bl false) h := ev_cmp (ev_q0 rfl) ev_cst (by show some (decide (q.1 = 0)) = _; rw [decide_eq_false h0])
  refine (seqN (σ' := [some (qD p), some (qD q)]) (h' := h) (by rw [ifF (P := ⟨callN P n, P.sub⟩) ec]; simp only [ES])).trans ?_
  exact seqR (retE ((ev_c2 (ev_bin (ev_q0 rfl) (ev_q1 rfl) (binMul hx)) (ev_bin (ev_q1 rfl) (ev_q0 rfl) (binMul hy))).trans (hl _ _ _ _ hq)))
end
/-! ### is_integer, ratio -/
def BD_isint : CDef := ⟨1, 1, .cons (.ret (.and_ (.isin (.var 0) [.int]) (.not_ (.isin (.var 0) [.bool])))) .nil⟩
def isInt : D → Bool
  | .int _ => true
  | _ => false
theorem run_isint {P : Pg} {i : Nat} (hd : P.defs[i]? = some BD_isint) {n : Nat} {h : Hc} {v : D} (hv : v.plain = true) : callN P (n + 1) i [v] h = .ok (.bl (isInt v)) h := by
  refine call_rtp (d := BD_isint) (b := BD_isint.body) (σ := [some v]) hd rfl rfl rfl ?_
  refine seqR (retE ?_)
  have e1 : evE (callN P n) (.isin (.var 0) [.int]) [some v] h = .ok (.bl (match v with | .int _ => true | .bl _ => true | _ => false)) h := ev_isin (ev_var rfl) (by cases v <;> first | rfl | (simp [D.plain] at hv; done))
  have e2 : evE (callN P n) (.isin (.var 0) [.bool]) [some v] h = .ok (.bl (match v with | .bl _ => true | _ => false)) h := ev_isin (ev_var rfl) (by cases v <;> first | rfl | (simp [D.plain] at hv; done))
  refine (ev_and e1).trans ?_
  rw [ev_not e2]
  cases v <;> rfl
def BD_ratio (ii ix il : Nat) : CDef := ⟨2, 2, .cons (.ifs (.or_ (.not_ (.call ii (.cons (.var 0) .nil))) (.or_ (.not_ (.call ii (.cons (.var 1) .nil))) (.cmp .Eq (.var 1) (.cst (.int 0))))) (.cons (.raise ix .absent) .nil) .nil) (.cons (.ret (.call il (.cons (.var 0) (.cons (.var 1) .nil)))) .nil)⟩
theorem run_ratio {P : Pg} {i ii ix il n : Nat} {h : Hc} {a b : Int} {q : Q2} (hd : P.defs[i]? = some (BD_ratio ii ix il)) (hi : P.defs[ii]? = some BD_isint) (hl : LowC (callN P (n + 1)) il) (hb : b ≠ 0) (hq : lowM a b = some q) : callN P (n + 2) i [.int a, .int b] h = .ok (qD q) h := by
  refine call_rtp (d := BD_ratio ii ix il) (b := (BD_ratio ii ix il).body) (σ := [some (.int a), some (.int b)]) hd rfl rfl rfl ?_
  have e1 : evE (callN P (n + 1)) (.not_ (.call ii (.cons (.var 0) .nil))) [some (.int a), some (.int b)] h = .ok (.bl false) h := ev_not (c := true) ((ev_c1 (ev_var rfl)).trans (run_isint hi (n := n) (v := .int a) rfl))
  have e2 : evE (callN P (n + 1)) (.not_ (.call ii (.cons (.var 1) .nil))) [some (.int a), some (.int b)] h = .ok (.bl false) h := ev_not (c := true) ((ev_c1 (ev_var rfl)).trans (run_isint hi (n := n) (v := .int b) rfl))
  have e3 : evE (callN P (n + 1)) (.cmp .Eq (.var 1) (.cst (.int 0))) [some (.int a), some (.int b)] h = .ok (.bl false) h := ev_cmp (ev_var rfl) ev_cst (by show some (decide (b = 0)) = _; rw [decide_eq_false hb])
  have ec : evE (callN P (n + 1)) (.or_ (.not_ (.call ii (.cons (.var 0) .nil))) (.or_ (.not_ (.call ii (.cons (.var 1) .nil))) (.cmp .Eq (.var 1) (.cst (.int 0))))) [some (.int a), some (.int b)] h = .ok (.bl false) h := (ev_or e1).trans ((if_neg (by simp)).trans ((ev_or e2).trans ((if_neg (by simp)).trans e3)))
  refine (seqN (σ' := [some (.int a), some (.int b)]) (h' := h) (by rw [ifF (P := ⟨callN P (n + 1), P.sub⟩) ec]; simp only [ES])).trans ?_
  exact seqR (retE ((ev_c2 (ev_var rfl) (ev_var rfl)).trans (hl _ _ _ _ hq)))
/-! ### binomial numbers -/
def divM (a b : Int) : Option Int := if divOk b then some (a.fdiv b) else none
theorem binDiv {h : Hc} {a b z : Int} (k : divM a b = some z) : binF h .FloorDiv (.int a) (.int b) = some (.int z) := by
  unfold divM at k
  split at k
  · rename_i c
    cases k
    simp only [binF, int2]
    rw [if_pos c]; rfl
  · cases k
def choStep (n : Int) (t : Int) (j : Nat) : Option Int := (mulM t (n - j)).bind fun x => divM x (j + 1)
def choL (n : Int) : Nat → Int → List Nat → Option Int
  | _, t, [] => some t
  | k, t, j :: js => (choStep n t j).bind fun t => choL n k t js
def choM (n k : Nat) : Option Int := choL n k 1 (List.range k)
def BL_cho : CSs := (.cons (.asg (.v 2) (.bin .FloorDiv (.bin .Mult (.var 2) (.bin .Sub (.var 0) (.var 3))) (.bin .Add (.var 3) (.cst (.int 1))))) .nil)
def BD_cho : CDef := ⟨4, 2, .cons (.asg (.v 2) (.cst (.int 1))) (.cons (.for_ (.v 3) (.rng1 (.var 1)) BL_cho) (.cons (.ret (.var 2)) .nil))⟩
def BD_choP : CDef := ⟨4, 2, .cons (.ifs (.cmp .Gt (.var 1) (.var 0)) (.cons (.ret (.cst (.int 0))) .nil) .nil) (.cons (.asg (.v 2) (.cst (.int 1))) (.cons (.for_ (.v 3) (.rng1 (.var 1)) BL_cho) (.cons (.ret (.var 2)) .nil)))⟩
theorem loop_cho {Pe : Env2} {h : Hc} {n k : Nat} {o3 : Option D} : ∀ (js : List Nat) (t z : Int), choL n k t js = some z → ∀ o3, ∃ o3', forF (evSs Pe BL_cho) (.v 3) [] (natD js) [some (.int (n : Nat)), some (.int (k : Nat)), some (.int t), o3] h = .ok (.nx [some (.int (n : Nat)), some (.int (k : Nat)), some (.int z), o3']) h
  | [], t, z, e, o3 => by cases e; exact ⟨o3, rfl⟩
  | j :: js, t, z, e, o3 => by
    simp only [choL, Option.bind_eq_some_iff] at e
    obtain ⟨t1, e1, e2⟩ := e
    simp only [choStep, Option.bind_eq_some_iff] at e1
    obtain ⟨x, e3, e4⟩ := e1
    obtain ⟨o3', ih⟩ := loop_cho (Pe := Pe) (h := h) (n := n) (k := k) (o3 := o3) js t1 z e2 (some (.int (j : Nat)))
    refine ⟨o3', ?_⟩
    rw [natD, List.map_cons, forF, if_pos (show gOk [] h = true from rfl)]
    simp only [asgT]
    have hb : evSs Pe BL_cho ([some (.int (n : Nat)), some (.int (k : Nat)), some (.int t), o3].set 3 (some (.int (j : Nat)))) h = .ok (.nx [some (.int (n : Nat)), some (.int (k : Nat)), some (.int t1), some (.int (j : Nat))]) h := by
      unfold BL_cho
      rw [seqN (asgV (ev_bin (op := .FloorDiv) (z := .int t1) (ev_bin (op := .Mult) (z := .int x) (ev_var rfl) (ev_bin (op := .Sub) (ev_var rfl) (ev_var rfl) rfl) (binMul e3)) (ev_bin (op := .Add) (ev_var rfl) ev_cst rfl) (binDiv e4)))]
      simp only [ES]; all_goals rfl
    rw [hb]
    exact ih
theorem run_cho {P : Pg} {i : Nat} (hd : P.defs[i]? = some BD_cho) {m : Nat} {h : Hc} {n k : Nat} {z : Int} (hk : k < 1000) (e : choM n k = some z) : callN P (m + 1) i [.int (n : Nat), .int (k : Nat)] h = .ok (.int z) h := by
  refine call_rtp (d := BD_cho) (b := BD_cho.body) (σ := [some (.int (n : Nat)), some (.int (k : Nat)), none, none]) hd rfl rfl rfl ?_
  obtain ⟨o3, e2⟩ := loop_cho (Pe := ⟨callN P m, P.sub⟩) (h := h) (o3 := none) _ _ _ e none
  refine (seqN (σ' := [some (.int (n : Nat)), some (.int (k : Nat)), some (.int 1), none]) (h' := h) (asgV ev_cst)).trans ?_
  refine (seqN (σ' := [some (.int (n : Nat)), some (.int (k : Nat)), some (.int z), o3]) (h' := h) ?_).trans (seqR (retE (ev_var rfl)))
  rw [forR1 (P := ⟨callN P m, P.sub⟩) (h' := h) (j := k) (ev_var rfl) (by unfold smallI; simp; omega), Int.toNat_natCast, rngD_zero]
  exact e2
theorem run_choP {P : Pg} {i : Nat} (hd : P.defs[i]? = some BD_choP) {m : Nat} {h : Hc} {n k : Nat} {z : Int} (hk : k < 1000) (hkn : k ≤ n) (e : choM n k = some z) : callN P (m + 1) i [.int (n : Nat), .int (k : Nat)] h = .ok (.int z) h := by
  refine call_rtp (d := BD_choP) (b := BD_choP.body) (σ := [some (.int (n : Nat)), some (.int (k : Nat)), none, none]) hd rfl rfl rfl ?_
  obtain ⟨o3, e2⟩ := loop_cho (Pe := ⟨callN P m, P.sub⟩) (h := h) (o3 := none) _ _ _ e none
  have ec : evE (callN P m) (.cmp .Gt (.var 1) (.var 0)) [some (.int (n : Nat)), some (.int (k : Nat)), none, none] h = .ok (.bl false) h := ev_cmp (ev_var rfl) (ev_var rfl) (by show some (decide ((n : Int) < k)) = _; rw [decide_eq_false (by omega)])
  refine (seqN (σ' := [some (.int (n : Nat)), some (.int (k : Nat)), none, none]) (h' := h) (by rw [ifF (P := ⟨callN P m, P.sub⟩) ec]; simp only [ES])).trans ?_
  refine (seqN (σ' := [some (.int (n : Nat)), some (.int (k : Nat)), some (.int 1), none]) (h' := h) (asgV ev_cst)).trans ?_
  refine (seqN (σ' := [some (.int (n : Nat)), some (.int (k : Nat)), some (.int z), o3]) (h' := h) ?_).trans (seqR (retE (ev_var rfl)))
  rw [forR1 (P := ⟨callN P m, P.sub⟩) (h' := h) (j := k) (ev_var rfl) (by unfold smallI; simp; omega), Int.toNat_natCast, rngD_zero]
  exact e2
end Cl

namespace Cl
open PySem PySem.Spec PyProof.Rows L2
/-! ### rows of fractions -/
abbrev rowD (f : List Q2) : List D := f.map qD
abbrev SumC (C : Caller) (i : Nat) : Prop := ∀ (p q r : Q2) (h : Hc), sumM p q = some r → C i [qD p, qD q] h = .ok (qD r) h
abbrev ProdC (C : Caller) (i : Nat) : Prop := ∀ (p q r : Q2) (h : Hc), prodM p q = some r → C i [qD p, qD q] h = .ok (qD r) h
abbrev OverC (C : Caller) (i : Nat) : Prop := ∀ (p q r : Q2) (h : Hc), overM p q = some r → C i [qD p, qD q] h = .ok (qD r) h
abbrev LessC (C : Caller) (i : Nat) : Prop := ∀ (p q r : Q2) (h : Hc), lessM p q = some r → C i [qD p, qD q] h = .ok (qD r) h
def z2 : Q2 := (0, 1)
theorem atD_row {f : List Q2} {i : Nat} (h : i < f.length) : atD (rowD f) (i : Int) = some (qD (f.getD i z2)) := by
  refine atD_of ?_
  rw [List.getElem?_map, List.getElem?_eq_getElem h, List.getD_eq_getElem?_getD, List.getElem?_eq_getElem h]
  rfl
theorem smallI_nat {n : Nat} (h : n ≤ 1000000) : smallI (n : Nat) = true := by
  unfold smallI
  rw [Bool.and_eq_true, decide_eq_true_eq, decide_eq_true_eq]
  constructor <;> omega
theorem idx_row {h : Hc} {f : List Q2} {i : Nat} (k : i < f.length) : idxF h (.lst (rowD f)) (.int (i : Nat)) = some (qD (f.getD i z2)) := by
  simp only [idxF]; exact atD_row k
theorem len_row {h : Hc} {F : List Q2} : biF h .len [.lst (rowD F)] = some (.int (F.length : Nat)) := by simp only [biF, lenF, seqD]; rw [rowD, List.length_map]
theorem ixD_nat {n i : Nat} (h : i < n) : ixD n (i : Int) = some i := by
  unfold ixD
  rw [if_pos (by omega), if_pos (by omega)]
  simp
def rpJ (F G : List Q2) (i : Nat) : List Nat → List Q2 → Option (List Q2)
  | [], r => some r
  | j :: js, r => (prodM (F.getD i z2) (G.getD j z2)).bind fun p => (sumM (r.getD (i + j) z2) p).bind fun s => rpJ F G i js (r.set (i + j) s)
def rpI (F G : List Q2) : List Nat → List Q2 → Option (List Q2)
  | [], r => some r
  | i :: is, r => (rpJ F G i (List.range G.length) r).bind (rpI F G is)
def rowProd (F G : List Q2) : Option (List Q2) := rpI F G (List.range F.length) (List.replicate (F.length + G.length - 1) z2)
theorem rpJ_len {F G : List Q2} {i : Nat} : ∀ {js : List Nat} {r r' : List Q2}, rpJ F G i js r = some r' → r'.length = r.length
  | [], r, r', e => by cases e; rfl
  | j :: js, r, r', e => by
    simp only [rpJ, Option.bind_eq_some_iff] at e
    obtain ⟨p, _, s, _, e⟩ := e
    rw [rpJ_len e, List.length_set]
theorem rpI_len {F G : List Q2} : ∀ {is : List Nat} {r r' : List Q2}, rpI F G is r = some r' → r'.length = r.length
  | [], r, r', e => by cases e; rfl
  | i :: is, r, r', e => by
    simp only [rpI, Option.bind_eq_some_iff] at e
    obtain ⟨r1, e1, e2⟩ := e
    rw [rpI_len e2, rpJ_len e1]
def BL_rp0 (is ip : Nat) : CSs := (.cons (.sput (.var 2) (.bin .Add (.var 3) (.var 4)) (.call is (.cons (.idx (.var 2) (.bin .Add (.var 3) (.var 4))) (.cons (.call ip (.cons (.idx (.var 0) (.var 3)) (.cons (.idx (.var 1) (.var 4)) .nil))) .nil)))) .nil)
def BL_rp1 (is ip : Nat) : CSs := (.cons (.for_ (.v 4) (.rng1 (.bi .len (.cons (.var 1) .nil))) (BL_rp0 is ip)) (.cons (.kill [4]) .nil))
theorem sputE {P : Env2} {o i e : CE} {σ : CSt} {h h1 h2 h3 h4 : Hc} {v x y : D} (ke : evE P.C e σ h = .ok v h1) (ko : evE P.C o σ h1 = .ok x h2) (ki : evE P.C i σ h2 = .ok y h3) (kp : putF h3 x y v = some h4) : evS P (.sput o i e) σ h = .ok (.nx σ) h4 := by simp only [ES, EB, ke, ko, ki, kp]
theorem forF_cons {fb : CSt → Hc → SRes} {t : Tg} {g : Guard} {x : D} {xs : List D} {σ σ1 σ2 : CSt} {h h2 : Hc} (hg : gOk g h = true) (e1 : asgT t x σ = some σ1) (e2 : fb σ1 h = .ok (.nx σ2) h2) : forF fb t g (x :: xs) σ h = forF fb t g xs σ2 h2 := by
  rw [forF, if_pos hg, e1]
  simp only [e2]
theorem forF_nil {fb : CSt → Hc → SRes} {t : Tg} {g : Guard} {σ : CSt} {h : Hc} (hg : gOk g h = true) : forF fb t g [] σ h = .ok (.nx σ) h := by rw [forF, if_pos hg]
section
variable {Pe : Env2} {is ip : Nat} {H : Hc} {F G : List Q2} {o5 : List (Option D)}
theorem loop_rp0 (hs : SumC Pe.C is) (hp : ProdC Pe.C ip) {i : Nat} (hi : i < F.length) : ∀ (js : List Nat), (∀ j ∈ js, j < G.length) → ∀ (r r' : List Q2), rpJ F G i js r = some r' → r.length = F.length + G.length - 1 → ∀ o4, ∃ o4', forF (evSs Pe (BL_rp0 is ip)) (.v 4) [] (natD js) ([some (.lst (rowD F)), some (.lst (rowD G)), some (.ref H.length), some (.int (i : Nat)), o4] ++ o5) (H ++ [.lst (rowD r)]) = .ok (.nx ([some (.lst (rowD F)), some (.lst (rowD G)), some (.ref H.length), some (.int (i : Nat)), o4'] ++ o5)) (H ++ [.lst (rowD r')])
  | [], _, r, r', e, _, o4 => by cases e; exact ⟨o4, rfl⟩
  | j :: js, hj, r, r', e, hr, o4 => by
    simp only [rpJ, Option.bind_eq_some_iff] at e
    obtain ⟨p, e1, s, e2, e3⟩ := e
    have hjl := hj j (by simp)
    obtain ⟨o4', ih⟩ := loop_rp0 hs hp hi js (fun k hk => hj k (by simp [hk])) _ _ e3 (by rw [List.length_set]; exact hr) (some (.int (j : Nat)))
    refine ⟨o4', ?_⟩
    rw [natD, List.map_cons, forF, if_pos (show gOk [] _ = true from rfl)]
    simp only [asgT]
    have hij : i + j < r.length := by omega
    have hix : idxF (H ++ [.lst (rowD r)]) (.ref H.length) (.int ((i + j : Nat) : Int)) = some (qD (r.getD (i + j) z2)) := by
      simp only [idxF, cell_at]; exact atD_row hij
    have hput : putF (H ++ [.lst (rowD r)]) (.ref H.length) (.int ((i + j : Nat) : Int)) (qD s) = some (H ++ [.lst (rowD (r.set (i + j) s))]) := by
      simp only [putF, cell_at]
      rw [ixD_nat (by rw [List.length_map]; exact hij)]
      simp only [Option.map_some, cell_set]
      rw [rowD, rowD, List.map_set]
    have hb : evSs Pe (BL_rp0 is ip) (([some (.lst (rowD F)), some (.lst (rowD G)), some (.ref H.length), some (.int (i : Nat)), o4] ++ o5).set 4 (some (.int (j : Nat)))) (H ++ [.lst (rowD r)]) = .ok (.nx ([some (.lst (rowD F)), some (.lst (rowD G)), some (.ref H.length), some (.int (i : Nat)), some (.int (j : Nat))] ++ o5)) (H ++ [.lst (rowD (r.set (i + j) s))]) := by
      unfold BL_rp0
      have ea : evE Pe.C (.bin .Add (.var 3) (.var 4)) ([some (.lst (rowD F)), some (.lst (rowD G)), some (.ref H.length), some (.int (i : Nat)), some (.int (j : Nat))] ++ o5) (H ++ [.lst (rowD r)]) = .ok (.int ((i + j : Nat) : Int)) (H ++ [.lst (rowD r)]) := ev_bin (ev_var rfl) (ev_var rfl) rfl
      have ep := (ev_c2 (C := Pe.C) (f := ip) (h := H ++ [.lst (rowD r)]) (σ := [some (.lst (rowD F)), some (.lst (rowD G)), some (.ref H.length), some (.int (i : Nat)), some (.int (j : Nat))] ++ o5) (ev_idx (a := .var 0) (i := .var 3) (ev_var rfl) (ev_var rfl) (idx_row hi)) (ev_idx (a := .var 1) (i := .var 4) (ev_var rfl) (ev_var rfl) (idx_row hjl))).trans (hp _ _ _ _ e1)
      refine (seqN (sputE ((ev_c2 (ev_idx (ev_var rfl) ea hix) ep).trans (hs _ _ _ _ e2)) (ev_var rfl) ea hput)).trans ?_
      simp only [ES]; all_goals rfl
    rw [hb]
    exact ih
theorem rp1_body (hs : SumC Pe.C is) (hp : ProdC Pe.C ip) (hG : G.length ≤ 100000) {j : Nat} {r r1 : List Q2} (hjl : j < F.length) (e1 : rpJ F G j (List.range G.length) r = some r1) (hr : r.length = F.length + G.length - 1) (o4 : Option D) :
    evSs Pe (BL_rp1 is ip) ([some (.lst (rowD F)), some (.lst (rowD G)), some (.ref H.length), some (.int (j : Nat)), o4] ++ o5) (H ++ [.lst (rowD r)]) = .ok (.nx ([some (.lst (rowD F)), some (.lst (rowD G)), some (.ref H.length), some (.int (j : Nat)), none] ++ o5)) (H ++ [.lst (rowD r1)]) := by
  obtain ⟨o4a, e3⟩ := loop_rp0 (Pe := Pe) (H := H) (o5 := o5) hs hp hjl (List.range G.length) (fun k hk => List.mem_range.mp hk) r r1 e1 hr o4
  have el : evE Pe.C (.bi .len (.cons (.var 1) .nil)) ([some (.lst (rowD F)), some (.lst (rowD G)), some (.ref H.length), some (.int (j : Nat)), o4] ++ o5) (H ++ [.lst (rowD r)]) = .ok (.int (G.length : Nat)) (H ++ [.lst (rowD r)]) := ev_bi1 (ev_var rfl) len_row
  have ef : evS Pe (.for_ (.v 4) (.rng1 (.bi .len (.cons (.var 1) .nil))) (BL_rp0 is ip)) ([some (.lst (rowD F)), some (.lst (rowD G)), some (.ref H.length), some (.int (j : Nat)), o4] ++ o5) (H ++ [.lst (rowD r)]) = .ok (.nx ([some (.lst (rowD F)), some (.lst (rowD G)), some (.ref H.length), some (.int (j : Nat)), o4a] ++ o5)) (H ++ [.lst (rowD r1)]) := by
    rw [forR1 el (smallI_nat (by omega)), Int.toNat_natCast, rngD_zero]
    exact e3
  unfold BL_rp1
  rw [seqN ef]
  simp only [ES]
  rfl
theorem loop_rp1 (hs : SumC Pe.C is) (hp : ProdC Pe.C ip) (hG : G.length ≤ 100000) (js : List Nat) : (∀ j ∈ js, j < F.length) → ∀ (r r' : List Q2), rpI F G js r = some r' → r.length = F.length + G.length - 1 → ∀ o3 o4, ∃ o3' o4', forF (evSs Pe (BL_rp1 is ip)) (.v 3) [] (natD js) ([some (.lst (rowD F)), some (.lst (rowD G)), some (.ref H.length), o3, o4] ++ o5) (H ++ [.lst (rowD r)]) = .ok (.nx ([some (.lst (rowD F)), some (.lst (rowD G)), some (.ref H.length), o3', o4'] ++ o5)) (H ++ [.lst (rowD r')]) := by
  induction js with
  | nil =>
    intro _ r r' e _ o3 o4
    cases e
    exact ⟨o3, o4, forF_nil rfl⟩
  | cons j js ih =>
    intro hj r r' e hr o3 o4
    simp only [rpI, Option.bind_eq_some_iff] at e
    obtain ⟨r1, e1, e2⟩ := e
    have hjl := hj j (by simp)
    obtain ⟨o3', o4', ih⟩ := ih (fun k hk => hj k (List.mem_cons_of_mem _ hk)) _ _ e2 (by rw [rpJ_len e1]; exact hr) (some (.int (j : Nat))) none
    have hb := rp1_body (Pe := Pe) (H := H) (o5 := o5) hs hp hG hjl e1 hr o4
    exact ⟨o3', o4', (forF_cons (xs := natD js) rfl rfl hb).trans ih⟩
end
theorem rep_row (n : Nat) : (List.replicate n [qD z2]).flatten = rowD (List.replicate n z2) := by
  induction n with
  | zero => rfl
  | succ n ih => rw [List.replicate_succ, List.flatten_cons, ih]; rfl
def BD_rpP (is ip : Nat) : CDef := ⟨5, 2, (.cons (.asg (.v 2) (.cell (.bin .Mult (.lst (.cons (.tup (.cons (.cst (.int 0)) (.cons (.cst (.int 1)) .nil))) .nil)) (.bin .Sub (.bin .Add (.bi .len (.cons (.var 0) .nil)) (.bi .len (.cons (.var 1) .nil))) (.cst (.int 1)))))) (.cons (.for_ (.v 3) (.rng1 (.bi .len (.cons (.var 0) .nil))) (BL_rp1 is ip)) (.cons (.ret (.var 2)) .nil)))⟩
def BD_rpL (is ip : Nat) : CDef := ⟨6, 2, (.cons (.asg (.v 2) (.cell (.comp (.tup (.cons (.cst (.int 0)) (.cons (.cst (.int 1)) .nil))) (.v 5) (.rng1 (.bin .Sub (.bin .Add (.bi .len (.cons (.var 0) .nil)) (.bi .len (.cons (.var 1) .nil))) (.cst (.int 1)))) .absent [5]))) (.cons (.for_ (.v 3) (.rng1 (.bi .len (.cons (.var 0) .nil))) (BL_rp1 is ip)) (.cons (.ret (.var 2)) .nil)))⟩
section
variable {P : Pg} {i is ip n : Nat} {H : Hc} {F G R : List Q2}
theorem finR_ref {h : Hc} {c : Cell} : finR h (.ref h.length) (h ++ [c]) = .ok (.ref h.length) (h ++ [c]) := by
  unfold finR
  rw [if_neg]
  simp [D.low]
theorem run_rpP (hd : P.defs[i]? = some (BD_rpP is ip)) (hs : SumC (callN P n) is) (hp : ProdC (callN P n) ip) (h1 : 0 < F.length) (h2 : F.length ≤ 1000) (h3 : G.length ≤ 1000) (e : rowProd F G = some R) :
    callN P (n + 1) i [.lst (rowD F), .lst (rowD G)] H = .ok (.ref H.length) (H ++ [.lst (rowD R)]) := by
  rw [call_rt0 (d := BD_rpP is ip) (b := (BD_rpP is ip).body) (σ := [some (.lst (rowD F)), some (.lst (rowD G)), none, none, none]) (v := .ref H.length) (h' := H ++ [.lst (rowD R)]) hd rfl rfl rfl]
  · exact finR_ref
  · obtain ⟨o3, o4, e2⟩ := loop_rp1 (Pe := ⟨callN P n, P.sub⟩) (H := H) (o5 := []) hs hp (by omega) (List.range F.length) (fun k hk => List.mem_range.mp hk) _ _ e (by simp) none none
    refine (seqN (σ' := [some (.lst (rowD F)), some (.lst (rowD G)), some (.ref H.length), none, none]) (h' := H ++ [.lst (rowD (List.replicate (F.length + G.length - 1) z2))]) (asgV (ev_cell (ev_bin (op := .Mult) (x := .lst [qD z2]) (y := .int ((F.length + G.length - 1 : Nat) : Int)) (ev_lst (ev_cons (ev_t2 ev_cst ev_cst) ev_nil)) (ev_bin (op := .Sub) (ev_bin (op := .Add) (ev_bi1 (ev_var rfl) len_row) (ev_bi1 (ev_var rfl) len_row) rfl) ev_cst ?_) ?_)))).trans ?_
    · show some (D.int ((F.length : Int) + (G.length : Int) - 1)) = _
      congr 2; omega
    · simp only [binF, mulF, mulL, derM]
      rw [if_pos ⟨by omega, by omega, by rw [Int.toNat_natCast]; show 1 * _ ≤ line; unfold line; omega⟩, Int.toNat_natCast, rep_row]
    · refine (seqN (σ' := [some (.lst (rowD F)), some (.lst (rowD G)), some (.ref H.length), o3, o4]) (h' := H ++ [.lst (rowD R)]) ?_).trans (seqR (retE (ev_var rfl)))
      have el : evE (callN P n) (.bi .len (.cons (.var 0) .nil)) [some (.lst (rowD F)), some (.lst (rowD G)), some (.ref H.length), none, none] (H ++ [.lst (rowD (List.replicate (F.length + G.length - 1) z2))]) = .ok (.int (F.length : Nat)) (H ++ [.lst (rowD (List.replicate (F.length + G.length - 1) z2))]) := ev_bi1 (ev_var rfl) len_row
      rw [forR1 (P := ⟨callN P n, P.sub⟩) el (smallI_nat (by omega)), Int.toNat_natCast, rngD_zero]
      exact e2
theorem run_rpL (hd : P.defs[i]? = some (BD_rpL is ip)) (hs : SumC (callN P n) is) (hp : ProdC (callN P n) ip) (h1 : 0 < F.length) (h2 : F.length ≤ 1000) (h3 : G.length ≤ 1000) (e : rowProd F G = some R) :
    callN P (n + 1) i [.lst (rowD F), .lst (rowD G)] H = .ok (.ref H.length) (H ++ [.lst (rowD R)]) := by
  rw [call_rt0 (d := BD_rpL is ip) (b := (BD_rpL is ip).body) (σ := [some (.lst (rowD F)), some (.lst (rowD G)), none, none, none, none]) (v := .ref H.length) (h' := H ++ [.lst (rowD R)]) hd rfl rfl rfl]
  · exact finR_ref
  · obtain ⟨o3, o4, e2⟩ := loop_rp1 (Pe := ⟨callN P n, P.sub⟩) (H := H) (o5 := [none]) hs hp (by omega) (List.range F.length) (fun k hk => List.mem_range.mp hk) _ _ e (by simp) none none
    have key : compF (evE (callN P n) (.tup (.cons (.cst (.int 0)) (.cons (.cst (.int 1)) .nil)))) (condR true (evE (callN P n) .absent)) (.v 5) [] (cwipe [some (.lst (rowD F)), some (.lst (rowD G)), none, none, none, none] [5]) (natD (List.range (F.length + G.length - 1))) H = .ok (rowD (List.replicate (F.length + G.length - 1) z2)) H := by
      rw [compF_pure rfl (fun _ => qD z2) (fun _ => true)]
      · rw [List.filter_eq_self.mpr (by simp)]
        congr 1
        rw [natD, List.map_map, rowD, List.map_replicate]
        have : ∀ l : List Nat, l.map ((fun _ => qD z2) ∘ fun n : Nat => D.int (n : Nat)) = List.replicate l.length (qD z2) := fun l => by
          induction l with
          | nil => rfl
          | cons a l ih => rw [List.map_cons, ih]; rfl
        rw [this, List.length_range]
      · intro x hx
        exact ⟨_, rfl, rfl, fun _ => ev_t2 ev_cst ev_cst⟩
    have ek : evE (callN P n) (.bin .Sub (.bin .Add (.bi .len (.cons (.var 0) .nil)) (.bi .len (.cons (.var 1) .nil))) (.cst (.int 1))) [some (.lst (rowD F)), some (.lst (rowD G)), none, none, none, none] H = .ok (.int ((F.length + G.length - 1 : Nat) : Int)) H := ev_bin (op := .Sub) (ev_bin (op := .Add) (ev_bi1 (ev_var rfl) len_row) (ev_bi1 (ev_var rfl) len_row) rfl) ev_cst (by
      show some (D.int ((F.length : Int) + (G.length : Int) - 1)) = _
      congr 2; omega)
    have ec : evE (callN P n) (.comp (.tup (.cons (.cst (.int 0)) (.cons (.cst (.int 1)) .nil))) (.v 5) (.rng1 (.bin .Sub (.bin .Add (.bi .len (.cons (.var 0) .nil)) (.bi .len (.cons (.var 1) .nil))) (.cst (.int 1)))) .absent [5]) [some (.lst (rowD F)), some (.lst (rowD G)), none, none, none, none] H = .ok (.lst (rowD (List.replicate (F.length + G.length - 1) z2))) H := by
      have hsm : smallI ((F.length + G.length - 1 : Nat) : Int) = true := smallI_nat (by omega)
      rw [show ∀ (elt a : CE) (σ : CSt) (h : Hc), evE (callN P n) (.comp elt (.v 5) (.rng1 a) .absent [5]) σ h = ((evI (callN P n) (.rng1 a) σ h).bind fun d h => if d.xs.length ≤ line then lmap [] (compF (evE (callN P n) elt) (condR true (evE (callN P n) .absent)) (.v 5) d.g (cwipe σ [5]) d.xs h) else .stuck) from fun elt a σ h => by simp only [evE]; all_goals rfl]
      rw [show evI (callN P n) (.rng1 (.bin .Sub (.bin .Add (.bi .len (.cons (.var 0) .nil)) (.bi .len (.cons (.var 1) .nil))) (.cst (.int 1)))) [some (.lst (rowD F)), some (.lst (rowD G)), none, none, none, none] H = .ok ⟨natD (List.range (F.length + G.length - 1)), []⟩ H from by
        rw [show ∀ (a : CE) (σ : CSt) (h : Hc), evI (callN P n) (.rng1 a) σ h = ((evE (callN P n) a σ h).bind fun d h => match d with
          | D.int j => if smallI j then ERes.ok ⟨rngD 0 1 j.toNat, []⟩ h else ERes.stuck
          | _ => ERes.stuck) from fun a σ h => by simp only [evI]; all_goals rfl]
        rw [ek, ERes.ok_bind]
        simp only [hsm, if_true]
        rw [Int.toNat_natCast, rngD_zero]]
      rw [ERes.ok_bind]
      simp only
      rw [if_pos (by rw [natD, List.length_map, List.length_range]; unfold line; omega), key]
      rfl
    refine (seqN (σ' := [some (.lst (rowD F)), some (.lst (rowD G)), some (.ref H.length), none, none, none]) (h' := H ++ [.lst (rowD (List.replicate (F.length + G.length - 1) z2))]) (asgV (ev_cell ec))).trans ?_
    refine (seqN (σ' := [some (.lst (rowD F)), some (.lst (rowD G)), some (.ref H.length), o3, o4, none]) (h' := H ++ [.lst (rowD R)]) ?_).trans (seqR (retE (ev_var rfl)))
    have el : evE (callN P n) (.bi .len (.cons (.var 0) .nil)) [some (.lst (rowD F)), some (.lst (rowD G)), some (.ref H.length), none, none, none] (H ++ [.lst (rowD (List.replicate (F.length + G.length - 1) z2))]) = .ok (.int (F.length : Nat)) (H ++ [.lst (rowD (List.replicate (F.length + G.length - 1) z2))]) := ev_bi1 (ev_var rfl) len_row
    rw [forR1 (P := ⟨callN P n, P.sub⟩) el (smallI_nat (by omega)), Int.toNat_natCast, rngD_zero]
    exact e2
end
end Cl

namespace Cl
open PySem PySem.Spec PyProof.Rows L2
/-! ### comprehensions over a range, with values that may fail -/
def mapMO {β : Type} (m : Nat → Option β) : List Nat → Option (List β)
  | [] => some []
  | j :: js => (m j).bind fun q => (mapMO m js).bind fun qs => some (q :: qs)
theorem mapMO_len {β : Type} {m : Nat → Option β} : ∀ {js : List Nat} {R : List β}, mapMO m js = some R → R.length = js.length
  | [], R, e => by cases e; rfl
  | j :: js, R, e => by
    simp only [mapMO, Option.bind_eq_some_iff] at e
    obtain ⟨q, _, qs, e2, e3⟩ := e
    cases e3
    rw [List.length_cons, List.length_cons, mapMO_len e2]
theorem compF_mapM {β : Type} {fe fc : EvF} {t : Tg} {σ : CSt} {h : Hc} (enc : β → D) (m : Nat → Option β) : ∀ (js : List Nat) (R : List β), mapMO m js = some R → (∀ j ∈ js, ∀ q, m j = some q → ∃ σ1, asgT t (.int (j : Nat)) σ = some σ1 ∧ boolR (fc σ1 h) = .ok true h ∧ fe σ1 h = .ok (enc q) h) →
    compF fe fc t [] σ (natD js) h = .ok (R.map enc) h
  | [], R, e, _ => by cases e; rfl
  | j :: js, R, e, k => by
    simp only [mapMO, Option.bind_eq_some_iff] at e
    obtain ⟨q, e1, qs, e2, e3⟩ := e
    cases e3
    obtain ⟨σ1, a1, a2, a3⟩ := k j (by simp) q e1
    have ih := compF_mapM enc m js qs e2 fun i hi => k i (List.mem_cons_of_mem _ hi)
    rw [natD, List.map_cons, compF, if_pos (show gOk [] h = true from rfl), a1]
    simp only [a2, a3]
    rw [natD] at ih
    simp only [ih]
    rfl
theorem ev_comp1 {C : Caller} {elt a : CE} {i n : Nat} {σ : CSt} {h h1 h2 : Hc} {ys : List D} (ka : evE C a σ h = .ok (.int (n : Nat)) h1) (hn : n ≤ 1000000) (kc : compF (evE C elt) (condR true (evE C .absent)) (.v i) [] (cwipe σ [i]) (natD (List.range n)) h1 = .ok ys h2) :
    evE C (.comp elt (.v i) (.rng1 a) .absent [i]) σ h = .ok (.lst ys) h2 := by
  have e1 : evI C (.rng1 a) σ h = .ok ⟨natD (List.range n), []⟩ h1 := by
    simp only [EV, EB, ka, smallI_nat hn, if_true]
    rw [Int.toNat_natCast, rngD_zero]
  have e2 : (natD (List.range n)).length ≤ line := by rw [natD, List.length_map, List.length_range]; unfold line; omega
  have e3 : evE C (.comp elt (.v i) (.rng1 a) .absent [i]) σ h = ((evI C (.rng1 a) σ h).bind fun d h => if d.xs.length ≤ line then lmap [] (compF (evE C elt) (condR true (evE C .absent)) (.v i) d.g (cwipe σ [i]) d.xs h) else .stuck) := by
    simp only [evE]; all_goals rfl
  rw [e3, e1, ERes.ok_bind]
  simp only
  rw [if_pos e2, kc]
  rfl
theorem max2_nat {h : Hc} {a b : Nat} : biF h .max2 [.int (a : Nat), .int (b : Nat)] = some (.int ((max a b : Nat) : Int)) := by
  simp only [biF]
  congr 2
  split <;> omega
/-! ### sums of rows -/
def rsE (F G : List Q2) (c : Q2) (k : Nat) : Option Q2 := (prodM c (G.getD k z2)).bind fun p => sumM (F.getD k z2) p
def rowSum (F G : List Q2) (c : Q2) : Option (List Q2) := mapMO (rsE F G c) (List.range (max F.length G.length))
structure IsL (H : Hc) (d : D) (F : List Q2) : Prop where
  s : seqD H d = some (rowD F)
  m : derM H d = .lst (rowD F)
  l : lenF H d = some (.int (F.length : Nat))
theorem IsL.lst {H : Hc} {F : List Q2} : IsL H (.lst (rowD F)) F := ⟨rfl, rfl, len_row (h := H)⟩
theorem IsL.at {H : Hc} {n : Nat} {F : List Q2} (e : H[n]? = some (.lst (rowD F))) : IsL H (.ref n) F := by
  have e1 : seqD H (.ref n) = some (rowD F) := by simp only [seqD, e]
  refine ⟨e1, by simp only [derM, e], ?_⟩
  unfold lenF
  simp only [e1]
  rw [rowD, List.length_map]
theorem pad_get {F : List Q2} {m k : Nat} : (F ++ List.replicate m z2).getD k z2 = F.getD k z2 := by
  rw [List.getD_eq_getElem?_getD, List.getD_eq_getElem?_getD, List.getElem?_append]
  split
  · rfl
  · rename_i h
    rw [List.getElem?_eq_none (by omega : F.length ≤ k), List.getElem?_replicate]
    split <;> rfl
section
variable {P : Pg} {i is ip n : Nat} {H : Hc} {F G R : List Q2} {c : Q2} {d1 d2 : D}
theorem pad_row (F : List Q2) (m : Nat) : rowD F ++ rowD (List.replicate m z2) = rowD (F ++ List.replicate m z2) := by rw [rowD, rowD, rowD, List.map_append]
theorem bin_pad {H : Hc} {m : Nat} (hm : m ≤ 1000) : binF H .Mult (.lst [qD z2]) (.int (m : Nat)) = some (.lst (rowD (List.replicate m z2))) := by
  simp only [binF, mulF, mulL, derM]
  rw [if_pos ⟨by omega, by omega, by rw [Int.toNat_natCast]; show 1 * _ ≤ line; unfold line; omega⟩, Int.toNat_natCast, rep_row]
theorem bin_app {H : Hc} {d : D} {F : List Q2} {m : Nat} (hd : derM H d = .lst (rowD F)) (hns : ∀ x, d ≠ .str x) (hni : ∀ x, d ≠ .int x) (hnt : ∀ x, d ≠ .tup x) (h1 : F.length ≤ 1000) (h2 : m ≤ 1000) : binF H .Add d (.lst (rowD (List.replicate m z2))) = some (.lst (rowD (F ++ List.replicate m z2))) := by
  have : addL H d (.lst (rowD (List.replicate m z2))) = some (.lst (rowD (F ++ List.replicate m z2))) := by
    unfold addL
    rw [hd, show derM H (.lst (rowD (List.replicate m z2))) = .lst (rowD (List.replicate m z2)) from rfl]
    simp only
    rw [if_pos (by rw [rowD, rowD, List.length_map, List.length_map, List.length_replicate]; unfold line; omega), pad_row]
  simp only [binF, addF]
  exact this
def BD_rsP (is ip : Nat) : CDef := ⟨5, 3, (.cons (.asg (.v 3) (.bi .max2 (.cons (.bi .len (.cons (.var 0) .nil)) (.cons (.bi .len (.cons (.var 1) .nil)) .nil)))) (.cons (.asg (.t (.cons (.v 0) (.cons (.v 1) .nil))) (.tup (.cons (.bin .Add (.var 0) (.bin .Mult (.lst (.cons (.tup (.cons (.cst (.int 0)) (.cons (.cst (.int 1)) .nil))) .nil)) (.bin .Sub (.var 3) (.bi .len (.cons (.var 0) .nil))))) (.cons (.bin .Add (.var 1) (.bin .Mult (.lst (.cons (.tup (.cons (.cst (.int 0)) (.cons (.cst (.int 1)) .nil))) .nil)) (.bin .Sub (.var 3) (.bi .len (.cons (.var 1) .nil))))) .nil)))) (.cons (.ret (.comp (.call is (.cons (.idx (.var 0) (.var 4)) (.cons (.call ip (.cons (.var 2) (.cons (.idx (.var 1) (.var 4)) .nil))) .nil))) (.v 4) (.rng1 (.var 3)) .absent [4])) .nil)))⟩
def BD_rsL (is ip : Nat) : CDef := ⟨7, 3, (.cons (.asg (.v 3) (.bi .max2 (.cons (.bi .len (.cons (.var 0) .nil)) (.cons (.bi .len (.cons (.var 1) .nil)) .nil)))) (.cons (.asg (.t (.cons (.v 4) (.cons (.v 5) .nil))) (.tup (.cons (.bin .Add (.bi .list (.cons (.var 0) .nil)) (.bin .Mult (.lst (.cons (.tup (.cons (.cst (.int 0)) (.cons (.cst (.int 1)) .nil))) .nil)) (.bin .Sub (.var 3) (.bi .len (.cons (.var 0) .nil))))) (.cons (.bin .Add (.bi .list (.cons (.var 1) .nil)) (.bin .Mult (.lst (.cons (.tup (.cons (.cst (.int 0)) (.cons (.cst (.int 1)) .nil))) .nil)) (.bin .Sub (.var 3) (.bi .len (.cons (.var 1) .nil))))) .nil)))) (.cons (.ret (.comp (.call is (.cons (.idx (.var 4) (.var 6)) (.cons (.call ip (.cons (.var 2) (.cons (.idx (.var 5) (.var 6)) .nil))) .nil))) (.v 6) (.rng1 (.var 3)) .absent [6])) .nil)))⟩
theorem IsL.shape {d : D} (h : IsL H d F) : (∀ x, d ≠ .str x) ∧ (∀ x, d ≠ .int x) ∧ (∀ x, d ≠ .tup x) := by
  refine ⟨fun x e => ?_, fun x e => ?_, fun x e => ?_⟩ <;> (have := h.m; rw [e] at this; simp [derM] at this)
theorem low_row {n : Nat} {F : List Q2} : (D.lst (rowD F)).low n = true := by
  refine low_plain ?_
  rw [D.plain, plains_iff]
  intro x hx
  obtain ⟨q, _, rfl⟩ := List.mem_map.mp hx
  rfl
theorem run_rsP (hd : P.defs[i]? = some (BD_rsP is ip)) (hs : SumC (callN P n) is) (hp : ProdC (callN P n) ip) (k1 : IsL H d1 F) (k2 : IsL H d2 G) (h1 : F.length ≤ 500) (h2 : G.length ≤ 500) (e : rowSum F G c = some R) :
    callN P (n + 1) i [d1, d2, qD c] H = .ok (.lst (rowD R)) H := by
  have hm1 : max F.length G.length ≤ 500 := by omega
  obtain ⟨a1, a2, a3⟩ := k1.shape
  obtain ⟨b1, b2, b3⟩ := k2.shape
  refine call_rtp (d := BD_rsP is ip) (b := (BD_rsP is ip).body) (σ := [some d1, some d2, some (qD c), none, none]) hd rfl rfl rfl ?_
  let F' := F ++ List.replicate (max F.length G.length - F.length) z2
  let G' := G ++ List.replicate (max F.length G.length - G.length) z2
  have eF : evE (callN P n) (.bin .Add (.var 0) (.bin .Mult (.lst (.cons (.tup (.cons (.cst (.int 0)) (.cons (.cst (.int 1)) .nil))) .nil)) (.bin .Sub (.var 3) (.bi .len (.cons (.var 0) .nil))))) [some d1, some d2, some (qD c), some (.int ((max F.length G.length : Nat) : Int)), none] H = .ok (.lst (rowD F')) H :=
    ev_bin (ev_var rfl) (ev_bin (x := .lst [qD z2]) (y := .int ((max F.length G.length - F.length : Nat) : Int)) (ev_lst (ev_cons (ev_t2 ev_cst ev_cst) ev_nil)) (ev_bin (op := .Sub) (ev_var rfl) (ev_bi1 (ev_var rfl) k1.l) (by show some (D.int (((max F.length G.length : Nat) : Int) - (F.length : Nat))) = _; congr 2; omega)) (bin_pad (by omega))) (bin_app k1.m a1 a2 a3 (by omega) (by omega))
  have eG : evE (callN P n) (.bin .Add (.var 1) (.bin .Mult (.lst (.cons (.tup (.cons (.cst (.int 0)) (.cons (.cst (.int 1)) .nil))) .nil)) (.bin .Sub (.var 3) (.bi .len (.cons (.var 1) .nil))))) [some d1, some d2, some (qD c), some (.int ((max F.length G.length : Nat) : Int)), none] H = .ok (.lst (rowD G')) H :=
    ev_bin (ev_var rfl) (ev_bin (x := .lst [qD z2]) (y := .int ((max F.length G.length - G.length : Nat) : Int)) (ev_lst (ev_cons (ev_t2 ev_cst ev_cst) ev_nil)) (ev_bin (op := .Sub) (ev_var rfl) (ev_bi1 (ev_var rfl) k2.l) (by show some (D.int (((max F.length G.length : Nat) : Int) - (G.length : Nat))) = _; congr 2; omega)) (bin_pad (by omega))) (bin_app k2.m b1 b2 b3 (by omega) (by omega))
  have lF : F'.length = max F.length G.length := by simp only [F', List.length_append, List.length_replicate]; omega
  have lG : G'.length = max F.length G.length := by simp only [G', List.length_append, List.length_replicate]; omega
  have s1 : evS ⟨callN P n, P.sub⟩ (.asg (.v 3) (.bi .max2 (.cons (.bi .len (.cons (.var 0) .nil)) (.cons (.bi .len (.cons (.var 1) .nil)) .nil)))) [some d1, some d2, some (qD c), none, none] H = .ok (.nx [some d1, some d2, some (qD c), some (.int ((max F.length G.length : Nat) : Int)), none]) H := asgV (ev_bi2 (ev_bi1 (ev_var rfl) k1.l) (ev_bi1 (ev_var rfl) k2.l) max2_nat)
  have s2 : evS ⟨callN P n, P.sub⟩ _ [some d1, some d2, some (qD c), some (.int ((max F.length G.length : Nat) : Int)), none] H = .ok (.nx [some (.lst (rowD F')), some (.lst (rowD G')), some (qD c), some (.int ((max F.length G.length : Nat) : Int)), none]) H := asgE (t := .t (.cons (.v 0) (.cons (.v 1) .nil))) (ev_t2 eF eG) rfl
  have key := compF_mapM (fe := evE (callN P n) (.call is (.cons (.idx (.var 0) (.var 4)) (.cons (.call ip (.cons (.var 2) (.cons (.idx (.var 1) (.var 4)) .nil))) .nil)))) (fc := condR true (evE (callN P n) .absent)) (t := .v 4) (σ := cwipe [some (.lst (rowD F')), some (.lst (rowD G')), some (qD c), some (.int ((max F.length G.length : Nat) : Int)), none] [4]) (h := H) qD (rsE F G c) (List.range (max F.length G.length)) R e (fun j hj q hq => by
    rw [List.mem_range] at hj
    simp only [rsE, Option.bind_eq_some_iff] at hq
    obtain ⟨p, e1, e2⟩ := hq
    rw [← pad_get (F := G) (m := max F.length G.length - G.length)] at e1
    rw [← pad_get (F := F) (m := max F.length G.length - F.length)] at e2
    exact ⟨_, rfl, rfl, (ev_c2 (ev_idx (ev_var rfl) (ev_var rfl) (idx_row (f := F') (by rw [lF]; exact hj))) ((ev_c2 (ev_var rfl) (ev_idx (ev_var rfl) (ev_var rfl) (idx_row (f := G') (by rw [lG]; exact hj)))).trans (hp _ _ _ _ e1))).trans (hs _ _ _ _ e2)⟩)
  exact (seqN s1).trans ((seqN s2).trans (seqR (retE (ev_comp1 (ev_var rfl) (by omega) key))))
theorem run_rsL (hd : P.defs[i]? = some (BD_rsL is ip)) (hs : SumC (callN P n) is) (hp : ProdC (callN P n) ip) (k1 : IsL H d1 F) (k2 : IsL H d2 G) (h1 : F.length ≤ 500) (h2 : G.length ≤ 500) (e : rowSum F G c = some R) :
    callN P (n + 1) i [d1, d2, qD c] H = .ok (.lst (rowD R)) H := by
  have hm1 : max F.length G.length ≤ 500 := by omega
  refine call_rtp (d := BD_rsL is ip) (b := (BD_rsL is ip).body) (σ := [some d1, some d2, some (qD c), none, none, none, none]) hd rfl rfl rfl ?_
  let F' := F ++ List.replicate (max F.length G.length - F.length) z2
  let G' := G ++ List.replicate (max F.length G.length - G.length) z2
  have no : ∀ (X : List Q2), (∀ x, D.lst (rowD X) ≠ .str x) ∧ (∀ x, D.lst (rowD X) ≠ .int x) ∧ (∀ x, D.lst (rowD X) ≠ .tup x) := fun X => (IsL.lst (H := H) (F := X)).shape
  have eF : evE (callN P n) (.bin .Add (.bi .list (.cons (.var 0) .nil)) (.bin .Mult (.lst (.cons (.tup (.cons (.cst (.int 0)) (.cons (.cst (.int 1)) .nil))) .nil)) (.bin .Sub (.var 3) (.bi .len (.cons (.var 0) .nil))))) [some d1, some d2, some (qD c), some (.int ((max F.length G.length : Nat) : Int)), none, none, none] H = .ok (.lst (rowD F')) H :=
    ev_bin (ev_bi1 (z := .lst (rowD F)) (ev_var rfl) (by simp only [biF, k1.s]; rfl)) (ev_bin (x := .lst [qD z2]) (y := .int ((max F.length G.length - F.length : Nat) : Int)) (ev_lst (ev_cons (ev_t2 ev_cst ev_cst) ev_nil)) (ev_bin (op := .Sub) (ev_var rfl) (ev_bi1 (ev_var rfl) k1.l) (by show some (D.int (((max F.length G.length : Nat) : Int) - (F.length : Nat))) = _; congr 2; omega)) (bin_pad (by omega))) (bin_app rfl (no F).1 (no F).2.1 (no F).2.2 (by omega) (by omega))
  have eG : evE (callN P n) (.bin .Add (.bi .list (.cons (.var 1) .nil)) (.bin .Mult (.lst (.cons (.tup (.cons (.cst (.int 0)) (.cons (.cst (.int 1)) .nil))) .nil)) (.bin .Sub (.var 3) (.bi .len (.cons (.var 1) .nil))))) [some d1, some d2, some (qD c), some (.int ((max F.length G.length : Nat) : Int)), none, none, none] H = .ok (.lst (rowD G')) H :=
    ev_bin (ev_bi1 (z := .lst (rowD G)) (ev_var rfl) (by simp only [biF, k2.s]; rfl)) (ev_bin (x := .lst [qD z2]) (y := .int ((max F.length G.length - G.length : Nat) : Int)) (ev_lst (ev_cons (ev_t2 ev_cst ev_cst) ev_nil)) (ev_bin (op := .Sub) (ev_var rfl) (ev_bi1 (ev_var rfl) k2.l) (by show some (D.int (((max F.length G.length : Nat) : Int) - (G.length : Nat))) = _; congr 2; omega)) (bin_pad (by omega))) (bin_app rfl (no G).1 (no G).2.1 (no G).2.2 (by omega) (by omega))
  have lF : F'.length = max F.length G.length := by simp only [F', List.length_append, List.length_replicate]; omega
  have lG : G'.length = max F.length G.length := by simp only [G', List.length_append, List.length_replicate]; omega
  have s1 : evS ⟨callN P n, P.sub⟩ (.asg (.v 3) (.bi .max2 (.cons (.bi .len (.cons (.var 0) .nil)) (.cons (.bi .len (.cons (.var 1) .nil)) .nil)))) [some d1, some d2, some (qD c), none, none, none, none] H = .ok (.nx [some d1, some d2, some (qD c), some (.int ((max F.length G.length : Nat) : Int)), none, none, none]) H := asgV (ev_bi2 (ev_bi1 (ev_var rfl) k1.l) (ev_bi1 (ev_var rfl) k2.l) max2_nat)
  have s2 : evS ⟨callN P n, P.sub⟩ _ [some d1, some d2, some (qD c), some (.int ((max F.length G.length : Nat) : Int)), none, none, none] H = .ok (.nx [some d1, some d2, some (qD c), some (.int ((max F.length G.length : Nat) : Int)), some (.lst (rowD F')), some (.lst (rowD G')), none]) H := asgE (t := .t (.cons (.v 4) (.cons (.v 5) .nil))) (ev_t2 eF eG) rfl
  have key := compF_mapM (fe := evE (callN P n) (.call is (.cons (.idx (.var 4) (.var 6)) (.cons (.call ip (.cons (.var 2) (.cons (.idx (.var 5) (.var 6)) .nil))) .nil)))) (fc := condR true (evE (callN P n) .absent)) (t := .v 6) (σ := cwipe [some d1, some d2, some (qD c), some (.int ((max F.length G.length : Nat) : Int)), some (.lst (rowD F')), some (.lst (rowD G')), none] [6]) (h := H) qD (rsE F G c) (List.range (max F.length G.length)) R e (fun j hj q hq => by
    rw [List.mem_range] at hj
    simp only [rsE, Option.bind_eq_some_iff] at hq
    obtain ⟨p, e1, e2⟩ := hq
    rw [← pad_get (F := G) (m := max F.length G.length - G.length)] at e1
    rw [← pad_get (F := F) (m := max F.length G.length - F.length)] at e2
    exact ⟨_, rfl, rfl, (ev_c2 (ev_idx (ev_var rfl) (ev_var rfl) (idx_row (f := F') (by rw [lF]; exact hj))) ((ev_c2 (ev_var rfl) (ev_idx (ev_var rfl) (ev_var rfl) (idx_row (f := G') (by rw [lG]; exact hj)))).trans (hp _ _ _ _ e1))).trans (hs _ _ _ _ e2)⟩)
  exact (seqN s1).trans ((seqN s2).trans (seqR (retE (ev_comp1 (ev_var rfl) (by omega) key))))
end
end Cl

namespace Cl
open PySem PySem.Spec PyProof.Rows L2
/-! ### fractions for the kernel: sign, numerator, denominator -/
structure FQ where
  s : Bool
  n : Nat
  d : Nat
def fB : Nat := 2 ^ 4000
def FQ.to (a : FQ) : Q2 := (cond a.s (-(a.n : Int)) (a.n : Int), (a.d : Int))
/-- sign and size of a sum of signed sizes -/
def sgn (s t : Bool) (x y : Nat) : Bool := cond (Bool.xor s t) (cond (Nat.ble y x) s t) s
def mag (s t : Bool) (x y : Nat) : Nat := cond (Bool.xor s t) (cond (Nat.ble y x) (x - y) (y - x)) (x + y)
def fLow (s : Bool) (n d : Nat) : FQ := ⟨s, n / Nat.gcd n d, d / Nat.gcd n d⟩
def fSum (a b : FQ) : Option FQ :=
  cond (Nat.ble (a.n * b.d + b.n * a.d + a.d * b.d) fB && Nat.ble 1 (a.d * b.d))
    (some (fLow (sgn a.s b.s (a.n * b.d) (b.n * a.d)) (mag a.s b.s (a.n * b.d) (b.n * a.d)) (a.d * b.d))) none
def fProd (a b : FQ) : Option FQ :=
  cond (Nat.ble (a.n * b.n + a.d * b.d) fB && Nat.ble 1 (a.d * b.d)) (some (fLow (Bool.xor a.s b.s) (a.n * b.n) (a.d * b.d))) none
def sI (s : Bool) (n : Nat) : Int := cond s (-(n : Int)) (n : Int)
theorem sgn_mag (s t : Bool) (x y : Nat) : sI (sgn s t x y) (mag s t x y) = sI s x + sI t y := by
  unfold sI sgn mag
  cases s <;> cases t <;> simp only [Bool.xor_false, Bool.xor_true, Bool.not_false, Bool.not_true, cond_true, cond_false]
  · omega
  · cases h : Nat.ble y x
    · have : ¬ y ≤ x := fun k => by rw [Nat.ble_eq_true_of_le k] at h; cases h
      simp only [cond_true, cond_false]; omega
    · have := Nat.le_of_ble_eq_true h
      simp only [cond_true, cond_false]; omega
  · cases h : Nat.ble y x
    · have : ¬ y ≤ x := fun k => by rw [Nat.ble_eq_true_of_le k] at h; cases h
      simp only [cond_true, cond_false]; omega
    · have := Nat.le_of_ble_eq_true h
      simp only [cond_true, cond_false]; omega
  · omega
theorem sI_abs (s : Bool) (n : Nat) : (sI s n).natAbs = n := by cases s <;> simp [sI]
theorem fB_log {n : Nat} (h : n ≤ fB) : n.log2 < 4002 := by
  by_cases h0 : n = 0
  · subst h0; decide
  · have h1 : n < 2 ^ 4002 := Nat.lt_of_le_of_lt h (by decide +kernel)
    exact (Nat.log2_lt h0).mpr h1
theorem fLow_low {s : Bool} {n d : Nat} (hn : n ≤ fB) (hd : d ≤ fB) (h0 : 1 ≤ d) : lowM (sI s n) (d : Int) = some (fLow s n d).to := by
  have ln := fB_log hn
  have ld := fB_log hd
  have hg0 : 0 < Nat.gcd n d := Nat.gcd_pos_of_pos_right _ (by omega)
  have hgd : Nat.gcd n d ≤ d := Nat.le_of_dvd (by omega) (Nat.gcd_dvd_right n d)
  have hsg : sgcd (sI s n) (d : Int) = (Nat.gcd n d : Nat) := by
    unfold sgcd
    rw [if_neg (by omega), sI_abs, Int.natAbs_natCast]
  unfold lowM
  rw [if_pos, hsg]
  · congr 1
    unfold fLow FQ.to
    obtain ⟨x, hx⟩ := Nat.gcd_dvd_left n d
    obtain ⟨y, hy⟩ := Nat.gcd_dvd_right n d
    generalize Nat.gcd n d = G at *
    subst hx
    refine Prod.ext ?_ ?_
    · simp only
      rw [Nat.mul_div_cancel_left _ hg0]
      cases s
      · simp only [sI, cond_false]
        rw [Int.fdiv_eq_ediv_of_nonneg _ (by omega), Int.natCast_mul, Int.mul_ediv_cancel_left _ (by omega)]
      · simp only [sI, cond_true]
        rw [Int.fdiv_eq_ediv_of_nonneg _ (by omega), Int.natCast_mul, ← Int.mul_neg, Int.mul_ediv_cancel_left _ (by omega)]
    · simp only
      rw [Int.fdiv_eq_ediv_of_nonneg _ (by omega), Int.natCast_ediv]
  · rw [Bool.and_eq_true]
    constructor
    · unfold smallG
      rw [sI_abs, Int.natAbs_natCast, Bool.and_eq_true, decide_eq_true_eq, decide_eq_true_eq]
      omega
    · rw [hsg]
      unfold divOk
      rw [Bool.and_eq_true, decide_eq_true_eq, decide_eq_true_eq, Int.natAbs_natCast]
      have := fB_log (Nat.le_trans hgd hd)
      omega
theorem bits_log {x : Int} {k : Nat} (h : x.natAbs.log2 < k) : bitsI x ≤ k := by
  unfold bitsI Builtin.Int.intBits
  split <;> omega
theorem mulM_s {s t : Bool} {x y : Nat} (hx : x.log2 < 4002) (hy : y.log2 < 4002) : mulM (sI s x) (sI t y) = some (sI (Bool.xor s t) (x * y)) := by
  unfold mulM
  rw [if_pos]
  · congr 1
    cases s <;> cases t <;> simp [sI, Int.natCast_mul, Int.neg_mul, Int.mul_neg]
  · unfold mulOk
    have h1 := bits_log (x := sI s x) (k := 4002) (by rw [sI_abs]; exact hx)
    have h2 := bits_log (x := sI t y) (k := 4002) (by rw [sI_abs]; exact hy)
    rw [decide_eq_true (show bitsI (sI s x) + bitsI (sI t y) ≤ 134217728 by omega), Bool.or_true]
theorem log_le {a b : Nat} (h : a ≤ b) : a.log2 ≤ b.log2 := by
  by_cases ha : a = 0
  · subst ha
    rw [show Nat.log2 0 = 0 from by decide]; omega
  · have hb : b ≠ 0 := by omega
    exact (Nat.le_log2 hb).mpr (Nat.le_trans (Nat.log2_self_le ha) h)
theorem cond_some {c : Bool} {α : Type} {x : Option α} {y : α} (h : cond c x none = some y) : c = true ∧ x = some y := by
  cases c
  · cases h
  · exact ⟨rfl, h⟩
theorem fac_le {a b c : Nat} (h : a * b ≤ c) (hb : 1 ≤ b) : a ≤ c := Nat.le_trans (Nat.le_mul_of_pos_right a hb) h
theorem pos_of_mul {a b : Nat} (h : 1 ≤ a * b) : 1 ≤ a ∧ 1 ≤ b := by
  constructor
  · cases a with
    | zero => rw [Nat.zero_mul] at h; omega
    | succ a => omega
  · cases b with
    | zero => rw [Nat.mul_zero] at h; omega
    | succ b => omega
theorem fSum_sum {a b c : FQ} (h : fSum a b = some c) : sumM a.to b.to = some c.to := by
  obtain ⟨h1, h2⟩ := cond_some h
  cases h2
  rw [Bool.and_eq_true] at h1
  have hle := Nat.le_of_ble_eq_true h1.1
  have hd := Nat.le_of_ble_eq_true h1.2
  obtain ⟨da, db⟩ := pos_of_mul hd
  have la : a.n.log2 < 4002 := fB_log (fac_le (Nat.le_trans (by omega) hle) db)
  have lb : b.n.log2 < 4002 := fB_log (fac_le (a := b.n) (b := a.d) (Nat.le_trans (by omega) hle) da)
  have lda : a.d.log2 < 4002 := fB_log (fac_le (a := a.d) (b := b.d) (Nat.le_trans (by omega) hle) db)
  have ldb : b.d.log2 < 4002 := fB_log (fac_le (a := b.d) (b := a.d) (Nat.le_trans (by rw [Nat.mul_comm]; omega) hle) da)
  have m1 := mulM_s (s := a.s) (t := false) la ldb
  have m2 := mulM_s (s := b.s) (t := false) lb lda
  have m3 := mulM_s (s := false) (t := false) lda ldb
  unfold sumM
  show (mulM (sI a.s a.n) (sI false b.d)).bind _ = _
  rw [m1, Option.bind_some]
  show (mulM (sI b.s b.n) (sI false a.d)).bind _ = _
  rw [m2, Option.bind_some]
  show (mulM (sI false a.d) (sI false b.d)).bind _ = _
  rw [m3, Option.bind_some]
  simp only [Bool.xor_false]
  rw [← sgn_mag]
  have hm : mag a.s b.s (a.n * b.d) (b.n * a.d) ≤ a.n * b.d + b.n * a.d := by
    unfold mag
    cases Bool.xor a.s b.s
    · exact Nat.le_refl _
    · cases Nat.ble (b.n * a.d) (a.n * b.d) <;> simp only [cond_true, cond_false] <;> omega
  exact fLow_low (by omega) (by omega) hd
theorem fProd_prod {a b c : FQ} (h : fProd a b = some c) : prodM a.to b.to = some c.to := by
  obtain ⟨h1, h2⟩ := cond_some h
  cases h2
  rw [Bool.and_eq_true] at h1
  have hle := Nat.le_of_ble_eq_true h1.1
  have hd := Nat.le_of_ble_eq_true h1.2
  obtain ⟨da, db⟩ := pos_of_mul hd
  have lda : a.d.log2 < 4002 := fB_log (fac_le (a := a.d) (b := b.d) (Nat.le_trans (by omega) hle) db)
  have ldb : b.d.log2 < 4002 := fB_log (fac_le (a := b.d) (b := a.d) (Nat.le_trans (by rw [Nat.mul_comm]; omega) hle) da)
  unfold prodM
  by_cases h0 : 1 ≤ a.n * b.n
  · obtain ⟨na, nb⟩ := pos_of_mul h0
    have la : a.n.log2 < 4002 := fB_log (fac_le (a := a.n) (b := b.n) (Nat.le_trans (by omega) hle) nb)
    have lb : b.n.log2 < 4002 := fB_log (fac_le (a := b.n) (b := a.n) (Nat.le_trans (by rw [Nat.mul_comm]; omega) hle) na)
    show (mulM (sI a.s a.n) (sI b.s b.n)).bind _ = _
    rw [mulM_s la lb, Option.bind_some]
    show (mulM (sI false a.d) (sI false b.d)).bind _ = _
    rw [mulM_s lda ldb, Option.bind_some]
    exact fLow_low (by omega) (by omega) hd
  · have hz : a.n = 0 ∨ b.n = 0 := Nat.mul_eq_zero.mp (by omega)
    have hm : mulM (sI a.s a.n) (sI b.s b.n) = some (sI (Bool.xor a.s b.s) (a.n * b.n)) := by
      have e : sI a.s a.n * sI b.s b.n = sI (Bool.xor a.s b.s) (a.n * b.n) := by
        cases a.s <;> cases b.s <;> simp [sI, Int.natCast_mul, Int.neg_mul, Int.mul_neg]
      unfold mulM
      rw [if_pos, e]
      have z : ∀ (s : Bool), bitsI (sI s 0) ≤ 64 := fun s => by cases s <;> decide
      rcases hz with hz | hz
      · rw [hz]; exact mulOk_l (z _)
      · rw [hz]; exact mulOk_r (z _)
    show (mulM (sI a.s a.n) (sI b.s b.n)).bind _ = _
    rw [hm, Option.bind_some]
    show (mulM (sI false a.d) (sI false b.d)).bind _ = _
    rw [mulM_s lda ldb, Option.bind_some]
    exact fLow_low (by omega) (by omega) hd
/-! ### rows of these -/
abbrev rowQ (f : List FQ) : List Q2 := f.map FQ.to
def fz : FQ := ⟨false, 0, 1⟩
theorem fz_to : fz.to = z2 := rfl
theorem getD_to {f : List FQ} {i : Nat} : (rowQ f).getD i z2 = (f.getD i fz).to := by
  rw [List.getD_eq_getElem?_getD, List.getD_eq_getElem?_getD, List.getElem?_map]
  cases f[i]? <;> rfl
/-- add p into the i-th place and on -/
def fJ (a : FQ) (G r : List FQ) : Option (List FQ) :=
  match G with
  | [] => some r
  | b :: G => match r with
    | [] => none
    | x :: r => match fProd a b with
      | none => none
      | some p => match fSum x p with
        | none => none
        | some s => match fJ a G r with
          | none => none
          | some r => some (s :: r)
/-- the rows of F one after another, each a place further on -/
def fI (F G r : List FQ) : Option (List FQ) :=
  match F with
  | [] => some r
  | a :: F => match fJ a G r with
    | none => none
    | some [] => (match F with | [] => some [] | _ => none)
    | some (x :: r) => match fI F G r with
      | none => none
      | some r => some (x :: r)
def fRowProd (F G : List FQ) : Option (List FQ) := fI F G (List.replicate (F.length + G.length - 1) fz)
end Cl

namespace Cl
open PySem PySem.Spec PyProof.Rows L2
/-! ### a table that tells sums, differences, products, quotients of fractions quickly -/
def toF (a : Int) (b : Int) : FQ := match a, b with
  | .ofNat n, .ofNat d => ⟨false, n, d⟩
  | .negSucc n, .ofNat d => ⟨true, n + 1, d⟩
  | _, _ => ⟨false, 0, 0⟩
def isPos (b : Int) : Bool := match b with
  | .ofNat n => Nat.ble 1 n
  | .negSucc _ => false
theorem toF_to {a b : Int} (h : isPos b = true) : (toF a b).to = (a, b) := by
  cases b with
  | ofNat n => cases a <;> simp [toF, FQ.to] <;> omega
  | negSucc n => simp [isPos] at h
def fD (a : FQ) : D := qD a.to
def fNeg (a : FQ) : FQ := ⟨!a.s, a.n, a.d⟩
/-- the four words of arithmetic, told by their places -/
def frT (is il ip io : Nat) (f : Nat) (args : List D) : Option D :=
  match args with
  | [.tup [.int a, .int b], .tup [.int c, .int d]] => cond (isPos b && isPos d)
    (cond (Nat.beq f is) ((fSum (toF a b) (toF c d)).map fD)
      (cond (Nat.beq f il) ((fSum (toF a b) (fNeg (toF c d))).map fD)
        (cond (Nat.beq f ip) ((fProd (toF a b) (toF c d)).map fD)
          (cond (Nat.beq f io && isPos c) ((fProd (toF a b) (toF d c)).map fD) none)))) none
  | _ => none
theorem less_neg {p q : Q2} {r : Q2} (h : sumM p (-q.1, q.2) = some r) : lessM p q = some r := by
  simp only [sumM, lessM, Option.bind_eq_some_iff] at h ⊢
  obtain ⟨x, hx, y, hy, z, hz, h⟩ := h
  refine ⟨x, hx, -y, ?_, z, hz, ?_⟩
  · unfold mulM at hy ⊢
    have hb : bitsI (-q.1) = bitsI q.1 := by unfold bitsI Builtin.Int.intBits; simp
    split at hy
    · rename_i c
      cases hy
      rw [if_pos (by unfold mulOk at c ⊢; rw [hb] at c; exact c)]
      congr 1
      rw [Int.neg_mul, Int.neg_neg]
    · cases hy
  · rw [show x - -y = x + y by omega]; exact h
theorem prod_over {p : Q2} {c d : Int} {r : Q2} (h : prodM p (d, c) = some r) : overM p (c, d) = some r := by
  simp only [prodM, overM, Option.bind_eq_some_iff] at h ⊢
  exact h
theorem fNeg_to (a : FQ) : (fNeg a).to = (-a.to.1, a.to.2) := by
  unfold fNeg FQ.to
  cases a.s <;> simp
theorem isPos_ne {c : Int} (h : isPos c = true) : c ≠ 0 := by
  cases c with
  | ofNat n =>
    simp only [isPos] at h
    have := Nat.le_of_ble_eq_true h
    simp; omega
  | negSucc n => simp [isPos] at h
theorem frT_at {C : Caller} {is il ip io : Nat} (hs : ∀ (p q r : Q2) (h : Hc), sumM p q = some r → C is [qD p, qD q] h = .ok (qD r) h) (hl : ∀ (p q r : Q2) (h : Hc), lessM p q = some r → C il [qD p, qD q] h = .ok (qD r) h) (hp : ∀ (p q r : Q2) (h : Hc), prodM p q = some r → C ip [qD p, qD q] h = .ok (qD r) h) (ho : ∀ (p q r : Q2) (h : Hc), q.1 ≠ 0 → overM p q = some r → C io [qD p, qD q] h = .ok (qD r) h) {f : Nat} {args : List D} {v : D} {h : Hc} (e : frT is il ip io f args = some v) : C f args h = .ok v h := by
  unfold frT at e
  split at e
  · rename_i a b c d
    cases hb : (isPos b && isPos d) with
    | false => rw [hb] at e; cases e
    | true =>
      rw [hb, cond_true] at e
      rw [Bool.and_eq_true] at hb
      have e1 := toF_to (a := a) hb.1
      have e2 := toF_to (a := c) hb.2
      cases k1 : Nat.beq f is with
      | true =>
        rw [k1, cond_true, Option.map_eq_some_iff] at e
        obtain ⟨r, hr, rfl⟩ := e
        have := fSum_sum hr
        rw [e1, e2] at this
        rw [Nat.eq_of_beq_eq_true k1]
        exact hs (a, b) (c, d) _ h this
      | false =>
        rw [k1, cond_false] at e
        cases k2 : Nat.beq f il with
        | true =>
          rw [k2, cond_true, Option.map_eq_some_iff] at e
          obtain ⟨r, hr, rfl⟩ := e
          have := fSum_sum hr
          rw [fNeg_to, e1, e2] at this
          rw [Nat.eq_of_beq_eq_true k2]
          exact hl (a, b) (c, d) _ h (less_neg this)
        | false =>
          rw [k2, cond_false] at e
          cases k3 : Nat.beq f ip with
          | true =>
            rw [k3, cond_true, Option.map_eq_some_iff] at e
            obtain ⟨r, hr, rfl⟩ := e
            have := fProd_prod hr
            rw [e1, e2] at this
            rw [Nat.eq_of_beq_eq_true k3]
            exact hp (a, b) (c, d) _ h this
          | false =>
            rw [k3, cond_false] at e
            cases k4 : (Nat.beq f io && isPos c) with
            | false => rw [k4] at e; cases e
            | true =>
              rw [k4, cond_true, Option.map_eq_some_iff] at e
              obtain ⟨r, hr, rfl⟩ := e
              rw [Bool.and_eq_true] at k4
              have e3 := toF_to (a := d) k4.2
              have := fProd_prod hr
              rw [e1, e3] at this
              rw [Nat.eq_of_beq_eq_true k4.1]
              exact ho (a, b) (c, d) _ h (isPos_ne k4.2) (prod_over this)
  · cases e
/-- lowest terms, told quickly: the word at il of a pair of ints -/
def lowT (il : Nat) (f : Nat) (args : List D) : Option D :=
  match args with
  | [.int a, .int b] => cond (isPos b && Nat.beq f il && Nat.ble (toF a b).n fB && Nat.ble (toF a b).d fB) (some (fD (fLow (toF a b).s (toF a b).n (toF a b).d))) none
  | _ => none
theorem lowT_at {C : Caller} {il : Nat} (hl : ∀ (a b : Int) (q : Q2) (h : Hc), b ≠ 0 → lowM a b = some q → C il [.int a, .int b] h = .ok (qD q) h) {f : Nat} {args : List D} {v : D} {h : Hc} (e : lowT il f args = some v) : C f args h = .ok v h := by
  unfold lowT at e
  split at e
  · rename_i a b
    obtain ⟨k, e⟩ := cond_some e
    cases e
    simp only [Bool.and_eq_true] at k
    obtain ⟨⟨⟨k1, k2⟩, k3⟩, k4⟩ := k
    have e1 := toF_to (a := a) k1
    have hp : 1 ≤ (toF a b).d := by
      have h2 : ((toF a b).to).2 = b := by rw [e1]
      have h3 : ((toF a b).d : Int) = b := h2
      have := isPos_ne k1
      cases b with
      | ofNat n => simp only [isPos] at k1; have := Nat.le_of_ble_eq_true k1; have h3 : ((toF a (Int.ofNat n)).d : Int) = (n : Int) := h3; omega
      | negSucc n => simp [isPos] at k1
    have := fLow_low (s := (toF a b).s) (Nat.le_of_ble_eq_true k3) (Nat.le_of_ble_eq_true k4) hp
    have h5 : (sI (toF a b).s (toF a b).n, ((toF a b).d : Int)) = (a, b) := e1
    simp only [Prod.mk.injEq] at h5
    rw [h5.1, h5.2] at this
    rw [Nat.eq_of_beq_eq_true k2]
    exact hl a b _ h (isPos_ne k1) this
  · cases e
def orT (T1 T2 : Nat → List D → Option D) (f : Nat) (args : List D) : Option D :=
  match T1 f args with
  | some v => some v
  | none => T2 f args
theorem orT_ok {T1 T2 : Nat → List D → Option D} {P : Pg} {k : Nat} (h1 : TOk T1 P k) (h2 : TOk T2 P k) : TOk (orT T1 T2) P k := by
  intro f args v h e
  unfold orT at e
  cases e1 : T1 f args with
  | some w => rw [e1] at e; cases e; exact h1 f args _ h e1
  | none => rw [e1] at e; exact h2 f args v h e
/-- a run's value, with a test of it -/
def runEx (T : Nat → List D → Option D) (P : Pg) (n f : Nat) (args : List D) (p : D → Bool) : Bool :=
  D.nrs args && (match callT T P n f args [] with | .ok w [] => w.nr && p w | _ => false)
theorem runEx_at {T : Nat → List D → Option D} {P : Pg} {k : Nat} (hP : P.nr = true) (H : TOk T P k) {n f : Nat} {args : List D} {p : D → Bool} (e : runEx T P n f args p = true) {m : Nat} (hm : n + k ≤ m) : ∃ v, p v = true ∧ v.nr = true ∧ ∀ h, callN P m f args h = .ok v h := by
  simp only [runEx, Bool.and_eq_true] at e
  obtain ⟨e1, e2⟩ := e
  cases hc : callT T P n f args [] with
  | ok w h' =>
    rw [hc] at e2
    cases h' with
    | nil =>
      simp only [Bool.and_eq_true] at e2
      refine ⟨w, e2.2, e2.1, fun h => runT_at hP H (n := n) (f := f) (args := args) ?_ hm h⟩
      simp only [runT, Bool.and_eq_true]
      refine ⟨⟨e1, e2.1⟩, ?_⟩
      rw [hc]
      exact D.beq_refl w
    | cons a b => exact absurd e2 (by simp)
  | exc x h' => rw [hc] at e2; exact absurd e2 (by simp)
  | stuck => rw [hc] at e2; exact absurd e2 (by simp)
end Cl

namespace Cl
open PySem PySem.Spec PyProof.Rows L2
/-! ### the laws' own fractions: _law_common, _law_ratio, _law_plus, _law_minus, _law_times -/
def BL_comL : CSs := (.cons (.asg (.t (.cons (.v 0) (.cons (.v 1) .nil))) (.tup (.cons (.var 1) (.cons (.bin .Mod (.bi .int (.cons (.var 0) .nil)) (.var 1)) .nil)))) .nil)
def BD_comL : CDef := ⟨2, 2, (.cons (.whl (.cmp .NotEq (.var 1) (.cst (.int 0))) BL_comL) (.cons (.ret (.bi .abs (.cons (.var 0) .nil))) .nil))⟩
theorem eMeas_lt2 {x y : Nat} (hx : x.log2 < 100000000) (hy : y.log2 < 100000000) : eMeas x y < 900000000 := by
  unfold eMeas
  split
  · omega
  · by_cases h0 : x = 0
    · subst h0
      rw [Nat.zero_mul, show Nat.log2 0 = 0 from by decide]
      split <;> omega
    · rename_i hy0
      have h1 := (Nat.log2_lt h0).mp (Nat.lt_succ_self _)
      have h2 := (Nat.log2_lt hy0).mp (Nat.lt_succ_self _)
      have h3 : x * y < 2 ^ ((x.log2 + 1) + (y.log2 + 1)) := by
        rw [Nat.pow_add]
        exact Nat.mul_lt_mul'' h1 h2
      have h4 := (Nat.log2_lt (Nat.mul_ne_zero h0 hy0)).mpr h3
      split <;> omega
theorem eMeas_self {b r : Nat} (h : r < b) : eMeas b r < eMeas b b + 1 := by
  unfold eMeas
  rw [if_neg (by omega : ¬ b = 0)]
  split
  · omega
  · rw [if_neg (by omega), if_neg (by omega)]
    have : (b * r).log2 ≤ (b * b).log2 := by
      by_cases h0 : b * r = 0
      · rw [h0, show Nat.log2 0 = 0 from by decide]; omega
      · rw [Nat.le_log2 (by have := Nat.mul_pos (by omega : 0 < b) (by omega : 0 < b); omega)]
        exact Nat.le_trans (Nat.log2_self_le h0) (Nat.mul_le_mul_left _ (by omega))
    omega
theorem gcd_step (a : Int) (b : Nat) : Nat.gcd b (a.emod b).natAbs = Nat.gcd a.natAbs b := by
  have h1 : Int.gcd (b : Int) (a % (b : Int)) = Int.gcd a b := by
    rw [Int.emod_def, Int.gcd_comm a b, Int.sub_eq_add_neg, ← Int.mul_neg]
    exact Int.gcd_add_mul_left_right ..
  have h2 : a.emod (b : Int) = a % (b : Int) := rfl
  rw [h2]
  simpa [Int.gcd] using h1
def mI (a : Int) (b : Nat) : Nat := if 0 ≤ a then eMeas a.natAbs b else if b = 0 then 0 else eMeas b b + 1
theorem run_comL {P : Pg} {i : Nat} (hd : P.defs[i]? = some BD_comL) {n : Nat} {h : Hc} {a b : Int} (hb : 0 ≤ b) (hs : smallG a b = true) : callN P (n + 1) i [.int a, .int b] h = .ok (.int (Nat.gcd a.natAbs b.natAbs : Nat)) h := by
  simp only [smallG, Bool.and_eq_true, decide_eq_true_eq] at hs
  obtain ⟨c, rfl⟩ := Int.eq_ofNat_of_zero_le hb
  rw [Int.natAbs_natCast] at hs ⊢
  have hm : mI a c < 1000000000 := by
    unfold mI
    split
    · exact eMeas_lt hs.1 hs.2
    · split
      · omega
      · have := eMeas_lt2 hs.2 hs.2; omega
  have e2 : ∃ x : Int, x.natAbs = Nat.gcd a.natAbs c ∧ evS ⟨callN P n, P.sub⟩ (.whl (.cmp .NotEq (.var 1) (.cst (.int 0))) BL_comL) [some (.int a), some (.int (c : Nat))] h = .ok (.nx [some (.int x), some (.int 0)]) h := by
    refine whS (P := ⟨callN P n, P.sub⟩) (fun m σ H => ∃ (x : Int) (y : Nat), σ = [some (.int x), some (.int (y : Nat))] ∧ H = h ∧ Nat.gcd x.natAbs y = Nat.gcd a.natAbs c ∧ m = mI x y) (fun r => ∃ x : Int, x.natAbs = Nat.gcd a.natAbs c ∧ r = .ok (.nx [some (.int x), some (.int 0)]) h) (fun m σ H I => ?_) (mI a c) hm ⟨a, c, rfl, rfl, rfl, rfl⟩
    obtain ⟨x, y, rfl, rfl, hg, rfl⟩ := I
    have ht : evE (callN P n) (.cmp .NotEq (.var 1) (.cst (.int 0))) [some (.int x), some (.int (y : Nat))] H = .ok (.bl (!decide ((y : Int) = 0))) H := ev_cmp (ev_var rfl) ev_cst rfl
    by_cases hy : y = 0
    · left
      subst hy
      rw [Nat.gcd_zero_right] at hg
      exact ⟨H, by rw [show evE (callN P n) (.cmp .NotEq (.var 1) (.cst (.int 0))) [some (.int x), some (.int ((0 : Nat) : Int))] H = _ from ht]; rfl, x, hg, rfl⟩
    · right
      have he : (x.emod y) = ((x.emod y).natAbs : Nat) := by
        have := Int.emod_nonneg x (b := (y : Int)) (by omega)
        show x % (y : Int) = _
        have h2 : x.emod y = x % (y : Int) := rfl
        rw [h2]; omega
      refine ⟨H, [some (.int (y : Nat)), some (.int ((x.emod y).natAbs : Nat))], H, ?_, ?_, mI (y : Nat) (x.emod y).natAbs, ?_, (y : Int), (x.emod y).natAbs, rfl, rfl, ?_, rfl⟩
      · rw [show evE (callN P n) (.cmp .NotEq (.var 1) (.cst (.int 0))) [some (.int x), some (.int (y : Nat))] H = _ from ht, decide_eq_false (by omega)]; rfl
      · unfold BL_comL
        refine (seqN (asgE (ev_t2 (ev_var rfl) (ev_bin (op := .Mod) (z := .int (x.fmod y)) (ev_bi1 (ev_var rfl) rfl) (ev_var rfl) (by simp only [binF, int2]; rw [if_neg (by omega)]; rfl))) rfl)).trans ?_
        rw [Int.fmod_eq_emod_of_nonneg _ (by omega), show x % (y : Int) = x.emod y from rfl, he]
        simp only [ES]; all_goals rfl
      · have hlt : (x.emod y).natAbs < y := by
          have := Int.emod_lt_of_pos x (b := (y : Int)) (by omega)
          have h2 : x.emod y = x % (y : Int) := rfl
          have := Int.emod_nonneg x (b := (y : Int)) (by omega)
          rw [h2]; omega
        unfold mI
        rw [if_pos (by omega), Int.natAbs_natCast]
        split
        · rename_i hx
          have h3 : (x.emod y).natAbs = x.natAbs % y := by
            obtain ⟨k, rfl⟩ := Int.eq_ofNat_of_zero_le hx
            show ((k : Int) % (y : Int)).natAbs = _
            rw [← Int.natCast_emod, Int.natAbs_natCast, Int.natAbs_natCast]
          rw [h3]
          exact eMeas_step hy
        · exact eMeas_self hlt
      · rw [Int.natAbs_natCast, gcd_step, hg]
  obtain ⟨x, hx, e2⟩ := e2
  refine call_rtp (d := BD_comL) (b := BD_comL.body) (σ := [some (.int a), some (.int (c : Nat))]) hd rfl rfl rfl ?_
  refine (seqN e2).trans (seqR (retE (ev_bi1 (ev_var rfl) ?_)))
  simp only [biF]
  rw [absD, hx]
def BD_ratL (ic : Nat) : CDef := ⟨3, 2, (.cons (.asg (.v 2) (.call ic (.cons (.var 0) (.cons (.var 1) .nil)))) (.cons (.ret (.ite (.cmp .Gt (.var 1) (.cst (.int 0))) (.tup (.cons (.bin .FloorDiv (.var 0) (.var 2)) (.cons (.bin .FloorDiv (.var 1) (.var 2)) .nil))) (.tup (.cons (.bin .FloorDiv (.neg (.var 0)) (.var 2)) (.cons (.bin .FloorDiv (.neg (.var 1)) (.var 2)) .nil))))) .nil))⟩
theorem run_ratL {P : Pg} {i ic : Nat} (hd : P.defs[i]? = some (BD_ratL ic)) (hc : P.defs[ic]? = some BD_comL) {n : Nat} {h : Hc} {a b : Int} {q : Q2} (hb : 0 < b) (hq : lowM a b = some q) : callN P (n + 2) i [.int a, .int b] h = .ok (qD q) h := by
  unfold lowM at hq
  split at hq
  · rename_i k
    rw [Bool.and_eq_true] at k
    cases hq
    refine call_rtp (d := BD_ratL ic) (b := (BD_ratL ic).body) (σ := [some (.int a), some (.int b), none]) hd rfl rfl rfl ?_
    have hg : sgcd a b = ((Nat.gcd a.natAbs b.natAbs : Nat) : Int) := if_neg (by omega)
    rw [hg] at k ⊢
    refine (seqN (asgV ((ev_c2 (ev_var rfl) (ev_var rfl)).trans (run_comL hc (n := n) (by omega) k.1)))).trans ?_
    refine seqR (retE ?_)
    have ec : evE (callN P (n + 1)) (.cmp .Gt (.var 1) (.cst (.int 0))) [some (.int a), some (.int b), some (.int (Nat.gcd a.natAbs b.natAbs : Nat))] h = .ok (.bl true) h := ev_cmp (ev_var rfl) ev_cst (by show some (decide ((0 : Int) < b)) = _; rw [decide_eq_true hb])
    refine (ev_ite ec).trans ?_
    rw [if_pos rfl]
    exact ev_t2 (ev_bin (op := .FloorDiv) (ev_var rfl) (ev_var rfl) (binDiv (by unfold divM; rw [if_pos k.2]))) (ev_bin (op := .FloorDiv) (ev_var rfl) (ev_var rfl) (binDiv (by unfold divM; rw [if_pos k.2])))
  · cases hq
def tstL : CE := .and_ (.cmp .Eq (ixE 0 1) (.cst (.int 1))) (.cmp .Eq (ixE 1 1) (.cst (.int 1)))
def BD_plusL (il : Nat) : CDef := ⟨2, 2, (.cons (.ifs tstL (.cons (.ret (.tup (.cons (.bin .Add (ixE 0 0) (ixE 1 0)) (.cons (.cst (.int 1)) .nil)))) .nil) .nil) (.cons (.ret (.call il (.cons (.bin .Add (.bin .Mult (ixE 0 0) (ixE 1 1)) (.bin .Mult (ixE 1 0) (ixE 0 1))) (.cons (.bin .Mult (ixE 0 1) (ixE 1 1)) .nil)))) .nil))⟩
def BD_timesL (il : Nat) : CDef := ⟨2, 2, (.cons (.ifs tstL (.cons (.ret (.tup (.cons (.bin .Mult (ixE 0 0) (ixE 1 0)) (.cons (.cst (.int 1)) .nil)))) .nil) .nil) (.cons (.ret (.call il (.cons (.bin .Mult (ixE 0 0) (ixE 1 0)) (.cons (.bin .Mult (ixE 0 1) (ixE 1 1)) .nil)))) .nil))⟩
def BD_minusL (ip : Nat) : CDef := ⟨2, 2, (.cons (.ret (.call ip (.cons (.var 0) (.cons (.tup (.cons (.neg (ixE 1 0)) (.cons (ixE 1 1) .nil))) .nil)))) .nil)⟩
theorem low_one {a : Int} {q : Q2} (h : lowM a 1 = some q) : q = (a, 1) := by
  unfold lowM at h
  split at h
  · cases h
    have : sgcd a 1 = 1 := by unfold sgcd; rw [if_neg (by omega)]; simp
    rw [this]; simp
  · cases h
theorem ev_tst {C : Caller} {p q : Q2} {h : Hc} : evE C tstL [some (qD p), some (qD q)] h = .ok (.bl (decide (p.2 = 1 ∧ q.2 = 1))) h := by
  unfold tstL
  have c1 : evE C (.cmp .Eq (ixE 0 1) (.cst (.int 1))) [some (qD p), some (qD q)] h = .ok (.bl (decide (p.2 = 1))) h := ev_cmp (ev_q1 rfl) ev_cst rfl
  have c2 : evE C (.cmp .Eq (ixE 1 1) (.cst (.int 1))) [some (qD p), some (qD q)] h = .ok (.bl (decide (q.2 = 1))) h := ev_cmp (ev_q1 rfl) ev_cst rfl
  refine (ev_and c1).trans ?_
  by_cases k : p.2 = 1
  · rw [decide_eq_true k, if_pos rfl, c2]
    congr 2
    rw [decide_eq_decide]
    exact ⟨fun x => ⟨k, x⟩, fun x => x.2⟩
  · rw [decide_eq_false k, if_neg (by simp), decide_eq_false (fun x => k x.1)]
abbrev RatC (C : Caller) (il : Nat) : Prop := ∀ (a b : Int) (q : Q2) (h : Hc), 0 < b → lowM a b = some q → C il [.int a, .int b] h = .ok (qD q) h
section
variable {P : Pg} {i il n : Nat} {h : Hc} {p q r : Q2}
theorem mulM_one {a z : Int} (h : mulM a 1 = some z) : z = a := by
  unfold mulM at h
  split at h
  · cases h; omega
  · cases h
theorem mulM_val {a b z : Int} (h : mulM a b = some z) : z = a * b := by
  unfold mulM at h
  split at h
  · cases h; rfl
  · cases h
theorem run_plusL (hd : P.defs[i]? = some (BD_plusL il)) (hl : RatC (callN P n) il) (p0 : 0 < p.2) (q0 : 0 < q.2) (hq : sumM p q = some r) : callN P (n + 1) i [qD p, qD q] h = .ok (qD r) h := by
  simp only [sumM, Option.bind_eq_some_iff] at hq
  obtain ⟨x, hx, y, hy, z, hz, hq⟩ := hq
  refine call_rtp (d := BD_plusL il) (b := (BD_plusL il).body) (σ := [some (qD p), some (qD q)]) hd rfl rfl rfl ?_
  by_cases k : p.2 = 1 ∧ q.2 = 1
  · have ec := ev_tst (C := callN P n) (p := p) (q := q) (h := h)
    rw [decide_eq_true k] at ec
    refine (seqR (d := qD r) (h' := h) ?_)
    rw [ifT (P := ⟨callN P n, P.sub⟩) ec]
    refine seqR (retE ?_)
    rw [k.2] at hx hz
    rw [k.1] at hy hz
    have e1 := mulM_one hx
    have e2 := mulM_one hy
    have e3 := mulM_one hz
    subst e1 e2 e3
    rw [low_one hq]
    exact ev_t2 (ev_bin (op := .Add) (ev_q0 rfl) (ev_q0 rfl) rfl) ev_cst
  · have ec := ev_tst (C := callN P n) (p := p) (q := q) (h := h)
    rw [decide_eq_false k] at ec
    refine (seqN (σ' := [some (qD p), some (qD q)]) (h' := h) (by rw [ifF (P := ⟨callN P n, P.sub⟩) ec]; simp only [ES])).trans ?_
    exact seqR (retE ((ev_c2 (ev_bin (op := .Add) (z := .int (x + y)) (ev_bin (ev_q0 rfl) (ev_q1 rfl) (binMul hx)) (ev_bin (ev_q0 rfl) (ev_q1 rfl) (binMul hy)) rfl) (ev_bin (ev_q1 rfl) (ev_q1 rfl) (binMul hz))).trans (hl _ _ _ _ (by rw [mulM_val hz]; exact Int.mul_pos p0 q0) hq)))
theorem run_timesL (hd : P.defs[i]? = some (BD_timesL il)) (hl : RatC (callN P n) il) (p0 : 0 < p.2) (q0 : 0 < q.2) (hq : prodM p q = some r) : callN P (n + 1) i [qD p, qD q] h = .ok (qD r) h := by
  simp only [prodM, Option.bind_eq_some_iff] at hq
  obtain ⟨x, hx, y, hy, hq⟩ := hq
  refine call_rtp (d := BD_timesL il) (b := (BD_timesL il).body) (σ := [some (qD p), some (qD q)]) hd rfl rfl rfl ?_
  by_cases k : p.2 = 1 ∧ q.2 = 1
  · have ec := ev_tst (C := callN P n) (p := p) (q := q) (h := h)
    rw [decide_eq_true k] at ec
    refine (seqR (d := qD r) (h' := h) ?_)
    rw [ifT (P := ⟨callN P n, P.sub⟩) ec]
    refine seqR (retE ?_)
    rw [k.2, k.1] at hy
    have e1 := mulM_one hy
    subst e1
    rw [low_one hq]
    exact ev_t2 (ev_bin (op := .Mult) (ev_q0 rfl) (ev_q0 rfl) (binMul hx)) ev_cst
  · have ec := ev_tst (C := callN P n) (p := p) (q := q) (h := h)
    rw [decide_eq_false k] at ec
    refine (seqN (σ' := [some (qD p), some (qD q)]) (h' := h) (by rw [ifF (P := ⟨callN P n, P.sub⟩) ec]; simp only [ES])).trans ?_
    exact seqR (retE ((ev_c2 (ev_bin (ev_q0 rfl) (ev_q0 rfl) (binMul hx)) (ev_bin (ev_q1 rfl) (ev_q1 rfl) (binMul hy))).trans (hl _ _ _ _ (by rw [mulM_val hy]; exact Int.mul_pos p0 q0) hq)))
theorem run_minusL {ip : Nat} (hd : P.defs[i]? = some (BD_minusL ip)) (hl : ∀ (p q r : Q2) (h : Hc), 0 < p.2 → 0 < q.2 → sumM p q = some r → callN P n ip [qD p, qD q] h = .ok (qD r) h) (p0 : 0 < p.2) (q0 : 0 < q.2) (hq : sumM p (-q.1, q.2) = some r) : callN P (n + 1) i [qD p, qD q] h = .ok (qD r) h := by
  refine call_rtp (d := BD_minusL ip) (b := (BD_minusL ip).body) (σ := [some (qD p), some (qD q)]) hd rfl rfl rfl ?_
  exact seqR (retE ((ev_c2 (ev_var rfl) (ev_t2 (ev_neg (ev_q0 rfl)) (ev_q1 rfl))).trans (hl p (-q.1, q.2) r h p0 q0 hq)))
end
/-- the same, told -/
def frL (is il ip : Nat) (f : Nat) (args : List D) : Option D :=
  match args with
  | [.tup [.int a, .int b], .tup [.int c, .int d]] => cond (isPos b && isPos d)
    (cond (Nat.beq f is) ((fSum (toF a b) (toF c d)).map fD)
      (cond (Nat.beq f il) ((fSum (toF a b) (fNeg (toF c d))).map fD)
        (cond (Nat.beq f ip) ((fProd (toF a b) (toF c d)).map fD) none))) none
  | _ => none
theorem isPos_lt {c : Int} (h : isPos c = true) : 0 < c := by
  cases c with
  | ofNat n =>
    simp only [isPos] at h
    have := Nat.le_of_ble_eq_true h
    simp; omega
  | negSucc n => simp [isPos] at h
theorem frL_at {C : Caller} {is il ip : Nat} (hs : ∀ (p q r : Q2) (h : Hc), 0 < p.2 → 0 < q.2 → sumM p q = some r → C is [qD p, qD q] h = .ok (qD r) h) (hl : ∀ (p q r : Q2) (h : Hc), 0 < p.2 → 0 < q.2 → sumM p (-q.1, q.2) = some r → C il [qD p, qD q] h = .ok (qD r) h) (hp : ∀ (p q r : Q2) (h : Hc), 0 < p.2 → 0 < q.2 → prodM p q = some r → C ip [qD p, qD q] h = .ok (qD r) h) {f : Nat} {args : List D} {v : D} {h : Hc} (e : frL is il ip f args = some v) : C f args h = .ok v h := by
  unfold frL at e
  split at e
  · rename_i a b c d
    cases hb : (isPos b && isPos d) with
    | false => rw [hb] at e; cases e
    | true =>
      rw [hb, cond_true] at e
      rw [Bool.and_eq_true] at hb
      have e1 := toF_to (a := a) hb.1
      have e2 := toF_to (a := c) hb.2
      have b1 := isPos_lt hb.1
      have b2 := isPos_lt hb.2
      cases k1 : Nat.beq f is with
      | true =>
        rw [k1, cond_true, Option.map_eq_some_iff] at e
        obtain ⟨r, hr, rfl⟩ := e
        have := fSum_sum hr
        rw [e1, e2] at this
        rw [Nat.eq_of_beq_eq_true k1]
        exact hs (a, b) (c, d) _ h b1 b2 this
      | false =>
        rw [k1, cond_false] at e
        cases k2 : Nat.beq f il with
        | true =>
          rw [k2, cond_true, Option.map_eq_some_iff] at e
          obtain ⟨r, hr, rfl⟩ := e
          have := fSum_sum hr
          rw [fNeg_to, e1, e2] at this
          rw [Nat.eq_of_beq_eq_true k2]
          exact hl (a, b) (c, d) _ h b1 b2 this
        | false =>
          rw [k2, cond_false] at e
          cases k3 : Nat.beq f ip with
          | true =>
            rw [k3, cond_true, Option.map_eq_some_iff] at e
            obtain ⟨r, hr, rfl⟩ := e
            have := fProd_prod hr
            rw [e1, e2] at this
            rw [Nat.eq_of_beq_eq_true k3]
            exact hp (a, b) (c, d) _ h b1 b2 this
          | false => rw [k3] at e; cases e
  · cases e
/-- the common divisor, told: the second place above 0 -/
def comT (ic : Nat) (f : Nat) (args : List D) : Option D :=
  match args with
  | [.int a, .int b] => cond (isPos b && Nat.beq f ic && Nat.ble a.natAbs fB && Nat.ble b.natAbs fB) (some (.int (Nat.gcd a.natAbs b.natAbs : Nat))) none
  | _ => none
theorem comT_at {P : Pg} {ic n : Nat} (hd : P.defs[ic]? = some BD_comL) {f : Nat} {args : List D} {v : D} {h : Hc} (e : comT ic f args = some v) : callN P (n + 1) f args h = .ok v h := by
  unfold comT at e
  split at e
  · rename_i a b
    obtain ⟨k, e⟩ := cond_some e
    cases e
    simp only [Bool.and_eq_true] at k
    obtain ⟨⟨⟨k1, k2⟩, k3⟩, k4⟩ := k
    rw [Nat.eq_of_beq_eq_true k2]
    refine run_comL hd (Int.le_of_lt (isPos_lt k1)) ?_
    unfold smallG
    have h1 := fB_log (Nat.le_of_ble_eq_true k3)
    have h2 := fB_log (Nat.le_of_ble_eq_true k4)
    rw [decide_eq_true (by omega), decide_eq_true (by omega)]; rfl
  · cases e
/-- lowest terms, told, the second place above 0 -/
theorem lowT_pos {C : Caller} {il : Nat} (hl : RatC C il) {f : Nat} {args : List D} {v : D} {h : Hc} (e : lowT il f args = some v) : C f args h = .ok v h := by
  have e0 := e
  unfold lowT at e
  split at e
  · rename_i a b
    obtain ⟨k, e⟩ := cond_some e
    simp only [Bool.and_eq_true] at k
    have e' := e
    cases e
    have hb := isPos_lt k.1.1.1
    have e1 := toF_to (a := a) k.1.1.1
    have hp : 1 ≤ (toF a b).d := by
      have h2 : ((toF a b).to).2 = b := by rw [e1]
      have h3 : ((toF a b).d : Int) = b := h2
      omega
    have := fLow_low (s := (toF a b).s) (Nat.le_of_ble_eq_true k.1.2) (Nat.le_of_ble_eq_true k.2) hp
    have h5 : (sI (toF a b).s (toF a b).n, ((toF a b).d : Int)) = (a, b) := e1
    simp only [Prod.mk.injEq] at h5
    rw [h5.1, h5.2] at this
    rw [Nat.eq_of_beq_eq_true k.1.1.2]
    exact hl a b _ h hb this
  · cases e
end Cl

namespace Cl
open PySem PySem.Spec PyProof.Rows L2
def b_is_integer : CSs := (.cons (.ret (.and_ (.isin (.var 0) [.int]) (.not_ (.isin (.var 0) [.bool])))) .nil)
def d_is_integer : CDef := ⟨1, 1, b_is_integer⟩
abbrev i_is_integer : Nat := 0
def L_raised_to_0 : CSs := (.cons (.ifs (.cmp .Eq (.bin .Mod (.var 1) (.cst (.int 2))) (.cst (.int 1))) (.cons (.asg (.v 2) (.bin .Mult (.var 2) (.var 3))) .nil) .nil) (.cons (.aug 1 .FloorDiv (.cst (.int 2))) (.cons (.ifs (.cmp .Gt (.var 1) (.cst (.int 0))) (.cons (.asg (.v 3) (.bin .Mult (.var 3) (.var 3))) .nil) .nil) .nil)))
def b_raised_to : CSs := (.cons (.asg (.t (.cons (.v 2) (.cons (.v 3) .nil))) (.tup (.cons (.cst (.int 1)) (.cons (.var 0) .nil)))) (.cons (.whl (.cmp .Gt (.var 1) (.cst (.int 0))) L_raised_to_0) (.cons (.ret (.var 2)) .nil)))
def d_raised_to : CDef := ⟨4, 2, b_raised_to⟩
abbrev i_raised_to : Nat := 1
def L_greatest_common_0 : CSs := (.cons (.asg (.t (.cons (.v 0) (.cons (.v 1) .nil))) (.tup (.cons (.var 1) (.cons (.bin .Mod (.var 0) (.var 1)) .nil)))) .nil)
def b_greatest_common : CSs := (.cons (.asg (.t (.cons (.v 0) (.cons (.v 1) .nil))) (.tup (.cons (.bi .abs (.cons (.var 0) .nil)) (.cons (.bi .abs (.cons (.var 1) .nil)) .nil)))) (.cons (.whl (.cmp .NotEq (.var 1) (.cst (.int 0))) L_greatest_common_0) (.cons (.ret (.var 0)) .nil)))
def d_greatest_common : CDef := ⟨2, 2, b_greatest_common⟩
abbrev i_greatest_common : Nat := 2
def L_factorial_of_0 : CSs := (.cons (.asg (.v 1) (.bin .Mult (.var 1) (.var 2))) .nil)
def b_factorial_of : CSs := (.cons (.asg (.v 1) (.cst (.int 1))) (.cons (.for_ (.v 2) (.rng2 (.cst (.int 2)) (.bin .Add (.var 0) (.cst (.int 1)))) L_factorial_of_0) (.cons (.ret (.var 1)) .nil)))
def d_factorial_of : CDef := ⟨3, 1, b_factorial_of⟩
abbrev i_factorial_of : Nat := 3
def L_chosen_of_0 : CSs := (.cons (.asg (.v 2) (.bin .FloorDiv (.bin .Mult (.var 2) (.bin .Sub (.var 0) (.var 3))) (.bin .Add (.var 3) (.cst (.int 1))))) .nil)
def b_chosen_of : CSs := (.cons (.ifs (.cmp .Gt (.var 1) (.var 0)) (.cons (.ret (.cst (.int 0))) .nil) .nil) (.cons (.asg (.v 2) (.cst (.int 1))) (.cons (.for_ (.v 3) (.rng1 (.var 1)) L_chosen_of_0) (.cons (.ret (.var 2)) .nil))))
def d_chosen_of : CDef := ⟨4, 2, b_chosen_of⟩
abbrev i_chosen_of : Nat := 4
def b_lowest : CSs := (.cons (.asg (.v 2) (.call 2 (.cons (.var 0) (.cons (.var 1) .nil)))) (.cons (.ifs (.cmp .Lt (.var 1) (.cst (.int 0))) (.cons (.asg (.v 2) (.neg (.var 2))) .nil) .nil) (.cons (.ret (.tup (.cons (.bin .FloorDiv (.var 0) (.var 2)) (.cons (.bin .FloorDiv (.var 1) (.var 2)) .nil)))) .nil)))
def d_lowest : CDef := ⟨3, 2, b_lowest⟩
abbrev i_lowest : Nat := 5
def b_ratio : CSs := (.cons (.ifs (.or_ (.not_ (.call 0 (.cons (.var 0) .nil))) (.or_ (.not_ (.call 0 (.cons (.var 1) .nil))) (.cmp .Eq (.var 1) (.cst (.int 0))))) (.cons (.raise 1 .absent) .nil) .nil) (.cons (.ret (.call 5 (.cons (.var 0) (.cons (.var 1) .nil)))) .nil))
def d_ratio : CDef := ⟨2, 2, b_ratio⟩
abbrev i_ratio : Nat := 6
def b_ratio_sum : CSs := (.cons (.ret (.call 5 (.cons (.bin .Add (.bin .Mult (.idx (.var 0) (.cst (.int 0))) (.idx (.var 1) (.cst (.int 1)))) (.bin .Mult (.idx (.var 1) (.cst (.int 0))) (.idx (.var 0) (.cst (.int 1))))) (.cons (.bin .Mult (.idx (.var 0) (.cst (.int 1))) (.idx (.var 1) (.cst (.int 1)))) .nil)))) .nil)
def d_ratio_sum : CDef := ⟨2, 2, b_ratio_sum⟩
abbrev i_ratio_sum : Nat := 7
def b_ratio_less : CSs := (.cons (.ret (.call 5 (.cons (.bin .Sub (.bin .Mult (.idx (.var 0) (.cst (.int 0))) (.idx (.var 1) (.cst (.int 1)))) (.bin .Mult (.idx (.var 1) (.cst (.int 0))) (.idx (.var 0) (.cst (.int 1))))) (.cons (.bin .Mult (.idx (.var 0) (.cst (.int 1))) (.idx (.var 1) (.cst (.int 1)))) .nil)))) .nil)
def d_ratio_less : CDef := ⟨2, 2, b_ratio_less⟩
abbrev i_ratio_less : Nat := 8
def b_ratio_product : CSs := (.cons (.ret (.call 5 (.cons (.bin .Mult (.idx (.var 0) (.cst (.int 0))) (.idx (.var 1) (.cst (.int 0)))) (.cons (.bin .Mult (.idx (.var 0) (.cst (.int 1))) (.idx (.var 1) (.cst (.int 1)))) .nil)))) .nil)
def d_ratio_product : CDef := ⟨2, 2, b_ratio_product⟩
abbrev i_ratio_product : Nat := 9
def b_ratio_over : CSs := (.cons (.ifs (.cmp .Eq (.idx (.var 1) (.cst (.int 0))) (.cst (.int 0))) (.cons (.raise 1 .absent) .nil) .nil) (.cons (.ret (.call 5 (.cons (.bin .Mult (.idx (.var 0) (.cst (.int 0))) (.idx (.var 1) (.cst (.int 1)))) (.cons (.bin .Mult (.idx (.var 0) (.cst (.int 1))) (.idx (.var 1) (.cst (.int 0)))) .nil)))) .nil))
def d_ratio_over : CDef := ⟨2, 2, b_ratio_over⟩
abbrev i_ratio_over : Nat := 10
def L_odd_factorial_0 : CSs := (.cons (.asg (.v 1) (.bin .Mult (.var 1) (.bin .Sub (.bin .Mult (.cst (.int 2)) (.var 2)) (.cst (.int 1))))) .nil)
def b_odd_factorial : CSs := (.cons (.asg (.v 1) (.cst (.int 1))) (.cons (.for_ (.v 2) (.rng2 (.cst (.int 1)) (.bin .Add (.var 0) (.cst (.int 1)))) L_odd_factorial_0) (.cons (.ret (.var 1)) .nil)))
def d_odd_factorial : CDef := ⟨3, 1, b_odd_factorial⟩
abbrev i_odd_factorial : Nat := 11
def L_trimmed_0 : CSs := (.cons (.aug 1 .Sub (.cst (.int 1))) .nil)
def b_trimmed : CSs := (.cons (.asg (.v 1) (.bi .len (.cons (.var 0) .nil))) (.cons (.whl (.and_ (.cmp .Gt (.var 1) (.cst (.int 0))) (.cmp .Eq (.idx (.var 0) (.bin .Sub (.var 1) (.cst (.int 1)))) (.cst (.int 0)))) L_trimmed_0) (.cons (.ret (.bi .tuple (.cons (.sl (.var 0) .absent (.var 1)) .nil))) .nil)))
def d_trimmed : CDef := ⟨2, 1, b_trimmed⟩
abbrev i_trimmed : Nat := 12
def L_polygon_row_0 : CSs := (.cons (.asg (.v 6) (.bin .Mult (.bin .Mult (.cst (.int 2)) (.bin .Sub (.bin .Mult (.cst (.int 2)) (.var 5)) (.cst (.int 1)))) (.idx (.var 4) (.bin .Sub (.var 5) (.cst (.int 1)))))) (.cons (.ifs (.and_ (.cmp .Gt (.var 3) (.cst (.int 0))) (.cmp .Gt (.var 5) (.cst (.int 1)))) (.cons (.aug 6 .Add (.bin .Mult (.bin .Mult (.bin .Mult (.bin .Sub (.bin .Mult (.cst (.int 2)) (.var 5)) (.cst (.int 1))) (.bin .Sub (.var 5) (.cst (.int 1)))) (.bin .Sub (.bin .Mult (.cst (.int 2)) (.var 5)) (.cst (.int 3)))) (.idx (.idx (.var 2) (.bin .Sub (.var 3) (.cst (.int 1)))) (.bin .Sub (.var 5) (.cst (.int 2)))))) .nil) .nil) (.cons (.app (.var 4) (.bin .FloorDiv (.var 6) (.bin .Add (.var 5) (.cst (.int 1))))) (.cons (.kill [6]) .nil))))
def L_polygon_row_1 : CSs := (.cons (.scope (.cons (.asg (.v 4) (.cell (.lst (.cons (.bi .int (.cons (.cmp .Eq (.var 3) (.cst (.int 0))) .nil)) .nil)))) (.cons (.for_ (.v 5) (.rng2 (.cst (.int 1)) (.bin .Add (.var 1) (.cst (.int 1)))) L_polygon_row_0) (.cons (.app (.var 2) (.var 4)) (.cons (.kill [4, 5, 6]) .nil))))) .nil)
def b_polygon_row : CSs := (.cons (.asg (.v 2) (.cell (.lst .nil))) (.cons (.for_ (.v 3) (.rng1 (.bin .Add (.var 0) (.cst (.int 1)))) L_polygon_row_1) (.cons (.ret (.var 2)) .nil)))
def d_polygon_row : CDef := ⟨7, 2, b_polygon_row⟩
abbrev i_polygon_row : Nat := 13
def L_without_leaves_0 : CSs := (.cons (.app (.var 1) (.bin .Sub (.var 3) (.bi .sum (.cons (.comp (.bin .Mult (.call 4 (.cons (.bin .Mult (.cst (.int 2)) (.var 2)) (.cons (.var 4) .nil))) (.idx (.var 1) (.bin .Sub (.var 2) (.var 4)))) (.v 4) (.rng2 (.cst (.int 1)) (.bin .Add (.var 2) (.cst (.int 1)))) .absent [4]) .nil)))) .nil)
def b_without_leaves : CSs := (.cons (.asg (.v 1) (.cell (.lst .nil))) (.cons (.for_ (.t (.cons (.v 2) (.cons (.v 3) .nil))) (.enum (.var 0)) L_without_leaves_0) (.cons (.ret (.var 1)) .nil)))
def d_without_leaves : CDef := ⟨5, 1, b_without_leaves⟩
abbrev i_without_leaves : Nat := 14
def L_without_pairs_0 : CSs := (.cons (.app (.var 1) (.bin .Sub (.var 3) (.bi .sum (.cons (.comp (.bin .Mult (.call 4 (.cons (.var 2) (.cons (.var 4) .nil))) (.idx (.var 1) (.bin .Sub (.var 2) (.var 4)))) (.v 4) (.rng2 (.cst (.int 1)) (.bin .Add (.var 2) (.cst (.int 1)))) .absent [4]) .nil)))) .nil)
def b_without_pairs : CSs := (.cons (.asg (.v 1) (.cell (.lst .nil))) (.cons (.for_ (.t (.cons (.v 2) (.cons (.v 3) .nil))) (.enum (.var 0)) L_without_pairs_0) (.cons (.ret (.var 1)) .nil)))
def d_without_pairs : CDef := ⟨5, 1, b_without_pairs⟩
abbrev i_without_pairs : Nat := 15
def b_lean_row : CSs := (.cons (.ret (.call 15 (.cons (.call 14 (.cons (.idx (.call 13 (.cons (.var 0) (.cons (.var 1) .nil))) (.var 0)) .nil)) .nil))) .nil)
def d_lean_row : CDef := ⟨2, 2, b_lean_row⟩
abbrev i_lean_row : Nat := 16
def L_through_values_0 : CSs := (.cons (.app (.var 3) (.idx (.var 2) (.cst (.int 0)))) (.cons (.asg (.v 2) (.comp (.call 8 (.cons (.var 11) (.cons (.var 9) .nil))) (.t (.cons (.v 9) (.cons (.v 11) .nil))) (.zip (.var 2) (.sl (.var 2) (.cst (.int 1)) .absent)) .absent [9, 11])) .nil))
def L_through_values_1 : CSs := (.cons (.sput (.var 4) (.var 8) (.call 7 (.cons (.idx (.var 4) (.var 8)) (.cons (.call 9 (.cons (.var 7) (.cons (.call 10 (.cons (.var 9) (.cons (.tup (.cons (.call 3 (.cons (.var 6) .nil)) (.cons (.cst (.int 1)) .nil))) .nil))) .nil))) .nil)))) .nil)
def L_through_values_2 : CSs := (.cons (.sput (.var 10) (.bin .Add (.var 8) (.cst (.int 1))) (.call 7 (.cons (.idx (.var 10) (.bin .Add (.var 8) (.cst (.int 1)))) (.cons (.var 9) .nil)))) (.cons (.sput (.var 10) (.var 8) (.call 8 (.cons (.idx (.var 10) (.var 8)) (.cons (.call 9 (.cons (.tup (.cons (.var 6) (.cons (.cst (.int 1)) .nil))) (.cons (.var 9) .nil))) .nil)))) .nil))
def L_through_values_3 : CSs := (.cons (.scope (.cons (.for_ (.t (.cons (.v 8) (.cons (.v 9) .nil))) (.enum (.var 5)) L_through_values_1) (.cons (.asg (.v 10) (.cell (.bin .Mult (.lst (.cons (.tup (.cons (.cst (.int 0)) (.cons (.cst (.int 1)) .nil))) .nil)) (.bin .Add (.bi .len (.cons (.var 5) .nil)) (.cst (.int 1)))))) (.cons (.for_ (.t (.cons (.v 8) (.cons (.v 9) .nil))) (.enum (.var 5)) L_through_values_2) (.cons (.asg (.v 5) (.bi .list (.cons (.var 10) .nil))) (.cons (.kill [8, 9, 10]) .nil)))))) .nil)
def L_through_values_4 : CSs := (.cons (.expr (.pop (.var 4))) .nil)
def b_through_values : CSs := (.cons (.asg (.v 1) (.bi .len (.cons (.var 0) .nil))) (.cons (.asg (.t (.cons (.v 2) (.cons (.v 3) .nil))) (.tup (.cons (.bi .list (.cons (.var 0) .nil)) (.cons (.cell (.lst .nil)) .nil)))) (.cons (.whl (.cmp .Gt (.bi .len (.cons (.var 2) .nil)) (.cst (.int 0))) L_through_values_0) (.cons (.asg (.t (.cons (.v 4) (.cons (.v 5) .nil))) (.tup (.cons (.cell (.bin .Mult (.lst (.cons (.tup (.cons (.cst (.int 0)) (.cons (.cst (.int 1)) .nil))) .nil)) (.var 1))) (.cons (.lst (.cons (.tup (.cons (.cst (.int 1)) (.cons (.cst (.int 1)) .nil))) .nil)) .nil)))) (.cons (.for_ (.t (.cons (.v 6) (.cons (.v 7) .nil))) (.enum (.var 3)) L_through_values_3) (.cons (.whl (.and_ (.cmp .Gt (.bi .len (.cons (.var 4) .nil)) (.cst (.int 0))) (.cmp .Eq (.idx (.idx (.var 4) (.neg (.cst (.int 1)))) (.cst (.int 0))) (.cst (.int 0)))) L_through_values_4) (.cons (.ret (.bi .tuple (.cons (.var 4) .nil))) .nil)))))))
def d_through_values : CDef := ⟨12, 1, b_through_values⟩
abbrev i_through_values : Nat := 17
def b_check_genus : CSs := (.cons (.ifs (.or_ (.not_ (.call 0 (.cons (.var 0) .nil))) (.not_ (.chain .LtE .LtE (.cst (.int 0)) (.var 0) (.glob "MOST_GENUS" (.int 6))))) (.cons (.raise 1 .absent) .nil) .nil) .nil)
def d_check_genus : CDef := ⟨1, 1, b_check_genus⟩
abbrev i_check_genus : Nat := 18
def b_check_polygon : CSs := (.cons (.ifs (.or_ (.not_ (.call 0 (.cons (.var 0) .nil))) (.not_ (.chain .LtE .LtE (.cst (.int 0)) (.var 0) (.glob "MOST_POLYGON" (.int 40))))) (.cons (.raise 1 .absent) .nil) .nil) .nil)
def d_check_polygon : CDef := ⟨1, 1, b_check_polygon⟩
abbrev i_check_polygon : Nat := 19
def b_polygon_number : CSs := (.cons (.expr (.call 18 (.cons (.var 0) .nil))) (.cons (.expr (.call 19 (.cons (.var 1) .nil))) (.cons (.ret (.idx (.idx (.call 13 (.cons (.var 0) (.cons (.var 1) .nil))) (.var 0)) (.var 1))) .nil)))
def d_polygon_number : CDef := ⟨2, 2, b_polygon_number⟩
abbrev i_polygon_number : Nat := 20
def b_check_above : CSs := (.cons (.expr (.call 18 (.cons (.var 0) .nil))) (.cons (.ifs (.cmp .Eq (.var 0) (.cst (.int 0))) (.cons (.raise 1 .absent) .nil) .nil) .nil))
def d_check_above : CDef := ⟨1, 1, b_check_above⟩
abbrev i_check_above : Nat := 21
def b_smooth_polygon_number : CSs := (.cons (.expr (.call 21 (.cons (.var 0) .nil))) (.cons (.expr (.call 19 (.cons (.var 1) .nil))) (.cons (.ret (.idx (.call 14 (.cons (.idx (.call 13 (.cons (.var 0) (.cons (.var 1) .nil))) (.var 0)) .nil)) (.var 1))) .nil)))
def d_smooth_polygon_number : CDef := ⟨2, 2, b_smooth_polygon_number⟩
abbrev i_smooth_polygon_number : Nat := 22
def b_lean_polygon_number : CSs := (.cons (.expr (.call 21 (.cons (.var 0) .nil))) (.cons (.expr (.call 19 (.cons (.var 1) .nil))) (.cons (.ret (.idx (.call 16 (.cons (.var 0) (.cons (.var 1) .nil))) (.var 1))) .nil)))
def d_lean_polygon_number : CDef := ⟨2, 2, b_lean_polygon_number⟩
abbrev i_lean_polygon_number : Nat := 23
def L_polygon_mean_0 : CSs := (.cons (.saug (.var 5) (.bin .Add (.var 6) (.cst (.int 1))) .Add (.var 7)) (.cons (.saug (.var 5) (.var 6) .Sub (.bin .Mult (.var 4) (.var 7))) .nil))
def L_polygon_mean_1 : CSs := (.cons (.scope (.cons (.asg (.v 5) (.cell (.bin .Mult (.lst (.cons (.cst (.int 0)) .nil)) (.bin .Add (.bi .len (.cons (.var 3) .nil)) (.cst (.int 1)))))) (.cons (.for_ (.t (.cons (.v 6) (.cons (.v 7) .nil))) (.enum (.var 3)) L_polygon_mean_0) (.cons (.asg (.v 3) (.bi .list (.cons (.var 5) .nil))) (.cons (.kill [5]) .nil))))) .nil)
def L_polygon_mean_2 : CSs := (.cons (.sput (.var 1) (.var 6) (.bin .Add (.idx (.var 1) (.var 6)) (.bin .Mult (.bin .Mult (.idx (.var 8) (.cst (.int 0))) (.var 7)) (.bin .FloorDiv (.call 3 (.cons (.bin .Add (.var 0) (.cst (.int 1))) .nil)) (.idx (.var 8) (.cst (.int 1))))))) .nil)
def L_polygon_mean_3 : CSs := (.cons (.scope (.cons (.asg (.v 3) (.lst (.cons (.cst (.int 1)) .nil))) (.cons (.for_ (.v 4) (.rng1 (.bin .Add (.var 2) (.cst (.int 1)))) L_polygon_mean_1) (.cons (.asg (.v 8) (.call 6 (.cons (.bin .Mult (.bin .Mult (.call 11 (.cons (.var 0) .nil)) (.call 1 (.cons (.cst (.int 2)) (.cons (.var 2) .nil)))) (.call 4 (.cons (.var 0) (.cons (.var 2) .nil)))) (.cons (.call 3 (.cons (.bin .Add (.var 2) (.cst (.int 1))) .nil)) .nil)))) (.cons (.for_ (.t (.cons (.v 6) (.cons (.v 7) .nil))) (.enum (.var 3)) L_polygon_mean_2) (.cons (.kill [3, 4, 5, 6, 8]) .nil)))))) .nil)
def b_polygon_mean : CSs := (.cons (.expr (.call 19 (.cons (.var 0) .nil))) (.cons (.asg (.v 1) (.cell (.bin .Mult (.lst (.cons (.cst (.int 0)) .nil)) (.bin .Add (.var 0) (.cst (.int 2)))))) (.cons (.for_ (.v 2) (.rng1 (.bin .Add (.var 0) (.cst (.int 1)))) L_polygon_mean_3) (.cons (.ret (.call 12 (.cons (.comp (.bin .FloorDiv (.var 7) (.call 3 (.cons (.bin .Add (.var 0) (.cst (.int 1))) .nil))) (.v 7) (.seq (.var 1)) .absent [7]) .nil))) .nil))))
def d_polygon_mean : CDef := ⟨9, 1, b_polygon_mean⟩
abbrev i_polygon_mean : Nat := 24
def b_polygon_polynomial : CSs := (.cons (.expr (.call 18 (.cons (.var 0) .nil))) (.cons (.asg (.v 1) (.idx (.call 13 (.cons (.var 0) (.cons (.bin .Mult (.cst (.int 3)) (.var 0)) .nil))) (.var 0))) (.cons (.ret (.call 17 (.cons (.comp (.call 6 (.cons (.bin .Mult (.idx (.var 1) (.var 2)) (.bin .Add (.var 2) (.cst (.int 1)))) (.cons (.call 4 (.cons (.bin .Mult (.cst (.int 2)) (.var 2)) (.cons (.var 2) .nil))) .nil))) (.v 2) (.rng1 (.bin .Add (.bin .Mult (.cst (.int 3)) (.var 0)) (.cst (.int 1)))) .absent [2]) .nil))) .nil)))
def d_polygon_polynomial : CDef := ⟨3, 1, b_polygon_polynomial⟩
abbrev i_polygon_polynomial : Nat := 25
def L_smooth_by_polygons_0 : CSs := (.cons (.asg (.v 2) (.call 7 (.cons (.var 2) (.cons (.call 6 (.cons (.ite (.cmp .Eq (.bin .Mod (.var 3) (.cst (.int 2))) (.cst (.int 1))) (.idx (.var 1) (.var 3)) (.neg (.idx (.var 1) (.var 3)))) (.cons (.bin .Mult (.cst (.int 2)) (.var 3)) .nil))) .nil)))) .nil)
def b_smooth_by_polygons : CSs := (.cons (.expr (.call 21 (.cons (.var 0) .nil))) (.cons (.asg (.t (.cons (.v 1) (.cons (.v 2) .nil))) (.tup (.cons (.call 16 (.cons (.var 0) (.cons (.bin .Sub (.bin .Mult (.cst (.int 6)) (.var 0)) (.cst (.int 3))) .nil))) (.cons (.tup (.cons (.cst (.int 0)) (.cons (.cst (.int 1)) .nil))) .nil)))) (.cons (.for_ (.v 3) (.rng2 (.bin .Mult (.cst (.int 2)) (.var 0)) (.bin .Sub (.bin .Mult (.cst (.int 6)) (.var 0)) (.cst (.int 2)))) L_smooth_by_polygons_0) (.cons (.ret (.var 2)) .nil))))
def d_smooth_by_polygons : CDef := ⟨4, 1, b_smooth_by_polygons⟩
abbrev i_smooth_by_polygons : Nat := 26
def L__law_state_0 : CSs := (.cons (.asg (.v 1) (.bin .Add (.bin .Mult (.var 1) (.cst (.int 1000003))) (.bi .abs (.cons (.var 3) .nil)))) (.cons (.asg (.v 2) (.bin .Mod (.bi .int (.cons (.bin .Add (.bin .Mult (.var 2) (.cst (.int 48271))) (.var 3)) .nil)) (.cst (.int 2147483647)))) .nil))
def b__law_state : CSs := (.cons (.asg (.v 1) (.cst (.int 0))) (.cons (.asg (.v 2) (.cst (.int 1))) (.cons (.for_ (.v 3) (.seq (.sl (.var 0) .absent (.cst (.int 63)))) L__law_state_0) (.cons (.ret (.cell (.lst (.cons (.var 1) (.cons (.var 2) .nil))))) .nil))))
def d__law_state : CDef := ⟨4, 1, b__law_state⟩
abbrev i__law_state : Nat := 27
def b__law_take : CSs := (.cons (.ifs (.cmp .Gt (.idx (.var 0) (.cst (.int 0))) (.cst (.int 0))) (.cons (.asg (.v 2) (.bin .Mod (.bi .int (.cons (.idx (.var 0) (.cst (.int 0))) .nil)) (.var 1))) (.cons (.sput (.var 0) (.cst (.int 0)) (.bin .FloorDiv (.idx (.var 0) (.cst (.int 0))) (.var 1))) (.cons (.ret (.var 2)) .nil))) .nil) (.cons (.sput (.var 0) (.cst (.int 1)) (.bin .Mod (.bi .int (.cons (.bin .Add (.bin .Mult (.idx (.var 0) (.cst (.int 1))) (.cst (.int 48271))) (.cst (.int 11))) .nil)) (.cst (.int 2147483647)))) (.cons (.ret (.bin .Mod (.bi .int (.cons (.bin .FloorDiv (.idx (.var 0) (.cst (.int 1))) (.cst (.int 7))) .nil)) (.var 1))) .nil)))
def d__law_take : CDef := ⟨3, 2, b__law_take⟩
abbrev i__law_take : Nat := 28
def b__law_odd : CSs := (.cons (.ifs (.cmp .Eq (.var 0) (.cst (.str (Str.ofString "a word that nothing else is")))) (.cons (.ret (.cst (.bl true))) .nil) .nil) (.cons (.ret (.and_ (.isin (.var 0) [.tuple, .list]) (.cmp .Gt (.bi .len (.cons (.comp (.var 1) (.v 1) (.seq (.var 0)) (.call 29 (.cons (.var 1) .nil)) [1]) .nil)) (.cst (.int 0))))) .nil))
def d__law_odd : CDef := ⟨2, 1, b__law_odd⟩
abbrev i__law_odd : Nat := 29
def b__law_honest : CSs := (.cons (.ret (.ite (.call 29 (.cons (.var 0) .nil)) (.cst (.str (Str.ofString "odd"))) (.var 0))) .nil)
def d__law_honest : CDef := ⟨1, 1, b__law_honest⟩
abbrev i__law_honest : Nat := 30
def b__law_is_whole : CSs := (.cons (.ret (.and_ (.isin (.var 0) [.int]) (.not_ (.isin (.var 0) [.bool])))) .nil)
def d__law_is_whole : CDef := ⟨1, 1, b__law_is_whole⟩
abbrev i__law_is_whole : Nat := 31
def b__law_same : CSs := (.cons (.ifs (.isin (.var 1) [.tuple]) (.cons (.ret (.and_ (.isin (.var 0) [.tuple]) (.and_ (.cmp .Eq (.bi .len (.cons (.var 0) .nil)) (.bi .len (.cons (.var 1) .nil))) (.bi .all (.cons (.comp (.call 32 (.cons (.idx (.var 0) (.var 2)) (.cons (.idx (.var 1) (.var 2)) .nil))) (.v 2) (.rng1 (.bi .len (.cons (.var 1) .nil))) .absent [2]) .nil))))) .nil) .nil) (.cons (.ifs (.isin (.var 1) [.str]) (.cons (.ret (.and_ (.isin (.var 0) [.str]) (.cmp .Eq (.var 0) (.var 1)))) .nil) .nil) (.cons (.ifs (.cmp .Is (.var 1) (.cst .non)) (.cons (.ret (.cmp .Is (.var 0) (.cst .non))) .nil) .nil) (.cons (.ret (.and_ (.call 31 (.cons (.var 0) .nil)) (.cmp .Eq (.var 0) (.var 1)))) .nil))))
def d__law_same : CDef := ⟨3, 2, b__law_same⟩
abbrev i__law_same : Nat := 32
def L__law_common_0 : CSs := (.cons (.asg (.t (.cons (.v 0) (.cons (.v 1) .nil))) (.tup (.cons (.var 1) (.cons (.bin .Mod (.bi .int (.cons (.var 0) .nil)) (.var 1)) .nil)))) .nil)
def b__law_common : CSs := (.cons (.whl (.cmp .NotEq (.var 1) (.cst (.int 0))) L__law_common_0) (.cons (.ret (.bi .abs (.cons (.var 0) .nil))) .nil))
def d__law_common : CDef := ⟨2, 2, b__law_common⟩
abbrev i__law_common : Nat := 33
def b__law_ratio : CSs := (.cons (.asg (.v 2) (.call 33 (.cons (.var 0) (.cons (.var 1) .nil)))) (.cons (.ret (.ite (.cmp .Gt (.var 1) (.cst (.int 0))) (.tup (.cons (.bin .FloorDiv (.var 0) (.var 2)) (.cons (.bin .FloorDiv (.var 1) (.var 2)) .nil))) (.tup (.cons (.bin .FloorDiv (.neg (.var 0)) (.var 2)) (.cons (.bin .FloorDiv (.neg (.var 1)) (.var 2)) .nil))))) .nil))
def d__law_ratio : CDef := ⟨3, 2, b__law_ratio⟩
abbrev i__law_ratio : Nat := 34
def b__law_plus : CSs := (.cons (.ifs (.and_ (.cmp .Eq (.idx (.var 0) (.cst (.int 1))) (.cst (.int 1))) (.cmp .Eq (.idx (.var 1) (.cst (.int 1))) (.cst (.int 1)))) (.cons (.ret (.tup (.cons (.bin .Add (.idx (.var 0) (.cst (.int 0))) (.idx (.var 1) (.cst (.int 0)))) (.cons (.cst (.int 1)) .nil)))) .nil) .nil) (.cons (.ret (.call 34 (.cons (.bin .Add (.bin .Mult (.idx (.var 0) (.cst (.int 0))) (.idx (.var 1) (.cst (.int 1)))) (.bin .Mult (.idx (.var 1) (.cst (.int 0))) (.idx (.var 0) (.cst (.int 1))))) (.cons (.bin .Mult (.idx (.var 0) (.cst (.int 1))) (.idx (.var 1) (.cst (.int 1)))) .nil)))) .nil))
def d__law_plus : CDef := ⟨2, 2, b__law_plus⟩
abbrev i__law_plus : Nat := 35
def b__law_minus : CSs := (.cons (.ret (.call 35 (.cons (.var 0) (.cons (.tup (.cons (.neg (.idx (.var 1) (.cst (.int 0)))) (.cons (.idx (.var 1) (.cst (.int 1))) .nil))) .nil)))) .nil)
def d__law_minus : CDef := ⟨2, 2, b__law_minus⟩
abbrev i__law_minus : Nat := 36
def b__law_times : CSs := (.cons (.ifs (.and_ (.cmp .Eq (.idx (.var 0) (.cst (.int 1))) (.cst (.int 1))) (.cmp .Eq (.idx (.var 1) (.cst (.int 1))) (.cst (.int 1)))) (.cons (.ret (.tup (.cons (.bin .Mult (.idx (.var 0) (.cst (.int 0))) (.idx (.var 1) (.cst (.int 0)))) (.cons (.cst (.int 1)) .nil)))) .nil) .nil) (.cons (.ret (.call 34 (.cons (.bin .Mult (.idx (.var 0) (.cst (.int 0))) (.idx (.var 1) (.cst (.int 0)))) (.cons (.bin .Mult (.idx (.var 0) (.cst (.int 1))) (.idx (.var 1) (.cst (.int 1)))) .nil)))) .nil))
def d__law_times : CDef := ⟨2, 2, b__law_times⟩
abbrev i__law_times : Nat := 37
def b__law_is_ratio : CSs := (.cons (.ifs (.or_ (.not_ (.isin (.var 0) [.tuple])) (.or_ (.cmp .NotEq (.bi .len (.cons (.var 0) .nil)) (.cst (.int 2))) (.or_ (.not_ (.call 31 (.cons (.idx (.var 0) (.cst (.int 0))) .nil))) (.not_ (.call 31 (.cons (.idx (.var 0) (.cst (.int 1))) .nil)))))) (.cons (.ret (.cst (.bl false))) .nil) .nil) (.cons (.ret (.and_ (.cmp .Gt (.idx (.var 0) (.cst (.int 1))) (.cst (.int 0))) (.cmp .Eq (.call 33 (.cons (.idx (.var 0) (.cst (.int 0))) (.cons (.idx (.var 0) (.cst (.int 1))) .nil))) (.cst (.int 1))))) .nil))
def d__law_is_ratio : CDef := ⟨1, 1, b__law_is_ratio⟩
abbrev i__law_is_ratio : Nat := 38
def L__law_factorial_0 : CSs := (.cons (.asg (.v 1) (.bin .Mult (.var 1) (.var 2))) .nil)
def b__law_factorial : CSs := (.cons (.asg (.v 1) (.cst (.int 1))) (.cons (.for_ (.v 2) (.rng2 (.cst (.int 2)) (.bin .Add (.var 0) (.cst (.int 1)))) L__law_factorial_0) (.cons (.ret (.var 1)) .nil)))
def d__law_factorial : CDef := ⟨3, 1, b__law_factorial⟩
abbrev i__law_factorial : Nat := 39
def L__law_polygons_0 : CSs := (.cons (.ifs (.cmp .Eq (.var 5) (.cst (.int 0))) (.cons (.app (.var 4) (.bi .int (.cons (.cmp .Eq (.var 3) (.cst (.int 0))) .nil))) .nil) (.cons (.asg (.v 6) (.bin .Mult (.bin .Mult (.cst (.int 2)) (.bin .Sub (.bin .Mult (.cst (.int 2)) (.var 5)) (.cst (.int 1)))) (.idx (.var 4) (.bin .Sub (.var 5) (.cst (.int 1)))))) (.cons (.ifs (.and_ (.cmp .Gt (.var 3) (.cst (.int 0))) (.cmp .Gt (.var 5) (.cst (.int 1)))) (.cons (.asg (.v 6) (.bin .Add (.var 6) (.bin .Mult (.bin .Mult (.bin .Mult (.bin .Sub (.bin .Mult (.cst (.int 2)) (.var 5)) (.cst (.int 1))) (.bin .Sub (.var 5) (.cst (.int 1)))) (.bin .Sub (.bin .Mult (.cst (.int 2)) (.var 5)) (.cst (.int 3)))) (.idx (.idx (.var 2) (.bin .Sub (.var 3) (.cst (.int 1)))) (.bin .Sub (.var 5) (.cst (.int 2))))))) .nil) .nil) (.cons (.app (.var 4) (.bin .FloorDiv (.var 6) (.bin .Add (.var 5) (.cst (.int 1))))) .nil)))) (.cons (.kill [6]) .nil))
def L__law_polygons_1 : CSs := (.cons (.scope (.cons (.asg (.v 4) (.cell (.lst .nil))) (.cons (.for_ (.v 5) (.rng1 (.bin .Add (.var 1) (.cst (.int 1)))) L__law_polygons_0) (.cons (.app (.var 2) (.var 4)) (.cons (.kill [4, 5, 6]) .nil))))) .nil)
def b__law_polygons : CSs := (.cons (.asg (.v 2) (.cell (.lst .nil))) (.cons (.for_ (.v 3) (.rng1 (.bin .Add (.var 0) (.cst (.int 1)))) L__law_polygons_1) (.cons (.ret (.var 2)) .nil)))
def d__law_polygons : CDef := ⟨7, 2, b__law_polygons⟩
abbrev i__law_polygons : Nat := 40
def b__law_chosen : CSs := (.cons (.ret (.ite (.chain .LtE .LtE (.cst (.int 0)) (.var 1) (.var 0)) (.bin .FloorDiv (.call 39 (.cons (.var 0) .nil)) (.bin .Mult (.call 39 (.cons (.var 1) .nil)) (.call 39 (.cons (.bin .Sub (.var 0) (.var 1)) .nil)))) (.cst (.int 0)))) .nil)
def d__law_chosen : CDef := ⟨2, 2, b__law_chosen⟩
abbrev i__law_chosen : Nat := 41
def L__law_taken_out_0 : CSs := (.cons (.asg (.v 4) (.bin .Sub (.var 4) (.bin .Mult (.call 41 (.cons (.ite (.var 1) (.bin .Mult (.cst (.int 2)) (.var 3)) (.var 3)) (.cons (.var 5) .nil))) (.idx (.var 2) (.bin .Sub (.var 3) (.var 5)))))) .nil)
def L__law_taken_out_1 : CSs := (.cons (.asg (.v 4) (.idx (.var 0) (.var 3))) (.cons (.for_ (.v 5) (.rng2 (.cst (.int 1)) (.bin .Add (.var 3) (.cst (.int 1)))) L__law_taken_out_0) (.cons (.app (.var 2) (.var 4)) (.cons (.kill [4, 5]) .nil))))
def b__law_taken_out : CSs := (.cons (.asg (.v 2) (.cell (.lst .nil))) (.cons (.for_ (.v 3) (.rng1 (.bi .len (.cons (.var 0) .nil))) L__law_taken_out_1) (.cons (.ret (.var 2)) .nil)))
def d__law_taken_out : CDef := ⟨6, 2, b__law_taken_out⟩
abbrev i__law_taken_out : Nat := 42
def b__law_told : CSs := (.cons (.try_ (.cons (.ifs (.cmp .Lt (.var 0) (.cst (.int 3))) (.cons (.ret (.tup (.cons (.cst (.str (Str.ofString "told"))) (.cons (.call 30 (.cons (.callv (.idx (.lst (.cons (.glob "polygon_number" (.fn 20)) (.cons (.glob "smooth_polygon_number" (.fn 22)) (.cons (.glob "lean_polygon_number" (.fn 23)) .nil)))) (.var 0)) [20, 22, 23, 24, 25, 26] (.cons (.var 1) (.cons (.var 2) .nil))) .nil)) .nil)))) .nil) .nil) (.cons (.ret (.tup (.cons (.cst (.str (Str.ofString "told"))) (.cons (.call 30 (.cons (.callv (.idx (.lst (.cons (.glob "polygon_mean" (.fn 24)) (.cons (.glob "polygon_polynomial" (.fn 25)) (.cons (.glob "smooth_by_polygons" (.fn 26)) .nil)))) (.bin .Sub (.var 0) (.cst (.int 3)))) [20, 22, 23, 24, 25, 26] (.cons (.var 1) .nil)) .nil)) .nil)))) .nil)) 1 (.cons (.ret (.tup (.cons (.cst (.str (Str.ofString "malformed"))) (.cons (.cst .non) .nil)))) .nil)) .nil)
def d__law_told : CDef := ⟨3, 3, b__law_told⟩
abbrev i__law_told : Nat := 43
def L__law_bernoulli_0 : CSs := (.cons (.sput (.var 1) (.bin .Sub (.var 3) (.cst (.int 1))) (.call 37 (.cons (.tup (.cons (.var 3) (.cons (.cst (.int 1)) .nil))) (.cons (.call 36 (.cons (.idx (.var 1) (.bin .Sub (.var 3) (.cst (.int 1)))) (.cons (.idx (.var 1) (.var 3)) .nil))) .nil)))) .nil)
def L__law_bernoulli_1 : CSs := (.cons (.app (.var 1) (.tup (.cons (.cst (.int 1)) (.cons (.bin .Add (.var 2) (.cst (.int 1))) .nil)))) (.cons (.for_ (.v 3) (.rng3 (.var 2) (.cst (.int 0)) (.neg (.cst (.int 1)))) L__law_bernoulli_0) (.cons (.kill [3]) .nil)))
def b__law_bernoulli : CSs := (.cons (.asg (.v 1) (.cell (.lst .nil))) (.cons (.for_ (.v 2) (.rng1 (.bin .Add (.var 0) (.cst (.int 1)))) L__law_bernoulli_1) (.cons (.ret (.idx (.var 1) (.cst (.int 0)))) .nil)))
def d__law_bernoulli : CDef := ⟨4, 1, b__law_bernoulli⟩
abbrev i__law_bernoulli : Nat := 44
def L__law_value_0 : CSs := (.cons (.asg (.v 2) (.call 35 (.cons (.call 37 (.cons (.var 2) (.cons (.tup (.cons (.var 1) (.cons (.cst (.int 1)) .nil))) .nil))) (.cons (.var 3) .nil)))) .nil)
def b__law_value : CSs := (.cons (.asg (.v 2) (.tup (.cons (.cst (.int 0)) (.cons (.cst (.int 1)) .nil)))) (.cons (.for_ (.v 3) (.seq (.rev (.var 0))) L__law_value_0) (.cons (.ret (.var 2)) .nil)))
def d__law_value : CDef := ⟨4, 2, b__law_value⟩
abbrev i__law_value : Nat := 45
def L_law_0 : CSs := (.cons (.asg (.v 6) (.call 28 (.cons (.var 1) (.cons (.bin .Add (.var 3) (.cst (.int 1))) .nil)))) (.cons (.ifs (.not_ (.call 32 (.cons (.call 43 (.cons (.cst (.int 0)) (.cons (.var 2) (.cons (.var 6) .nil)))) (.cons (.tup (.cons (.cst (.str (Str.ofString "told"))) (.cons (.idx (.idx (.var 4) (.var 2)) (.var 6)) .nil))) .nil)))) (.cons (.ret (.cst (.bl false))) .nil) .nil) (.cons (.ifs (.cmp .Gt (.var 2) (.cst (.int 0))) (.cons (.asg (.v 7) (.call 42 (.cons (.idx (.var 4) (.var 2)) (.cons (.cst (.bl true)) .nil)))) (.cons (.ifs (.or_ (.not_ (.call 32 (.cons (.call 43 (.cons (.cst (.int 1)) (.cons (.var 2) (.cons (.var 6) .nil)))) (.cons (.tup (.cons (.cst (.str (Str.ofString "told"))) (.cons (.idx (.var 7) (.var 6)) .nil))) .nil)))) (.not_ (.call 32 (.cons (.call 43 (.cons (.cst (.int 2)) (.cons (.var 2) (.cons (.var 6) .nil)))) (.cons (.tup (.cons (.cst (.str (Str.ofString "told"))) (.cons (.idx (.call 42 (.cons (.var 7) (.cons (.cst (.bl false)) .nil))) (.var 6)) .nil))) .nil))))) (.cons (.ret (.cst (.bl false))) .nil) .nil) .nil)) .nil) (.cons (.kill [5, 7]) .nil))))
def L_law_1 : CSs := (.cons (.sput (.var 8) (.bin .Sub (.bin .Add (.var 6) (.cst (.int 1))) (.bin .Mult (.cst (.int 2)) (.var 9))) (.idx (.idx (.var 4) (.var 9)) (.var 6))) .nil)
def L_law_2 : CSs := (.cons (.asg (.v 11) (.bin .Mult (.cst (.int 12)) (.var 11))) (.cons (.kill [5]) .nil))
def L_law_3 : CSs := (.cons (.ifs (.and_ (.cmp .LtE (.var 6) (.var 3)) (.cmp .NotEq (.call 45 (.cons (.idx (.var 10) (.cst (.int 1))) (.cons (.var 6) .nil))) (.call 34 (.cons (.bin .Mult (.idx (.idx (.var 4) (.var 2)) (.var 6)) (.bin .Add (.var 6) (.cst (.int 1)))) (.cons (.call 41 (.cons (.bin .Mult (.cst (.int 2)) (.var 6)) (.cons (.var 6) .nil))) .nil))))) (.cons (.ret (.cst (.bl false))) .nil) .nil) .nil)
def L_law_4 : CSs := (.cons (.ifs (.or_ (.cmp .NotEq (.idx (.call 43 (.cons (.cst (.int 0)) (.cons (.var 2) (.cons (.var 13) .nil)))) (.cst (.int 0))) (.cst (.str (Str.ofString "malformed")))) (.or_ (.cmp .NotEq (.idx (.call 43 (.cons (.cst (.int 1)) (.cons (.cst (.int 1)) (.cons (.var 13) .nil)))) (.cst (.int 0))) (.cst (.str (Str.ofString "malformed")))) (.or_ (.cmp .NotEq (.idx (.call 43 (.cons (.cst (.int 2)) (.cons (.cst (.int 1)) (.cons (.var 13) .nil)))) (.cst (.int 0))) (.cst (.str (Str.ofString "malformed")))) (.cmp .NotEq (.idx (.call 43 (.cons (.cst (.int 3)) (.cons (.var 13) (.cons (.cst .non) .nil)))) (.cst (.int 0))) (.cst (.str (Str.ofString "malformed"))))))) (.cons (.ret (.cst (.bl false))) .nil) .nil) .nil)
def L_law_5 : CSs := (.cons (.ifs (.or_ (.cmp .NotEq (.idx (.call 43 (.cons (.cst (.int 0)) (.cons (.var 13) (.cons (.cst (.int 1)) .nil)))) (.cst (.int 0))) (.cst (.str (Str.ofString "malformed")))) (.or_ (.cmp .NotEq (.idx (.call 43 (.cons (.cst (.int 4)) (.cons (.var 13) (.cons (.cst .non) .nil)))) (.cst (.int 0))) (.cst (.str (Str.ofString "malformed")))) (.cmp .NotEq (.idx (.call 43 (.cons (.cst (.int 5)) (.cons (.var 13) (.cons (.cst .non) .nil)))) (.cst (.int 0))) (.cst (.str (Str.ofString "malformed")))))) (.cons (.ret (.cst (.bl false))) .nil) .nil) .nil)
def b_law : CSs := (.cons (.asg (.v 1) (.call 27 (.cons (.var 0) .nil))) (.cons (.asg (.t (.cons (.v 2) (.cons (.v 3) .nil))) (.tup (.cons (.call 28 (.cons (.var 1) (.cons (.cst (.int 7)) .nil))) (.cons (.idx (.lst (.cons (.cst (.int 20)) (.cons (.cst (.int 20)) (.cons (.cst (.int 40)) .nil)))) (.call 28 (.cons (.var 1) (.cons (.cst (.int 3)) .nil)))) .nil)))) (.cons (.asg (.v 4) (.call 40 (.cons (.cst (.int 21)) (.cons (.var 3) .nil)))) (.cons (.for_ (.v 5) (.rng1 (.cst (.int 4))) L_law_0) (.cons (.asg (.v 6) (.call 28 (.cons (.var 1) (.cons (.bin .Add (.var 3) (.cst (.int 1))) .nil)))) (.cons (.asg (.v 8) (.cell (.comp (.cst (.int 0)) (.v 14) (.rng1 (.bin .Add (.var 6) (.cst (.int 2)))) .absent [14]))) (.cons (.for_ (.v 9) (.rng1 (.bin .Add (.bin .FloorDiv (.var 6) (.cst (.int 2))) (.cst (.int 1)))) L_law_1) (.cons (.ifs (.not_ (.call 32 (.cons (.call 43 (.cons (.cst (.int 3)) (.cons (.var 6) (.cons (.cst .non) .nil)))) (.cons (.tup (.cons (.cst (.str (Str.ofString "told"))) (.cons (.bi .tuple (.cons (.var 8) .nil)) .nil))) .nil)))) (.cons (.ret (.cst (.bl false))) .nil) .nil) (.cons (.asg (.v 10) (.call 43 (.cons (.cst (.int 4)) (.cons (.var 2) (.cons (.cst .non) .nil))))) (.cons (.ifs (.or_ (.cmp .NotEq (.idx (.var 10) (.cst (.int 0))) (.cst (.str (Str.ofString "told")))) (.or_ (.not_ (.isin (.idx (.var 10) (.cst (.int 1))) [.tuple])) (.or_ (.cmp .NotEq (.bi .len (.cons (.idx (.var 10) (.cst (.int 1))) .nil)) (.bin .Add (.bin .Mult (.cst (.int 3)) (.var 2)) (.cst (.int 1)))) (.not_ (.bi .all (.cons (.comp (.call 38 (.cons (.var 15) .nil)) (.v 15) (.seq (.idx (.var 10) (.cst (.int 1)))) .absent [15]) .nil)))))) (.cons (.ret (.cst (.bl false))) .nil) .nil) (.cons (.asg (.v 11) (.call 39 (.cons (.var 2) .nil))) (.cons (.for_ (.v 5) (.rng1 (.var 2)) L_law_2) (.cons (.ifs (.cmp .NotEq (.idx (.idx (.var 10) (.cst (.int 1))) (.neg (.cst (.int 1)))) (.tup (.cons (.cst (.int 1)) (.cons (.var 11) .nil)))) (.cons (.ret (.cst (.bl false))) .nil) .nil) (.cons (.for_ (.v 6) (.rng1 (.bin .Add (.bin .Mult (.cst (.int 3)) (.var 2)) (.cst (.int 3)))) L_law_3) (.cons (.asg (.v 9) (.bin .Add (.cst (.int 1)) (.call 28 (.cons (.var 1) (.cons (.cst (.int 6)) .nil))))) (.cons (.asg (.v 12) (.call 44 (.cons (.bin .Mult (.cst (.int 2)) (.var 9)) .nil))) (.cons (.ifs (.not_ (.call 32 (.cons (.call 43 (.cons (.cst (.int 5)) (.cons (.var 9) (.cons (.cst .non) .nil)))) (.cons (.tup (.cons (.cst (.str (Str.ofString "told"))) (.cons (.call 34 (.cons (.neg (.idx (.var 12) (.cst (.int 0)))) (.cons (.bin .Mult (.bin .Mult (.idx (.var 12) (.cst (.int 1))) (.cst (.int 2))) (.var 9)) .nil))) .nil))) .nil)))) (.cons (.ret (.cst (.bl false))) .nil) .nil) (.cons (.for_ (.v 13) (.seq (.lst (.cons (.neg (.cst (.int 1))) (.cons (.cst (.int 41)) (.cons (.cst .non) (.cons (.cst (.bl true)) (.cons (.cst (.str (Str.ofString "1"))) .nil))))))) L_law_4) (.cons (.for_ (.v 13) (.seq (.lst (.cons (.neg (.cst (.int 1))) (.cons (.cst (.int 7)) (.cons (.cst .non) (.cons (.cst (.bl true)) (.cons (.cst (.str (Str.ofString "1"))) .nil))))))) L_law_5) (.cons (.ret (.cmp .Eq (.lst (.cons (.idx (.call 43 (.cons (.cst (.int 1)) (.cons (.cst (.int 0)) (.cons (.cst (.int 3)) .nil)))) (.cst (.int 0))) (.cons (.idx (.call 43 (.cons (.cst (.int 2)) (.cons (.cst (.int 0)) (.cons (.cst (.int 3)) .nil)))) (.cst (.int 0))) (.cons (.idx (.call 43 (.cons (.cst (.int 5)) (.cons (.cst (.int 0)) (.cons (.cst .non) .nil)))) (.cst (.int 0))) .nil)))) (.bin .Mult (.lst (.cons (.cst (.str (Str.ofString "malformed"))) .nil)) (.cst (.int 3))))) .nil))))))))))))))))))))
def d_law : CDef := ⟨16, 1, b_law⟩
abbrev i_law : Nat := 46
def defs : List CDef := [d_is_integer, d_raised_to, d_greatest_common, d_factorial_of, d_chosen_of, d_lowest, d_ratio, d_ratio_sum, d_ratio_less, d_ratio_product, d_ratio_over, d_odd_factorial, d_trimmed, d_polygon_row, d_without_leaves, d_without_pairs, d_lean_row, d_through_values, d_check_genus, d_check_polygon, d_polygon_number, d_check_above, d_smooth_polygon_number, d_lean_polygon_number, d_polygon_mean, d_polygon_polynomial, d_smooth_by_polygons, d__law_state, d__law_take, d__law_odd, d__law_honest, d__law_is_whole, d__law_same, d__law_common, d__law_ratio, d__law_plus, d__law_minus, d__law_times, d__law_is_ratio, d__law_factorial, d__law_polygons, d__law_chosen, d__law_taken_out, d__law_told, d__law_bernoulli, d__law_value, d_law]
def subT : List ((Nat × Nat) × Bool) := [((0, 0), true), ((0, 1), false), ((1, 0), true), ((1, 1), true)]
def sub (i j : Nat) : Option Bool := subT.lookup (i, j)
def P : Pg := ⟨defs, sub⟩

def top (i : Nat) : Stmt := PySem.Challenge.pw_moduliroads_k41_whole_polygons.main.body.getD i (.Pass ⟨0, 0, 0, 0⟩)
def tx : List DTx := [⟨(Str.ofString "is_integer"), top 4, [(Str.ofString "value")], [(Str.ofString "value")]⟩,
  ⟨(Str.ofString "raised_to"), top 5, [(Str.ofString "a"), (Str.ofString "e"), (Str.ofString "found"), (Str.ofString "base")], [(Str.ofString "a"), (Str.ofString "e")]⟩,
  ⟨(Str.ofString "greatest_common"), top 6, [(Str.ofString "a"), (Str.ofString "b")], [(Str.ofString "a"), (Str.ofString "b")]⟩,
  ⟨(Str.ofString "factorial_of"), top 7, [(Str.ofString "n"), (Str.ofString "found"), (Str.ofString "k")], [(Str.ofString "n")]⟩,
  ⟨(Str.ofString "chosen_of"), top 8, [(Str.ofString "n"), (Str.ofString "k"), (Str.ofString "found"), (Str.ofString "j")], [(Str.ofString "n"), (Str.ofString "k")]⟩,
  ⟨(Str.ofString "lowest"), top 9, [(Str.ofString "n"), (Str.ofString "d"), (Str.ofString "g")], [(Str.ofString "n"), (Str.ofString "d")]⟩,
  ⟨(Str.ofString "ratio"), top 10, [(Str.ofString "n"), (Str.ofString "d")], [(Str.ofString "n"), (Str.ofString "d")]⟩,
  ⟨(Str.ofString "ratio_sum"), top 11, [(Str.ofString "a"), (Str.ofString "b")], [(Str.ofString "a"), (Str.ofString "b")]⟩,
  ⟨(Str.ofString "ratio_less"), top 12, [(Str.ofString "a"), (Str.ofString "b")], [(Str.ofString "a"), (Str.ofString "b")]⟩,
  ⟨(Str.ofString "ratio_product"), top 13, [(Str.ofString "a"), (Str.ofString "b")], [(Str.ofString "a"), (Str.ofString "b")]⟩,
  ⟨(Str.ofString "ratio_over"), top 14, [(Str.ofString "a"), (Str.ofString "b")], [(Str.ofString "a"), (Str.ofString "b")]⟩,
  ⟨(Str.ofString "odd_factorial"), top 15, [(Str.ofString "k"), (Str.ofString "found"), (Str.ofString "i")], [(Str.ofString "k")]⟩,
  ⟨(Str.ofString "trimmed"), top 17, [(Str.ofString "items"), (Str.ofString "size")], [(Str.ofString "items")]⟩,
  ⟨(Str.ofString "polygon_row"), top 18, [(Str.ofString "g"), (Str.ofString "most"), (Str.ofString "rows"), (Str.ofString "h"), (Str.ofString "row"), (Str.ofString "k"), (Str.ofString "top")], [(Str.ofString "g"), (Str.ofString "most")]⟩,
  ⟨(Str.ofString "without_leaves"), top 19, [(Str.ofString "row"), (Str.ofString "found"), (Str.ofString "k"), (Str.ofString "own"), (Str.ofString "i")], [(Str.ofString "row")]⟩,
  ⟨(Str.ofString "without_pairs"), top 20, [(Str.ofString "row"), (Str.ofString "found"), (Str.ofString "k"), (Str.ofString "own"), (Str.ofString "i")], [(Str.ofString "row")]⟩,
  ⟨(Str.ofString "lean_row"), top 21, [(Str.ofString "g"), (Str.ofString "most")], [(Str.ofString "g"), (Str.ofString "most")]⟩,
  ⟨(Str.ofString "through_values"), top 22, [(Str.ofString "values"), (Str.ofString "size"), (Str.ofString "steps"), (Str.ofString "rows"), (Str.ofString "found"), (Str.ofString "falling"), (Str.ofString "k"), (Str.ofString "c"), (Str.ofString "e"), (Str.ofString "a"), (Str.ofString "longer"), (Str.ofString "b")], [(Str.ofString "values")]⟩,
  ⟨(Str.ofString "check_genus"), top 26, [(Str.ofString "g")], [(Str.ofString "g")]⟩,
  ⟨(Str.ofString "check_polygon"), top 27, [(Str.ofString "k")], [(Str.ofString "k")]⟩,
  ⟨(Str.ofString "polygon_number"), top 28, [(Str.ofString "g"), (Str.ofString "k")], [(Str.ofString "g"), (Str.ofString "k")]⟩,
  ⟨(Str.ofString "check_above"), top 29, [(Str.ofString "g")], [(Str.ofString "g")]⟩,
  ⟨(Str.ofString "smooth_polygon_number"), top 30, [(Str.ofString "g"), (Str.ofString "k")], [(Str.ofString "g"), (Str.ofString "k")]⟩,
  ⟨(Str.ofString "lean_polygon_number"), top 31, [(Str.ofString "g"), (Str.ofString "k")], [(Str.ofString "g"), (Str.ofString "k")]⟩,
  ⟨(Str.ofString "polygon_mean"), top 32, [(Str.ofString "k"), (Str.ofString "found"), (Str.ofString "j"), (Str.ofString "falling"), (Str.ofString "i"), (Str.ofString "longer"), (Str.ofString "e"), (Str.ofString "c"), (Str.ofString "scale")], [(Str.ofString "k")]⟩,
  ⟨(Str.ofString "polygon_polynomial"), top 33, [(Str.ofString "g"), (Str.ofString "row"), (Str.ofString "k")], [(Str.ofString "g")]⟩,
  ⟨(Str.ofString "smooth_by_polygons"), top 34, [(Str.ofString "g"), (Str.ofString "row"), (Str.ofString "total"), (Str.ofString "k")], [(Str.ofString "g")]⟩,
  ⟨(Str.ofString "_law_state"), top 36, [(Str.ofString "script"), (Str.ofString "seed"), (Str.ofString "total"), (Str.ofString "cell")], [(Str.ofString "script")]⟩,
  ⟨(Str.ofString "_law_take"), top 37, [(Str.ofString "state"), (Str.ofString "m"), (Str.ofString "value")], [(Str.ofString "state"), (Str.ofString "m")]⟩,
  ⟨(Str.ofString "_law_odd"), top 38, [(Str.ofString "value"), (Str.ofString "item")], [(Str.ofString "value")]⟩,
  ⟨(Str.ofString "_law_honest"), top 39, [(Str.ofString "value")], [(Str.ofString "value")]⟩,
  ⟨(Str.ofString "_law_is_whole"), top 40, [(Str.ofString "value")], [(Str.ofString "value")]⟩,
  ⟨(Str.ofString "_law_same"), top 41, [(Str.ofString "one"), (Str.ofString "two"), (Str.ofString "k")], [(Str.ofString "one"), (Str.ofString "two")]⟩,
  ⟨(Str.ofString "_law_common"), top 42, [(Str.ofString "a"), (Str.ofString "b")], [(Str.ofString "a"), (Str.ofString "b")]⟩,
  ⟨(Str.ofString "_law_ratio"), top 43, [(Str.ofString "n"), (Str.ofString "d"), (Str.ofString "g")], [(Str.ofString "n"), (Str.ofString "d")]⟩,
  ⟨(Str.ofString "_law_plus"), top 44, [(Str.ofString "a"), (Str.ofString "b")], [(Str.ofString "a"), (Str.ofString "b")]⟩,
  ⟨(Str.ofString "_law_minus"), top 45, [(Str.ofString "a"), (Str.ofString "b")], [(Str.ofString "a"), (Str.ofString "b")]⟩,
  ⟨(Str.ofString "_law_times"), top 46, [(Str.ofString "a"), (Str.ofString "b")], [(Str.ofString "a"), (Str.ofString "b")]⟩,
  ⟨(Str.ofString "_law_is_ratio"), top 47, [(Str.ofString "value")], [(Str.ofString "value")]⟩,
  ⟨(Str.ofString "_law_factorial"), top 48, [(Str.ofString "n"), (Str.ofString "total"), (Str.ofString "k")], [(Str.ofString "n")]⟩,
  ⟨(Str.ofString "_law_polygons"), top 49, [(Str.ofString "top"), (Str.ofString "most"), (Str.ofString "rows"), (Str.ofString "g"), (Str.ofString "row"), (Str.ofString "k"), (Str.ofString "total")], [(Str.ofString "top"), (Str.ofString "most")]⟩,
  ⟨(Str.ofString "_law_chosen"), top 50, [(Str.ofString "n"), (Str.ofString "k")], [(Str.ofString "n"), (Str.ofString "k")]⟩,
  ⟨(Str.ofString "_law_taken_out"), top 51, [(Str.ofString "row"), (Str.ofString "double"), (Str.ofString "found"), (Str.ofString "k"), (Str.ofString "total"), (Str.ofString "i")], [(Str.ofString "row"), (Str.ofString "double")]⟩,
  ⟨(Str.ofString "_law_told"), top 52, [(Str.ofString "which"), (Str.ofString "a"), (Str.ofString "b")], [(Str.ofString "which"), (Str.ofString "a"), (Str.ofString "b")]⟩,
  ⟨(Str.ofString "_law_bernoulli"), top 53, [(Str.ofString "k"), (Str.ofString "row"), (Str.ofString "n"), (Str.ofString "j")], [(Str.ofString "k")]⟩,
  ⟨(Str.ofString "_law_value"), top 54, [(Str.ofString "f"), (Str.ofString "x"), (Str.ofString "total"), (Str.ofString "c")], [(Str.ofString "f"), (Str.ofString "x")]⟩,
  ⟨(Str.ofString "law"), top 55, [(Str.ofString "script"), (Str.ofString "state"), (Str.ofString "g"), (Str.ofString "most"), (Str.ofString "rows"), (Str.ofString "turn"), (Str.ofString "k"), (Str.ofString "smooth"), (Str.ofString "due"), (Str.ofString "h"), (Str.ofString "told"), (Str.ofString "power"), (Str.ofString "b"), (Str.ofString "bad"), (Str.ofString "x"), (Str.ofString "c")], [(Str.ofString "script")]⟩]
def sg : Sg := ⟨[(Str.ofString "is_integer"), (Str.ofString "raised_to"), (Str.ofString "greatest_common"), (Str.ofString "factorial_of"), (Str.ofString "chosen_of"), (Str.ofString "lowest"), (Str.ofString "ratio"), (Str.ofString "ratio_sum"), (Str.ofString "ratio_less"), (Str.ofString "ratio_product"), (Str.ofString "ratio_over"), (Str.ofString "odd_factorial"), (Str.ofString "trimmed"), (Str.ofString "polygon_row"), (Str.ofString "without_leaves"), (Str.ofString "without_pairs"), (Str.ofString "lean_row"), (Str.ofString "through_values"), (Str.ofString "check_genus"), (Str.ofString "check_polygon"), (Str.ofString "polygon_number"), (Str.ofString "check_above"), (Str.ofString "smooth_polygon_number"), (Str.ofString "lean_polygon_number"), (Str.ofString "polygon_mean"), (Str.ofString "polygon_polynomial"), (Str.ofString "smooth_by_polygons"), (Str.ofString "_law_state"), (Str.ofString "_law_take"), (Str.ofString "_law_odd"), (Str.ofString "_law_honest"), (Str.ofString "_law_is_whole"), (Str.ofString "_law_same"), (Str.ofString "_law_common"), (Str.ofString "_law_ratio"), (Str.ofString "_law_plus"), (Str.ofString "_law_minus"), (Str.ofString "_law_times"), (Str.ofString "_law_is_ratio"), (Str.ofString "_law_factorial"), (Str.ofString "_law_polygons"), (Str.ofString "_law_chosen"), (Str.ofString "_law_taken_out"), (Str.ofString "_law_told"), (Str.ofString "_law_bernoulli"), (Str.ofString "_law_value"), (Str.ofString "law")], [((Str.ofString "MOST_GENUS"), .int 6), ((Str.ofString "MOST_POLYGON"), .int 40)], [(Str.ofString "Fault"), (Str.ofString "Malformed")]⟩
set_option maxRecDepth 1000000 in
theorem chk : chkDs sg tx P.defs = true := by decide +kernel
set_option maxHeartbeats 0 in
theorem all_mk {w : World} {K : PySem.W.Frag} {h : Heap} {mg : Str → Option Value} {fa : Addr} {f0 f1 f2 f3 f4 f5 f6 f7 f8 f9 f10 f11 f12 f13 f14 f15 f16 f17 f18 f19 f20 f21 f22 f23 f24 f25 f26 f27 f28 f29 f30 f31 f32 f33 f34 f35 f36 f37 f38 f39 f40 f41 f42 f43 f44 f45 f46 C0 C1 : Addr} (X : K.In h) (G : h.Ns mainGlobals mg) (hfa : mg "law" = some (.ref fa))
    {od0 an0 : Option Addr} {sl0 : Array (Option Value)} {oc0 kV0 dc0 pm0 cd0 ct0 : Value}
    {od1 an1 : Option Addr} {sl1 : Array (Option Value)} {oc1 kV1 dc1 pm1 cd1 ct1 : Value}
    {od2 an2 : Option Addr} {sl2 : Array (Option Value)} {oc2 kV2 dc2 pm2 cd2 ct2 : Value}
    {od3 an3 : Option Addr} {sl3 : Array (Option Value)} {oc3 kV3 dc3 pm3 cd3 ct3 : Value}
    {od4 an4 : Option Addr} {sl4 : Array (Option Value)} {oc4 kV4 dc4 pm4 cd4 ct4 : Value}
    {od5 an5 : Option Addr} {sl5 : Array (Option Value)} {oc5 kV5 dc5 pm5 cd5 ct5 : Value}
    {od6 an6 : Option Addr} {sl6 : Array (Option Value)} {oc6 kV6 dc6 pm6 cd6 ct6 : Value}
    {od7 an7 : Option Addr} {sl7 : Array (Option Value)} {oc7 kV7 dc7 pm7 cd7 ct7 : Value}
    {od8 an8 : Option Addr} {sl8 : Array (Option Value)} {oc8 kV8 dc8 pm8 cd8 ct8 : Value}
    {od9 an9 : Option Addr} {sl9 : Array (Option Value)} {oc9 kV9 dc9 pm9 cd9 ct9 : Value}
    {od10 an10 : Option Addr} {sl10 : Array (Option Value)} {oc10 kV10 dc10 pm10 cd10 ct10 : Value}
    {od11 an11 : Option Addr} {sl11 : Array (Option Value)} {oc11 kV11 dc11 pm11 cd11 ct11 : Value}
    {od12 an12 : Option Addr} {sl12 : Array (Option Value)} {oc12 kV12 dc12 pm12 cd12 ct12 : Value}
    {od13 an13 : Option Addr} {sl13 : Array (Option Value)} {oc13 kV13 dc13 pm13 cd13 ct13 : Value}
    {od14 an14 : Option Addr} {sl14 : Array (Option Value)} {oc14 kV14 dc14 pm14 cd14 ct14 : Value}
    {od15 an15 : Option Addr} {sl15 : Array (Option Value)} {oc15 kV15 dc15 pm15 cd15 ct15 : Value}
    {od16 an16 : Option Addr} {sl16 : Array (Option Value)} {oc16 kV16 dc16 pm16 cd16 ct16 : Value}
    {od17 an17 : Option Addr} {sl17 : Array (Option Value)} {oc17 kV17 dc17 pm17 cd17 ct17 : Value}
    {od18 an18 : Option Addr} {sl18 : Array (Option Value)} {oc18 kV18 dc18 pm18 cd18 ct18 : Value}
    {od19 an19 : Option Addr} {sl19 : Array (Option Value)} {oc19 kV19 dc19 pm19 cd19 ct19 : Value}
    {od20 an20 : Option Addr} {sl20 : Array (Option Value)} {oc20 kV20 dc20 pm20 cd20 ct20 : Value}
    {od21 an21 : Option Addr} {sl21 : Array (Option Value)} {oc21 kV21 dc21 pm21 cd21 ct21 : Value}
    {od22 an22 : Option Addr} {sl22 : Array (Option Value)} {oc22 kV22 dc22 pm22 cd22 ct22 : Value}
    {od23 an23 : Option Addr} {sl23 : Array (Option Value)} {oc23 kV23 dc23 pm23 cd23 ct23 : Value}
    {od24 an24 : Option Addr} {sl24 : Array (Option Value)} {oc24 kV24 dc24 pm24 cd24 ct24 : Value}
    {od25 an25 : Option Addr} {sl25 : Array (Option Value)} {oc25 kV25 dc25 pm25 cd25 ct25 : Value}
    {od26 an26 : Option Addr} {sl26 : Array (Option Value)} {oc26 kV26 dc26 pm26 cd26 ct26 : Value}
    {od27 an27 : Option Addr} {sl27 : Array (Option Value)} {oc27 kV27 dc27 pm27 cd27 ct27 : Value}
    {od28 an28 : Option Addr} {sl28 : Array (Option Value)} {oc28 kV28 dc28 pm28 cd28 ct28 : Value}
    {od29 an29 : Option Addr} {sl29 : Array (Option Value)} {oc29 kV29 dc29 pm29 cd29 ct29 : Value}
    {od30 an30 : Option Addr} {sl30 : Array (Option Value)} {oc30 kV30 dc30 pm30 cd30 ct30 : Value}
    {od31 an31 : Option Addr} {sl31 : Array (Option Value)} {oc31 kV31 dc31 pm31 cd31 ct31 : Value}
    {od32 an32 : Option Addr} {sl32 : Array (Option Value)} {oc32 kV32 dc32 pm32 cd32 ct32 : Value}
    {od33 an33 : Option Addr} {sl33 : Array (Option Value)} {oc33 kV33 dc33 pm33 cd33 ct33 : Value}
    {od34 an34 : Option Addr} {sl34 : Array (Option Value)} {oc34 kV34 dc34 pm34 cd34 ct34 : Value}
    {od35 an35 : Option Addr} {sl35 : Array (Option Value)} {oc35 kV35 dc35 pm35 cd35 ct35 : Value}
    {od36 an36 : Option Addr} {sl36 : Array (Option Value)} {oc36 kV36 dc36 pm36 cd36 ct36 : Value}
    {od37 an37 : Option Addr} {sl37 : Array (Option Value)} {oc37 kV37 dc37 pm37 cd37 ct37 : Value}
    {od38 an38 : Option Addr} {sl38 : Array (Option Value)} {oc38 kV38 dc38 pm38 cd38 ct38 : Value}
    {od39 an39 : Option Addr} {sl39 : Array (Option Value)} {oc39 kV39 dc39 pm39 cd39 ct39 : Value}
    {od40 an40 : Option Addr} {sl40 : Array (Option Value)} {oc40 kV40 dc40 pm40 cd40 ct40 : Value}
    {od41 an41 : Option Addr} {sl41 : Array (Option Value)} {oc41 kV41 dc41 pm41 cd41 ct41 : Value}
    {od42 an42 : Option Addr} {sl42 : Array (Option Value)} {oc42 kV42 dc42 pm42 cd42 ct42 : Value}
    {od43 an43 : Option Addr} {sl43 : Array (Option Value)} {oc43 kV43 dc43 pm43 cd43 ct43 : Value}
    {od44 an44 : Option Addr} {sl44 : Array (Option Value)} {oc44 kV44 dc44 pm44 cd44 ct44 : Value}
    {od45 an45 : Option Addr} {sl45 : Array (Option Value)} {oc45 kV45 dc45 pm45 cd45 ct45 : Value}
    {od46 an46 : Option Addr} {sl46 : Array (Option Value)} {oc46 kV46 dc46 pm46 cd46 ct46 : Value}
    (a0 : PySem.W.nsIn K mainGlobals "is_integer" = some (some (.ref f0))) (l0 : K.lookup f0 = some ⟨oc0, od0, .func (PySem.W.fnOf "is_integer" "is_integer" (L2.defArgs (top 4)) (L2.defBody (top 4)) (L2.defScope (top 4)) .none kV0 dc0 pm0 an0 cd0 ct0), sl0⟩) (c0 : PySem.W.codeIn K cd0 "is_integer" = true) (k0 : PySem.W.keepIn K (.ref f0) = true)
    (a1 : PySem.W.nsIn K mainGlobals "raised_to" = some (some (.ref f1))) (l1 : K.lookup f1 = some ⟨oc1, od1, .func (PySem.W.fnOf "raised_to" "raised_to" (L2.defArgs (top 5)) (L2.defBody (top 5)) (L2.defScope (top 5)) .none kV1 dc1 pm1 an1 cd1 ct1), sl1⟩) (c1 : PySem.W.codeIn K cd1 "raised_to" = true) (k1 : PySem.W.keepIn K (.ref f1) = true)
    (a2 : PySem.W.nsIn K mainGlobals "greatest_common" = some (some (.ref f2))) (l2 : K.lookup f2 = some ⟨oc2, od2, .func (PySem.W.fnOf "greatest_common" "greatest_common" (L2.defArgs (top 6)) (L2.defBody (top 6)) (L2.defScope (top 6)) .none kV2 dc2 pm2 an2 cd2 ct2), sl2⟩) (c2 : PySem.W.codeIn K cd2 "greatest_common" = true) (k2 : PySem.W.keepIn K (.ref f2) = true)
    (a3 : PySem.W.nsIn K mainGlobals "factorial_of" = some (some (.ref f3))) (l3 : K.lookup f3 = some ⟨oc3, od3, .func (PySem.W.fnOf "factorial_of" "factorial_of" (L2.defArgs (top 7)) (L2.defBody (top 7)) (L2.defScope (top 7)) .none kV3 dc3 pm3 an3 cd3 ct3), sl3⟩) (c3 : PySem.W.codeIn K cd3 "factorial_of" = true) (k3 : PySem.W.keepIn K (.ref f3) = true)
    (a4 : PySem.W.nsIn K mainGlobals "chosen_of" = some (some (.ref f4))) (l4 : K.lookup f4 = some ⟨oc4, od4, .func (PySem.W.fnOf "chosen_of" "chosen_of" (L2.defArgs (top 8)) (L2.defBody (top 8)) (L2.defScope (top 8)) .none kV4 dc4 pm4 an4 cd4 ct4), sl4⟩) (c4 : PySem.W.codeIn K cd4 "chosen_of" = true) (k4 : PySem.W.keepIn K (.ref f4) = true)
    (a5 : PySem.W.nsIn K mainGlobals "lowest" = some (some (.ref f5))) (l5 : K.lookup f5 = some ⟨oc5, od5, .func (PySem.W.fnOf "lowest" "lowest" (L2.defArgs (top 9)) (L2.defBody (top 9)) (L2.defScope (top 9)) .none kV5 dc5 pm5 an5 cd5 ct5), sl5⟩) (c5 : PySem.W.codeIn K cd5 "lowest" = true) (k5 : PySem.W.keepIn K (.ref f5) = true)
    (a6 : PySem.W.nsIn K mainGlobals "ratio" = some (some (.ref f6))) (l6 : K.lookup f6 = some ⟨oc6, od6, .func (PySem.W.fnOf "ratio" "ratio" (L2.defArgs (top 10)) (L2.defBody (top 10)) (L2.defScope (top 10)) .none kV6 dc6 pm6 an6 cd6 ct6), sl6⟩) (c6 : PySem.W.codeIn K cd6 "ratio" = true) (k6 : PySem.W.keepIn K (.ref f6) = true)
    (a7 : PySem.W.nsIn K mainGlobals "ratio_sum" = some (some (.ref f7))) (l7 : K.lookup f7 = some ⟨oc7, od7, .func (PySem.W.fnOf "ratio_sum" "ratio_sum" (L2.defArgs (top 11)) (L2.defBody (top 11)) (L2.defScope (top 11)) .none kV7 dc7 pm7 an7 cd7 ct7), sl7⟩) (c7 : PySem.W.codeIn K cd7 "ratio_sum" = true) (k7 : PySem.W.keepIn K (.ref f7) = true)
    (a8 : PySem.W.nsIn K mainGlobals "ratio_less" = some (some (.ref f8))) (l8 : K.lookup f8 = some ⟨oc8, od8, .func (PySem.W.fnOf "ratio_less" "ratio_less" (L2.defArgs (top 12)) (L2.defBody (top 12)) (L2.defScope (top 12)) .none kV8 dc8 pm8 an8 cd8 ct8), sl8⟩) (c8 : PySem.W.codeIn K cd8 "ratio_less" = true) (k8 : PySem.W.keepIn K (.ref f8) = true)
    (a9 : PySem.W.nsIn K mainGlobals "ratio_product" = some (some (.ref f9))) (l9 : K.lookup f9 = some ⟨oc9, od9, .func (PySem.W.fnOf "ratio_product" "ratio_product" (L2.defArgs (top 13)) (L2.defBody (top 13)) (L2.defScope (top 13)) .none kV9 dc9 pm9 an9 cd9 ct9), sl9⟩) (c9 : PySem.W.codeIn K cd9 "ratio_product" = true) (k9 : PySem.W.keepIn K (.ref f9) = true)
    (a10 : PySem.W.nsIn K mainGlobals "ratio_over" = some (some (.ref f10))) (l10 : K.lookup f10 = some ⟨oc10, od10, .func (PySem.W.fnOf "ratio_over" "ratio_over" (L2.defArgs (top 14)) (L2.defBody (top 14)) (L2.defScope (top 14)) .none kV10 dc10 pm10 an10 cd10 ct10), sl10⟩) (c10 : PySem.W.codeIn K cd10 "ratio_over" = true) (k10 : PySem.W.keepIn K (.ref f10) = true)
    (a11 : PySem.W.nsIn K mainGlobals "odd_factorial" = some (some (.ref f11))) (l11 : K.lookup f11 = some ⟨oc11, od11, .func (PySem.W.fnOf "odd_factorial" "odd_factorial" (L2.defArgs (top 15)) (L2.defBody (top 15)) (L2.defScope (top 15)) .none kV11 dc11 pm11 an11 cd11 ct11), sl11⟩) (c11 : PySem.W.codeIn K cd11 "odd_factorial" = true) (k11 : PySem.W.keepIn K (.ref f11) = true)
    (a12 : PySem.W.nsIn K mainGlobals "trimmed" = some (some (.ref f12))) (l12 : K.lookup f12 = some ⟨oc12, od12, .func (PySem.W.fnOf "trimmed" "trimmed" (L2.defArgs (top 17)) (L2.defBody (top 17)) (L2.defScope (top 17)) .none kV12 dc12 pm12 an12 cd12 ct12), sl12⟩) (c12 : PySem.W.codeIn K cd12 "trimmed" = true) (k12 : PySem.W.keepIn K (.ref f12) = true)
    (a13 : PySem.W.nsIn K mainGlobals "polygon_row" = some (some (.ref f13))) (l13 : K.lookup f13 = some ⟨oc13, od13, .func (PySem.W.fnOf "polygon_row" "polygon_row" (L2.defArgs (top 18)) (L2.defBody (top 18)) (L2.defScope (top 18)) .none kV13 dc13 pm13 an13 cd13 ct13), sl13⟩) (c13 : PySem.W.codeIn K cd13 "polygon_row" = true) (k13 : PySem.W.keepIn K (.ref f13) = true)
    (a14 : PySem.W.nsIn K mainGlobals "without_leaves" = some (some (.ref f14))) (l14 : K.lookup f14 = some ⟨oc14, od14, .func (PySem.W.fnOf "without_leaves" "without_leaves" (L2.defArgs (top 19)) (L2.defBody (top 19)) (L2.defScope (top 19)) .none kV14 dc14 pm14 an14 cd14 ct14), sl14⟩) (c14 : PySem.W.codeIn K cd14 "without_leaves" = true) (k14 : PySem.W.keepIn K (.ref f14) = true)
    (a15 : PySem.W.nsIn K mainGlobals "without_pairs" = some (some (.ref f15))) (l15 : K.lookup f15 = some ⟨oc15, od15, .func (PySem.W.fnOf "without_pairs" "without_pairs" (L2.defArgs (top 20)) (L2.defBody (top 20)) (L2.defScope (top 20)) .none kV15 dc15 pm15 an15 cd15 ct15), sl15⟩) (c15 : PySem.W.codeIn K cd15 "without_pairs" = true) (k15 : PySem.W.keepIn K (.ref f15) = true)
    (a16 : PySem.W.nsIn K mainGlobals "lean_row" = some (some (.ref f16))) (l16 : K.lookup f16 = some ⟨oc16, od16, .func (PySem.W.fnOf "lean_row" "lean_row" (L2.defArgs (top 21)) (L2.defBody (top 21)) (L2.defScope (top 21)) .none kV16 dc16 pm16 an16 cd16 ct16), sl16⟩) (c16 : PySem.W.codeIn K cd16 "lean_row" = true) (k16 : PySem.W.keepIn K (.ref f16) = true)
    (a17 : PySem.W.nsIn K mainGlobals "through_values" = some (some (.ref f17))) (l17 : K.lookup f17 = some ⟨oc17, od17, .func (PySem.W.fnOf "through_values" "through_values" (L2.defArgs (top 22)) (L2.defBody (top 22)) (L2.defScope (top 22)) .none kV17 dc17 pm17 an17 cd17 ct17), sl17⟩) (c17 : PySem.W.codeIn K cd17 "through_values" = true) (k17 : PySem.W.keepIn K (.ref f17) = true)
    (a18 : PySem.W.nsIn K mainGlobals "check_genus" = some (some (.ref f18))) (l18 : K.lookup f18 = some ⟨oc18, od18, .func (PySem.W.fnOf "check_genus" "check_genus" (L2.defArgs (top 26)) (L2.defBody (top 26)) (L2.defScope (top 26)) .none kV18 dc18 pm18 an18 cd18 ct18), sl18⟩) (c18 : PySem.W.codeIn K cd18 "check_genus" = true) (k18 : PySem.W.keepIn K (.ref f18) = true)
    (a19 : PySem.W.nsIn K mainGlobals "check_polygon" = some (some (.ref f19))) (l19 : K.lookup f19 = some ⟨oc19, od19, .func (PySem.W.fnOf "check_polygon" "check_polygon" (L2.defArgs (top 27)) (L2.defBody (top 27)) (L2.defScope (top 27)) .none kV19 dc19 pm19 an19 cd19 ct19), sl19⟩) (c19 : PySem.W.codeIn K cd19 "check_polygon" = true) (k19 : PySem.W.keepIn K (.ref f19) = true)
    (a20 : PySem.W.nsIn K mainGlobals "polygon_number" = some (some (.ref f20))) (l20 : K.lookup f20 = some ⟨oc20, od20, .func (PySem.W.fnOf "polygon_number" "polygon_number" (L2.defArgs (top 28)) (L2.defBody (top 28)) (L2.defScope (top 28)) .none kV20 dc20 pm20 an20 cd20 ct20), sl20⟩) (c20 : PySem.W.codeIn K cd20 "polygon_number" = true) (k20 : PySem.W.keepIn K (.ref f20) = true)
    (a21 : PySem.W.nsIn K mainGlobals "check_above" = some (some (.ref f21))) (l21 : K.lookup f21 = some ⟨oc21, od21, .func (PySem.W.fnOf "check_above" "check_above" (L2.defArgs (top 29)) (L2.defBody (top 29)) (L2.defScope (top 29)) .none kV21 dc21 pm21 an21 cd21 ct21), sl21⟩) (c21 : PySem.W.codeIn K cd21 "check_above" = true) (k21 : PySem.W.keepIn K (.ref f21) = true)
    (a22 : PySem.W.nsIn K mainGlobals "smooth_polygon_number" = some (some (.ref f22))) (l22 : K.lookup f22 = some ⟨oc22, od22, .func (PySem.W.fnOf "smooth_polygon_number" "smooth_polygon_number" (L2.defArgs (top 30)) (L2.defBody (top 30)) (L2.defScope (top 30)) .none kV22 dc22 pm22 an22 cd22 ct22), sl22⟩) (c22 : PySem.W.codeIn K cd22 "smooth_polygon_number" = true) (k22 : PySem.W.keepIn K (.ref f22) = true)
    (a23 : PySem.W.nsIn K mainGlobals "lean_polygon_number" = some (some (.ref f23))) (l23 : K.lookup f23 = some ⟨oc23, od23, .func (PySem.W.fnOf "lean_polygon_number" "lean_polygon_number" (L2.defArgs (top 31)) (L2.defBody (top 31)) (L2.defScope (top 31)) .none kV23 dc23 pm23 an23 cd23 ct23), sl23⟩) (c23 : PySem.W.codeIn K cd23 "lean_polygon_number" = true) (k23 : PySem.W.keepIn K (.ref f23) = true)
    (a24 : PySem.W.nsIn K mainGlobals "polygon_mean" = some (some (.ref f24))) (l24 : K.lookup f24 = some ⟨oc24, od24, .func (PySem.W.fnOf "polygon_mean" "polygon_mean" (L2.defArgs (top 32)) (L2.defBody (top 32)) (L2.defScope (top 32)) .none kV24 dc24 pm24 an24 cd24 ct24), sl24⟩) (c24 : PySem.W.codeIn K cd24 "polygon_mean" = true) (k24 : PySem.W.keepIn K (.ref f24) = true)
    (a25 : PySem.W.nsIn K mainGlobals "polygon_polynomial" = some (some (.ref f25))) (l25 : K.lookup f25 = some ⟨oc25, od25, .func (PySem.W.fnOf "polygon_polynomial" "polygon_polynomial" (L2.defArgs (top 33)) (L2.defBody (top 33)) (L2.defScope (top 33)) .none kV25 dc25 pm25 an25 cd25 ct25), sl25⟩) (c25 : PySem.W.codeIn K cd25 "polygon_polynomial" = true) (k25 : PySem.W.keepIn K (.ref f25) = true)
    (a26 : PySem.W.nsIn K mainGlobals "smooth_by_polygons" = some (some (.ref f26))) (l26 : K.lookup f26 = some ⟨oc26, od26, .func (PySem.W.fnOf "smooth_by_polygons" "smooth_by_polygons" (L2.defArgs (top 34)) (L2.defBody (top 34)) (L2.defScope (top 34)) .none kV26 dc26 pm26 an26 cd26 ct26), sl26⟩) (c26 : PySem.W.codeIn K cd26 "smooth_by_polygons" = true) (k26 : PySem.W.keepIn K (.ref f26) = true)
    (a27 : PySem.W.nsIn K mainGlobals "_law_state" = some (some (.ref f27))) (l27 : K.lookup f27 = some ⟨oc27, od27, .func (PySem.W.fnOf "_law_state" "_law_state" (L2.defArgs (top 36)) (L2.defBody (top 36)) (L2.defScope (top 36)) .none kV27 dc27 pm27 an27 cd27 ct27), sl27⟩) (c27 : PySem.W.codeIn K cd27 "_law_state" = true) (k27 : PySem.W.keepIn K (.ref f27) = true)
    (a28 : PySem.W.nsIn K mainGlobals "_law_take" = some (some (.ref f28))) (l28 : K.lookup f28 = some ⟨oc28, od28, .func (PySem.W.fnOf "_law_take" "_law_take" (L2.defArgs (top 37)) (L2.defBody (top 37)) (L2.defScope (top 37)) .none kV28 dc28 pm28 an28 cd28 ct28), sl28⟩) (c28 : PySem.W.codeIn K cd28 "_law_take" = true) (k28 : PySem.W.keepIn K (.ref f28) = true)
    (a29 : PySem.W.nsIn K mainGlobals "_law_odd" = some (some (.ref f29))) (l29 : K.lookup f29 = some ⟨oc29, od29, .func (PySem.W.fnOf "_law_odd" "_law_odd" (L2.defArgs (top 38)) (L2.defBody (top 38)) (L2.defScope (top 38)) .none kV29 dc29 pm29 an29 cd29 ct29), sl29⟩) (c29 : PySem.W.codeIn K cd29 "_law_odd" = true) (k29 : PySem.W.keepIn K (.ref f29) = true)
    (a30 : PySem.W.nsIn K mainGlobals "_law_honest" = some (some (.ref f30))) (l30 : K.lookup f30 = some ⟨oc30, od30, .func (PySem.W.fnOf "_law_honest" "_law_honest" (L2.defArgs (top 39)) (L2.defBody (top 39)) (L2.defScope (top 39)) .none kV30 dc30 pm30 an30 cd30 ct30), sl30⟩) (c30 : PySem.W.codeIn K cd30 "_law_honest" = true) (k30 : PySem.W.keepIn K (.ref f30) = true)
    (a31 : PySem.W.nsIn K mainGlobals "_law_is_whole" = some (some (.ref f31))) (l31 : K.lookup f31 = some ⟨oc31, od31, .func (PySem.W.fnOf "_law_is_whole" "_law_is_whole" (L2.defArgs (top 40)) (L2.defBody (top 40)) (L2.defScope (top 40)) .none kV31 dc31 pm31 an31 cd31 ct31), sl31⟩) (c31 : PySem.W.codeIn K cd31 "_law_is_whole" = true) (k31 : PySem.W.keepIn K (.ref f31) = true)
    (a32 : PySem.W.nsIn K mainGlobals "_law_same" = some (some (.ref f32))) (l32 : K.lookup f32 = some ⟨oc32, od32, .func (PySem.W.fnOf "_law_same" "_law_same" (L2.defArgs (top 41)) (L2.defBody (top 41)) (L2.defScope (top 41)) .none kV32 dc32 pm32 an32 cd32 ct32), sl32⟩) (c32 : PySem.W.codeIn K cd32 "_law_same" = true) (k32 : PySem.W.keepIn K (.ref f32) = true)
    (a33 : PySem.W.nsIn K mainGlobals "_law_common" = some (some (.ref f33))) (l33 : K.lookup f33 = some ⟨oc33, od33, .func (PySem.W.fnOf "_law_common" "_law_common" (L2.defArgs (top 42)) (L2.defBody (top 42)) (L2.defScope (top 42)) .none kV33 dc33 pm33 an33 cd33 ct33), sl33⟩) (c33 : PySem.W.codeIn K cd33 "_law_common" = true) (k33 : PySem.W.keepIn K (.ref f33) = true)
    (a34 : PySem.W.nsIn K mainGlobals "_law_ratio" = some (some (.ref f34))) (l34 : K.lookup f34 = some ⟨oc34, od34, .func (PySem.W.fnOf "_law_ratio" "_law_ratio" (L2.defArgs (top 43)) (L2.defBody (top 43)) (L2.defScope (top 43)) .none kV34 dc34 pm34 an34 cd34 ct34), sl34⟩) (c34 : PySem.W.codeIn K cd34 "_law_ratio" = true) (k34 : PySem.W.keepIn K (.ref f34) = true)
    (a35 : PySem.W.nsIn K mainGlobals "_law_plus" = some (some (.ref f35))) (l35 : K.lookup f35 = some ⟨oc35, od35, .func (PySem.W.fnOf "_law_plus" "_law_plus" (L2.defArgs (top 44)) (L2.defBody (top 44)) (L2.defScope (top 44)) .none kV35 dc35 pm35 an35 cd35 ct35), sl35⟩) (c35 : PySem.W.codeIn K cd35 "_law_plus" = true) (k35 : PySem.W.keepIn K (.ref f35) = true)
    (a36 : PySem.W.nsIn K mainGlobals "_law_minus" = some (some (.ref f36))) (l36 : K.lookup f36 = some ⟨oc36, od36, .func (PySem.W.fnOf "_law_minus" "_law_minus" (L2.defArgs (top 45)) (L2.defBody (top 45)) (L2.defScope (top 45)) .none kV36 dc36 pm36 an36 cd36 ct36), sl36⟩) (c36 : PySem.W.codeIn K cd36 "_law_minus" = true) (k36 : PySem.W.keepIn K (.ref f36) = true)
    (a37 : PySem.W.nsIn K mainGlobals "_law_times" = some (some (.ref f37))) (l37 : K.lookup f37 = some ⟨oc37, od37, .func (PySem.W.fnOf "_law_times" "_law_times" (L2.defArgs (top 46)) (L2.defBody (top 46)) (L2.defScope (top 46)) .none kV37 dc37 pm37 an37 cd37 ct37), sl37⟩) (c37 : PySem.W.codeIn K cd37 "_law_times" = true) (k37 : PySem.W.keepIn K (.ref f37) = true)
    (a38 : PySem.W.nsIn K mainGlobals "_law_is_ratio" = some (some (.ref f38))) (l38 : K.lookup f38 = some ⟨oc38, od38, .func (PySem.W.fnOf "_law_is_ratio" "_law_is_ratio" (L2.defArgs (top 47)) (L2.defBody (top 47)) (L2.defScope (top 47)) .none kV38 dc38 pm38 an38 cd38 ct38), sl38⟩) (c38 : PySem.W.codeIn K cd38 "_law_is_ratio" = true) (k38 : PySem.W.keepIn K (.ref f38) = true)
    (a39 : PySem.W.nsIn K mainGlobals "_law_factorial" = some (some (.ref f39))) (l39 : K.lookup f39 = some ⟨oc39, od39, .func (PySem.W.fnOf "_law_factorial" "_law_factorial" (L2.defArgs (top 48)) (L2.defBody (top 48)) (L2.defScope (top 48)) .none kV39 dc39 pm39 an39 cd39 ct39), sl39⟩) (c39 : PySem.W.codeIn K cd39 "_law_factorial" = true) (k39 : PySem.W.keepIn K (.ref f39) = true)
    (a40 : PySem.W.nsIn K mainGlobals "_law_polygons" = some (some (.ref f40))) (l40 : K.lookup f40 = some ⟨oc40, od40, .func (PySem.W.fnOf "_law_polygons" "_law_polygons" (L2.defArgs (top 49)) (L2.defBody (top 49)) (L2.defScope (top 49)) .none kV40 dc40 pm40 an40 cd40 ct40), sl40⟩) (c40 : PySem.W.codeIn K cd40 "_law_polygons" = true) (k40 : PySem.W.keepIn K (.ref f40) = true)
    (a41 : PySem.W.nsIn K mainGlobals "_law_chosen" = some (some (.ref f41))) (l41 : K.lookup f41 = some ⟨oc41, od41, .func (PySem.W.fnOf "_law_chosen" "_law_chosen" (L2.defArgs (top 50)) (L2.defBody (top 50)) (L2.defScope (top 50)) .none kV41 dc41 pm41 an41 cd41 ct41), sl41⟩) (c41 : PySem.W.codeIn K cd41 "_law_chosen" = true) (k41 : PySem.W.keepIn K (.ref f41) = true)
    (a42 : PySem.W.nsIn K mainGlobals "_law_taken_out" = some (some (.ref f42))) (l42 : K.lookup f42 = some ⟨oc42, od42, .func (PySem.W.fnOf "_law_taken_out" "_law_taken_out" (L2.defArgs (top 51)) (L2.defBody (top 51)) (L2.defScope (top 51)) .none kV42 dc42 pm42 an42 cd42 ct42), sl42⟩) (c42 : PySem.W.codeIn K cd42 "_law_taken_out" = true) (k42 : PySem.W.keepIn K (.ref f42) = true)
    (a43 : PySem.W.nsIn K mainGlobals "_law_told" = some (some (.ref f43))) (l43 : K.lookup f43 = some ⟨oc43, od43, .func (PySem.W.fnOf "_law_told" "_law_told" (L2.defArgs (top 52)) (L2.defBody (top 52)) (L2.defScope (top 52)) .none kV43 dc43 pm43 an43 cd43 ct43), sl43⟩) (c43 : PySem.W.codeIn K cd43 "_law_told" = true) (k43 : PySem.W.keepIn K (.ref f43) = true)
    (a44 : PySem.W.nsIn K mainGlobals "_law_bernoulli" = some (some (.ref f44))) (l44 : K.lookup f44 = some ⟨oc44, od44, .func (PySem.W.fnOf "_law_bernoulli" "_law_bernoulli" (L2.defArgs (top 53)) (L2.defBody (top 53)) (L2.defScope (top 53)) .none kV44 dc44 pm44 an44 cd44 ct44), sl44⟩) (c44 : PySem.W.codeIn K cd44 "_law_bernoulli" = true) (k44 : PySem.W.keepIn K (.ref f44) = true)
    (a45 : PySem.W.nsIn K mainGlobals "_law_value" = some (some (.ref f45))) (l45 : K.lookup f45 = some ⟨oc45, od45, .func (PySem.W.fnOf "_law_value" "_law_value" (L2.defArgs (top 54)) (L2.defBody (top 54)) (L2.defScope (top 54)) .none kV45 dc45 pm45 an45 cd45 ct45), sl45⟩) (c45 : PySem.W.codeIn K cd45 "_law_value" = true) (k45 : PySem.W.keepIn K (.ref f45) = true)
    (a46 : PySem.W.nsIn K mainGlobals "law" = some (some (.ref f46))) (l46 : K.lookup f46 = some ⟨oc46, od46, .func (PySem.W.fnOf "law" "law" (L2.defArgs (top 55)) (L2.defBody (top 55)) (L2.defScope (top 55)) .none kV46 dc46 pm46 an46 cd46 ct46), sl46⟩) (c46 : PySem.W.codeIn K cd46 "law" = true) (k46 : PySem.W.keepIn K (.ref f46) = true)
    (xa0 : PySem.W.nsIn K mainGlobals "Fault" = some (some (.ref C0))) (xi0 : PySem.W.excIn K C0 [.type "ValueError", .type "Exception", .type "BaseException", .type "object"] "ValueError.__new__" = true) (xk0 : PySem.W.keepIn K (.ref C0) = true) (xb0 : PySem.W.subIn K (.ref C0) (.type "BaseException") = some true) (xt0 : PySem.W.typeIn K (.ref C0) = some (.type "type")) (xc0 : PySem.W.isClsIn K C0 = true)
    (xa1 : PySem.W.nsIn K mainGlobals "Malformed" = some (some (.ref C1))) (xi1 : PySem.W.excIn K C1 [.type "ValueError", .type "Exception", .type "BaseException", .type "object"] "ValueError.__new__" = true) (xk1 : PySem.W.keepIn K (.ref C1) = true) (xb1 : PySem.W.subIn K (.ref C1) (.type "BaseException") = some true) (xt1 : PySem.W.typeIn K (.ref C1) = some (.type "type")) (xc1 : PySem.W.isClsIn K C1 = true)
    (xs0_0 : PySem.W.subIn K (.ref C0) (.ref C0) = some true)
    (xs0_1 : PySem.W.subIn K (.ref C0) (.ref C1) = some false)
    (xs1_0 : PySem.W.subIn K (.ref C1) (.ref C0) = some true)
    (xs1_1 : PySem.W.subIn K (.ref C1) (.ref C1) = some true)
    {tk0 : Tok} (m0 : PySem.W.nsIn K mainGlobals "MOST_GENUS" = some (some (.int 6 tk0)))
    {tk1 : Tok} (m1 : PySem.W.nsIn K mainGlobals "MOST_POLYGON" = some (some (.int 40 tk1)))
    (z0 : PySem.W.nsIn K mainGlobals "len" = some none)
    (z1 : PySem.W.nsIn K mainGlobals "abs" = some none)
    (z2 : PySem.W.nsIn K mainGlobals "int" = some none)
    (z3 : PySem.W.nsIn K mainGlobals "tuple" = some none)
    (z4 : PySem.W.nsIn K mainGlobals "list" = some none)
    (z5 : PySem.W.nsIn K mainGlobals "sorted" = some none)
    (z6 : PySem.W.nsIn K mainGlobals "sum" = some none)
    (z7 : PySem.W.nsIn K mainGlobals "all" = some none)
    (z8 : PySem.W.nsIn K mainGlobals "any" = some none)
    (z9 : PySem.W.nsIn K mainGlobals "max" = some none)
    (z10 : PySem.W.nsIn K mainGlobals "min" = some none)
    (z11 : PySem.W.nsIn K mainGlobals "str" = some none)
    (z12 : PySem.W.nsIn K mainGlobals "set" = some none)
    (z13 : PySem.W.nsIn K mainGlobals "isinstance" = some none)
    (z14 : PySem.W.nsIn K mainGlobals "range" = some none)
    (z15 : PySem.W.nsIn K mainGlobals "enumerate" = some none)
    (z16 : PySem.W.nsIn K mainGlobals "zip" = some none)
    (z17 : PySem.W.nsIn K mainGlobals "bool" = some none)
    (z18 : PySem.W.nsIn K mainGlobals "dict" = some none)
    (z19 : PySem.W.nsIn K mainGlobals "reversed" = some none) :
    ∃ R Y, R.gt = [] ∧ TxOk sg R Y P w K mg tx ∧ R.fa 46 = fa := by
  have e := hfa.symm.trans (PySem.W.mg_of X G a46)
  cases e
  refine ⟨⟨K, fun i => ([f0, f1, f2, f3, f4, f5, f6, f7, f8, f9, f10, f11, f12, f13, f14, f15, f16, f17, f18, f19, f20, f21, f22, f23, f24, f25, f26, f27, f28, f29, f30, f31, f32, f33, f34, f35, f36, f37, f38, f39, f40, f41, f42, f43, f44, f45, fa] : List Addr).getD i 0, []⟩, ⟨fun i => .ref (([C0, C1] : List Addr).getD i 0), fun _ => ""⟩, rfl, ⟨rfl, rfl, chk, fun i d e => ?_, fun x d e => ?_, fun x hx => ?_, fun i x e => ?_, fun i j b e => ?_⟩, rfl⟩
  · match i, e with
    | 0, e => cases e; exact ⟨_, PySem.W.mg_of X G a0, fun_mk l0 c0 k0, (fun_mk l0 c0 k0).binds (ps := ["value"]) fun _ _ _ _ _ _ us hl => match us, hl with | [_], _ => rfl⟩
    | 1, e => cases e; exact ⟨_, PySem.W.mg_of X G a1, fun_mk l1 c1 k1, (fun_mk l1 c1 k1).binds (ps := ["a", "e"]) fun _ _ _ _ _ _ us hl => match us, hl with | [_, _], _ => rfl⟩
    | 2, e => cases e; exact ⟨_, PySem.W.mg_of X G a2, fun_mk l2 c2 k2, (fun_mk l2 c2 k2).binds (ps := ["a", "b"]) fun _ _ _ _ _ _ us hl => match us, hl with | [_, _], _ => rfl⟩
    | 3, e => cases e; exact ⟨_, PySem.W.mg_of X G a3, fun_mk l3 c3 k3, (fun_mk l3 c3 k3).binds (ps := ["n"]) fun _ _ _ _ _ _ us hl => match us, hl with | [_], _ => rfl⟩
    | 4, e => cases e; exact ⟨_, PySem.W.mg_of X G a4, fun_mk l4 c4 k4, (fun_mk l4 c4 k4).binds (ps := ["n", "k"]) fun _ _ _ _ _ _ us hl => match us, hl with | [_, _], _ => rfl⟩
    | 5, e => cases e; exact ⟨_, PySem.W.mg_of X G a5, fun_mk l5 c5 k5, (fun_mk l5 c5 k5).binds (ps := ["n", "d"]) fun _ _ _ _ _ _ us hl => match us, hl with | [_, _], _ => rfl⟩
    | 6, e => cases e; exact ⟨_, PySem.W.mg_of X G a6, fun_mk l6 c6 k6, (fun_mk l6 c6 k6).binds (ps := ["n", "d"]) fun _ _ _ _ _ _ us hl => match us, hl with | [_, _], _ => rfl⟩
    | 7, e => cases e; exact ⟨_, PySem.W.mg_of X G a7, fun_mk l7 c7 k7, (fun_mk l7 c7 k7).binds (ps := ["a", "b"]) fun _ _ _ _ _ _ us hl => match us, hl with | [_, _], _ => rfl⟩
    | 8, e => cases e; exact ⟨_, PySem.W.mg_of X G a8, fun_mk l8 c8 k8, (fun_mk l8 c8 k8).binds (ps := ["a", "b"]) fun _ _ _ _ _ _ us hl => match us, hl with | [_, _], _ => rfl⟩
    | 9, e => cases e; exact ⟨_, PySem.W.mg_of X G a9, fun_mk l9 c9 k9, (fun_mk l9 c9 k9).binds (ps := ["a", "b"]) fun _ _ _ _ _ _ us hl => match us, hl with | [_, _], _ => rfl⟩
    | 10, e => cases e; exact ⟨_, PySem.W.mg_of X G a10, fun_mk l10 c10 k10, (fun_mk l10 c10 k10).binds (ps := ["a", "b"]) fun _ _ _ _ _ _ us hl => match us, hl with | [_, _], _ => rfl⟩
    | 11, e => cases e; exact ⟨_, PySem.W.mg_of X G a11, fun_mk l11 c11 k11, (fun_mk l11 c11 k11).binds (ps := ["k"]) fun _ _ _ _ _ _ us hl => match us, hl with | [_], _ => rfl⟩
    | 12, e => cases e; exact ⟨_, PySem.W.mg_of X G a12, fun_mk l12 c12 k12, (fun_mk l12 c12 k12).binds (ps := ["items"]) fun _ _ _ _ _ _ us hl => match us, hl with | [_], _ => rfl⟩
    | 13, e => cases e; exact ⟨_, PySem.W.mg_of X G a13, fun_mk l13 c13 k13, (fun_mk l13 c13 k13).binds (ps := ["g", "most"]) fun _ _ _ _ _ _ us hl => match us, hl with | [_, _], _ => rfl⟩
    | 14, e => cases e; exact ⟨_, PySem.W.mg_of X G a14, fun_mk l14 c14 k14, (fun_mk l14 c14 k14).binds (ps := ["row"]) fun _ _ _ _ _ _ us hl => match us, hl with | [_], _ => rfl⟩
    | 15, e => cases e; exact ⟨_, PySem.W.mg_of X G a15, fun_mk l15 c15 k15, (fun_mk l15 c15 k15).binds (ps := ["row"]) fun _ _ _ _ _ _ us hl => match us, hl with | [_], _ => rfl⟩
    | 16, e => cases e; exact ⟨_, PySem.W.mg_of X G a16, fun_mk l16 c16 k16, (fun_mk l16 c16 k16).binds (ps := ["g", "most"]) fun _ _ _ _ _ _ us hl => match us, hl with | [_, _], _ => rfl⟩
    | 17, e => cases e; exact ⟨_, PySem.W.mg_of X G a17, fun_mk l17 c17 k17, (fun_mk l17 c17 k17).binds (ps := ["values"]) fun _ _ _ _ _ _ us hl => match us, hl with | [_], _ => rfl⟩
    | 18, e => cases e; exact ⟨_, PySem.W.mg_of X G a18, fun_mk l18 c18 k18, (fun_mk l18 c18 k18).binds (ps := ["g"]) fun _ _ _ _ _ _ us hl => match us, hl with | [_], _ => rfl⟩
    | 19, e => cases e; exact ⟨_, PySem.W.mg_of X G a19, fun_mk l19 c19 k19, (fun_mk l19 c19 k19).binds (ps := ["k"]) fun _ _ _ _ _ _ us hl => match us, hl with | [_], _ => rfl⟩
    | 20, e => cases e; exact ⟨_, PySem.W.mg_of X G a20, fun_mk l20 c20 k20, (fun_mk l20 c20 k20).binds (ps := ["g", "k"]) fun _ _ _ _ _ _ us hl => match us, hl with | [_, _], _ => rfl⟩
    | 21, e => cases e; exact ⟨_, PySem.W.mg_of X G a21, fun_mk l21 c21 k21, (fun_mk l21 c21 k21).binds (ps := ["g"]) fun _ _ _ _ _ _ us hl => match us, hl with | [_], _ => rfl⟩
    | 22, e => cases e; exact ⟨_, PySem.W.mg_of X G a22, fun_mk l22 c22 k22, (fun_mk l22 c22 k22).binds (ps := ["g", "k"]) fun _ _ _ _ _ _ us hl => match us, hl with | [_, _], _ => rfl⟩
    | 23, e => cases e; exact ⟨_, PySem.W.mg_of X G a23, fun_mk l23 c23 k23, (fun_mk l23 c23 k23).binds (ps := ["g", "k"]) fun _ _ _ _ _ _ us hl => match us, hl with | [_, _], _ => rfl⟩
    | 24, e => cases e; exact ⟨_, PySem.W.mg_of X G a24, fun_mk l24 c24 k24, (fun_mk l24 c24 k24).binds (ps := ["k"]) fun _ _ _ _ _ _ us hl => match us, hl with | [_], _ => rfl⟩
    | 25, e => cases e; exact ⟨_, PySem.W.mg_of X G a25, fun_mk l25 c25 k25, (fun_mk l25 c25 k25).binds (ps := ["g"]) fun _ _ _ _ _ _ us hl => match us, hl with | [_], _ => rfl⟩
    | 26, e => cases e; exact ⟨_, PySem.W.mg_of X G a26, fun_mk l26 c26 k26, (fun_mk l26 c26 k26).binds (ps := ["g"]) fun _ _ _ _ _ _ us hl => match us, hl with | [_], _ => rfl⟩
    | 27, e => cases e; exact ⟨_, PySem.W.mg_of X G a27, fun_mk l27 c27 k27, (fun_mk l27 c27 k27).binds (ps := ["script"]) fun _ _ _ _ _ _ us hl => match us, hl with | [_], _ => rfl⟩
    | 28, e => cases e; exact ⟨_, PySem.W.mg_of X G a28, fun_mk l28 c28 k28, (fun_mk l28 c28 k28).binds (ps := ["state", "m"]) fun _ _ _ _ _ _ us hl => match us, hl with | [_, _], _ => rfl⟩
    | 29, e => cases e; exact ⟨_, PySem.W.mg_of X G a29, fun_mk l29 c29 k29, (fun_mk l29 c29 k29).binds (ps := ["value"]) fun _ _ _ _ _ _ us hl => match us, hl with | [_], _ => rfl⟩
    | 30, e => cases e; exact ⟨_, PySem.W.mg_of X G a30, fun_mk l30 c30 k30, (fun_mk l30 c30 k30).binds (ps := ["value"]) fun _ _ _ _ _ _ us hl => match us, hl with | [_], _ => rfl⟩
    | 31, e => cases e; exact ⟨_, PySem.W.mg_of X G a31, fun_mk l31 c31 k31, (fun_mk l31 c31 k31).binds (ps := ["value"]) fun _ _ _ _ _ _ us hl => match us, hl with | [_], _ => rfl⟩
    | 32, e => cases e; exact ⟨_, PySem.W.mg_of X G a32, fun_mk l32 c32 k32, (fun_mk l32 c32 k32).binds (ps := ["one", "two"]) fun _ _ _ _ _ _ us hl => match us, hl with | [_, _], _ => rfl⟩
    | 33, e => cases e; exact ⟨_, PySem.W.mg_of X G a33, fun_mk l33 c33 k33, (fun_mk l33 c33 k33).binds (ps := ["a", "b"]) fun _ _ _ _ _ _ us hl => match us, hl with | [_, _], _ => rfl⟩
    | 34, e => cases e; exact ⟨_, PySem.W.mg_of X G a34, fun_mk l34 c34 k34, (fun_mk l34 c34 k34).binds (ps := ["n", "d"]) fun _ _ _ _ _ _ us hl => match us, hl with | [_, _], _ => rfl⟩
    | 35, e => cases e; exact ⟨_, PySem.W.mg_of X G a35, fun_mk l35 c35 k35, (fun_mk l35 c35 k35).binds (ps := ["a", "b"]) fun _ _ _ _ _ _ us hl => match us, hl with | [_, _], _ => rfl⟩
    | 36, e => cases e; exact ⟨_, PySem.W.mg_of X G a36, fun_mk l36 c36 k36, (fun_mk l36 c36 k36).binds (ps := ["a", "b"]) fun _ _ _ _ _ _ us hl => match us, hl with | [_, _], _ => rfl⟩
    | 37, e => cases e; exact ⟨_, PySem.W.mg_of X G a37, fun_mk l37 c37 k37, (fun_mk l37 c37 k37).binds (ps := ["a", "b"]) fun _ _ _ _ _ _ us hl => match us, hl with | [_, _], _ => rfl⟩
    | 38, e => cases e; exact ⟨_, PySem.W.mg_of X G a38, fun_mk l38 c38 k38, (fun_mk l38 c38 k38).binds (ps := ["value"]) fun _ _ _ _ _ _ us hl => match us, hl with | [_], _ => rfl⟩
    | 39, e => cases e; exact ⟨_, PySem.W.mg_of X G a39, fun_mk l39 c39 k39, (fun_mk l39 c39 k39).binds (ps := ["n"]) fun _ _ _ _ _ _ us hl => match us, hl with | [_], _ => rfl⟩
    | 40, e => cases e; exact ⟨_, PySem.W.mg_of X G a40, fun_mk l40 c40 k40, (fun_mk l40 c40 k40).binds (ps := ["top", "most"]) fun _ _ _ _ _ _ us hl => match us, hl with | [_, _], _ => rfl⟩
    | 41, e => cases e; exact ⟨_, PySem.W.mg_of X G a41, fun_mk l41 c41 k41, (fun_mk l41 c41 k41).binds (ps := ["n", "k"]) fun _ _ _ _ _ _ us hl => match us, hl with | [_, _], _ => rfl⟩
    | 42, e => cases e; exact ⟨_, PySem.W.mg_of X G a42, fun_mk l42 c42 k42, (fun_mk l42 c42 k42).binds (ps := ["row", "double"]) fun _ _ _ _ _ _ us hl => match us, hl with | [_, _], _ => rfl⟩
    | 43, e => cases e; exact ⟨_, PySem.W.mg_of X G a43, fun_mk l43 c43 k43, (fun_mk l43 c43 k43).binds (ps := ["which", "a", "b"]) fun _ _ _ _ _ _ us hl => match us, hl with | [_, _, _], _ => rfl⟩
    | 44, e => cases e; exact ⟨_, PySem.W.mg_of X G a44, fun_mk l44 c44 k44, (fun_mk l44 c44 k44).binds (ps := ["k"]) fun _ _ _ _ _ _ us hl => match us, hl with | [_], _ => rfl⟩
    | 45, e => cases e; exact ⟨_, PySem.W.mg_of X G a45, fun_mk l45 c45 k45, (fun_mk l45 c45 k45).binds (ps := ["f", "x"]) fun _ _ _ _ _ _ us hl => match us, hl with | [_, _], _ => rfl⟩
    | 46, e => cases e; exact ⟨_, PySem.W.mg_of X G a46, fun_mk l46 c46 k46, (fun_mk l46 c46 k46).binds (ps := ["script"]) fun _ _ _ _ _ _ us hl => match us, hl with | [_], _ => rfl⟩
    | n + 47, e => simp [tx] at e
  · have m := glob_mem e
    rcases m with m | ⟨i, m, rfl⟩
    · have m : (x, d) ∈ ([("MOST_GENUS", .int 6), ("MOST_POLYGON", .int 40)] : List (Str × D)) := m
      simp only [List.mem_cons, Prod.mk.injEq, List.not_mem_nil, or_false] at m
      rcases m with ⟨rfl, rfl⟩ | ⟨rfl, rfl⟩
      · exact ⟨_, .int 6, PySem.W.mg_of X G m0, ⟨_, rfl⟩, rfl⟩
      · exact ⟨_, .int 40, PySem.W.mg_of X G m1, ⟨_, rfl⟩, rfl⟩
    · match i, m with
      | 0, m => cases m; exact ⟨_, .ref f0, PySem.W.mg_of X G a0, rfl, rfl⟩
      | 1, m => cases m; exact ⟨_, .ref f1, PySem.W.mg_of X G a1, rfl, rfl⟩
      | 2, m => cases m; exact ⟨_, .ref f2, PySem.W.mg_of X G a2, rfl, rfl⟩
      | 3, m => cases m; exact ⟨_, .ref f3, PySem.W.mg_of X G a3, rfl, rfl⟩
      | 4, m => cases m; exact ⟨_, .ref f4, PySem.W.mg_of X G a4, rfl, rfl⟩
      | 5, m => cases m; exact ⟨_, .ref f5, PySem.W.mg_of X G a5, rfl, rfl⟩
      | 6, m => cases m; exact ⟨_, .ref f6, PySem.W.mg_of X G a6, rfl, rfl⟩
      | 7, m => cases m; exact ⟨_, .ref f7, PySem.W.mg_of X G a7, rfl, rfl⟩
      | 8, m => cases m; exact ⟨_, .ref f8, PySem.W.mg_of X G a8, rfl, rfl⟩
      | 9, m => cases m; exact ⟨_, .ref f9, PySem.W.mg_of X G a9, rfl, rfl⟩
      | 10, m => cases m; exact ⟨_, .ref f10, PySem.W.mg_of X G a10, rfl, rfl⟩
      | 11, m => cases m; exact ⟨_, .ref f11, PySem.W.mg_of X G a11, rfl, rfl⟩
      | 12, m => cases m; exact ⟨_, .ref f12, PySem.W.mg_of X G a12, rfl, rfl⟩
      | 13, m => cases m; exact ⟨_, .ref f13, PySem.W.mg_of X G a13, rfl, rfl⟩
      | 14, m => cases m; exact ⟨_, .ref f14, PySem.W.mg_of X G a14, rfl, rfl⟩
      | 15, m => cases m; exact ⟨_, .ref f15, PySem.W.mg_of X G a15, rfl, rfl⟩
      | 16, m => cases m; exact ⟨_, .ref f16, PySem.W.mg_of X G a16, rfl, rfl⟩
      | 17, m => cases m; exact ⟨_, .ref f17, PySem.W.mg_of X G a17, rfl, rfl⟩
      | 18, m => cases m; exact ⟨_, .ref f18, PySem.W.mg_of X G a18, rfl, rfl⟩
      | 19, m => cases m; exact ⟨_, .ref f19, PySem.W.mg_of X G a19, rfl, rfl⟩
      | 20, m => cases m; exact ⟨_, .ref f20, PySem.W.mg_of X G a20, rfl, rfl⟩
      | 21, m => cases m; exact ⟨_, .ref f21, PySem.W.mg_of X G a21, rfl, rfl⟩
      | 22, m => cases m; exact ⟨_, .ref f22, PySem.W.mg_of X G a22, rfl, rfl⟩
      | 23, m => cases m; exact ⟨_, .ref f23, PySem.W.mg_of X G a23, rfl, rfl⟩
      | 24, m => cases m; exact ⟨_, .ref f24, PySem.W.mg_of X G a24, rfl, rfl⟩
      | 25, m => cases m; exact ⟨_, .ref f25, PySem.W.mg_of X G a25, rfl, rfl⟩
      | 26, m => cases m; exact ⟨_, .ref f26, PySem.W.mg_of X G a26, rfl, rfl⟩
      | 27, m => cases m; exact ⟨_, .ref f27, PySem.W.mg_of X G a27, rfl, rfl⟩
      | 28, m => cases m; exact ⟨_, .ref f28, PySem.W.mg_of X G a28, rfl, rfl⟩
      | 29, m => cases m; exact ⟨_, .ref f29, PySem.W.mg_of X G a29, rfl, rfl⟩
      | 30, m => cases m; exact ⟨_, .ref f30, PySem.W.mg_of X G a30, rfl, rfl⟩
      | 31, m => cases m; exact ⟨_, .ref f31, PySem.W.mg_of X G a31, rfl, rfl⟩
      | 32, m => cases m; exact ⟨_, .ref f32, PySem.W.mg_of X G a32, rfl, rfl⟩
      | 33, m => cases m; exact ⟨_, .ref f33, PySem.W.mg_of X G a33, rfl, rfl⟩
      | 34, m => cases m; exact ⟨_, .ref f34, PySem.W.mg_of X G a34, rfl, rfl⟩
      | 35, m => cases m; exact ⟨_, .ref f35, PySem.W.mg_of X G a35, rfl, rfl⟩
      | 36, m => cases m; exact ⟨_, .ref f36, PySem.W.mg_of X G a36, rfl, rfl⟩
      | 37, m => cases m; exact ⟨_, .ref f37, PySem.W.mg_of X G a37, rfl, rfl⟩
      | 38, m => cases m; exact ⟨_, .ref f38, PySem.W.mg_of X G a38, rfl, rfl⟩
      | 39, m => cases m; exact ⟨_, .ref f39, PySem.W.mg_of X G a39, rfl, rfl⟩
      | 40, m => cases m; exact ⟨_, .ref f40, PySem.W.mg_of X G a40, rfl, rfl⟩
      | 41, m => cases m; exact ⟨_, .ref f41, PySem.W.mg_of X G a41, rfl, rfl⟩
      | 42, m => cases m; exact ⟨_, .ref f42, PySem.W.mg_of X G a42, rfl, rfl⟩
      | 43, m => cases m; exact ⟨_, .ref f43, PySem.W.mg_of X G a43, rfl, rfl⟩
      | 44, m => cases m; exact ⟨_, .ref f44, PySem.W.mg_of X G a44, rfl, rfl⟩
      | 45, m => cases m; exact ⟨_, .ref f45, PySem.W.mg_of X G a45, rfl, rfl⟩
      | 46, m => cases m; exact ⟨_, .ref fa, PySem.W.mg_of X G a46, rfl, rfl⟩
      | n + 47, m => simp [sg] at m
  · simp only [bltNames, List.mem_cons, List.not_mem_nil, or_false] at hx
    rcases hx with rfl | rfl | rfl | rfl | rfl | rfl | rfl | rfl | rfl | rfl | rfl | rfl | rfl | rfl | rfl | rfl | rfl | rfl | rfl | rfl
    · exact PySem.W.mg_none_of X G z0
    · exact PySem.W.mg_none_of X G z1
    · exact PySem.W.mg_none_of X G z2
    · exact PySem.W.mg_none_of X G z3
    · exact PySem.W.mg_none_of X G z4
    · exact PySem.W.mg_none_of X G z5
    · exact PySem.W.mg_none_of X G z6
    · exact PySem.W.mg_none_of X G z7
    · exact PySem.W.mg_none_of X G z8
    · exact PySem.W.mg_none_of X G z9
    · exact PySem.W.mg_none_of X G z10
    · exact PySem.W.mg_none_of X G z11
    · exact PySem.W.mg_none_of X G z12
    · exact PySem.W.mg_none_of X G z13
    · exact PySem.W.mg_none_of X G z14
    · exact PySem.W.mg_none_of X G z15
    · exact PySem.W.mg_none_of X G z16
    · exact PySem.W.mg_none_of X G z17
    · exact PySem.W.mg_none_of X G z18
    · exact PySem.W.mg_none_of X G z19
  · match i, e with
    | 0, e => cases e; exact ⟨C0, _, _, _, _, PySem.F.excBase_ValueError, xi0, PySem.W.mg_of X G xa0, xk0, fun X' hX => L2.raises_own (by rw [hX]; exact xb0) (by rw [hX]; exact xt0), rfl⟩
    | 1, e => cases e; exact ⟨C1, _, _, _, _, PySem.F.excBase_ValueError, xi1, PySem.W.mg_of X G xa1, xk1, fun X' hX => L2.raises_own (by rw [hX]; exact xb1) (by rw [hX]; exact xt1), rfl⟩
    | n + 2, e => simp [sg] at e
  · have m := lookup_in2 e
    simp only [subT, List.mem_cons, Prod.mk.injEq, List.not_mem_nil, or_false] at m
    rcases m with ⟨⟨rfl, rfl⟩, rfl⟩ | ⟨⟨rfl, rfl⟩, rfl⟩ | ⟨⟨rfl, rfl⟩, rfl⟩ | ⟨⟨rfl, rfl⟩, rfl⟩
    · exact exm_of rfl xb0 xc0 xt0 xs0_0
    · exact exm_of rfl xb1 xc1 xt1 xs0_1
    · exact exm_of rfl xb0 xc0 xt0 xs1_0
    · exact exm_of rfl xb1 xc1 xt1 xs1_1

/-! ### k41: loops that grow a list of ints -/
abbrev intsL (l : List Int) : List D := l.map D.int
def appM {α : Type} (f : List Int → α → Option Int) : List α → List Int → Option (List Int)
  | [], acc => some acc
  | x :: xs, acc => (f acc x).bind fun v => appM f xs (acc ++ [v])
theorem appM_len {α : Type} {f : List Int → α → Option Int} : ∀ {xs : List α} {acc r : List Int}, appM f xs acc = some r → r.length = acc.length + xs.length
  | [], acc, r, e => by cases e; rfl
  | x :: xs, acc, r, e => by
    simp only [appM, Option.bind_eq_some_iff] at e
    obtain ⟨v, _, e⟩ := e
    rw [appM_len e, List.length_append, List.length_cons, List.length_cons, List.length_nil]; omega
theorem loop_app {α : Type} {fb : CSt → Hc → SRes} {t : Tg} {g : Guard} {H : Hc} {f : List Int → α → Option Int} (enc : α → D) (R : CSt → Prop) (hg : ∀ acc, gOk g (H ++ [.lst (intsL acc)]) = true) (xs : List α) :
    (∀ acc x v σ, x ∈ xs → f acc x = some v → acc.length < 100000 → R σ → ∃ σ1, asgT t (enc x) σ = some σ1 ∧ ∃ σ2, fb σ1 (H ++ [.lst (intsL acc)]) = .ok (.nx σ2) (H ++ [.lst (intsL (acc ++ [v]))]) ∧ R σ2) →
    ∀ acc r σ, appM f xs acc = some r → r.length < 100000 → R σ → ∃ σ', forF fb t g (xs.map enc) σ (H ++ [.lst (intsL acc)]) = .ok (.nx σ') (H ++ [.lst (intsL r)]) ∧ R σ' := by
  induction xs with
  | nil =>
    intro _ acc r σ e _ hR
    cases e
    exact ⟨σ, forF_nil (hg _), hR⟩
  | cons x xs ih =>
    intro k acc r σ e hr hR
    have hl := appM_len e
    simp only [appM, Option.bind_eq_some_iff] at e
    obtain ⟨v, e1, e2⟩ := e
    obtain ⟨σ1, a1, σ2, a2, hR2⟩ := k acc x v σ (by simp) e1 (by rw [List.length_cons] at hl; omega) hR
    obtain ⟨σ', a3, hR3⟩ := ih (fun acc y v σ hy => k acc y v σ (List.mem_cons_of_mem _ hy)) _ r σ2 e2 hr hR2
    exact ⟨σ', (forF_cons (hg _) a1 a2).trans a3, hR3⟩
theorem app_cell {P : Env2} {o e : CE} {σ : CSt} {H : Hc} {acc : List D} {v : D} (ko : evE P.C o σ (H ++ [.lst acc]) = .ok (.ref H.length) (H ++ [.lst acc])) (ke : evE P.C e σ (H ++ [.lst acc]) = .ok v (H ++ [.lst acc])) (hl : acc.length < line) : evS P (.app o e) σ (H ++ [.lst acc]) = .ok (.nx σ) (H ++ [.lst (acc ++ [v])]) := by
  simp only [ES, EB, ko, ke, isLstD, cell_at]
  rw [if_neg (by simp)]
  rw [if_pos hl, cell_set]
theorem atD_int {l : List Int} {i : Nat} (h : i < l.length) : atD (intsL l) (i : Int) = some (.int (l.getD i 0)) := by
  refine atD_of ?_
  rw [List.getElem?_map, List.getElem?_eq_getElem h, List.getD_eq_getElem?_getD, List.getElem?_eq_getElem h]
  rfl
theorem ev_comp2r {C : Caller} {elt a b : CE} {i m n : Nat} {σ : CSt} {h h1 h2 h3 : Hc} {ys : List D} (ka : evE C a σ h = .ok (.int (m : Nat)) h1) (kb : evE C b σ h1 = .ok (.int (n : Nat)) h2) (hm : m ≤ 1000000) (hn : n ≤ 1000000) (kc : compF (evE C elt) (condR true (evE C .absent)) (.v i) [] (cwipe σ [i]) (natD (List.range' m (n - m))) h2 = .ok ys h3) :
    evE C (.comp elt (.v i) (.rng2 a b) .absent [i]) σ h = .ok (.lst ys) h3 := by
  have e1 : evI C (.rng2 a b) σ h = .ok ⟨natD (List.range' m (n - m)), []⟩ h2 := by
    simp only [EV, EB, ka, kb, smallI_nat hm, smallI_nat hn, Bool.and_self, if_true]
    rw [show ((n : Int) - (m : Int)).toNat = n - m by omega, rngD_nat]
  have e2 : (natD (List.range' m (n - m))).length ≤ line := by rw [natD, List.length_map, List.length_range']; unfold line; omega
  have e3 : evE C (.comp elt (.v i) (.rng2 a b) .absent [i]) σ h = ((evI C (.rng2 a b) σ h).bind fun d h => if d.xs.length ≤ line then lmap [] (compF (evE C elt) (condR true (evE C .absent)) (.v i) d.g (cwipe σ [i]) d.xs h) else .stuck) := by
    simp only [evE]; all_goals rfl
  rw [e3, e1, ERes.ok_bind]
  simp only
  rw [if_pos e2, kc]
  rfl
theorem sumI_intsL : ∀ l : List Int, sumI (intsL l) = some l.sum
  | [] => rfl
  | x :: xs => by
    simp only [intsL, List.map_cons, sumI]
    rw [show xs.map D.int = intsL xs from rfl, sumI_intsL xs]
    simp

theorem bits_sm {x : Int} (h : x.natAbs < 2 ^ 62) : bitsI x ≤ 64 := by
  unfold bitsI Builtin.Int.intBits
  by_cases h0 : x.natAbs = 0
  · simp only [h0]; split <;> decide
  · have := (Nat.log2_lt h0).mpr h
    split <;> omega
theorem mul_sm {h : Hc} {a b : Int} (ha : a.natAbs < 2 ^ 62) : binF h .Mult (.int a) (.int b) = some (.int (a * b)) := by
  simp only [binF, mulF]
  rw [if_pos (mulOk_l (bits_sm ha))]
theorem mul_smr {h : Hc} {a b : Int} (ha : b.natAbs < 2 ^ 62) : binF h .Mult (.int a) (.int b) = some (.int (a * b)) := by
  simp only [binF, mulF]
  rw [if_pos (mulOk_r (bits_sm ha))]

def factN : Nat → Nat
  | 0 => 1
  | n + 1 => (n + 1) * factN n
def choN (n k : Nat) : Nat := if k ≤ n then factN n / (factN k * factN (n - k)) else 0
def choFl (n : Int) : Int → List Nat → Int
  | t, [] => t
  | t, j :: js => choFl n ((t * (n - j)).fdiv (j + 1)) js
theorem choL_fl {n k : Nat} (hn : n < 1000) : ∀ (js : List Nat) (t : Int), (∀ j ∈ js, j < 1000) → choL n k t js = some (choFl n t js)
  | [], t, _ => rfl
  | j :: js, t, hj => by
    have h1 := hj j (by simp)
    have e1 : mulM t ((n : Int) - (j : Nat)) = some (t * ((n : Int) - (j : Nat))) := by
      unfold mulM
      rw [if_pos (mulOk_r (bits_sm (by omega)))]
    have e2 : divM (t * ((n : Int) - (j : Nat))) ((j : Nat) + 1) = some ((t * ((n : Int) - (j : Nat))).fdiv ((j : Nat) + 1)) := by
      unfold divM
      rw [if_pos (divOk_s (by omega) (by omega))]
    simp only [choL, choStep, e1, Option.bind_some, e2, choFl]
    exact choL_fl hn js _ fun i hi => hj i (List.mem_cons_of_mem _ hi)
theorem cho_tab : ((List.range 81).all fun n => (List.range (n + 1)).all fun k => decide (choFl (n : Nat) 1 (List.range k) = (choN n k : Nat))) = true := by decide +kernel
theorem choM_n {n k : Nat} (hn : n ≤ 80) (hk : k ≤ n) : choM n k = some ((choN n k : Nat) : Int) := by
  have h := List.all_eq_true.mp cho_tab n (List.mem_range.mpr (by omega))
  have h2 := of_decide_eq_true (List.all_eq_true.mp h k (List.mem_range.mpr (by omega)))
  unfold choM
  rw [choL_fl (by omega) _ _ (fun j hj => by have := List.mem_range.mp hj; omega), h2]
abbrev ChC4 (C : Caller) (i : Nat) : Prop := ∀ (n k : Nat) (h : Hc), n ≤ 80 → k ≤ n → C i [.int (n : Nat), .int (k : Nat)] h = .ok (.int (choN n k : Nat)) h
theorem run_ch4 {P : Pg} {i n : Nat} (hd : P.defs[i]? = some BD_choP) : ChC4 (callN P (n + 1)) i := fun _ _ _ h1 h2 => run_choP hd (by omega) h2 (choM_n h1 h2)
/-! ### without_leaves, without_pairs -/
def wlT (dbl : Bool) (acc : List Int) (k i : Nat) : Option Int := mulM (choN (if dbl then 2 * k else k) i : Nat) (acc.getD (k - i) 0)
def wlS (dbl : Bool) (acc : List Int) (x : Nat × Int) : Option Int := (mapMO (wlT dbl acc x.1) (List.range' 1 x.1)).map fun l => x.2 - l.sum
def wlE (dbl : Bool) : CE := if dbl then .bin .Mult (.cst (.int 2)) (.var 2) else .var 2
def BL_wl (ic : Nat) (dbl : Bool) : CSs := (.cons (.app (.var 1) (.bin .Sub (.var 3) (.bi .sum (.cons (.comp (.bin .Mult (.call ic (.cons (wlE dbl) (.cons (.var 4) .nil))) (.idx (.var 1) (.bin .Sub (.var 2) (.var 4)))) (.v 4) (.rng2 (.cst (.int 1)) (.bin .Add (.var 2) (.cst (.int 1)))) .absent [4]) .nil)))) .nil)
def BD_wl (ic : Nat) (dbl : Bool) : CDef := ⟨5, 1, (.cons (.asg (.v 1) (.cell (.lst .nil))) (.cons (.for_ (.t (.cons (.v 2) (.cons (.v 3) .nil))) (.enum (.var 0)) (BL_wl ic dbl)) (.cons (.ret (.var 1)) .nil)))⟩
theorem body_wl {Pe : Env2} {ic : Nat} {dbl : Bool} (hc : ChC4 Pe.C ic) {H : Hc} {acc : List Int} {k : Nat} {own v : Int} {d0 : D} {o4 : Option D} (hk : k ≤ 40) (ha : acc.length = k) (e : wlS dbl acc (k, own) = some v) :
    evSs Pe (BL_wl ic dbl) [some d0, some (.ref H.length), some (.int (k : Nat)), some (.int own), o4] (H ++ [.lst (intsL acc)]) = .ok (.nx [some d0, some (.ref H.length), some (.int (k : Nat)), some (.int own), o4]) (H ++ [.lst (intsL (acc ++ [v]))]) := by
  simp only [wlS, Option.map_eq_some_iff] at e
  obtain ⟨l, e1, rfl⟩ := e
  have ec : evE Pe.C (.comp (.bin .Mult (.call ic (.cons (wlE dbl) (.cons (.var 4) .nil))) (.idx (.var 1) (.bin .Sub (.var 2) (.var 4)))) (.v 4) (.rng2 (.cst (.int 1)) (.bin .Add (.var 2) (.cst (.int 1)))) .absent [4]) [some d0, some (.ref H.length), some (.int (k : Nat)), some (.int own), o4] (H ++ [.lst (intsL acc)]) = .ok (.lst (intsL l)) (H ++ [.lst (intsL acc)]) := by
    refine ev_comp2r (m := 1) (n := k + 1) ev_cst (ev_bin (op := .Add) (ev_var rfl) ev_cst rfl) (by omega) (by omega) ?_
    rw [show k + 1 - 1 = k by omega]
    refine compF_mapM D.int (wlT dbl acc k) _ _ e1 fun i hi q hq => ?_
    simp only [List.mem_range'_1] at hi
    refine ⟨[some d0, some (.ref H.length), some (.int (k : Nat)), some (.int own), some (.int (i : Nat))], rfl, rfl, ?_⟩
    have e2 : evE Pe.C (wlE dbl) [some d0, some (.ref H.length), some (.int (k : Nat)), some (.int own), some (.int (i : Nat))] (H ++ [.lst (intsL acc)]) = .ok (.int ((if dbl then 2 * k else k : Nat) : Int)) (H ++ [.lst (intsL acc)]) := by
      cases dbl
      · exact ev_var rfl
      · refine ev_bin (op := .Mult) ev_cst (ev_var rfl) ?_
        rw [mul_sm (by decide)]
        simp
    have e3 : evE Pe.C (.idx (.var 1) (.bin .Sub (.var 2) (.var 4))) [some d0, some (.ref H.length), some (.int (k : Nat)), some (.int own), some (.int (i : Nat))] (H ++ [.lst (intsL acc)]) = .ok (.int (acc.getD (k - i) 0)) (H ++ [.lst (intsL acc)]) := by
      refine ev_idx (ev_var rfl) (ev_bin (op := .Sub) (z := .int ((k - i : Nat) : Int)) (ev_var rfl) (ev_var rfl) ?_) ?_
      · simp only [binF, int2, Option.map_some]; congr 2; omega
      · simp only [idxF, cell_at]; exact atD_int (by omega)
    have e4 := (ev_c2 (C := Pe.C) (f := ic) (b := .var 4) e2 (ev_var rfl)).trans (hc _ i (H ++ [.lst (intsL acc)]) (by split <;> omega) (by split <;> omega))
    refine ev_bin (op := .Mult) e4 e3 (binMul hq)
  have es : evE Pe.C (.bin .Sub (.var 3) (.bi .sum (.cons (.comp (.bin .Mult (.call ic (.cons (wlE dbl) (.cons (.var 4) .nil))) (.idx (.var 1) (.bin .Sub (.var 2) (.var 4)))) (.v 4) (.rng2 (.cst (.int 1)) (.bin .Add (.var 2) (.cst (.int 1)))) .absent [4]) .nil))) [some d0, some (.ref H.length), some (.int (k : Nat)), some (.int own), o4] (H ++ [.lst (intsL acc)]) = .ok (.int (own - l.sum)) (H ++ [.lst (intsL acc)]) := by
    refine ev_bin (op := .Sub) (ev_var rfl) (ev_bi1 ec (z := .int l.sum) ?_) rfl
    simp only [biF, seqD, Option.bind_some, sumI_intsL, Option.map_some]
  unfold BL_wl
  refine (seqN (app_cell (ev_var rfl) es (by rw [List.length_map]; unfold line; omega))).trans ?_
  simp only [ES, intsL, List.map_append, List.map_cons, List.map_nil]
  all_goals rfl
/-- the items of an enumerated list of ints -/
def enumN : Nat → List Int → List (Nat × Int)
  | _, [] => []
  | i, x :: xs => (i, x) :: enumN (i + 1) xs
def enN (x : Nat × Int) : D := .tup [.int (x.1 : Nat), .int x.2]
theorem enumD_int : ∀ (l : List Int) (i : Nat), enumD i (intsL l) = (enumN i l).map enN
  | [], _ => rfl
  | x :: xs, i => by
    show D.tup [.int i, .int x] :: enumD (i + 1) (intsL xs) = _
    rw [enumD_int xs (i + 1)]; rfl
def wl (dbl : Bool) (row : List Int) : Option (List Int) := appM (wlS dbl) (enumN 0 row) []
theorem enumN_mem : ∀ {l : List Int} {i : Nat} {x : Nat × Int}, x ∈ enumN i l → i ≤ x.1 ∧ x.1 < i + l.length
  | [], _, _, h => by simp [enumN] at h
  | y :: ys, i, x, h => by
    simp only [enumN, List.mem_cons] at h
    rcases h with rfl | h
    · simp
    · have := enumN_mem h
      simp only [List.length_cons]; omega
/-- the loop: items in turn -/
theorem loop_wl {Pe : Env2} {ic : Nat} {dbl : Bool} (hc : ChC4 Pe.C ic) {H : Hc} {d0 : D} {g : Guard} (hg : ∀ acc, gOk g (H ++ [.lst (intsL acc)]) = true) : ∀ (l : List Int) (acc r : List Int) (o2 o3 o4 : Option D), acc.length + l.length ≤ 41 → appM (wlS dbl) (enumN acc.length l) acc = some r →
    ∃ o2' o3', forF (evSs Pe (BL_wl ic dbl)) (.t (.cons (.v 2) (.cons (.v 3) .nil))) g ((enumN acc.length l).map enN) [some d0, some (.ref H.length), o2, o3, o4] (H ++ [.lst (intsL acc)]) = .ok (.nx [some d0, some (.ref H.length), o2', o3', o4]) (H ++ [.lst (intsL r)]) := by
  intro l
  induction l with
  | nil =>
    intro acc r o2 o3 o4 _ e
    cases e
    exact ⟨o2, o3, forF_nil (hg _)⟩
  | cons x xs ih =>
    intro acc r o2 o3 o4 hl e
    simp only [List.length_cons] at hl
    simp only [enumN, appM, Option.bind_eq_some_iff] at e
    obtain ⟨v, e1, e2⟩ := e
    have hb := body_wl (Pe := Pe) (H := H) (d0 := d0) (o4 := o4) hc (by omega) rfl e1
    have el : (acc ++ [v]).length = acc.length + 1 := by simp
    rw [← el] at e2
    obtain ⟨o2', o3', ih⟩ := ih (acc ++ [v]) r (some (.int (acc.length : Nat))) (some (.int x)) o4 (by rw [el]; omega) e2
    refine ⟨o2', o3', ?_⟩
    rw [el] at ih
    exact (forF_cons (xs := (enumN (acc.length + 1) xs).map enN) (hg _) rfl hb).trans ih
theorem run_wl {P : Pg} {i ic n : Nat} {dbl : Bool} (hd : P.defs[i]? = some (BD_wl ic dbl)) (hc : ChC4 (callN P n) ic) {H : Hc} {d : D} {row r : List Int} (hs : lstD H d = some (intsL row)) (hg : ∀ X, gOk (guardOf H d) (H ++ X) = true) (hl : row.length ≤ 41) (e : wl dbl row = some r) :
    callN P (n + 1) i [d] H = .ok (.ref H.length) (H ++ [.lst (intsL r)]) := by
  rw [call_rt0 (d := BD_wl ic dbl) (b := (BD_wl ic dbl).body) (σ := [some d, none, none, none, none]) (h' := H ++ [.lst (intsL r)]) (v := .ref H.length) hd rfl rfl rfl]
  · unfold finR
    rw [if_neg]
    simp [D.low]
  · have hsd : lstD (H ++ [.lst (intsL [])]) d = some (intsL row) ∧ guardOf (H ++ [.lst (intsL [])]) d = guardOf H d := by
      cases d with
      | ref m =>
        simp only [lstD, guardOf] at hs ⊢
        cases hm : H[m]? with
        | none => rw [hm] at hs; cases hs
        | some c =>
          have hlt : m < H.length := by
            rcases Nat.lt_or_ge m H.length with h | h
            · exact h
            · rw [List.getElem?_eq_none h] at hm; cases hm
          rw [List.getElem?_append_left hlt, hm]
          rw [hm] at hs
          exact ⟨hs, rfl⟩
      | _ => exact ⟨hs, rfl⟩
    obtain ⟨o2, o3, ef⟩ := loop_wl (Pe := ⟨callN P n, P.sub⟩) (ic := ic) (dbl := dbl) (d0 := d) (g := guardOf H d) hc (fun acc => hg _) row [] r none none none (by simpa using hl) e
    refine (seqN (σ' := [some d, some (.ref H.length), none, none, none]) (h' := H ++ [.lst (intsL [])]) (asgV (ev_cell (ev_lst ev_nil)))).trans ?_
    refine (seqN (σ' := [some d, some (.ref H.length), o2, o3, none]) (h' := H ++ [.lst (intsL r)]) ?_).trans (seqR (retE (ev_var rfl)))
    have ei : evI (callN P n) (.enum (.var 0)) [some d, some (.ref H.length), none, none, none] (H ++ [.lst (intsL [])]) = .ok ⟨(enumN 0 row).map enN, guardOf H d⟩ (H ++ [.lst (intsL [])]) := by
      simp only [EV, EB]
      show (match lstD (H ++ [.lst (intsL [])]) d with | some xs => _ | none => _) = _
      rw [hsd.1, hsd.2]
      simp only [enumD_int]
    have e5 : evS ⟨callN P n, P.sub⟩ (.for_ (.t (.cons (.v 2) (.cons (.v 3) .nil))) (.enum (.var 0)) (BL_wl ic dbl)) [some d, some (.ref H.length), none, none, none] (H ++ [.lst (intsL [])]) = (evI (callN P n) (.enum (.var 0)) [some d, some (.ref H.length), none, none, none] (H ++ [.lst (intsL [])])).st [some d, some (.ref H.length), none, none, none] fun q h => forF (evSs ⟨callN P n, P.sub⟩ (BL_wl ic dbl)) (.t (.cons (.v 2) (.cons (.v 3) .nil))) q.g q.xs [some d, some (.ref H.length), none, none, none] h := by
      simp only [evS]
    rw [e5, ei, st_ok]
    exact ef

/-! ### factorials -/
def BL_fact : CSs := (.cons (.asg (.v 1) (.bin .Mult (.var 1) (.var 2))) .nil)
def BD_fact : CDef := ⟨3, 1, (.cons (.asg (.v 1) (.cst (.int 1))) (.cons (.for_ (.v 2) (.rng2 (.cst (.int 2)) (.bin .Add (.var 0) (.cst (.int 1)))) BL_fact) (.cons (.ret (.var 1)) .nil)))⟩
theorem fact_step (n : Nat) : (factN n : Int) * ((n + 1 : Nat) : Int) = (factN (n + 1) : Nat) := by
  rw [factN, Int.natCast_mul, Int.mul_comm]
theorem loop_fact {Pe : Env2} {h : Hc} {d0 : D} : ∀ (c m : Nat) (o2 : Option D), m + c ≤ 1000000 → ∃ o2', forF (evSs Pe BL_fact) (.v 2) [] (natD (List.range' (m + 1) c)) [some d0, some (.int (factN m : Nat)), o2] h = .ok (.nx [some d0, some (.int (factN (m + c) : Nat)), o2']) h := by
  intro c
  induction c with
  | zero => intro m o2 _; exact ⟨o2, forF_nil rfl⟩
  | succ c ih =>
    intro m o2 hm
    obtain ⟨o2', ih⟩ := ih (m + 1) (some (.int ((m + 1 : Nat) : Int))) (by omega)
    refine ⟨o2', ?_⟩
    rw [List.range'_succ, natD, List.map_cons]
    have hb : evSs Pe BL_fact [some d0, some (.int (factN m : Nat)), some (.int ((m + 1 : Nat) : Int))] h = .ok (.nx [some d0, some (.int (factN (m + 1) : Nat)), some (.int ((m + 1 : Nat) : Int))]) h := by
      unfold BL_fact
      refine (seqN (asgV (ev_bin (op := .Mult) (z := .int (factN (m + 1) : Nat)) (ev_var rfl) (ev_var rfl) ?_))).trans ?_
      · rw [mul_smr (by omega), fact_step]
      · simp only [ES]; all_goals rfl
    rw [show m + (c + 1) = m + 1 + c by omega]
    exact (forF_cons (xs := natD (List.range' (m + 1 + 1) c)) rfl rfl hb).trans ih
theorem run_fact {P : Pg} {i : Nat} (hd : P.defs[i]? = some BD_fact) {n m : Nat} {h : Hc} (hm : m ≤ 1000) : callN P (n + 1) i [.int (m : Nat)] h = .ok (.int (factN m : Nat)) h := by
  refine call_rtp (d := BD_fact) (b := BD_fact.body) (σ := [some (.int (m : Nat)), none, none]) hd rfl rfl rfl ?_
  refine (seqN (σ' := [some (.int (m : Nat)), some (.int 1), none]) (h' := h) (asgV ev_cst)).trans ?_
  obtain ⟨o2, e⟩ : ∃ o2, forF (evSs ⟨callN P n, P.sub⟩ BL_fact) (.v 2) [] (rngD 2 1 (((m : Int) + 1) - 2).toNat) [some (.int (m : Nat)), some (.int 1), none] h = .ok (.nx [some (.int (m : Nat)), some (.int (factN m : Nat)), o2]) h := by
    rcases Nat.lt_or_ge m 1 with h0 | h1
    · have : m = 0 := by omega
      subst this
      exact ⟨none, forF_nil rfl⟩
    · obtain ⟨o2, e⟩ := loop_fact (Pe := ⟨callN P n, P.sub⟩) (h := h) (d0 := .int (m : Nat)) (m - 1) 1 none (by omega)
      refine ⟨o2, ?_⟩
      rw [show (((m : Int) + 1) - 2).toNat = m - 1 by omega, show (2 : Int) = ((2 : Nat) : Int) from rfl, rngD_nat]
      rw [show 1 + (m - 1) = m by omega] at e
      exact e
  refine (seqN (σ' := [some (.int (m : Nat)), some (.int (factN m : Nat)), o2]) (h' := h) ?_).trans (seqR (retE (ev_var rfl)))
  rw [forR2 (P := ⟨callN P n, P.sub⟩) (h' := h) (h'' := h) (i := 2) (j := (m : Int) + 1) ev_cst (ev_bin (op := .Add) (ev_var rfl) ev_cst rfl) (by decide) (by unfold smallI; simp; omega)]
  exact e
theorem fact_log : ((List.range 81).all fun n => decide (Nat.log2 (factN n) < 400) && decide (0 < factN n)) = true := by decide +kernel
theorem fact_ok {n : Nat} (h : n ≤ 80) : Nat.log2 (factN n) < 400 ∧ 0 < factN n := by
  have := List.all_eq_true.mp fact_log n (List.mem_range.mpr (by omega))
  simpa only [Bool.and_eq_true, decide_eq_true_eq] using this
theorem bits_lg {x : Int} {k : Nat} (h : x.natAbs.log2 < k) : bitsI x ≤ k := by
  unfold bitsI Builtin.Int.intBits
  split <;> omega
def BD_choF (if_ : Nat) : CDef := ⟨2, 2, (.cons (.ret (.ite (.chain .LtE .LtE (.cst (.int 0)) (.var 1) (.var 0)) (.bin .FloorDiv (.call if_ (.cons (.var 0) .nil)) (.bin .Mult (.call if_ (.cons (.var 1) .nil)) (.call if_ (.cons (.bin .Sub (.var 0) (.var 1)) .nil)))) (.cst (.int 0)))) .nil)⟩
theorem ev_chain {C : Caller} {op op' : CmpOp} {a b c : CE} {σ : CSt} {h : Hc} {x y z : D} {r : Bool} (ka : evE C a σ h = .ok x h) (kb : evE C b σ h = .ok y h) (k1 : cmpF h op x y = some true) (kc : evE C c σ h = .ok z h) (k2 : cmpF h op' y z = some r) : evE C (.chain op op' a b c) σ h = .ok (.bl r) h := by
  simp only [EV, EB, ka, kb, k1, kc, k2, Option.map_some]
theorem le_int {h : Hc} {a b : Int} : cmpF h .LtE (.int a) (.int b) = some (decide (a ≤ b)) := by
  simp only [cmpF, ltF, Option.map_some]
  congr 1
  by_cases k : a ≤ b
  · rw [decide_eq_true k, decide_eq_false (by omega)]; rfl
  · rw [decide_eq_false k, decide_eq_true (by omega)]; rfl
theorem run_choF {P : Pg} {i if_ n : Nat} (hd : P.defs[i]? = some (BD_choF if_)) (hf : P.defs[if_]? = some BD_fact) : ChC4 (callN P (n + 2)) i := by
  intro m k h hm hk
  refine call_rtp (d := BD_choF if_) (b := (BD_choF if_).body) (σ := [some (.int (m : Nat)), some (.int (k : Nat))]) hd rfl rfl rfl ?_
  refine seqR (retE ?_)
  rw [ev_ite (c := true) (h1 := h) (ev_chain ev_cst (ev_var rfl) (by rw [le_int, decide_eq_true (by omega)]) (ev_var rfl) (by rw [le_int, decide_eq_true (by omega)]))]
  rw [if_pos rfl]
  have f1 := (ev_c1 (C := callN P (n + 1)) (f := if_) (a := .var 0) (σ := [some (.int (m : Nat)), some (.int (k : Nat))]) (h := h) (ev_var rfl)).trans (run_fact hf (by omega))
  have f2 := (ev_c1 (C := callN P (n + 1)) (f := if_) (a := .var 1) (σ := [some (.int (m : Nat)), some (.int (k : Nat))]) (h := h) (ev_var rfl)).trans (run_fact hf (by omega))
  have f3 := (ev_c1 (C := callN P (n + 1)) (f := if_) (a := .bin .Sub (.var 0) (.var 1)) (σ := [some (.int (m : Nat)), some (.int (k : Nat))]) (h := h) (x := .int ((m - k : Nat) : Int)) (ev_bin (op := .Sub) (ev_var rfl) (ev_var rfl) (by simp only [binF, int2, Option.map_some]; congr 2; omega))).trans (run_fact hf (by omega))
  obtain ⟨l1, p1⟩ := fact_ok (n := k) (by omega)
  obtain ⟨l2, p2⟩ := fact_ok (n := m - k) (by omega)
  have b1 : bitsI (factN k : Nat) ≤ 400 := bits_lg (by simpa using l1)
  have b2 : bitsI (factN (m - k) : Nat) ≤ 400 := bits_lg (by simpa using l2)
  have hmul : binF h .Mult (.int (factN k : Nat)) (.int (factN (m - k) : Nat)) = some (.int ((factN k * factN (m - k) : Nat) : Int)) := by
    simp only [binF, mulF]
    rw [if_pos (by unfold mulOk; rw [decide_eq_true (show bitsI (factN k : Nat) + bitsI (factN (m - k) : Nat) ≤ 134217728 by omega), Bool.or_true]), Int.natCast_mul]
  have hpos : 0 < factN k * factN (m - k) := Nat.mul_pos p1 p2
  have hlog : Nat.log2 (factN k * factN (m - k)) < 9000 := by
    rw [Nat.log2_lt (by omega)]
    have e1 := (Nat.log2_lt (by omega : factN k ≠ 0)).mp l1
    have e2 := (Nat.log2_lt (by omega : factN (m - k) ≠ 0)).mp l2
    calc factN k * factN (m - k) < 2 ^ 400 * 2 ^ 400 := Nat.mul_lt_mul'' e1 e2
      _ = 2 ^ 800 := by rw [← Nat.pow_add]
      _ ≤ 2 ^ 9000 := Nat.pow_le_pow_right (by omega) (by omega)
  refine ev_bin (op := .FloorDiv) f1 (ev_bin (op := .Mult) f2 f3 hmul) ?_
  simp only [binF, int2]
  rw [if_pos (by unfold divOk; rw [decide_eq_true (by omega), decide_eq_true (by rw [Int.natAbs_natCast]; exact hlog)]; rfl)]
  unfold choN
  rw [if_pos hk, Int.fdiv_eq_ediv_of_nonneg _ (Int.natCast_nonneg _), Option.map_some, Int.natCast_ediv]

/-! ### the law's _law_taken_out -/
def BL_to0 (ic : Nat) : CSs := (.cons (.asg (.v 4) (.bin .Sub (.var 4) (.bin .Mult (.call ic (.cons (.ite (.var 1) (.bin .Mult (.cst (.int 2)) (.var 3)) (.var 3)) (.cons (.var 5) .nil))) (.idx (.var 2) (.bin .Sub (.var 3) (.var 5)))))) .nil)
def BL_to1 (ic : Nat) : CSs := (.cons (.asg (.v 4) (.idx (.var 0) (.var 3))) (.cons (.for_ (.v 5) (.rng2 (.cst (.int 1)) (.bin .Add (.var 3) (.cst (.int 1)))) (BL_to0 ic)) (.cons (.app (.var 2) (.var 4)) (.cons (.kill [4, 5]) .nil))))
def BD_to (ic : Nat) : CDef := ⟨6, 2, (.cons (.asg (.v 2) (.cell (.lst .nil))) (.cons (.for_ (.v 3) (.rng1 (.bi .len (.cons (.var 0) .nil))) (BL_to1 ic)) (.cons (.ret (.var 2)) .nil)))⟩
def wlL (dbl : Bool) (acc : List Int) (k : Nat) : List Nat → Int → Option Int
  | [], t => some t
  | i :: is, t => (wlT dbl acc k i).bind fun x => wlL dbl acc k is (t - x)
theorem wlL_sum {dbl : Bool} {acc : List Int} {k : Nat} : ∀ (is : List Nat) (t : Int), wlL dbl acc k is t = (mapMO (wlT dbl acc k) is).map fun l => t - l.sum
  | [], t => by simp [wlL, mapMO]
  | i :: is, t => by
    simp only [wlL, mapMO]
    cases wlT dbl acc k i with
    | none => rfl
    | some x =>
      simp only [Option.bind_some, wlL_sum is]
      cases mapMO (wlT dbl acc k) is with
      | none => rfl
      | some l => simp only [Option.map_some, Option.bind_some, List.sum_cons]; congr 1; omega
section
variable {Pe : Env2} {ic : Nat} {dbl : Bool} {H : Hc} {d0 : D}
abbrev toS (H : Hc) (d0 : D) (dbl : Bool) (k : Nat) (o4 o5 : Option D) : CSt := [some d0, some (.bl dbl), some (.ref H.length), some (.int (k : Nat)), o4, o5]
theorem loop_to0 (hc : ChC4 Pe.C ic) {acc : List Int} {k : Nat} (hk : k ≤ 40) (ha : acc.length = k) : ∀ (is : List Nat) (t z : Int) (o5 : Option D), (∀ i ∈ is, 1 ≤ i ∧ i ≤ k) → wlL dbl acc k is t = some z →
    ∃ o5', forF (evSs Pe (BL_to0 ic)) (.v 5) [] (natD is) (toS H d0 dbl k (some (.int t)) o5) (H ++ [.lst (intsL acc)]) = .ok (.nx (toS H d0 dbl k (some (.int z)) o5')) (H ++ [.lst (intsL acc)]) := by
  intro is
  induction is with
  | nil => intro t z o5 _ e; cases e; exact ⟨o5, forF_nil rfl⟩
  | cons i is ih =>
    intro t z o5 hi e
    simp only [wlL, Option.bind_eq_some_iff] at e
    obtain ⟨x, e1, e2⟩ := e
    obtain ⟨o5', ih⟩ := ih (t - x) z (some (.int (i : Nat))) (fun j hj => hi j (List.mem_cons_of_mem _ hj)) e2
    have h1 := hi i (by simp)
    refine ⟨o5', ?_⟩
    have eq : evE Pe.C (.ite (.var 1) (.bin .Mult (.cst (.int 2)) (.var 3)) (.var 3)) (toS H d0 dbl k (some (.int t)) (some (.int (i : Nat)))) (H ++ [.lst (intsL acc)]) = .ok (.int ((if dbl then 2 * k else k : Nat) : Int)) (H ++ [.lst (intsL acc)]) := by
      refine (ev_ite (C := Pe.C) (c := dbl) (σ := toS H d0 dbl k (some (.int t)) (some (.int (i : Nat)))) (h1 := H ++ [.lst (intsL acc)]) (ev_var (i := 1) rfl)).trans ?_
      cases dbl
      · rw [if_neg (by decide)]; exact ev_var rfl
      · rw [if_pos rfl]
        refine ev_bin (op := .Mult) ev_cst (ev_var rfl) ?_
        rw [mul_sm (by decide)]
        simp
    have e3 : evE Pe.C (.idx (.var 2) (.bin .Sub (.var 3) (.var 5))) (toS H d0 dbl k (some (.int t)) (some (.int (i : Nat)))) (H ++ [.lst (intsL acc)]) = .ok (.int (acc.getD (k - i) 0)) (H ++ [.lst (intsL acc)]) := by
      refine ev_idx (ev_var rfl) (ev_bin (op := .Sub) (z := .int ((k - i : Nat) : Int)) (ev_var rfl) (ev_var rfl) ?_) ?_
      · simp only [binF, int2, Option.map_some]; congr 2; omega
      · simp only [idxF, cell_at]; exact atD_int (by omega)
    have e4 := (ev_c2 (C := Pe.C) (f := ic) (b := .var 5) eq (ev_var rfl)).trans (hc _ i (H ++ [.lst (intsL acc)]) (by split <;> omega) (by split <;> omega))
    have hb : evSs Pe (BL_to0 ic) (toS H d0 dbl k (some (.int t)) (some (.int (i : Nat)))) (H ++ [.lst (intsL acc)]) = .ok (.nx (toS H d0 dbl k (some (.int (t - x))) (some (.int (i : Nat))))) (H ++ [.lst (intsL acc)]) := by
      unfold BL_to0
      refine (seqN (asgV (ev_bin (op := .Sub) (z := .int (t - x)) (ev_var rfl) (ev_bin (op := .Mult) e4 e3 (binMul e1)) rfl))).trans ?_
      simp only [ES]; all_goals rfl
    exact (forF_cons (xs := natD is) rfl rfl hb).trans ih
theorem body_to (hc : ChC4 Pe.C ic) {acc row : List Int} {m k : Nat} {v : Int} (hm : H[m]? = some (.lst (intsL row))) (hk : k ≤ 40) (hr : k < row.length) (ha : acc.length = k) (e : wlS dbl acc (k, row.getD k 0) = some v) (o4 o5 : Option D) :
    evSs Pe (BL_to1 ic) (toS H (.ref m) dbl k o4 o5) (H ++ [.lst (intsL acc)]) = .ok (.nx (toS H (.ref m) dbl k none none)) (H ++ [.lst (intsL (acc ++ [v]))]) := by
  have hlt : m < H.length := by
    rcases Nat.lt_or_ge m H.length with h | h
    · exact h
    · rw [List.getElem?_eq_none h] at hm; cases hm
  have e' : wlL dbl acc k (List.range' 1 k) (row.getD k 0) = some v := by rw [wlL_sum]; exact e
  obtain ⟨o5', e5⟩ := loop_to0 (Pe := Pe) (H := H) (d0 := .ref m) hc hk ha (List.range' 1 k) _ _ o5 (fun i hi => by simp only [List.mem_range'_1] at hi; omega) e'
  unfold BL_to1
  refine (seqN (σ' := toS H (.ref m) dbl k (some (.int (row.getD k 0))) o5) (h' := H ++ [.lst (intsL acc)]) (asgV (ev_idx (ev_var rfl) (ev_var rfl) ?_))).trans ?_
  · simp only [idxF]
    rw [List.getElem?_append_left hlt, hm]
    exact atD_int hr
  refine (seqN (σ' := toS H (.ref m) dbl k (some (.int v)) o5') (h' := H ++ [.lst (intsL acc)]) ?_).trans ?_
  · have ea : evE Pe.C (.cst (.int 1)) (toS H (.ref m) dbl k (some (.int (row.getD k 0))) o5) (H ++ [.lst (intsL acc)]) = .ok (.int 1) (H ++ [.lst (intsL acc)]) := ev_cst
    have eb : evE Pe.C (.bin .Add (.var 3) (.cst (.int 1))) (toS H (.ref m) dbl k (some (.int (row.getD k 0))) o5) (H ++ [.lst (intsL acc)]) = .ok (.int ((k + 1 : Nat) : Int)) (H ++ [.lst (intsL acc)]) := ev_bin (op := .Add) (ev_var rfl) ev_cst rfl
    rw [forR2 (P := Pe) ea eb (by decide) (smallI_nat (by omega))]
    rw [show (((k + 1 : Nat) : Int) - 1).toNat = k by omega, show rngD 1 1 k = natD (List.range' 1 k) from rngD_nat k 1]
    exact e5
  refine (seqN (app_cell (ev_var rfl) (ev_var rfl) (by rw [List.length_map]; unfold line; omega))).trans ?_
  simp only [ES, intsL, List.map_append, List.map_cons, List.map_nil]
  all_goals rfl
theorem loop_to1 (hc : ChC4 Pe.C ic) {row : List Int} {m : Nat} (hm : H[m]? = some (.lst (intsL row))) (hl : row.length ≤ 41) : ∀ (xs acc r : List Int) (o3 o4 o5 : Option D), acc.length + xs.length = row.length → row.drop acc.length = xs → appM (wlS dbl) (enumN acc.length xs) acc = some r →
    ∃ o3' o4' o5', forF (evSs Pe (BL_to1 ic)) (.v 3) [] (natD (List.range' acc.length xs.length)) [some (.ref m), some (.bl dbl), some (.ref H.length), o3, o4, o5] (H ++ [.lst (intsL acc)]) = .ok (.nx [some (.ref m), some (.bl dbl), some (.ref H.length), o3', o4', o5']) (H ++ [.lst (intsL r)]) := by
  intro xs
  induction xs with
  | nil => intro acc r o3 o4 o5 _ _ e; cases e; exact ⟨o3, o4, o5, forF_nil rfl⟩
  | cons x xs ih =>
    intro acc r o3 o4 o5 hs hd e
    simp only [List.length_cons] at hs
    simp only [enumN, appM, Option.bind_eq_some_iff] at e
    obtain ⟨v, e1, e2⟩ := e
    have el : (acc ++ [v]).length = acc.length + 1 := by simp
    have hx : row.getD acc.length 0 = x := by
      have h1 : row[acc.length]? = (row.drop acc.length)[0]? := by rw [List.getElem?_drop]; rfl
      rw [List.getD_eq_getElem?_getD, h1, hd]; rfl
    have hd2 : row.drop (acc.length + 1) = xs := by
      rw [← List.drop_drop, hd]; rfl
    rw [← hx] at e1
    have hb := body_to (Pe := Pe) (H := H) (ic := ic) (dbl := dbl) hc hm (by omega) (by omega) rfl e1 o4 o5
    rw [← el] at e2
    obtain ⟨o3', o4', o5', ih⟩ := ih (acc ++ [v]) r (some (.int (acc.length : Nat))) none none (by rw [el]; omega) (by rw [el]; exact hd2) e2
    refine ⟨o3', o4', o5', ?_⟩
    rw [el] at ih
    rw [List.length_cons, List.range'_succ, natD, List.map_cons]
    exact (forF_cons (xs := natD (List.range' (acc.length + 1) xs.length)) rfl rfl hb).trans ih
end
theorem run_to {P : Pg} {i ic n : Nat} {dbl : Bool} (hd : P.defs[i]? = some (BD_to ic)) (hc : ChC4 (callN P n) ic) {H : Hc} {m : Nat} {row r : List Int} (hm : H[m]? = some (.lst (intsL row))) (hl : row.length ≤ 41) (e : wl dbl row = some r) :
    callN P (n + 1) i [.ref m, .bl dbl] H = .ok (.ref H.length) (H ++ [.lst (intsL r)]) := by
  have hlt : m < H.length := by
    rcases Nat.lt_or_ge m H.length with h | h
    · exact h
    · rw [List.getElem?_eq_none h] at hm; cases hm
  rw [call_rt0 (d := BD_to ic) (b := (BD_to ic).body) (σ := [some (.ref m), some (.bl dbl), none, none, none, none]) (h' := H ++ [.lst (intsL r)]) (v := .ref H.length) hd rfl rfl rfl]
  · unfold finR
    rw [if_neg]
    simp [D.low]
  · obtain ⟨o3, o4, o5, ef⟩ := loop_to1 (Pe := ⟨callN P n, P.sub⟩) (ic := ic) (dbl := dbl) hc hm hl row [] r none none none (by simp) rfl e
    refine (seqN (σ' := [some (.ref m), some (.bl dbl), some (.ref H.length), none, none, none]) (h' := H ++ [.lst (intsL [])]) (asgV (ev_cell (ev_lst ev_nil)))).trans ?_
    refine (seqN (σ' := [some (.ref m), some (.bl dbl), some (.ref H.length), o3, o4, o5]) (h' := H ++ [.lst (intsL r)]) ?_).trans (seqR (retE (ev_var rfl)))
    have el : evE (callN P n) (.bi .len (.cons (.var 0) .nil)) [some (.ref m), some (.bl dbl), some (.ref H.length), none, none, none] (H ++ [.lst (intsL [])]) = .ok (.int (row.length : Nat)) (H ++ [.lst (intsL [])]) := by
      refine ev_bi1 (ev_var rfl) ?_
      simp only [biF, lenF, seqD]
      rw [List.getElem?_append_left hlt, hm]
      simp only [List.length_map]
    rw [forR1 (P := ⟨callN P n, P.sub⟩) el (smallI_nat (by omega)), Int.toNat_natCast, rngD_zero]
    rw [List.range_eq_range']; exact ef

/-! ### rows of polygon numbers -/
def pItem (h : Nat) (prev acc : List Int) (k : Nat) : Int :=
  (2 * (2 * (k : Int) - 1) * acc.getD (k - 1) 0 + (if 0 < h ∧ 1 < k then (2 * (k : Int) - 1) * ((k : Int) - 1) * (2 * (k : Int) - 3) * prev.getD (k - 2) 0 else 0)).fdiv ((k : Int) + 1)
def pHead (h : Nat) : Int := if h = 0 then 1 else 0
def pRow (h : Nat) (prev : List Int) : List Nat → List Int → List Int
  | [], acc => acc
  | k :: ks, acc => pRow h prev ks (acc ++ [pItem h prev acc k])
def pNext (most : Nat) (rs : List (List Int)) : List Int := pRow rs.length (rs.getD (rs.length - 1) []) (List.range' 1 most) [pHead rs.length]
def pRows (most : Nat) : Nat → List (List Int)
  | 0 => []
  | n + 1 => pRows most n ++ [pNext most (pRows most n)]
theorem pRow_len {h : Nat} {prev : List Int} : ∀ (ks : List Nat) (acc : List Int), (pRow h prev ks acc).length = acc.length + ks.length
  | [], acc => rfl
  | k :: ks, acc => by rw [pRow, pRow_len ks, List.length_append, List.length_cons, List.length_cons, List.length_nil]; omega
theorem pNext_len {most : Nat} {rs : List (List Int)} : (pNext most rs).length = most + 1 := by
  rw [pNext, pRow_len, List.length_range']; simp; omega
theorem pRows_len {most : Nat} : ∀ n, (pRows most n).length = n
  | 0 => rfl
  | n + 1 => by rw [pRows, List.length_append, pRows_len n]; rfl
theorem pRows_all {most : Nat} : ∀ n, ∀ r ∈ pRows most n, r.length = most + 1
  | 0, r, h => by simp [pRows] at h
  | n + 1, r, h => by
    rw [pRows, List.mem_append, List.mem_singleton] at h
    rcases h with h | rfl
    · exact pRows_all n r h
    · exact pNext_len
/-- the heap: a cell of references, then the rows -/
def refs (a n : Nat) : List D := (List.range' a n).map D.ref
def PH (H : Hc) (rs : List (List Int)) : Hc := H ++ (.lst (refs (H.length + 1) rs.length) :: rs.map fun r => .lst (intsL r))
theorem PH_len {H : Hc} {rs : List (List Int)} : (PH H rs).length = H.length + 1 + rs.length := by simp [PH]; omega
theorem PH_head {H : Hc} {rs : List (List Int)} : (PH H rs)[H.length]? = some (.lst (refs (H.length + 1) rs.length)) := by simp [PH]
theorem PH_row {H : Hc} {rs : List (List Int)} {i : Nat} (h : i < rs.length) : (PH H rs)[H.length + 1 + i]? = some (.lst (intsL (rs.getD i []))) := by
  rw [PH, List.getElem?_append_right (by omega), show H.length + 1 + i - H.length = i + 1 by omega, List.getElem?_cons_succ, List.getElem?_map, List.getElem?_eq_getElem h, List.getD_eq_getElem?_getD, List.getElem?_eq_getElem h]
  rfl
theorem PH_next {H : Hc} {rs : List (List Int)} {r : List Int} : (PH H rs ++ [Cell.lst (intsL r)]).set H.length (Cell.lst (refs (H.length + 1) rs.length ++ [D.ref (PH H rs).length])) = PH H (rs ++ [r]) := by
  rw [PH_len]
  simp only [PH]
  rw [List.append_assoc, List.set_append_right _ _ (Nat.le_refl _), Nat.sub_self, List.cons_append, List.set_cons_zero]
  have e : refs (H.length + 1) rs.length ++ [.ref (H.length + 1 + rs.length)] = refs (H.length + 1) (rs ++ [r]).length := by
    rw [List.length_append, List.length_singleton, refs, refs, List.range'_concat, List.map_append]
    simp
  rw [e, List.map_append]
  rfl
theorem refs_at {H : Hc} {n i : Nat} (h : i < n) : atD (refs (H.length + 1) n) (i : Int) = some (.ref (H.length + 1 + i)) := by
  refine atD_of ?_
  rw [refs, List.getElem?_map, List.getElem?_range' h]
  simp

def eK2 : CE := .bin .Sub (.bin .Mult (.cst (.int 2)) (.var 5)) (.cst (.int 1))
def eTop : CE := .bin .Mult (.bin .Mult (.cst (.int 2)) eK2) (.idx (.var 4) (.bin .Sub (.var 5) (.cst (.int 1))))
def eTwo : CE := .bin .Mult (.bin .Mult (.bin .Mult eK2 (.bin .Sub (.var 5) (.cst (.int 1)))) (.bin .Sub (.bin .Mult (.cst (.int 2)) (.var 5)) (.cst (.int 3)))) (.idx (.idx (.var 2) (.bin .Sub (.var 3) (.cst (.int 1)))) (.bin .Sub (.var 5) (.cst (.int 2))))
def eIf : CE := .and_ (.cmp .Gt (.var 3) (.cst (.int 0))) (.cmp .Gt (.var 5) (.cst (.int 1)))
def eQuo : CE := .bin .FloorDiv (.var 6) (.bin .Add (.var 5) (.cst (.int 1)))
section
variable {C : Caller} {H : Hc} {rs : List (List Int)} {acc : List Int} {k : Nat} {d0 d1 : D} {o6 : Option D}
abbrev pS (H : Hc) (rs : List (List Int)) (d0 d1 : D) (k : Nat) (o6 : Option D) : CSt := [some d0, some d1, some (.ref H.length), some (.int (rs.length : Nat)), some (.ref (PH H rs).length), some (.int (k : Nat)), o6]
abbrev pH (H : Hc) (rs : List (List Int)) (acc : List Int) : Hc := PH H rs ++ [.lst (intsL acc)]
theorem ev_k2 (hk : k ≤ 40) : evE C eK2 (pS H rs d0 d1 k o6) (pH H rs acc) = .ok (.int (2 * (k : Int) - 1)) (pH H rs acc) :=
  ev_bin (op := .Sub) (ev_bin (op := .Mult) ev_cst (ev_var rfl) (mul_sm (by decide))) ev_cst rfl
theorem ev_top (hk : k ≤ 40) (h1 : 1 ≤ k) (ha : acc.length = k) : evE C eTop (pS H rs d0 d1 k o6) (pH H rs acc) = .ok (.int (2 * (2 * (k : Int) - 1) * acc.getD (k - 1) 0)) (pH H rs acc) := by
  have e3 : evE C (.idx (.var 4) (.bin .Sub (.var 5) (.cst (.int 1)))) (pS H rs d0 d1 k o6) (pH H rs acc) = .ok (.int (acc.getD (k - 1) 0)) (pH H rs acc) := by
    refine ev_idx (ev_var rfl) (ev_bin (op := .Sub) (z := .int ((k - 1 : Nat) : Int)) (ev_var rfl) ev_cst ?_) ?_
    · simp only [binF, int2, Option.map_some]; congr 2; omega
    · simp only [idxF, cell_at]; exact atD_int (by omega)
  exact ev_bin (op := .Mult) (ev_bin (op := .Mult) ev_cst (ev_k2 hk) (mul_sm (by decide))) e3 (mul_sm (by omega))
theorem gt_int {h : Hc} {a b : Int} : cmpF h .Gt (.int a) (.int b) = some (decide (b < a)) := rfl
theorem ev_if : evE C eIf (pS H rs d0 d1 k o6) (pH H rs acc) = .ok (.bl (decide (0 < rs.length ∧ 1 < k))) (pH H rs acc) := by
  unfold eIf
  have c1 : evE C (.cmp .Gt (.var 3) (.cst (.int 0))) (pS H rs d0 d1 k o6) (pH H rs acc) = .ok (.bl (decide ((0 : Int) < (rs.length : Nat)))) (pH H rs acc) := ev_cmp (ev_var rfl) ev_cst gt_int
  have c2 : evE C (.cmp .Gt (.var 5) (.cst (.int 1))) (pS H rs d0 d1 k o6) (pH H rs acc) = .ok (.bl (decide ((1 : Int) < (k : Nat)))) (pH H rs acc) := ev_cmp (ev_var rfl) ev_cst gt_int
  refine (ev_and c1).trans ?_
  by_cases h0 : 0 < rs.length
  · rw [decide_eq_true (by omega : (0 : Int) < (rs.length : Nat)), if_pos rfl, c2]
    congr 2
    rw [decide_eq_decide]; omega
  · rw [decide_eq_false (by omega : ¬ (0 : Int) < (rs.length : Nat)), if_neg (by simp)]
    congr 2
    rw [decide_eq_false (by omega)]
theorem sm (x : Int) (h : x.natAbs < 1000000) : x.natAbs < 2 ^ 62 := by omega
theorem ev_two (hk : k ≤ 40) (h0 : 0 < rs.length) (h1 : 1 < k) (hp : k - 2 < (rs.getD (rs.length - 1) []).length) : evE C eTwo (pS H rs d0 d1 k o6) (pH H rs acc) = .ok (.int ((2 * (k : Int) - 1) * ((k : Int) - 1) * (2 * (k : Int) - 3) * (rs.getD (rs.length - 1) []).getD (k - 2) 0)) (pH H rs acc) := by
  have e3 : evE C (.idx (.idx (.var 2) (.bin .Sub (.var 3) (.cst (.int 1)))) (.bin .Sub (.var 5) (.cst (.int 2)))) (pS H rs d0 d1 k o6) (pH H rs acc) = .ok (.int ((rs.getD (rs.length - 1) []).getD (k - 2) 0)) (pH H rs acc) := by
    refine ev_idx (x := .ref (H.length + 1 + (rs.length - 1))) (ev_idx (ev_var rfl) (ev_bin (op := .Sub) (z := .int ((rs.length - 1 : Nat) : Int)) (ev_var rfl) ev_cst ?_) ?_) (ev_bin (op := .Sub) (z := .int ((k - 2 : Nat) : Int)) (ev_var rfl) ev_cst ?_) ?_
    · simp only [binF, int2, Option.map_some]; congr 2; omega
    · simp only [idxF]
      rw [List.getElem?_append_left (by rw [PH_len]; omega), PH_head]
      exact refs_at (by omega)
    · simp only [binF, int2, Option.map_some]; congr 2; omega
    · simp only [idxF]
      rw [List.getElem?_append_left (by rw [PH_len]; omega), PH_row (by omega)]
      exact atD_int hp
  have e4 : evE C (.bin .Sub (.bin .Mult (.cst (.int 2)) (.var 5)) (.cst (.int 3))) (pS H rs d0 d1 k o6) (pH H rs acc) = .ok (.int (2 * (k : Int) - 3)) (pH H rs acc) := ev_bin (op := .Sub) (ev_bin (op := .Mult) ev_cst (ev_var rfl) (mul_sm (by decide))) ev_cst rfl
  have b1 : (2 * (k : Int) - 1).natAbs < 100 := by omega
  have b2 : ((k : Int) - 1).natAbs < 100 := by omega
  have b3 : (2 * (k : Int) - 3).natAbs < 100 := by omega
  have b4 : ((2 * (k : Int) - 1) * ((k : Int) - 1)).natAbs < 10000 := by
    rw [Int.natAbs_mul]
    exact Nat.mul_lt_mul'' b1 b2
  have b5 : ((2 * (k : Int) - 1) * ((k : Int) - 1) * (2 * (k : Int) - 3)).natAbs < 1000000 := by
    rw [Int.natAbs_mul]
    exact Nat.mul_lt_mul'' b4 b3
  exact ev_bin (op := .Mult) (ev_bin (op := .Mult) (ev_bin (op := .Mult) (ev_k2 hk) (ev_bin (op := .Sub) (ev_var rfl) ev_cst rfl) (mul_sm (by omega))) e4 (mul_sm (by omega))) e3 (mul_sm (by omega))
end
def BL_pr0 : CSs := (.cons (.asg (.v 6) eTop) (.cons (.ifs eIf (.cons (.aug 6 .Add eTwo) .nil) .nil) (.cons (.app (.var 4) eQuo) (.cons (.kill [6]) .nil))))
theorem augI {P : Env2} {i : Nat} {op : Operator} {e : CE} {σ : CSt} {h h' : Hc} {a b c : Int} (k0 : σ[i]? = some (some (.int a))) (k : evE P.C e σ h = .ok (.int b) h') (kz : binF h' op (.int a) (.int b) = some (.int c)) : evS P (.aug i op e) σ h = .ok (.nx (σ.set i (some (.int c)))) h' := by
  simp only [evS, k0, k, st_ok, kz, stO_some]
section
variable {Pe : Env2} {H : Hc} {rs : List (List Int)} {acc : List Int} {k : Nat} {d0 d1 : D} {o6 : Option D}
def pTop (h : Nat) (prev acc : List Int) (k : Nat) : Int := 2 * (2 * (k : Int) - 1) * acc.getD (k - 1) 0 + (if 0 < h ∧ 1 < k then (2 * (k : Int) - 1) * ((k : Int) - 1) * (2 * (k : Int) - 3) * prev.getD (k - 2) 0 else 0)
theorem tail_pr (hk : k ≤ 40) (ha : acc.length = k) : evSs Pe (.cons (.app (.var 4) eQuo) (.cons (.kill [6]) .nil)) (pS H rs d0 d1 k (some (.int (pTop rs.length (rs.getD (rs.length - 1) []) acc k)))) (pH H rs acc) = .ok (.nx (pS H rs d0 d1 k none)) (pH H rs (acc ++ [pItem rs.length (rs.getD (rs.length - 1) []) acc k])) := by
  have eq : evE Pe.C eQuo (pS H rs d0 d1 k (some (.int (pTop rs.length (rs.getD (rs.length - 1) []) acc k)))) (pH H rs acc) = .ok (.int (pItem rs.length (rs.getD (rs.length - 1) []) acc k)) (pH H rs acc) := by
    refine ev_bin (op := .FloorDiv) (ev_var rfl) (ev_bin (op := .Add) (z := .int ((k : Int) + 1)) (ev_var rfl) ev_cst rfl) ?_
    simp only [binF, int2]
    rw [if_pos (divOk_s (by omega) (by omega))]
    rfl
  refine (seqN (app_cell (ev_var rfl) eq (by rw [List.length_map]; unfold line; omega))).trans ?_
  simp only [ES, pH, intsL, List.map_append, List.map_cons, List.map_nil]
  all_goals rfl
theorem body_pr0 (hk : k ≤ 40) (h1 : 1 ≤ k) (ha : acc.length = k) (hp : 0 < rs.length → k - 2 < (rs.getD (rs.length - 1) []).length) :
    evSs Pe BL_pr0 (pS H rs d0 d1 k o6) (pH H rs acc) = .ok (.nx (pS H rs d0 d1 k none)) (pH H rs (acc ++ [pItem rs.length (rs.getD (rs.length - 1) []) acc k])) := by
  unfold BL_pr0
  refine (seqN (σ' := pS H rs d0 d1 k (some (.int (2 * (2 * (k : Int) - 1) * acc.getD (k - 1) 0)))) (h' := pH H rs acc) (asgV (ev_top hk h1 ha))).trans ?_
  refine (seqN (σ' := pS H rs d0 d1 k (some (.int (pTop rs.length (rs.getD (rs.length - 1) []) acc k)))) (h' := pH H rs acc) ?_).trans (tail_pr hk ha)
  rw [ifB (P := Pe) ev_if]
  by_cases hc : 0 < rs.length ∧ 1 < k
  · rw [decide_eq_true hc, if_pos rfl]
    refine (seqN (augI (a := 2 * (2 * (k : Int) - 1) * acc.getD (k - 1) 0) rfl (ev_two hk hc.1 hc.2 (hp hc.1)) rfl)).trans ?_
    simp only [ES, pTop]
    rw [if_pos hc]; rfl
  · rw [decide_eq_false hc, if_neg (by simp)]
    simp only [ES, pTop]
    rw [if_neg hc, Int.add_zero]
end

def BL_pr1 : CSs := (.cons (.scope (.cons (.asg (.v 4) (.cell (.lst (.cons (.bi .int (.cons (.cmp .Eq (.var 3) (.cst (.int 0))) .nil)) .nil)))) (.cons (.for_ (.v 5) (.rng2 (.cst (.int 1)) (.bin .Add (.var 1) (.cst (.int 1)))) BL_pr0) (.cons (.app (.var 2) (.var 4)) (.cons (.kill [4, 5, 6]) .nil))))) .nil)
def BD_pr : CDef := ⟨7, 2, (.cons (.asg (.v 2) (.cell (.lst .nil))) (.cons (.for_ (.v 3) (.rng1 (.bin .Add (.var 0) (.cst (.int 1)))) BL_pr1) (.cons (.ret (.var 2)) .nil)))⟩
section
variable {Pe : Env2} {H : Hc} {rs : List (List Int)} {d0 : D} {most : Nat}
theorem loop_pr0 (body : CSs) (hm : most ≤ 40) (hb : ∀ (acc : List Int) (k : Nat) (o6 : Option D), k ≤ most → 1 ≤ k → acc.length = k → evSs Pe body (pS H rs d0 (.int (most : Nat)) k o6) (pH H rs acc) = .ok (.nx (pS H rs d0 (.int (most : Nat)) k none)) (pH H rs (acc ++ [pItem rs.length (rs.getD (rs.length - 1) []) acc k]))) :
    ∀ (c m : Nat) (acc : List Int) (o5 o6 : Option D), 1 ≤ m → m + c ≤ most + 1 → acc.length = m → ∃ o5' o6', forF (evSs Pe body) (.v 5) [] (natD (List.range' m c)) [some d0, some (.int (most : Nat)), some (.ref H.length), some (.int (rs.length : Nat)), some (.ref (PH H rs).length), o5, o6] (pH H rs acc) = .ok (.nx [some d0, some (.int (most : Nat)), some (.ref H.length), some (.int (rs.length : Nat)), some (.ref (PH H rs).length), o5', o6']) (pH H rs (pRow rs.length (rs.getD (rs.length - 1) []) (List.range' m c) acc)) := by
  intro c
  induction c with
  | zero => intro m acc o5 o6 _ _ _; exact ⟨o5, o6, forF_nil rfl⟩
  | succ c ih =>
    intro m acc o5 o6 h1 h2 ha
    obtain ⟨o5', o6', ih⟩ := ih (m + 1) (acc ++ [pItem rs.length (rs.getD (rs.length - 1) []) acc m]) (some (.int (m : Nat))) none (by omega) (by omega) (by simp [ha])
    refine ⟨o5', o6', ?_⟩
    rw [List.range'_succ, natD, List.map_cons]
    exact (forF_cons (xs := natD (List.range' (m + 1) c)) rfl rfl (hb acc m o6 (by omega) h1 ha)).trans ih
/-- the scope of a row: nothing is cut, for the row is kept -/
theorem scope_row {σ : CSt} {r : List Int} : scopeR (PH H rs) (.ok (.nx σ) (PH H (rs ++ [r]))) = .ok (.nx σ) (PH H (rs ++ [r])) := by
  have hc : cutOk (PH H rs).length (PH H rs) (PH H (rs ++ [r])) = false := by
    rw [cutOk, List.all_eq_false]
    refine ⟨(.lst (refs (H.length + 1) (rs ++ [r]).length), .lst (refs (H.length + 1) rs.length)), ?_, ?_⟩
    · rw [List.mem_iff_getElem?]
      refine ⟨H.length, ?_⟩
      rw [List.getElem?_zip_eq_some]
      refine ⟨?_, PH_head⟩
      rw [List.getElem?_take_of_lt (by rw [PH_len]; omega), PH_head]
    · have e1 : refs (H.length + 1) (rs ++ [r]).length = refs (H.length + 1) rs.length ++ [.ref (PH H rs).length] := by
        rw [PH_len, List.length_append, List.length_singleton, refs, refs, List.range'_concat, List.map_append]
        simp
      have e2 : ∀ (xs : List D) (n : Nat), D.low.lows n (xs ++ [.ref n]) = false := by
        intro xs n
        induction xs with
        | nil => simp [D.low.lows, D.low]
        | cons x xs ih => rw [List.cons_append, D.low.lows, ih, Bool.and_false]
      simp only [Bool.or_eq_true, not_or, decide_eq_true_eq]
      constructor
      · simp only [Cell.low]
        rw [e1, e2]; simp
      · intro e
        have := congrArg (fun c => match c with | Cell.lst xs => xs.length | _ => 0) e
        simp [refs] at this
  simp only [scopeR, hc, Bool.and_false]
  rfl
theorem head_int {h : Hc} (n : Nat) : biF h .int [.bl (decide ((n : Int) = 0))] = some (.int (pHead n)) := by
  simp only [biF, intF, pHead]
  by_cases k : n = 0
  · rw [decide_eq_true (by omega), if_pos k]; rfl
  · rw [decide_eq_false (by omega), if_neg k]; rfl
theorem scopeE {P : Env2} {ss : CSs} {σ : CSt} {h : Hc} : evS P (.scope ss) σ h = scopeR h (evSs P ss σ h) := by simp only [evS]
theorem body_pr1 (hm : most ≤ 40) (hrl : rs.length ≤ 1000) (hr : ∀ r ∈ rs, r.length = most + 1) (o4 o5 o6 : Option D) :
    evSs Pe BL_pr1 [some d0, some (.int (most : Nat)), some (.ref H.length), some (.int (rs.length : Nat)), o4, o5, o6] (PH H rs) = .ok (.nx [some d0, some (.int (most : Nat)), some (.ref H.length), some (.int (rs.length : Nat)), none, none, none]) (PH H (rs ++ [pNext most rs])) := by
  have hp : ∀ k, 1 ≤ k → k ≤ most → 0 < rs.length → k - 2 < (rs.getD (rs.length - 1) []).length := by
    intro k _ hk h0
    rw [List.getD_eq_getElem?_getD, List.getElem?_eq_getElem (by omega), Option.getD_some, hr _ (List.getElem_mem _)]
    omega
  obtain ⟨o5', o6', ef⟩ := loop_pr0 (Pe := Pe) (H := H) (rs := rs) (d0 := d0) BL_pr0 hm (fun acc k o6 h1 h2 h3 => body_pr0 (by omega) h2 h3 (hp k h2 h1)) most 1 [pHead rs.length] o5 o6 (by omega) (by omega) rfl
  have e1 : evE Pe.C (.cell (.lst (.cons (.bi .int (.cons (.cmp .Eq (.var 3) (.cst (.int 0))) .nil)) .nil))) [some d0, some (.int (most : Nat)), some (.ref H.length), some (.int (rs.length : Nat)), o4, o5, o6] (PH H rs) = .ok (.ref (PH H rs).length) (pH H rs [pHead rs.length]) :=
    ev_cell (ev_lst (ev_cons (ev_bi1 (ev_cmp (z := decide (((rs.length : Nat) : Int) = 0)) (ev_var rfl) ev_cst rfl) (head_int _)) ev_nil))
  have ea : evE Pe.C (.cst (.int 1)) [some d0, some (.int (most : Nat)), some (.ref H.length), some (.int (rs.length : Nat)), some (.ref (PH H rs).length), o5, o6] (pH H rs [pHead rs.length]) = .ok (.int 1) (pH H rs [pHead rs.length]) := ev_cst
  have eb : evE Pe.C (.bin .Add (.var 1) (.cst (.int 1))) [some d0, some (.int (most : Nat)), some (.ref H.length), some (.int (rs.length : Nat)), some (.ref (PH H rs).length), o5, o6] (pH H rs [pHead rs.length]) = .ok (.int ((most + 1 : Nat) : Int)) (pH H rs [pHead rs.length]) := ev_bin (op := .Add) (ev_var rfl) ev_cst rfl
  have e2 : evS Pe (.for_ (.v 5) (.rng2 (.cst (.int 1)) (.bin .Add (.var 1) (.cst (.int 1)))) BL_pr0) [some d0, some (.int (most : Nat)), some (.ref H.length), some (.int (rs.length : Nat)), some (.ref (PH H rs).length), o5, o6] (pH H rs [pHead rs.length]) = .ok (.nx [some d0, some (.int (most : Nat)), some (.ref H.length), some (.int (rs.length : Nat)), some (.ref (PH H rs).length), o5', o6']) (pH H rs (pNext most rs)) := by
    rw [forR2 (P := Pe) ea eb (by decide) (smallI_nat (by omega))]
    rw [show (((most + 1 : Nat) : Int) - 1).toNat = most by omega, show rngD 1 1 most = natD (List.range' 1 most) from rngD_nat most 1]
    exact ef
  have e3 : evS Pe (.app (.var 2) (.var 4)) [some d0, some (.int (most : Nat)), some (.ref H.length), some (.int (rs.length : Nat)), some (.ref (PH H rs).length), o5', o6'] (pH H rs (pNext most rs)) = .ok (.nx [some d0, some (.int (most : Nat)), some (.ref H.length), some (.int (rs.length : Nat)), some (.ref (PH H rs).length), o5', o6']) (PH H (rs ++ [pNext most rs])) := by
    have k1 : (pH H rs (pNext most rs))[H.length]? = some (.lst (refs (H.length + 1) rs.length)) := by
      rw [pH, List.getElem?_append_left (by rw [PH_len]; omega), PH_head]
    have k2 : (refs (H.length + 1) rs.length).length < line := by
      simp only [refs, List.length_map, List.length_range']; unfold line; omega
    have kv1 : evE Pe.C (.var 2) [some d0, some (.int (most : Nat)), some (.ref H.length), some (.int (rs.length : Nat)), some (.ref (PH H rs).length), o5', o6'] (pH H rs (pNext most rs)) = .ok (.ref H.length) (pH H rs (pNext most rs)) := ev_var rfl
    have kv2 : evE Pe.C (.var 4) [some d0, some (.int (most : Nat)), some (.ref H.length), some (.int (rs.length : Nat)), some (.ref (PH H rs).length), o5', o6'] (pH H rs (pNext most rs)) = .ok (.ref (PH H rs).length) (pH H rs (pNext most rs)) := ev_var rfl
    simp only [evS, kv1, kv2, st_ok, isLstD, k1]
    rw [if_neg (by simp), if_pos k2]
    rw [← PH_next]
  have e4 : evSs Pe (.cons (.asg (.v 4) (.cell (.lst (.cons (.bi .int (.cons (.cmp .Eq (.var 3) (.cst (.int 0))) .nil)) .nil)))) (.cons (.for_ (.v 5) (.rng2 (.cst (.int 1)) (.bin .Add (.var 1) (.cst (.int 1)))) BL_pr0) (.cons (.app (.var 2) (.var 4)) (.cons (.kill [4, 5, 6]) .nil)))) [some d0, some (.int (most : Nat)), some (.ref H.length), some (.int (rs.length : Nat)), o4, o5, o6] (PH H rs) = .ok (.nx [some d0, some (.int (most : Nat)), some (.ref H.length), some (.int (rs.length : Nat)), none, none, none]) (PH H (rs ++ [pNext most rs])) := by
    refine (seqN (σ' := [some d0, some (.int (most : Nat)), some (.ref H.length), some (.int (rs.length : Nat)), some (.ref (PH H rs).length), o5, o6]) (h' := pH H rs [pHead rs.length]) (asgV e1)).trans ?_
    refine (seqN e2).trans ?_
    refine (seqN e3).trans ?_
    simp only [ES]; all_goals rfl
  unfold BL_pr1
  refine (seqN (scopeE.trans ((congrArg (scopeR (PH H rs)) e4).trans scope_row))).trans ?_
  simp only [ES]
end

/-- the outer loop, for the program's and the law's text -/
def BodyR (Pe : Env2) (body : CSs) (most : Nat) : Prop := ∀ (H : Hc) (rs : List (List Int)) (d0 : D) (o4 o5 o6 : Option D), rs.length ≤ 1000 → (∀ r ∈ rs, r.length = most + 1) →
  evSs Pe body [some d0, some (.int (most : Nat)), some (.ref H.length), some (.int (rs.length : Nat)), o4, o5, o6] (PH H rs) = .ok (.nx [some d0, some (.int (most : Nat)), some (.ref H.length), some (.int (rs.length : Nat)), none, none, none]) (PH H (rs ++ [pNext most rs]))
theorem loop_rows {Pe : Env2} {body : CSs} {most : Nat} (hb : BodyR Pe body most) {H : Hc} {d0 : D} : ∀ (c m : Nat) (o3 o4 o5 o6 : Option D), m + c ≤ 1000 →
    ∃ o3' o4' o5' o6', forF (evSs Pe body) (.v 3) [] (natD (List.range' m c)) [some d0, some (.int (most : Nat)), some (.ref H.length), o3, o4, o5, o6] (PH H (pRows most m)) = .ok (.nx [some d0, some (.int (most : Nat)), some (.ref H.length), o3', o4', o5', o6']) (PH H (pRows most (m + c))) := by
  intro c
  induction c with
  | zero => intro m o3 o4 o5 o6 _; exact ⟨o3, o4, o5, o6, forF_nil rfl⟩
  | succ c ih =>
    intro m o3 o4 o5 o6 hm
    obtain ⟨o3', o4', o5', o6', ih⟩ := ih (m + 1) (some (.int (m : Nat))) none none none (by omega)
    refine ⟨o3', o4', o5', o6', ?_⟩
    rw [List.range'_succ, natD, List.map_cons]
    have h1 := hb H (pRows most m) d0 o4 o5 o6 (by rw [pRows_len]; omega) (pRows_all m)
    rw [pRows_len] at h1
    rw [show m + (c + 1) = m + 1 + c by omega]
    exact (forF_cons (xs := natD (List.range' (m + 1) c)) rfl rfl h1).trans ih
def BD_rows (body : CSs) : CDef := ⟨7, 2, (.cons (.asg (.v 2) (.cell (.lst .nil))) (.cons (.for_ (.v 3) (.rng1 (.bin .Add (.var 0) (.cst (.int 1)))) body) (.cons (.ret (.var 2)) .nil)))⟩
theorem run_rows {P : Pg} {i n : Nat} {body : CSs} {most : Nat} (hd : P.defs[i]? = some (BD_rows body)) (hb : BodyR ⟨callN P n, P.sub⟩ body most) {H : Hc} {g : Nat} (hg : g ≤ 900) :
    callN P (n + 1) i [.int (g : Nat), .int (most : Nat)] H = .ok (.ref H.length) (PH H (pRows most (g + 1))) := by
  rw [call_rt0 (d := BD_rows body) (b := (BD_rows body).body) (σ := [some (.int (g : Nat)), some (.int (most : Nat)), none, none, none, none, none]) (h' := PH H (pRows most (g + 1))) (v := .ref H.length) hd rfl rfl rfl]
  · unfold finR
    rw [if_neg]
    simp [D.low]
  · obtain ⟨o3, o4, o5, o6, ef⟩ := loop_rows hb (H := H) (d0 := .int (g : Nat)) (g + 1) 0 none none none none (by omega)
    refine (seqN (σ' := [some (.int (g : Nat)), some (.int (most : Nat)), some (.ref H.length), none, none, none, none]) (h' := H ++ [.lst []]) (asgV (ev_cell (ev_lst ev_nil)))).trans ?_
    refine (seqN (σ' := [some (.int (g : Nat)), some (.int (most : Nat)), some (.ref H.length), o3, o4, o5, o6]) (h' := PH H (pRows most (g + 1))) ?_).trans (seqR (retE (ev_var rfl)))
    have el : evE (callN P n) (.bin .Add (.var 0) (.cst (.int 1))) [some (.int (g : Nat)), some (.int (most : Nat)), some (.ref H.length), none, none, none, none] (H ++ [.lst []]) = .ok (.int ((g + 1 : Nat) : Int)) (H ++ [.lst []]) := ev_bin (op := .Add) (ev_var rfl) ev_cst rfl
    rw [forR1 (P := ⟨callN P n, P.sub⟩) el (smallI_nat (by omega)), Int.toNat_natCast, rngD_zero, List.range_eq_range']
    rw [Nat.zero_add] at ef
    exact ef
theorem bodyR_pr {Pe : Env2} {most : Nat} (hm : most ≤ 40) : BodyR Pe BL_pr1 most := fun H rs d0 o4 o5 o6 h1 h2 => body_pr1 hm h1 h2 o4 o5 o6
/-! ### the law's rows -/
def BL_lp0 : CSs := (.cons (.ifs (.cmp .Eq (.var 5) (.cst (.int 0))) (.cons (.app (.var 4) (.bi .int (.cons (.cmp .Eq (.var 3) (.cst (.int 0))) .nil))) .nil) (.cons (.asg (.v 6) eTop) (.cons (.ifs eIf (.cons (.asg (.v 6) (.bin .Add (.var 6) eTwo)) .nil) .nil) (.cons (.app (.var 4) eQuo) .nil)))) (.cons (.kill [6]) .nil))
def BL_lp1 : CSs := (.cons (.scope (.cons (.asg (.v 4) (.cell (.lst .nil))) (.cons (.for_ (.v 5) (.rng1 (.bin .Add (.var 1) (.cst (.int 1)))) BL_lp0) (.cons (.app (.var 2) (.var 4)) (.cons (.kill [4, 5, 6]) .nil))))) .nil)
section
variable {Pe : Env2} {H : Hc} {rs : List (List Int)} {acc : List Int} {k : Nat} {d0 d1 : D} {o6 : Option D}
theorem body_lp0 (hk : k ≤ 40) (h1 : 1 ≤ k) (ha : acc.length = k) (hp : 0 < rs.length → k - 2 < (rs.getD (rs.length - 1) []).length) :
    evSs Pe BL_lp0 (pS H rs d0 d1 k o6) (pH H rs acc) = .ok (.nx (pS H rs d0 d1 k none)) (pH H rs (acc ++ [pItem rs.length (rs.getD (rs.length - 1) []) acc k])) := by
  unfold BL_lp0
  have ec : evE Pe.C (.cmp .Eq (.var 5) (.cst (.int 0))) (pS H rs d0 d1 k o6) (pH H rs acc) = .ok (.bl (decide ((k : Int) = 0))) (pH H rs acc) := ev_cmp (ev_var rfl) ev_cst rfl
  rw [decide_eq_false (by omega)] at ec
  have eq : evE Pe.C eQuo (pS H rs d0 d1 k (some (.int (pTop rs.length (rs.getD (rs.length - 1) []) acc k)))) (pH H rs acc) = .ok (.int (pItem rs.length (rs.getD (rs.length - 1) []) acc k)) (pH H rs acc) := by
    refine ev_bin (op := .FloorDiv) (ev_var rfl) (ev_bin (op := .Add) (z := .int ((k : Int) + 1)) (ev_var rfl) ev_cst rfl) ?_
    simp only [binF, int2]
    rw [if_pos (divOk_s (by omega) (by omega))]
    rfl
  have e1 : evSs Pe (.cons (.asg (.v 6) eTop) (.cons (.ifs eIf (.cons (.asg (.v 6) (.bin .Add (.var 6) eTwo)) .nil) .nil) (.cons (.app (.var 4) eQuo) .nil))) (pS H rs d0 d1 k o6) (pH H rs acc) = .ok (.nx (pS H rs d0 d1 k (some (.int (pTop rs.length (rs.getD (rs.length - 1) []) acc k))))) (pH H rs (acc ++ [pItem rs.length (rs.getD (rs.length - 1) []) acc k])) := by
    refine (seqN (σ' := pS H rs d0 d1 k (some (.int (2 * (2 * (k : Int) - 1) * acc.getD (k - 1) 0)))) (h' := pH H rs acc) (asgV (ev_top hk h1 ha))).trans ?_
    refine (seqN (σ' := pS H rs d0 d1 k (some (.int (pTop rs.length (rs.getD (rs.length - 1) []) acc k)))) (h' := pH H rs acc) ?_).trans ?_
    · rw [ifB (P := Pe) ev_if]
      by_cases hc : 0 < rs.length ∧ 1 < k
      · rw [decide_eq_true hc, if_pos rfl]
        refine (seqN (asgV (ev_bin (op := .Add) (ev_var (i := 6) rfl) (ev_two hk hc.1 hc.2 (hp hc.1)) rfl))).trans ?_
        simp only [ES, pTop]
        rw [if_pos hc]; rfl
      · rw [decide_eq_false hc, if_neg (by simp)]
        simp only [ES, pTop]
        rw [if_neg hc, Int.add_zero]
    · refine (seqN (app_cell (ev_var rfl) eq (by rw [List.length_map]; unfold line; omega))).trans ?_
      simp only [ES, pH, intsL, List.map_append, List.map_cons, List.map_nil]
      all_goals rfl
  refine (seqN ((ifF (P := Pe) ec).trans e1)).trans ?_
  simp only [ES]; all_goals rfl
end

section
variable {Pe : Env2} {H : Hc} {rs : List (List Int)} {d0 : D} {most : Nat}
theorem first_lp0 (o6 : Option D) : evSs Pe BL_lp0 (pS H rs d0 (.int (most : Nat)) 0 o6) (pH H rs []) = .ok (.nx (pS H rs d0 (.int (most : Nat)) 0 none)) (pH H rs [pHead rs.length]) := by
  unfold BL_lp0
  have ec : evE Pe.C (.cmp .Eq (.var 5) (.cst (.int 0))) (pS H rs d0 (.int (most : Nat)) 0 o6) (pH H rs []) = .ok (.bl true) (pH H rs []) := ev_cmp (ev_var rfl) ev_cst rfl
  have eh : evE Pe.C (.bi .int (.cons (.cmp .Eq (.var 3) (.cst (.int 0))) .nil)) (pS H rs d0 (.int (most : Nat)) 0 o6) (pH H rs []) = .ok (.int (pHead rs.length)) (pH H rs []) :=
    ev_bi1 (ev_cmp (z := decide (((rs.length : Nat) : Int) = 0)) (ev_var rfl) ev_cst rfl) (head_int _)
  have e1 : evSs Pe (.cons (.app (.var 4) (.bi .int (.cons (.cmp .Eq (.var 3) (.cst (.int 0))) .nil))) .nil) (pS H rs d0 (.int (most : Nat)) 0 o6) (pH H rs []) = .ok (.nx (pS H rs d0 (.int (most : Nat)) 0 o6)) (pH H rs [pHead rs.length]) := by
    refine (seqN (app_cell (ev_var rfl) eh (by decide))).trans ?_
    simp only [ES]; all_goals rfl
  refine (seqN ((ifT (P := Pe) ec).trans e1)).trans ?_
  simp only [ES]; all_goals rfl
theorem body_lp1 (hm : most ≤ 40) (hrl : rs.length ≤ 1000) (hr : ∀ r ∈ rs, r.length = most + 1) (o4 o5 o6 : Option D) :
    evSs Pe BL_lp1 [some d0, some (.int (most : Nat)), some (.ref H.length), some (.int (rs.length : Nat)), o4, o5, o6] (PH H rs) = .ok (.nx [some d0, some (.int (most : Nat)), some (.ref H.length), some (.int (rs.length : Nat)), none, none, none]) (PH H (rs ++ [pNext most rs])) := by
  have hp : ∀ k, 1 ≤ k → k ≤ most → 0 < rs.length → k - 2 < (rs.getD (rs.length - 1) []).length := by
    intro k _ hk h0
    rw [List.getD_eq_getElem?_getD, List.getElem?_eq_getElem (by omega), Option.getD_some, hr _ (List.getElem_mem _)]
    omega
  obtain ⟨o5', o6', ef⟩ := loop_pr0 (Pe := Pe) (H := H) (rs := rs) (d0 := d0) BL_lp0 hm (fun acc k o6 h1 h2 h3 => body_lp0 (by omega) h2 h3 (hp k h2 h1)) most 1 [pHead rs.length] (some (.int (0 : Nat))) none (by omega) (by omega) rfl
  have e1 : evE Pe.C (.cell (.lst .nil)) [some d0, some (.int (most : Nat)), some (.ref H.length), some (.int (rs.length : Nat)), o4, o5, o6] (PH H rs) = .ok (.ref (PH H rs).length) (pH H rs []) :=
    ev_cell (ev_lst ev_nil)
  have eb : evE Pe.C (.bin .Add (.var 1) (.cst (.int 1))) [some d0, some (.int (most : Nat)), some (.ref H.length), some (.int (rs.length : Nat)), some (.ref (PH H rs).length), o5, o6] (pH H rs []) = .ok (.int ((most + 1 : Nat) : Int)) (pH H rs []) := ev_bin (op := .Add) (ev_var rfl) ev_cst rfl
  have e2 : evS Pe (.for_ (.v 5) (.rng1 (.bin .Add (.var 1) (.cst (.int 1)))) BL_lp0) [some d0, some (.int (most : Nat)), some (.ref H.length), some (.int (rs.length : Nat)), some (.ref (PH H rs).length), o5, o6] (pH H rs []) = .ok (.nx [some d0, some (.int (most : Nat)), some (.ref H.length), some (.int (rs.length : Nat)), some (.ref (PH H rs).length), o5', o6']) (pH H rs (pNext most rs)) := by
    rw [forR1 (P := Pe) eb (smallI_nat (by omega)), Int.toNat_natCast, rngD_zero, List.range_eq_range', List.range'_succ, natD, List.map_cons]
    exact (forF_cons (xs := natD (List.range' 1 most)) rfl rfl (first_lp0 o6)).trans ef
  have e3 : evS Pe (.app (.var 2) (.var 4)) [some d0, some (.int (most : Nat)), some (.ref H.length), some (.int (rs.length : Nat)), some (.ref (PH H rs).length), o5', o6'] (pH H rs (pNext most rs)) = .ok (.nx [some d0, some (.int (most : Nat)), some (.ref H.length), some (.int (rs.length : Nat)), some (.ref (PH H rs).length), o5', o6']) (PH H (rs ++ [pNext most rs])) := by
    have k1 : (pH H rs (pNext most rs))[H.length]? = some (.lst (refs (H.length + 1) rs.length)) := by
      rw [pH, List.getElem?_append_left (by rw [PH_len]; omega), PH_head]
    have k2 : (refs (H.length + 1) rs.length).length < line := by
      simp only [refs, List.length_map, List.length_range']; unfold line; omega
    have kv1 : evE Pe.C (.var 2) [some d0, some (.int (most : Nat)), some (.ref H.length), some (.int (rs.length : Nat)), some (.ref (PH H rs).length), o5', o6'] (pH H rs (pNext most rs)) = .ok (.ref H.length) (pH H rs (pNext most rs)) := ev_var rfl
    have kv2 : evE Pe.C (.var 4) [some d0, some (.int (most : Nat)), some (.ref H.length), some (.int (rs.length : Nat)), some (.ref (PH H rs).length), o5', o6'] (pH H rs (pNext most rs)) = .ok (.ref (PH H rs).length) (pH H rs (pNext most rs)) := ev_var rfl
    simp only [evS, kv1, kv2, st_ok, isLstD, k1]
    rw [if_neg (by simp), if_pos k2]
    rw [← PH_next]
  have e4 : evSs Pe (.cons (.asg (.v 4) (.cell (.lst .nil))) (.cons (.for_ (.v 5) (.rng1 (.bin .Add (.var 1) (.cst (.int 1)))) BL_lp0) (.cons (.app (.var 2) (.var 4)) (.cons (.kill [4, 5, 6]) .nil)))) [some d0, some (.int (most : Nat)), some (.ref H.length), some (.int (rs.length : Nat)), o4, o5, o6] (PH H rs) = .ok (.nx [some d0, some (.int (most : Nat)), some (.ref H.length), some (.int (rs.length : Nat)), none, none, none]) (PH H (rs ++ [pNext most rs])) := by
    refine (seqN (σ' := [some d0, some (.int (most : Nat)), some (.ref H.length), some (.int (rs.length : Nat)), some (.ref (PH H rs).length), o5, o6]) (h' := pH H rs []) (asgV e1)).trans ?_
    refine (seqN e2).trans ?_
    refine (seqN e3).trans ?_
    simp only [ES]; all_goals rfl
  unfold BL_lp1
  refine (seqN (scopeE.trans ((congrArg (scopeR (PH H rs)) e4).trans scope_row))).trans ?_
  simp only [ES]
end
theorem bodyR_lp {Pe : Env2} {most : Nat} (hm : most ≤ 40) : BodyR Pe BL_lp1 most := fun H rs d0 o4 o5 o6 h1 h2 => body_lp1 hm h1 h2 o4 o5 o6
/-! the defs of k41 are these -/
theorem d41_13 : P.defs[13]? = some (BD_rows BL_pr1) := rfl
theorem d41_40 : P.defs[40]? = some (BD_rows BL_lp1) := rfl
theorem d41_14 : P.defs[14]? = some (BD_wl 4 true) := rfl
theorem d41_15 : P.defs[15]? = some (BD_wl 4 false) := rfl
theorem d41_42 : P.defs[42]? = some (BD_to 41) := rfl
theorem d41_4 : P.defs[4]? = some BD_choP := rfl
theorem d41_41 : P.defs[41]? = some (BD_choF 39) := rfl
theorem d41_39 : P.defs[39]? = some BD_fact := rfl
theorem d41_3 : P.defs[3]? = some BD_fact := rfl

theorem nr41 : P.nr = true := by decide +kernel
theorem gen_tab : ((List.range 7).all fun g => runs P 10 18 [.int (g : Nat)] .non && (decide (g = 0) || runs P 10 21 [.int (g : Nat)] .non)) = true := by decide +kernel
theorem pol_tab : ((List.range 41).all fun k => runs P 10 19 [.int (k : Nat)] .non) = true := by decide +kernel
theorem run_18 {n g : Nat} (hg : g ≤ 6) (H : Hc) : callN P (n + 10) 18 [.int (g : Nat)] H = .ok .non H := by
  have h := List.all_eq_true.mp gen_tab g (List.mem_range.mpr (by omega))
  simp only [Bool.and_eq_true] at h
  exact callN_up (runs_at nr41 h.1 H) (by omega)
theorem run_21 {n g : Nat} (h0 : 0 < g) (hg : g ≤ 6) (H : Hc) : callN P (n + 10) 21 [.int (g : Nat)] H = .ok .non H := by
  have h := List.all_eq_true.mp gen_tab g (List.mem_range.mpr (by omega))
  simp only [Bool.and_eq_true, Bool.or_eq_true, decide_eq_true_eq] at h
  rcases h.2 with h | h
  · omega
  · exact callN_up (runs_at nr41 h H) (by omega)
theorem run_19 {n k : Nat} (hk : k ≤ 40) (H : Hc) : callN P (n + 10) 19 [.int (k : Nat)] H = .ok .non H :=
  callN_up (runs_at nr41 (List.all_eq_true.mp pol_tab k (List.mem_range.mpr (by omega))) H) (by omega)
/-- the row of genus g to k -/
def pR (k g : Nat) : List Int := (pRows k (g + 1)).getD g []
theorem pR_len {k g : Nat} : (pR k g).length = k + 1 := by
  unfold pR
  rw [List.getD_eq_getElem?_getD, List.getElem?_eq_getElem (by rw [pRows_len]; omega), Option.getD_some]
  exact pRows_all _ _ (List.getElem_mem _)
theorem run_13 {n g k : Nat} (hg : g ≤ 6) (hk : k ≤ 40) (H : Hc) : callN P (n + 1) 13 [.int (g : Nat), .int (k : Nat)] H = .ok (.ref H.length) (PH H (pRows k (g + 1))) := run_rows d41_13 (bodyR_pr hk) (by omega)
/-- the row as a reference, in the heap made -/
theorem ev_row {n g k : Nat} (hg : g ≤ 6) (hk : k ≤ 40) {H : Hc} {σ : CSt} {e1 e2 e3 : CE} (k1 : ∀ h, evE (callN P (n + 1)) e1 σ h = .ok (.int (g : Nat)) h) (k2 : ∀ h, evE (callN P (n + 1)) e2 σ h = .ok (.int (k : Nat)) h) :
    evE (callN P (n + 1)) (.idx (.call 13 (.cons e1 (.cons e2 .nil))) e1) σ H = .ok (.ref (H.length + 1 + g)) (PH H (pRows k (g + 1))) := by
  refine ev_idx ((ev_c2 (k1 _) (k2 _)).trans (run_13 hg hk H)) (k1 _) ?_
  simp only [idxF]
  rw [PH_head]
  exact refs_at (by rw [pRows_len]; omega)
theorem row_at {g k : Nat} {H : Hc} : (PH H (pRows k (g + 1)))[H.length + 1 + g]? = some (.lst (intsL (pR k g))) := PH_row (by rw [pRows_len]; omega)
theorem PH_app {H : Hc} {rs : List (List Int)} : ∃ t, PH H rs = H ++ t := ⟨_, rfl⟩
theorem run_20 {n g k : Nat} (hg : g ≤ 6) (hk : k ≤ 40) (H : Hc) : callN P (n + 12) 20 [.int (g : Nat), .int (k : Nat)] H = .ok (.int ((pR k g).getD k 0)) H := by
  obtain ⟨t, ht⟩ := PH_app (H := H) (rs := pRows k (g + 1))
  refine call_rt (t := t) (d := d_polygon_number) (b := b_polygon_number) (σ := [some (.int (g : Nat)), some (.int (k : Nat))]) rfl rfl rfl rfl rfl ?_
  unfold b_polygon_number
  refine (seqN (exprE ((ev_c1 (ev_var rfl)).trans (run_18 (n := n + 1) hg H)))).trans ?_
  refine (seqN (exprE ((ev_c1 (ev_var rfl)).trans (run_19 (n := n + 1) hk H)))).trans ?_
  refine seqR (retE ?_)
  rw [← ht]
  refine ev_idx (ev_row (n := n + 10) (e3 := .var 0) hg hk (fun h => ev_var rfl) (fun h => ev_var rfl)) (ev_var rfl) ?_
  simp only [idxF]
  rw [row_at]
  exact atD_int (by rw [pR_len]; omega)

theorem ch41 {n : Nat} : ChC4 (callN P (n + 1)) 4 := run_ch4 d41_4
theorem ch41L {n : Nat} : ChC4 (callN P (n + 2)) 41 := run_choF d41_41 d41_39
theorem lt_of_at {α : Type} {l : List α} {m : Nat} {c : α} (h : l[m]? = some c) : m < l.length := by
  rcases Nat.lt_or_ge m l.length with h1 | h1
  · exact h1
  · rw [List.getElem?_eq_none h1] at h; cases h
theorem seqD_at {H : Hc} {m : Nat} {l : List Int} (h : H[m]? = some (.lst (intsL l))) : lstD H (.ref m) = some (intsL l) := by simp only [lstD, h]
theorem gOk_cell {H : Hc} {m : Nat} {l : List Int} (h : H[m]? = some (.lst (intsL l))) : ∀ X, gOk (guardOf H (.ref m)) (H ++ X) = true := by
  intro X
  simp only [guardOf, h, gOk, List.all_cons, List.all_nil, Bool.and_true, decide_eq_true_eq]
  rw [List.getElem?_append_left (lt_of_at h), h]
theorem run_14 {n m : Nat} {H : Hc} {row r : List Int} (hm : H[m]? = some (.lst (intsL row))) (hl : row.length ≤ 41) (e : wl true row = some r) : callN P (n + 2) 14 [.ref m] H = .ok (.ref H.length) (H ++ [.lst (intsL r)]) :=
  run_wl d41_14 ch41 (seqD_at hm) (gOk_cell hm) hl e
theorem run_15 {n m : Nat} {H : Hc} {row r : List Int} (hm : H[m]? = some (.lst (intsL row))) (hl : row.length ≤ 41) (e : wl false row = some r) : callN P (n + 2) 15 [.ref m] H = .ok (.ref H.length) (H ++ [.lst (intsL r)]) :=
  run_wl d41_15 ch41 (seqD_at hm) (gOk_cell hm) hl e
theorem wl_len {dbl : Bool} {row r : List Int} (e : wl dbl row = some r) : r.length = row.length := by
  have h := appM_len e
  have : ∀ (l : List Int) (i : Nat), (enumN i l).length = l.length := by
    intro l
    induction l with
    | nil => intro i; rfl
    | cons x xs ih => intro i; rw [enumN, List.length_cons, ih, List.length_cons]
  rw [h, this]; simp
theorem run_22 {n g k : Nat} {r : List Int} (h0 : 0 < g) (hg : g ≤ 6) (hk : k ≤ 40) (e : wl true (pR k g) = some r) (H : Hc) : callN P (n + 12) 22 [.int (g : Nat), .int (k : Nat)] H = .ok (.int (r.getD k 0)) H := by
  obtain ⟨t, ht⟩ := PH_app (H := H) (rs := pRows k (g + 1))
  refine call_rt (t := t ++ [.lst (intsL r)]) (d := d_smooth_polygon_number) (b := b_smooth_polygon_number) (σ := [some (.int (g : Nat)), some (.int (k : Nat))]) rfl rfl rfl rfl rfl ?_
  unfold b_smooth_polygon_number
  refine (seqN (exprE ((ev_c1 (ev_var rfl)).trans (run_21 (n := n + 1) h0 hg H)))).trans ?_
  refine (seqN (exprE ((ev_c1 (ev_var rfl)).trans (run_19 (n := n + 1) hk H)))).trans ?_
  refine seqR (retE ?_)
  rw [← List.append_assoc, ← ht]
  have hr := row_at (g := g) (k := k) (H := H)
  refine ev_idx ((ev_c1 (ev_row (n := n + 10) (e3 := .var 0) hg hk (fun h => ev_var rfl) (fun h => ev_var rfl))).trans (run_14 (n := n + 9) hr (by rw [pR_len]; omega) e)) (ev_var rfl) ?_
  simp only [idxF, cell_at]
  exact atD_int (by rw [wl_len e, pR_len]; omega)
theorem run_16 {n g k : Nat} {r r2 : List Int} (hg : g ≤ 6) (hk : k ≤ 40) (e : wl true (pR k g) = some r) (e2 : wl false r = some r2) (H : Hc) : callN P (n + 4) 16 [.int (g : Nat), .int (k : Nat)] H = .ok (.ref (PH H (pRows k (g + 1)) ++ [Cell.lst (intsL r)]).length) (PH H (pRows k (g + 1)) ++ [Cell.lst (intsL r)] ++ [Cell.lst (intsL r2)]) := by
  rw [call_rt0 (d := d_lean_row) (b := b_lean_row) (σ := [some (.int (g : Nat)), some (.int (k : Nat))]) (h' := PH H (pRows k (g + 1)) ++ [Cell.lst (intsL r)] ++ [Cell.lst (intsL r2)]) (v := .ref (PH H (pRows k (g + 1)) ++ [Cell.lst (intsL r)]).length) rfl rfl rfl rfl]
  · unfold finR
    rw [if_neg]
    simp only [D.low, List.length_append, PH_len, Bool.and_eq_true, decide_eq_true_eq, not_and]
    intro h; omega
  · unfold b_lean_row
    refine seqR (retE ?_)
    have hr := row_at (g := g) (k := k) (H := H)
    have h1 : (PH H (pRows k (g + 1)) ++ [Cell.lst (intsL r)])[(PH H (pRows k (g + 1))).length]? = some (.lst (intsL r)) := cell_at
    exact (ev_c1 ((ev_c1 (ev_row (n := n + 2) (e3 := .var 0) hg hk (fun h => ev_var rfl) (fun h => ev_var rfl))).trans (run_14 (n := n + 1) hr (by rw [pR_len]; omega) e))).trans (run_15 (n := n + 1) h1 (by rw [wl_len e, pR_len]; omega) e2)
theorem run_23 {n g k : Nat} {r r2 : List Int} (h0 : 0 < g) (hg : g ≤ 6) (hk : k ≤ 40) (e : wl true (pR k g) = some r) (e2 : wl false r = some r2) (H : Hc) : callN P (n + 12) 23 [.int (g : Nat), .int (k : Nat)] H = .ok (.int (r2.getD k 0)) H := by
  obtain ⟨t, ht⟩ := PH_app (H := H) (rs := pRows k (g + 1))
  refine call_rt (t := t ++ [.lst (intsL r)] ++ [.lst (intsL r2)]) (d := d_lean_polygon_number) (b := b_lean_polygon_number) (σ := [some (.int (g : Nat)), some (.int (k : Nat))]) rfl rfl rfl rfl rfl ?_
  unfold b_lean_polygon_number
  refine (seqN (exprE ((ev_c1 (ev_var rfl)).trans (run_21 (n := n + 1) h0 hg H)))).trans ?_
  refine (seqN (exprE ((ev_c1 (ev_var rfl)).trans (run_19 (n := n + 1) hk H)))).trans ?_
  refine seqR (retE ?_)
  rw [← List.append_assoc, ← List.append_assoc, ← ht]
  have k16 : evE (callN P (n + 11)) (.call 16 (.cons (.var 0) (.cons (.var 1) .nil))) [some (.int (g : Nat)), some (.int (k : Nat))] H = _ := (ev_c2 (ev_var rfl) (ev_var rfl)).trans (run_16 (n := n + 7) hg hk e e2 H)
  have kv : evE (callN P (n + 11)) (.var 1) [some (.int (g : Nat)), some (.int (k : Nat))] (PH H (pRows k (g + 1)) ++ [Cell.lst (intsL r)] ++ [Cell.lst (intsL r2)]) = .ok (.int (k : Nat)) _ := ev_var rfl
  refine ev_idx k16 kv ?_
  simp only [idxF, cell_at]
  exact atD_int (by rw [wl_len e2, wl_len e, pR_len]; omega)

/-! ### rows cut: the same numbers -/
theorem appM_append {α : Type} {f : List Int → α → Option Int} : ∀ (xs ys : List α) (acc : List Int), appM f (xs ++ ys) acc = (appM f xs acc).bind (appM f ys)
  | [], ys, acc => rfl
  | x :: xs, ys, acc => by
    simp only [List.cons_append, appM]
    cases f acc x with
    | none => rfl
    | some v => simp only [Option.bind_some]; exact appM_append xs ys (acc ++ [v])
theorem appM_pre {α : Type} {f : List Int → α → Option Int} : ∀ (xs : List α) (acc r : List Int), appM f xs acc = some r → r.take acc.length = acc
  | [], acc, r, e => by cases e; exact List.take_length
  | x :: xs, acc, r, e => by
    simp only [appM, Option.bind_eq_some_iff] at e
    obtain ⟨v, _, e⟩ := e
    have h := appM_pre xs _ r e
    have h2 := congrArg (List.take acc.length) h
    rw [List.take_take, List.length_append, Nat.min_eq_left (by omega)] at h2
    rw [h2, List.take_left']
    rfl
theorem enumN_append : ∀ (xs ys : List Int) (i : Nat), enumN i (xs ++ ys) = enumN i xs ++ enumN (i + xs.length) ys
  | [], ys, i => rfl
  | x :: xs, ys, i => by
    simp only [List.cons_append, enumN, enumN_append xs ys (i + 1), List.length_cons]
    rw [show i + 1 + xs.length = i + (xs.length + 1) by omega]
theorem wl_take {dbl : Bool} {row r : List Int} (e : wl dbl row = some r) (k : Nat) (hk : k ≤ row.length) : wl dbl (row.take k) = some (r.take k) := by
  unfold wl at e ⊢
  rw [← List.take_append_drop k row, enumN_append, appM_append, Option.bind_eq_some_iff] at e
  obtain ⟨r1, e1, e2⟩ := e
  have hl := wl_len (dbl := dbl) (row := row.take k) (r := r1) e1
  rw [List.length_take, Nat.min_eq_left hk] at hl
  have := appM_pre _ _ _ e2
  rw [hl] at this
  rw [e1, this]

/-! ### tables on mirrors -/
def okW (g : Nat) : Bool := match wl true (pR 40 g) with
  | some r => (wl false r).isSome
  | none => false
theorem okW_0 : okW 0 = true := by decide +kernel
theorem okW_1 : okW 1 = true := by decide +kernel
theorem okW_2 : okW 2 = true := by decide +kernel
theorem okW_3 : okW 3 = true := by decide +kernel
theorem okW_4 : okW 4 = true := by decide +kernel
theorem okW_5 : okW 5 = true := by decide +kernel
theorem okW_6 : okW 6 = true := by decide +kernel
theorem okW_all {g : Nat} (h : g ≤ 6) : ∃ r r2, wl true (pR 40 g) = some r ∧ wl false r = some r2 := by
  have hg : okW g = true := by
    rcases Nat.lt_or_ge g 4 with h1 | h1
    · match g, h1 with
      | 0, _ => exact okW_0
      | 1, _ => exact okW_1
      | 2, _ => exact okW_2
      | 3, _ => exact okW_3
    · match g, h1, h with
      | 4, _, _ => exact okW_4
      | 5, _, _ => exact okW_5
      | 6, _, _ => exact okW_6
  unfold okW at hg
  cases e : wl true (pR 40 g) with
  | none => rw [e] at hg; cases hg
  | some r =>
    rw [e] at hg
    obtain ⟨r2, e2⟩ := Option.isSome_iff_exists.mp hg
    exact ⟨r, r2, rfl, e2⟩
theorem pR_tab : ((List.range 41).all fun k => (List.range 7).all fun g => decide (pR k g = (pR 40 g).take (k + 1))) = true := by decide +kernel
theorem pR_take {g k : Nat} (hg : g ≤ 6) (hk : k ≤ 40) : pR k g = (pR 40 g).take (k + 1) :=
  of_decide_eq_true (List.all_eq_true.mp (List.all_eq_true.mp pR_tab k (List.mem_range.mpr (by omega))) g (List.mem_range.mpr (by omega)))

/-! ### polygon_mean -/
theorem saugC {P : Env2} {o i e : CE} {op : Operator} {σ : CSt} {hh : Hc} {r : Nat} {xs : List Int} {j : Nat} {v w : Int} (hr : hh[r]? = some (.lst (intsL xs))) (ko : evE P.C o σ hh = .ok (.ref r) hh) (ki : evE P.C i σ hh = .ok (.int (j : Nat)) hh) (ke : evE P.C e σ hh = .ok (.int v) hh) (hj : j < xs.length) (kb : binF hh op (.int (xs.getD j 0)) (.int v) = some (.int w)) :
    evS P (.saug o i op e) σ hh = .ok (.nx σ) (hh.set r (.lst (intsL (xs.set j w)))) := by
  have e1 : refIdx hh (.ref r) (.int (j : Nat)) = some (.int (xs.getD j 0)) := by
    simp only [refIdx, idxF, hr]; exact atD_int hj
  have e2 : putF hh (.ref r) (.int (j : Nat)) (.int w) = some (hh.set r (.lst (intsL (xs.set j w)))) := by
    simp only [putF, hr, intsL, List.length_map, ixD_nat hj, Option.map_some, List.map_set]
  simp only [ES, EB, ko, ki, e1, ke, kb, e2, stO]
theorem sputI {P : Env2} {o i e : CE} {σ : CSt} {hh : Hc} {r : Nat} {xs : List Int} {j : Nat} {w : Int} (hr : hh[r]? = some (.lst (intsL xs))) (ko : evE P.C o σ hh = .ok (.ref r) hh) (ki : evE P.C i σ hh = .ok (.int (j : Nat)) hh) (ke : evE P.C e σ hh = .ok (.int w) hh) (hj : j < xs.length) :
    evS P (.sput o i e) σ hh = .ok (.nx σ) (hh.set r (.lst (intsL (xs.set j w)))) :=
  sputE ke ko ki (by simp only [putF, hr, intsL, List.length_map, ixD_nat hj, Option.map_some, List.map_set])
def lg1 (i : Int) (e : Nat) (c : Int) (cur : List Int) : List Int := (cur.set (e + 1) (cur.getD (e + 1) 0 + c)).set e ((cur.set (e + 1) (cur.getD (e + 1) 0 + c)).getD e 0 - i * c)
def lgL (i : Int) : Nat → List Int → List Int → List Int
  | _, [], cur => cur
  | e, c :: cs, cur => lgL i (e + 1) cs (lg1 i e c cur)
theorem lg1_len {i : Int} {e : Nat} {c : Int} {cur : List Int} : (lg1 i e c cur).length = cur.length := by simp [lg1]
theorem lgL_len {i : Int} : ∀ {fs : List Int} {e : Nat} {cur : List Int}, (lgL i e fs cur).length = cur.length
  | [], _, _ => rfl
  | c :: cs, e, cur => by rw [lgL, lgL_len, lg1_len]
def fallS (i : Int) (fs : List Int) : List Int := lgL i 0 fs (List.replicate (fs.length + 1) 0)
def fallJ : Nat → List Int
  | 0 => [1]
  | j + 1 => fallS (j : Nat) (fallJ j)
theorem fallJ_len : ∀ j, (fallJ j).length = j + 1
  | 0 => rfl
  | j + 1 => by rw [fallJ, fallS, lgL_len, List.length_replicate, fallJ_len j]
abbrev isI (o : Option D) : Prop := o = none ∨ ∃ i : Int, o = some (.int i)
theorem isI_low {o : Option D} (h : isI o) (n : Nat) : (match o with | some d => d.low n | none => true) = true := by
  rcases h with rfl | ⟨i, rfl⟩ <;> simp [D.low]
theorem in_loop {Pe : Env2} {H : Hc} {d0 d1 d2 d3 : D} {i : Nat} (hi : i ≤ 41) {o8 : Option D} : ∀ (fs : List Int) (e : Nat) (cur : List Int) (o6 o7 : Option D), isI o6 → isI o7 → cur.length = e + fs.length + 1 → ∃ o6' o7', (isI o6' ∧ isI o7') ∧ forF (evSs Pe L_polygon_mean_0) (.t (.cons (.v 6) (.cons (.v 7) .nil))) [] (enumD e (intsL fs)) [some d0, some d1, some d2, some d3, some (.int (i : Nat)), some (.ref H.length), o6, o7, o8] (H ++ [.lst (intsL cur)]) = .ok (.nx [some d0, some d1, some d2, some d3, some (.int (i : Nat)), some (.ref H.length), o6', o7', o8]) (H ++ [.lst (intsL (lgL (i : Nat) e fs cur))]) := by
  intro fs
  induction fs with
  | nil => intro e cur o6 o7 h6 h7 _; exact ⟨o6, o7, ⟨h6, h7⟩, forF_nil rfl⟩
  | cons c fs ih =>
    intro e cur o6 o7 h6 h7 hl
    rw [List.length_cons] at hl
    obtain ⟨o6', o7', hI, ih⟩ := ih (e + 1) (lg1 (i : Nat) e c cur) (some (.int (e : Nat))) (some (.int c)) (.inr ⟨_, rfl⟩) (.inr ⟨_, rfl⟩) (by rw [lg1_len]; omega)
    refine ⟨o6', o7', hI, ?_⟩
    have hb : evSs Pe L_polygon_mean_0 [some d0, some d1, some d2, some d3, some (.int (i : Nat)), some (.ref H.length), some (.int (e : Nat)), some (.int c), o8] (H ++ [.lst (intsL cur)]) = .ok (.nx [some d0, some d1, some d2, some d3, some (.int (i : Nat)), some (.ref H.length), some (.int (e : Nat)), some (.int c), o8]) (H ++ [.lst (intsL (lg1 (i : Nat) e c cur))]) := by
      unfold L_polygon_mean_0
      refine (seqN (saugC (r := H.length) (xs := cur) (j := e + 1) (v := c) (w := cur.getD (e + 1) 0 + c) cell_at (ev_var rfl) (ev_bin (op := .Add) (ev_var rfl) ev_cst rfl) (ev_var rfl) (by omega) rfl)).trans ?_
      rw [cell_set]
      refine (seqN (saugC (r := H.length) (xs := cur.set (e + 1) (cur.getD (e + 1) 0 + c)) (j := e) (v := (i : Nat) * c) (w := (cur.set (e + 1) (cur.getD (e + 1) 0 + c)).getD e 0 - (i : Nat) * c) cell_at (ev_var rfl) (ev_var rfl) (ev_bin (op := .Mult) (ev_var rfl) (ev_var rfl) (mul_sm (by omega))) (by rw [List.length_set]; omega) rfl)).trans ?_
      rw [cell_set]
      simp only [ES]; all_goals rfl
    exact (forF_cons (x := .tup [.int (e : Nat), .int c]) (xs := enumD (e + 1) (intsL fs)) rfl rfl hb).trans ih
theorem scope_cut {H : Hc} {c : Hc} {σ : CSt} (hl : lowSt H.length σ = true) : scopeR H (.ok (.nx σ) (H ++ c)) = .ok (.nx σ) H := by
  simp only [scopeR]
  rw [hl, cutOk_app, Bool.true_and, if_pos rfl, List.take_left' rfl]
theorem intsL_low {n : Nat} : ∀ l : List Int, (D.lst (intsL l)).low n = true
  | [] => rfl
  | x :: xs => by
    have := intsL_low (n := n) xs
    simp only [D.low, intsL, List.map_cons, D.low.lows, Bool.true_and] at this ⊢
    exact this
theorem rep_ints (n : Nat) : (List.replicate n [D.int 0]).flatten = intsL (List.replicate n 0) := by
  rw [intsL, List.map_replicate]
  induction n with
  | zero => rfl
  | succ n ih => rw [List.replicate_succ, List.flatten_cons, ih, List.replicate_succ]; rfl
theorem ev_zeros {C : Caller} {e : CE} {σ : CSt} {h : Hc} {n : Nat} (hn : n ≤ 1000) (ke : evE C e σ h = .ok (.int (n : Nat)) h) : evE C (.cell (.bin .Mult (.lst (.cons (.cst (.int 0)) .nil)) e)) σ h = .ok (.ref h.length) (h ++ [.lst (intsL (List.replicate n 0))]) := by
  refine ev_cell (ev_bin (op := .Mult) (ev_lst (ev_cons ev_cst ev_nil)) ke ?_)
  simp only [binF, mulF, mulL, derM]
  rw [if_pos ⟨by omega, by omega, by rw [Int.toNat_natCast]; show 1 * _ ≤ line; unfold line; omega⟩, Int.toNat_natCast, rep_ints]
theorem in_body {Pe : Env2} {H : Hc} {d0 d1 d2 : D} {i : Nat} (hi : i ≤ 41) {fs : List Int} (hf : fs.length ≤ 100) {o5 o6 o7 o8 : Option D} (h6 : isI o6) (h7 : isI o7) (l0 : d0.low H.length = true) (l1 : d1.low H.length = true) (l2 : d2.low H.length = true) (l8 : isI o8) :
    ∃ o6' o7', (isI o6' ∧ isI o7') ∧ evSs Pe L_polygon_mean_1 [some d0, some d1, some d2, some (.lst (intsL fs)), some (.int (i : Nat)), o5, o6, o7, o8] H = .ok (.nx [some d0, some d1, some d2, some (.lst (intsL (fallS (i : Nat) fs))), some (.int (i : Nat)), none, o6', o7', o8]) H := by
  obtain ⟨o6', o7', hI, e2⟩ := in_loop (Pe := Pe) (H := H) (d0 := d0) (d1 := d1) (d2 := d2) (d3 := .lst (intsL fs)) hi (o8 := o8) fs 0 (List.replicate (fs.length + 1) 0) o6 o7 h6 h7 (by rw [List.length_replicate]; omega)
  refine ⟨o6', o7', hI, ?_⟩
  unfold L_polygon_mean_1
  have ein : ∀ ss : CSs, ss = (.cons (.asg (.v 5) (.cell (.bin .Mult (.lst (.cons (.cst (.int 0)) .nil)) (.bin .Add (.bi .len (.cons (.var 3) .nil)) (.cst (.int 1)))))) (.cons (.for_ (.t (.cons (.v 6) (.cons (.v 7) .nil))) (.enum (.var 3)) L_polygon_mean_0) (.cons (.asg (.v 3) (.bi .list (.cons (.var 5) .nil))) (.cons (.kill [5]) .nil)))) →
      evSs Pe ss [some d0, some d1, some d2, some (.lst (intsL fs)), some (.int (i : Nat)), o5, o6, o7, o8] H = .ok (.nx [some d0, some d1, some d2, some (.lst (intsL (fallS (i : Nat) fs))), some (.int (i : Nat)), none, o6', o7', o8]) (H ++ [.lst (intsL (fallS (i : Nat) fs))]) := by
    intro ss hss
    rw [hss]
    refine (seqN (asgV (ev_zeros (n := fs.length + 1) (by omega) (ev_bin (op := .Add) (ev_bi1 (z := .int (fs.length : Nat)) (ev_var rfl) (by simp only [biF, lenF, seqD, intsL, List.length_map])) ev_cst rfl)))).trans ?_
    refine (seqN (σ' := [some d0, some d1, some d2, some (.lst (intsL fs)), some (.int (i : Nat)), some (.ref H.length), o6', o7', o8]) (h' := H ++ [.lst (intsL (fallS (i : Nat) fs))]) ?_).trans ?_
    · have ev : evI Pe.C (.enum (.var 3)) [some d0, some d1, some d2, some (.lst (intsL fs)), some (.int (i : Nat)), some (.ref H.length), o6, o7, o8] (H ++ [.lst (intsL (List.replicate (fs.length + 1) 0))]) = .ok ⟨enumD 0 (intsL fs), []⟩ (H ++ [.lst (intsL (List.replicate (fs.length + 1) 0))]) := by
        simp only [evI, ev_var (C := Pe.C) (i := 3) (σ := [some d0, some d1, some d2, some (.lst (intsL fs)), some (.int (i : Nat)), some (.ref H.length), o6, o7, o8]) (d := .lst (intsL fs)) rfl, ERes.bind, lstD, guardOf]
      show evS Pe _ [some d0, some d1, some d2, some (.lst (intsL fs)), some (.int (i : Nat)), some (.ref H.length), o6, o7, o8] _ = _
      simp only [evS, ev, ERes.st]
      exact e2
    refine (seqN (asgV (d := .lst (intsL (fallS (i : Nat) fs))) (ev_bi1 (ev_var rfl) (by simp only [biF, seqD, cell_at]; all_goals rfl)))).trans ?_
    simp only [ES]; all_goals rfl
  refine (seqN (scopeE.trans ((congrArg (scopeR H) (ein _ rfl)).trans (scope_cut ?_)))).trans ?_
  · have l3 := intsL_low (n := H.length) (fallS (i : Nat) fs)
    obtain ⟨i6, i7⟩ := hI
    rcases i6 with rfl | ⟨_, rfl⟩ <;> rcases i7 with rfl | ⟨_, rfl⟩ <;> rcases l8 with rfl | ⟨_, rfl⟩ <;> simp only [lowSt, List.all_cons, List.all_nil, l0, l1, l2, l3, Bool.and_true, Bool.true_and, D.low] <;> simpa only [D.low] using l3
  · simp only [ES]
/-- the falling products to j -/
theorem fall_loop {Pe : Env2} {H : Hc} {d0 d1 d2 : D} {o8 : Option D} (l0 : d0.low H.length = true) (l1 : d1.low H.length = true) (l2 : d2.low H.length = true) (l8 : isI o8) : ∀ (c i : Nat) (o4 o5 o6 o7 : Option D), i + c ≤ 42 → isI o4 → (c = 0 → o5 = none) → isI o6 → isI o7 → ∃ o4' o6' o7', (isI o4' ∧ isI o6' ∧ isI o7') ∧ forF (evSs Pe L_polygon_mean_1) (.v 4) [] (natD (List.range' i c)) [some d0, some d1, some d2, some (.lst (intsL (fallJ i))), o4, o5, o6, o7, o8] H = .ok (.nx [some d0, some d1, some d2, some (.lst (intsL (fallJ (i + c)))), o4', none, o6', o7', o8]) H := by
  intro c
  induction c with
  | zero => intro i o4 o5 o6 o7 _ h4 h5 h6 h7; rw [h5 rfl]; exact ⟨o4, o6, o7, ⟨h4, h6, h7⟩, forF_nil rfl⟩
  | succ c ih =>
    intro i o4 o5 o6 o7 hi h4 _ h6 h7
    obtain ⟨o6', o7', hI, hb⟩ := in_body (Pe := Pe) (H := H) (i := i) (by omega) (fs := fallJ i) (by rw [fallJ_len]; omega) (o5 := o5) h6 h7 l0 l1 l2 l8
    obtain ⟨o4'', o6'', o7'', hI2, ih⟩ := ih (i + 1) (some (.int (i : Nat))) none o6' o7' (by omega) (.inr ⟨_, rfl⟩) (fun _ => rfl) hI.1 hI.2
    refine ⟨o4'', o6'', o7'', hI2, ?_⟩
    rw [List.range'_succ, natD, List.map_cons, show i + (c + 1) = i + 1 + c by omega]
    exact (forF_cons (xs := natD (List.range' (i + 1) c)) rfl rfl hb).trans ih

def fd1 (q : Q2) (F : Int) (e : Nat) (c : Int) (fd : List Int) : Option (List Int) := (mulM q.1 c).bind fun x => (divM F q.2).bind fun y => (mulM x y).bind fun z => some (fd.set e (fd.getD e 0 + z))
def fdL (q : Q2) (F : Int) : Nat → List Int → List Int → Option (List Int)
  | _, [], fd => some fd
  | e, c :: cs, fd => (fd1 q F e c fd).bind fun fd => fdL q F (e + 1) cs fd
theorem fd1_len {q : Q2} {F : Int} {e : Nat} {c : Int} {fd r : List Int} (h : fd1 q F e c fd = some r) : r.length = fd.length := by
  simp only [fd1, Option.bind_eq_some_iff, Option.some.injEq] at h
  obtain ⟨x, _, y, _, z, _, rfl⟩ := h
  rw [List.length_set]
theorem fdL_len {q : Q2} {F : Int} : ∀ {cs : List Int} {e : Nat} {fd r : List Int}, fdL q F e cs fd = some r → r.length = fd.length
  | [], _, _, _, h => by cases h; rfl
  | c :: cs, e, fd, r, h => by
    simp only [fdL, Option.bind_eq_some_iff] at h
    obtain ⟨f1, h1, h2⟩ := h
    rw [fdL_len h2, fd1_len h1]
theorem fd_loop {n k : Nat} (hk : k ≤ 40) {H : Hc} {d2 d3 : D} {o4 o5 : Option D} {q : Q2} : ∀ (cs : List Int) (e : Nat) (fd r : List Int) (o6 o7 : Option D), isI o7 → e + cs.length ≤ fd.length → fdL q (factN (k + 1) : Nat) e cs fd = some r → ∃ o6' o7', isI o7' ∧ forF (evSs ⟨callN P (n + 1), P.sub⟩ L_polygon_mean_2) (.t (.cons (.v 6) (.cons (.v 7) .nil))) [] (enumD e (intsL cs)) [some (.int (k : Nat)), some (.ref H.length), some d2, some d3, o4, o5, o6, o7, some (qD q)] (H ++ [.lst (intsL fd)]) = .ok (.nx [some (.int (k : Nat)), some (.ref H.length), some d2, some d3, o4, o5, o6', o7', some (qD q)]) (H ++ [.lst (intsL r)]) := by
  intro cs
  induction cs with
  | nil => intro e fd r o6 o7 h7 _ h; cases h; exact ⟨o6, o7, h7, forF_nil rfl⟩
  | cons c cs ih =>
    intro e fd r o6 o7 h7 hl h
    rw [List.length_cons] at hl
    simp only [fdL, Option.bind_eq_some_iff] at h
    obtain ⟨f1, h1, h2⟩ := h
    obtain ⟨o6', o7', hI, ih⟩ := ih (e + 1) f1 r (some (.int (e : Nat))) (some (.int c)) (.inr ⟨_, rfl⟩) (by rw [fd1_len h1]; omega) h2
    refine ⟨o6', o7', hI, ?_⟩
    simp only [fd1, Option.bind_eq_some_iff, Option.some.injEq] at h1
    obtain ⟨x, hx, y, hy, z, hz, rfl⟩ := h1
    have hb : evSs ⟨callN P (n + 1), P.sub⟩ L_polygon_mean_2 [some (.int (k : Nat)), some (.ref H.length), some d2, some d3, o4, o5, some (.int (e : Nat)), some (.int c), some (qD q)] (H ++ [.lst (intsL fd)]) = .ok (.nx [some (.int (k : Nat)), some (.ref H.length), some d2, some d3, o4, o5, some (.int (e : Nat)), some (.int c), some (qD q)]) (H ++ [.lst (intsL (fd.set e (fd.getD e 0 + z)))]) := by
      unfold L_polygon_mean_2
      have ef : evE (callN P (n + 1)) (.call 3 (.cons (.bin .Add (.var 0) (.cst (.int 1))) .nil)) [some (.int (k : Nat)), some (.ref H.length), some d2, some d3, o4, o5, some (.int (e : Nat)), some (.int c), some (qD q)] (H ++ [.lst (intsL fd)]) = .ok (.int (factN (k + 1) : Nat)) (H ++ [.lst (intsL fd)]) :=
        (ev_c1 (x := .int ((k + 1 : Nat) : Int)) (ev_bin (op := .Add) (ev_var rfl) ev_cst rfl)).trans (run_fact d41_3 (n := n) (by omega))
      have e1 : evE (callN P (n + 1)) (.idx (.var 1) (.var 6)) [some (.int (k : Nat)), some (.ref H.length), some d2, some d3, o4, o5, some (.int (e : Nat)), some (.int c), some (qD q)] (H ++ [.lst (intsL fd)]) = .ok (.int (fd.getD e 0)) (H ++ [.lst (intsL fd)]) := ev_idx (x := .ref H.length) (y := .int (e : Nat)) (ev_var rfl) (ev_var rfl) (by simp only [idxF, cell_at]; exact atD_int (by omega))
      have e2 : evE (callN P (n + 1)) (.bin .Mult (.idx (.var 8) (.cst (.int 0))) (.var 7)) [some (.int (k : Nat)), some (.ref H.length), some d2, some d3, o4, o5, some (.int (e : Nat)), some (.int c), some (qD q)] (H ++ [.lst (intsL fd)]) = .ok (.int x) (H ++ [.lst (intsL fd)]) := ev_bin (op := .Mult) (x := .int q.1) (y := .int c) (ev_q0 (i := 8) (p := q) rfl) (ev_var rfl) (binMul hx)
      have e3 : evE (callN P (n + 1)) (.bin .FloorDiv (.call 3 (.cons (.bin .Add (.var 0) (.cst (.int 1))) .nil)) (.idx (.var 8) (.cst (.int 1)))) [some (.int (k : Nat)), some (.ref H.length), some d2, some d3, o4, o5, some (.int (e : Nat)), some (.int c), some (qD q)] (H ++ [.lst (intsL fd)]) = .ok (.int y) (H ++ [.lst (intsL fd)]) := ev_bin (op := .FloorDiv) (x := .int (factN (k + 1) : Nat)) (y := .int q.2) ef (ev_q1 (i := 8) (p := q) rfl) (binDiv hy)
      refine (seqN (P := ⟨callN P (n + 1), P.sub⟩) (sputI (r := H.length) (xs := fd) (j := e) (w := fd.getD e 0 + z) cell_at (ev_var rfl) (ev_var rfl) (ev_bin (op := .Add) (x := .int (fd.getD e 0)) (y := .int z) e1 (ev_bin (op := .Mult) (x := .int x) (y := .int y) e2 e3 (binMul hz)) rfl) (by omega))).trans ?_
      rw [cell_set]
      simp only [ES]; all_goals rfl
    exact (forF_cons (x := .tup [.int (e : Nat), .int c]) (xs := enumD (e + 1) (intsL cs)) rfl rfl hb).trans ih
/-! the tables of small values -/
def oddN : Nat → Nat
  | 0 => 1
  | n + 1 => oddN n * (2 * n + 1)
theorem odd_tab : ((List.range 41).all fun k => runs P 10 11 [.int (k : Nat)] (.int (oddN k : Nat)) && runs P 10 1 [.int 2, .int (k : Nat)] (.int ((2 ^ k : Nat) : Int))) = true := by decide +kernel
theorem run_11 {n k : Nat} (hk : k ≤ 40) (H : Hc) : callN P (n + 10) 11 [.int (k : Nat)] H = .ok (.int (oddN k : Nat)) H := by
  have h := List.all_eq_true.mp odd_tab k (List.mem_range.mpr (by omega))
  simp only [Bool.and_eq_true] at h
  exact callN_up (runs_at nr41 h.1 H) (by omega)
theorem run_pow {n k : Nat} (hk : k ≤ 40) (H : Hc) : callN P (n + 10) 1 [.int 2, .int (k : Nat)] H = .ok (.int ((2 ^ k : Nat) : Int)) H := by
  have h := List.all_eq_true.mp odd_tab k (List.mem_range.mpr (by omega))
  simp only [Bool.and_eq_true] at h
  exact callN_up (runs_at nr41 h.2 H) (by omega)
def scM (k j : Nat) : Option Q2 := (mulM (oddN k : Nat) ((2 ^ j : Nat) : Int)).bind fun x => (mulM x (choN k j : Nat)).bind fun y => lowM y (factN (j + 1) : Nat)
theorem d41_6 : P.defs[6]? = some (BD_ratio 0 1 5) := rfl
theorem d41_0 : P.defs[0]? = some BD_isint := rfl
theorem d41_5 : P.defs[5]? = some (BD_low 2) := rfl
theorem d41_2 : P.defs[2]? = some BD_gcd := rfl
theorem low41 {n : Nat} : LowC (callN P (n + 2)) 5 := lowC_low d41_5 d41_2
theorem scope_same {h h' : Hc} {σ : CSt} (hl : h'.length = h.length) : scopeR h (.ok (.nx σ) h') = .ok (.nx σ) h' := by
  simp only [scopeR]
  split
  · rw [← hl, List.take_length]
  · rfl
def mean1 (k j : Nat) (fd : List Int) : Option (List Int) := (scM k j).bind fun q => fdL q (factN (k + 1) : Nat) 0 (fallJ (j + 1)) fd
theorem mean_body {n k j : Nat} (hk : k ≤ 40) (hj : j ≤ k) {H : Hc} {fd r : List Int} (hf : fd.length = k + 2) (e : mean1 k j fd = some r) {o7 : Option D} (h7 : isI o7) :
    ∃ o7', isI o7' ∧ evSs ⟨callN P (n + 20), P.sub⟩ L_polygon_mean_3 [some (.int (k : Nat)), some (.ref H.length), some (.int (j : Nat)), none, none, none, none, o7, none] (H ++ [.lst (intsL fd)]) = .ok (.nx [some (.int (k : Nat)), some (.ref H.length), some (.int (j : Nat)), none, none, none, none, o7', none]) (H ++ [.lst (intsL r)]) := by
  simp only [mean1, Option.bind_eq_some_iff] at e
  obtain ⟨q, hq, e⟩ := e
  simp only [scM, Option.bind_eq_some_iff] at hq
  obtain ⟨x, hx, y, hy, hq⟩ := hq
  obtain ⟨o4a, o6a, o7a, hI, el⟩ := fall_loop (Pe := ⟨callN P (n + 20), P.sub⟩) (H := H ++ [.lst (intsL fd)]) (d0 := .int (k : Nat)) (d1 := .ref H.length) (d2 := .int (j : Nat)) (o8 := none) rfl (by simp [D.low]) rfl (.inl rfl) (j + 1) 0 none none none o7 (by omega) (.inl rfl) (fun h => by omega) (.inl rfl) h7
  obtain ⟨o6b, o7b, hI7, ef⟩ := fd_loop (n := n + 19) hk (H := H) (d2 := .int (j : Nat)) (d3 := .lst (intsL (fallJ (j + 1)))) (o4 := o4a) (o5 := none) (q := q) (fallJ (j + 1)) 0 fd r o6a o7a hI.2.2 (by rw [fallJ_len]; omega) e
  refine ⟨o7b, hI7, ?_⟩
  have ein : ∀ ss : CSs, ss = (.cons (.asg (.v 3) (.lst (.cons (.cst (.int 1)) .nil))) (.cons (.for_ (.v 4) (.rng1 (.bin .Add (.var 2) (.cst (.int 1)))) L_polygon_mean_1) (.cons (.asg (.v 8) (.call 6 (.cons (.bin .Mult (.bin .Mult (.call 11 (.cons (.var 0) .nil)) (.call 1 (.cons (.cst (.int 2)) (.cons (.var 2) .nil)))) (.call 4 (.cons (.var 0) (.cons (.var 2) .nil)))) (.cons (.call 3 (.cons (.bin .Add (.var 2) (.cst (.int 1))) .nil)) .nil)))) (.cons (.for_ (.t (.cons (.v 6) (.cons (.v 7) .nil))) (.enum (.var 3)) L_polygon_mean_2) (.cons (.kill [3, 4, 5, 6, 8]) .nil))))) →
      evSs ⟨callN P (n + 20), P.sub⟩ ss [some (.int (k : Nat)), some (.ref H.length), some (.int (j : Nat)), none, none, none, none, o7, none] (H ++ [.lst (intsL fd)]) = .ok (.nx [some (.int (k : Nat)), some (.ref H.length), some (.int (j : Nat)), none, none, none, none, o7b, none]) (H ++ [.lst (intsL r)]) := by
    intro ss hss
    rw [hss]
    refine (seqN (asgV (d := .lst (intsL (fallJ 0))) (ev_lst (ev_cons ev_cst ev_nil)))).trans ?_
    refine (seqN (σ' := [some (.int (k : Nat)), some (.ref H.length), some (.int (j : Nat)), some (.lst (intsL (fallJ (j + 1)))), o4a, none, o6a, o7a, none]) (h' := H ++ [.lst (intsL fd)]) ?_).trans ?_
    · have ea : evE (callN P (n + 20)) (.bin .Add (.var 2) (.cst (.int 1))) [some (.int (k : Nat)), some (.ref H.length), some (.int (j : Nat)), some (.lst (intsL (fallJ 0))), none, none, none, o7, none] (H ++ [.lst (intsL fd)]) = .ok (.int ((j + 1 : Nat) : Int)) (H ++ [.lst (intsL fd)]) := ev_bin (op := .Add) (ev_var rfl) ev_cst rfl
      show evS _ _ [some (.int (k : Nat)), some (.ref H.length), some (.int (j : Nat)), some (.lst (intsL (fallJ 0))), none, none, none, o7, none] _ = _
      rw [forR1 (P := ⟨callN P (n + 20), P.sub⟩) ea (smallI_nat (by omega)), Int.toNat_natCast, rngD_zero, List.range_eq_range']
      rw [Nat.zero_add] at el
      exact el
    have es : evE (callN P (n + 20)) (.call 6 (.cons (.bin .Mult (.bin .Mult (.call 11 (.cons (.var 0) .nil)) (.call 1 (.cons (.cst (.int 2)) (.cons (.var 2) .nil)))) (.call 4 (.cons (.var 0) (.cons (.var 2) .nil)))) (.cons (.call 3 (.cons (.bin .Add (.var 2) (.cst (.int 1))) .nil)) .nil))) [some (.int (k : Nat)), some (.ref H.length), some (.int (j : Nat)), some (.lst (intsL (fallJ (j + 1)))), o4a, none, o6a, o7a, none] (H ++ [.lst (intsL fd)]) = .ok (qD q) (H ++ [.lst (intsL fd)]) := by
      have s1 : evE (callN P (n + 20)) (.call 11 (.cons (.var 0) .nil)) [some (.int (k : Nat)), some (.ref H.length), some (.int (j : Nat)), some (.lst (intsL (fallJ (j + 1)))), o4a, none, o6a, o7a, none] (H ++ [.lst (intsL fd)]) = .ok (.int (oddN k : Nat)) (H ++ [.lst (intsL fd)]) := (ev_c1 (ev_var rfl)).trans (run_11 (n := n + 10) hk _)
      have s2 : evE (callN P (n + 20)) (.call 1 (.cons (.cst (.int 2)) (.cons (.var 2) .nil))) [some (.int (k : Nat)), some (.ref H.length), some (.int (j : Nat)), some (.lst (intsL (fallJ (j + 1)))), o4a, none, o6a, o7a, none] (H ++ [.lst (intsL fd)]) = .ok (.int ((2 ^ j : Nat) : Int)) (H ++ [.lst (intsL fd)]) := (ev_c2 ev_cst (ev_var rfl)).trans (run_pow (n := n + 10) (by omega) _)
      have s3 : evE (callN P (n + 20)) (.call 4 (.cons (.var 0) (.cons (.var 2) .nil))) [some (.int (k : Nat)), some (.ref H.length), some (.int (j : Nat)), some (.lst (intsL (fallJ (j + 1)))), o4a, none, o6a, o7a, none] (H ++ [.lst (intsL fd)]) = .ok (.int (choN k j : Nat)) (H ++ [.lst (intsL fd)]) := (ev_c2 (ev_var rfl) (ev_var rfl)).trans (ch41 (n := n + 19) _ _ _ (by omega) hj)
      have s4 : evE (callN P (n + 20)) (.call 3 (.cons (.bin .Add (.var 2) (.cst (.int 1))) .nil)) [some (.int (k : Nat)), some (.ref H.length), some (.int (j : Nat)), some (.lst (intsL (fallJ (j + 1)))), o4a, none, o6a, o7a, none] (H ++ [.lst (intsL fd)]) = .ok (.int (factN (j + 1) : Nat)) (H ++ [.lst (intsL fd)]) := (ev_c1 (x := .int ((j + 1 : Nat) : Int)) (ev_bin (op := .Add) (ev_var rfl) ev_cst rfl)).trans (run_fact d41_3 (n := n + 19) (by omega))
      exact (ev_c2 (ev_bin (op := .Mult) (ev_bin (op := .Mult) s1 s2 (binMul hx)) s3 (binMul hy)) s4).trans (run_ratio (n := n + 18) d41_6 d41_0 (low41 (n := n + 17)) (by have := (fact_ok (n := j + 1) (by omega)).2; omega) hq)
    refine (seqN (asgV (P := ⟨callN P (n + 20), P.sub⟩) es)).trans ?_
    refine (seqN (σ' := [some (.int (k : Nat)), some (.ref H.length), some (.int (j : Nat)), some (.lst (intsL (fallJ (j + 1)))), o4a, none, o6b, o7b, some (qD q)]) (h' := H ++ [.lst (intsL r)]) ?_).trans ?_
    · have ev : evI (callN P (n + 20)) (.enum (.var 3)) [some (.int (k : Nat)), some (.ref H.length), some (.int (j : Nat)), some (.lst (intsL (fallJ (j + 1)))), o4a, none, o6a, o7a, some (qD q)] (H ++ [.lst (intsL fd)]) = .ok ⟨enumD 0 (intsL (fallJ (j + 1))), []⟩ (H ++ [.lst (intsL fd)]) := by
        simp only [evI, ev_var (C := callN P (n + 20)) (i := 3) (σ := [some (.int (k : Nat)), some (.ref H.length), some (.int (j : Nat)), some (.lst (intsL (fallJ (j + 1)))), o4a, none, o6a, o7a, some (qD q)]) (d := .lst (intsL (fallJ (j + 1)))) rfl, ERes.bind, lstD, guardOf]
      show evS ⟨callN P (n + 20), P.sub⟩ _ [some (.int (k : Nat)), some (.ref H.length), some (.int (j : Nat)), some (.lst (intsL (fallJ (j + 1)))), o4a, none, o6a, o7a, some (qD q)] _ = _
      simp only [evS, ev, ERes.st]
      exact ef
    simp only [ES]; all_goals rfl
  have esc : evS ⟨callN P (n + 20), P.sub⟩ (.scope (.cons (.asg (.v 3) (.lst (.cons (.cst (.int 1)) .nil))) (.cons (.for_ (.v 4) (.rng1 (.bin .Add (.var 2) (.cst (.int 1)))) L_polygon_mean_1) (.cons (.asg (.v 8) (.call 6 (.cons (.bin .Mult (.bin .Mult (.call 11 (.cons (.var 0) .nil)) (.call 1 (.cons (.cst (.int 2)) (.cons (.var 2) .nil)))) (.call 4 (.cons (.var 0) (.cons (.var 2) .nil)))) (.cons (.call 3 (.cons (.bin .Add (.var 2) (.cst (.int 1))) .nil)) .nil)))) (.cons (.for_ (.t (.cons (.v 6) (.cons (.v 7) .nil))) (.enum (.var 3)) L_polygon_mean_2) (.cons (.kill [3, 4, 5, 6, 8]) .nil)))))) [some (.int (k : Nat)), some (.ref H.length), some (.int (j : Nat)), none, none, none, none, o7, none] (H ++ [.lst (intsL fd)]) = .ok (.nx [some (.int (k : Nat)), some (.ref H.length), some (.int (j : Nat)), none, none, none, none, o7b, none]) (H ++ [.lst (intsL r)]) :=
    by rw [scopeE (P := ⟨callN P (n + 20), P.sub⟩), ein _ rfl]; exact scope_same (by rw [List.length_append, List.length_append]; rfl)
  unfold L_polygon_mean_3
  exact (seqN (P := ⟨callN P (n + 20), P.sub⟩) esc).trans (by simp only [ES])
def meanL (k : Nat) : List Nat → List Int → Option (List Int)
  | [], fd => some fd
  | j :: js, fd => (mean1 k j fd).bind fun fd => meanL k js fd
theorem mean1_len {k j : Nat} {fd r : List Int} (e : mean1 k j fd = some r) : r.length = fd.length := by
  simp only [mean1, Option.bind_eq_some_iff] at e
  obtain ⟨q, _, e⟩ := e
  exact fdL_len e
theorem mean_loop {n k : Nat} (hk : k ≤ 40) {H : Hc} : ∀ (js : List Nat), (∀ j ∈ js, j ≤ k) → ∀ (fd r : List Int) (o2 o7 : Option D), isI o7 → fd.length = k + 2 → meanL k js fd = some r → ∃ o2' o7', isI o7' ∧ forF (evSs ⟨callN P (n + 20), P.sub⟩ L_polygon_mean_3) (.v 2) [] (natD js) [some (.int (k : Nat)), some (.ref H.length), o2, none, none, none, none, o7, none] (H ++ [.lst (intsL fd)]) = .ok (.nx [some (.int (k : Nat)), some (.ref H.length), o2', none, none, none, none, o7', none]) (H ++ [.lst (intsL r)]) := by
  intro js
  induction js with
  | nil => intro _ fd r o2 o7 h7 _ e; cases e; exact ⟨o2, o7, h7, forF_nil rfl⟩
  | cons j js ih =>
    intro hj fd r o2 o7 h7 hf e
    simp only [meanL, Option.bind_eq_some_iff] at e
    obtain ⟨f1, e1, e2⟩ := e
    obtain ⟨o7a, hIa, hb⟩ := mean_body (n := n) hk (hj j (by simp)) (H := H) hf e1 h7
    obtain ⟨o2', o7', hI, ih⟩ := ih (fun x hx => hj x (List.mem_cons_of_mem _ hx)) f1 r (some (.int (j : Nat))) o7a hIa (by rw [mean1_len e1, hf]) e2
    refine ⟨o2', o7', hI, ?_⟩
    rw [natD, List.map_cons]
    exact (forF_cons (xs := natD js) rfl rfl hb).trans ih

/-- what is due: the row of numbers with k edges, by the number of faces -/
def dueS (k : Nat) : List Nat → List Int → List Int
  | [], d => d
  | h :: hs, d => dueS k hs (d.set (k + 1 - 2 * h) (((pRows 40 22).getD h []).getD k 0))
def dueL (k : Nat) : List Int := dueS k (List.range (k / 2 + 1)) (List.replicate (k + 2) 0)
def meanOk (k : Nat) : Bool := match meanL k (List.range (k + 1)) (List.replicate (k + 2) 0) with
  | some r => decide (r.map (fun c => c.fdiv (factN (k + 1) : Nat)) = dueL k) && runs P 60 12 [.lst (intsL (dueL k))] (.tup (intsL (dueL k)))
  | none => false
theorem mean_t0 : ((List.range 10).all meanOk) = true := by decide +kernel
theorem mean_t1 : ((List.range' 10 10).all meanOk) = true := by decide +kernel
theorem mean_t2 : ((List.range' 20 7).all meanOk) = true := by decide +kernel
theorem mean_t3 : ((List.range' 27 6).all meanOk) = true := by decide +kernel
theorem mean_t4 : ((List.range' 33 4).all meanOk) = true := by decide +kernel
theorem mean_t5 : ((List.range' 37 4).all meanOk) = true := by decide +kernel
theorem mean_all {k : Nat} (hk : k ≤ 40) : meanOk k = true := by
  have hr : ∀ {a b : Nat}, ((List.range' a b).all meanOk) = true → a ≤ k → k < a + b → meanOk k = true := fun h h1 h2 => List.all_eq_true.mp h k (List.mem_range'_1.mpr ⟨h1, h2⟩)
  have h0 := mean_t0
  rw [List.range_eq_range'] at h0
  rcases Nat.lt_or_ge k 10 with h | h
  · exact hr h0 (by omega) (by omega)
  rcases Nat.lt_or_ge k 20 with h | h
  · exact hr mean_t1 (by omega) (by omega)
  rcases Nat.lt_or_ge k 27 with h | h
  · exact hr mean_t2 (by omega) (by omega)
  rcases Nat.lt_or_ge k 33 with h | h
  · exact hr mean_t3 (by omega) (by omega)
  rcases Nat.lt_or_ge k 37 with h | h
  · exact hr mean_t4 (by omega) (by omega)
  · exact hr mean_t5 (by omega) (by omega)

theorem divM_fact {k : Nat} (hk : k ≤ 40) (c : Int) : divM c (factN (k + 1) : Nat) = some (c.fdiv (factN (k + 1) : Nat)) := by
  obtain ⟨h1, h2⟩ := fact_ok (n := k + 1) (by omega)
  unfold divM divOk
  rw [if_pos]
  rw [decide_eq_true (by omega), decide_eq_true (by rw [Int.natAbs_natCast]; omega)]; rfl
theorem meanL_len {k : Nat} : ∀ {js : List Nat} {fd r : List Int}, meanL k js fd = some r → r.length = fd.length
  | [], _, _, e => by cases e; rfl
  | j :: js, fd, r, e => by
    simp only [meanL, Option.bind_eq_some_iff] at e
    obtain ⟨f1, e1, e2⟩ := e
    rw [meanL_len e2, mean1_len e1]
theorem compF_ints {fe fc : EvF} {t : Tg} {g : Guard} {σ : CSt} {h : Hc} (hg : gOk g h = true) (f : Int → Int) (l : List Int) (k : ∀ c, ∃ σ1, asgT t (.int c) σ = some σ1 ∧ boolR (fc σ1 h) = .ok true h ∧ fe σ1 h = .ok (.int (f c)) h) : compF fe fc t g σ (intsL l) h = .ok (intsL (l.map f)) h := by
  have e := compF_pure (fe := fe) (fc := fc) (t := t) (σ := σ) hg (fun d => match d with | .int c => .int (f c) | d => d) (fun _ => true) (xs := intsL l) (fun x hx => by
    obtain ⟨c, _, rfl⟩ := List.mem_map.mp hx
    obtain ⟨σ1, a, b, c2⟩ := k c
    exact ⟨σ1, a, b, fun _ => c2⟩)
  rw [e]
  congr 1
  rw [List.filter_eq_self.mpr (fun _ _ => rfl)]
  simp only [intsL, List.map_map]
  rfl
theorem ev_compS {C : Caller} {elt : CE} {it : CI} {i : Nat} {σ : CSt} {h h1 h2 : Hc} {xs ys : List D} {g : Guard} (ke : evI C it σ h = .ok ⟨xs, g⟩ h1) (hl : xs.length ≤ line) (kc : compF (evE C elt) (condR true (evE C .absent)) (.v i) g (cwipe σ [i]) xs h1 = .ok ys h2) :
    evE C (.comp elt (.v i) it .absent [i]) σ h = .ok (.lst ys) h2 := by
  have e3 : evE C (.comp elt (.v i) it .absent [i]) σ h = ((evI C it σ h).bind fun d h => if d.xs.length ≤ line then lmap [] (compF (evE C elt) (condR true (evE C .absent)) (.v i) d.g (cwipe σ [i]) d.xs h) else .stuck) := by
    simp only [evE]; all_goals rfl
  rw [e3, ke, ERes.ok_bind]
  simp only
  rw [if_pos hl, kc]
  rfl
theorem run_24 {n k : Nat} (hk : k ≤ 40) (H : Hc) : callN P (n + 70) 24 [.int (k : Nat)] H = .ok (.tup (intsL (dueL k))) H := by
  have hm := mean_all hk
  unfold meanOk at hm
  split at hm
  · rename_i r er
    simp only [Bool.and_eq_true, decide_eq_true_eq] at hm
    obtain ⟨hm1, hm2⟩ := hm
    have hlen : r.length = k + 2 := by rw [meanL_len er, List.length_replicate]
    obtain ⟨o2, o7, hI, el⟩ := mean_loop (n := n + 49) hk (H := H) (List.range (k + 1)) (fun j hj => by have := List.mem_range.mp hj; omega) _ r none none (.inl rfl) (List.length_replicate ..) er
    refine call_rt (t := [.lst (intsL r)]) (d := d_polygon_mean) (b := b_polygon_mean) (σ := [some (.int (k : Nat)), none, none, none, none, none, none, none, none]) rfl rfl rfl rfl ?_ ?_
    · have := intsL_low (n := H.length) (dueL k)
      simpa only [D.low] using this
    unfold b_polygon_mean
    refine (seqN (exprE ((ev_c1 (ev_var rfl)).trans (run_19 (n := n + 59) hk H)))).trans ?_
    refine (seqN (asgV (ev_zeros (n := k + 2) (by omega) (ev_bin (op := .Add) (ev_var rfl) ev_cst rfl)))).trans ?_
    refine (seqN (σ' := [some (.int (k : Nat)), some (.ref H.length), o2, none, none, none, none, o7, none]) (h' := H ++ [.lst (intsL r)]) ?_).trans ?_
    · show evS ⟨callN P (n + 69), P.sub⟩ _ [some (.int (k : Nat)), some (.ref H.length), none, none, none, none, none, none, none] _ = _
      have ea : evE (callN P (n + 69)) (.bin .Add (.var 0) (.cst (.int 1))) [some (.int (k : Nat)), some (.ref H.length), none, none, none, none, none, none, none] (H ++ [.lst (intsL (List.replicate (k + 2) 0))]) = .ok (.int ((k + 1 : Nat) : Int)) (H ++ [.lst (intsL (List.replicate (k + 2) 0))]) := ev_bin (op := .Add) (ev_var rfl) ev_cst rfl
      rw [forR1 (P := ⟨callN P (n + 69), P.sub⟩) ea (smallI_nat (by omega)), Int.toNat_natCast, rngD_zero]
      exact el
    refine seqR (retE ?_)
    refine (ev_c1 (h1 := H ++ [.lst (intsL r)]) (x := .lst (intsL (dueL k))) ?_).trans ?_
    · have ev : evI (callN P (n + 69)) (.seq (.var 1)) [some (.int (k : Nat)), some (.ref H.length), o2, none, none, none, none, o7, none] (H ++ [.lst (intsL r)]) = .ok ⟨intsL r, [(H.length, .lst (intsL r))]⟩ (H ++ [.lst (intsL r)]) := by
        simp only [evI, ev_var (C := callN P (n + 69)) (i := 1) (σ := [some (.int (k : Nat)), some (.ref H.length), o2, none, none, none, none, o7, none]) (d := .ref H.length) rfl, ERes.bind, seqD, guardOf, cell_at]
      have ec := compF_ints (fe := evE (callN P (n + 69)) (.bin .FloorDiv (.var 7) (.call 3 (.cons (.bin .Add (.var 0) (.cst (.int 1))) .nil)))) (fc := condR true (evE (callN P (n + 69)) .absent)) (t := .v 7) (g := [(H.length, .lst (intsL r))]) (σ := [some (.int (k : Nat)), some (.ref H.length), o2, none, none, none, none, none, none]) (h := H ++ [.lst (intsL r)]) (by simp [gOk]) (fun c => c.fdiv (factN (k + 1) : Nat)) r (fun c => ⟨_, rfl, rfl, ev_bin (op := .FloorDiv) (ev_var rfl) ((ev_c1 (x := .int ((k + 1 : Nat) : Int)) (ev_bin (op := .Add) (ev_var rfl) ev_cst rfl)).trans (run_fact d41_3 (n := n + 68) (by omega))) (binDiv (divM_fact hk c))⟩)
      rw [hm1] at ec
      exact ev_compS ev (by rw [intsL, List.length_map, hlen]; unfold line; omega) ec
    · exact callN_up (runs_at nr41 hm2 _) (by omega)
  · cases hm

/-! ### what is told to the kernel's runs -/
def chT (f : Nat) (args : List D) : Option D :=
  match args with
  | [.int (.ofNat n), .int (.ofNat k)] => cond (Nat.beq f 4 && Nat.ble n 80 && Nat.ble k n) (some (.int (choN n k : Nat))) none
  | [.int (.ofNat m)] => cond (Nat.beq f 3 && Nat.ble m 80) (some (.int (factN m : Nat))) none
  | _ => none
theorem chT_ok : TOk chT P 10 := by
  intro f args v h e
  unfold chT at e
  split at e
  · rename_i n k
    obtain ⟨c, e⟩ := cond_some e
    cases e
    simp only [Bool.and_eq_true] at c
    rw [Nat.eq_of_beq_eq_true c.1.1]
    exact ch41 (n := 9) n k h (Nat.le_of_ble_eq_true c.1.2) (Nat.le_of_ble_eq_true c.2)
  · rename_i m
    obtain ⟨c, e⟩ := cond_some e
    cases e
    simp only [Bool.and_eq_true] at c
    have := Nat.le_of_ble_eq_true c.2
    rw [Nat.eq_of_beq_eq_true c.1]
    exact run_fact d41_3 (n := 9) (m := m) (h := h) (by omega)
  · cases e
theorem d41_7 : P.defs[7]? = some (BD_sum 5) := rfl
theorem d41_8 : P.defs[8]? = some (BD_less 5) := rfl
theorem d41_9 : P.defs[9]? = some (BD_prod 5) := rfl
theorem d41_10 : P.defs[10]? = some (BD_overP 1 5) := rfl
theorem frT_ok : TOk (frT 7 8 9 10) P 10 := by
  intro f args v h e
  have hl : LowC (callN P 9) 5 := low41 (n := 7)
  exact frT_at (fun p q r h hq => run_sum d41_7 hl hq) (fun p q r h hq => run_less d41_8 hl hq) (fun p q r h hq => run_prod d41_9 hl hq) (fun p q r h h0 hq => run_overP d41_10 hl h0 hq) e
theorem low5_ok : TOk (lowT 5) P 10 := fun f args v h e => lowT_at (fun a b q h _ hq => low41 (n := 8) a b q h hq) e
theorem low6_ok : TOk (lowT 6) P 10 := fun f args v h e => lowT_at (fun a b q h h0 hq => run_ratio (n := 8) d41_6 d41_0 (low41 (n := 7)) h0 hq) e
def T0 : Nat → List D → Option D := orT (frT 7 8 9 10) (orT (lowT 5) (orT (lowT 6) chT))
theorem T0_ok : TOk T0 P 10 := orT_ok frT_ok (orT_ok low5_ok (orT_ok low6_ok chT_ok))
/-! the law's own -/
theorem d41_33 : P.defs[33]? = some BD_comL := rfl
theorem d41_34 : P.defs[34]? = some (BD_ratL 33) := rfl
theorem d41_35 : P.defs[35]? = some (BD_plusL 34) := rfl
theorem d41_36 : P.defs[36]? = some (BD_minusL 35) := rfl
theorem d41_37 : P.defs[37]? = some (BD_timesL 34) := rfl
theorem rat41 {n : Nat} : RatC (callN P (n + 2)) 34 := fun a b q h hb hq => run_ratL d41_34 d41_33 hb hq
def TL : Nat → List D → Option D := orT (frL 35 36 37) (orT (comT 33) (lowT 34))
theorem TL_ok : TOk TL P 10 := by
  refine orT_ok (fun f args v h e => ?_) (orT_ok (fun f args v h e => comT_at (n := 9) d41_33 e) (fun f args v h e => lowT_pos (rat41 (n := 8)) e))
  have hp : ∀ n (p q r : Q2) (h : Hc), 0 < p.2 → 0 < q.2 → sumM p q = some r → callN P (n + 3) 35 [qD p, qD q] h = .ok (qD r) h := fun n p q r h p0 q0 hq => run_plusL d41_35 (rat41 (n := n)) p0 q0 hq
  exact frL_at (hp 7) (fun p q r h p0 q0 hq => run_minusL (n := 9) d41_36 (hp 6) p0 q0 hq) (fun p q r h p0 q0 hq => run_timesL (n := 9) d41_37 (rat41 (n := 7)) p0 q0 hq) e

/-! ### polygon_polynomial: the seven values -/
def polV : Nat → List D
  | 0 => [.tup [.int (1), .int 1]]
  | 1 => [.tup [.int (0), .int 1], .tup [.int (-1), .int 12], .tup [.int (0), .int 1], .tup [.int (1), .int 12]]
  | 2 => [.tup [.int (0), .int 1], .tup [.int (1), .int 120], .tup [.int (-1), .int 36], .tup [.int (1), .int 96], .tup [.int (7), .int 288], .tup [.int (-3), .int 160], .tup [.int (1), .int 288]]
  | 3 => [.tup [.int (0), .int 1], .tup [.int (-1), .int 252], .tup [.int (11), .int 360], .tup [.int (-221), .int 5184], .tup [.int (-1), .int 5760], .tup [.int (127), .int 3456], .tup [.int (-83), .int 2880], .tup [.int (59), .int 6048], .tup [.int (-1), .int 640], .tup [.int (1), .int 10368]]
  | 4 => [.tup [.int (0), .int 1], .tup [.int (1), .int 240], .tup [.int (-661), .int 9450], .tup [.int (5377), .int 34560], .tup [.int (-404017), .int 4354560], .tup [.int (-3091), .int 46080], .tup [.int (1625831), .int 12441600], .tup [.int (-3953), .int 46080], .tup [.int (180871), .int 5806080], .tup [.int (-943), .int 138240], .tup [.int (78059), .int 87091200], .tup [.int (-1), .int 15360], .tup [.int (1), .int 497664]]
  | 5 => [.tup [.int (0), .int 1], .tup [.int (-1), .int 132], .tup [.int (4483), .int 15120], .tup [.int (-3158273), .int 3628800], .tup [.int (1509709), .int 1741824], .tup [.int (-607787), .int 37324800], .tup [.int (-25100969), .int 34836480], .tup [.int (779387503), .int 1045094400], .tup [.int (-2370253), .int 5806080], .tup [.int (18666269), .int 130636800], .tup [.int (-29483), .int 870912], .tup [.int (4521839), .int 821145600], .tup [.int (-10571), .int 17418240], .tup [.int (11321), .int 261273600], .tup [.int (-1), .int 552960], .tup [.int (1), .int 29859840]]
  | 6 => [.tup [.int (0), .int 1], .tup [.int (691), .int 32760], .tup [.int (-18344539), .int 8731800], .tup [.int (89455297), .int 12096000], .tup [.int (-27674411407), .int 2874009600], .tup [.int (1856536769), .int 522547200], .tup [.int (2903026459), .int 587865600], .tup [.int (-20943302351), .int 2612736000], .tup [.int (514367009683), .int 87787929600], .tup [.int (-22873553923), .int 8360755200], .tup [.int (22443781921), .int 25082265600], .tup [.int (-2224419691), .int 10450944000], .tup [.int (38667515), .int 1034643456], .tup [.int (-263421409), .int 54344908800], .tup [.int (442961263), .int 965667225600], .tup [.int (-321763), .int 10450944000], .tup [.int (17407), .int 12541132800], .tup [.int (-1), .int 26542080], .tup [.int (1), .int 2149908480]]
  | _ => []
def pv (k g : Nat) : Int := ((pRows 20 7).getD g []).getD k 0
def polC (g : Nat) : Bool := Nat.beq (polV g).length (3 * g + 1) && (polV g).all (fun c => runT TL P 60 38 [c] (.bl true)) && D.beq ((polV g).getD (3 * g) .non) (.tup [.int 1, .int ((12 ^ g * factN g : Nat) : Int)])
def polK (g k : Nat) : Bool := runEx TL P 30 45 [.tup (polV g), .int (k : Nat)] (fun w => runT TL P 30 34 [.int (pv k g * ((k : Nat) + 1)), .int (choN (2 * k) k : Nat)] w && w.hard && Nat.ble w.dep 63)
theorem pol_v0 : runT T0 P 40 25 [.int 0] (.tup (polV 0)) = true := by decide +kernel
theorem pol_v1 : runT T0 P 40 25 [.int 1] (.tup (polV 1)) = true := by decide +kernel
theorem pol_v2 : runT T0 P 40 25 [.int 2] (.tup (polV 2)) = true := by decide +kernel
theorem pol_v3 : runT T0 P 40 25 [.int 3] (.tup (polV 3)) = true := by decide +kernel
theorem pol_v4 : runT T0 P 40 25 [.int 4] (.tup (polV 4)) = true := by decide +kernel
theorem pol_v5 : runT T0 P 40 25 [.int 5] (.tup (polV 5)) = true := by decide +kernel
theorem pol_v6 : runT T0 P 40 25 [.int 6] (.tup (polV 6)) = true := by decide +kernel
theorem pol_c : ((List.range 7).all polC) = true := by decide +kernel
theorem pol_k0 : ((List.range 3).all (polK 0)) = true := by decide +kernel
theorem pol_k1 : ((List.range 6).all (polK 1)) = true := by decide +kernel
theorem pol_k2 : ((List.range 9).all (polK 2)) = true := by decide +kernel
theorem pol_k3 : ((List.range 12).all (polK 3)) = true := by decide +kernel
theorem pol_k4 : ((List.range 15).all (polK 4)) = true := by decide +kernel
theorem pol_k5 : ((List.range 18).all (polK 5)) = true := by decide +kernel
theorem pol_k6 : ((List.range 21).all (polK 6)) = true := by decide +kernel
theorem polK_all {g k : Nat} (hg : g ≤ 6) (hk : k < 3 * g + 3) : polK g k = true := by
  match g, hg with
  | 0, _ => exact List.all_eq_true.mp pol_k0 k (List.mem_range.mpr (by omega))
  | 1, _ => exact List.all_eq_true.mp pol_k1 k (List.mem_range.mpr (by omega))
  | 2, _ => exact List.all_eq_true.mp pol_k2 k (List.mem_range.mpr (by omega))
  | 3, _ => exact List.all_eq_true.mp pol_k3 k (List.mem_range.mpr (by omega))
  | 4, _ => exact List.all_eq_true.mp pol_k4 k (List.mem_range.mpr (by omega))
  | 5, _ => exact List.all_eq_true.mp pol_k5 k (List.mem_range.mpr (by omega))
  | 6, _ => exact List.all_eq_true.mp pol_k6 k (List.mem_range.mpr (by omega))

/-! ### what is told, and compared -/
theorem ev_glob {C : Caller} {x : Str} {d : D} {σ : CSt} {h : Hc} : evE C (.glob x d) σ h = .ok d h := by simp only [EV]
theorem ev_callv {C : Caller} {fe : CE} {fs : List Nat} {args : CEs} {σ : CSt} {h h1 h2 : Hc} {i : Nat} {ds : List D} (k : evE C fe σ h = .ok (.fn i) h1) (hi : i ∈ fs) (ka : evEs C args σ h1 = .ok ds h2) : evE C (.callv fe fs args) σ h = C i ds h2 := by simp only [EV, EB, k, hi, if_true, ka]
theorem ne_same {h : Hc} {v : D} (hv : v.hard = true) (hd : v.dep ≤ 63) : cmpF h .NotEq v v = some false := by
  simp only [cmpF, eqF_hard hv hv hd hd, Option.map_some, decide_true, Bool.not_true]
abbrev tD (v : D) : D := .tup [.str (Str.ofString "told"), v]
theorem odd_int {n : Nat} {v : Int} {h : Hc} : callN P (n + 1) 29 [.int v] h = .ok (.bl false) h := by
  refine call_rtp (d := d__law_odd) (b := b__law_odd) (σ := [some (.int v), none]) rfl rfl rfl rfl ?_
  unfold b__law_odd
  have e1 : evE (callN P n) (.cmp .Eq (.var 0) (.cst (.str (Str.ofString "a word that nothing else is")))) [some (.int v), none] h = .ok (.bl false) h := ev_cmp (ev_var rfl) ev_cst (by rw [show cmpF h .Eq (.int v) (.str (Str.ofString "a word that nothing else is")) = eqF h (.int v) (.str (Str.ofString "a word that nothing else is")) from rfl, eqF_hard (a := .int v) rfl (by decide +kernel) (by simp [D.dep]) (by decide +kernel), decide_eq_false (by simp)])
  refine (seqN (σ' := [some (.int v), none]) (h' := h) (by rw [ifF (P := ⟨callN P n, P.sub⟩) e1]; simp only [ES])).trans ?_
  refine seqR (retE ?_)
  have e2 : evE (callN P n) (.isin (.var 0) [.tuple, .list]) [some (.int v), none] h = .ok (.bl false) h := ev_isin (ev_var rfl) rfl
  rw [ev_and e2, if_neg (by simp)]
/-- a value that is honest: told as it is -/
def HonC (n : Nat) (v : D) : Prop := ∀ h, callN P n 30 [v] h = .ok v h
theorem hon_int {n : Nat} {v : Int} : HonC (n + 2) (.int v) := by
  intro h
  refine call_rtp (d := d__law_honest) (b := b__law_honest) (σ := [some (.int v)]) rfl rfl rfl rfl ?_
  unfold b__law_honest
  refine seqR (retE ?_)
  have e1 : evE (callN P (n + 1)) (.call 29 (.cons (.var 0) .nil)) [some (.int v)] h = .ok (.bl false) h := (ev_c1 (ev_var rfl)).trans odd_int
  rw [ev_ite e1, if_neg (by simp)]
  exact ev_var rfl
theorem hon_tab {v : D} (e : runs P 40 30 [v] v = true) {m : Nat} (hm : 40 ≤ m) : HonC m v := fun h => callN_up (runs_at nr41 e h) hm
def tlA : CE := .idx (.lst (.cons (.glob "polygon_number" (.fn 20)) (.cons (.glob "smooth_polygon_number" (.fn 22)) (.cons (.glob "lean_polygon_number" (.fn 23)) .nil)))) (.var 0)
def tlB : CE := .idx (.lst (.cons (.glob "polygon_mean" (.fn 24)) (.cons (.glob "polygon_polynomial" (.fn 25)) (.cons (.glob "smooth_by_polygons" (.fn 26)) .nil)))) (.bin .Sub (.var 0) (.cst (.int 3)))
theorem told_3 {n w f : Nat} {a b v : D} {h : Hc} (hw : w < 3) (hf : f ∈ [20, 22, 23, 24, 25, 26]) (hi : atD [D.fn 20, .fn 22, .fn 23] ((w : Nat) : Int) = some (.fn f)) (hv : v.low h.length = true) (hc : callN P n f [a, b] h = .ok v h) (ho : HonC n v) : callN P (n + 1) 43 [.int (w : Nat), a, b] h = .ok (tD v) h := by
  refine call_rt (t := []) (d := d__law_told) (b := b__law_told) (σ := [some (.int (w : Nat)), some a, some b]) rfl rfl rfl rfl (by simpa [D.low, D.low.lows] using hv) ?_
  rw [List.append_nil]
  have e0 : evE (callN P n) (.cmp .Lt (.var 0) (.cst (.int 3))) [some (.int (w : Nat)), some a, some b] h = .ok (.bl true) h := ev_cmp (ev_var rfl) ev_cst (by show some (decide ((w : Int) < 3)) = _; rw [decide_eq_true (by omega)])
  have e1 : evE (callN P n) tlA [some (.int (w : Nat)), some a, some b] h = .ok (.fn f) h := ev_idx (ev_lst (ev_cons ev_glob (ev_cons ev_glob (ev_cons ev_glob ev_nil)))) (ev_var rfl) hi
  have e2 : evE (callN P n) (.tup (.cons (.cst (.str (Str.ofString "told"))) (.cons (.call 30 (.cons (.callv tlA [20, 22, 23, 24, 25, 26] (.cons (.var 1) (.cons (.var 2) .nil))) .nil)) .nil))) [some (.int (w : Nat)), some a, some b] h = .ok (tD v) h :=
    ev_t2 ev_cst ((ev_c1 ((ev_callv e1 hf (ev_cons (ev_var rfl) (ev_cons (ev_var rfl) ev_nil))).trans hc)).trans (ho h))
  unfold b__law_told
  have e3 : evSs ⟨callN P n, P.sub⟩ (.cons (.ifs (.cmp .Lt (.var 0) (.cst (.int 3))) (.cons (.ret (.tup (.cons (.cst (.str (Str.ofString "told"))) (.cons (.call 30 (.cons (.callv tlA [20, 22, 23, 24, 25, 26] (.cons (.var 1) (.cons (.var 2) .nil))) .nil)) .nil)))) .nil) .nil) (.cons (.ret (.tup (.cons (.cst (.str (Str.ofString "told"))) (.cons (.call 30 (.cons (.callv tlB [20, 22, 23, 24, 25, 26] (.cons (.var 1) .nil)) .nil)) .nil)))) .nil)) [some (.int (w : Nat)), some a, some b] h = .ok (.rt (tD v)) h := by
    refine seqR ?_
    rw [ifT (P := ⟨callN P n, P.sub⟩) e0]
    exact seqR (retE e2)
  unfold tlA tlB at e3
  refine seqR ?_
  simp only [evS, e3]
theorem told_5 {n w f : Nat} {a b v : D} {h : Hc} (hw : 3 ≤ w) (hf : f ∈ [20, 22, 23, 24, 25, 26]) (hi : atD [D.fn 24, .fn 25, .fn 26] ((w : Nat) - 3 : Int) = some (.fn f)) (hv : v.low h.length = true) (hc : callN P n f [a] h = .ok v h) (ho : HonC n v) : callN P (n + 1) 43 [.int (w : Nat), a, b] h = .ok (tD v) h := by
  refine call_rt (t := []) (d := d__law_told) (b := b__law_told) (σ := [some (.int (w : Nat)), some a, some b]) rfl rfl rfl rfl (by simpa [D.low, D.low.lows] using hv) ?_
  rw [List.append_nil]
  have e0 : evE (callN P n) (.cmp .Lt (.var 0) (.cst (.int 3))) [some (.int (w : Nat)), some a, some b] h = .ok (.bl false) h := ev_cmp (ev_var rfl) ev_cst (by show some (decide ((w : Int) < 3)) = _; rw [decide_eq_false (by omega)])
  have e1 : evE (callN P n) tlB [some (.int (w : Nat)), some a, some b] h = .ok (.fn f) h := ev_idx (y := .int ((w : Nat) - 3)) (ev_lst (ev_cons ev_glob (ev_cons ev_glob (ev_cons ev_glob ev_nil)))) (ev_bin (op := .Sub) (ev_var rfl) ev_cst rfl) hi
  have e2 : evE (callN P n) (.tup (.cons (.cst (.str (Str.ofString "told"))) (.cons (.call 30 (.cons (.callv tlB [20, 22, 23, 24, 25, 26] (.cons (.var 1) .nil)) .nil)) .nil))) [some (.int (w : Nat)), some a, some b] h = .ok (tD v) h :=
    ev_t2 ev_cst ((ev_c1 ((ev_callv e1 hf (ev_cons (ev_var rfl) ev_nil)).trans hc)).trans (ho h))
  unfold b__law_told
  have e3 : evSs ⟨callN P n, P.sub⟩ (.cons (.ifs (.cmp .Lt (.var 0) (.cst (.int 3))) (.cons (.ret (.tup (.cons (.cst (.str (Str.ofString "told"))) (.cons (.call 30 (.cons (.callv tlA [20, 22, 23, 24, 25, 26] (.cons (.var 1) (.cons (.var 2) .nil))) .nil)) .nil)))) .nil) .nil) (.cons (.ret (.tup (.cons (.cst (.str (Str.ofString "told"))) (.cons (.call 30 (.cons (.callv tlB [20, 22, 23, 24, 25, 26] (.cons (.var 1) .nil)) .nil)) .nil)))) .nil)) [some (.int (w : Nat)), some a, some b] h = .ok (.rt (tD v)) h := by
    refine (seqN (σ' := [some (.int (w : Nat)), some a, some b]) (h' := h) (by rw [ifF (P := ⟨callN P n, P.sub⟩) e0]; simp only [ES])).trans ?_
    exact seqR (retE e2)
  unfold tlA tlB at e3
  refine seqR ?_
  simp only [evS, e3]
/-! the same -/
theorem same_int {n : Nat} {v : Int} {h : Hc} : callN P (n + 2) 32 [.int v, .int v] h = .ok (.bl true) h := by
  refine call_rtp (d := d__law_same) (b := b__law_same) (σ := [some (.int v), some (.int v), none]) rfl rfl rfl rfl ?_
  unfold b__law_same
  have e1 : evE (callN P (n + 1)) (.isin (.var 1) [.tuple]) [some (.int v), some (.int v), none] h = .ok (.bl false) h := ev_isin (ev_var rfl) rfl
  have e2 : evE (callN P (n + 1)) (.isin (.var 1) [.str]) [some (.int v), some (.int v), none] h = .ok (.bl false) h := ev_isin (ev_var rfl) rfl
  have e3 : evE (callN P (n + 1)) (.cmp .Is (.var 1) (.cst .non)) [some (.int v), some (.int v), none] h = .ok (.bl false) h := ev_cmp (ev_var rfl) ev_cst rfl
  refine (seqN (σ' := [some (.int v), some (.int v), none]) (h' := h) (by rw [ifF (P := ⟨callN P (n + 1), P.sub⟩) e1]; simp only [ES])).trans ?_
  refine (seqN (σ' := [some (.int v), some (.int v), none]) (h' := h) (by rw [ifF (P := ⟨callN P (n + 1), P.sub⟩) e2]; simp only [ES])).trans ?_
  refine (seqN (σ' := [some (.int v), some (.int v), none]) (h' := h) (by rw [ifF (P := ⟨callN P (n + 1), P.sub⟩) e3]; simp only [ES])).trans ?_
  refine seqR (retE ?_)
  have e4 : evE (callN P (n + 1)) (.call 31 (.cons (.var 0) .nil)) [some (.int v), some (.int v), none] h = .ok (.bl true) h := (ev_c1 (ev_var rfl)).trans (run_isint (P := P) (i := 31) rfl (n := n) (v := .int v) rfl)
  rw [ev_and e4, if_pos rfl]
  exact ev_cmp (ev_var rfl) (ev_var rfl) (by show some (decide (v = v)) = _; rw [decide_eq_true rfl])
theorem same_str {n : Nat} {h : Hc} : callN P (n + 10) 32 [.str (Str.ofString "told"), .str (Str.ofString "told")] h = .ok (.bl true) h := by
  have e : runs P 10 32 [.str (Str.ofString "told"), .str (Str.ofString "told")] (.bl true) = true := by decide +kernel
  exact callN_up (runs_at nr41 e h) (by omega)
theorem same_told {n : Nat} {v : D} {h : Hc} (hv : callN P (n + 10) 32 [v, v] h = .ok (.bl true) h) : callN P (n + 11) 32 [tD v, tD v] h = .ok (.bl true) h := by
  refine call_rtp (d := d__law_same) (b := b__law_same) (σ := [some (tD v), some (tD v), none]) rfl rfl rfl rfl ?_
  unfold b__law_same
  have e1 : evE (callN P (n + 10)) (.isin (.var 1) [.tuple]) [some (tD v), some (tD v), none] h = .ok (.bl true) h := ev_isin (ev_var rfl) rfl
  have e2 : evE (callN P (n + 10)) (.isin (.var 0) [.tuple]) [some (tD v), some (tD v), none] h = .ok (.bl true) h := ev_isin (ev_var rfl) rfl
  refine seqR ?_
  rw [ifT (P := ⟨callN P (n + 10), P.sub⟩) e1]
  refine seqR (retE ?_)
  rw [ev_and e2, if_pos rfl]
  have e3 : evE (callN P (n + 10)) (.cmp .Eq (.bi .len (.cons (.var 0) .nil)) (.bi .len (.cons (.var 1) .nil))) [some (tD v), some (tD v), none] h = .ok (.bl true) h := ev_cmp (x := .int 2) (y := .int 2) (ev_bi1 (ev_var rfl) rfl) (ev_bi1 (ev_var rfl) rfl) rfl
  rw [ev_and e3, if_pos rfl]
  refine ev_bi1 (x := .lst [.bl true, .bl true]) (ev_comp1 (n := 2) (h1 := h) (ev_bi1 (ev_var rfl) rfl) (by decide) ?_) rfl
  refine compF_mapM (fun b : Bool => D.bl b) (fun _ => some true) [0, 1] [true, true] rfl (fun j hj q hq => ?_)
  cases hq
  simp only [List.mem_cons, List.not_mem_nil, or_false] at hj
  refine ⟨_, rfl, rfl, ?_⟩
  rcases hj with rfl | rfl
  · exact (ev_c2 (ev_idx (ev_var rfl) (ev_var rfl) rfl) (ev_idx (ev_var rfl) (ev_var rfl) rfl)).trans same_str
  · exact (ev_c2 (ev_idx (ev_var rfl) (ev_var rfl) rfl) (ev_idx (ev_var rfl) (ev_var rfl) rfl)).trans hv

/-! ### closed runs -/
theorem due_tab : ((List.range 41).all fun k => runs P 40 30 [.tup (intsL (dueL k))] (.tup (intsL (dueL k))) && runs P 40 32 [.tup (intsL (dueL k)), .tup (intsL (dueL k))] (.bl true)) = true := by decide +kernel
theorem pol_hon : ((List.range 7).all fun g => runs P 40 30 [.tup (polV g)] (.tup (polV g))) = true := by decide +kernel
/-- Bernoulli's numbers, and what is due of them -/
def berV : Nat → Q2
  | 1 => (1, 6)
  | 2 => (-1, 30)
  | 3 => (1, 42)
  | 4 => (-1, 30)
  | 5 => (5, 66)
  | 6 => (-691, 2730)
  | _ => (0, 1)
def smoV : Nat → Q2
  | 1 => (-1, 12)
  | 2 => (1, 120)
  | 3 => (-1, 252)
  | 4 => (1, 240)
  | 5 => (-1, 132)
  | 6 => (691, 32760)
  | _ => (0, 1)
def smoOk (h : Nat) : Bool := runT T0 P 40 26 [.int (h : Nat)] (qD (smoV h)) && runT TL P 40 44 [.int (2 * (h : Nat))] (qD (berV h)) && runT TL P 40 34 [.int (-(berV h).1), .int ((berV h).2 * 2 * (h : Nat))] (qD (smoV h)) && runs P 40 30 [qD (smoV h)] (qD (smoV h)) && runs P 40 32 [qD (smoV h), qD (smoV h)] (.bl true)
theorem smo_1 : smoOk 1 = true := by decide +kernel
theorem smo_2 : smoOk 2 = true := by decide +kernel
theorem smo_3 : smoOk 3 = true := by decide +kernel
theorem smo_4 : smoOk 4 = true := by decide +kernel
theorem smo_5 : smoOk 5 = true := by decide +kernel
theorem smo_6 : smoOk 6 = true := by decide +kernel
theorem smo_all {h : Nat} (h1 : 1 ≤ h) (h6 : h ≤ 6) : smoOk h = true := by
  match h, h1, h6 with
  | 1, _, _ => exact smo_1
  | 2, _, _ => exact smo_2
  | 3, _, _ => exact smo_3
  | 4, _, _ => exact smo_4
  | 5, _, _ => exact smo_5
  | 6, _, _ => exact smo_6
abbrev mD : D := .tup [.str (Str.ofString "malformed"), .non]
def bads4 : List D := [.int (-1), .int 41, .non, .bl true, .str (Str.ofString "1")]
def bads5 : List D := [.int (-1), .int 7, .non, .bl true, .str (Str.ofString "1")]
theorem bad_4 : (bads4.all fun b => ((List.range 7).all fun g => runs P 40 43 [.int 0, .int (g : Nat), b] mD) && runs P 40 43 [.int 1, .int 1, b] mD && runs P 40 43 [.int 2, .int 1, b] mD && runs P 40 43 [.int 3, b, .non] mD) = true := by decide +kernel
theorem bad_5 : (bads5.all fun b => runs P 40 43 [.int 0, b, .int 1] mD && runs P 40 43 [.int 4, b, .non] mD && runs P 40 43 [.int 5, b, .non] mD) = true := by decide +kernel
theorem bad_6 : (runs P 40 43 [.int 1, .int 0, .int 3] mD && runs P 40 43 [.int 2, .int 0, .int 3] mD && runs P 40 43 [.int 5, .int 0, .non] mD) = true := by decide +kernel
mutual
theorem nr_low {n : Nat} : ∀ {d : D}, d.nr = true → d.low n = true
  | .non, _ => rfl
  | .bl _, _ => rfl
  | .int _, _ => rfl
  | .str _, _ => rfl
  | .fn _, _ => rfl
  | .ref _, h => by simp [D.nr] at h
  | .tup xs, h => by
    rw [D.low]
    exact nrs_low (by simpa only [D.nr] using h)
  | .lst xs, h => by
    rw [D.low]
    exact nrs_low (by simpa only [D.nr] using h)
theorem nrs_low {n : Nat} : ∀ {xs : List D}, D.nrs xs = true → D.low.lows n xs = true
  | [], _ => rfl
  | x :: xs, h => by
    simp only [D.nrs, Bool.and_eq_true] at h
    rw [D.low.lows, nr_low h.1, nrs_low h.2]; rfl
end
/-! what they say -/
theorem told_mean {n k : Nat} (hk : k ≤ 40) {h : Hc} : callN P (n + 71) 43 [.int 3, .int (k : Nat), .non] h = .ok (tD (.tup (intsL (dueL k)))) h := by
  have e := List.all_eq_true.mp due_tab k (List.mem_range.mpr (by omega))
  simp only [Bool.and_eq_true] at e
  refine told_5 (n := n + 70) (w := 3) (f := 24) (by omega) (by decide) rfl ?_ (run_24 (n := n) hk h) (hon_tab e.1 (by omega))
  have := intsL_low (n := h.length) (dueL k)
  simpa only [D.low] using this
theorem same_mean {n k : Nat} (hk : k ≤ 40) {h : Hc} : callN P (n + 51) 32 [tD (.tup (intsL (dueL k))), tD (.tup (intsL (dueL k)))] h = .ok (.bl true) h := by
  have e := List.all_eq_true.mp due_tab k (List.mem_range.mpr (by omega))
  simp only [Bool.and_eq_true] at e
  exact same_told (n := n + 40) (callN_up (runs_at nr41 e.2 h) (by omega))
theorem run_25 {n g : Nat} (hg : g ≤ 6) (h : Hc) : callN P (n + 50) 25 [.int (g : Nat)] h = .ok (.tup (polV g)) h := by
  match g, hg with
  | 0, _ => exact runT_at nr41 T0_ok pol_v0 (by omega) h
  | 1, _ => exact runT_at nr41 T0_ok pol_v1 (by omega) h
  | 2, _ => exact runT_at nr41 T0_ok pol_v2 (by omega) h
  | 3, _ => exact runT_at nr41 T0_ok pol_v3 (by omega) h
  | 4, _ => exact runT_at nr41 T0_ok pol_v4 (by omega) h
  | 5, _ => exact runT_at nr41 T0_ok pol_v5 (by omega) h
  | 6, _ => exact runT_at nr41 T0_ok pol_v6 (by omega) h
theorem polV_nr {g : Nat} (hg : g ≤ 6) : (D.tup (polV g)).nr = true := by
  match g, hg with
  | 0, _ => decide +kernel
  | 1, _ => decide +kernel
  | 2, _ => decide +kernel
  | 3, _ => decide +kernel
  | 4, _ => decide +kernel
  | 5, _ => decide +kernel
  | 6, _ => decide +kernel
theorem told_pol {n g : Nat} (hg : g ≤ 6) {h : Hc} : callN P (n + 51) 43 [.int 4, .int (g : Nat), .non] h = .ok (tD (.tup (polV g))) h := by
  have e := List.all_eq_true.mp pol_hon g (List.mem_range.mpr (by omega))
  exact told_5 (n := n + 50) (w := 4) (f := 25) (by omega) (by decide) rfl (nr_low (polV_nr hg)) (run_25 (n := n) hg h) (hon_tab e (by omega))
theorem smo_at {h : Nat} (h1 : 1 ≤ h) (h6 : h ≤ 6) : (∀ n H, callN P (n + 50) 26 [.int (h : Nat)] H = .ok (qD (smoV h)) H) ∧ (∀ n H, callN P (n + 50) 44 [.int (2 * (h : Nat))] H = .ok (qD (berV h)) H) ∧ (∀ n H, callN P (n + 50) 34 [.int (-(berV h).1), .int ((berV h).2 * 2 * (h : Nat))] H = .ok (qD (smoV h)) H) ∧ (∀ n, HonC (n + 50) (qD (smoV h))) ∧ (∀ n H, callN P (n + 50) 32 [qD (smoV h), qD (smoV h)] H = .ok (.bl true) H) := by
  have e := smo_all h1 h6
  simp only [smoOk, Bool.and_eq_true] at e
  obtain ⟨⟨⟨⟨e1, e2⟩, e3⟩, e4⟩, e5⟩ := e
  exact ⟨fun n H => runT_at nr41 T0_ok e1 (by omega) H, fun n H => runT_at nr41 TL_ok e2 (by omega) H, fun n H => runT_at nr41 TL_ok e3 (by omega) H, fun n => hon_tab e4 (by omega), fun n H => callN_up (runs_at nr41 e5 H) (by omega)⟩
theorem told_smo {n h : Nat} (h1 : 1 ≤ h) (h6 : h ≤ 6) {H : Hc} : callN P (n + 51) 43 [.int 5, .int (h : Nat), .non] H = .ok (tD (qD (smoV h))) H := by
  obtain ⟨e1, _, _, e4, _⟩ := smo_at h1 h6
  exact told_5 (n := n + 50) (w := 5) (f := 26) (by omega) (by decide) rfl (by simp [D.low, D.low.lows]) (e1 n H) (e4 n)
theorem same_smo {n h : Nat} (h1 : 1 ≤ h) (h6 : h ≤ 6) {H : Hc} : callN P (n + 51) 32 [tD (qD (smoV h)), tD (qD (smoV h))] H = .ok (.bl true) H := by
  obtain ⟨_, _, _, _, e5⟩ := smo_at h1 h6
  exact same_told (n := n + 40) (e5 n H)

/-! ### a turn of the law -/
abbrev sL (o1 o2 o3 o4 o5 o6 o7 o8 o9 o10 o11 o12 o13 : Option D) : CSt := [some (.ref 0), o1, o2, o3, o4, o5, o6, o7, o8, o9, o10, o11, o12, o13, none, none]
def X0 (rs : List (List Int)) : Hc := .lst (refs 3 22) :: rs.map fun r => .lst (intsL r)
theorem PH_X0 {ns : List D} {s t : Int} {rs : List (List Int)} (hr : rs.length = 22) : PH (HX ns s t []) rs = HX ns s t (X0 rs) := by
  simp only [PH, hr]
  rfl
structure RowsOk (rs : List (List Int)) (most : Nat) : Prop where
  len : rs.length = 22
  row : ∀ g, g < 22 → rs.getD g [] = pR most g
theorem pRows_getD {k g : Nat} : ∀ n, g < n → (pRows k n).getD g [] = pR k g := by
  intro n
  induction n with
  | zero => intro h; omega
  | succ n ih =>
    intro h
    by_cases hn : g = n
    · subst hn; rfl
    · rw [pRows, List.getD_eq_getElem?_getD, List.getElem?_append_left (by rw [pRows_len]; omega), ← List.getD_eq_getElem?_getD]
      exact ih (by omega)
section
variable {ns : List D} {s t : Int} {most : Nat} {Y : Hc} {rs : List (List Int)}
theorem hx_head : (HX ns s t (X0 rs ++ Y))[2]? = some (.lst (refs 3 22)) := rfl
theorem hx_row (ok : RowsOk rs most) {g : Nat} (hg : g < 22) : (HX ns s t (X0 rs ++ Y))[3 + g]? = some (.lst (intsL (pR most g))) := by
  show ([Cell.ro ns, .lst [.int s, .int t], .lst (refs 3 22)] ++ (rs.map (fun r => Cell.lst (intsL r)) ++ Y))[3 + g]? = _
  have hl := ok.len
  rw [List.getElem?_append_right (by simp), show 3 + g - [Cell.ro ns, .lst [.int s, .int t], .lst (refs 3 22)].length = g by simp, List.getElem?_append_left (by rw [List.length_map]; omega), List.getElem?_map]
  have h1 := ok.row g hg
  rw [List.getD_eq_getElem?_getD, List.getElem?_eq_getElem (by omega)] at h1
  rw [List.getElem?_eq_getElem (by omega)]
  simp only [Option.getD_some] at h1
  rw [← h1]
  rfl
theorem ev_rowg {C : Caller} {σ : CSt} {e1 e2 : CE} {g : Nat} (hg : g < 22) (k1 : evE C e1 σ (HX ns s t (X0 rs ++ Y)) = .ok (.ref 2) (HX ns s t (X0 rs ++ Y))) (k2 : evE C e2 σ (HX ns s t (X0 rs ++ Y)) = .ok (.int (g : Nat)) (HX ns s t (X0 rs ++ Y))) : evE C (.idx e1 e2) σ (HX ns s t (X0 rs ++ Y)) = .ok (.ref (3 + g)) (HX ns s t (X0 rs ++ Y)) := by
  refine ev_idx k1 k2 ?_
  simp only [idxF, hx_head]
  exact refs_at (H := HX ns s t []) hg
theorem ev_rowk (ok : RowsOk rs most) {C : Caller} {σ : CSt} {e1 e2 e3 : CE} {g k : Nat} (hg : g < 22) (hk : k ≤ most) (k1 : evE C e1 σ (HX ns s t (X0 rs ++ Y)) = .ok (.ref 2) (HX ns s t (X0 rs ++ Y))) (k2 : evE C e2 σ (HX ns s t (X0 rs ++ Y)) = .ok (.int (g : Nat)) (HX ns s t (X0 rs ++ Y))) (k3 : evE C e3 σ (HX ns s t (X0 rs ++ Y)) = .ok (.int (k : Nat)) (HX ns s t (X0 rs ++ Y))) : evE C (.idx (.idx e1 e2) e3) σ (HX ns s t (X0 rs ++ Y)) = .ok (.int ((pR most g).getD k 0)) (HX ns s t (X0 rs ++ Y)) := by
  refine ev_idx (ev_rowg hg k1 k2) k3 ?_
  simp only [idxF, hx_row ok hg]
  exact atD_int (by rw [pR_len]; omega)
end
theorem getD_take {l : List Int} {k m : Nat} (h : k < m) : (l.take m).getD k 0 = l.getD k 0 := by
  rw [List.getD_eq_getElem?_getD, List.getElem?_take_of_lt h, ← List.getD_eq_getElem?_getD]
theorem pR_at {g k m : Nat} (hg : g ≤ 6) (hm : m ≤ 40) (hk : k ≤ m) : (pR m g).getD k 0 = (pR 40 g).getD k 0 := by
  rw [pR_take hg hm, getD_take (by omega)]
theorem not_same {C : Caller} {σ : CSt} {h h1 h2 : Hc} {e1 e2 : CE} {v : D} (k1 : evE C e1 σ h = .ok (tD v) h1) (k2 : evE C e2 σ h1 = .ok v h2) (k3 : C 32 [tD v, tD v] h2 = .ok (.bl true) h2) : evE C (.not_ (.call 32 (.cons e1 (.cons (.tup (.cons (.cst (.str (Str.ofString "told"))) (.cons e2 .nil))) .nil)))) σ h = .ok (.bl false) h2 :=
  ev_not (c := true) ((ev_c2 k1 (ev_t2 ev_cst k2)).trans k3)
theorem same_i {n : Nat} {v : Int} {h : Hc} : callN P (n + 50) 32 [tD (.int v), tD (.int v)] h = .ok (.bl true) h := same_told (n := n + 39) (same_int (n := n + 47))
theorem turn {n most g : Nat} {rs : List (List Int)} (ok : RowsOk rs most) (hm : most = 20 ∨ most = 40) (hg : g ≤ 6) {ns : List D} {s t : Int} {Y : Hc} (o5 o6 : Option D) :
    ∃ (k : Nat) (s' t' : Int) (Y' : Hc), k ≤ most ∧ evSs ⟨callN P (n + 100), P.sub⟩ L_law_0 (sL (some (.ref 1)) (some (.int (g : Nat))) (some (.int (most : Nat))) (some (.ref 2)) o5 o6 none none none none none none none) (HX ns s t (X0 rs ++ Y)) = .ok (.nx (sL (some (.ref 1)) (some (.int (g : Nat))) (some (.int (most : Nat))) (some (.ref 2)) none (some (.int (k : Nat))) none none none none none none none)) (HX ns s' t' (X0 rs ++ Y')) := by
  have hm40 : most ≤ 40 := by omega
  have hC : TakeOk (callN P (n + 100)) 28 ns := take_ok (P := P) (it := 28) rfl (n := n + 99)
  obtain ⟨k, s', t', hk, e1⟩ := take2 (it := 28) (m := (most : Int) + 1) (s := s) (t := t) (X := X0 rs ++ Y) (e1 := .var 1) (e2 := .bin .Add (.var 3) (.cst (.int 1))) (σ := sL (some (.ref 1)) (some (.int (g : Nat))) (some (.int (most : Nat))) (some (.ref 2)) o5 o6 none none none none none none none) hC (by omega) (by omega) (ev_var rfl) (ev_bin (op := .Add) (ev_var rfl) ev_cst rfl)
  have hk' : k ≤ most := by omega
  let S := fun o7 : Option D => sL (some (.ref 1)) (some (.int (g : Nat))) (some (.int (most : Nat))) (some (.ref 2)) o5 (some (.int (k : Nat))) o7 none none none none none none
  let H := HX ns s' t' (X0 rs ++ Y)
  have a1 : evS ⟨callN P (n + 100), P.sub⟩ (.asg (.v 6) (.call 28 (.cons (.var 1) (.cons (.bin .Add (.var 3) (.cst (.int 1))) .nil)))) (sL (some (.ref 1)) (some (.int (g : Nat))) (some (.int (most : Nat))) (some (.ref 2)) o5 o6 none none none none none none none) (HX ns s t (X0 rs ++ Y)) = .ok (.nx (S none)) H := asgV (i := 6) e1
  -- the number
  have c2 : evE (callN P (n + 100)) (.not_ (.call 32 (.cons (.call 43 (.cons (.cst (.int 0)) (.cons (.var 2) (.cons (.var 6) .nil)))) (.cons (.tup (.cons (.cst (.str (Str.ofString "told"))) (.cons (.idx (.idx (.var 4) (.var 2)) (.var 6)) .nil))) .nil)))) (S none) H = .ok (.bl false) H := by
    refine not_same (v := .int ((pR most g).getD k 0)) ((ev_c3 ev_cst (ev_var rfl) (ev_var rfl)).trans ?_) (ev_rowk ok (by omega) hk' (ev_var rfl) (ev_var rfl) (ev_var rfl)) (same_i (n := n + 50))
    refine told_3 (n := n + 99) (w := 0) (f := 20) (by omega) (by decide) rfl rfl ?_ (hon_int (n := n + 97))
    rw [pR_at hg hm40 hk', ← pR_at hg (by omega) (Nat.le_refl k)]
    exact run_20 (n := n + 87) hg (by omega) H
  have a2 : ∀ A, evS ⟨callN P (n + 100), P.sub⟩ (.ifs (.not_ (.call 32 (.cons (.call 43 (.cons (.cst (.int 0)) (.cons (.var 2) (.cons (.var 6) .nil)))) (.cons (.tup (.cons (.cst (.str (Str.ofString "told"))) (.cons (.idx (.idx (.var 4) (.var 2)) (.var 6)) .nil))) .nil)))) A .nil) (S none) H = .ok (.nx (S none)) H := fun A => by
    rw [ifF (P := ⟨callN P (n + 100), P.sub⟩) c2]; simp only [ES]
  have c3 : evE (callN P (n + 100)) (.cmp .Gt (.var 2) (.cst (.int 0))) (S none) H = .ok (.bl (decide ((0 : Int) < (g : Nat)))) H := ev_cmp (ev_var rfl) ev_cst gt_int
  -- smooth and lean
  obtain ⟨o7, Y', a3⟩ : ∃ (o7 : Option D) (Y' : Hc), evS ⟨callN P (n + 100), P.sub⟩ (.ifs (.cmp .Gt (.var 2) (.cst (.int 0))) (.cons (.asg (.v 7) (.call 42 (.cons (.idx (.var 4) (.var 2)) (.cons (.cst (.bl true)) .nil)))) (.cons (.ifs (.or_ (.not_ (.call 32 (.cons (.call 43 (.cons (.cst (.int 1)) (.cons (.var 2) (.cons (.var 6) .nil)))) (.cons (.tup (.cons (.cst (.str (Str.ofString "told"))) (.cons (.idx (.var 7) (.var 6)) .nil))) .nil)))) (.not_ (.call 32 (.cons (.call 43 (.cons (.cst (.int 2)) (.cons (.var 2) (.cons (.var 6) .nil)))) (.cons (.tup (.cons (.cst (.str (Str.ofString "told"))) (.cons (.idx (.call 42 (.cons (.var 7) (.cons (.cst (.bl false)) .nil))) (.var 6)) .nil))) .nil))))) (.cons (.ret (.cst (.bl false))) .nil) .nil) .nil)) .nil) (S none) H = .ok (.nx (S o7)) (HX ns s' t' (X0 rs ++ Y')) := by
    by_cases h0 : g = 0
    · rw [decide_eq_false (by omega)] at c3
      exact ⟨none, Y, by rw [ifF (P := ⟨callN P (n + 100), P.sub⟩) c3]; simp only [ES]; all_goals rfl⟩
    · rw [decide_eq_true (by omega)] at c3
      obtain ⟨R, R2, eR, eR2⟩ := okW_all hg
      have hl40 : (pR 40 g).length = 41 := pR_len
      have hlR : R.length = 41 := by rw [wl_len eR, hl40]
      have w1 : ∀ m, m ≤ 40 → wl true (pR m g) = some (R.take (m + 1)) := fun m hm => by rw [pR_take hg hm]; exact wl_take eR _ (by omega)
      have w2 : ∀ m, m ≤ 40 → wl false (R.take (m + 1)) = some (R2.take (m + 1)) := fun m hm => wl_take eR2 _ (by omega)
      let c1 : Cell := .lst (intsL (R.take (most + 1)))
      let d1 : Cell := .lst (intsL (R2.take (most + 1)))
      have b1 : evS ⟨callN P (n + 100), P.sub⟩ (.asg (.v 7) (.call 42 (.cons (.idx (.var 4) (.var 2)) (.cons (.cst (.bl true)) .nil)))) (S none) H = .ok (.nx (S (some (.ref H.length)))) (H ++ [c1]) :=
        asgV (i := 7) ((ev_c2 (ev_rowg (by omega) (ev_var rfl) (ev_var rfl)) ev_cst).trans (run_to (n := n + 99) d41_42 (ch41L (n := n + 97)) (hx_row ok (by omega)) (by rw [pR_len]; omega) (w1 most hm40)))
      have hlr : (R.take (most + 1)).length = most + 1 := by rw [List.length_take]; omega
      have q1 : evE (callN P (n + 100)) (.not_ (.call 32 (.cons (.call 43 (.cons (.cst (.int 1)) (.cons (.var 2) (.cons (.var 6) .nil)))) (.cons (.tup (.cons (.cst (.str (Str.ofString "told"))) (.cons (.idx (.var 7) (.var 6)) .nil))) .nil)))) (S (some (.ref H.length))) (H ++ [c1]) = .ok (.bl false) (H ++ [c1]) := by
        refine not_same (v := .int ((R.take (most + 1)).getD k 0)) ((ev_c3 ev_cst (ev_var rfl) (ev_var rfl)).trans ?_) (ev_idx (ev_var rfl) (ev_var rfl) (by simp only [idxF, c1, cell_at]; exact atD_int (by omega))) (same_i (n := n + 50))
        refine told_3 (n := n + 99) (w := 1) (f := 22) (by omega) (by decide) rfl rfl ?_ (hon_int (n := n + 97))
        rw [getD_take (by omega), ← getD_take (l := R) (m := k + 1) (by omega)]
        exact run_22 (n := n + 87) (by omega) hg (by omega) (w1 k (by omega)) _
      have q2 : evE (callN P (n + 100)) (.not_ (.call 32 (.cons (.call 43 (.cons (.cst (.int 2)) (.cons (.var 2) (.cons (.var 6) .nil)))) (.cons (.tup (.cons (.cst (.str (Str.ofString "told"))) (.cons (.idx (.call 42 (.cons (.var 7) (.cons (.cst (.bl false)) .nil))) (.var 6)) .nil))) .nil)))) (S (some (.ref H.length))) (H ++ [c1]) = .ok (.bl false) (H ++ [c1] ++ [d1]) := by
        have hl2 : (R2.take (most + 1)).length = most + 1 := by rw [wl_len (w2 most hm40), hlr]
        refine not_same (h1 := H ++ [c1]) (v := .int ((R2.take (most + 1)).getD k 0)) ((ev_c3 ev_cst (ev_var rfl) (ev_var rfl)).trans ?_) (ev_idx ((ev_c2 (ev_var rfl) ev_cst).trans (run_to (n := n + 99) d41_42 (ch41L (n := n + 97)) (cell_at (h := H)) (by omega) (w2 most hm40))) (ev_var rfl) (by simp only [idxF, d1, cell_at]; exact atD_int (by omega))) (same_i (n := n + 50))
        refine told_3 (n := n + 99) (w := 2) (f := 23) (by omega) (by decide) rfl rfl ?_ (hon_int (n := n + 97))
        rw [getD_take (by omega), ← getD_take (l := R2) (m := k + 1) (by omega)]
        exact run_23 (n := n + 87) (by omega) hg (by omega) (w1 k (by omega)) (w2 k (by omega)) _
      refine ⟨some (.ref H.length), Y ++ [c1] ++ [d1], ?_⟩
      rw [ifT (P := ⟨callN P (n + 100), P.sub⟩) c3, seqN b1]
      rw [seqN (σ' := S (some (.ref H.length))) (h' := H ++ [c1] ++ [d1]) (by rw [ifF (P := ⟨callN P (n + 100), P.sub⟩) (by rw [ev_or q1, if_neg (by simp)]; exact q2)]; simp only [ES])]
      simp only [ES]
      congr 1
      simp only [H, HX, List.cons_append, List.append_assoc]
  refine ⟨k, s', t', Y', hk', ?_⟩
  unfold L_law_0
  rw [seqN a1, seqN (a2 _), seqN a3]
  simp only [ES]; all_goals rfl

/-! ### the mean: what is due -/
theorem row_tab : ((List.range 22).all fun g => decide ((pRows 20 22).getD g [] = ((pRows 40 22).getD g []).take 21)) = true := by decide +kernel
theorem row_val {most h k : Nat} (hm : most = 20 ∨ most = 40) (hh : h < 22) (hk : k ≤ most) : (pR most h).getD k 0 = ((pRows 40 22).getD h []).getD k 0 := by
  rcases hm with rfl | rfl
  · have e := of_decide_eq_true (List.all_eq_true.mp row_tab h (List.mem_range.mpr hh))
    rw [← pRows_getD 22 hh, e, getD_take (by omega)]
  · rw [← pRows_getD 22 hh]
theorem HX_app {ns : List D} {s t : Int} {rs : List (List Int)} {Y Z : Hc} : HX ns s t (X0 rs ++ Y) ++ Z = HX ns s t (X0 rs ++ (Y ++ Z)) := by
  simp only [HX, List.cons_append, List.append_assoc]
theorem dueS_len {k : Nat} : ∀ {hs : List Nat} {d : List Int}, (dueS k hs d).length = d.length
  | [], _ => rfl
  | h :: hs, d => by rw [dueS, dueS_len, List.length_set]
theorem due_loop {Pe : Env2} {most k g : Nat} {rs : List (List Int)} (ok : RowsOk rs most) (hm : most = 20 ∨ most = 40) (hk : k ≤ most) {ns : List D} {s t : Int} {Y : Hc} {o5 o7 o10 o11 o12 o13 : Option D} : ∀ (hs : List Nat), (∀ h ∈ hs, 2 * h ≤ k) → ∀ (d : List Int) (o9 : Option D), d.length = k + 2 →
    ∃ o9', forF (evSs Pe L_law_1) (.v 9) [] (natD hs) (sL (some (.ref 1)) (some (.int (g : Nat))) (some (.int (most : Nat))) (some (.ref 2)) o5 (some (.int (k : Nat))) o7 (some (.ref (HX ns s t (X0 rs ++ Y)).length)) o9 o10 o11 o12 o13) (HX ns s t (X0 rs ++ Y) ++ [.lst (intsL d)]) = .ok (.nx (sL (some (.ref 1)) (some (.int (g : Nat))) (some (.int (most : Nat))) (some (.ref 2)) o5 (some (.int (k : Nat))) o7 (some (.ref (HX ns s t (X0 rs ++ Y)).length)) o9' o10 o11 o12 o13)) (HX ns s t (X0 rs ++ Y) ++ [.lst (intsL (dueS k hs d))]) := by
  intro hs
  induction hs with
  | nil => intro _ d o9 _; exact ⟨o9, forF_nil rfl⟩
  | cons h hs ih =>
    intro hh d o9 hd
    have h2 := hh h (by simp)
    obtain ⟨o9', ih⟩ := ih (fun x hx => hh x (List.mem_cons_of_mem _ hx)) (d.set (k + 1 - 2 * h) (((pRows 40 22).getD h []).getD k 0)) (some (.int (h : Nat))) (by rw [List.length_set, hd])
    refine ⟨o9', ?_⟩
    rw [natD, List.map_cons]
    refine (forF_cons (xs := natD hs) rfl rfl ?_).trans ih
    have ei : evE Pe.C (.bin .Sub (.bin .Add (.var 6) (.cst (.int 1))) (.bin .Mult (.cst (.int 2)) (.var 9))) (sL (some (.ref 1)) (some (.int (g : Nat))) (some (.int (most : Nat))) (some (.ref 2)) o5 (some (.int (k : Nat))) o7 (some (.ref (HX ns s t (X0 rs ++ Y)).length)) (some (.int (h : Nat))) o10 o11 o12 o13) (HX ns s t (X0 rs ++ Y) ++ [.lst (intsL d)]) = .ok (.int ((k + 1 - 2 * h : Nat) : Int)) (HX ns s t (X0 rs ++ Y) ++ [.lst (intsL d)]) := by
      refine ev_bin (op := .Sub) (ev_bin (op := .Add) (ev_var rfl) ev_cst rfl) (ev_bin (op := .Mult) ev_cst (ev_var rfl) (mul_sm (by decide))) ?_
      simp only [binF, int2, Option.map_some]
      congr 2
      omega
    have ev : evE Pe.C (.idx (.idx (.var 4) (.var 9)) (.var 6)) (sL (some (.ref 1)) (some (.int (g : Nat))) (some (.int (most : Nat))) (some (.ref 2)) o5 (some (.int (k : Nat))) o7 (some (.ref (HX ns s t (X0 rs ++ Y)).length)) (some (.int (h : Nat))) o10 o11 o12 o13) (HX ns s t (X0 rs ++ Y) ++ [.lst (intsL d)]) = .ok (.int ((pR most h).getD k 0)) (HX ns s t (X0 rs ++ Y) ++ [.lst (intsL d)]) := by
      rw [HX_app]
      exact ev_rowk ok (by omega) hk (ev_var rfl) (ev_var rfl) (ev_var rfl)
    rw [row_val hm (by omega) hk] at ev
    unfold L_law_1
    refine (seqN (sputI (r := (HX ns s t (X0 rs ++ Y)).length) (xs := d) (j := k + 1 - 2 * h) cell_at (ev_var rfl) ei ev (by omega))).trans ?_
    rw [cell_set]
    simp only [ES]; all_goals rfl
theorem mean_part {n most g : Nat} {rs : List (List Int)} (ok : RowsOk rs most) (hm : most = 20 ∨ most = 40) {ns : List D} {s t : Int} {Y : Hc} (o6 : Option D) {rest : CSs} :
    ∃ (k : Nat) (s' t' : Int) (Y' : Hc) (o8 o9 : Option D), k ≤ most ∧ evSs ⟨callN P (n + 100), P.sub⟩ (.cons (.asg (.v 6) (.call 28 (.cons (.var 1) (.cons (.bin .Add (.var 3) (.cst (.int 1))) .nil)))) (.cons (.asg (.v 8) (.cell (.comp (.cst (.int 0)) (.v 14) (.rng1 (.bin .Add (.var 6) (.cst (.int 2)))) .absent [14]))) (.cons (.for_ (.v 9) (.rng1 (.bin .Add (.bin .FloorDiv (.var 6) (.cst (.int 2))) (.cst (.int 1)))) L_law_1) (.cons (.ifs (.not_ (.call 32 (.cons (.call 43 (.cons (.cst (.int 3)) (.cons (.var 6) (.cons (.cst .non) .nil)))) (.cons (.tup (.cons (.cst (.str (Str.ofString "told"))) (.cons (.bi .tuple (.cons (.var 8) .nil)) .nil))) .nil)))) (.cons (.ret (.cst (.bl false))) .nil) .nil) rest))))
      (sL (some (.ref 1)) (some (.int (g : Nat))) (some (.int (most : Nat))) (some (.ref 2)) none o6 none none none none none none none) (HX ns s t (X0 rs ++ Y)) = evSs ⟨callN P (n + 100), P.sub⟩ rest (sL (some (.ref 1)) (some (.int (g : Nat))) (some (.int (most : Nat))) (some (.ref 2)) none (some (.int (k : Nat))) none o8 o9 none none none none) (HX ns s' t' (X0 rs ++ Y')) := by
  have hC : TakeOk (callN P (n + 100)) 28 ns := take_ok (P := P) (it := 28) rfl (n := n + 99)
  obtain ⟨k, s', t', hk, e1⟩ := take2 (it := 28) (m := (most : Int) + 1) (s := s) (t := t) (X := X0 rs ++ Y) (e1 := .var 1) (e2 := .bin .Add (.var 3) (.cst (.int 1))) (σ := sL (some (.ref 1)) (some (.int (g : Nat))) (some (.int (most : Nat))) (some (.ref 2)) none o6 none none none none none none none) hC (by omega) (by omega) (ev_var rfl) (ev_bin (op := .Add) (ev_var rfl) ev_cst rfl)
  have hk' : k ≤ most := by omega
  have h40 : k ≤ 40 := by omega
  let S := fun o8 o9 : Option D => sL (some (.ref 1)) (some (.int (g : Nat))) (some (.int (most : Nat))) (some (.ref 2)) none (some (.int (k : Nat))) none o8 o9 none none none none
  let H := HX ns s' t' (X0 rs ++ Y)
  obtain ⟨o9, el⟩ := due_loop (Pe := ⟨callN P (n + 100), P.sub⟩) (g := g) ok hm hk' (ns := ns) (s := s') (t := t') (Y := Y) (o5 := none) (o7 := none) (o10 := none) (o11 := none) (o12 := none) (o13 := none) (List.range (k / 2 + 1)) (fun h hh => by have := List.mem_range.mp hh; omega) (List.replicate (k + 2) 0) none List.length_replicate
  have a1 : evS ⟨callN P (n + 100), P.sub⟩ (.asg (.v 6) (.call 28 (.cons (.var 1) (.cons (.bin .Add (.var 3) (.cst (.int 1))) .nil)))) (sL (some (.ref 1)) (some (.int (g : Nat))) (some (.int (most : Nat))) (some (.ref 2)) none o6 none none none none none none none) (HX ns s t (X0 rs ++ Y)) = .ok (.nx (S none none)) H := asgV (i := 6) e1
  have a2 : evS ⟨callN P (n + 100), P.sub⟩ (.asg (.v 8) (.cell (.comp (.cst (.int 0)) (.v 14) (.rng1 (.bin .Add (.var 6) (.cst (.int 2)))) .absent [14]))) (S none none) H = .ok (.nx (S (some (.ref H.length)) none)) (H ++ [.lst (intsL (List.replicate (k + 2) 0))]) := by
    refine asgV (i := 8) (ev_cell (ev_comp1 (n := k + 2) (h1 := H) (ev_bin (op := .Add) (ev_var rfl) ev_cst rfl) (by omega) ?_))
    refine compF_mapM D.int (fun _ => some 0) (List.range (k + 2)) (List.replicate (k + 2) 0) ?_ (fun j hj q hq => ?_)
    · have : ∀ l : List Nat, mapMO (fun _ => some (0 : Int)) l = some (List.replicate l.length 0) := by
        intro l
        induction l with
        | nil => rfl
        | cons x xs ih => simp only [mapMO, ih, Option.bind_some, List.length_cons, List.replicate_succ]
      rw [this, List.length_range]
    · cases hq
      exact ⟨_, rfl, rfl, ev_cst⟩
  have a3 : evS ⟨callN P (n + 100), P.sub⟩ (.for_ (.v 9) (.rng1 (.bin .Add (.bin .FloorDiv (.var 6) (.cst (.int 2))) (.cst (.int 1)))) L_law_1) (S (some (.ref H.length)) none) (H ++ [.lst (intsL (List.replicate (k + 2) 0))]) = .ok (.nx (S (some (.ref H.length)) o9)) (H ++ [.lst (intsL (dueL k))]) := by
    have ea : evE (callN P (n + 100)) (.bin .Add (.bin .FloorDiv (.var 6) (.cst (.int 2))) (.cst (.int 1))) (S (some (.ref H.length)) none) (H ++ [.lst (intsL (List.replicate (k + 2) 0))]) = .ok (.int ((k / 2 + 1 : Nat) : Int)) (H ++ [.lst (intsL (List.replicate (k + 2) 0))]) := by
      refine ev_bin (op := .Add) (x := .int ((k / 2 : Nat) : Int)) (ev_bin (op := .FloorDiv) (ev_var rfl) ev_cst (binDiv ?_)) ev_cst rfl
      unfold divM
      rw [if_pos (by decide +kernel), Int.fdiv_eq_ediv_of_nonneg _ (by omega)]
      rfl
    rw [forR1 (P := ⟨callN P (n + 100), P.sub⟩) ea (smallI_nat (by omega)), Int.toNat_natCast, rngD_zero]
    exact el
  have c4 : evE (callN P (n + 100)) (.not_ (.call 32 (.cons (.call 43 (.cons (.cst (.int 3)) (.cons (.var 6) (.cons (.cst .non) .nil)))) (.cons (.tup (.cons (.cst (.str (Str.ofString "told"))) (.cons (.bi .tuple (.cons (.var 8) .nil)) .nil))) .nil)))) (S (some (.ref H.length)) o9) (H ++ [.lst (intsL (dueL k))]) = .ok (.bl false) (H ++ [.lst (intsL (dueL k))]) :=
    not_same (v := .tup (intsL (dueL k))) ((ev_c3 ev_cst (ev_var rfl) ev_cst).trans (told_mean (n := n + 29) h40)) (ev_bi1 (ev_var rfl) (by simp only [biF, seqD, cell_at]; rfl)) (same_mean (n := n + 49) h40)
  refine ⟨k, s', t', Y ++ [.lst (intsL (dueL k))], some (.ref H.length), o9, hk', ?_⟩
  rw [seqN a1, seqN a2, seqN a3]
  rw [seqN (σ' := S (some (.ref H.length)) o9) (h' := H ++ [.lst (intsL (dueL k))]) (by rw [ifF (P := ⟨callN P (n + 100), P.sub⟩) c4]; simp only [ES])]
  rw [show H ++ [.lst (intsL (dueL k))] = HX ns s' t' (X0 rs ++ (Y ++ [.lst (intsL (dueL k))])) from HX_app]

/-! ### the polynomial -/
theorem polC_at {g : Nat} (hg : g ≤ 6) : (polV g).length = 3 * g + 1 ∧ (∀ c ∈ polV g, ∀ n h, callN P (n + 80) 38 [c] h = .ok (.bl true) h) ∧ (polV g).getD (3 * g) .non = .tup [.int 1, .int ((12 ^ g * factN g : Nat) : Int)] := by
  have e := List.all_eq_true.mp pol_c g (List.mem_range.mpr (by omega))
  simp only [polC, Bool.and_eq_true] at e
  refine ⟨Nat.eq_of_beq_eq_true e.1.1, fun c hc n h => ?_, D.beq_eq e.2⟩
  exact runT_at nr41 TL_ok (List.all_eq_true.mp e.1.2 c hc) (by omega) h
theorem polK_at {g k : Nat} (hg : g ≤ 6) (hk : k < 3 * g + 3) : ∃ v : D, (v.hard = true ∧ v.dep ≤ 63) ∧ (∀ n h, callN P (n + 80) 45 [.tup (polV g), .int (k : Nat)] h = .ok v h) ∧ (∀ n h, callN P (n + 80) 34 [.int (pv k g * ((k : Nat) + 1)), .int (choN (2 * k) k : Nat)] h = .ok v h) := by
  have e := polK_all hg hk
  unfold polK at e
  have e' := fun n => runEx_at nr41 TL_ok e (m := n + 80) (by omega)
  obtain ⟨v, p, hn, hv⟩ := e' 0
  simp only [Bool.and_eq_true] at p
  refine ⟨v, ⟨p.1.2, Nat.le_of_ble_eq_true p.2⟩, fun n h => callN_up (hv h) (by omega), fun n h => runT_at nr41 TL_ok p.1.1 (by omega) h⟩
theorem pv_at {g k : Nat} (hk : k ≤ 20) (hg : g ≤ 6) {most : Nat} (hm : most = 20 ∨ most = 40) : pv k g = (pR most g).getD k 0 := by
  unfold pv
  rw [pRows_getD 7 (by omega)]
  exact (pR_at hg (by omega) hk).trans (pR_at hg (by omega) (by omega)).symm
theorem atD_last {l : List D} {m : Nat} (h : l.length = m + 1) : atD l (-1) = some (l.getD m .non) := by
  have : ixD l.length (-1) = some m := by
    unfold ixD
    rw [if_neg (by omega), if_pos (by omega)]
    congr 1
    omega
  simp only [atD, this, Option.bind_some]
  rw [List.getD_eq_getElem?_getD, List.getElem?_eq_getElem (by omega)]
  rfl
abbrev sP (g most : Nat) (o5 o6 o8 o9 o10 o11 o12 o13 : Option D) : CSt := sL (some (.ref 1)) (some (.int (g : Nat))) (some (.int (most : Nat))) (some (.ref 2)) o5 o6 none o8 o9 o10 o11 o12 o13
section
variable {n most g : Nat} {o5 o6 o8 o9 o11 o12 o13 : Option D} {H : Hc}
theorem pol_if (hg : g ≤ 6) {A : CSs} : evS ⟨callN P (n + 100), P.sub⟩ (.ifs (.or_ (.cmp .NotEq (.idx (.var 10) (.cst (.int 0))) (.cst (.str (Str.ofString "told")))) (.or_ (.not_ (.isin (.idx (.var 10) (.cst (.int 1))) [.tuple])) (.or_ (.cmp .NotEq (.bi .len (.cons (.idx (.var 10) (.cst (.int 1))) .nil)) (.bin .Add (.bin .Mult (.cst (.int 3)) (.var 2)) (.cst (.int 1)))) (.not_ (.bi .all (.cons (.comp (.call 38 (.cons (.var 15) .nil)) (.v 15) (.seq (.idx (.var 10) (.cst (.int 1)))) .absent [15]) .nil)))))) A .nil) (sP g most o5 o6 o8 o9 (some (tD (.tup (polV g)))) o11 o12 o13) H = .ok (.nx (sP g most o5 o6 o8 o9 (some (tD (.tup (polV g)))) o11 o12 o13)) H := by
  obtain ⟨hl, ha, _⟩ := polC_at hg
  have s1 : evE (callN P (n + 100)) (.idx (.var 10) (.cst (.int 1))) (sP g most o5 o6 o8 o9 (some (tD (.tup (polV g)))) o11 o12 o13) H = .ok (.tup (polV g)) H := ev_idx (ev_var rfl) ev_cst rfl
  have c1 : evE (callN P (n + 100)) (.cmp .NotEq (.idx (.var 10) (.cst (.int 0))) (.cst (.str (Str.ofString "told")))) (sP g most o5 o6 o8 o9 (some (tD (.tup (polV g)))) o11 o12 o13) H = .ok (.bl false) H := ev_cmp (ev_idx (ev_var rfl) ev_cst rfl) ev_cst (ne_same (v := .str (Str.ofString "told")) (by decide +kernel) (by decide +kernel))
  have c2 : evE (callN P (n + 100)) (.not_ (.isin (.idx (.var 10) (.cst (.int 1))) [.tuple])) (sP g most o5 o6 o8 o9 (some (tD (.tup (polV g)))) o11 o12 o13) H = .ok (.bl false) H := ev_not (c := true) (ev_isin s1 rfl)
  have c3 : evE (callN P (n + 100)) (.cmp .NotEq (.bi .len (.cons (.idx (.var 10) (.cst (.int 1))) .nil)) (.bin .Add (.bin .Mult (.cst (.int 3)) (.var 2)) (.cst (.int 1)))) (sP g most o5 o6 o8 o9 (some (tD (.tup (polV g)))) o11 o12 o13) H = .ok (.bl false) H := by
    refine ev_cmp (x := .int ((polV g).length : Nat)) (y := .int (3 * (g : Nat) + 1)) (ev_bi1 s1 rfl) (ev_bin (op := .Add) (ev_bin (op := .Mult) ev_cst (ev_var rfl) (mul_sm (by decide))) ev_cst rfl) ?_
    show some (!decide (((polV g).length : Int) = 3 * (g : Nat) + 1)) = _
    rw [hl, decide_eq_true (by omega)]; rfl
  have c4 : evE (callN P (n + 100)) (.not_ (.bi .all (.cons (.comp (.call 38 (.cons (.var 15) .nil)) (.v 15) (.seq (.idx (.var 10) (.cst (.int 1)))) .absent [15]) .nil))) (sP g most o5 o6 o8 o9 (some (tD (.tup (polV g)))) o11 o12 o13) H = .ok (.bl false) H := by
    have ei : evI (callN P (n + 100)) (.seq (.idx (.var 10) (.cst (.int 1)))) (sP g most o5 o6 o8 o9 (some (tD (.tup (polV g)))) o11 o12 o13) H = .ok ⟨polV g, []⟩ H := by
      simp only [evI, s1, ERes.bind, seqD, guardOf]
    have ec := compF_pure (fe := evE (callN P (n + 100)) (.call 38 (.cons (.var 15) .nil))) (fc := condR true (evE (callN P (n + 100)) .absent)) (t := .v 15) (g := []) (σ := sP g most o5 o6 o8 o9 (some (tD (.tup (polV g)))) o11 o12 o13) (h := H) rfl (fun _ => .bl true) (fun _ => true) (xs := polV g) (fun x hx => ⟨_, rfl, rfl, fun _ => (ev_c1 (ev_var rfl)).trans (ha x hx (n + 20) H)⟩)
    refine ev_not (c := true) (ev_bi1 (ev_compS ei (by rw [hl]; unfold line; omega) ec) ?_)
    rw [List.filter_eq_self.mpr (fun _ _ => rfl)]
    simp only [biF, lstD, Option.bind_some]
    rw [allB_map (fun _ => true)]
    simp
  rw [ifF (P := ⟨callN P (n + 100), P.sub⟩) (h' := H) (by rw [ev_or c1, if_neg (by simp), ev_or c2, if_neg (by simp), ev_or c3, if_neg (by simp)]; exact c4)]
  simp only [ES]
theorem pow_loop : ∀ (m i : Nat) (o5 : Option D), (i = 0 → True) → ∃ o5', (o5 = none → o5' = none) ∧ forF (evSs ⟨callN P (n + 100), P.sub⟩ L_law_2) (.v 5) [] (natD (List.range' i m)) (sP g most o5 o6 o8 o9 (some (tD (.tup (polV g)))) (some (.int ((12 ^ i * factN g : Nat) : Int))) o12 o13) H = .ok (.nx (sP g most o5' o6 o8 o9 (some (tD (.tup (polV g)))) (some (.int ((12 ^ (i + m) * factN g : Nat) : Int))) o12 o13)) H := by
  intro m
  induction m with
  | zero => intro i o5 _; exact ⟨o5, id, forF_nil rfl⟩
  | succ m ih =>
    intro i o5 _
    obtain ⟨o5', h5, ih⟩ := ih (i + 1) none (fun _ => trivial)
    refine ⟨o5', fun _ => h5 rfl, ?_⟩
    rw [List.range'_succ, natD, List.map_cons, show i + (m + 1) = i + 1 + m by omega]
    refine (forF_cons (xs := natD (List.range' (i + 1) m)) rfl rfl ?_).trans ih
    unfold L_law_2
    refine (seqN (asgV (d := .int ((12 ^ (i + 1) * factN g : Nat) : Int)) (ev_bin (op := .Mult) ev_cst (ev_var rfl) ?_))).trans ?_
    · rw [mul_sm (by decide)]
      congr 2
      rw [Nat.pow_succ, Int.natCast_mul, Int.natCast_mul, Int.natCast_mul]
      have : (12 : Int) * (((12 ^ i : Nat) : Int) * (factN g : Nat)) = ((12 ^ i : Nat) : Int) * ((12 : Nat) : Int) * (factN g : Nat) := by
        rw [← Int.mul_assoc, Int.mul_comm 12]; rfl
      exact this
    · simp only [ES]; all_goals rfl
theorem last_if (hg : g ≤ 6) {A : CSs} : evS ⟨callN P (n + 100), P.sub⟩ (.ifs (.cmp .NotEq (.idx (.idx (.var 10) (.cst (.int 1))) (.neg (.cst (.int 1)))) (.tup (.cons (.cst (.int 1)) (.cons (.var 11) .nil)))) A .nil) (sP g most o5 o6 o8 o9 (some (tD (.tup (polV g)))) (some (.int ((12 ^ g * factN g : Nat) : Int))) o12 o13) H = .ok (.nx (sP g most o5 o6 o8 o9 (some (tD (.tup (polV g)))) (some (.int ((12 ^ g * factN g : Nat) : Int))) o12 o13)) H := by
  obtain ⟨hl, _, hb⟩ := polC_at hg
  have c : evE (callN P (n + 100)) (.cmp .NotEq (.idx (.idx (.var 10) (.cst (.int 1))) (.neg (.cst (.int 1)))) (.tup (.cons (.cst (.int 1)) (.cons (.var 11) .nil)))) (sP g most o5 o6 o8 o9 (some (tD (.tup (polV g)))) (some (.int ((12 ^ g * factN g : Nat) : Int))) o12 o13) H = .ok (.bl false) H := by
    refine ev_cmp (x := .tup [.int 1, .int ((12 ^ g * factN g : Nat) : Int)]) (ev_idx (ev_idx (x := tD (.tup (polV g))) (z := .tup (polV g)) (ev_var rfl) ev_cst rfl) (ev_neg ev_cst) ?_) (ev_t2 ev_cst (ev_var rfl)) (ne_same rfl (by simp [D.dep, D.deps]))
    simp only [idxF]
    rw [show (-(1 : Int)) = -1 from rfl, atD_last hl, hb]
  rw [ifF (P := ⟨callN P (n + 100), P.sub⟩) c]
  simp only [ES]
end
theorem val_loop {n most g : Nat} {rs : List (List Int)} (ok : RowsOk rs most) (hm : most = 20 ∨ most = 40) (hg : g ≤ 6) {ns : List D} {s t : Int} {Y : Hc} {o5 o8 o9 o11 o12 o13 : Option D} : ∀ (ks : List Nat), (∀ k ∈ ks, k < 3 * g + 3) → ∀ o6 : Option D, ∃ o6', forF (evSs ⟨callN P (n + 100), P.sub⟩ L_law_3) (.v 6) [] (natD ks) (sP g most o5 o6 o8 o9 (some (tD (.tup (polV g)))) o11 o12 o13) (HX ns s t (X0 rs ++ Y)) = .ok (.nx (sP g most o5 o6' o8 o9 (some (tD (.tup (polV g)))) o11 o12 o13)) (HX ns s t (X0 rs ++ Y)) := by
  intro ks
  induction ks with
  | nil => intro _ o6; exact ⟨o6, forF_nil rfl⟩
  | cons k ks ih =>
    intro hk o6
    have hk1 := hk k (by simp)
    obtain ⟨o6', ih⟩ := ih (fun x hx => hk x (List.mem_cons_of_mem _ hx)) (some (.int (k : Nat)))
    refine ⟨o6', ?_⟩
    rw [natD, List.map_cons]
    refine (forF_cons (xs := natD ks) rfl rfl ?_).trans ih
    obtain ⟨v, ⟨v1, v2⟩, e1, e2⟩ := polK_at hg hk1
    rw [pv_at (by omega) hg hm] at e2
    have c1 : evE (callN P (n + 100)) (.cmp .LtE (.var 6) (.var 3)) (sP g most o5 (some (.int (k : Nat))) o8 o9 (some (tD (.tup (polV g)))) o11 o12 o13) (HX ns s t (X0 rs ++ Y)) = .ok (.bl true) (HX ns s t (X0 rs ++ Y)) := ev_cmp (ev_var rfl) (ev_var rfl) (by rw [le_int, decide_eq_true (by omega)])
    have r1 : evE (callN P (n + 100)) (.call 45 (.cons (.idx (.var 10) (.cst (.int 1))) (.cons (.var 6) .nil))) (sP g most o5 (some (.int (k : Nat))) o8 o9 (some (tD (.tup (polV g)))) o11 o12 o13) (HX ns s t (X0 rs ++ Y)) = .ok v (HX ns s t (X0 rs ++ Y)) := (ev_c2 (ev_idx (ev_var rfl) ev_cst rfl) (ev_var rfl)).trans (e1 (n + 20) _)
    have r3 : evE (callN P (n + 100)) (.idx (.idx (.var 4) (.var 2)) (.var 6)) (sP g most o5 (some (.int (k : Nat))) o8 o9 (some (tD (.tup (polV g)))) o11 o12 o13) (HX ns s t (X0 rs ++ Y)) = .ok (.int ((pR most g).getD k 0)) (HX ns s t (X0 rs ++ Y)) := ev_rowk ok (by omega) (by omega) (ev_var rfl) (ev_var rfl) (ev_var rfl)
    have r4 : evE (callN P (n + 100)) (.bin .Mult (.idx (.idx (.var 4) (.var 2)) (.var 6)) (.bin .Add (.var 6) (.cst (.int 1)))) (sP g most o5 (some (.int (k : Nat))) o8 o9 (some (tD (.tup (polV g)))) o11 o12 o13) (HX ns s t (X0 rs ++ Y)) = .ok (.int ((pR most g).getD k 0 * ((k : Nat) + 1))) (HX ns s t (X0 rs ++ Y)) := ev_bin (op := .Mult) r3 (ev_bin (op := .Add) (ev_var rfl) ev_cst rfl) (mul_smr (by omega))
    have r5 : evE (callN P (n + 100)) (.call 41 (.cons (.bin .Mult (.cst (.int 2)) (.var 6)) (.cons (.var 6) .nil))) (sP g most o5 (some (.int (k : Nat))) o8 o9 (some (tD (.tup (polV g)))) o11 o12 o13) (HX ns s t (X0 rs ++ Y)) = .ok (.int (choN (2 * k) k : Nat)) (HX ns s t (X0 rs ++ Y)) := (ev_c2 (x := .int ((2 * k : Nat) : Int)) (ev_bin (op := .Mult) ev_cst (ev_var rfl) (by rw [mul_sm (by decide)]; rfl)) (ev_var rfl)).trans (ch41L (n := n + 98) _ _ _ (by omega) (by omega))
    have c2 : evE (callN P (n + 100)) (.cmp .NotEq (.call 45 (.cons (.idx (.var 10) (.cst (.int 1))) (.cons (.var 6) .nil))) (.call 34 (.cons (.bin .Mult (.idx (.idx (.var 4) (.var 2)) (.var 6)) (.bin .Add (.var 6) (.cst (.int 1)))) (.cons (.call 41 (.cons (.bin .Mult (.cst (.int 2)) (.var 6)) (.cons (.var 6) .nil))) .nil)))) (sP g most o5 (some (.int (k : Nat))) o8 o9 (some (tD (.tup (polV g)))) o11 o12 o13) (HX ns s t (X0 rs ++ Y)) = .ok (.bl false) (HX ns s t (X0 rs ++ Y)) := ev_cmp r1 ((ev_c2 r4 r5).trans (e2 (n + 20) _)) (ne_same v1 v2)
    unfold L_law_3
    show evSs _ _ (sP g most o5 (some (.int (k : Nat))) o8 o9 (some (tD (.tup (polV g)))) o11 o12 o13) _ = _
    rw [seqN (σ' := sP g most o5 (some (.int (k : Nat))) o8 o9 (some (tD (.tup (polV g)))) o11 o12 o13) (h' := HX ns s t (X0 rs ++ Y)) (by rw [ifF (P := ⟨callN P (n + 100), P.sub⟩) (by rw [ev_and c1, if_pos rfl]; exact c2)]; simp only [ES])]
    simp only [ES]; all_goals rfl
theorem pol_part {n most g k : Nat} {rs : List (List Int)} (ok : RowsOk rs most) (hm : most = 20 ∨ most = 40) (hg : g ≤ 6) {ns : List D} {s t : Int} {Y : Hc} {o8 o9 : Option D} {rest : CSs} :
    ∃ (o6 o10 o11 : Option D), evSs ⟨callN P (n + 100), P.sub⟩ (.cons (.asg (.v 10) (.call 43 (.cons (.cst (.int 4)) (.cons (.var 2) (.cons (.cst .non) .nil))))) (.cons (.ifs (.or_ (.cmp .NotEq (.idx (.var 10) (.cst (.int 0))) (.cst (.str (Str.ofString "told")))) (.or_ (.not_ (.isin (.idx (.var 10) (.cst (.int 1))) [.tuple])) (.or_ (.cmp .NotEq (.bi .len (.cons (.idx (.var 10) (.cst (.int 1))) .nil)) (.bin .Add (.bin .Mult (.cst (.int 3)) (.var 2)) (.cst (.int 1)))) (.not_ (.bi .all (.cons (.comp (.call 38 (.cons (.var 15) .nil)) (.v 15) (.seq (.idx (.var 10) (.cst (.int 1)))) .absent [15]) .nil)))))) (.cons (.ret (.cst (.bl false))) .nil) .nil) (.cons (.asg (.v 11) (.call 39 (.cons (.var 2) .nil))) (.cons (.for_ (.v 5) (.rng1 (.var 2)) L_law_2) (.cons (.ifs (.cmp .NotEq (.idx (.idx (.var 10) (.cst (.int 1))) (.neg (.cst (.int 1)))) (.tup (.cons (.cst (.int 1)) (.cons (.var 11) .nil)))) (.cons (.ret (.cst (.bl false))) .nil) .nil) (.cons (.for_ (.v 6) (.rng1 (.bin .Add (.bin .Mult (.cst (.int 3)) (.var 2)) (.cst (.int 3)))) L_law_3) rest)))))) (sP g most none (some (.int (k : Nat))) o8 o9 none none none none) (HX ns s t (X0 rs ++ Y)) = evSs ⟨callN P (n + 100), P.sub⟩ rest (sP g most none o6 o8 o9 o10 o11 none none) (HX ns s t (X0 rs ++ Y)) := by
  let H := HX ns s t (X0 rs ++ Y)
  obtain ⟨o5', h5, ep⟩ := pow_loop (n := n) (most := most) (g := g) (o6 := some (.int (k : Nat))) (o8 := o8) (o9 := o9) (o12 := none) (o13 := none) (H := H) g 0 none (fun _ => trivial)
  rw [h5 rfl, Nat.zero_add, Nat.pow_zero, Nat.one_mul] at ep
  obtain ⟨o6', ev⟩ := val_loop (n := n) ok hm hg (ns := ns) (s := s) (t := t) (Y := Y) (o5 := none) (o8 := o8) (o9 := o9) (o11 := some (.int ((12 ^ g * factN g : Nat) : Int))) (o12 := none) (o13 := none) (List.range (3 * g + 3)) (fun k hk => List.mem_range.mp hk) (some (.int (k : Nat)))
  refine ⟨o6', some (tD (.tup (polV g))), some (.int ((12 ^ g * factN g : Nat) : Int)), ?_⟩
  have a1 : evS ⟨callN P (n + 100), P.sub⟩ (.asg (.v 10) (.call 43 (.cons (.cst (.int 4)) (.cons (.var 2) (.cons (.cst .non) .nil))))) (sP g most none (some (.int (k : Nat))) o8 o9 none none none none) H = .ok (.nx (sP g most none (some (.int (k : Nat))) o8 o9 (some (tD (.tup (polV g)))) none none none)) H := asgV (i := 10) ((ev_c3 ev_cst (ev_var rfl) ev_cst).trans (told_pol (n := n + 49) hg))
  have a3 : evS ⟨callN P (n + 100), P.sub⟩ (.asg (.v 11) (.call 39 (.cons (.var 2) .nil))) (sP g most none (some (.int (k : Nat))) o8 o9 (some (tD (.tup (polV g)))) none none none) H = .ok (.nx (sP g most none (some (.int (k : Nat))) o8 o9 (some (tD (.tup (polV g)))) (some (.int (factN g : Nat))) none none)) H := asgV (i := 11) (((ev_c1 (C := callN P (n + 100)) (h := H) (x := .int (g : Nat)) (ev_var rfl)).trans (run_fact (P := P) (i := 39) d41_39 (n := n + 99) (m := g) (h := H) (by omega))))
  have a4 : evS ⟨callN P (n + 100), P.sub⟩ (.for_ (.v 5) (.rng1 (.var 2)) L_law_2) (sP g most none (some (.int (k : Nat))) o8 o9 (some (tD (.tup (polV g)))) (some (.int (factN g : Nat))) none none) H = .ok (.nx (sP g most none (some (.int (k : Nat))) o8 o9 (some (tD (.tup (polV g)))) (some (.int ((12 ^ g * factN g : Nat) : Int))) none none)) H := by
    have ea : evE (callN P (n + 100)) (.var 2) (sP g most none (some (.int (k : Nat))) o8 o9 (some (tD (.tup (polV g)))) (some (.int (factN g : Nat))) none none) H = .ok (.int (g : Nat)) H := ev_var rfl
    rw [forR1 (P := ⟨callN P (n + 100), P.sub⟩) ea (smallI_nat (by omega)), Int.toNat_natCast, rngD_zero, List.range_eq_range']
    exact ep
  have a6 : evS ⟨callN P (n + 100), P.sub⟩ (.for_ (.v 6) (.rng1 (.bin .Add (.bin .Mult (.cst (.int 3)) (.var 2)) (.cst (.int 3)))) L_law_3) (sP g most none (some (.int (k : Nat))) o8 o9 (some (tD (.tup (polV g)))) (some (.int ((12 ^ g * factN g : Nat) : Int))) none none) H = .ok (.nx (sP g most none o6' o8 o9 (some (tD (.tup (polV g)))) (some (.int ((12 ^ g * factN g : Nat) : Int))) none none)) H := by
    have ea : evE (callN P (n + 100)) (.bin .Add (.bin .Mult (.cst (.int 3)) (.var 2)) (.cst (.int 3))) (sP g most none (some (.int (k : Nat))) o8 o9 (some (tD (.tup (polV g)))) (some (.int ((12 ^ g * factN g : Nat) : Int))) none none) H = .ok (.int ((3 * g + 3 : Nat) : Int)) H := ev_bin (op := .Add) (x := .int ((3 * g : Nat) : Int)) (ev_bin (op := .Mult) ev_cst (ev_var rfl) (by rw [mul_sm (by decide)]; rfl)) ev_cst rfl
    rw [forR1 (P := ⟨callN P (n + 100), P.sub⟩) ea (smallI_nat (by omega)), Int.toNat_natCast, rngD_zero]
    exact ev
  rw [seqN a1, seqN (pol_if hg), seqN a3, seqN a4, seqN (last_if hg), seqN a6]

/-! ### Bernoulli's numbers -/
section
variable {n most g : Nat} {o5 o6 o8 o9 o10 o11 o12 : Option D} {H : Hc}
theorem smo_if {h : Nat} (h1 : 1 ≤ h) (h6 : h ≤ 6) {A : CSs} : evS ⟨callN P (n + 100), P.sub⟩ (.ifs (.not_ (.call 32 (.cons (.call 43 (.cons (.cst (.int 5)) (.cons (.var 9) (.cons (.cst .non) .nil)))) (.cons (.tup (.cons (.cst (.str (Str.ofString "told"))) (.cons (.call 34 (.cons (.neg (.idx (.var 12) (.cst (.int 0)))) (.cons (.bin .Mult (.bin .Mult (.idx (.var 12) (.cst (.int 1))) (.cst (.int 2))) (.var 9)) .nil))) .nil))) .nil)))) A .nil) (sP g most o5 o6 o8 (some (.int (h : Nat))) o10 o11 (some (qD (berV h))) none) H = .ok (.nx (sP g most o5 o6 o8 (some (.int (h : Nat))) o10 o11 (some (qD (berV h))) none)) H := by
  obtain ⟨_, _, e3, _, _⟩ := smo_at h1 h6
  have r0 : evE (callN P (n + 100)) (.idx (.var 12) (.cst (.int 0))) (sP g most o5 o6 o8 (some (.int (h : Nat))) o10 o11 (some (qD (berV h))) none) H = .ok (.int (berV h).1) H := ev_idx (x := qD (berV h)) (ev_var rfl) ev_cst rfl
  have r1 : evE (callN P (n + 100)) (.idx (.var 12) (.cst (.int 1))) (sP g most o5 o6 o8 (some (.int (h : Nat))) o10 o11 (some (qD (berV h))) none) H = .ok (.int (berV h).2) H := ev_idx (x := qD (berV h)) (ev_var rfl) ev_cst rfl
  have r2 : evE (callN P (n + 100)) (.bin .Mult (.bin .Mult (.idx (.var 12) (.cst (.int 1))) (.cst (.int 2))) (.var 9)) (sP g most o5 o6 o8 (some (.int (h : Nat))) o10 o11 (some (qD (berV h))) none) H = .ok (.int ((berV h).2 * 2 * (h : Nat))) H := ev_bin (op := .Mult) (ev_bin (op := .Mult) r1 ev_cst (mul_smr (by decide))) (ev_var rfl) (mul_smr (by omega))
  have c : evE (callN P (n + 100)) (.not_ (.call 32 (.cons (.call 43 (.cons (.cst (.int 5)) (.cons (.var 9) (.cons (.cst .non) .nil)))) (.cons (.tup (.cons (.cst (.str (Str.ofString "told"))) (.cons (.call 34 (.cons (.neg (.idx (.var 12) (.cst (.int 0)))) (.cons (.bin .Mult (.bin .Mult (.idx (.var 12) (.cst (.int 1))) (.cst (.int 2))) (.var 9)) .nil))) .nil))) .nil)))) (sP g most o5 o6 o8 (some (.int (h : Nat))) o10 o11 (some (qD (berV h))) none) H = .ok (.bl false) H := not_same (v := qD (smoV h)) ((ev_c3 ev_cst (ev_var rfl) ev_cst).trans (told_smo (n := n + 49) h1 h6)) ((ev_c2 (ev_neg r0) r2).trans (e3 (n + 50) H)) (same_smo (n := n + 49) h1 h6)
  rw [ifF (P := ⟨callN P (n + 100), P.sub⟩) c]
  simp only [ES]
theorem c_mal {C : Caller} {σ : CSt} {H : Hc} {a b c : CE} {x y z : D} (ka : evE C a σ H = .ok x H) (kb : evE C b σ H = .ok y H) (kc : evE C c σ H = .ok z H) (hc : C 43 [x, y, z] H = .ok mD H) : evE C (.cmp .NotEq (.idx (.call 43 (.cons a (.cons b (.cons c .nil)))) (.cst (.int 0))) (.cst (.str (Str.ofString "malformed")))) σ H = .ok (.bl false) H :=
  ev_cmp (ev_idx ((ev_c3 ka kb kc).trans hc) ev_cst rfl) ev_cst (ne_same (v := .str (Str.ofString "malformed")) (by decide +kernel) (by decide +kernel))
theorem mal_at {f : Nat} {args : List D} (e : runs P 40 f args mD = true) {n : Nat} {H : Hc} : callN P (n + 100) f args H = .ok mD H := callN_up (runs_at nr41 e H) (by omega)
theorem turn4 (hg : g ≤ 6) {b : D} (hb : b ∈ bads4) : evSs ⟨callN P (n + 100), P.sub⟩ L_law_4 (sP g most o5 o6 o8 o9 o10 o11 o12 (some b)) H = .ok (.nx (sP g most o5 o6 o8 o9 o10 o11 o12 (some b))) H := by
  have e := List.all_eq_true.mp bad_4 b hb
  simp only [Bool.and_eq_true] at e
  obtain ⟨⟨⟨e0, e1⟩, e2⟩, e3⟩ := e
  have e0 := List.all_eq_true.mp e0 g (List.mem_range.mpr (by omega))
  have c0 : evE (callN P (n + 100)) (.cmp .NotEq (.idx (.call 43 (.cons (.cst (.int 0)) (.cons (.var 2) (.cons (.var 13) .nil)))) (.cst (.int 0))) (.cst (.str (Str.ofString "malformed")))) (sP g most o5 o6 o8 o9 o10 o11 o12 (some b)) H = .ok (.bl false) H := c_mal ev_cst (ev_var rfl) (ev_var rfl) (mal_at e0)
  have c1 : evE (callN P (n + 100)) (.cmp .NotEq (.idx (.call 43 (.cons (.cst (.int 1)) (.cons (.cst (.int 1)) (.cons (.var 13) .nil)))) (.cst (.int 0))) (.cst (.str (Str.ofString "malformed")))) (sP g most o5 o6 o8 o9 o10 o11 o12 (some b)) H = .ok (.bl false) H := c_mal ev_cst ev_cst (ev_var rfl) (mal_at e1)
  have c2 : evE (callN P (n + 100)) (.cmp .NotEq (.idx (.call 43 (.cons (.cst (.int 2)) (.cons (.cst (.int 1)) (.cons (.var 13) .nil)))) (.cst (.int 0))) (.cst (.str (Str.ofString "malformed")))) (sP g most o5 o6 o8 o9 o10 o11 o12 (some b)) H = .ok (.bl false) H := c_mal ev_cst ev_cst (ev_var rfl) (mal_at e2)
  have c3 : evE (callN P (n + 100)) (.cmp .NotEq (.idx (.call 43 (.cons (.cst (.int 3)) (.cons (.var 13) (.cons (.cst .non) .nil)))) (.cst (.int 0))) (.cst (.str (Str.ofString "malformed")))) (sP g most o5 o6 o8 o9 o10 o11 o12 (some b)) H = .ok (.bl false) H := c_mal ev_cst (ev_var rfl) ev_cst (mal_at e3)
  unfold L_law_4
  rw [seqN (σ' := sP g most o5 o6 o8 o9 o10 o11 o12 (some b)) (h' := H) (by rw [ifF (P := ⟨callN P (n + 100), P.sub⟩) (by rw [ev_or c0, if_neg (by simp), ev_or c1, if_neg (by simp), ev_or c2, if_neg (by simp)]; exact c3)]; simp only [ES])]
  simp only [ES]
theorem turn5 {b : D} (hb : b ∈ bads5) : evSs ⟨callN P (n + 100), P.sub⟩ L_law_5 (sP g most o5 o6 o8 o9 o10 o11 o12 (some b)) H = .ok (.nx (sP g most o5 o6 o8 o9 o10 o11 o12 (some b))) H := by
  have e := List.all_eq_true.mp bad_5 b hb
  simp only [Bool.and_eq_true] at e
  obtain ⟨⟨e0, e1⟩, e2⟩ := e
  have c0 : evE (callN P (n + 100)) (.cmp .NotEq (.idx (.call 43 (.cons (.cst (.int 0)) (.cons (.var 13) (.cons (.cst (.int 1)) .nil)))) (.cst (.int 0))) (.cst (.str (Str.ofString "malformed")))) (sP g most o5 o6 o8 o9 o10 o11 o12 (some b)) H = .ok (.bl false) H := c_mal ev_cst (ev_var rfl) ev_cst (mal_at e0)
  have c1 : evE (callN P (n + 100)) (.cmp .NotEq (.idx (.call 43 (.cons (.cst (.int 4)) (.cons (.var 13) (.cons (.cst .non) .nil)))) (.cst (.int 0))) (.cst (.str (Str.ofString "malformed")))) (sP g most o5 o6 o8 o9 o10 o11 o12 (some b)) H = .ok (.bl false) H := c_mal ev_cst (ev_var rfl) ev_cst (mal_at e1)
  have c2 : evE (callN P (n + 100)) (.cmp .NotEq (.idx (.call 43 (.cons (.cst (.int 5)) (.cons (.var 13) (.cons (.cst .non) .nil)))) (.cst (.int 0))) (.cst (.str (Str.ofString "malformed")))) (sP g most o5 o6 o8 o9 o10 o11 o12 (some b)) H = .ok (.bl false) H := c_mal ev_cst (ev_var rfl) ev_cst (mal_at e2)
  unfold L_law_5
  rw [seqN (σ' := sP g most o5 o6 o8 o9 o10 o11 o12 (some b)) (h' := H) (by rw [ifF (P := ⟨callN P (n + 100), P.sub⟩) (by rw [ev_or c0, if_neg (by simp), ev_or c1, if_neg (by simp)]; exact c2)]; simp only [ES])]
  simp only [ES]
theorem bad_loop {body : CSs} {L : List D} (hb : ∀ b ∈ L, evSs ⟨callN P (n + 100), P.sub⟩ body (sP g most o5 o6 o8 o9 o10 o11 o12 (some b)) H = .ok (.nx (sP g most o5 o6 o8 o9 o10 o11 o12 (some b))) H) : ∀ (xs : List D), (∀ x ∈ xs, x ∈ L) → ∀ o13, ∃ o13', forF (evSs ⟨callN P (n + 100), P.sub⟩ body) (.v 13) [] xs (sP g most o5 o6 o8 o9 o10 o11 o12 o13) H = .ok (.nx (sP g most o5 o6 o8 o9 o10 o11 o12 o13')) H := by
  intro xs
  induction xs with
  | nil => intro _ o13; exact ⟨o13, forF_nil rfl⟩
  | cons x xs ih =>
    intro hx o13
    obtain ⟨o13', ih⟩ := ih (fun y hy => hx y (List.mem_cons_of_mem _ hy)) (some x)
    exact ⟨o13', (forF_cons rfl rfl (hb x (hx x (by simp)))).trans ih⟩
theorem last_part (hg : g ≤ 6) : evSs ⟨callN P (n + 100), P.sub⟩ (.cons (.for_ (.v 13) (.seq (.lst (.cons (.neg (.cst (.int 1))) (.cons (.cst (.int 41)) (.cons (.cst .non) (.cons (.cst (.bl true)) (.cons (.cst (.str (Str.ofString "1"))) .nil))))))) L_law_4) (.cons (.for_ (.v 13) (.seq (.lst (.cons (.neg (.cst (.int 1))) (.cons (.cst (.int 7)) (.cons (.cst .non) (.cons (.cst (.bl true)) (.cons (.cst (.str (Str.ofString "1"))) .nil))))))) L_law_5) (.cons (.ret (.cmp .Eq (.lst (.cons (.idx (.call 43 (.cons (.cst (.int 1)) (.cons (.cst (.int 0)) (.cons (.cst (.int 3)) .nil)))) (.cst (.int 0))) (.cons (.idx (.call 43 (.cons (.cst (.int 2)) (.cons (.cst (.int 0)) (.cons (.cst (.int 3)) .nil)))) (.cst (.int 0))) (.cons (.idx (.call 43 (.cons (.cst (.int 5)) (.cons (.cst (.int 0)) (.cons (.cst .non) .nil)))) (.cst (.int 0))) .nil)))) (.bin .Mult (.lst (.cons (.cst (.str (Str.ofString "malformed"))) .nil)) (.cst (.int 3))))) .nil))) (sP g most o5 o6 o8 o9 o10 o11 o12 none) H = .ok (.rt (.bl true)) H := by
  obtain ⟨a13, l4⟩ := bad_loop (n := n) (most := most) (g := g) (o5 := o5) (o6 := o6) (o8 := o8) (o9 := o9) (o10 := o10) (o11 := o11) (o12 := o12) (H := H) (fun b hb => turn4 (n := n) hg hb) bads4 (fun x hx => hx) none
  obtain ⟨b13, l5⟩ := bad_loop (n := n) (most := most) (g := g) (o5 := o5) (o6 := o6) (o8 := o8) (o9 := o9) (o10 := o10) (o11 := o11) (o12 := o12) (H := H) (fun b hb => turn5 (n := n) hb) bads5 (fun x hx => hx) a13
  have f4 : evS ⟨callN P (n + 100), P.sub⟩ (.for_ (.v 13) (.seq (.lst (.cons (.neg (.cst (.int 1))) (.cons (.cst (.int 41)) (.cons (.cst .non) (.cons (.cst (.bl true)) (.cons (.cst (.str (Str.ofString "1"))) .nil))))))) L_law_4) (sP g most o5 o6 o8 o9 o10 o11 o12 none) H = .ok (.nx (sP g most o5 o6 o8 o9 o10 o11 o12 a13)) H := by
    have el : evE (callN P (n + 100)) (.lst (.cons (.neg (.cst (.int 1))) (.cons (.cst (.int 41)) (.cons (.cst .non) (.cons (.cst (.bl true)) (.cons (.cst (.str (Str.ofString "1"))) .nil)))))) (sP g most o5 o6 o8 o9 o10 o11 o12 none) H = .ok (.lst bads4) H := ev_lst (ev_cons (ev_neg ev_cst) (ev_cons ev_cst (ev_cons ev_cst (ev_cons ev_cst (ev_cons ev_cst ev_nil)))))
    rw [forS (P := ⟨callN P (n + 100), P.sub⟩) (h' := H) (d := .lst bads4) (xs := bads4) (g := []) el rfl rfl]
    exact l4
  have f5 : evS ⟨callN P (n + 100), P.sub⟩ (.for_ (.v 13) (.seq (.lst (.cons (.neg (.cst (.int 1))) (.cons (.cst (.int 7)) (.cons (.cst .non) (.cons (.cst (.bl true)) (.cons (.cst (.str (Str.ofString "1"))) .nil))))))) L_law_5) (sP g most o5 o6 o8 o9 o10 o11 o12 a13) H = .ok (.nx (sP g most o5 o6 o8 o9 o10 o11 o12 b13)) H := by
    have el : evE (callN P (n + 100)) (.lst (.cons (.neg (.cst (.int 1))) (.cons (.cst (.int 7)) (.cons (.cst .non) (.cons (.cst (.bl true)) (.cons (.cst (.str (Str.ofString "1"))) .nil)))))) (sP g most o5 o6 o8 o9 o10 o11 o12 a13) H = .ok (.lst bads5) H := ev_lst (ev_cons (ev_neg ev_cst) (ev_cons ev_cst (ev_cons ev_cst (ev_cons ev_cst (ev_cons ev_cst ev_nil)))))
    rw [forS (P := ⟨callN P (n + 100), P.sub⟩) (h' := H) (d := .lst bads5) (xs := bads5) (g := []) el rfl rfl]
    exact l5
  have e := bad_6
  simp only [Bool.and_eq_true] at e
  obtain ⟨⟨e0, e1⟩, e2⟩ := e
  let m : D := .str (Str.ofString "malformed")
  have hm : (D.lst [m, m, m]).hard = true := by decide +kernel
  have hd : (D.lst [m, m, m]).dep ≤ 63 := by decide +kernel
  have f6 : evS ⟨callN P (n + 100), P.sub⟩ (.ret (.cmp .Eq (.lst (.cons (.idx (.call 43 (.cons (.cst (.int 1)) (.cons (.cst (.int 0)) (.cons (.cst (.int 3)) .nil)))) (.cst (.int 0))) (.cons (.idx (.call 43 (.cons (.cst (.int 2)) (.cons (.cst (.int 0)) (.cons (.cst (.int 3)) .nil)))) (.cst (.int 0))) (.cons (.idx (.call 43 (.cons (.cst (.int 5)) (.cons (.cst (.int 0)) (.cons (.cst .non) .nil)))) (.cst (.int 0))) .nil)))) (.bin .Mult (.lst (.cons (.cst (.str (Str.ofString "malformed"))) .nil)) (.cst (.int 3))))) (sP g most o5 o6 o8 o9 o10 o11 o12 b13) H = .ok (.rt (.bl true)) H := by
    refine retE (ev_cmp (x := .lst [m, m, m]) (y := .lst [m, m, m]) (ev_lst (ev_cons (x := m) (ev_idx ((ev_c3 ev_cst ev_cst ev_cst).trans (mal_at e0)) ev_cst rfl) (ev_cons (x := m) (ev_idx ((ev_c3 ev_cst ev_cst ev_cst).trans (mal_at e1)) ev_cst rfl) (ev_cons (x := m) (ev_idx ((ev_c3 ev_cst ev_cst ev_cst).trans (mal_at e2)) ev_cst rfl) ev_nil)))) (ev_bin (op := .Mult) (ev_lst (ev_cons ev_cst ev_nil)) ev_cst rfl) ?_)
    show eqF H (D.lst [m, m, m]) (D.lst [m, m, m]) = _
    rw [eqF_hard hm hm hd hd, decide_eq_true rfl]
  rw [seqN f4, seqN f5, seqR f6]
end

theorem rows_ok {most : Nat} : RowsOk (pRows most 22) most := ⟨pRows_len 22, fun g hg => pRows_getD 22 hg⟩
theorem turns {n most g : Nat} {rs : List (List Int)} (ok : RowsOk rs most) (hm : most = 20 ∨ most = 40) (hg : g ≤ 6) {ns : List D} : ∀ (js : List Nat) (s t : Int) (Y : Hc) (o6 : Option D), ∃ (s' t' : Int) (Y' : Hc) (o6' : Option D), forF (evSs ⟨callN P (n + 100), P.sub⟩ L_law_0) (.v 5) [] (natD js) (sP g most none o6 none none none none none none) (HX ns s t (X0 rs ++ Y)) = .ok (.nx (sP g most none o6' none none none none none none)) (HX ns s' t' (X0 rs ++ Y')) := by
  intro js
  induction js with
  | nil => intro s t Y o6; exact ⟨s, t, Y, o6, forF_nil rfl⟩
  | cons j js ih =>
    intro s t Y o6
    obtain ⟨k, s1, t1, Y1, hk, e⟩ := turn (n := n) ok hm hg (ns := ns) (s := s) (t := t) (Y := Y) (some (.int (j : Nat))) o6
    obtain ⟨s', t', Y', o6', ih⟩ := ih s1 t1 Y1 (some (.int (k : Nat)))
    refine ⟨s', t', Y', o6', ?_⟩
    rw [natD, List.map_cons]
    exact (forF_cons (xs := natD js) rfl rfl e).trans ih
theorem law_rows {n most g : Nat} (hm : most = 20 ∨ most = 40) (hg : g ≤ 6) {rs : List (List Int)} (ok : RowsOk rs most) {ns : List D} {s t : Int} : ∃ h', evSs ⟨callN P (n + 100), P.sub⟩ (.cons (.for_ (.v 5) (.rng1 (.cst (.int 4))) L_law_0) (.cons (.asg (.v 6) (.call 28 (.cons (.var 1) (.cons (.bin .Add (.var 3) (.cst (.int 1))) .nil)))) (.cons (.asg (.v 8) (.cell (.comp (.cst (.int 0)) (.v 14) (.rng1 (.bin .Add (.var 6) (.cst (.int 2)))) .absent [14]))) (.cons (.for_ (.v 9) (.rng1 (.bin .Add (.bin .FloorDiv (.var 6) (.cst (.int 2))) (.cst (.int 1)))) L_law_1) (.cons (.ifs (.not_ (.call 32 (.cons (.call 43 (.cons (.cst (.int 3)) (.cons (.var 6) (.cons (.cst .non) .nil)))) (.cons (.tup (.cons (.cst (.str (Str.ofString "told"))) (.cons (.bi .tuple (.cons (.var 8) .nil)) .nil))) .nil)))) (.cons (.ret (.cst (.bl false))) .nil) .nil) (.cons (.asg (.v 10) (.call 43 (.cons (.cst (.int 4)) (.cons (.var 2) (.cons (.cst .non) .nil))))) (.cons (.ifs (.or_ (.cmp .NotEq (.idx (.var 10) (.cst (.int 0))) (.cst (.str (Str.ofString "told")))) (.or_ (.not_ (.isin (.idx (.var 10) (.cst (.int 1))) [.tuple])) (.or_ (.cmp .NotEq (.bi .len (.cons (.idx (.var 10) (.cst (.int 1))) .nil)) (.bin .Add (.bin .Mult (.cst (.int 3)) (.var 2)) (.cst (.int 1)))) (.not_ (.bi .all (.cons (.comp (.call 38 (.cons (.var 15) .nil)) (.v 15) (.seq (.idx (.var 10) (.cst (.int 1)))) .absent [15]) .nil)))))) (.cons (.ret (.cst (.bl false))) .nil) .nil) (.cons (.asg (.v 11) (.call 39 (.cons (.var 2) .nil))) (.cons (.for_ (.v 5) (.rng1 (.var 2)) L_law_2) (.cons (.ifs (.cmp .NotEq (.idx (.idx (.var 10) (.cst (.int 1))) (.neg (.cst (.int 1)))) (.tup (.cons (.cst (.int 1)) (.cons (.var 11) .nil)))) (.cons (.ret (.cst (.bl false))) .nil) .nil) (.cons (.for_ (.v 6) (.rng1 (.bin .Add (.bin .Mult (.cst (.int 3)) (.var 2)) (.cst (.int 3)))) L_law_3) (.cons (.asg (.v 9) (.bin .Add (.cst (.int 1)) (.call 28 (.cons (.var 1) (.cons (.cst (.int 6)) .nil))))) (.cons (.asg (.v 12) (.call 44 (.cons (.bin .Mult (.cst (.int 2)) (.var 9)) .nil))) (.cons (.ifs (.not_ (.call 32 (.cons (.call 43 (.cons (.cst (.int 5)) (.cons (.var 9) (.cons (.cst .non) .nil)))) (.cons (.tup (.cons (.cst (.str (Str.ofString "told"))) (.cons (.call 34 (.cons (.neg (.idx (.var 12) (.cst (.int 0)))) (.cons (.bin .Mult (.bin .Mult (.idx (.var 12) (.cst (.int 1))) (.cst (.int 2))) (.var 9)) .nil))) .nil))) .nil)))) (.cons (.ret (.cst (.bl false))) .nil) .nil) (.cons (.for_ (.v 13) (.seq (.lst (.cons (.neg (.cst (.int 1))) (.cons (.cst (.int 41)) (.cons (.cst .non) (.cons (.cst (.bl true)) (.cons (.cst (.str (Str.ofString "1"))) .nil))))))) L_law_4) (.cons (.for_ (.v 13) (.seq (.lst (.cons (.neg (.cst (.int 1))) (.cons (.cst (.int 7)) (.cons (.cst .non) (.cons (.cst (.bl true)) (.cons (.cst (.str (Str.ofString "1"))) .nil))))))) L_law_5) (.cons (.ret (.cmp .Eq (.lst (.cons (.idx (.call 43 (.cons (.cst (.int 1)) (.cons (.cst (.int 0)) (.cons (.cst (.int 3)) .nil)))) (.cst (.int 0))) (.cons (.idx (.call 43 (.cons (.cst (.int 2)) (.cons (.cst (.int 0)) (.cons (.cst (.int 3)) .nil)))) (.cst (.int 0))) (.cons (.idx (.call 43 (.cons (.cst (.int 5)) (.cons (.cst (.int 0)) (.cons (.cst .non) .nil)))) (.cst (.int 0))) .nil)))) (.bin .Mult (.lst (.cons (.cst (.str (Str.ofString "malformed"))) .nil)) (.cst (.int 3))))) .nil))))))))))))))))) (sP g most none none none none none none none none) (HX ns s t (X0 rs ++ [])) = .ok (.rt (.bl true)) h' := by
  obtain ⟨s1, t1, Y1, o6, e3⟩ := turns (n := n) ok hm hg (ns := ns) (List.range 4) s t [] none
  obtain ⟨k, s2, t2, Y2, o8, o9, hk, e4⟩ := mean_part (n := n) (g := g) ok hm (ns := ns) (s := s1) (t := t1) (Y := Y1) o6 (rest := (.cons (.asg (.v 10) (.call 43 (.cons (.cst (.int 4)) (.cons (.var 2) (.cons (.cst .non) .nil))))) (.cons (.ifs (.or_ (.cmp .NotEq (.idx (.var 10) (.cst (.int 0))) (.cst (.str (Str.ofString "told")))) (.or_ (.not_ (.isin (.idx (.var 10) (.cst (.int 1))) [.tuple])) (.or_ (.cmp .NotEq (.bi .len (.cons (.idx (.var 10) (.cst (.int 1))) .nil)) (.bin .Add (.bin .Mult (.cst (.int 3)) (.var 2)) (.cst (.int 1)))) (.not_ (.bi .all (.cons (.comp (.call 38 (.cons (.var 15) .nil)) (.v 15) (.seq (.idx (.var 10) (.cst (.int 1)))) .absent [15]) .nil)))))) (.cons (.ret (.cst (.bl false))) .nil) .nil) (.cons (.asg (.v 11) (.call 39 (.cons (.var 2) .nil))) (.cons (.for_ (.v 5) (.rng1 (.var 2)) L_law_2) (.cons (.ifs (.cmp .NotEq (.idx (.idx (.var 10) (.cst (.int 1))) (.neg (.cst (.int 1)))) (.tup (.cons (.cst (.int 1)) (.cons (.var 11) .nil)))) (.cons (.ret (.cst (.bl false))) .nil) .nil) (.cons (.for_ (.v 6) (.rng1 (.bin .Add (.bin .Mult (.cst (.int 3)) (.var 2)) (.cst (.int 3)))) L_law_3) (.cons (.asg (.v 9) (.bin .Add (.cst (.int 1)) (.call 28 (.cons (.var 1) (.cons (.cst (.int 6)) .nil))))) (.cons (.asg (.v 12) (.call 44 (.cons (.bin .Mult (.cst (.int 2)) (.var 9)) .nil))) (.cons (.ifs (.not_ (.call 32 (.cons (.call 43 (.cons (.cst (.int 5)) (.cons (.var 9) (.cons (.cst .non) .nil)))) (.cons (.tup (.cons (.cst (.str (Str.ofString "told"))) (.cons (.call 34 (.cons (.neg (.idx (.var 12) (.cst (.int 0)))) (.cons (.bin .Mult (.bin .Mult (.idx (.var 12) (.cst (.int 1))) (.cst (.int 2))) (.var 9)) .nil))) .nil))) .nil)))) (.cons (.ret (.cst (.bl false))) .nil) .nil) (.cons (.for_ (.v 13) (.seq (.lst (.cons (.neg (.cst (.int 1))) (.cons (.cst (.int 41)) (.cons (.cst .non) (.cons (.cst (.bl true)) (.cons (.cst (.str (Str.ofString "1"))) .nil))))))) L_law_4) (.cons (.for_ (.v 13) (.seq (.lst (.cons (.neg (.cst (.int 1))) (.cons (.cst (.int 7)) (.cons (.cst .non) (.cons (.cst (.bl true)) (.cons (.cst (.str (Str.ofString "1"))) .nil))))))) L_law_5) (.cons (.ret (.cmp .Eq (.lst (.cons (.idx (.call 43 (.cons (.cst (.int 1)) (.cons (.cst (.int 0)) (.cons (.cst (.int 3)) .nil)))) (.cst (.int 0))) (.cons (.idx (.call 43 (.cons (.cst (.int 2)) (.cons (.cst (.int 0)) (.cons (.cst (.int 3)) .nil)))) (.cst (.int 0))) (.cons (.idx (.call 43 (.cons (.cst (.int 5)) (.cons (.cst (.int 0)) (.cons (.cst .non) .nil)))) (.cst (.int 0))) .nil)))) (.bin .Mult (.lst (.cons (.cst (.str (Str.ofString "malformed"))) .nil)) (.cst (.int 3))))) .nil)))))))))))))
  obtain ⟨o6', o10, o11, e5⟩ := pol_part (n := n) (k := k) ok hm hg (ns := ns) (s := s2) (t := t2) (Y := Y2) (o8 := o8) (o9 := o9) (rest := (.cons (.asg (.v 9) (.bin .Add (.cst (.int 1)) (.call 28 (.cons (.var 1) (.cons (.cst (.int 6)) .nil))))) (.cons (.asg (.v 12) (.call 44 (.cons (.bin .Mult (.cst (.int 2)) (.var 9)) .nil))) (.cons (.ifs (.not_ (.call 32 (.cons (.call 43 (.cons (.cst (.int 5)) (.cons (.var 9) (.cons (.cst .non) .nil)))) (.cons (.tup (.cons (.cst (.str (Str.ofString "told"))) (.cons (.call 34 (.cons (.neg (.idx (.var 12) (.cst (.int 0)))) (.cons (.bin .Mult (.bin .Mult (.idx (.var 12) (.cst (.int 1))) (.cst (.int 2))) (.var 9)) .nil))) .nil))) .nil)))) (.cons (.ret (.cst (.bl false))) .nil) .nil) (.cons (.for_ (.v 13) (.seq (.lst (.cons (.neg (.cst (.int 1))) (.cons (.cst (.int 41)) (.cons (.cst .non) (.cons (.cst (.bl true)) (.cons (.cst (.str (Str.ofString "1"))) .nil))))))) L_law_4) (.cons (.for_ (.v 13) (.seq (.lst (.cons (.neg (.cst (.int 1))) (.cons (.cst (.int 7)) (.cons (.cst .non) (.cons (.cst (.bl true)) (.cons (.cst (.str (Str.ofString "1"))) .nil))))))) L_law_5) (.cons (.ret (.cmp .Eq (.lst (.cons (.idx (.call 43 (.cons (.cst (.int 1)) (.cons (.cst (.int 0)) (.cons (.cst (.int 3)) .nil)))) (.cst (.int 0))) (.cons (.idx (.call 43 (.cons (.cst (.int 2)) (.cons (.cst (.int 0)) (.cons (.cst (.int 3)) .nil)))) (.cst (.int 0))) (.cons (.idx (.call 43 (.cons (.cst (.int 5)) (.cons (.cst (.int 0)) (.cons (.cst .non) .nil)))) (.cst (.int 0))) .nil)))) (.bin .Mult (.lst (.cons (.cst (.str (Str.ofString "malformed"))) .nil)) (.cst (.int 3))))) .nil)))))))
  have hC : TakeOk (callN P (n + 100)) 28 ns := take_ok (P := P) (it := 28) rfl (n := n + 99)
  obtain ⟨h0, s3, t3, hh, e6⟩ := take2 (it := 28) (m := 6) (s := s2) (t := t2) (X := X0 rs ++ Y2) (e1 := .var 1) (e2 := .cst (.int 6)) (σ := sP g most none o6' o8 o9 o10 o11 none none) hC (by omega) (by omega) (ev_var rfl) ev_cst
  have h1 : 1 ≤ 1 + h0 := by omega
  have h6 : 1 + h0 ≤ 6 := by omega
  obtain ⟨_, eb, _, _, _⟩ := smo_at h1 h6
  have a3 : evS ⟨callN P (n + 100), P.sub⟩ (.for_ (.v 5) (.rng1 (.cst (.int 4))) L_law_0) (sP g most none none none none none none none none) (HX ns s t (X0 rs ++ [])) = .ok (.nx (sP g most none o6 none none none none none none)) (HX ns s1 t1 (X0 rs ++ Y1)) := by
    have ea : evE (callN P (n + 100)) (.cst (.int 4)) (sP g most none none none none none none none none) (HX ns s t (X0 rs ++ [])) = .ok (.int 4) (HX ns s t (X0 rs ++ [])) := ev_cst
    rw [forR1 (P := ⟨callN P (n + 100), P.sub⟩) ea (by decide), show (4 : Int).toNat = 4 from rfl, rngD_zero]
    exact e3
  have a14 : evS ⟨callN P (n + 100), P.sub⟩ (.asg (.v 9) (.bin .Add (.cst (.int 1)) (.call 28 (.cons (.var 1) (.cons (.cst (.int 6)) .nil))))) (sP g most none o6' o8 o9 o10 o11 none none) (HX ns s2 t2 (X0 rs ++ Y2)) = .ok (.nx (sP g most none o6' o8 (some (.int ((1 + h0 : Nat) : Int))) o10 o11 none none)) (HX ns s3 t3 (X0 rs ++ Y2)) :=
    asgV (i := 9) (ev_bin (op := .Add) (x := .int 1) (y := .int (h0 : Nat)) ev_cst e6 (by simp [binF, addF]))
  have a15 : evS ⟨callN P (n + 100), P.sub⟩ (.asg (.v 12) (.call 44 (.cons (.bin .Mult (.cst (.int 2)) (.var 9)) .nil))) (sP g most none o6' o8 (some (.int ((1 + h0 : Nat) : Int))) o10 o11 none none) (HX ns s3 t3 (X0 rs ++ Y2)) = .ok (.nx (sP g most none o6' o8 (some (.int ((1 + h0 : Nat) : Int))) o10 o11 (some (qD (berV (1 + h0)))) none)) (HX ns s3 t3 (X0 rs ++ Y2)) :=
    by
    have e12 : callN P (n + 100) 44 [.int (2 * ((1 + h0 : Nat) : Int))] (HX ns s3 t3 (X0 rs ++ Y2)) = .ok (qD (berV (1 + h0))) (HX ns s3 t3 (X0 rs ++ Y2)) := eb (n + 50) _
    exact asgV (P := ⟨callN P (n + 100), P.sub⟩) (i := 12) ((ev_c1 (C := callN P (n + 100)) (x := .int (2 * ((1 + h0 : Nat) : Int))) (ev_bin (op := .Mult) ev_cst (ev_var rfl) (mul_sm (by decide)))).trans e12)
  refine ⟨HX ns s3 t3 (X0 rs ++ Y2), ?_⟩
  rw [seqN a3]
  refine e4.trans ?_
  refine e5.trans ?_
  rw [seqN a14, seqN a15, seqN (smo_if h1 h6)]
  exact last_part (n := n) hg
theorem law_run : ∀ ns : List Int, ns.length ≤ 63 → ∃ h', callN P 200 46 [.ref 0] [.ro (ns.map D.int)] = .ok (.bl true) h' := by
  intro is hl
  obtain ⟨s, t, e1⟩ := run_state (P := P) (ia := 27) rfl (n := 198) hl
  generalize hns : is.map D.int = ns at *
  have hC : TakeOk (callN P (99 + 100)) 28 ns := take_ok (P := P) (it := 28) rfl (n := 198)
  let S1 := sL (some (.ref 1)) none none none none none none none none none none none none
  obtain ⟨g, s1, t1, hg, e2⟩ := take2 (it := 28) (m := 7) (s := s) (t := t) (X := []) (e1 := .var 1) (e2 := .cst (.int 7)) (σ := S1) hC (by omega) (by omega) (ev_var rfl) ev_cst
  obtain ⟨most, s2, t2, hm, e3⟩ := menu (it := 28) (s := s1) (t := t1) (X := []) (e1 := .var 1) (σ := S1) hC [20, 20, 40] (by decide) (by decide) (fun s t X => ev_var rfl) (.cons (.cst (.int 20)) (.cons (.cst (.int 20)) (.cons (.cst (.int 40)) .nil))) (fun h => ev_cons ev_cst (ev_cons ev_cst (ev_cons ev_cst ev_nil))) 3 rfl
  have hm' : most = 20 ∨ most = 40 := by
    simp only [List.mem_cons, List.not_mem_nil, or_false] at hm
    omega
  have hg' : g ≤ 6 := by omega
  let S2 := sL (some (.ref 1)) (some (.int (g : Nat))) (some (.int (most : Nat))) none none none none none none none none none none
  have a0 : evS ⟨callN P (99 + 100), P.sub⟩ (.asg (.v 1) (.call 27 (.cons (.var 0) .nil))) (sL none none none none none none none none none none none none none) [.ro ns] = .ok (.nx S1) (HX ns s t []) := asgV (i := 1) ((ev_c1 (ev_var rfl)).trans e1)
  have a1 : evS ⟨callN P (99 + 100), P.sub⟩ (.asg (.t (.cons (.v 2) (.cons (.v 3) .nil))) (.tup (.cons (.call 28 (.cons (.var 1) (.cons (.cst (.int 7)) .nil))) (.cons (.idx (.lst (.cons (.cst (.int 20)) (.cons (.cst (.int 20)) (.cons (.cst (.int 40)) .nil)))) (.call 28 (.cons (.var 1) (.cons (.cst (.int 3)) .nil)))) .nil)))) S1 (HX ns s t []) = .ok (.nx S2) (HX ns s2 t2 []) := asgE (ev_t2 e2 e3) rfl
  have hb : BodyR ⟨callN P (198), P.sub⟩ BL_lp1 most := bodyR_lp (by omega)
  have er := run_rows (n := 198) d41_40 hb (H := HX ns s2 t2 []) (g := 21) (by omega)
  have ok := rows_ok (most := most)
  generalize pRows most (21 + 1) = rs at er ok
  rw [PH_X0 ok.len] at er
  have a2 : evS ⟨callN P (99 + 100), P.sub⟩ (.asg (.v 4) (.call 40 (.cons (.cst (.int 21)) (.cons (.var 3) .nil)))) S2 (HX ns s2 t2 []) = .ok (.nx (sP g most none none none none none none none none)) (HX ns s2 t2 (X0 rs)) := by
    have er' : callN P (99 + 100) 40 [.int ((21 : Nat) : Int), .int (most : Nat)] (HX ns s2 t2 []) = .ok (.ref 2) (HX ns s2 t2 (X0 rs)) := er
    exact asgV (P := ⟨callN P (99 + 100), P.sub⟩) (i := 4) ((ev_c2 (C := callN P (99 + 100)) (x := .int ((21 : Nat) : Int)) (y := .int (most : Nat)) ev_cst (ev_var rfl)).trans er')
  obtain ⟨h', el⟩ := law_rows (n := 99) hm' hg' ok (ns := ns) (s := s2) (t := t2)
  rw [List.append_nil] at el
  have hrun : evSs ⟨callN P (99 + 100), P.sub⟩ b_law (sL none none none none none none none none none none none none none) [.ro ns] = .ok (.rt (.bl true)) h' := by
    unfold b_law
    rw [seqN a0, seqN a1, seqN a2]
    exact el
  obtain ⟨h2, e⟩ : ∃ h2, finR [.ro ns] (.bl true) h' = .ok (.bl true) h2 := by
    unfold finR
    split <;> exact ⟨_, rfl⟩
  exact ⟨h2, (call_rt0 (n := 199) (σ := sL none none none none none none none none none none none none none) (b := b_law) (h' := h') (v := .bl true) (d := d_law) rfl rfl rfl rfl hrun).trans e⟩

end Cl
open PySem PySem.W PyProof.Rows
set_option maxRecDepth 100000 in
set_option maxHeartbeats 0 in
theorem PySem.Challenge.cw_moduliroads_k41_whole_polygons_holds : PySem.Challenge.rw_moduliroads_k41_whole_polygons.Holds := by
  w_on; o_law; k_head; (case hw => w_witness2)
  k_fill
  refine Cl.walk_cl (l := PySem.Challenge.rw_moduliroads_k41_whole_polygons) (S := Cl.sg) (P := Cl.P) (ds := Cl.tx) (n := 200) (i := 46) (x := "script") rfl rfl ⟨rfl, by decide, by decide⟩ (fun w h Y => PySem.W.kIn_of Y) (fun w => rfl) (Cl.tx.getD 46 ⟨"", Cl.top 0, [], []⟩) rfl rfl (fun _ _ _ _ _ _ _ => rfl) ?F Cl.law_run
  case F =>
    intro w mg fa h KX G hmg
    refine' Cl.all_mk KX G hmg ?a0 ?l0 ?c0 ?k0 ?a1 ?l1 ?c1 ?k1 ?a2 ?l2 ?c2 ?k2 ?a3 ?l3 ?c3 ?k3 ?a4 ?l4 ?c4 ?k4 ?a5 ?l5 ?c5 ?k5 ?a6 ?l6 ?c6 ?k6 ?a7 ?l7 ?c7 ?k7 ?a8 ?l8 ?c8 ?k8 ?a9 ?l9 ?c9 ?k9 ?a10 ?l10 ?c10 ?k10 ?a11 ?l11 ?c11 ?k11 ?a12 ?l12 ?c12 ?k12 ?a13 ?l13 ?c13 ?k13 ?a14 ?l14 ?c14 ?k14 ?a15 ?l15 ?c15 ?k15 ?a16 ?l16 ?c16 ?k16 ?a17 ?l17 ?c17 ?k17 ?a18 ?l18 ?c18 ?k18 ?a19 ?l19 ?c19 ?k19 ?a20 ?l20 ?c20 ?k20 ?a21 ?l21 ?c21 ?k21 ?a22 ?l22 ?c22 ?k22 ?a23 ?l23 ?c23 ?k23 ?a24 ?l24 ?c24 ?k24 ?a25 ?l25 ?c25 ?k25 ?a26 ?l26 ?c26 ?k26 ?a27 ?l27 ?c27 ?k27 ?a28 ?l28 ?c28 ?k28 ?a29 ?l29 ?c29 ?k29 ?a30 ?l30 ?c30 ?k30 ?a31 ?l31 ?c31 ?k31 ?a32 ?l32 ?c32 ?k32 ?a33 ?l33 ?c33 ?k33 ?a34 ?l34 ?c34 ?k34 ?a35 ?l35 ?c35 ?k35 ?a36 ?l36 ?c36 ?k36 ?a37 ?l37 ?c37 ?k37 ?a38 ?l38 ?c38 ?k38 ?a39 ?l39 ?c39 ?k39 ?a40 ?l40 ?c40 ?k40 ?a41 ?l41 ?c41 ?k41 ?a42 ?l42 ?c42 ?k42 ?a43 ?l43 ?c43 ?k43 ?a44 ?l44 ?c44 ?k44 ?a45 ?l45 ?c45 ?k45 ?a46 ?l46 ?c46 ?k46 ?xa0 ?xi0 ?xk0 ?xb0 ?xt0 ?xc0 ?xa1 ?xi1 ?xk1 ?xb1 ?xt1 ?xc1 ?xs0_0 ?xs0_1 ?xs1_0 ?xs1_1 ?m0 ?m1 ?z0 ?z1 ?z2 ?z3 ?z4 ?z5 ?z6 ?z7 ?z8 ?z9 ?z10 ?z11 ?z12 ?z13 ?z14 ?z15 ?z16 ?z17 ?z18 ?z19
    (case a0 => k_is)
    (case l0 => k_is)
    (case c0 => k_is)
    (case k0 => k_is)
    (case a1 => k_is)
    (case l1 => k_is)
    (case c1 => k_is)
    (case k1 => k_is)
    (case a2 => k_is)
    (case l2 => k_is)
    (case c2 => k_is)
    (case k2 => k_is)
    (case a3 => k_is)
    (case l3 => k_is)
    (case c3 => k_is)
    (case k3 => k_is)
    (case a4 => k_is)
    (case l4 => k_is)
    (case c4 => k_is)
    (case k4 => k_is)
    (case a5 => k_is)
    (case l5 => k_is)
    (case c5 => k_is)
    (case k5 => k_is)
    (case a6 => k_is)
    (case l6 => k_is)
    (case c6 => k_is)
    (case k6 => k_is)
    (case a7 => k_is)
    (case l7 => k_is)
    (case c7 => k_is)
    (case k7 => k_is)
    (case a8 => k_is)
    (case l8 => k_is)
    (case c8 => k_is)
    (case k8 => k_is)
    (case a9 => k_is)
    (case l9 => k_is)
    (case c9 => k_is)
    (case k9 => k_is)
    (case a10 => k_is)
    (case l10 => k_is)
    (case c10 => k_is)
    (case k10 => k_is)
    (case a11 => k_is)
    (case l11 => k_is)
    (case c11 => k_is)
    (case k11 => k_is)
    (case a12 => k_is)
    (case l12 => k_is)
    (case c12 => k_is)
    (case k12 => k_is)
    (case a13 => k_is)
    (case l13 => k_is)
    (case c13 => k_is)
    (case k13 => k_is)
    (case a14 => k_is)
    (case l14 => k_is)
    (case c14 => k_is)
    (case k14 => k_is)
    (case a15 => k_is)
    (case l15 => k_is)
    (case c15 => k_is)
    (case k15 => k_is)
    (case a16 => k_is)
    (case l16 => k_is)
    (case c16 => k_is)
    (case k16 => k_is)
    (case a17 => k_is)
    (case l17 => k_is)
    (case c17 => k_is)
    (case k17 => k_is)
    (case a18 => k_is)
    (case l18 => k_is)
    (case c18 => k_is)
    (case k18 => k_is)
    (case a19 => k_is)
    (case l19 => k_is)
    (case c19 => k_is)
    (case k19 => k_is)
    (case a20 => k_is)
    (case l20 => k_is)
    (case c20 => k_is)
    (case k20 => k_is)
    (case a21 => k_is)
    (case l21 => k_is)
    (case c21 => k_is)
    (case k21 => k_is)
    (case a22 => k_is)
    (case l22 => k_is)
    (case c22 => k_is)
    (case k22 => k_is)
    (case a23 => k_is)
    (case l23 => k_is)
    (case c23 => k_is)
    (case k23 => k_is)
    (case a24 => k_is)
    (case l24 => k_is)
    (case c24 => k_is)
    (case k24 => k_is)
    (case a25 => k_is)
    (case l25 => k_is)
    (case c25 => k_is)
    (case k25 => k_is)
    (case a26 => k_is)
    (case l26 => k_is)
    (case c26 => k_is)
    (case k26 => k_is)
    (case a27 => k_is)
    (case l27 => k_is)
    (case c27 => k_is)
    (case k27 => k_is)
    (case a28 => k_is)
    (case l28 => k_is)
    (case c28 => k_is)
    (case k28 => k_is)
    (case a29 => k_is)
    (case l29 => k_is)
    (case c29 => k_is)
    (case k29 => k_is)
    (case a30 => k_is)
    (case l30 => k_is)
    (case c30 => k_is)
    (case k30 => k_is)
    (case a31 => k_is)
    (case l31 => k_is)
    (case c31 => k_is)
    (case k31 => k_is)
    (case a32 => k_is)
    (case l32 => k_is)
    (case c32 => k_is)
    (case k32 => k_is)
    (case a33 => k_is)
    (case l33 => k_is)
    (case c33 => k_is)
    (case k33 => k_is)
    (case a34 => k_is)
    (case l34 => k_is)
    (case c34 => k_is)
    (case k34 => k_is)
    (case a35 => k_is)
    (case l35 => k_is)
    (case c35 => k_is)
    (case k35 => k_is)
    (case a36 => k_is)
    (case l36 => k_is)
    (case c36 => k_is)
    (case k36 => k_is)
    (case a37 => k_is)
    (case l37 => k_is)
    (case c37 => k_is)
    (case k37 => k_is)
    (case a38 => k_is)
    (case l38 => k_is)
    (case c38 => k_is)
    (case k38 => k_is)
    (case a39 => k_is)
    (case l39 => k_is)
    (case c39 => k_is)
    (case k39 => k_is)
    (case a40 => k_is)
    (case l40 => k_is)
    (case c40 => k_is)
    (case k40 => k_is)
    (case a41 => k_is)
    (case l41 => k_is)
    (case c41 => k_is)
    (case k41 => k_is)
    (case a42 => k_is)
    (case l42 => k_is)
    (case c42 => k_is)
    (case k42 => k_is)
    (case a43 => k_is)
    (case l43 => k_is)
    (case c43 => k_is)
    (case k43 => k_is)
    (case a44 => k_is)
    (case l44 => k_is)
    (case c44 => k_is)
    (case k44 => k_is)
    (case a45 => k_is)
    (case l45 => k_is)
    (case c45 => k_is)
    (case k45 => k_is)
    (case a46 => k_is)
    (case l46 => k_is)
    (case c46 => k_is)
    (case k46 => k_is)
    (case xa0 => k_is)
    (case xi0 => k_exc)
    (case xk0 => k_is)
    (case xb0 => k_is)
    (case xt0 => k_is)
    (case xc0 => k_is)
    (case xa1 => k_is)
    (case xi1 => k_exc)
    (case xk1 => k_is)
    (case xb1 => k_is)
    (case xt1 => k_is)
    (case xc1 => k_is)
    (case xs0_0 => first | rfl | k_is)
    (case xs0_1 => first | rfl | k_is)
    (case xs1_0 => first | rfl | k_is)
    (case xs1_1 => first | rfl | k_is)
    (case m0 => k_is)
    (case m1 => k_is)
    (case z0 => k_is)
    (case z1 => k_is)
    (case z2 => k_is)
    (case z3 => k_is)
    (case z4 => k_is)
    (case z5 => k_is)
    (case z6 => k_is)
    (case z7 => k_is)
    (case z8 => k_is)
    (case z9 => k_is)
    (case z10 => k_is)
    (case z11 => k_is)
    (case z12 => k_is)
    (case z13 => k_is)
    (case z14 => k_is)
    (case z15 => k_is)
    (case z16 => k_is)
    (case z17 => k_is)
    (case z18 => k_is)
    (case z19 => k_is)

