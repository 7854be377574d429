import PyProof.Rows.All
import Wide.All
import OpenK.AllK
import Wide.FinOn
import HandS.ForMost
import HandS.ForExc
import HandS.Walk
import HandS.Zip
import HandS.Deep
import HandS.TupAny
import HandS.TupMul
import HandS.Wide
import HandS.Conv
import KE.SortData
import KE.DataCmp
import HandS.WideBits
import HandS.Style
import HandS.IsInst
import HandS.SortInts
import KE.OsSortAny
import KE.DataMinMax
import HandS.Iter
import PySem.Challenge.RW_moduliroads_k10_whole_euler_numbers
set_option Elab.async false
set_option linter.all false
set_option maxRecDepth 100000
set_option maxHeartbeats 4000000
namespace Cl
open PySem PySem.Spec PyProof.Rows L2

/-! ## values -/
inductive D where
  | non | bl (b : Bool) | int (i : Int) | str (x : Str)
  | tup (xs : List D) | lst (xs : List D) | ref (n : Nat) | fn (i : Nat)
  deriving Inhabited

mutual
def D.beq : D → D → Bool
  | .non, .non => true
  | .bl a, .bl b => a == b
  | .int a, .int b => a == b
  | .str a, .str b => decide (a = b)
  | .tup a, .tup b => D.beqs a b
  | .lst a, .lst b => D.beqs a b
  | .ref a, .ref b => a == b
  | .fn a, .fn b => a == b
  | _, _ => false
def D.beqs : List D → List D → Bool
  | [], [] => true
  | a :: as, b :: bs => D.beq a b && D.beqs as bs
  | _, _ => false
end
mutual
theorem D.beq_eq : ∀ {a b : D}, D.beq a b = true → a = b
  | .non, b, h => by cases b <;> simp [D.beq] at h <;> rfl
  | .bl a, b, h => by cases b <;> simp [D.beq] at h <;> simp [h]
  | .int a, b, h => by cases b <;> simp [D.beq] at h <;> simp [h]
  | .str a, b, h => by cases b <;> simp [D.beq] at h <;> simp [h]
  | .ref a, b, h => by cases b <;> simp [D.beq] at h <;> simp [h]
  | .fn a, b, h => by cases b <;> simp [D.beq] at h <;> simp [h]
  | .tup a, b, h => by
    cases b <;> simp [D.beq] at h
    rw [D.beqs_eq h]
  | .lst a, b, h => by
    cases b <;> simp [D.beq] at h
    rw [D.beqs_eq h]
theorem D.beqs_eq : ∀ {a b : List D}, D.beqs a b = true → a = b
  | [], b, h => by cases b <;> simp [D.beqs] at h <;> rfl
  | x :: a, b, h => by
    cases b with
    | nil => simp [D.beqs] at h
    | cons y b =>
      simp only [D.beqs, Bool.and_eq_true] at h
      rw [D.beq_eq h.1, D.beqs_eq h.2]
end
mutual
theorem D.beq_refl : ∀ a : D, D.beq a a = true
  | .non => rfl
  | .bl a => by simp [D.beq]
  | .int a => by simp [D.beq]
  | .str a => by simp [D.beq]
  | .ref a => by simp [D.beq]
  | .fn a => by simp [D.beq]
  | .tup a => by rw [D.beq]; exact D.beqs_refl a
  | .lst a => by rw [D.beq]; exact D.beqs_refl a
theorem D.beqs_refl : ∀ a : List D, D.beqs a a = true
  | [] => rfl
  | x :: a => by rw [D.beqs, D.beq_refl x, D.beqs_refl a]; rfl
end
instance : DecidableEq D := fun a b => if h : D.beq a b = true then isTrue (D.beq_eq h) else isFalse fun e => h (e ▸ D.beq_refl a)

/-- no reference from n on -/
def D.low (n : Nat) : D → Bool
  | .ref k => decide (k < n)
  | .tup xs => lows n xs
  | .lst xs => lows n xs
  | _ => true
where lows (n : Nat) : List D → Bool
  | [] => true
  | x :: xs => D.low n x && lows n xs

inductive Cell where
  | lst (xs : List D) | ro (xs : List D) | dK (kvs : List (Key × D)) | dT (kvs : List (List Key × D))
  deriving DecidableEq
abbrev Hc := List Cell
def Cell.low (n : Nat) : Cell → Bool
  | .lst xs => D.low.lows n xs
  | .ro xs => D.low.lows n xs
  | .dK kvs => kvs.all fun kv => kv.2.low n
  | .dT kvs => kvs.all fun kv => kv.2.low n

/-- what stands fixed: the written part, where the defs stand, the module's tuples -/
structure RC where
  K : PySem.W.Frag
  fa : Nat → Addr
  gt : List (Addr × D)

/-- a list, a tuple that stands still: apart from the cells and from what is held back -/
def AtL (R : RC) (ρ φ : List Addr) (H : Hp) (a : Addr) (xs : List V) : Prop := H a = some (.lst xs) ∧ a ∉ ρ ∧ a ∉ φ
def AtT (R : RC) (ρ φ : List Addr) (H : Hp) (a : Addr) (xs : List V) : Prop := H a = some (.tup xs) ∧ a ∉ ρ ∧ a ∉ φ

mutual
def RD (R : RC) (ρ φ : List Addr) (H : Hp) : D → V → Prop
  | .non, v => v = .non
  | .bl b, v => v = .bl b
  | .int i, v => v = .int i
  | .str x, v => v = .str x
  | .tup ds, v => ∃ a vs, v = .ref a ∧ AtT R ρ φ H a vs ∧ RDs R ρ φ H ds vs
  | .lst ds, v => ∃ a vs, v = .ref a ∧ AtL R ρ φ H a vs ∧ RDs R ρ φ H ds vs
  | .ref n, v => ∃ a, ρ[n]? = some a ∧ v = .ref a
  | .fn i, v => v = .ref (R.fa i)
def RDs (R : RC) (ρ φ : List Addr) (H : Hp) : List D → List V → Prop
  | [], vs => vs = []
  | d :: ds, vs => ∃ v vs', vs = v :: vs' ∧ RD R ρ φ H d v ∧ RDs R ρ φ H ds vs'
end

structure Ext (ρ ρ' : List Addr) (H H' : Hp) : Prop where
  pre : ∃ t, ρ' = ρ ++ t
  new : ∀ a ∈ ρ', a ∈ ρ ∨ H a = none
  keep : ∀ a o, H a = some o → a ∉ ρ → H' a = some o
  there : ∀ a o, H a = some o → ∃ o', H' a = some o'
theorem Ext.refl {ρ : List Addr} {H : Hp} : Ext ρ ρ H H := ⟨⟨[], by simp⟩, fun _ h => .inl h, fun _ _ h _ => h, fun _ o h => ⟨o, h⟩⟩
theorem Ext.trans {ρ ρ1 ρ2 : List Addr} {H H1 H2 : Hp} (e : Ext ρ ρ1 H H1) (f : Ext ρ1 ρ2 H1 H2) : Ext ρ ρ2 H H2 := by
  obtain ⟨t, rfl⟩ := e.pre
  obtain ⟨u, rfl⟩ := f.pre
  refine ⟨⟨t ++ u, by simp⟩, fun a ha => ?_, fun a o h n => ?_, fun a o h => by obtain ⟨o1, h1⟩ := e.there a o h; exact f.there a o1 h1⟩
  · rcases f.new a ha with h | h
    · exact e.new a h
    · by_cases hr : a ∈ ρ
      · exact .inl hr
      · refine .inr ?_
        cases q : H a with
        | none => rfl
        | some o => rw [e.keep a o q hr] at h; cases h
  · refine f.keep a o (e.keep a o h n) fun hm => ?_
    rcases e.new a hm with q | q
    · exact n q
    · rw [h] at q; cases q
theorem Ext.get {ρ ρ' : List Addr} {H H' : Hp} (e : Ext ρ ρ' H H') {n : Nat} {a : Addr} (h : ρ[n]? = some a) : ρ'[n]? = some a := by
  obtain ⟨t, rfl⟩ := e.pre
  have hn : n < ρ.length := by
    rcases Nat.lt_or_ge n ρ.length with q | q
    · exact q
    · rw [List.getElem?_eq_none q] at h; cases h
  rw [List.getElem?_append_left hn]; exact h
theorem Rd.some_at {H : Hp} {a : Addr} {u : HO} (r : Rd H a u) : ∃ o, H a = some o := by
  rcases r with r | ⟨o, r⟩
  · exact ⟨_, r⟩
  · exact ⟨_, r⟩
theorem Ext.rd {ρ ρ' : List Addr} {H H' : Hp} (e : Ext ρ ρ' H H') {a : Addr} {u : HO} (r : Rd H a u) (n : a ∉ ρ) : Rd H' a u ∧ a ∉ ρ' := by
  refine ⟨?_, fun hm => ?_⟩
  · rcases r with r | ⟨o, r⟩
    · exact .inl (e.keep a _ r n)
    · exact .inr ⟨o, e.keep a _ r n⟩
  · obtain ⟨o, ho⟩ := Rd.some_at r
    rcases e.new a hm with q | q
    · exact n q
    · rw [ho] at q; cases q
theorem AtL.ext {R : RC} {ρ ρ' φ : List Addr} {H H' : Hp} {a : Addr} {xs : List V} (h : AtL R ρ φ H a xs) (e : Ext ρ ρ' H H') : AtL R ρ' φ H' a xs := by
  obtain ⟨r, n, m⟩ := h
  exact ⟨e.keep a _ r n, (e.rd (.inl r) n).2, m⟩
theorem AtT.ext {R : RC} {ρ ρ' φ : List Addr} {H H' : Hp} {a : Addr} {xs : List V} (h : AtT R ρ φ H a xs) (e : Ext ρ ρ' H H') : AtT R ρ' φ H' a xs := by
  obtain ⟨r, n, m⟩ := h
  exact ⟨e.keep a _ r n, (e.rd (.inl r) n).2, m⟩
theorem AtL.sq {R : RC} {ρ φ : List Addr} {H : Hp} {a : Addr} {xs : List V} (h : AtL R ρ φ H a xs) : SqL R.K H a xs := SqL.of h.1
theorem AtT.sq {R : RC} {ρ φ : List Addr} {H : Hp} {a : Addr} {xs : List V} (h : AtT R ρ φ H a xs) : SqT R.K H a xs := SqT.of h.1
mutual
theorem RD.ext {R : RC} {ρ ρ' φ : List Addr} {H H' : Hp} (e : Ext ρ ρ' H H') : ∀ {d : D} {v : V}, RD R ρ φ H d v → RD R ρ' φ H' d v
  | .non, _, h => h
  | .bl _, _, h => h
  | .int _, _, h => h
  | .str _, _, h => h
  | .fn _, _, h => h
  | .ref n, v, h => by
    obtain ⟨a, h1, h2⟩ := (by simpa only [RD] using h : ∃ a, ρ[n]? = some a ∧ v = .ref a)
    simp only [RD]
    exact ⟨a, e.get h1, h2⟩
  | .tup ds, v, h => by
    simp only [RD] at h ⊢
    obtain ⟨a, vs, h1, h2, h3⟩ := h
    exact ⟨a, vs, h1, h2.ext e, RDs.ext e h3⟩
  | .lst ds, v, h => by
    simp only [RD] at h ⊢
    obtain ⟨a, vs, h1, h2, h3⟩ := h
    exact ⟨a, vs, h1, h2.ext e, RDs.ext e h3⟩
theorem RDs.ext {R : RC} {ρ ρ' φ : List Addr} {H H' : Hp} (e : Ext ρ ρ' H H') : ∀ {ds : List D} {vs : List V}, RDs R ρ φ H ds vs → RDs R ρ' φ H' ds vs
  | [], _, h => h
  | d :: ds, vs, h => by
    simp only [RDs] at h ⊢
    obtain ⟨v, vs', h1, h2, h3⟩ := h
    exact ⟨v, vs', h1, RD.ext e h2, RDs.ext e h3⟩
end
end Cl

namespace Cl
open PySem PySem.Spec PyProof.Rows L2

section
variable {R : RC} {ρ φ : List Addr} {H : Hp}
theorem AtL.weak {φ' : List Addr} (w : ∀ a ∈ φ', a ∈ φ) {a : Addr} {xs : List V} (h : AtL R ρ φ H a xs) : AtL R ρ φ' H a xs := by
  obtain ⟨r, n, m⟩ := h
  exact ⟨r, n, fun q => m (w a q)⟩
theorem AtT.weak {φ' : List Addr} (w : ∀ a ∈ φ', a ∈ φ) {a : Addr} {xs : List V} (h : AtT R ρ φ H a xs) : AtT R ρ φ' H a xs := by
  obtain ⟨r, n, m⟩ := h
  exact ⟨r, n, fun q => m (w a q)⟩
/-- a change of the places where RD looks that keeps lists, tuples, references -/
structure Mv (R : RC) (ρ φ : List Addr) (H : Hp) (ρ' φ' : List Addr) (H' : Hp) (ok : D → Bool) : Prop where
  l : ∀ a xs, AtL R ρ φ H a xs → AtL R ρ' φ' H' a xs
  t : ∀ a xs, AtT R ρ φ H a xs → AtT R ρ' φ' H' a xs
  r : ∀ n a, ok (.ref n) = true → ρ[n]? = some a → ρ'[n]? = some a
mutual
theorem RD.mv {ρ' φ' : List Addr} {H' : Hp} {k : Nat} (m : Mv R ρ φ H ρ' φ' H' (D.low k)) : ∀ {d : D} {v : V}, d.low k = true → RD R ρ φ H d v → RD R ρ' φ' H' d v
  | .non, _, _, h => h
  | .bl _, _, _, h => h
  | .int _, _, _, h => h
  | .str _, _, _, h => h
  | .fn _, _, _, h => h
  | .ref n, v, hl, h => by
    simp only [RD] at h ⊢
    obtain ⟨a, h1, h2⟩ := h
    exact ⟨a, m.r n a hl h1, h2⟩
  | .tup ds, v, hl, h => by
    simp only [RD] at h ⊢
    simp only [D.low] at hl
    obtain ⟨a, vs, h1, h2, h3⟩ := h
    exact ⟨a, vs, h1, m.t a vs h2, RDs.mv m hl h3⟩
  | .lst ds, v, hl, h => by
    simp only [RD] at h ⊢
    simp only [D.low] at hl
    obtain ⟨a, vs, h1, h2, h3⟩ := h
    exact ⟨a, vs, h1, m.l a vs h2, RDs.mv m hl h3⟩
theorem RDs.mv {ρ' φ' : List Addr} {H' : Hp} {k : Nat} (m : Mv R ρ φ H ρ' φ' H' (D.low k)) : ∀ {ds : List D} {vs : List V}, D.low.lows k ds = true → RDs R ρ φ H ds vs → RDs R ρ' φ' H' ds vs
  | [], _, _, h => h
  | d :: ds, vs, hl, h => by
    simp only [RDs] at h ⊢
    simp only [D.low.lows, Bool.and_eq_true] at hl
    obtain ⟨v, vs', h1, h2, h3⟩ := h
    exact ⟨v, vs', h1, RD.mv m hl.1 h2, RDs.mv m hl.2 h3⟩
end
mutual
theorem RD.low : ∀ {d : D} {v : V}, RD R ρ φ H d v → d.low ρ.length = true
  | .non, _, _ => rfl
  | .bl _, _, _ => rfl
  | .int _, _, _ => rfl
  | .str _, _, _ => rfl
  | .fn _, _, _ => rfl
  | .ref n, v, h => by
    simp only [RD] at h
    obtain ⟨a, h1, h2⟩ := h
    simp only [D.low, decide_eq_true_eq]
    rcases Nat.lt_or_ge n ρ.length with q | q
    · exact q
    · rw [List.getElem?_eq_none q] at h1; cases h1
  | .tup ds, v, h => by
    simp only [RD] at h
    obtain ⟨a, vs, h1, h2, h3⟩ := h
    simp only [D.low]
    exact RDs.low h3
  | .lst ds, v, h => by
    simp only [RD] at h
    obtain ⟨a, vs, h1, h2, h3⟩ := h
    simp only [D.low]
    exact RDs.low h3
theorem RDs.low : ∀ {ds : List D} {vs : List V}, RDs R ρ φ H ds vs → D.low.lows ρ.length ds = true
  | [], _, _ => rfl
  | d :: ds, vs, h => by
    simp only [RDs] at h
    obtain ⟨v, vs', h1, h2, h3⟩ := h
    simp only [D.low.lows, Bool.and_eq_true]
    exact ⟨RD.low h2, RDs.low h3⟩
end
mutual
theorem D.low_mono {n m : Nat} (hnm : n ≤ m) : ∀ {d : D}, d.low n = true → d.low m = true
  | .non, _ => rfl
  | .bl _, _ => rfl
  | .int _, _ => rfl
  | .str _, _ => rfl
  | .fn _, _ => rfl
  | .ref k, h => by simp only [D.low, decide_eq_true_eq] at h ⊢; omega
  | .tup ds, h => by simp only [D.low] at h ⊢; exact D.lows_mono hnm h
  | .lst ds, h => by simp only [D.low] at h ⊢; exact D.lows_mono hnm h
theorem D.lows_mono {n m : Nat} (hnm : n ≤ m) : ∀ {ds : List D}, D.low.lows n ds = true → D.low.lows m ds = true
  | [], _ => rfl
  | d :: ds, h => by
    simp only [D.low.lows, Bool.and_eq_true] at h ⊢
    exact ⟨D.low_mono hnm h.1, D.lows_mono hnm h.2⟩
end
theorem Mv.weak {φ' : List Addr} (w : ∀ a ∈ φ', a ∈ φ) (ok : D → Bool) : Mv R ρ φ H ρ φ' H ok := ⟨fun _ _ h => h.weak w, fun _ _ h => h.weak w, fun _ _ _ h => h⟩
theorem RD.weak {φ' : List Addr} (w : ∀ a ∈ φ', a ∈ φ) {d : D} {v : V} (h : RD R ρ φ H d v) : RD R ρ φ' H d v := RD.mv (Mv.weak w _) h.low h
theorem RDs.weak {φ' : List Addr} (w : ∀ a ∈ φ', a ∈ φ) {ds : List D} {vs : List V} (h : RDs R ρ φ H ds vs) : RDs R ρ φ' H ds vs := RDs.mv (Mv.weak w _) h.low h
theorem Rd.upd {p : Addr} {o : HO} (hp : H p = none) {a : Addr} {u : HO} (h : Rd H a u) : a ≠ p ∧ Rd (upd H p o) a u := by
  have ne : a ≠ p := by
    obtain ⟨q, hq⟩ := Rd.some_at h
    rintro rfl
    rw [hp] at hq; cases hq
  exact ⟨ne, h.imp (fun q => by rw [upd_ne ne]; exact q) fun ⟨o, q⟩ => ⟨o, by rw [upd_ne ne]; exact q⟩⟩
theorem Mv.fresh {p : Addr} {o : HO} (hp : H p = none) (ok : D → Bool) : Mv R ρ φ H ρ (p :: φ) (upd H p o) ok := by
  refine ⟨fun a xs h => ?_, fun a xs h => ?_, fun _ _ _ h => h⟩
  · obtain ⟨r, n, m⟩ := h
    have ne : a ≠ p := ne_of_none r hp
    exact ⟨by rw [upd_ne ne]; exact r, n, by simp [ne, m]⟩
  · obtain ⟨r, n, m⟩ := h
    have ne : a ≠ p := ne_of_none r hp
    exact ⟨by rw [upd_ne ne]; exact r, n, by simp [ne, m]⟩
theorem RD.fresh {p : Addr} {o : HO} (hp : H p = none) {d : D} {v : V} (h : RD R ρ φ H d v) : RD R ρ (p :: φ) (upd H p o) d v := RD.mv (Mv.fresh hp _) h.low h
theorem RDs.fresh {p : Addr} {o : HO} (hp : H p = none) {ds : List D} {vs : List V} (h : RDs R ρ φ H ds vs) : RDs R ρ (p :: φ) (upd H p o) ds vs := RDs.mv (Mv.fresh hp _) h.low h
/-- p leaves the held back ones and becomes a cell -/
theorem Mv.cell {p : Addr} (ok : D → Bool) : Mv R ρ (p :: φ) H (ρ ++ [p]) φ H ok := by
  refine ⟨fun a xs h => ?_, fun a xs h => ?_, fun n a _ h => ?_⟩
  · obtain ⟨r, n, m⟩ := h
    simp only [List.mem_cons, not_or] at m
    exact ⟨r, by simp [n, m.1], m.2⟩
  · obtain ⟨r, n, m⟩ := h
    simp only [List.mem_cons, not_or] at m
    exact ⟨r, by simp [n, m.1], m.2⟩
  · have hn : n < ρ.length := by
      rcases Nat.lt_or_ge n ρ.length with q | q
      · exact q
      · rw [List.getElem?_eq_none q] at h; cases h
    rw [List.getElem?_append_left hn]; exact h
theorem RDs.len : ∀ {ds : List D} {vs : List V}, RDs R ρ φ H ds vs → ds.length = vs.length
  | [], _, h => by simp only [RDs] at h; subst h; rfl
  | d :: ds, vs, h => by
    simp only [RDs] at h
    obtain ⟨v, vs', rfl, h2, h3⟩ := h
    simp [RDs.len h3]
theorem RDs.get : ∀ {ds : List D} {vs : List V} {i : Nat} {d : D}, RDs R ρ φ H ds vs → ds[i]? = some d → ∃ v, vs[i]? = some v ∧ RD R ρ φ H d v
  | [], _, _, _, _, e => by simp at e
  | x :: ds, vs, 0, d, h, e => by
    simp only [RDs] at h
    obtain ⟨v, vs', rfl, h2, h3⟩ := h
    simp at e; subst e
    exact ⟨v, rfl, h2⟩
  | x :: ds, vs, i + 1, d, h, e => by
    simp only [RDs] at h
    obtain ⟨v, vs', rfl, h2, h3⟩ := h
    obtain ⟨w, h1, h4⟩ := RDs.get (i := i) (d := d) h3 (by simpa using e)
    exact ⟨w, by simpa using h1, h4⟩
theorem RDs.get' : ∀ {ds : List D} {vs : List V} {i : Nat} {v : V}, RDs R ρ φ H ds vs → vs[i]? = some v → ∃ d, ds[i]? = some d ∧ RD R ρ φ H d v := fun {ds vs i v} h e => by
  have hl := h.len
  cases q : ds[i]? with
  | none =>
    have := List.getElem?_eq_none_iff.mp q
    rw [List.getElem?_eq_none (by omega)] at e; cases e
  | some d =>
    obtain ⟨w, h1, h2⟩ := h.get q
    rw [e] at h1; cases h1
    exact ⟨d, rfl, h2⟩
theorem RDs.append : ∀ {ds es : List D} {vs ws : List V}, RDs R ρ φ H ds vs → RDs R ρ φ H es ws → RDs R ρ φ H (ds ++ es) (vs ++ ws)
  | [], _, _, _, h, g => by simp only [RDs] at h; subst h; exact g
  | d :: ds, es, vs, ws, h, g => by
    simp only [RDs] at h
    obtain ⟨v, vs', rfl, h2, h3⟩ := h
    simp only [List.cons_append, RDs]
    exact ⟨v, vs' ++ ws, rfl, h2, h3.append g⟩
theorem RDs.one {d : D} {v : V} (h : RD R ρ φ H d v) : RDs R ρ φ H [d] [v] := by simp only [RDs]; exact ⟨v, [], rfl, h, rfl⟩
theorem RDs.cons {d : D} {v : V} {ds : List D} {vs : List V} (h : RD R ρ φ H d v) (g : RDs R ρ φ H ds vs) : RDs R ρ φ H (d :: ds) (v :: vs) := by simp only [RDs]; exact ⟨v, vs, rfl, h, g⟩
theorem RDs.take : ∀ {ds : List D} {vs : List V} (n : Nat), RDs R ρ φ H ds vs → RDs R ρ φ H (ds.take n) (vs.take n)
  | _, _, 0, _ => by simp [RDs]
  | [], _, n + 1, h => by simp only [RDs] at h; subst h; simp [RDs]
  | d :: ds, vs, n + 1, h => by
    simp only [RDs] at h
    obtain ⟨v, vs', rfl, h2, h3⟩ := h
    simp only [List.take_succ_cons]
    exact RDs.cons h2 (RDs.take n h3)
theorem RDs.drop : ∀ {ds : List D} {vs : List V} (n : Nat), RDs R ρ φ H ds vs → RDs R ρ φ H (ds.drop n) (vs.drop n)
  | _, _, 0, h => h
  | [], _, n + 1, h => by simp only [RDs] at h; subst h; simp [RDs]
  | d :: ds, vs, n + 1, h => by
    simp only [RDs] at h
    obtain ⟨v, vs', rfl, h2, h3⟩ := h
    simp only [List.drop_succ_cons]
    exact RDs.drop n h3
theorem RDs.set {x : D} {u : V} (r : RD R ρ φ H x u) : ∀ {ds : List D} {vs : List V} (i : Nat), RDs R ρ φ H ds vs → RDs R ρ φ H (ds.set i x) (vs.set i u)
  | [], _, _, h => by simp only [RDs] at h; subst h; simp [RDs]
  | d :: ds, vs, 0, h => by
    simp only [RDs] at h
    obtain ⟨v, vs', rfl, h2, h3⟩ := h
    exact RDs.cons r h3
  | d :: ds, vs, i + 1, h => by
    simp only [RDs] at h
    obtain ⟨v, vs', rfl, h2, h3⟩ := h
    exact RDs.cons h2 (RDs.set r i h3)
theorem RDs.eraseIdx : ∀ {ds : List D} {vs : List V} (i : Nat), RDs R ρ φ H ds vs → RDs R ρ φ H (ds.eraseIdx i) (vs.eraseIdx i)
  | [], _, _, h => by simp only [RDs] at h; subst h; simp [RDs]
  | d :: ds, vs, 0, h => by
    simp only [RDs] at h
    obtain ⟨v, vs', rfl, h2, h3⟩ := h
    exact h3
  | d :: ds, vs, i + 1, h => by
    simp only [RDs] at h
    obtain ⟨v, vs', rfl, h2, h3⟩ := h
    exact RDs.cons h2 (RDs.eraseIdx i h3)
theorem RDs.reverse : ∀ {ds : List D} {vs : List V}, RDs R ρ φ H ds vs → RDs R ρ φ H ds.reverse vs.reverse
  | [], _, h => by simp only [RDs] at h; subst h; simp [RDs]
  | d :: ds, vs, h => by
    simp only [RDs] at h
    obtain ⟨v, vs', rfl, h2, h3⟩ := h
    simp only [List.reverse_cons]
    exact (RDs.reverse h3).append (RDs.one h2)
theorem RDs.rep {ds : List D} {vs : List V} (h : RDs R ρ φ H ds vs) : ∀ n : Nat, RDs R ρ φ H (List.replicate n ds).flatten (List.replicate n vs).flatten
  | 0 => by simp [RDs]
  | n + 1 => by
    simp only [List.replicate_succ, List.flatten_cons]
    exact h.append (RDs.rep h n)
theorem RDs.all : ∀ {ds : List D} {vs : List V}, RDs R ρ φ H ds vs → ∀ v ∈ vs, ∃ d ∈ ds, RD R ρ φ H d v
  | [], _, h, v, hv => by simp only [RDs] at h; subst h; simp at hv
  | d :: ds, vs, h, v, hv => by
    simp only [RDs] at h
    obtain ⟨w, vs', rfl, h2, h3⟩ := h
    rcases List.mem_cons.mp hv with rfl | hv
    · exact ⟨d, by simp, h2⟩
    · obtain ⟨d', h4, h5⟩ := RDs.all h3 v hv
      exact ⟨d', by simp [h4], h5⟩
end

/-! ## the clean heap -/
def KRD (R : RC) (ρ φ : List Addr) (H : Hp) {κ : Type} (kvs : List (κ × D)) (kws : List (κ × V)) : Prop := kvs.map (·.1) = kws.map (·.1) ∧ RDs R ρ φ H (kvs.map (·.2)) (kws.map (·.2))
def RCell (R : RC) (ρ φ : List Addr) (H : Hp) (a : Addr) : Cell → Prop
  | .lst xs => ∃ vs, H a = some (.lst vs) ∧ RDs R ρ φ H xs vs
  | .ro xs => ∃ o vs, H a = some (.frz o (.lst vs)) ∧ RDs R ρ φ H xs vs
  | .dK kvs => ∃ kws, H a = some (.dK kws) ∧ KRD R ρ φ H kvs kws
  | .dT kvs => ∃ kws, H a = some (.dT kws) ∧ KRD R ρ φ H kvs kws
structure RelH (R : RC) (ρ φ : List Addr) (H : Hp) (h : Hc) : Prop where
  len : ρ.length = h.length
  nd : ρ.Nodup
  cells : ∀ (n : Nat) (a : Addr) (c : Cell), ρ[n]? = some a → h[n]? = some c → RCell R ρ φ H a c
  phi : ∀ a ∈ φ, (∃ o, H a = some o) ∧ a ∉ ρ
  gt : ∀ p ∈ R.gt, p.2.low 0 = true ∧ RD R ρ φ H p.2 (.ref p.1)
section
variable {R : RC} {ρ φ : List Addr} {H : Hp} {h : Hc}
theorem get_lt {α : Type} {l : List α} {n : Nat} {a : α} (e : l[n]? = some a) : n < l.length := by
  rcases Nat.lt_or_ge n l.length with q | q
  · exact q
  · rw [List.getElem?_eq_none q] at e; cases e
theorem nd_ix {α : Type} : ∀ {l : List α}, l.Nodup → ∀ {i j : Nat} {a : α}, l[i]? = some a → l[j]? = some a → i = j
  | [], _, _, _, _, e, _ => by simp at e
  | x :: l, hn, 0, 0, a, e, f => rfl
  | x :: l, hn, 0, j + 1, a, e, f => by
    simp at e f; subst e
    exact absurd (List.mem_of_getElem? f) (List.nodup_cons.mp hn).1
  | x :: l, hn, i + 1, 0, a, e, f => by
    simp at e f; subst f
    exact absurd (List.mem_of_getElem? e) (List.nodup_cons.mp hn).1
  | x :: l, hn, i + 1, j + 1, a, e, f => by
    simp at e f
    rw [nd_ix (List.nodup_cons.mp hn).2 e f]
theorem RelH.at (r : RelH R ρ φ H h) {n : Nat} {c : Cell} (e : h[n]? = some c) : ∃ a, ρ[n]? = some a ∧ RCell R ρ φ H a c := by
  have := get_lt e
  have hl := r.len
  obtain ⟨a, ha⟩ : ∃ a, ρ[n]? = some a := ⟨_, List.getElem?_eq_getElem (by omega)⟩
  exact ⟨a, ha, r.cells n a c ha e⟩
theorem RCell.some_at {a : Addr} {c : Cell} (r : RCell R ρ φ H a c) : ∃ o, H a = some o := by
  cases c with
  | lst xs => obtain ⟨vs, e, _⟩ := r; exact ⟨_, e⟩
  | ro xs => obtain ⟨o, vs, e, _⟩ := r; exact ⟨_, e⟩
  | dK kvs => obtain ⟨vs, e, _⟩ := r; exact ⟨_, e⟩
  | dT kvs => obtain ⟨vs, e, _⟩ := r; exact ⟨_, e⟩
theorem RelH.some_at (r : RelH R ρ φ H h) {a : Addr} (ha : a ∈ ρ) : ∃ o, H a = some o := by
  obtain ⟨n, hn, e⟩ := List.getElem_of_mem ha
  have hl := r.len
  have := r.cells n a (h[n]'(by omega)) (by rw [List.getElem?_eq_getElem hn, e]) (List.getElem?_eq_getElem (by omega))
  exact this.some_at
/-- a cell seen from other places, its own object as it was -/
theorem RCell.mv {ρ' φ' : List Addr} {H' : Hp} {k : Nat} (m : Mv R ρ φ H ρ' φ' H' (D.low k)) {a : Addr} {c : Cell} (hc : c.low k = true) (ha : H' a = H a) (r : RCell R ρ φ H a c) : RCell R ρ' φ' H' a c := by
  have kv : ∀ {κ : Type} (kvs : List (κ × D)), (kvs.all fun kv => kv.2.low k) = true → D.low.lows k (kvs.map (·.2)) = true := fun kvs => by
    induction kvs with
    | nil => intro _; rfl
    | cons x xs ih =>
      intro q
      rw [List.all_cons, Bool.and_eq_true] at q
      rw [List.map_cons, D.low.lows, Bool.and_eq_true]
      exact ⟨q.1, ih q.2⟩
  cases c with
  | lst xs => obtain ⟨vs, e, d⟩ := r; exact ⟨vs, by rw [ha]; exact e, d.mv m hc⟩
  | ro xs => obtain ⟨o, vs, e, d⟩ := r; exact ⟨o, vs, by rw [ha]; exact e, d.mv m hc⟩
  | dK kvs => obtain ⟨vs, e, d1, d2⟩ := r; exact ⟨vs, by rw [ha]; exact e, d1, d2.mv m (kv kvs hc)⟩
  | dT kvs => obtain ⟨vs, e, d1, d2⟩ := r; exact ⟨vs, by rw [ha]; exact e, d1, d2.mv m (kv kvs hc)⟩
theorem RCell.low {a : Addr} {c : Cell} (r : RCell R ρ φ H a c) : c.low ρ.length = true := by
  have kv : ∀ {κ : Type} (kvs : List (κ × D)), D.low.lows ρ.length (kvs.map (·.2)) = true → (kvs.all fun kv => kv.2.low ρ.length) = true := fun kvs => by
    induction kvs with
    | nil => intro _; rfl
    | cons x xs ih =>
      intro q
      rw [List.map_cons, D.low.lows, Bool.and_eq_true] at q
      rw [List.all_cons, Bool.and_eq_true]
      exact ⟨q.1, ih q.2⟩
  cases c with
  | lst xs => obtain ⟨vs, e, d⟩ := r; exact d.low
  | ro xs => obtain ⟨o, vs, e, d⟩ := r; exact d.low
  | dK kvs => obtain ⟨vs, e, d1, d2⟩ := r; exact kv kvs d2.low
  | dT kvs => obtain ⟨vs, e, d1, d2⟩ := r; exact kv kvs d2.low
/-- a new object, held back -/
theorem RelH.fresh (r : RelH R ρ φ H h) {p : Addr} {o : HO} (hp : H p = none) : RelH R ρ (p :: φ) (upd H p o) h := by
  have pn : p ∉ ρ := fun q => by obtain ⟨u, e⟩ := r.some_at q; rw [hp] at e; cases e
  refine ⟨r.len, r.nd, fun n a c ea ec => ?_, fun a ha => ?_, fun q hq => ⟨(r.gt q hq).1, (r.gt q hq).2.fresh hp⟩⟩
  · have ne : a ≠ p := fun z => pn (z ▸ List.mem_of_getElem? ea)
    have rc := r.cells n a c ea ec
    exact rc.mv (Mv.fresh hp _) rc.low (upd_ne ne)
  · rcases List.mem_cons.mp ha with rfl | ha
    · exact ⟨⟨o, upd_same⟩, pn⟩
    · obtain ⟨⟨u, e⟩, n⟩ := r.phi a ha
      refine ⟨⟨u, ?_⟩, n⟩
      rw [upd_ne (ne_of_none e hp)]; exact e
theorem RelH.weak (r : RelH R ρ φ H h) {φ' : List Addr} (w : ∀ a ∈ φ', a ∈ φ) : RelH R ρ φ' H h :=
  ⟨r.len, r.nd, fun n a c ea ec => (r.cells n a c ea ec).mv (Mv.weak w _) (r.cells n a c ea ec).low rfl, fun a ha => r.phi a (w a ha), fun p hp => ⟨(r.gt p hp).1, (r.gt p hp).2.weak w⟩⟩
theorem Ext.fresh {p : Addr} {o : HO} (hp : H p = none) : Ext ρ ρ H (upd H p o) :=
  ⟨⟨[], by simp⟩, fun _ q => .inl q, fun a u e _ => by rw [upd_ne (ne_of_none e hp)]; exact e, fun a u e => ⟨u, by rw [upd_ne (ne_of_none e hp)]; exact e⟩⟩
/-- a held back list becomes a cell -/
theorem RelH.cell {p : Addr} {c : Cell} (r : RelH R ρ (p :: φ) H h) (np : p ∉ φ) (hc : RCell R ρ (p :: φ) H p c) : RelH R (ρ ++ [p]) φ H (h ++ [c]) := by
  have hl := r.len
  have pn : p ∉ ρ := (r.phi p (by simp)).2
  refine ⟨by simp [hl], ?_, fun n a c' ea ec => ?_, fun a ha => ?_, fun q hq => ⟨(r.gt q hq).1, RD.mv (Mv.cell _) (r.gt q hq).2.low (r.gt q hq).2⟩⟩
  · rw [List.nodup_append]
    refine ⟨r.nd, by simp, fun x hx y hy => ?_⟩
    rcases List.mem_singleton.mp hy with rfl
    exact fun z => pn (z ▸ hx)
  · rcases Nat.lt_or_ge n ρ.length with q | q
    · rw [List.getElem?_append_left q] at ea
      rw [List.getElem?_append_left (by omega)] at ec
      have rc := r.cells n a c' ea ec
      exact rc.mv (Mv.cell _) rc.low rfl
    · have hn : n = ρ.length := by
        have := get_lt ea
        simp at this; omega
      subst hn
      rw [List.getElem?_append_right (by omega)] at ea
      rw [List.getElem?_append_right (by omega)] at ec
      simp [hl] at ea ec
      subst ea ec
      exact hc.mv (Mv.cell _) hc.low rfl
  · obtain ⟨x, n⟩ := r.phi a (by simp [ha])
    refine ⟨x, ?_⟩
    have : a ≠ p := fun z => np (z ▸ ha)
    simp [n, this]
theorem RelH.free (r : RelH R ρ φ H h) {p : Addr} (hp : H p = none) : p ∉ φ := fun q => by
  obtain ⟨⟨u, e⟩, _⟩ := r.phi p q
  rw [hp] at e; cases e
theorem Ext.cell {p : Addr} {H0 : Hp} {ρ0 : List Addr} (e : Ext ρ0 ρ H0 H) (hp : H0 p = none) : Ext ρ0 (ρ ++ [p]) H0 H := by
  obtain ⟨t, rfl⟩ := e.pre
  refine ⟨⟨t ++ [p], by simp⟩, fun a ha => ?_, e.keep, e.there⟩
  rcases List.mem_append.mp ha with q | q
  · exact e.new a q
  · rcases List.mem_singleton.mp q with rfl
    exact .inr hp
/-- a cell is written -/
theorem Ext.write {a : Addr} {o : HO} (ha : a ∈ ρ) : Ext ρ ρ H (upd H a o) :=
  ⟨⟨[], by simp⟩, fun _ q => .inl q, fun b u e n => by
    have ne : b ≠ a := fun z => n (z ▸ ha)
    rw [upd_ne ne]; exact e, fun b u e => by
    by_cases hb : b = a
    · subst hb; exact ⟨o, upd_same⟩
    · exact ⟨u, by rw [upd_ne hb]; exact e⟩⟩
theorem Mv.write {a : Addr} {o : HO} (ha : a ∈ ρ) (ok : D → Bool) : Mv R ρ φ H ρ φ (upd H a o) ok :=
  ⟨fun _ _ q => q.ext (Ext.write ha), fun _ _ q => q.ext (Ext.write ha), fun _ _ _ q => q⟩
theorem RelH.write (r : RelH R ρ φ H h) {n : Nat} {a : Addr} {o : HO} {c : Cell} (hn : ρ[n]? = some a) (hc : RCell R ρ φ (upd H a o) a c) : RelH R ρ φ (upd H a o) (h.set n c) := by
  have hm : a ∈ ρ := List.mem_of_getElem? hn
  refine ⟨by simp [r.len], r.nd, fun m b d eb ed => ?_, fun b hb => ?_, fun q hq => ⟨(r.gt q hq).1, (r.gt q hq).2.ext (Ext.write hm)⟩⟩
  · by_cases hmn : m = n
    · subst hmn
      rw [hn] at eb; cases eb
      rw [List.getElem?_set_self (by have := get_lt hn; have := r.len; omega)] at ed
      cases ed
      exact hc
    · rw [List.getElem?_set_ne (Ne.symm hmn)] at ed
      have ne : b ≠ a := fun z => by
        subst z
        exact hmn (nd_ix r.nd eb hn)
      have rc := r.cells m b d eb ed
      exact rc.mv (Mv.write hm _) rc.low (upd_ne ne)
  · obtain ⟨⟨u, e⟩, n'⟩ := r.phi b hb
    have ne : b ≠ a := fun z => n' (z ▸ hm)
    exact ⟨⟨u, by rw [upd_ne ne]; exact e⟩, n'⟩
/-- the cells from k on are forgotten -/
theorem Mv.cut {t : List Addr} : Mv R (ρ ++ t) φ H ρ φ H (D.low ρ.length) := by
  refine ⟨fun a xs q => ?_, fun a xs q => ?_, fun n a ok q => ?_⟩
  · obtain ⟨r, n, m⟩ := q
    exact ⟨r, fun z => n (by simp [z]), m⟩
  · obtain ⟨r, n, m⟩ := q
    exact ⟨r, fun z => n (by simp [z]), m⟩
  · simp only [D.low, decide_eq_true_eq] at ok
    rw [List.getElem?_append_left ok] at q; exact q
theorem RelH.cut {t : List Addr} (r : RelH R (ρ ++ t) φ H h) (ok : ∀ c ∈ h.take ρ.length, c.low ρ.length = true) : RelH R ρ φ H (h.take ρ.length) := by
  have hl := r.len
  simp at hl
  refine ⟨by simp; omega, (List.nodup_append.mp r.nd).1, fun n a c ea ec => ?_, fun a ha => ?_, fun q hq => ⟨(r.gt q hq).1, RD.mv Mv.cut (D.low_mono (Nat.zero_le _) (r.gt q hq).1) (r.gt q hq).2⟩⟩
  · have hn := get_lt ea
    rw [List.getElem?_take] at ec
    rw [if_pos hn] at ec
    have rc := r.cells n a c (by rw [List.getElem?_append_left hn]; exact ea) ec
    refine rc.mv Mv.cut (ok c ?_) rfl
    rw [List.mem_iff_getElem?]
    exact ⟨n, by rw [List.getElem?_take, if_pos hn]; exact ec⟩
  · obtain ⟨x, n⟩ := r.phi a ha
    exact ⟨x, fun z => n (by simp [z])⟩
theorem Ext.cut {ρ' : List Addr} {H' : Hp} (e : Ext ρ ρ' H H') : Ext ρ ρ H H' := ⟨⟨[], by simp⟩, fun _ q => .inl q, e.keep, e.there⟩
end

theorem Ext.none {ρ ρ' : List Addr} {H H' : Hp} (e : Ext ρ ρ' H H') {p : Addr} (h : H' p = none) : H p = none := by
  cases q : H p with
  | none => rfl
  | some o =>
    obtain ⟨o', h'⟩ := e.there p o q
    rw [h] at h'; cases h'
/-- the states that come after one -/
structure Later (ρ φ : List Addr) (H : Hp) (ρ' φ' : List Addr) (H' : Hp) : Prop where
  ext : Ext ρ ρ' H H'
  phi : ∀ a ∈ φ', a ∈ φ ∨ H a = none
theorem Later.of {ρ φ ρ' : List Addr} {H H' : Hp} (e : Ext ρ ρ' H H') : Later ρ φ H ρ' φ H' := ⟨e, fun _ h => .inl h⟩
theorem Later.trans {ρ φ ρ1 φ1 ρ2 φ2 : List Addr} {H H1 H2 : Hp} (a : Later ρ φ H ρ1 φ1 H1) (b : Later ρ1 φ1 H1 ρ2 φ2 H2) : Later ρ φ H ρ2 φ2 H2 :=
  ⟨a.ext.trans b.ext, fun c hc => (b.phi c hc).elim (a.phi c) fun h => .inr (a.ext.none h)⟩
theorem Later.fresh {ρ φ : List Addr} {H : Hp} {p : Addr} {o : HO} (hp : H p = none) : Later ρ φ H ρ (p :: φ) (upd H p o) :=
  ⟨Ext.fresh hp, fun a ha => by rcases List.mem_cons.mp ha with rfl | h; exact .inr hp; exact .inl h⟩
theorem Later.mv {R : RC} {ρ φ ρ' φ' : List Addr} {H H' : Hp} (l : Later ρ φ H ρ' φ' H') (ok : D → Bool) : Mv R ρ φ H ρ' φ' H' ok := by
  have at_ : ∀ a o, H a = some o → a ∉ ρ → a ∉ φ → H' a = some o ∧ a ∉ ρ' ∧ a ∉ φ' := fun a o h n m => by
    refine ⟨l.ext.keep a o h n, fun z => ?_, fun z => ?_⟩
    · rcases l.ext.new a z with q | q
      · exact n q
      · rw [h] at q; cases q
    · rcases l.phi a z with q | q
      · exact m q
      · rw [h] at q; cases q
  exact ⟨fun a xs ⟨h, n, m⟩ => at_ a _ h n m, fun a xs ⟨h, n, m⟩ => at_ a _ h n m, fun n a _ h => l.ext.get h⟩
theorem RD.later {R : RC} {ρ φ ρ' φ' : List Addr} {H H' : Hp} {d : D} {v : V} (h : RD R ρ φ H d v) (l : Later ρ φ H ρ' φ' H') : RD R ρ' φ' H' d v := RD.mv (l.mv _) h.low h
theorem RDs.later {R : RC} {ρ φ ρ' φ' : List Addr} {H H' : Hp} {ds : List D} {vs : List V} (h : RDs R ρ φ H ds vs) (l : Later ρ φ H ρ' φ' H') : RDs R ρ' φ' H' ds vs := RDs.mv (l.mv _) h.low h

/-! ## slots -/
abbrev CSt := List (Option D)
structure RelS (R : RC) (ρ φ : List Addr) (H : Hp) (c : CSt) (σ : L2.St) : Prop where
  len : c.length = σ.length
  at_ : ∀ (i : Nat) (d : D), c[i]? = some (some d) → ∃ v, σ[i]? = some (some v) ∧ RD R ρ φ H d v
section
variable {R : RC} {ρ φ : List Addr} {H : Hp} {c : CSt} {σ : L2.St}
theorem RelS.ext {ρ' : List Addr} {H' : Hp} (r : RelS R ρ φ H c σ) (e : Ext ρ ρ' H H') : RelS R ρ' φ H' c σ :=
  ⟨r.len, fun i d q => by obtain ⟨v, h1, h2⟩ := r.at_ i d q; exact ⟨v, h1, h2.ext e⟩⟩
theorem RelS.set (r : RelS R ρ φ H c σ) {d : D} {v : V} (i : Nat) (h : RD R ρ φ H d v) : RelS R ρ φ H (c.set i (some d)) (σ.set i (some v)) := by
  refine ⟨by simp [r.len], fun j e q => ?_⟩
  by_cases hj : j = i
  · subst hj
    have hlt := get_lt q
    simp at hlt
    rw [List.getElem?_set_self hlt] at q
    cases q
    exact ⟨v, by rw [List.getElem?_set_self (by have := r.len; omega)], h⟩
  · rw [List.getElem?_set_ne (Ne.symm hj)] at q
    rw [List.getElem?_set_ne (Ne.symm hj)]
    exact r.at_ j e q
theorem RelS.unset (r : RelS R ρ φ H c σ) (i : Nat) : RelS R ρ φ H (c.set i none) σ := by
  refine ⟨by simp [r.len], fun j e q => ?_⟩
  by_cases hj : j = i
  · subst hj
    have hlt := get_lt q
    simp at hlt
    rw [List.getElem?_set_self hlt] at q
    cases q
  · rw [List.getElem?_set_ne (Ne.symm hj)] at q
    exact r.at_ j e q
theorem RelS.fresh {p : Addr} {o : HO} (r : RelS R ρ φ H c σ) (hp : H p = none) : RelS R ρ (p :: φ) (upd H p o) c σ :=
  ⟨r.len, fun i d q => by obtain ⟨v, h1, h2⟩ := r.at_ i d q; exact ⟨v, h1, h2.fresh hp⟩⟩
theorem RelS.weak {φ' : List Addr} (w : ∀ a ∈ φ', a ∈ φ) (r : RelS R ρ φ H c σ) : RelS R ρ φ' H c σ :=
  ⟨r.len, fun i d q => by obtain ⟨v, h1, h2⟩ := r.at_ i d q; exact ⟨v, h1, h2.weak w⟩⟩
end
end Cl

namespace Cl
open PySem PySem.Spec PyProof.Rows L2

/-! ## the small language -/
mutual
inductive Tg where
  | v (i : Nat)
  | t (ts : Tgs)
inductive Tgs where
  | nil
  | cons (t : Tg) (ts : Tgs)
end
inductive Ty where
  | int | bool | str | tuple | list | dict
  deriving DecidableEq
inductive Bi where
  | len | abs | int | tuple | list | sorted | sortedR | sum | all | any | max | min | max2 | min2 | str | lenset
  deriving DecidableEq
mutual
inductive CE where
  | var (i : Nat)
  | cst (d : D)
  | glob (x : Str) (d : D)
  | bin (op : Operator) (a b : CE)
  | neg (a : CE)
  | not_ (a : CE)
  | cmp (op : CmpOp) (a b : CE)
  | chain (op op' : CmpOp) (a b c : CE)
  | and_ (a b : CE)
  | or_ (a b : CE)
  | ite (t a b : CE)
  | call (f : Nat) (args : CEs)
  | bi (b : Bi) (args : CEs)
  | isin (a : CE) (ts : List Ty)
  | pop (o : CE)
  | idx (a i : CE)
  | sl (a lo hi : CE)
  | rev (a : CE)
  | absent
  | tup (es : CEs)
  | lst (es : CEs)
  | comp (elt : CE) (t : Tg) (it : CI) (cond : CE) (own : List Nat)
  | lrange (it : CI)
  | cell (e : CE)
  | dict0 (t : Bool)
  | dget (o k d : CE)
  | callv (fe : CE) (fs : List Nat) (args : CEs)
inductive CEs where
  | nil
  | cons (e : CE) (es : CEs)
inductive CI where
  | seq (e : CE)
  | rng1 (a : CE)
  | rng2 (a b : CE)
  | rng3 (a b c : CE)
  | enum (e : CE)
  | zip (a b : CE)
end
mutual
inductive CS where
  | asg (t : Tg) (e : CE)
  | aug (i : Nat) (op : Operator) (e : CE)
  | sput (o i e : CE)
  | saug (o i : CE) (op : Operator) (e : CE)
  | expr (e : CE)
  | app (o e : CE)
  | ifs (t : CE) (a b : CSs)
  | for_ (t : Tg) (it : CI) (body : CSs)
  | whl (t : CE) (body : CSs)
  | ret (e : CE)
  | retN
  | brk
  | pass
  | raise (x : Nat) (e : CE)
  | try_ (body : CSs) (x : Nat) (suite : CSs)
  | kill (is : List Nat)
  | scope (ss : CSs)
inductive CSs where
  | nil
  | cons (s : CS) (ss : CSs)
end
structure Exc where
  cls : Nat
  arg : Option D
inductive ERes (α : Type) where
  | ok (a : α) (h : Hc)
  | exc (x : Exc) (h : Hc)
  | stuck
inductive Fl where
  | nx (σ : CSt) | rt (d : D) | bk (σ : CSt) | ct (σ : CSt)
inductive SRes where
  | ok (f : Fl) (h : Hc)
  | exc (x : Exc) (σ : CSt) (h : Hc)
  | stuck
def ERes.bind {α β : Type} (x : ERes α) (f : α → Hc → ERes β) : ERes β :=
  match x with
  | .ok a h => f a h
  | .exc x h => .exc x h
  | .stuck => .stuck
def ofO {α : Type} (x : Option α) (h : Hc) : ERes α :=
  match x with
  | some a => .ok a h
  | none => .stuck

/-! ## what the operators do -/
mutual
def D.toPy : D → PyData
  | .non => .none
  | .bl b => .bool b
  | .int i => .int i
  | .str x => .str x
  | .tup xs => .tuple (D.toPys xs)
  | .lst xs => .list (D.toPys xs)
  | .ref _ => .none
  | .fn _ => .none
def D.toPys : List D → List PyData
  | [] => []
  | x :: xs => D.toPy x :: D.toPys xs
end
mutual
/-- plain data -/
def D.plain : D → Bool
  | .tup xs => D.plains xs
  | .lst xs => D.plains xs
  | .ref _ => false
  | .fn _ => false
  | _ => true
def D.plains : List D → Bool
  | [] => true
  | x :: xs => D.plain x && D.plains xs
end
def D.okD (d : D) : Bool := d.plain && SeqAt.shaped d.toPy
def der (h : Hc) : D → D
  | .ref n => match h[n]? with
    | some (.lst xs) => .lst xs
    | some (.ro xs) => .lst xs
    | _ => .ref n
  | d => d
/-- a list that is no locked one -/
def derM (h : Hc) : D → D
  | .ref n => match h[n]? with
    | some (.lst xs) => .lst xs
    | _ => .ref n
  | d => d
def seqD (h : Hc) : D → Option (List D)
  | .tup xs => some xs
  | .lst xs => some xs
  | .ref n => match h[n]? with
    | some (.lst xs) => some xs
    | some (.ro xs) => some xs
    | _ => none
  | _ => none
def bitsI (i : Int) : Nat := Builtin.Int.intBits i
def mulOk (i j : Int) : Bool := decide (bitsI i ≤ 64) || decide (bitsI j ≤ 64) || decide (bitsI i + bitsI j ≤ 134217728)
def divOk (j : Int) : Bool := decide (j ≠ 0) && decide (j.natAbs.log2 < 9000)
def line : Nat := 16777216
def addL (h : Hc) (a b : D) : Option D :=
  match derM h a, derM h b with
  | .lst a, .lst b => if a.length + b.length ≤ line then some (.lst (a ++ b)) else none
  | _, _ => none
def addF (h : Hc) : D → D → Option D
  | .int a, .int b => some (.int (a + b))
  | .str a, .str b => if a.length + b.length ≤ line then some (.str (a ++ b)) else none
  | .tup a, .tup b => if a.length + b.length ≤ line then some (.tup (a ++ b)) else none
  | a, b => addL h a b
def mulL (h : Hc) (a : D) (b : Int) : Option D :=
  match derM h a with
  | .lst a => if -(2 ^ 63) ≤ b ∧ b < 2 ^ 63 ∧ a.length * b.toNat ≤ line then some (.lst (List.replicate b.toNat a).flatten) else none
  | _ => none
def mulF (h : Hc) : D → D → Option D
  | .int a, .int b => if mulOk a b then some (.int (a * b)) else none
  | .tup a, .int b => if -(2 ^ 63) ≤ b ∧ b < 2 ^ 63 ∧ a.length * b.toNat ≤ line then some (.tup (List.replicate b.toNat a).flatten) else none
  | a, .int b => mulL h a b
  | _, _ => none
def int2 (f : Int → Int → Option Int) : D → D → Option D
  | .int a, .int b => (f a b).map .int
  | _, _ => none
def binF (h : Hc) : Operator → D → D → Option D
  | .Add => addF h
  | .Sub => int2 fun a b => some (a - b)
  | .Mult => mulF h
  | .FloorDiv => int2 fun a b => if divOk b then some (a.fdiv b) else none
  | .Mod => int2 fun a b => if b = 0 then none else some (a.fmod b)
  | .Pow => int2 fun a b => if 0 ≤ b ∧ b ≤ 1000000 ∧ a.natAbs < 2 ^ 64 then some (a ^ b.toNat) else none
  | .LShift => int2 fun a b => if 0 ≤ b ∧ (bitsI a : Int) + b ≤ 134217728 then some (a * 2 ^ b.toNat) else none
  | .RShift => int2 fun a b => if 0 ≤ b then some (a / 2 ^ b.toNat) else none
  | .BitAnd => int2 fun a b => some (Builtin.bitAnd a b)
  | _ => fun _ _ => none
def eqG (h : Hc) (a b : D) : Option Bool :=
  if (der h a).okD && (der h b).okD then some (PyData.eqv (der h a).toPy (der h b).toPy) else none
def eqF (h : Hc) : D → D → Option Bool
  | .int a, .int b => some (decide (a = b))
  | .non, .int _ => some false
  | .int _, .non => some false
  | a, b => eqG h a b
def D.isN : D → Bool
  | .non => true
  | _ => false
def ltG (h : Hc) (a b : D) : Option Bool :=
  if (der h a).okD && (der h b).okD && PySem.W.alike (der h a).toPy (der h b).toPy && !(der h a).isN then some (PySem.W.dataLt (der h a).toPy (der h b).toPy) else none
/-- a < b -/
def ltF (h : Hc) : D → D → Option Bool
  | .int a, .int b => some (decide (a < b))
  | a, b => ltG h a b
inductive Kd where
  | non | bool | int | str | tuple | list | dict
  deriving DecidableEq
def kdD (h : Hc) : D → Option Kd
  | .non => some .non
  | .bl _ => some .bool
  | .int _ => some .int
  | .str _ => some .str
  | .tup _ => some .tuple
  | .lst _ => some .list
  | .ref n => match h[n]? with
    | some (.lst _) => some .list
    | some (.ro _) => some .list
    | some (.dK _) => some .dict
    | some (.dT _) => some .dict
    | none => none
  | .fn _ => none
def kdTy : Kd → Ty → Bool
  | .int, .int => true
  | .bool, .int => true
  | .bool, .bool => true
  | .str, .str => true
  | .tuple, .tuple => true
  | .list, .list => true
  | .dict, .dict => true
  | _, _ => false
def isDictD (h : Hc) : D → Bool
  | .ref n => match h[n]? with
    | some (.dK _) => true
    | some (.dT _) => true
    | _ => false
  | _ => false
def isLstD (h : Hc) : D → Bool
  | .ref n => match h[n]? with
    | some (.lst _) => true
    | _ => false
  | _ => false
def isFs (h : Hc) (ts : List Ty) (d : D) : Option Bool := (kdD h d).map fun k => ts.any (kdTy k)
def ixD (n : Nat) (i : Int) : Option Nat := if 0 ≤ i then (if i < n then some i.toNat else none) else if -(n : Int) ≤ i then some (i + n).toNat else none
def atD {α : Type} (xs : List α) (i : Int) : Option α := (ixD xs.length i).bind fun j => xs[j]?
def slx (n d : Nat) : Option Int → Nat
  | none => d
  | some v => if v < 0 then (v + (n : Int)).toNat else min v.toNat n
def cutD {α : Type} (xs : List α) (lo hi : Option Int) : List α := (xs.drop (slx xs.length 0 lo)).take (slx xs.length xs.length hi - slx xs.length 0 lo)
def keyD : D → Option Key
  | .int i => some (.inl i)
  | .str x => some (.inr x)
  | _ => none
def keysD : List D → Option (List Key)
  | [] => some []
  | d :: ds => match keyD d, keysD ds with
    | some k, some ks => some (k :: ks)
    | _, _ => none
def tkeyD : D → Option (List Key)
  | .tup ds => keysD ds
  | _ => none
def valD {κ : Type} [DecidableEq κ] (kvs : List (κ × D)) (k : κ) : Option D := (kvs.find? fun kv => decide (kv.1 = k)).map (·.2)
def putD {κ : Type} [DecidableEq κ] (kvs : List (κ × D)) (k : κ) (v : D) : List (κ × D) :=
  if (kvs.any fun kv => decide (kv.1 = k)) = true then kvs.map fun kv => if kv.1 = k then (kv.1, v) else kv else kvs ++ [(k, v)]
/-- d[k]: a dict's value, if there -/
def lookD (h : Hc) (n : Nat) (k : D) : Option (Option D) :=
  match h[n]? with
  | some (.dK kvs) => (keyD k).map fun k => valD kvs k
  | some (.dT kvs) => (tkeyD k).map fun k => valD kvs k
  | _ => none
def inData (h : Hc) (x : D) (y : D) (ys : List D) : Option Bool :=
  if (der h x).okD && y.okD then some (ys.any fun z => PyData.eqv z.toPy (der h x).toPy) else none
def inF (h : Hc) (x : D) (y : D) : Option Bool :=
  match der h y with
  | .lst ys => inData h x (.lst ys) ys
  | .tup ys => inData h x (.tup ys) ys
  | .str t => match x with
    | .str s => some (!(Builtin.Str.occurrences t s 0 t.length 1).isEmpty)
    | _ => none
  | .ref n => (lookD h n x).map Option.isSome
  | _ => none
def isNon (a b : D) : Option Bool :=
  match b with
  | .non => some a.isN
  | _ => none
def cmpF (h : Hc) : CmpOp → D → D → Option Bool
  | .Eq, a, b => eqF h a b
  | .NotEq, a, b => (eqF h a b).map (!·)
  | .Lt, a, b => ltF h a b
  | .Gt, a, b => ltF h b a
  | .LtE, a, b => (ltF h b a).map (!·)
  | .GtE, a, b => (ltF h a b).map (!·)
  | .Is, a, b => isNon a b
  | .IsNot, a, b => (isNon a b).map (!·)
  | .In, a, b => inF h a b
  | .NotIn, a, b => (inF h a b).map (!·)
def idxF (h : Hc) (a i : D) : Option D :=
  match a, i with
  | .str x, .int i => if x.length ≤ line then (atD x.cps.toList i).map fun c => .str ⟨#[c]⟩ else none
  | .ref n, i => match h[n]? with
    | some (.lst xs) => match i with | .int i => atD xs i | _ => none
    | some (.ro xs) => match i with | .int i => atD xs i | _ => none
    | _ => (lookD h n i).bind id
  | .tup xs, .int i => atD xs i
  | .lst xs, .int i => atD xs i
  | _, _ => none
def putF (h : Hc) (o i v : D) : Option Hc :=
  match o with
  | .ref n => match h[n]? with
    | some (.lst xs) => match i with
      | .int i => (ixD xs.length i).map fun j => h.set n (.lst (xs.set j v))
      | _ => none
    | some (.dK kvs) => if kvs.length < line then (keyD i).map fun k => h.set n (.dK (putD kvs k v)) else none
    | some (.dT kvs) => if kvs.length < line then (tkeyD i).map fun k => h.set n (.dT (putD kvs k v)) else none
    | _ => none
  | _ => none
def sliceF (h : Hc) (a : D) (lo hi : Option Int) : Option D :=
  match der h a with
  | .tup xs => some (.tup (cutD xs lo hi))
  | .lst xs => some (.lst (cutD xs lo hi))
  | .str x => if x.length ≤ line then some (.str ⟨(cutD x.cps.toList lo hi).toArray⟩) else none
  | _ => none
def revF (h : Hc) (a : D) : Option D :=
  match der h a with
  | .tup xs => some (.tup xs.reverse)
  | .lst xs => some (.lst xs.reverse)
  | _ => none
/-- a list's items -/
def lstD (h : Hc) : D → Option (List D)
  | .lst xs => some xs
  | .ref n => match h[n]? with
    | some (.lst xs) => some xs
    | some (.ro xs) => some xs
    | _ => none
  | _ => none
/-- stable sort by a Bool order -/
def insD (le : D → D → Bool) (x : D) : List D → List D
  | [] => [x]
  | y :: ys => if le x y then x :: y :: ys else y :: insD le x ys
def sortD (le : D → D → Bool) : List D → List D
  | [] => []
  | x :: xs => insD le x (sortD le xs)
def leD (a b : D) : Bool := !PySem.W.dataLt b.toPy a.toPy
def alikes (xs : List D) : Bool := xs.all fun x => xs.all fun y => PySem.W.alike x.toPy y.toPy
def D.isTup1 : D → Bool
  | .tup (_ :: _) => true
  | _ => false
def D.isFlat : D → Bool
  | .tup _ => false
  | .non => false
  | .ref _ => false
  | .fn _ => false
  | _ => true
def sortable (xs : List D) : Bool := xs.all D.isTup1 || xs.all D.isFlat
def sumI : List D → Option Int
  | [] => some 0
  | .int i :: xs => (sumI xs).map (i + ·)
  | _ => none
def allB : List D → Option (List Bool)
  | [] => some []
  | .bl b :: xs => (allB xs).map (b :: ·)
  | _ => none
def intsD : List D → Option (List Int)
  | [] => some []
  | .int i :: xs => (intsD xs).map (i :: ·)
  | _ => none
/-- sorted(xs): also of a tuple -/
def sortF (xs : List D) : Option (List D) := if (D.lst xs).okD && alikes xs && sortable xs && decide (xs.length ≤ line) then some (sortD leD xs) else none
def lenF (h : Hc) (d : D) : Option D :=
  match d with
  | .str x => if x.length ≤ line then some (.int x.length) else none
  | d => match seqD h d with
    | some xs => some (.int xs.length)
    | none => match d with
      | .ref n => match h[n]? with
        | some (.dK kvs) => some (.int kvs.length)
        | _ => none
      | _ => none
def intF : D → Option D
  | .int i => some (.int i)
  | .bl b => some (.int (if b then 1 else 0))
  | _ => none
def biF (h : Hc) : Bi → List D → Option D
  | .len, [d] => lenF h d
  | .abs, [.int i] => some (.int (if i < 0 then -i else i))
  | .int, [d] => intF d
  | .tuple, [d] => (seqD h d).map fun xs => .tup xs
  | .list, [d] => (seqD h d).map fun xs => .lst xs
  | .sorted, [d] => ((seqD h d).bind sortF).map .lst
  | .sum, [d] => (seqD h d).bind fun xs => (sumI xs).map .int
  | .all, [d] => (lstD h d).bind fun xs => (allB xs).map fun bs => .bl (bs.all id)
  | .any, [d] => (lstD h d).bind fun xs => (allB xs).map fun bs => .bl (bs.any id)
  | .max, [d] => (seqD h d).bind fun xs => match intsD xs with | some (x :: xs) => some (.int (xs.foldl max x)) | _ => none
  | .min, [d] => (seqD h d).bind fun xs => match intsD xs with | some (x :: xs) => some (.int (xs.foldl min x)) | _ => none
  | .max2, [.int a, .int b] => some (.int (if b > a then b else a))
  | .min2, [.int a, .int b] => some (.int (if b < a then b else a))
  | .str, [.int i] => if i.natAbs.log2 < 1920 then some (.str (toString i)) else none
  | .lenset, [d] => (lstD h d).bind fun xs => (intsD xs).bind fun is => if is.length ≤ 4000 then some (.int (firstMet (fun i => is.getD i 0) is.length).length) else none
  | _, _ => none

/-! ## the runs -/
abbrev Guard := List (Nat × Cell)
def gOk (g : Guard) (h : Hc) : Bool := g.all fun p => decide (h[p.1]? = some p.2)
def cwipe (σ : CSt) : List Nat → CSt
  | [] => σ
  | v :: vs => (cwipe σ vs).set v none
mutual
def asgT : Tg → D → CSt → Option CSt
  | .v i, d, σ => some (σ.set i (some d))
  | .t ts, d, σ => match d with
    | .tup ds => asgTs ts ds σ
    | _ => none
def asgTs : Tgs → List D → CSt → Option CSt
  | .nil, [], σ => some σ
  | .cons t ts, d :: ds, σ => match asgT t d σ with
    | some σ' => asgTs ts ds σ'
    | none => none
  | _, _, _ => none
end
abbrev EvF := CSt → Hc → ERes D
def boolR (r : ERes D) : ERes Bool :=
  match r with
  | .ok (.bl b) h => .ok b h
  | .ok _ _ => .stuck
  | .exc x h => .exc x h
  | .stuck => .stuck
def compF (fe fc : EvF) (t : Tg) (g : Guard) (σ : CSt) : List D → Hc → ERes (List D)
  | [], h => if gOk g h then .ok [] h else .stuck
  | x :: xs, h => if gOk g h then
      match asgT t x σ with
      | some σ' => match boolR (fc σ' h) with
        | .ok true h1 => match fe σ' h1 with
          | .ok y h2 => match compF fe fc t g σ xs h2 with
            | .ok ys h3 => .ok (y :: ys) h3
            | _ => .stuck
          | _ => .stuck
        | .ok false h1 => compF fe fc t g σ xs h1
        | _ => .stuck
      | none => .stuck
    else .stuck
def lmap (zs : List D) (r : ERes (List D)) : ERes D :=
  match r with
  | .ok ys h => .ok (.lst (zs ++ ys)) h
  | _ => .stuck
def guardOf (h : Hc) : D → Guard
  | .ref n => match h[n]? with
    | some c => [(n, c)]
    | none => []
  | _ => []
def rngD (a : Int) (c : Int) : Nat → List D
  | 0 => []
  | n + 1 => .int a :: rngD (a + c) c n
def enumD (i : Nat) : List D → List D
  | [] => []
  | x :: xs => .tup [.int i, x] :: enumD (i + 1) xs
def zipD : List D → List D → List D
  | x :: xs, y :: ys => .tup [x, y] :: zipD xs ys
  | _, _ => []
def smallI (a : Int) : Bool := decide (-(2 ^ 62) ≤ a) && decide (a < 2 ^ 62)
def rngN (i j c : Int) : Nat := if 0 < c then ((j - i + c - 1) / c).toNat else ((i - j - c - 1) / (-c)).toNat
structure Itd where
  xs : List D
  g : Guard
def CE.isAbs : CE → Bool
  | .absent => true
  | _ => false
def optR (abs : Bool) (f : Hc → ERes D) (h : Hc) : ERes (Option Int) :=
  if abs then .ok none h else (f h).bind fun d h => match d with
    | .int i => .ok (some i) h
    | _ => .stuck
def condR (abs : Bool) (f : EvF) : EvF := fun σ h => if abs then .ok (.bl true) h else f σ h
abbrev Caller := Nat → List D → Hc → ERes D
mutual
def evE (C : Caller) : CE → CSt → Hc → ERes D
  | .var i, σ, h => match σ[i]? with
    | some (some d) => .ok d h
    | _ => .stuck
  | .cst d, _, h => .ok d h
  | .glob _ d, _, h => .ok d h
  | .bin op a b, σ, h => (evE C a σ h).bind fun x h => (evE C b σ h).bind fun y h => ofO (binF h op x y) h
  | .neg a, σ, h => (evE C a σ h).bind fun x h => match x with
    | .int i => .ok (.int (-i)) h
    | _ => .stuck
  | .not_ a, σ, h => (evE C a σ h).bind fun x h => match x with
    | .bl b => .ok (.bl (!b)) h
    | _ => .stuck
  | .cmp op a b, σ, h => (evE C a σ h).bind fun x h => (evE C b σ h).bind fun y h => ofO ((cmpF h op x y).map .bl) h
  | .chain op op' a b c, σ, h => (evE C a σ h).bind fun x h => (evE C b σ h).bind fun y h => match cmpF h op x y with
    | some true => (evE C c σ h).bind fun z h => ofO ((cmpF h op' y z).map .bl) h
    | some false => .ok (.bl false) h
    | none => .stuck
  | .and_ a b, σ, h => (evE C a σ h).bind fun x h => match x with
    | .bl true => evE C b σ h
    | .bl false => .ok (.bl false) h
    | _ => .stuck
  | .or_ a b, σ, h => (evE C a σ h).bind fun x h => match x with
    | .bl true => .ok (.bl true) h
    | .bl false => evE C b σ h
    | _ => .stuck
  | .ite t a b, σ, h => (evE C t σ h).bind fun x h => match x with
    | .bl true => evE C a σ h
    | .bl false => evE C b σ h
    | _ => .stuck
  | .call f args, σ, h => (evEs C args σ h).bind fun ds h => C f ds h
  | .bi b args, σ, h => (evEs C args σ h).bind fun ds h => ofO (biF h b ds) h
  | .callv fe fs args, σ, h => (evE C fe σ h).bind fun x h => match x with
    | .fn i => if i ∈ fs then (evEs C args σ h).bind fun ds h => C i ds h else .stuck
    | _ => .stuck
  | .isin a ts, σ, h => (evE C a σ h).bind fun x h => ofO ((isFs h ts x).map .bl) h
  | .pop o, σ, h => (evE C o σ h).bind fun x h => match x with
    | .ref n => match h[n]? with
      | some (.lst xs) => match xs[xs.length - 1]? with
        | some d => .ok d (h.set n (.lst xs.dropLast))
        | none => .stuck
      | _ => .stuck
    | _ => .stuck
  | .idx a i, σ, h => (evE C a σ h).bind fun x h => (evE C i σ h).bind fun y h => ofO (idxF h x y) h
  | .sl a lo hi, σ, h => (evE C a σ h).bind fun x h => (optR lo.isAbs (evE C lo σ) h).bind fun l h => (optR hi.isAbs (evE C hi σ) h).bind fun u h => ofO (sliceF h x l u) h
  | .rev a, σ, h => (evE C a σ h).bind fun x h => ofO (revF h x) h
  | .absent, _, _ => .stuck
  | .tup es, σ, h => (evEs C es σ h).bind fun ds h => .ok (.tup ds) h
  | .lst es, σ, h => (evEs C es σ h).bind fun ds h => .ok (.lst ds) h
  | .comp elt t it cond own, σ, h => (evI C it σ h).bind fun d h => if d.xs.length ≤ line then lmap [] (compF (evE C elt) (condR cond.isAbs (evE C cond)) t d.g (cwipe σ own) d.xs h) else .stuck
  | .lrange it, σ, h => (evI C it σ h).bind fun d h => if d.xs.length ≤ line then .ok (.lst d.xs) h else .stuck
  | .cell e, σ, h => (evE C e σ h).bind fun x h => match x with
    | .lst xs => .ok (.ref h.length) (h ++ [.lst xs])
    | _ => .stuck
  | .dict0 t, _, h => .ok (.ref h.length) (h ++ [if t then .dT [] else .dK []])
  | .dget o k d, σ, h => (evE C o σ h).bind fun x h => if isDictD h x then (evE C k σ h).bind fun y h => (evE C d σ h).bind fun z h => match x with
    | .ref n => match lookD h n y with
      | some r => .ok (r.getD z) h
      | none => .stuck
    | _ => .stuck
    else .stuck
def evEs (C : Caller) : CEs → CSt → Hc → ERes (List D)
  | .nil, _, h => .ok [] h
  | .cons e es, σ, h => (evE C e σ h).bind fun d h => (evEs C es σ h).bind fun ds h => .ok (d :: ds) h
def evI (C : Caller) : CI → CSt → Hc → ERes Itd
  | .seq e, σ, h => (evE C e σ h).bind fun d h => match seqD h d with
    | some xs => .ok ⟨xs, guardOf h d⟩ h
    | none => .stuck
  | .rng1 a, σ, h => (evE C a σ h).bind fun d h => match d with
    | .int j => if smallI j then .ok ⟨rngD 0 1 j.toNat, []⟩ h else .stuck
    | _ => .stuck
  | .rng2 a b, σ, h => (evE C a σ h).bind fun d h => (evE C b σ h).bind fun e h => match d, e with
    | .int i, .int j => if smallI i && smallI j then .ok ⟨rngD i 1 (j - i).toNat, []⟩ h else .stuck
    | _, _ => .stuck
  | .rng3 a b c, σ, h => (evE C a σ h).bind fun d h => (evE C b σ h).bind fun e h => (evE C c σ h).bind fun f h => match d, e, f with
    | .int i, .int j, .int k => if Builtin.Range.small i j k && decide (k ≠ 0) && decide (k.natAbs < 1073741824) && decide (Builtin.Range.rangeSize i j k = (rngN i j k : Nat)) then .ok ⟨rngD i k (rngN i j k), []⟩ h else .stuck
    | _, _, _ => .stuck
  | .enum e, σ, h => (evE C e σ h).bind fun d h => match seqD h d with
    | some xs => .ok ⟨enumD 0 xs, guardOf h d⟩ h
    | none => .stuck
  | .zip a b, σ, h => (evE C a σ h).bind fun d h => (evE C b σ h).bind fun e h => match seqD h d, seqD h e with
    | some xs, some ys => .ok ⟨zipD xs ys, guardOf h d ++ guardOf h e⟩ h
    | _, _ => .stuck
end

def wFuel : Nat := 1000000000
def testR (r : ERes D) : ERes Bool := boolR r
def forF (fb : CSt → Hc → SRes) (t : Tg) (g : Guard) : List D → CSt → Hc → SRes
  | [], σ, h => if gOk g h then .ok (.nx σ) h else .stuck
  | x :: xs, σ, h => if gOk g h then
      match asgT t x σ with
      | some σ' => match fb σ' h with
        | .ok (.nx σ2) h2 => forF fb t g xs σ2 h2
        | .ok (.ct σ2) h2 => forF fb t g xs σ2 h2
        | .ok (.bk σ2) h2 => .ok (.nx σ2) h2
        | .ok (.rt d) h2 => .ok (.rt d) h2
        | .exc x σ2 h2 => .exc x σ2 h2
        | .stuck => .stuck
      | none => .stuck
    else .stuck
def whF (fc : EvF) (fb : CSt → Hc → SRes) : Nat → CSt → Hc → SRes
  | 0, _, _ => .stuck
  | k + 1, σ, h => match boolR (fc σ h) with
    | .ok false h1 => .ok (.nx σ) h1
    | .ok true h1 => match fb σ h1 with
      | .ok (.nx σ2) h2 => whF fc fb k σ2 h2
      | .ok (.ct σ2) h2 => whF fc fb k σ2 h2
      | .ok (.bk σ2) h2 => .ok (.nx σ2) h2
      | .ok (.rt d) h2 => .ok (.rt d) h2
      | .exc x σ2 h2 => .exc x σ2 h2
      | .stuck => .stuck
    | .exc x h1 => .exc x σ h1
    | .stuck => .stuck
/-- an expression's result within a statement -/
def ERes.st {α : Type} (r : ERes α) (σ : CSt) (f : α → Hc → SRes) : SRes :=
  match r with
  | .ok a h => f a h
  | .exc x h => .exc x σ h
  | .stuck => .stuck
def stO {α : Type} (o : Option α) (f : α → SRes) : SRes :=
  match o with
  | some a => f a
  | none => .stuck
def ckill (σ : CSt) (is : List Nat) : CSt := cwipe σ is
def lowSt (n : Nat) (σ : CSt) : Bool := σ.all fun o => match o with | some d => d.low n | none => true
/-- may the cells from n on be forgotten -/
def cutOk (n : Nat) (h h' : Hc) : Bool := (List.zip (h'.take n) h).all fun p => p.1.low n || decide (p.1 = p.2)
def scopeR (h : Hc) (r : SRes) : SRes :=
  match r with
  | .ok (.nx σ) h' => if lowSt h.length σ && cutOk h.length h h' then .ok (.nx σ) (h'.take h.length) else .ok (.nx σ) h'
  | r => r
def refIdx (h : Hc) (x y : D) : Option D :=
  match x with
  | .ref n => idxF h (.ref n) y
  | _ => none
def noExc (r : SRes) : SRes :=
  match r with
  | .exc _ _ _ => .stuck
  | r => r
structure Env2 where
  C : Caller
  sub : Nat → Nat → Option Bool
mutual
def evS (P : Env2) : CS → CSt → Hc → SRes
  | .asg t e, σ, h => (evE P.C e σ h).st σ fun d h => stO (asgT t d σ) fun σ' => .ok (.nx σ') h
  | .aug i op e, σ, h => match σ[i]? with
    | some (some x) => (evE P.C e σ h).st σ fun y h => match x, y with
      | .int a, .int b => stO (binF h op (.int a) (.int b)) fun z => .ok (.nx (σ.set i (some z))) h
      | _, _ => .stuck
    | _ => .stuck
  | .sput o i e, σ, h => (evE P.C e σ h).st σ fun v h => (evE P.C o σ h).st σ fun x h => (evE P.C i σ h).st σ fun y h => stO (putF h x y v) fun h' => .ok (.nx σ) h'
  | .saug o i op e, σ, h => (evE P.C o σ h).st σ fun x h => (evE P.C i σ h).st σ fun y h => stO (refIdx h x y) fun u => (evE P.C e σ h).st σ fun v h =>
      match u, v with
      | .int a, .int b => stO (binF h op (.int a) (.int b)) fun w => stO (putF h x y w) fun h' => .ok (.nx σ) h'
      | _, _ => .stuck
  | .expr e, σ, h => (evE P.C e σ h).st σ fun _ h => .ok (.nx σ) h
  | .app o e, σ, h => (evE P.C o σ h).st σ fun x h => if isLstD h x = false then .stuck else (evE P.C e σ h).st σ fun v h => match x with
    | .ref n => match h[n]? with
      | some (.lst xs) => if xs.length < line then .ok (.nx σ) (h.set n (.lst (xs ++ [v]))) else .stuck
      | _ => .stuck
    | _ => .stuck
  | .ifs t a b, σ, h => (boolR (evE P.C t σ h)).st σ fun c h => if c then evSs P a σ h else evSs P b σ h
  | .for_ t it body, σ, h => (evI P.C it σ h).st σ fun d h => forF (evSs P body) t d.g d.xs σ h
  | .whl t body, σ, h => whF (evE P.C t) (evSs P body) wFuel σ h
  | .ret e, σ, h => (evE P.C e σ h).st σ fun d h => .ok (.rt d) h
  | .retN, _, h => .ok (.rt .non) h
  | .brk, σ, h => .ok (.bk σ) h
  | .pass, σ, h => .ok (.nx σ) h
  | .raise x e, σ, h => if e.isAbs then .exc ⟨x, none⟩ σ h else (evE P.C e σ h).st σ fun d h => .exc ⟨x, some d⟩ σ h
  | .try_ body x suite, σ, h => match evSs P body σ h with
    | .exc y σ' h' => match P.sub y.cls x with
      | some true => noExc (evSs P suite σ' h')
      | some false => .exc y σ' h'
      | none => .stuck
    | r => r
  | .kill is, σ, h => .ok (.nx (ckill σ is)) h
  | .scope ss, σ, h => scopeR h (evSs P ss σ h)
def evSs (P : Env2) : CSs → CSt → Hc → SRes
  | .nil, σ, h => .ok (.nx σ) h
  | .cons s ss, σ, h => match evS P s σ h with
    | .ok (.nx σ') h' => evSs P ss σ' h'
    | r => r
end
structure CDef where
  ns : Nat
  np : Nat
  body : CSs
structure Pg where
  defs : List CDef
  sub : Nat → Nat → Option Bool
def cstart (d : CDef) (args : List D) : CSt := args.map some ++ List.replicate (d.ns - args.length) none
def finR (h : Hc) (v : D) (h' : Hc) : ERes D := if v.low h.length && cutOk h.length h h' then .ok v (h'.take h.length) else .ok v h'
def Exc.low (n : Nat) (x : Exc) : Bool :=
  match x.arg with
  | some v => v.low n
  | none => true
def finX (h : Hc) (x : Exc) (h' : Hc) : ERes D := if x.low h.length && cutOk h.length h h' then .exc x (h'.take h.length) else .exc x h'
def runD (P : Env2) (d : CDef) (args : List D) (h : Hc) : ERes D :=
  if args.length = d.np then
    match evSs P d.body (cstart d args) h with
    | .ok (.rt v) h' => finR h v h'
    | .ok (.nx _) h' => finR h .non h'
    | .exc x _ h' => finX h x h'
    | _ => .stuck
  else .stuck
def callN (P : Pg) : Nat → Caller
  | 0, _, _, _ => .stuck
  | n + 1, f, args, h => match P.defs[f]? with
    | some d => runD ⟨callN P n, P.sub⟩ d args h
    | none => .stuck
end Cl

namespace Cl
open PySem PySem.Spec PyProof.Rows L2

theorem line_eq : line = sizeLine := by rw [sizeLine_eq]; rfl

/-! ## from data to Dp -/
section
variable {R : RC} {ρ φ : List Addr} {H : Hp} {h : Hc}
mutual
theorem RD.dp : ∀ {d : D} {v : V}, d.plain = true → RD R ρ φ H d v → Dp R.K H v d.toPy
  | .non, _, _, r => by simp only [RD] at r; subst r; simp only [D.toPy]; exact .non
  | .bl b, _, _, r => by simp only [RD] at r; subst r; simp only [D.toPy]; exact .bl b
  | .int b, _, _, r => by simp only [RD] at r; subst r; simp only [D.toPy]; exact .int b
  | .str b, _, _, r => by simp only [RD] at r; subst r; simp only [D.toPy]; exact .str b
  | .ref _, _, p, _ => by simp [D.plain] at p
  | .fn _, _, p, _ => by simp [D.plain] at p
  | .tup ds, _, p, r => by
    simp only [RD] at r
    obtain ⟨a, vs, rfl, h1, h2⟩ := r
    simp only [D.plain] at p
    simp only [D.toPy]
    exact .tup h1.sq (RDs.dp p h2)
  | .lst ds, _, p, r => by
    simp only [RD] at r
    obtain ⟨a, vs, rfl, h1, h2⟩ := r
    simp only [D.plain] at p
    simp only [D.toPy]
    exact .lst h1.sq (RDs.dp p h2)
theorem RDs.dp : ∀ {ds : List D} {vs : List V}, D.plains ds = true → RDs R ρ φ H ds vs → DpAll R.K H vs (D.toPys ds)
  | [], _, _, r => by simp only [RDs] at r; subst r; simp only [D.toPys]; exact .nil
  | d :: ds, _, p, r => by
    simp only [RDs] at r
    obtain ⟨v, vs', rfl, h1, h2⟩ := r
    simp only [D.plains, Bool.and_eq_true] at p
    simp only [D.toPys]
    exact .cons (RD.dp p.1 h1) (RDs.dp p.2 h2)
end
theorem okD_plain {d : D} (k : d.okD = true) : d.plain = true := (Bool.and_eq_true_iff.mp k).1
theorem okD_shaped {d : D} (k : d.okD = true) : SeqAt.shaped d.toPy = true := (Bool.and_eq_true_iff.mp k).2
/-- a value seen through its cell -/
theorem RD.der_dp (r : RelH R ρ φ H h) {d : D} {v : V} (q : RD R ρ φ H d v) (k : (der h d).plain = true) : Dp R.K H v (der h d).toPy := by
  cases d with
  | ref n =>
    simp only [RD] at q
    obtain ⟨a, e, rfl⟩ := q
    unfold der at k ⊢
    cases hc : h[n]? with
    | none => simp [hc, D.plain] at k
    | some c =>
      have rc := r.cells n a c e hc
      cases c with
      | lst xs =>
        obtain ⟨vs, e1, e2⟩ := rc
        simp only [hc, D.plain] at k
        simp only [hc, D.toPy]
        exact .lst (SqL.of e1) (e2.dp k)
      | ro xs =>
        obtain ⟨o, vs, e1, e2⟩ := rc
        simp only [hc, D.plain] at k
        simp only [hc, D.toPy]
        exact .lst (.inl (.inr ⟨o, e1⟩)) (e2.dp k)
      | dK _ => simp [hc, D.plain] at k
      | dT _ => simp [hc, D.plain] at k
  | _ => exact q.dp k
/-- what seqD reads -/
theorem RD.seq (r : RelH R ρ φ H h) {d : D} {v : V} (q : RD R ρ φ H d v) {xs : List D} (e : seqD h d = some xs) :
    ∃ a vs, v = .ref a ∧ (SqL R.K H a vs ∨ SqT R.K H a vs) ∧ RDs R ρ φ H xs vs := by
  cases d with
  | tup ds =>
    simp only [seqD, Option.some.injEq] at e; subst e
    simp only [RD] at q
    obtain ⟨a, vs, rfl, h1, h2⟩ := q
    exact ⟨a, vs, rfl, .inr h1.sq, h2⟩
  | lst ds =>
    simp only [seqD, Option.some.injEq] at e; subst e
    simp only [RD] at q
    obtain ⟨a, vs, rfl, h1, h2⟩ := q
    exact ⟨a, vs, rfl, .inl h1.sq, h2⟩
  | ref n =>
    simp only [RD] at q
    obtain ⟨a, ea, rfl⟩ := q
    unfold seqD at e
    cases hc : h[n]? with
    | none => simp [hc] at e
    | some c =>
      have rc := r.cells n a c ea hc
      cases c with
      | lst ys =>
        simp only [hc, Option.some.injEq] at e; subst e
        obtain ⟨vs, e1, e2⟩ := rc
        exact ⟨a, vs, rfl, .inl (SqL.of e1), e2⟩
      | ro ys =>
        simp only [hc, Option.some.injEq] at e; subst e
        obtain ⟨o, vs, e1, e2⟩ := rc
        exact ⟨a, vs, rfl, .inl (.inl (.inr ⟨o, e1⟩)), e2⟩
      | dK _ => simp [hc] at e
      | dT _ => simp [hc] at e
  | _ => simp [seqD] at e
/-- a list that can be read, tracked (no locked one) -/
theorem RD.der_lst (r : RelH R ρ φ H h) {d : D} {v : V} (q : RD R ρ φ H d v) {xs : List D} (e : derM h d = .lst xs) :
    ∃ a vs, v = .ref a ∧ H a = some (.lst vs) ∧ RDs R ρ φ H xs vs := by
  cases d with
  | lst ds =>
    simp only [derM, D.lst.injEq] at e; subst e
    simp only [RD] at q
    obtain ⟨a, vs, rfl, h1, h2⟩ := q
    exact ⟨a, vs, rfl, h1.1, h2⟩
  | ref n =>
    simp only [RD] at q
    obtain ⟨a, ea, rfl⟩ := q
    unfold derM at e
    cases hc : h[n]? with
    | none => simp [hc] at e
    | some c =>
      have rc := r.cells n a c ea hc
      cases c with
      | lst ys =>
        simp only [hc, D.lst.injEq] at e; subst e
        obtain ⟨vs, e1, e2⟩ := rc
        exact ⟨a, vs, rfl, e1, e2⟩
      | ro ys => simp [hc] at e
      | dK _ => simp [hc] at e
      | dT _ => simp [hc] at e
  | _ => simp [derM] at e

/-! ## results -/
/-- an exception that flies: its class, its own dict's one field -/
structure XC where
  cls : Nat → Value
  fld : Nat → Str
def RX (R : RC) (Y : XC) (ρ φ : List Addr) (H : Hp) (x : Exc) (cls : Value) (dd : Option Addr) : Prop :=
  cls = Y.cls x.cls ∧ match x.arg with
    | none => dd = none
    | some d => ∃ a v, dd = some a ∧ H a = some (.xd [(Y.fld x.cls, v)]) ∧ RD R ρ φ H d v
def Fin {α β : Type} (R : RC) (Y : XC) (W : WX) (σ : L2.St) (ρ φ : List Addr) (H : Hp) (rel : List Addr → Hp → α → β → Prop) (r : ERes α) (Q : β → Hp → Prop) : Prop :=
  match r with
  | .ok a h' => ∀ ρ' b H', Ext ρ ρ' H H' → RelH R ρ' φ H' h' → rel ρ' H' a b → Q b H'
  | .exc x h' => ∀ ρ' cls dd H', Ext ρ ρ' H H' → RelH R ρ' φ H' h' → RX R Y ρ' φ H' x cls dd → W cls dd σ H'
  | .stuck => False
theorem Fin.ext {α β : Type} {Y : XC} {W : WX} {σ : L2.St} {ρ' : List Addr} {H' : Hp} {rel : List Addr → Hp → α → β → Prop} {r : ERes α} {Q : β → Hp → Prop} (f : Fin R Y W σ ρ φ H rel r Q) (e : Ext ρ ρ' H H') :
    Fin R Y W σ ρ' φ H' rel r Q := by
  cases r with
  | ok a h' => exact fun ρ1 b H1 e1 => f ρ1 b H1 (e.trans e1)
  | exc x h' => exact fun ρ1 c d H1 e1 => f ρ1 c d H1 (e.trans e1)
  | stuck => exact f
theorem Fin.bind {α α' β β' : Type} {Y : XC} {W : WX} {σ : L2.St} {rel : List Addr → Hp → α → β → Prop} {rel' : List Addr → Hp → α' → β' → Prop} {r : ERes α} {f : α → Hc → ERes α'} {Q' : β' → Hp → Prop} {Q : β → Hp → Prop}
    (hf : Fin R Y W σ ρ φ H rel' (r.bind f) Q')
    (k : ∀ a h1 ρ1 b H1, r = .ok a h1 → Ext ρ ρ1 H H1 → RelH R ρ1 φ H1 h1 → rel ρ1 H1 a b → Fin R Y W σ ρ1 φ H1 rel' (f a h1) Q' → Q b H1) : Fin R Y W σ ρ φ H rel r Q := by
  cases r with
  | ok a h' => exact fun ρ1 b H1 e1 hH r1 => k a h' ρ1 b H1 rfl e1 hH r1 (Fin.ext (r := f a h') hf e1)
  | exc x h' => exact hf
  | stuck => exact hf
abbrev rD (R : RC) (φ : List Addr) : List Addr → Hp → D → V → Prop := fun ρ H d v => RD R ρ φ H d v
abbrev rDs (R : RC) (φ : List Addr) : List Addr → Hp → List D → List V → Prop := fun ρ H d v => RDs R ρ φ H d v
theorem Fin.ofO {β : Type} {Y : XC} {W : WX} {σ : L2.St} {α : Type} {rel : List Addr → Hp → α → β → Prop} {o : Option α} {Q : β → Hp → Prop} (f : Fin R Y W σ ρ φ H rel (ofO o h) Q) :
    ∃ a, o = some a ∧ ∀ ρ' b H', Ext ρ ρ' H H' → RelH R ρ' φ H' h → rel ρ' H' a b → Q b H' := by
  cases o with
  | none => exact f.elim
  | some a => exact ⟨a, rfl, f⟩
end
end Cl

namespace L2
open PySem PySem.Spec PyProof.Rows
theorem tuple_mul1 (l : Addr) (items : Array Value) (n : Nat) (dd : Option Addr) (sl : Array (Option Value)) (x : Int) (u : Tok) (c0 : (decide (x < -(2 ^ 63)) || decide (x ≥ 2 ^ 63)) = false) (c1 : (items.isEmpty || x == 1) = true) :
    Meets (Builtin.«tuple.__mul__» ⟨[.ref l, .int x u], []⟩) (fun _ R s => s.heap.get? l = some { cls := .type "tuple", dict := dd, data := .seq items n, slots := sl } ∧
      R (.ok (.ret (Value.ref l))) s) :=
  .of_wp fun prog w A R s h => by
    obtain ⟨hp, g, d, tk, os⟩ := s
    obtain ⟨hl, h⟩ := h
    have f1 := AutoSeq1.idx_int
    wp_walk using wpAny_loadPart' hl
    repeat (first
      | (refine wpAny_ite_false (decide_eq_false (by rw [c0]; exact Bool.false_ne_true)) ?_; wp_walk using wpAny_loadPart' hl)
      | (refine wpAny_ite_true (decide_eq_true c1) ?_; wp_walk using wpAny_loadPart' hl))
    exact ⟨_, rfl, h⟩
theorem tuple_mul0 (l : Addr) (items : Array Value) (n : Nat) (dd : Option Addr) (sl : Array (Option Value)) (x : Int) (u : Tok) (c0 : (decide (x < -(2 ^ 63)) || decide (x ≥ 2 ^ 63)) = false) (c1 : (items.isEmpty || x == 1) = false) (c2 : (decide (x ≤ 0) || items.isEmpty) = true) :
    Meets (Builtin.«tuple.__mul__» ⟨[.ref l, .int x u], []⟩) (fun _ R s => s.heap.get? l = some { cls := .type "tuple", dict := dd, data := .seq items n, slots := sl } ∧
      R (.ok (.ret (Value.ref s.heap.objs.size))) { s with heap := s.heap.push { cls := Value.type "tuple", data := Data.seq #[] }, toks := s.toks }) :=
  .of_wp fun prog w A R s h => by
    obtain ⟨hp, g, d, tk, os⟩ := s
    obtain ⟨hl, h⟩ := h
    have f1 := AutoSeq1.idx_int
    wp_walk using wpAny_loadPart' hl
    repeat (first
      | (refine wpAny_ite_false (decide_eq_false (by rw [c0]; exact Bool.false_ne_true)) ?_; wp_walk using wpAny_loadPart' hl)
      | (refine wpAny_ite_false (decide_eq_false (by rw [c1]; exact Bool.false_ne_true)) ?_; wp_walk using wpAny_loadPart' hl)
      | (refine wpAny_ite_true (decide_eq_true c2) ?_; wp_walk using wpAny_loadPart' hl))
    exact ⟨_, rfl, h⟩

def rRepA (K : PySem.W.Frag) : R2 := fun x y H Q => ∃ l k xs, x = .ref l ∧ y = .int k ∧ SqT K H l xs ∧ -(2 ^ 63) ≤ k ∧ k < 2 ^ 63 ∧ xs.length * k.toNat ≤ sizeLine ∧
  (xs = [] ∨ k = 1 → Q (.ref l) H) ∧ (¬ (xs = [] ∨ k = 1) → ∀ p, H p = none → Q (.ref p) (upd H p (.tup (List.replicate k.toNat xs).flatten)))
section
variable {X : Cx}
theorem op_repA : OpR X (binaryOp .Mult) (rRepA X.K) := by
  intro pins s σ H x y v u Q I rx ry h
  obtain ⟨l, k, xs, rfl, rfl, hT, h1, h2, hz, q1, q2⟩ := h
  cases rx
  obtain ⟨t, rfl⟩ := ry
  obtain ⟨its, r, ⟨⟨cls, dd, data, sl⟩, ho, hc, n, hd⟩, hs⟩ := I.tuple hT
  simp only at hc hd
  subst hc hd
  have hle : its.length = xs.length := r.length.symm
  have c0 : (decide (k < -(2 ^ 63)) || decide (k ≥ 2 ^ 63)) = false := by
    rw [decide_eq_false (by omega), decide_eq_false (by omega)] <;> rfl
  refine wpAny_binaryOp_repeat_ref (T := "tuple") (U := "int") (by decide) ⟨_, ho, rfl⟩ (fun s' => typeIs_int s' k t) noFill_tuple_mul F.fills_int_mul F.slot_int_rmul repeat_tuple F.slot_int_index.lookup
    (call_meets F.slot_int_rmul (typeIs_int s k t) F.entry_int_rmul (F.args_int_rmul_2 _ _) (int_rmul_tuple k t l its.toArray n dd sl)
      ⟨ho, rfl, ⟨_, ho, rfl⟩, ?_⟩)
  have emp : its.toArray.isEmpty = true ↔ xs = [] := by
    rw [List.isEmpty_toArray, List.isEmpty_iff]
    constructor
    · intro e; rw [e] at hle; exact List.eq_nil_of_length_eq_zero hle.symm
    · intro e; rw [e] at hle; exact List.eq_nil_of_length_eq_zero hle
  by_cases c1 : xs = [] ∨ k = 1
  · have c1' : (its.toArray.isEmpty || k == 1) = true := by
      rw [Bool.or_eq_true]
      rcases c1 with e | e
      · exact .inl (emp.mpr e)
      · exact .inr (by simp [e])
    refine call_meets F.slot_tuple_mul ⟨_, ho, rfl⟩ F.entry_tuple_mul (F.args_tuple_mul_2 _ _) (tuple_mul1 l its.toArray n dd sl k t c0 c1') ⟨ho, ?_⟩
    exact ⟨.ref l, H, I, rfl, q1 c1⟩
  · have hne : xs ≠ [] := fun e => c1 (.inl e)
    have hk : k ≠ 1 := fun e => c1 (.inr e)
    have hi : its.toArray.isEmpty = false := by
      cases e : its.toArray.isEmpty with
      | false => rfl
      | true => exact absurd (emp.mp e) hne
    have c1' : (its.toArray.isEmpty || k == 1) = false := by
      rw [hi, Bool.false_or]
      exact beq_eq_false_iff_ne.mpr hk
    by_cases c2 : k ≤ 0
    · have c2' : (decide (k ≤ 0) || its.toArray.isEmpty) = true := by rw [decide_eq_true c2]; rfl
      refine call_meets F.slot_tuple_mul ⟨_, ho, rfl⟩ F.entry_tuple_mul (F.args_tuple_mul_2 _ _) (tuple_mul0 l its.toArray n dd sl k t c0 c1' c2') ⟨ho, ?_⟩
      have e0 : (List.replicate k.toNat xs).flatten = [] := by rw [show k.toNat = 0 by omega]; rfl
      have q3 := q2 c1
      rw [e0] at q3
      refine ⟨.ref s.heap.objs.size, _, I.laid (t' := s.toks) (o := .tup []) (fun b ob q => Heap.get?_push_of_some _ q) (Nat.le_refl _) ?_, rfl, q3 _ (I.hok.fresh (Nat.le_refl _))⟩
      exact ⟨by simp, [], .nil, IsTup.new _ _⟩
    · have c2' : (decide (k ≤ 0) || its.toArray.isEmpty) = false := by rw [hi, Bool.or_false]; exact decide_eq_false c2
      have hsz0 : its.toArray.size = xs.length := by rw [List.size_toArray, hle]
      have hkk : ((k.toNat : Nat) : Int) = k := by omega
      have hm : ((its.toArray.size : Nat) : Int) * k ≤ (sizeLine : Nat) := by
        rw [hsz0, ← hkk]
        exact_mod_cast hz
      have hl2 : (sizeLine : Nat) = 16777216 := sizeLine_eq
      have flen : (List.replicate k.toNat its).flatten.length ≤ sizeLine := by
        rw [PyProof.Rows.lm_len_rep_flat, hle, Nat.mul_comm]
        exact hz
      have c4 : Builtin.Tuple.tupleTooMany (((its.toArray.size : Nat) : Int) * k) = false := by
        unfold Builtin.Tuple.tupleTooMany
        exact decide_eq_false (by omega)
      refine call_meets F.slot_tuple_mul ⟨_, ho, rfl⟩ F.entry_tuple_mul (F.args_tuple_mul_2 _ _) (tuple_mulW l its.toArray n dd sl k t c0 c1' c2' (by omega) c4 (by rw [size_rep, List.size_toArray]; exact flen)) ⟨ho, ?_⟩
      rw [size_rep]
      refine ⟨.ref s.heap.objs.size, _, I.laid (t' := s.toks) (o := .tup (List.replicate k.toNat xs).flatten) (fun b ob q => Heap.get?_push_of_some _ q) (Nat.le_refl _) ?_, rfl, q2 c1 _ (I.hok.fresh (Nat.le_refl _))⟩
      exact ⟨by rw [PyProof.Rows.lm_len_rep_flat, Nat.mul_comm]; exact hz, _, r.rep k.toNat, IsTup.new _ _⟩
def CDivZ (j : Int) : Prop := j ≠ 0 ∧ j.natAbs.log2 < 9000
theorem op_fdivZ : OpR X (binaryOp .FloorDiv) (rI (fun _ j => CDivZ j) fun i j => .int (i.fdiv j)) := opI fun i j _ _ _ _ _ hc q =>
  floordiv_int hc.1 q (.inl (PyProof.noPylong_of_log2 hc.2))
end
end L2
namespace Cl
open PySem PySem.Spec PyProof.Rows L2
/-- the reading of an operator whose answer is the clean one -/
def rC (R : RC) (f : Hc → D → D → Option D) : R2 := fun x y H Q => ∃ ρ φ h a b d, RelH R ρ φ H h ∧ RD R ρ φ H a x ∧ RD R ρ φ H b y ∧ f h a b = some d ∧
  ∀ ρ' v H', Ext ρ ρ' H H' → RelH R ρ' φ H' h → RD R ρ' φ H' d v → Q v H'
section
variable {R : RC} {ρ φ : List Addr} {H : Hp} {h : Hc}
/-- a new tuple, a new list -/
theorem new_tup (r : RelH R ρ φ H h) {p : Addr} (hp : H p = none) {ds : List D} {vs : List V} (q : RDs R ρ φ H ds vs) :
    Ext ρ ρ H (upd H p (.tup vs)) ∧ RelH R ρ φ (upd H p (.tup vs)) h ∧ RD R ρ φ (upd H p (.tup vs)) (.tup ds) (.ref p) := by
  have pn : p ∉ ρ := fun z => by obtain ⟨u, e⟩ := r.some_at z; rw [hp] at e; cases e
  have e : Ext ρ ρ H (upd H p (.tup vs)) := Ext.fresh hp
  refine ⟨e, (r.fresh hp).weak (fun a ha => by simp [ha]), ?_⟩
  simp only [RD]
  exact ⟨p, vs, rfl, ⟨upd_same, pn, r.free hp⟩, q.ext e⟩
theorem new_lst (r : RelH R ρ φ H h) {p : Addr} (hp : H p = none) {ds : List D} {vs : List V} (q : RDs R ρ φ H ds vs) :
    Ext ρ ρ H (upd H p (.lst vs)) ∧ RelH R ρ φ (upd H p (.lst vs)) h ∧ RD R ρ φ (upd H p (.lst vs)) (.lst ds) (.ref p) := by
  have pn : p ∉ ρ := fun z => by obtain ⟨u, e⟩ := r.some_at z; rw [hp] at e; cases e
  have e : Ext ρ ρ H (upd H p (.lst vs)) := Ext.fresh hp
  refine ⟨e, (r.fresh hp).weak (fun a ha => by simp [ha]), ?_⟩
  simp only [RD]
  exact ⟨p, vs, rfl, ⟨upd_same, pn, r.free hp⟩, q.ext e⟩
/-- the same, held back -/
theorem new_lstF (r : RelH R ρ φ H h) {p : Addr} (hp : H p = none) {ds : List D} {vs : List V} (q : RDs R ρ φ H ds vs) :
    Ext ρ ρ H (upd H p (.lst vs)) ∧ RelH R ρ (p :: φ) (upd H p (.lst vs)) h ∧ RDs R ρ (p :: φ) (upd H p (.lst vs)) ds vs :=
  ⟨Ext.fresh hp, r.fresh hp, q.fresh hp⟩
end
theorem mulOk_ok {i j : Int} (h : mulOk i j = true) : IntMulOk i j := by
  unfold mulOk at h
  simp only [Bool.or_eq_true, decide_eq_true_eq] at h
  rcases h with (h | h) | h
  · exact .of_left h
  · exact .of_right h
  · have h3 : CMulX i j := by
      unfold CMulX
      unfold bitsI at h
      omega
    exact h3.ok
section
variable {X : Cx} {R : RC} (hK : R.K = X.K)
include hK
theorem bin_add : OpR X (binaryOp .Add) (rC R addF) := by
  intro pins s σ H x y v u Q I rx ry ⟨ρ, φ, h, a, b, d, rH, ra, rb, e, k⟩
  have lists : addL h a b = some d → wpAny (model X.prog X.w) X.A (binaryOp .Add v u) (EP X pins σ Q) X.xe s := by
    intro e
    unfold addL at e
    split at e
    · rename_i xs ys ea eb
      split at e
      · rename_i hz
        cases e
        obtain ⟨l, vs, rfl, h1, h2⟩ := ra.der_lst rH ea
        obtain ⟨m, ws, rfl, h3, h4⟩ := rb.der_lst rH eb
        refine op_cat pins s σ H _ _ v u Q I rx ry ⟨l, m, vs, ws, rfl, rfl, h1, h3, ?_, fun p hp => ?_⟩
        · rw [← h2.len, ← h4.len, ← line_eq]; exact hz
        · obtain ⟨e1, e2, e3⟩ := new_lst rH hp (h2.append h4)
          exact k _ _ _ e1 e2 e3
      · cases e
    · cases e
  unfold addF at e
  split at e
  · cases e
    simp only [RD] at ra rb
    subst ra rb
    exact op_add pins s σ H _ _ v u Q I rx ry ⟨_, _, rfl, rfl, k _ _ _ Ext.refl rH (by simp only [RD])⟩
  · rename_i x y
    split at e
    · rename_i hz
      cases e
      simp only [RD] at ra rb
      subst ra rb
      exact op_add_str pins s σ H _ _ v u Q I rx ry ⟨_, _, rfl, rfl, by rw [← line_eq]; exact hz, k _ _ _ Ext.refl rH (by simp only [RD])⟩
    · cases e
  · rename_i xs ys
    split at e
    · rename_i hz
      cases e
      simp only [RD] at ra rb
      obtain ⟨l, vs, rfl, h1, h2⟩ := ra
      obtain ⟨m, ws, rfl, h3, h4⟩ := rb
      refine op_catA pins s σ H _ _ v u Q I rx ry ⟨l, m, vs, ws, rfl, rfl, hK ▸ h1.sq, hK ▸ h3.sq, ?_, fun z => ?_, fun z z2 => ?_, fun z z2 p hp => ?_⟩
      · rw [← h2.len, ← h4.len, ← line_eq]; exact hz
      · have : xs = [] := by
          have := h2.len
          rw [z] at this
          exact List.eq_nil_of_length_eq_zero this
        subst this
        refine k _ _ _ Ext.refl rH ?_
        simp only [RD, List.nil_append]
        exact ⟨m, ws, rfl, h3, h4⟩
      · have : ys = [] := by
          have := h4.len
          rw [z2] at this
          exact List.eq_nil_of_length_eq_zero this
        subst this
        refine k _ _ _ Ext.refl rH ?_
        simp only [RD, List.append_nil]
        exact ⟨l, vs, rfl, h1, h2⟩
      · obtain ⟨e1, e2, e3⟩ := new_tup rH hp (h2.append h4)
        exact k _ _ _ e1 e2 e3
    · cases e
  · exact lists e
theorem bin_mul : OpR X (binaryOp .Mult) (rC R mulF) := by
  intro pins s σ H x y v u Q I rx ry ⟨ρ, φ, h, a, b, d, rH, ra, rb, e, k⟩
  unfold mulF at e
  split at e
  · split at e
    · rename_i hz
      cases e
      simp only [RD] at ra rb
      subst ra rb
      obtain ⟨t, rfl⟩ := rx
      obtain ⟨t', rfl⟩ := ry
      exact mul_int ⟨.int _, H, I.tok _, ⟨_, rfl⟩, k _ _ _ Ext.refl rH (by simp only [RD])⟩ (mulOk_ok hz)
    · cases e
  · rename_i xs n
    split at e
    · rename_i hz
      cases e
      simp only [RD] at ra rb
      obtain ⟨l, vs, rfl, h1, h2⟩ := ra
      subst rb
      have hl := h2.len
      refine op_repA pins s σ H _ _ v u Q I rx ry ⟨l, n, vs, rfl, rfl, hK ▸ h1.sq, hz.1, hz.2.1, ?_, fun z => ?_, fun _ p hp => ?_⟩
      · rw [← hl, ← line_eq]; exact hz.2.2
      · have e2 : (List.replicate n.toNat xs).flatten = xs := by
          rcases z with z | z
          · have : xs = [] := by rw [z] at hl; exact List.eq_nil_of_length_eq_zero hl
            subst this
            simp
          · subst z
            simp
        rw [e2] at k
        refine k _ _ _ Ext.refl rH ?_
        simp only [RD]
        exact ⟨l, vs, rfl, h1, h2⟩
      · obtain ⟨e1, e2, e3⟩ := new_tup rH hp (h2.rep n.toNat)
        exact k _ _ _ e1 e2 e3
    · cases e
  · rename_i n _ _
    unfold mulL at e
    split at e
    · rename_i xs ea
      split at e
      · rename_i hz
        cases e
        obtain ⟨l, vs, rfl, h1, h2⟩ := ra.der_lst rH ea
        simp only [RD] at rb
        subst rb
        refine op_rep pins s σ H _ _ v u Q I rx ry ⟨l, n, vs, rfl, rfl, h1, hz.1, hz.2.1, ?_, fun p hp => ?_⟩
        · rw [← h2.len, ← line_eq]; exact hz.2.2
        · obtain ⟨e1, e2, e3⟩ := new_lst rH hp (h2.rep n.toNat)
          exact k _ _ _ e1 e2 e3
      · cases e
    · cases e
  · cases e
omit hK in
theorem bin_int {op : Operator} {f : Int → Int → Option Int} {C : Int → Int → Prop} {g : Int → Int → Int} (ho : OpR X (binaryOp op) (rI C fun i j => .int (g i j))) (hf : ∀ i j k, f i j = some k → C i j ∧ k = g i j) :
    OpR X (binaryOp op) (rC R fun _ => int2 f) := by
  intro pins s σ H x y v u Q I rx ry ⟨ρ, φ, h, a, b, d, rH, ra, rb, e, k⟩
  have e' : int2 f a b = some d := e
  unfold int2 at e'
  split at e'
  · rename_i i j
    cases q : f i j with
    | none => rw [q] at e'; cases e'
    | some n =>
      rw [q] at e'
      cases e'
      obtain ⟨c, rfl⟩ := hf i j n q
      simp only [RD] at ra rb
      subst ra rb
      exact ho pins s σ H _ _ v u Q I rx ry ⟨i, j, rfl, rfl, c, k _ _ _ Ext.refl rH (by simp only [RD])⟩
  · cases e'
theorem binR (op : Operator) : OpR X (binaryOp op) (rC R fun h => binF h op) := by
  cases op with
  | Add => exact bin_add hK
  | Mult => exact bin_mul hK
  | Sub => exact bin_int (C := fun _ _ => True) (g := fun i j => i - j) (opI fun i j t u s Q E _ q => sub_int q) (fun i j k q => by cases q; exact ⟨trivial, rfl⟩)
  | FloorDiv =>
    refine bin_int op_fdivZ (fun i j k q => ?_)
    split at q
    · rename_i hz
      cases q
      unfold divOk at hz
      simp only [Bool.and_eq_true, decide_eq_true_eq] at hz
      exact ⟨hz, rfl⟩
    · cases q
  | Mod =>
    refine bin_int op_modN (fun i j k q => ?_)
    split at q
    · cases q
    · rename_i hz
      cases q; exact ⟨hz, rfl⟩
  | Pow =>
    refine bin_int op_pow (fun i j k q => ?_)
    split at q
    · rename_i hz; cases q; exact ⟨hz, rfl⟩
    · cases q
  | LShift =>
    refine bin_int op_shlW (fun i j k q => ?_)
    split at q
    · rename_i hz; cases q
      refine ⟨⟨hz.1, ?_⟩, rfl⟩
      have := hz.2
      unfold bitsI at this
      have e : (2 : Int) ^ 27 = 134217728 := by decide
      rw [e]; exact this
    · cases q
  | RShift =>
    refine bin_int op_shr (fun i j k q => ?_)
    split at q
    · rename_i hz; cases q; exact ⟨hz, rfl⟩
    · cases q
  | BitAnd => exact bin_int (C := fun _ _ => True) (g := fun i j => Builtin.bitAnd i j) (fun pins s σ H x y v u Q I rx ry ⟨i, j, e1, e2, _, q⟩ => op_and pins s σ H x y v u Q I rx ry ⟨i, j, e1, e2, q⟩) (fun i j k q => by cases q; exact ⟨trivial, rfl⟩)
  | _ => exact fun pins s σ H x y v u Q I rx ry ⟨ρ, φ, h, a, b, d, rH, ra, rb, e, k⟩ => by cases e
end
end Cl

namespace Cl
open PySem PySem.Spec PyProof.Rows L2
/-! ## dicts -/
section
variable {R : RC} {ρ φ : List Addr} {H : Hp} {h : Hc}
theorem keyD_rd {d : D} {k : Key} {v : V} (e : keyD d = some k) (r : RD R ρ φ H d v) : v = kV k := by
  cases d with
  | int i => simp only [keyD, Option.some.injEq] at e; subst e; simp only [RD] at r; exact r
  | str x => simp only [keyD, Option.some.injEq] at e; subst e; simp only [RD] at r; exact r
  | _ => simp [keyD] at e
theorem keysD_rd : ∀ {ds : List D} {ks : List Key} {vs : List V}, keysD ds = some ks → RDs R ρ φ H ds vs → vs = ks.map kV
  | [], ks, vs, e, r => by
    simp only [keysD, Option.some.injEq] at e; subst e
    simp only [RDs] at r; exact r
  | d :: ds, ks, vs, e, r => by
    simp only [keysD] at e
    simp only [RDs] at r
    obtain ⟨v, vs', rfl, h1, h2⟩ := r
    split at e
    · rename_i k ks' e1 e2
      cases e
      rw [List.map_cons, ← keyD_rd e1 h1, ← keysD_rd e2 h2]
    · cases e
theorem krd_val {κ : Type} [DecidableEq κ] {kvs : List (κ × D)} {kws : List (κ × V)} (r : KRD R ρ φ H kvs kws) (k : κ) :
    (valD kvs k = none ∧ valV kws k = none) ∨ ∃ d v, valD kvs k = some d ∧ valV kws k = some v ∧ RD R ρ φ H d v := by
  obtain ⟨h1, h2⟩ := r
  induction kvs generalizing kws with
  | nil =>
    cases kws with
    | nil => exact .inl ⟨rfl, rfl⟩
    | cons b bs => simp at h1
  | cons a as ih =>
    cases kws with
    | nil => simp at h1
    | cons b bs =>
      simp only [List.map_cons, List.cons.injEq] at h1
      simp only [List.map_cons, RDs] at h2
      obtain ⟨v, vs, e, r1, r2⟩ := h2
      simp only [List.cons.injEq] at e
      obtain ⟨rfl, rfl⟩ := e
      by_cases hk : a.1 = k
      · refine .inr ⟨a.2, b.2, ?_, ?_, r1⟩
        · simp [valD, hk]
        · rw [valV_pos (by rw [← h1.1]; exact hk)]
      · have e1 : valD (a :: as) k = valD as k := by simp [valD, hk]
        have e2 : valV (b :: bs) k = valV bs k := valV_neg (by rw [← h1.1]; exact hk)
        rw [e1, e2]
        exact ih h1.2 r2
theorem krd_put {κ : Type} [DecidableEq κ] {kvs : List (κ × D)} {kws : List (κ × V)} (r : KRD R ρ φ H kvs kws) (k : κ) {d : D} {v : V} (q : RD R ρ φ H d v) : KRD R ρ φ H (putD kvs k d) (putK kws k v) := by
  have anyE : (kvs.any fun kv => decide (kv.1 = k)) = (kws.any fun kv => decide (kv.1 = k)) := by
    have h1 := r.1
    clear r
    induction kvs generalizing kws with
    | nil => cases kws with
      | nil => rfl
      | cons b bs => simp at h1
    | cons a as ih => cases kws with
      | nil => simp at h1
      | cons b bs =>
        simp only [List.map_cons, List.cons.injEq] at h1
        rw [List.any_cons, List.any_cons, ih h1.2, h1.1]
  unfold putD putK
  rw [anyE]
  split
  · obtain ⟨h1, h2⟩ := r
    clear anyE
    induction kvs generalizing kws with
    | nil => cases kws with
      | nil => exact ⟨rfl, h2⟩
      | cons b bs => simp at h1
    | cons a as ih => cases kws with
      | nil => simp at h1
      | cons b bs =>
        simp only [List.map_cons, List.cons.injEq] at h1
        simp only [List.map_cons, RDs] at h2
        obtain ⟨w, vs, e, r1, r2⟩ := h2
        simp only [List.cons.injEq] at e
        obtain ⟨rfl, rfl⟩ := e
        have ih' : KRD R ρ φ H (List.map (fun kv => if kv.1 = k then (kv.1, d) else kv) as) (List.map (fun kv => if kv.1 = k then (kv.1, v) else kv) bs) := by
          by_cases hany : (bs.any fun kv => decide (kv.1 = k)) = true
          · exact ih hany h1.2 r2
          · -- nothing to change behind
            have ne : ∀ x ∈ bs, ¬ x.1 = k := fun x hx e => hany (List.any_eq_true.mpr ⟨x, hx, by simp [e]⟩)
            have ne2 : ∀ x ∈ as, ¬ x.1 = k := fun x hx e => by
              have : x.1 ∈ as.map (·.1) := List.mem_map.mpr ⟨x, hx, rfl⟩
              rw [h1.2] at this
              obtain ⟨y, hy, ey⟩ := List.mem_map.mp this
              exact ne y hy (ey.trans e)
            have m1 : List.map (fun kv => if kv.1 = k then (kv.1, d) else kv) as = as := by
              conv => rhs; rw [← List.map_id as]
              exact List.map_congr_left fun x hx => by rw [if_neg (ne2 x hx)]; rfl
            have m2 : List.map (fun kv => if kv.1 = k then (kv.1, v) else kv) bs = bs := by
              conv => rhs; rw [← List.map_id bs]
              exact List.map_congr_left fun x hx => by rw [if_neg (ne x hx)]; rfl
            rw [m1, m2]
            exact ⟨h1.2, r2⟩
        obtain ⟨i1, i2⟩ := ih'
        by_cases hk : b.1 = k
        · have hk' : a.1 = k := by rw [h1.1]; exact hk
          refine ⟨?_, ?_⟩
          · simp only [List.map_cons, if_pos hk, if_pos hk', h1.1, i1]
          · simp only [List.map_cons, if_pos hk, if_pos hk']
            exact RDs.cons q i2
        · have hk' : ¬ a.1 = k := by rw [h1.1]; exact hk
          refine ⟨?_, ?_⟩
          · simp only [List.map_cons, if_neg hk, if_neg hk', h1.1, i1]
          · simp only [List.map_cons, if_neg hk, if_neg hk']
            exact RDs.cons r1 i2
  · obtain ⟨h1, h2⟩ := r
    refine ⟨by simp [h1], ?_⟩
    rw [List.map_append, List.map_append]
    exact h2.append (RDs.one q)
theorem look_get (r : RelH R ρ φ H h) {d : D} {y : V} (q : RD R ρ φ H d y) {n : Nat} {l : Addr} (el : ρ[n]? = some l) {o : Option D} (e : lookD h n d = some o) :
    ∃ o', DGet H l y o' ∧ ((o = none ∧ o' = none) ∨ ∃ d' v, o = some d' ∧ o' = some v ∧ RD R ρ φ H d' v) := by
  unfold lookD at e
  split at e
  · rename_i kvs hc
    obtain ⟨k, hk, rfl⟩ := Option.map_eq_some_iff.mp e
    obtain ⟨kws, h1, h2⟩ := r.cells n l _ el hc
    have := keyD_rd hk q
    subst this
    exact ⟨_, DGet.k h1, krd_val h2 k⟩
  · rename_i kvs hc
    obtain ⟨k, hk, rfl⟩ := Option.map_eq_some_iff.mp e
    obtain ⟨kws, h1, h2⟩ := r.cells n l _ el hc
    cases d with
    | tup ds =>
      simp only [RD] at q
      obtain ⟨a, vs, rfl, h3, h4⟩ := q
      have := keysD_rd (show keysD ds = some k from hk) h4
      subst this
      exact ⟨_, DGet.t h1 h3.1, krd_val h2 k⟩
    | _ => simp [tkeyD] at hk
  · cases e
end
section
variable {X : Cx} {R : RC} (hK : R.K = X.K)
/-- the reading of a comparison -/
def rB (R : RC) (f : Hc → D → D → Option Bool) : R2 := fun x y H Q => ∃ ρ φ h a b d, RelH R ρ φ H h ∧ RD R ρ φ H a x ∧ RD R ρ φ H b y ∧ f h a b = some d ∧ Q (.bl d) H
theorem der_str {h : Hc} {b : D} {t : Str} (e : der h b = .str t) : b = .str t := by
  cases b with
  | ref n =>
    exfalso
    cases hc : h[n]? with
    | none => simp [der, hc] at e
    | some c => cases c <;> simp [der, hc] at e
  | _ => simpa [der] using e
theorem der_ref {h : Hc} {b : D} {n : Nat} (e : der h b = .ref n) : b = .ref n := by
  cases b with
  | ref m =>
    cases hc : h[m]? with
    | none => simpa [der, hc] using e
    | some c => cases c <;> simp [der, hc] at e <;> rw [e]
  | _ => simp [der] at e
theorem rB_of {X : Cx} {R : RC} {op : CmpOp} {f g : Hc → D → D → Option Bool} (k : OpR X (compareOp op) (rB R f)) (e : ∀ h a b, f h a b = g h a b) : OpR X (compareOp op) (rB R g) := by
  have : f = g := by funext h a b; exact e h a b
  rw [← this]; exact k
theorem any_toPys (ys : List D) (e : PyData) : (D.toPys ys).any (fun z => PyData.eqv z e) = ys.any fun z => PyData.eqv z.toPy e := by
  induction ys with
  | nil => simp [D.toPys]
  | cons z zs ih => simp only [D.toPys, List.any_cons, ih]
theorem depth_ok {d : D} {A : Around} {e : D} (hu : A.units + 100 < cLine) (k : d.okD = true) : A.units + min d.toPy.depth e.toPy.depth < cLine := by
  have h1 := SeqAt.depth_of_shaped (okD_shaped k)
  have h2 : min d.toPy.depth e.toPy.depth ≤ d.toPy.depth := Nat.min_le_left _ _
  omega
include hK
theorem cmp_eq (hu : X.A.units + 100 < cLine) : OpR X (compareOp .Eq) (rB R eqF) := by
  intro pins s σ H x y v u Q I rx ry ⟨ρ, φ, h, a, b, d, rH, ra, rb, e, k⟩
  unfold eqF at e
  split at e
  · cases e
    simp only [RD] at ra rb
    subst ra rb
    refine op_eq pins s σ H _ _ v u Q I rx ry ⟨rfl, ?_⟩
    rename_i i j
    have : decide (V.int i = V.int j) = decide (i = j) := by simp
    rw [this]; exact k
  · cases e
    simp only [RD] at ra rb
    subst ra rb
    exact op_eq pins s σ H _ _ v u Q I rx ry ⟨rfl, by simpa using k⟩
  · cases e
    simp only [RD] at ra rb
    subst ra rb
    exact op_eq pins s σ H _ _ v u Q I rx ry ⟨rfl, by simpa using k⟩
  · unfold eqG at e
    split at e
    · rename_i hz
      cases e
      rw [Bool.and_eq_true] at hz
      exact op_eqD (by omega) pins s σ H _ _ v u Q I rx ry ⟨_, _, hK ▸ ra.der_dp rH (okD_plain hz.1), hK ▸ rb.der_dp rH (okD_plain hz.2), okD_shaped hz.1, okD_shaped hz.2, k⟩
    · cases e
theorem cmp_ne (hu : X.A.units + 100 < cLine) : OpR X (compareOp .NotEq) (rB R fun h a b => (eqF h a b).map (!·)) := by
  intro pins s σ H x y v u Q I rx ry ⟨ρ, φ, h, a, b, d, rH, ra, rb, e0, k⟩
  have e1 : (eqF h a b).map (!·) = some d := e0
  obtain ⟨c, e, hc⟩ := Option.map_eq_some_iff.mp e1
  subst hc
  unfold eqF at e
  split at e
  · cases e
    simp only [RD] at ra rb
    subst ra rb
    refine op_ne pins s σ H _ _ v u Q I rx ry ⟨rfl, ?_⟩
    rename_i i j
    have : decide (V.int i = V.int j) = decide (i = j) := by simp
    rw [this]; exact k
  · cases e
    simp only [RD] at ra rb
    subst ra rb
    exact op_ne pins s σ H _ _ v u Q I rx ry ⟨rfl, by simpa using k⟩
  · cases e
    simp only [RD] at ra rb
    subst ra rb
    exact op_ne pins s σ H _ _ v u Q I rx ry ⟨rfl, by simpa using k⟩
  · unfold eqG at e
    split at e
    · rename_i hz
      cases e
      rw [Bool.and_eq_true] at hz
      exact op_neD (by omega) pins s σ H _ _ v u Q I rx ry ⟨_, _, hK ▸ ra.der_dp rH (okD_plain hz.1), hK ▸ rb.der_dp rH (okD_plain hz.2), okD_shaped hz.1, okD_shaped hz.2, k⟩
    · cases e
/-- the four orders: by the rule for ints and the rule for data -/
theorem cmp_ord {op : CmpOp} {g : Bool → Bool} {swap : Bool} (hu : X.A.units + 100 < cLine)
    (hi : OpR X (compareOp op) (rI0 fun i j => .bl (g (decide ((if swap then j else i) < (if swap then i else j))))))
    (hd : ∀ (s : Shared) (a b : Value) (da db : PyData) (as bs : List Addr) (E : Value → Shared → Prop) (Q : Value → Shared → Prop), Reads s.heap a da as → Reads s.heap b db bs → PySem.W.alike da db = true → PySem.W.alike db da = true → da ≠ .none → db ≠ .none → X.A.units + min da.depth db.depth < cLine →
      Q (.bool (g (PySem.W.dataLt (if swap then db else da) (if swap then da else db)))) s → wpAny (model X.prog X.w) X.A (compareOp op a b) Q E s) :
    OpR X (compareOp op) (rB R fun h a b => (ltF h (if swap then b else a) (if swap then a else b)).map g) := by
  intro pins s σ H x y v u Q I rx ry ⟨ρ, φ, h, a, b, d, rH, ra, rb, e0, k⟩
  have e1 : (ltF h (if swap then b else a) (if swap then a else b)).map g = some d := e0
  obtain ⟨c, e, hc⟩ := Option.map_eq_some_iff.mp e1
  subst hc
  have hints : ∀ i j, a = .int i → b = .int j → c = decide ((if swap then j else i) < (if swap then i else j)) → wpAny (model X.prog X.w) X.A (compareOp op v u) (EP X pins σ Q) X.xe s := by
    intro i j ea eb ec
    subst ea eb ec
    simp only [RD] at ra rb
    subst ra rb
    exact hi pins s σ H _ _ v u Q I rx ry ⟨i, j, rfl, rfl, k⟩
  have data : (der h a).okD = true → (der h b).okD = true → PySem.W.alike (der h a).toPy (der h b).toPy = true → PySem.W.alike (der h b).toPy (der h a).toPy = true → (der h a).toPy ≠ .none → (der h b).toPy ≠ .none →
      c = PySem.W.dataLt (if swap then (der h b).toPy else (der h a).toPy) (if swap then (der h a).toPy else (der h b).toPy) → wpAny (model X.prog X.w) X.A (compareOp op v u) (EP X pins σ Q) X.xe s := by
    intro ka kb al al2 na nb ec
    obtain ⟨as, r1⟩ := Dp.reads I _ x v (hK ▸ ra.der_dp rH (okD_plain ka)) rx
    obtain ⟨bs, r2⟩ := Dp.reads I _ y u (hK ▸ rb.der_dp rH (okD_plain kb)) ry
    exact hd s v u _ _ as bs _ _ r1 r2 al al2 na nb (depth_ok hu ka) ⟨.bl _, H, I, rfl, by rw [← ec]; exact k⟩
  have nn : ∀ d : D, d.okD = true → (!d.isN) = true → d.toPy ≠ .none := fun d hd hn => by
    cases d with
    | non => simp [D.isN] at hn
    | ref n => simp [D.okD, D.plain] at hd
    | fn n => simp [D.okD, D.plain] at hd
    | _ => simp [D.toPy]
  have al_nn : ∀ p q : PyData, PySem.W.alike p q = true → p ≠ .none → q ≠ .none := fun p q al hp hq => by
    subst hq
    cases p <;> simp [PySem.W.alike] at al hp
  cases swap with
  | false =>
    simp only [Bool.false_eq_true, if_false] at e hints data
    unfold ltF at e
    split at e
    · cases e; exact hints _ _ rfl rfl rfl
    · unfold ltG at e
      split at e
      · rename_i hz
        cases e
        simp only [Bool.and_eq_true] at hz
        obtain ⟨⟨⟨ka, kb⟩, al⟩, hn⟩ := hz
        have na := nn _ ka hn
        exact data ka kb al (by rw [PySem.W.alike_comm]; exact al) na (al_nn _ _ al na) rfl
      · cases e
  | true =>
    simp only [if_true] at e hints data
    unfold ltF at e
    split at e
    · cases e; exact hints _ _ rfl rfl rfl
    · unfold ltG at e
      split at e
      · rename_i hz
        cases e
        simp only [Bool.and_eq_true] at hz
        obtain ⟨⟨⟨kb, ka⟩, al⟩, hn⟩ := hz
        have nb := nn _ kb hn
        exact data ka kb (by rw [PySem.W.alike_comm]; exact al) al (al_nn _ _ al nb) nb rfl
      · cases e
theorem cmp_in (neg : Bool) (hu : X.A.units + 100 < cLine) : OpR X (compareOp (if neg then .NotIn else .In)) (rB R fun h a b => (inF h a b).map fun c => if neg then !c else c) := by
  intro pins s σ H x y v u Q I rx ry ⟨ρ, φ, h, a, b, d, rH, ra, rb, e0, k⟩
  have e1 : (inF h a b).map (fun c => if neg then !c else c) = some d := e0
  obtain ⟨c, e, hc⟩ := Option.map_eq_some_iff.mp e1
  subst hc
  have fin : ∀ op, op = (if neg then CmpOp.NotIn else CmpOp.In) → (neg = false → wpAny (model X.prog X.w) X.A (compareOp .In v u) (EP X pins σ Q) X.xe s) → (neg = true → wpAny (model X.prog X.w) X.A (compareOp .NotIn v u) (EP X pins σ Q) X.xe s) → wpAny (model X.prog X.w) X.A (compareOp (if neg then .NotIn else .In) v u) (EP X pins σ Q) X.xe s := by
    intro op _ h1 h2
    cases neg with
    | false => exact h1 rfl
    | true => exact h2 rfl
  have data : ∀ ys t, der h b = t → (t = .lst ys ∨ t = .tup ys) → inData h a t ys = some c → wpAny (model X.prog X.w) X.A (compareOp (if neg then .NotIn else .In) v u) (EP X pins σ Q) X.xe s := by
    intro ys t et ht ec
    unfold inData at ec
    split at ec
    · rename_i hz
      cases ec
      rw [Bool.and_eq_true] at hz
      have kb : (der h b).okD = true := by rw [et]; exact hz.2
      obtain ⟨as, r1⟩ := Dp.reads I _ x v (hK ▸ ra.der_dp rH (okD_plain hz.1)) rx
      obtain ⟨bs, r2⟩ := Dp.reads I _ y u (hK ▸ rb.der_dp rH (okD_plain kb)) ry
      have sh := okD_shaped kb
      have hd := SeqAt.canLay_of_shaped (okD_shaped hz.1)
      have hdd := SeqAt.depth_of_shaped (okD_shaped hz.1)
      have anyE := any_toPys ys (der h a).toPy
      rw [et] at r2 sh
      rw [← anyE] at k
      rcases ht with rfl | rfl
      · simp only [D.toPy] at r2 sh
        have hx : PyData.canLayAll0 (D.toPys ys) = true := SeqAt.canLay_of_shaped sh
        have hr : X.A.units + 1 + min (PyData.depthAll (D.toPys ys)) (der h a).toPy.depth < cLine := by
          have := Nat.min_le_right (PyData.depthAll (D.toPys ys)) (der h a).toPy.depth
          omega
        exact fin _ rfl (fun z => by subst z; exact SeqAt.in_list_reads r2 r1 hx hd hr ⟨.bl _, H, I, rfl, by simpa using k⟩)
          (fun z => by subst z; exact SeqAt.notIn_list_reads r2 r1 hx hd hr ⟨.bl _, H, I, rfl, by simpa using k⟩)
      · simp only [D.toPy] at r2 sh
        have hx : PyData.canLayAll0 (D.toPys ys) = true := SeqAt.canLay_of_shaped sh
        have hr : X.A.units + 1 + min (PyData.depthAll (D.toPys ys)) (der h a).toPy.depth < cLine := by
          have := Nat.min_le_right (PyData.depthAll (D.toPys ys)) (der h a).toPy.depth
          omega
        exact fin _ rfl (fun z => by subst z; exact SeqAt.in_tuple_reads r2 r1 hx hd hr ⟨.bl _, H, I, rfl, by simpa using k⟩)
          (fun z => by subst z; exact SeqAt.notIn_tuple_reads r2 r1 hx hd hr ⟨.bl _, H, I, rfl, by simpa using k⟩)
    · cases ec
  unfold inF at e
  split at e
  · rename_i ys et
    exact data ys _ et (.inl rfl) e
  · rename_i ys et
    exact data ys _ et (.inr rfl) e
  · rename_i t et
    split at e
    · cases e
      simp only [RD] at ra
      subst ra
      have hb : b = .str t := der_str et
      subst hb
      simp only [RD] at rb
      subst rb
      exact fin _ rfl (fun z => by subst z; exact op_in_str pins s σ H _ _ v u Q I rx ry ⟨_, _, rfl, rfl, by simpa using k⟩)
        (fun z => by subst z; exact op_notin_str pins s σ H _ _ v u Q I rx ry ⟨_, _, rfl, rfl, by simpa using k⟩)
    · cases e
  · rename_i n et
    obtain ⟨o, e2, rfl⟩ := Option.map_eq_some_iff.mp e
    have hb : b = .ref n := der_ref et
    subst hb
    simp only [RD] at rb
    obtain ⟨l, el, rfl⟩ := rb
    obtain ⟨o', g, ho⟩ := look_get rH ra el e2
    have ho : o'.isSome = o.isSome := by
      rcases ho with ⟨rfl, rfl⟩ | ⟨_, _, rfl, rfl, _⟩ <;> rfl
    cases ry
    rw [← ho] at k
    exact fin _ rfl (fun z => by subst z; exact d_in (by omega) I g rx fun s' I' => ⟨.bl _, H, I', rfl, by simpa using k⟩)
      (fun z => by subst z; exact d_notIn (by omega) I g rx fun s' I' => ⟨.bl _, H, I', rfl, by simpa using k⟩)
  · cases e
theorem cmp_is (neg : Bool) : OpR X (compareOp (if neg then .IsNot else .Is)) (rB R fun h a b => (isNon a b).map fun c => if neg then !c else c) := by
  intro pins s σ H x y v u Q I rx ry ⟨ρ, φ, h, a, b, d, rH, ra, rb, e0, k⟩
  have e1 : (isNon a b).map (fun c => if neg then !c else c) = some d := e0
  obtain ⟨c, e, hc⟩ := Option.map_eq_some_iff.mp e1
  subst hc
  unfold isNon at e
  split at e
  · cases e
    have eb : y = .non := by simpa only [RD] using rb
    have ex : decide (x = .non) = a.isN := by
      cases a with
      | non => simp only [RD] at ra; subst ra; rfl
      | tup ds => simp only [RD] at ra; obtain ⟨_, _, rfl, _⟩ := ra; rfl
      | lst ds => simp only [RD] at ra; obtain ⟨_, _, rfl, _⟩ := ra; rfl
      | ref n => simp only [RD] at ra; obtain ⟨_, _, rfl⟩ := ra; rfl
      | _ => simp only [RD] at ra; subst ra; rfl
    cases neg with
    | false => exact op_isN pins s σ H _ _ v u Q I rx ry ⟨eb, by rw [ex]; exact k⟩
    | true => exact op_notN pins s σ H _ _ v u Q I rx ry ⟨eb, by rw [ex]; exact k⟩
  · cases e
theorem cmpR (op : CmpOp) (hu : X.A.units + 100 < cLine) : OpR X (compareOp op) (rB R fun h => cmpF h op) := by
  cases op with
  | Eq => exact cmp_eq hK hu
  | NotEq => exact cmp_ne hK hu
  | Lt =>
    have := cmp_ord (R := R) (op := .Lt) (g := id) (swap := false) hK hu (by simpa using op_lt) (fun s a b da db as bs E Q r1 r2 al _ n1 _ hd q => by simpa using PySem.W.lt_data r1 r2 al n1 hd (by simpa using q))
    exact rB_of this fun h a b => by simp [cmpF]
  | Gt =>
    have := cmp_ord (R := R) (op := .Gt) (g := id) (swap := true) hK hu (by simpa using op_gt) (fun s a b da db as bs E Q r1 r2 al _ n1 _ hd q => by simpa using PySem.W.gt_data r1 r2 al n1 hd (by simpa using q))
    exact rB_of this fun h a b => by simp [cmpF]
  | LtE =>
    have := cmp_ord (R := R) (op := .LtE) (g := (!·)) (swap := true) hK hu (by
      have := @op_le X
      have e : (fun i j : Int => V.bl (decide (i ≤ j))) = fun i j => V.bl (!decide (j < i)) := by
        funext i j
        congr 1
        by_cases h : i ≤ j
        · rw [decide_eq_true h, decide_eq_false (by omega)]; rfl
        · rw [decide_eq_false h, decide_eq_true (by omega)]; rfl
      rw [e] at this
      simpa using this) (fun s a b da db as bs E Q r1 r2 al _ n1 _ hd q => by simpa using PySem.W.le_data r1 r2 al n1 hd (by simpa using q))
    exact rB_of this fun h a b => by simp [cmpF]
  | GtE =>
    have := cmp_ord (R := R) (op := .GtE) (g := (!·)) (swap := false) hK hu (by
      have := @op_ge X
      have e : (fun i j : Int => V.bl (decide (j ≤ i))) = fun i j => V.bl (!decide (i < j)) := by
        funext i j
        congr 1
        by_cases h : j ≤ i
        · rw [decide_eq_true h, decide_eq_false (by omega)]; rfl
        · rw [decide_eq_false h, decide_eq_true (by omega)]; rfl
      rw [e] at this
      simpa using this) (fun s a b da db as bs E Q r1 r2 al _ n1 _ hd q => by simpa using PySem.W.ge_data r1 r2 al n1 hd (by simpa using q))
    exact rB_of this fun h a b => by simp [cmpF]
  | In => exact rB_of (cmp_in (R := R) hK false hu) fun h a b => by simp [cmpF]
  | NotIn => exact rB_of (cmp_in (R := R) hK true hu) fun h a b => by simp [cmpF]
  | Is => exact rB_of (cmp_is (R := R) hK false) fun h a b => by simp [cmpF]
  | IsNot => exact rB_of (cmp_is (R := R) hK true) fun h a b => by simp [cmpF]
end
end Cl

namespace Cl.So
open PySem PySem.Calls PyProof.Rows PySem.W
section
variable {prog : Program} {w : World} {A : Around} {E : Value → Shared → Prop} {s : Shared} {β : Type} {vs : List Value} {bs : List β} {enc : β → PyData} {R : Value → β → Prop}
/-- sorted(x), x a list or a tuple -/
theorem sorted_any {l : Addr} {T : String} {o : Obj} {n : Nat} {Q : Value → Shared → Prop} (hT : T = "list" ∨ T = "tuple") (ho : s.heap.get? l = some o) (hc : o.cls = .type T) (hd : o.data = .seq vs.toArray n)
    (e : EachIs R vs bs) (er : EachIs (fun v b => ∃ as, Reads s.heap v (enc b) as) vs bs) (hal : AllAlike (bs.map enc)) (hk : Sortable (bs.map enc)) (hL : bs.length ≤ sizeLine) (hu : ∀ b, b ∈ bs → A.units + 2 + (enc b).depth < cLine)
    (h : ∀ (h1 h' : Heap) (out : List Value) (c : Nat), (∀ b o', s.heap.get? b = some o' → h1.get? b = some o') → (∀ b o', h1.get? b = some o' → h'.get? b = some o') → h'.get? h1.objs.size = some (seqObj "list" out.toArray c) → out.length = bs.length → EachIs R out (bs.mergeSort (dataLe false enc)) → Q (.ref h1.objs.size) { s with heap := h' }) :
    wpAny (model prog w) A (call (.builtin "sorted") [.ref l]) Q E s := by
  have hlen := e.length
  refine call_function_entry_kw kind_sorted plain_sorted entry_sorted (args_sorted1 _) ?_
  unfold Builtin.«sorted»
  refine wpAny_bind (m := checkCount "sorted" 1 1 _) (wpAny_pure ?_)
  refine wpAny_bind (wpAny_collect_seq l hT ho hc hd (fun h1 k1 => ?_) (by rw [List.size_toArray, hlen]; exact hL))
  refine wpAny_bind (wpAny_newList ?_ (by show vs.toArray.toList.length ≤ _; rw [List.toList_toArray, hlen]; exact hL))
  have hat : (h1.push (seqObj "list" vs.toArray 0)).get? h1.objs.size = some (seqObj "list" vs.toArray 0) := Heap.get?_push_size _ rfl
  have k2 : ∀ b o', s.heap.get? b = some o' → (h1.push (seqObj "list" vs.toArray 0)).get? b = some o' := fun b o' q => Heap.get?_push_of_some _ (k1 b o' q)
  have ks : ∀ b o', s.heap.get? b = some o' → (sortingHeap (h1.push (seqObj "list" vs.toArray 0)) h1.objs.size vs).get? b = some o' := fun b o' q => sortingHeap_old (Nat.ne_of_lt (Heap.lt_size (k1 b o' q))) (k2 b o' q)
  have er' : EachIs (fun v b => ∃ as, Reads (sortingHeap (h1.push (seqObj "list" vs.toArray 0)) h1.objs.size vs) v (enc b) as) vs bs := er.mono fun _ _ ⟨as, r⟩ => ⟨as, PyProof.Rows.Reads.keeps ks r⟩
  show wpAny _ _ _ _ _ { s with heap := h1.push (seqObj "list" vs.toArray 0) }
  refine wpAny_bind (wpAny_holding (wpAny_call_entry_kw slot_list_sort ⟨_, hat, rfl⟩ entry_list_sort ?body (args_list_sort _)))
  case body =>
    show wpAny (model prog w) A.in1.in1 (Builtin.«list.sort» ⟨[.ref h1.objs.size], []⟩) _ _ _
    refine list_sort_vals (κ := dataKind (sortingHeap (h1.push (seqObj "list" vs.toArray 0)) h1.objs.size vs) (bs.map enc)) (s := { s with heap := h1.push (seqObj "list" vs.toArray 0) }) hat (SortsAt.data (s := { s with heap := sortingHeap (h1.push (seqObj "list" vs.toArray 0)) h1.objs.size vs }) (each_map (R := fun v d => ∃ as, Reads (sortingHeap (h1.push (seqObj "list" vs.toArray 0)) h1.objs.size vs) v d as) enc er') hal hk (bound_map hu)) (by rw [hlen]; exact hL) ?_
    obtain ⟨c, hc'⟩ : ∃ c, (sortedHeap (h1.push (seqObj "list" vs.toArray 0)) h1.objs.size vs (sortVals (dataKind (sortingHeap (h1.push (seqObj "list" vs.toArray 0)) h1.objs.size vs) (bs.map enc)) false vs vs).toArray).get? h1.objs.size = some (seqObj "list" (sortVals (dataKind (sortingHeap (h1.push (seqObj "list" vs.toArray 0)) h1.objs.size vs) (bs.map enc)) false vs vs).toArray c) := sortedHeap_at hat
    refine ⟨_, rfl, wpAny_pure ⟨_, rfl, h h1 _ _ c k1 (fun b o' q => ?_) hc' (by rw [sortVals_length false rfl]; exact hlen) (sortVals_data false e er' hal)⟩⟩
    rw [sortedHeap_old (Nat.ne_of_lt (Heap.lt_size q)) (by rw [Heap.size_push]; exact Nat.lt_succ_of_lt (Heap.lt_size q))]
    exact Heap.get?_push_of_some _ q
end
end Cl.So
namespace Cl
open PySem PySem.Spec PyProof.Rows L2

/-! ## the stable sort -/
section
variable {le : D → D → Bool} (trans : ∀ x y z, le x y = true → le y z = true → le x z = true) (total : ∀ x y, (le x y || le y x) = true)
include trans
theorem insD_filter (z x : D) : ∀ ys, (insD le x ys).filter (PySem.W.Srt.alike le z) = (x :: ys).filter (PySem.W.Srt.alike le z)
  | [] => rfl
  | y :: ys => by
    unfold insD
    split
    · rfl
    · rename_i hn
      rw [List.filter_cons, insD_filter z x ys]
      simp only [List.filter_cons]
      by_cases h1 : PySem.W.Srt.alike le z y = true
      · by_cases h2 : PySem.W.Srt.alike le z x = true
        · exfalso
          unfold PySem.W.Srt.alike at h1 h2
          simp only [Bool.and_eq_true] at h1 h2
          exact hn (trans _ _ _ h2.2 h1.1)
        · rw [if_pos h1, if_neg h2, if_neg h2, if_pos h1]
      · by_cases h2 : PySem.W.Srt.alike le z x = true
        · rw [if_neg h1, if_pos h2, if_pos h2, if_neg h1]
        · rw [if_neg h1, if_neg h2, if_neg h2, if_neg h1]
theorem sortD_filter (z : D) : ∀ xs, (sortD le xs).filter (PySem.W.Srt.alike le z) = xs.filter (PySem.W.Srt.alike le z)
  | [] => rfl
  | x :: xs => by
    unfold sortD
    rw [insD_filter trans]
    simp only [List.filter_cons, sortD_filter z xs]
theorem mem_insD {a x : D} : ∀ {ys}, a ∈ insD le x ys → a = x ∨ a ∈ ys
  | [], h => by simp [insD] at h; exact .inl h
  | y :: ys, h => by
    unfold insD at h
    split at h
    · simpa using h
    · rcases List.mem_cons.mp h with rfl | h
      · exact .inr (by simp)
      · rcases mem_insD h with h | h
        · exact .inl h
        · exact .inr (by simp [h])
include total
theorem insD_pw (x : D) : ∀ ys, ys.Pairwise (fun a b => le a b = true) → (insD le x ys).Pairwise (fun a b => le a b = true)
  | [], _ => by simp [insD]
  | y :: ys, h => by
    unfold insD
    rw [List.pairwise_cons] at h
    split
    · rename_i hy
      rw [List.pairwise_cons, List.pairwise_cons]
      refine ⟨fun b hb => ?_, h⟩
      rcases List.mem_cons.mp hb with rfl | hb
      · exact hy
      · exact trans _ _ _ hy (h.1 b hb)
    · rename_i hy
      rw [List.pairwise_cons]
      refine ⟨fun b hb => ?_, insD_pw x ys h.2⟩
      have hyx : le y x = true := by
        have := total x y
        rw [Bool.or_eq_true] at this
        rcases this with q | q
        · exact absurd q hy
        · exact q
      rcases mem_insD trans hb with rfl | hb
      · exact hyx
      · exact h.1 b hb
theorem sortD_pw : ∀ xs, (sortD le xs).Pairwise (fun a b => le a b = true)
  | [] => by simp [sortD]
  | x :: xs => insD_pw trans total x _ (sortD_pw xs)
theorem sortD_eq (xs : List D) : sortD le xs = xs.mergeSort le :=
  PySem.W.Srt.the le (fun x y z h1 h2 => trans x y z h1 h2) total (sortD_pw trans total xs) fun z => sortD_filter trans z xs
end
theorem leD_is : leD = PySem.W.dataLe false D.toPy := rfl
theorem sortD_leD (xs : List D) : sortD leD xs = xs.mergeSort (PySem.W.dataLe false D.toPy) := by
  have T := PySem.W.sortLe_total (PyProof.Rows.listOrd PyProof.Rows.itemOrd) false fun b : D => PySem.W.keyToks b.toPy
  have t : ∀ x y z, leD x y = true → leD y z = true → leD x z = true := fun x y z h1 h2 => T.trans x y z h1 h2
  have tt : ∀ x y, (leD x y || leD y x) = true := fun x y => by
    rw [Bool.or_eq_true]
    exact T.total x y
  exact sortD_eq t tt xs

/-! ## built-ins -/
section
variable {R : RC} {ρ φ : List Addr} {H : Hp} {h : Hc}
theorem RDs.each {s : Shared} {X : Cx} {pins : List (Addr × Obj)} {σ : L2.St} (I : Inv X pins σ H s) (hK : R.K = X.K) : ∀ {xs : List D} {vs : List V} {us : List Value}, D.plains xs = true → RDs R ρ φ H xs vs → Vals vs us →
    PySem.W.EachIs (fun u d => ∃ v, RelV v u ∧ RD R ρ φ H d v) us xs ∧ PySem.W.EachIs (fun u d => ∃ as, Reads s.heap u (D.toPy d) as) us xs
  | [], vs, us, _, r, q => by
    simp only [RDs] at r
    subst r
    cases q
    exact ⟨.nil, .nil⟩
  | d :: ds, vs, us, p, r, q => by
    simp only [RDs] at r
    obtain ⟨v, vs', rfl, h1, h2⟩ := r
    simp only [D.plains, Bool.and_eq_true] at p
    cases q with
    | cons q1 q2 =>
      obtain ⟨e1, e2⟩ := RDs.each I hK p.2 h2 q2
      exact ⟨.cons ⟨v, q1, h1⟩ e1, .cons (Dp.reads I _ _ _ (hK ▸ h1.dp p.1) q1) e2⟩
theorem of_each : ∀ {xs : List D} {us : List Value}, PySem.W.EachIs (fun u d => ∃ v, RelV v u ∧ RD R ρ φ H d v) us xs → ∃ vs, Vals vs us ∧ RDs R ρ φ H xs vs
  | [], _, .nil => ⟨[], .nil, by simp only [RDs]⟩
  | d :: ds, _, .cons ⟨v, r1, r2⟩ t => by
    obtain ⟨vs, h1, h2⟩ := of_each t
    exact ⟨v :: vs, .cons r1 h1, RDs.cons r2 h2⟩
theorem lst_seq (r : RelH R ρ φ H h) {d : D} {v : V} (q : RD R ρ φ H d v) {xs : List D} (e : lstD h d = some xs) : ∃ a vs, v = .ref a ∧ SqL R.K H a vs ∧ RDs R ρ φ H xs vs := by
  cases d with
  | lst ds =>
    simp only [lstD, Option.some.injEq] at e; subst e
    simp only [RD] at q
    obtain ⟨a, vs, rfl, h1, h2⟩ := q
    exact ⟨a, vs, rfl, h1.sq, h2⟩
  | ref n =>
    simp only [RD] at q
    obtain ⟨a, ea, rfl⟩ := q
    unfold lstD at e
    cases hc : h[n]? with
    | none => simp [hc] at e
    | some c =>
      have rc := r.cells n a c ea hc
      cases c with
      | lst ys =>
        simp only [hc, Option.some.injEq] at e; subst e
        obtain ⟨vs, e1, e2⟩ := rc
        exact ⟨a, vs, rfl, SqL.of e1, e2⟩
      | ro ys =>
        simp only [hc, Option.some.injEq] at e; subst e
        obtain ⟨o, vs, e1, e2⟩ := rc
        exact ⟨a, vs, rfl, .inl (.inr ⟨o, e1⟩), e2⟩
      | dK _ => simp [hc] at e
      | dT _ => simp [hc] at e
  | _ => simp [lstD] at e
theorem intsD_rd : ∀ {xs : List D} {ns : List Int} {vs : List V}, intsD xs = some ns → RDs R ρ φ H xs vs → vs = ns.map V.int ∧ xs = ns.map D.int
  | [], ns, vs, e, r => by
    simp only [intsD, Option.some.injEq] at e; subst e
    simp only [RDs] at r; subst r
    exact ⟨rfl, rfl⟩
  | d :: ds, ns, vs, e, r => by
    cases d with
    | int i =>
      simp only [intsD] at e
      obtain ⟨ms, e1, rfl⟩ := Option.map_eq_some_iff.mp e
      simp only [RDs, RD] at r
      obtain ⟨v, vs', rfl, rfl, h2⟩ := r
      obtain ⟨q1, q2⟩ := intsD_rd e1 h2
      rw [q1, q2]
      exact ⟨rfl, rfl⟩
    | _ => simp [intsD] at e
theorem sumI_ints : ∀ {xs : List D} {n : Int}, sumI xs = some n → ∃ ns, intsD xs = some ns ∧ n = ns.sum
  | [], n, e => by simp only [sumI, Option.some.injEq] at e; subst e; exact ⟨[], rfl, rfl⟩
  | d :: ds, n, e => by
    cases d with
    | int i =>
      simp only [sumI] at e
      obtain ⟨m, e1, rfl⟩ := Option.map_eq_some_iff.mp e
      obtain ⟨ns, e2, rfl⟩ := sumI_ints e1
      exact ⟨i :: ns, by simp [intsD, e2], by simp⟩
    | _ => simp [sumI] at e
theorem allB_rd : ∀ {xs : List D} {bs : List Bool} {vs : List V}, allB xs = some bs → RDs R ρ φ H xs vs → vs = bs.map V.bl
  | [], ns, vs, e, r => by
    simp only [allB, Option.some.injEq] at e; subst e
    simp only [RDs] at r; subst r
    rfl
  | d :: ds, ns, vs, e, r => by
    cases d with
    | bl i =>
      simp only [allB] at e
      obtain ⟨ms, e1, rfl⟩ := Option.map_eq_some_iff.mp e
      simp only [RDs, RD] at r
      obtain ⟨v, vs', rfl, rfl, h2⟩ := r
      rw [allB_rd e1 h2]
      rfl
    | _ => simp [allB] at e
end
def arg1 {α : Type} (f : Hc → D → Option α) (h : Hc) (ds : List D) : Option α :=
  match ds with
  | [d] => f h d
  | _ => none
theorem arg1_some {α : Type} {f : Hc → D → Option α} {h : Hc} {ds : List D} {x : α} (e : arg1 f h ds = some x) : ∃ d, ds = [d] ∧ f h d = some x := by
  match ds, e with
  | [d], e => exact ⟨d, rfl, e⟩
theorem depth_mem {b : D} : ∀ {xs : List D}, b ∈ xs → (D.toPy b).depth ≤ PyData.depthAll (D.toPys xs)
  | [], h => by simp at h
  | x :: xs, h => by
    simp only [D.toPys, PyData.depthAll]
    rcases List.mem_cons.mp h with rfl | h
    · omega
    · have := depth_mem h
      omega
/-- a built-in's reading: its answer is the clean one; the lists new -/
def rL (R : RC) (f : Hc → List D → Option (List D)) : List V → Hp → VK → Prop := fun vs H Q => ∃ ρ φ h ds xs, RelH R ρ φ H h ∧ RDs R ρ φ H ds vs ∧ f h ds = some xs ∧
  ∀ p ws, H p = none → RDs R ρ φ H xs ws → Q (.ref p) (upd H p (.lst ws))
def rV (R : RC) (f : Hc → List D → Option D) : List V → Hp → VK → Prop := fun vs H Q => ∃ ρ φ h ds d, RelH R ρ φ H h ∧ RDs R ρ φ H ds vs ∧ f h ds = some d ∧
  ∀ ρ' v H', Ext ρ ρ' H H' → RelH R ρ' φ H' h → RD R ρ' φ H' d v → Q v H'
section
variable {X : Cx} {R : RC} (hK : R.K = X.K)
include hK
theorem call_listC : CallR X (.type "list") (rL R (arg1 seqD)) := by
  intro pins s σ H vs us Q I r ⟨ρ, φ, h, ds, xs, rH, rd, e, k⟩
  obtain ⟨d, rfl, e⟩ := arg1_some e
  simp only [RDs] at rd
  obtain ⟨v, vs', rfl, h1, rfl⟩ := rd
  obtain ⟨a, ws, rfl, h2, h3⟩ := h1.seq rH e
  exact call_list_of pins s σ H _ us Q I r ⟨a, ws, rfl, hK ▸ h2, fun l hl => k l ws hl h3⟩
theorem call_sortedC (hu : X.A.units + 100 < cLine) : CallR X (.builtin "sorted") (rL R (arg1 fun h d => (seqD h d).bind sortF)) := by
  intro pins s σ H vs us Q I r ⟨ρ, φ, h, ds, ys, rH, rd, e, k⟩
  obtain ⟨d, rfl, e⟩ := arg1_some e
  simp only [RDs] at rd
  obtain ⟨v, vs', rfl, h1, rfl⟩ := rd
  obtain ⟨xs, e1, e2⟩ := Option.bind_eq_some_iff.mp e
  obtain ⟨a, ws, rfl, h2, h3⟩ := h1.seq rH e1
  unfold sortF at e2
  split at e2
  · rename_i hz
    cases e2
    simp only [Bool.and_eq_true, decide_eq_true_eq] at hz
    obtain ⟨⟨⟨k1, k2⟩, k3⟩, k4⟩ := hz
    obtain ⟨its, T, o, nn, rv, hT, hob, hcl, hda⟩ : ∃ (its : List Value) (T : String) (o : Obj) (nn : Nat), Vals ws its ∧ (T = "list" ∨ T = "tuple") ∧ s.heap.get? a = some o ∧ o.cls = .type T ∧ o.data = .seq its.toArray nn := by
      rcases h2 with h2 | h2
      · obtain ⟨its, rv, hl, hlen⟩ := I.list (hK ▸ h2 : SqL X.K H a ws)
        obtain ⟨o, ho, hc, n, hd⟩ := hl.isList
        exact ⟨its, _, o, n, rv, .inl rfl, ho, hc, hd⟩
      · obtain ⟨its, rv, hl, hlen⟩ := I.tuple (hK ▸ h2 : SqT X.K H a ws)
        obtain ⟨o, ho, hc, n, hd⟩ := hl
        exact ⟨its, _, o, n, rv, .inr rfl, ho, hc, hd⟩
    rw [Vals.ref1 r]
    have pl : D.plains xs = true := by have := okD_plain k1; simpa only [D.plain] using this
    obtain ⟨E1, E2⟩ := RDs.each I hK pl h3 rv
    have hdep : ∀ b, b ∈ xs → (D.toPy b).depth ≤ 64 := by
      have := SeqAt.depth_of_shaped (okD_shaped k1)
      simp only [D.toPy, PyData.depth] at this
      intro b hb
      have := depth_mem hb
      omega
    refine So.sorted_any (enc := D.toPy) hT hob hcl hda E1 E2 ?_ ?_ (by rw [← line_eq]; exact k4) (fun b hb => by have := hdep b hb; omega) fun g1 g2 out ep kp1 kp2 he' ho hout => ?_
    · intro d hd d' hd'
      obtain ⟨b, hb, rfl⟩ := List.mem_map.mp hd
      obtain ⟨b', hb', rfl⟩ := List.mem_map.mp hd'
      unfold alikes at k2
      exact List.all_eq_true.mp (List.all_eq_true.mp k2 b hb) b' hb'
    · unfold sortable at k3
      rw [Bool.or_eq_true] at k3
      rcases k3 with k3 | k3
      · refine .inl fun d hd => ?_
        obtain ⟨b, hb, rfl⟩ := List.mem_map.mp hd
        have := List.all_eq_true.mp k3 b hb
        match b, this with
        | .tup (x :: r), _ => exact ⟨D.toPy x, D.toPys r, by simp only [D.toPy, D.toPys]⟩
      · refine .inr fun d hd => ?_
        obtain ⟨b, hb, rfl⟩ := List.mem_map.mp hd
        have := List.all_eq_true.mp k3 b hb
        match b, this with
        | .bl x, _ => exact ⟨by simp [D.toPy], fun xs => by simp [D.toPy]⟩
        | .int x, _ => exact ⟨by simp [D.toPy], fun xs => by simp [D.toPy]⟩
        | .str x, _ => exact ⟨by simp [D.toPy], fun xs => by simp [D.toPy]⟩
        | .lst x, _ => exact ⟨by simp [D.toPy], fun xs => by simp [D.toPy]⟩
    rw [← sortD_leD] at hout
    obtain ⟨ws', r1, r2⟩ := of_each hout
    have I1 : Inv X pins σ H { s with heap := g1 } := I.kept (t' := s.toks) kp1
    refine ⟨.ref g1.objs.size, upd H g1.objs.size (.lst ws'), I1.laid (t' := s.toks) kp2 (Nat.le_refl _) ⟨?_, out, ep, r1, he'⟩, rfl, k _ ws' (I1.hok.fresh (Nat.le_refl _)) r2⟩
    rw [r1.length, ho, ← line_eq]; exact k4
  · cases e2
end
end Cl

namespace Cl
open PySem PySem.Spec PyProof.Rows L2
section
variable {prog : Program} {w : World} {A : Around} {E : Value → Shared → Prop} {s : Shared}
theorem iter_anyT {l : Addr} {items : Array Value} {Q : Value → Shared → Prop} (hl : s.heap.IsTuple l items)
    (h : ∀ s₂ : Shared, s₂ = { s with heap := s.heap.push { cls := .type "tuple_iterator", data := .fields #[.ref l, .int 0 0] } } →
      (s₂.heap.IsTupleIter s.heap.objs.size l 0 ∧ s₂.heap.IsTuple l items) → l ≠ s.heap.objs.size → (∀ b ∈ [s.heap.objs.size, l], b < s₂.heap.objs.size) → Q (.ref s.heap.objs.size) s₂) : wpAny (model prog w) A (pyIter (.ref l)) Q E s := by
  have hlt : l < s.heap.objs.size := by obtain ⟨_, e, _⟩ := hl; exact Heap.lt_size e
  refine wpAny_pyIter_tuple hl (h _ rfl ⟨⟨_, Heap.get?_push_size _ rfl, rfl, rfl⟩, hl.push _⟩ (Nat.ne_of_lt hlt) fun b hb => ?_)
  show b < (s.heap.push _).objs.size
  rw [Heap.size_push]
  rcases List.mem_cons.mp hb with rfl | hb
  · exact Nat.lt_succ_self _
  · rcases List.mem_cons.mp hb with rfl | hb
    · exact Nat.lt_succ_of_lt hlt
    · cases hb
theorem sum_tup_raw {l : Addr} {its : List Value} {ns : List Int} {Q : Value → Shared → Prop} (hh : A.handled = none) (hl : s.heap.IsTuple l its.toArray) (hi : IntsAre its ns)
    (h : ∀ h' tk t', (∀ b o, s.heap.get? b = some o → h'.get? b = some o) → Q (.int ns.sum t') { s with heap := h', toks := tk }) : wpAny (model prog w) A (call (.builtin "sum") [.ref l]) Q E s := by
  obtain ⟨xs, e⟩ := hi.allInts.items
  have hn : numsOf (intItems xs).toList = ns := by rw [← e]; exact hi.numsOf
  rw [nums_intItems] at hn
  rw [e] at hl
  refine call_sum_walkG (iter_anyT hl fun s₂ e2 st hlI hfp => ?_)
  subst e2
  refine ⟨_, _, _, _, _, _, numAt xs, rfl, Walks.tuple (A := A.in1) hh _ l hlI (intItems xs), st, hfp, (fun _ _ => intItems_at), fun h' tk t' hk => ?_⟩
  have := h h' tk t' (fun b o e => hk b o (fun hm => by
    rcases List.mem_cons.mp hm with e1 | hm
    · exact absurd (e1 ▸ Heap.lt_size e) (Nat.lt_irrefl _)
    · cases hm) (Heap.get?_push_of_some _ e))
  have e3 : preSum (numAt xs) (intItems xs).size = ns.sum := by
    have hsz : (intItems xs).size = xs.size := by simp [intItems]
    rw [hsz, preSum_eq, List.take_of_length_le (by simp), hn]
  rw [e3]
  exact this
end
/-- the value of a built-in -/
def biVal : Bi → Value
  | .len => .builtin "len" | .abs => .builtin "abs" | .int => .type "int" | .tuple => .type "tuple" | .list => .type "list"
  | .sorted => .builtin "sorted" | .sortedR => .none | .sum => .builtin "sum" | .all => .builtin "all" | .any => .builtin "any"
  | .max => .builtin "max" | .min => .builtin "min" | .max2 => .builtin "max" | .min2 => .builtin "min" | .str => .type "str" | .lenset => .none
def biName : Bi → Str
  | .len => "len" | .abs => "abs" | .int => "int" | .tuple => "tuple" | .list => "list" | .sorted => "sorted" | .sortedR => "sorted" | .sum => "sum" | .all => "all" | .any => "any"
  | .max => "max" | .min => "min" | .max2 => "max" | .min2 => "min" | .str => "str" | .lenset => "set"
section
variable {X : Cx} {R : RC} (hK : R.K = X.K)
theorem of_arg1 {α : Type} {f : Hc → D → Option α} {g : Hc → List D → Option α} {h : Hc} {ds : List D} (h0 : g h [] = none) (h1 : ∀ d, g h [d] = f h d) (h2 : ∀ a b l, g h (a :: b :: l) = none) : g h ds = arg1 f h ds := by
  match ds with
  | [] => exact h0
  | [d] => exact h1 d
  | a :: b :: l => exact h2 a b l
theorem arg1_map {α β : Type} {f : Hc → D → Option α} {k : α → β} {h : Hc} {ds : List D} : (arg1 f h ds).map k = arg1 (fun h d => (f h d).map k) h ds := by
  match ds with
  | [] => rfl
  | [d] => rfl
  | a :: b :: l => rfl
theorem rL_rV {f : Hc → List D → Option (List D)} {v : Value} (k : CallR X v (rL R f)) : CallR X v (rV R fun h ds => (f h ds).map D.lst) := by
  intro pins s σ H vs us Q I r ⟨ρ, φ, h, ds, d, rH, rd, e, q⟩
  obtain ⟨xs, e1, rfl⟩ := Option.map_eq_some_iff.mp e
  refine k pins s σ H vs us Q I r ⟨ρ, φ, h, ds, xs, rH, rd, e1, fun p ws hp hw => ?_⟩
  obtain ⟨q1, q2, q3⟩ := new_lst rH hp hw
  exact q _ _ _ q1 q2 q3
theorem rV_of {v : Value} {f g : Hc → List D → Option D} (k : CallR X v (rV R f)) (e : ∀ h ds, f h ds = g h ds) : CallR X v (rV R g) := by
  have : f = g := by funext h a; exact e h a
  rw [← this]; exact k
include hK
theorem biR (hc : X.calm = true) (hu : X.A.units + 100 < cLine) (b : Bi) (hb : b ≠ .sortedR) (hb2 : b ≠ .lenset) : CallR X (biVal b) (rV R fun h ds => biF h b ds) := by
  have one : ∀ {v : Value} {g : Hc → D → Option D}, (∀ h ds, biF h b ds = arg1 g h ds) → (∀ (pins : List (Addr × Obj)) (s : Shared) (σ : L2.St) (H : Hp) (us : List Value) (Q : VK) (ρ φ : List Addr) (h : Hc) (d d' : D) (x : V), Inv X pins σ H s → Vals [x] us → RelH R ρ φ H h → RD R ρ φ H d x → g h d = some d' →
      (∀ ρ' v H', Ext ρ ρ' H H' → RelH R ρ' φ H' h → RD R ρ' φ H' d' v → Q v H') → wpAny (model X.prog X.w) X.A (call v us) (EP X pins σ Q) X.xe s) → CallR X v (rV R fun h ds => biF h b ds) := by
    intro v g hg hk pins s σ H vs us Q I r ⟨ρ, φ, h, ds, d, rH, rd, e, q⟩
    have e' : biF h b ds = some d := e
    rw [hg] at e'
    obtain ⟨d0, rfl, e2⟩ := arg1_some e'
    simp only [RDs] at rd
    obtain ⟨x, vs', rfl, h1, rfl⟩ := rd
    exact hk pins s σ H us Q ρ φ h d0 d x I r rH h1 e2 q
  have rint : ∀ {d : D} {n : Int}, d = .int n → ∀ {R : RC} {ρ φ : List Addr} {H : Hp}, RD R ρ φ H d (.int n) := by
    intro d n e R ρ φ H
    subst e
    simp only [RD]
  cases b with
  | sortedR => exact absurd rfl hb
  | lenset => exact absurd rfl hb2
  | list => exact rV_of (rL_rV (call_listC hK)) fun h ds => ((of_arg1 (f := fun h d => (seqD h d).map D.lst) (g := fun h ds => biF h .list ds) rfl (fun d => rfl) (fun _ _ _ => rfl)).trans arg1_map.symm).symm
  | sorted => exact rV_of (rL_rV (call_sortedC hK hu)) fun h ds => ((of_arg1 (f := fun h d => ((seqD h d).bind sortF).map D.lst) (g := fun h ds => biF h .sorted ds) rfl (fun d => rfl) (fun _ _ _ => rfl)).trans arg1_map.symm).symm
  | len =>
    refine one (g := lenF) (fun h ds => ?_) fun pins s σ H us Q ρ φ h d d' x I r rH h1 e q => ?_
    · exact of_arg1 (g := fun h ds => biF h _ ds) rfl (fun d => rfl) (fun _ _ _ => rfl)
    unfold lenF at e
    split at e
    · split at e
      · rename_i hz
        cases e
        simp only [RD] at h1
        subst h1
        exact call_len_str pins s σ H _ us Q I r ⟨_, rfl, by rw [← line_eq]; exact hz, q _ _ _ Ext.refl rH (rint rfl)⟩
      · cases e
    · split at e
      · rename_i xs e1
        cases e
        obtain ⟨a, ws, rfl, h2, h3⟩ := h1.seq rH e1
        rw [h3.len] at q
        exact call_len_seq pins s σ H _ us Q I r ⟨a, ws, rfl, hK ▸ h2, q _ _ _ Ext.refl rH (rint rfl)⟩
      · split at e
        · rename_i n _ _
          simp only [RD] at h1
          obtain ⟨a, ea, rfl⟩ := h1
          split at e
          · rename_i kvs hc
            cases e
            obtain ⟨kws, h2, h3⟩ := rH.cells n a _ ea hc
            have hl : kvs.length = kws.length := by
              have := congrArg List.length h3.1
              simpa using this
            rw [hl] at q
            obtain ⟨u, rfl, ru⟩ := vals1 r
            cases ru
            exact d_len I (.inl h2) fun t s' I' => ⟨.int kws.length, H, I', ⟨_, rfl⟩, q _ _ _ Ext.refl rH (rint rfl)⟩
          · cases e
        · cases e
  | abs =>
    refine one (g := fun h d => match d with | .int i => some (.int (if i < 0 then -i else i)) | _ => none) (fun h ds => ?_) fun pins s σ H us Q ρ φ h d d' x I r rH h1 e q => ?_
    · exact of_arg1 (g := fun h ds => biF h _ ds) rfl (fun d => by cases d <;> rfl) (fun a _ _ => by cases a <;> rfl)
    cases d with
    | int i =>
      simp only [Option.some.injEq] at e
      subst e
      simp only [RD] at h1
      subst h1
      exact call_abs pins s σ H _ us Q I r ⟨i, rfl, q _ _ _ Ext.refl rH (rint rfl)⟩
    | _ => simp at e
  | int =>
    refine one (g := fun h d => intF d) (fun h ds => ?_) fun pins s σ H us Q ρ φ h d d' x I r rH h1 e q => ?_
    · exact of_arg1 (g := fun h ds => biF h _ ds) rfl (fun d => rfl) (fun _ _ _ => rfl)
    cases d with
    | int i =>
      simp only [intF, Option.some.injEq] at e
      subst e
      simp only [RD] at h1
      subst h1
      exact call_int1 pins s σ H _ us Q I r (.inl ⟨i, rfl, q _ _ _ Ext.refl rH (rint rfl)⟩)
    | bl i =>
      simp only [intF, Option.some.injEq] at e
      subst e
      simp only [RD] at h1
      subst h1
      exact call_int1 pins s σ H _ us Q I r (.inr ⟨i, rfl, q _ _ _ Ext.refl rH (rint rfl)⟩)
    | _ => simp [intF] at e
  | tuple =>
    refine one (g := fun h d => (seqD h d).map fun xs => .tup xs) (fun h ds => ?_) fun pins s σ H us Q ρ φ h d d' x I r rH h1 e q => ?_
    · exact of_arg1 (g := fun h ds => biF h _ ds) rfl (fun d => rfl) (fun _ _ _ => rfl)
    obtain ⟨xs, e1, rfl⟩ := Option.map_eq_some_iff.mp e
    cases d with
    | tup ds =>
      simp only [seqD, Option.some.injEq] at e1
      subst e1
      have h1' := h1
      simp only [RD] at h1
      obtain ⟨a, vs, rfl, h2, h3⟩ := h1
      exact call_tuple_of pins s σ H _ us Q I r ⟨a, vs, rfl, .inr ⟨hK ▸ h2.sq, q _ _ _ Ext.refl rH h1'⟩⟩
    | _ =>
      obtain ⟨a, ws, rfl, h2, h3⟩ := lst_seq rH h1 (by simpa [lstD, seqD] using e1)
      refine call_tuple_of pins s σ H _ us Q I r ⟨a, ws, rfl, .inl ⟨hK ▸ h2, fun l hl => ?_⟩⟩
      obtain ⟨q1, q2, q3⟩ := new_tup rH hl h3
      exact q _ _ _ q1 q2 q3
  | sum =>
    refine one (g := fun h d => (seqD h d).bind fun xs => (sumI xs).map .int) (fun h ds => ?_) fun pins s σ H us Q ρ φ h d d' x I r rH h1 e q => ?_
    · exact of_arg1 (g := fun h ds => biF h _ ds) rfl (fun d => rfl) (fun _ _ _ => rfl)
    obtain ⟨xs, e1, e2⟩ := Option.bind_eq_some_iff.mp e
    obtain ⟨n, e3, rfl⟩ := Option.map_eq_some_iff.mp e2
    obtain ⟨ns, e4, rfl⟩ := sumI_ints e3
    obtain ⟨a, ws, rfl, h2, h3⟩ := h1.seq rH e1
    obtain ⟨rfl, _⟩ := intsD_rd e4 h3
    rcases (hK ▸ h2 : SqL X.K H a (ns.map V.int) ∨ SqT X.K H a (ns.map V.int)) with h2 | h2
    · exact cr_sum hc pins s σ H _ us Q I r ⟨a, ns, rfl, h2, q _ _ _ Ext.refl rH (rint rfl)⟩
    · obtain ⟨its, rv, hl, _⟩ := I.tuple h2
      rw [Vals.ref1 r]
      exact sum_tup_raw (I.ok.hd hc) hl rv.ints fun h' tk t' hk => ⟨.int _, H, I.kept hk, ⟨_, rfl⟩, q _ _ _ Ext.refl rH (rint rfl)⟩
  | all =>
    refine one (g := fun h d => (lstD h d).bind fun xs => (allB xs).map fun bs => .bl (bs.all id)) (fun h ds => ?_) fun pins s σ H us Q ρ φ h d d' x I r rH h1 e q => ?_
    · exact of_arg1 (g := fun h ds => biF h _ ds) rfl (fun d => rfl) (fun _ _ _ => rfl)
    obtain ⟨xs, e1, e2⟩ := Option.bind_eq_some_iff.mp e
    obtain ⟨bs, e3, rfl⟩ := Option.map_eq_some_iff.mp e2
    obtain ⟨a, ws, rfl, h2, h3⟩ := lst_seq rH h1 e1
    have := allB_rd e3 h3
    subst this
    exact cr_all hc pins s σ H _ us Q I r ⟨a, bs, rfl, hK ▸ h2, q _ _ _ Ext.refl rH (by simp only [RD])⟩
  | any =>
    refine one (g := fun h d => (lstD h d).bind fun xs => (allB xs).map fun bs => .bl (bs.any id)) (fun h ds => ?_) fun pins s σ H us Q ρ φ h d d' x I r rH h1 e q => ?_
    · exact of_arg1 (g := fun h ds => biF h _ ds) rfl (fun d => rfl) (fun _ _ _ => rfl)
    obtain ⟨xs, e1, e2⟩ := Option.bind_eq_some_iff.mp e
    obtain ⟨bs, e3, rfl⟩ := Option.map_eq_some_iff.mp e2
    obtain ⟨a, ws, rfl, h2, h3⟩ := lst_seq rH h1 e1
    have := allB_rd e3 h3
    subst this
    exact cr_any hc pins s σ H _ us Q I r ⟨a, bs, rfl, hK ▸ h2, q _ _ _ Ext.refl rH (by simp only [RD])⟩
  | max =>
    refine one (g := fun h d => (seqD h d).bind fun xs => match intsD xs with | some (x :: xs) => some (.int (xs.foldl max x)) | _ => none) (fun h ds => ?_) fun pins s σ H us Q ρ φ h d d' x I r rH h1 e q => ?_
    · exact of_arg1 (g := fun h ds => biF h _ ds) rfl (fun d => rfl) (fun _ _ _ => rfl)
    obtain ⟨xs, e1, e2⟩ := Option.bind_eq_some_iff.mp e
    cases e3 : intsD xs with
    | none => rw [e3] at e2; cases e2
    | some ms =>
      rw [e3] at e2
      cases ms with
      | nil => cases e2
      | cons n ns =>
        cases e2
        obtain ⟨a, ws, rfl, h2, h3⟩ := h1.seq rH e1
        obtain ⟨rfl, _⟩ := intsD_rd e3 h3
        rw [Vals.ref1 r]
        have fin : ∀ {its : List Value} (i : Nat) (v : Value) (h' : Heap) (tk : Nat) (bs : List Addr), its.toArray[i]? = some v → Reads h' v (PySem.W.maxD (.int n) (ns.map .int)) bs → (∀ b o, s.heap.get? b = some o → h'.get? b = some o) → EP X pins σ Q v { s with heap := h', toks := tk } := by
          intro its i v h' tk bs _ hr hk
          rw [PySem.W.maxD_ints] at hr
          cases hr
          exact ⟨.int _, H, I.kept hk, ⟨_, rfl⟩, q _ _ _ Ext.refl rH (rint rfl)⟩
        have al : PySem.W.AlikeAll (PyData.int n :: ns.map PyData.int) := by
          have : ∀ d ∈ (PyData.int n :: ns.map PyData.int), ∃ i, d = .int i := by
            intro d hd
            rcases List.mem_cons.mp hd with rfl | hd
            · exact ⟨_, rfl⟩
            · obtain ⟨i, _, rfl⟩ := List.mem_map.mp hd
              exact ⟨_, rfl⟩
          refine ⟨fun d hd d' hd' => ?_, fun d hd => ?_⟩
          · obtain ⟨i, rfl⟩ := this d hd
            obtain ⟨j, rfl⟩ := this d' hd'
            rfl
          · obtain ⟨i, rfl⟩ := this d hd
            exact fun z => nomatch z
        have dep : X.A.units + 1 + PyData.depthAll (PyData.int n :: ns.map PyData.int) < cLine := by
          have : ∀ l : List Int, PyData.depthAll (l.map PyData.int) = 0 := by
            intro l
            induction l with
            | nil => simp [PyData.depthAll]
            | cons a l ih => simp [PyData.depthAll, PyData.depth, ih]
          have := this (n :: ns)
          rw [List.map_cons] at this
          omega
        have rds : ∀ {its : List Value}, IntsAre its (n :: ns) → ∃ as, ReadsAll s.heap its (PyData.int n :: ns.map PyData.int) as := by
          intro its hi
          have : ∀ {l : List Int} {its : List Value}, IntsAre its l → ∃ as, ReadsAll s.heap its (l.map PyData.int) as := by
            intro l
            induction l with
            | nil => intro its hi; cases hi; exact ⟨_, .nil⟩
            | cons a l ih =>
              intro its hi
              cases hi with
              | cons _ _ hi' =>
                obtain ⟨as, ha⟩ := ih hi'
                exact ⟨_, .cons (.int _ _) ha⟩
          exact this (l := n :: ns) hi
        rcases (hK ▸ h2 : SqL X.K H a ((n :: ns).map V.int) ∨ SqT X.K H a ((n :: ns).map V.int)) with h2 | h2
        · obtain ⟨its, rv, hl, _⟩ := I.list h2
          obtain ⟨as, ha⟩ := rds rv.ints
          exact PySem.W.max_list_data (I.ok.hd hc) hl.isList ha al dep fun i v h' tk bs g1 g2 g3 => fin (its := its) i v h' tk bs g1 g2 g3
        · obtain ⟨its, rv, hl, _⟩ := I.tuple h2
          obtain ⟨as, ha⟩ := rds rv.ints
          exact PySem.W.max_tuple_data (I.ok.hd hc) hl ha al dep fun i v h' tk bs g1 g2 g3 => fin (its := its) i v h' tk bs g1 g2 g3
  | min =>
    refine one (g := fun h d => (seqD h d).bind fun xs => match intsD xs with | some (x :: xs) => some (.int (xs.foldl min x)) | _ => none) (fun h ds => ?_) fun pins s σ H us Q ρ φ h d d' x I r rH h1 e q => ?_
    · exact of_arg1 (g := fun h ds => biF h _ ds) rfl (fun d => rfl) (fun _ _ _ => rfl)
    obtain ⟨xs, e1, e2⟩ := Option.bind_eq_some_iff.mp e
    cases e3 : intsD xs with
    | none => rw [e3] at e2; cases e2
    | some ms =>
      rw [e3] at e2
      cases ms with
      | nil => cases e2
      | cons n ns =>
        cases e2
        obtain ⟨a, ws, rfl, h2, h3⟩ := h1.seq rH e1
        obtain ⟨rfl, _⟩ := intsD_rd e3 h3
        rw [Vals.ref1 r]
        have fin : ∀ {its : List Value} (i : Nat) (v : Value) (h' : Heap) (tk : Nat) (bs : List Addr), its.toArray[i]? = some v → Reads h' v (PySem.W.minD (.int n) (ns.map .int)) bs → (∀ b o, s.heap.get? b = some o → h'.get? b = some o) → EP X pins σ Q v { s with heap := h', toks := tk } := by
          intro its i v h' tk bs _ hr hk
          rw [PySem.W.minD_ints] at hr
          cases hr
          exact ⟨.int _, H, I.kept hk, ⟨_, rfl⟩, q _ _ _ Ext.refl rH (rint rfl)⟩
        have al : PySem.W.AlikeAll (PyData.int n :: ns.map PyData.int) := by
          have : ∀ d ∈ (PyData.int n :: ns.map PyData.int), ∃ i, d = .int i := by
            intro d hd
            rcases List.mem_cons.mp hd with rfl | hd
            · exact ⟨_, rfl⟩
            · obtain ⟨i, _, rfl⟩ := List.mem_map.mp hd
              exact ⟨_, rfl⟩
          refine ⟨fun d hd d' hd' => ?_, fun d hd => ?_⟩
          · obtain ⟨i, rfl⟩ := this d hd
            obtain ⟨j, rfl⟩ := this d' hd'
            rfl
          · obtain ⟨i, rfl⟩ := this d hd
            exact fun z => nomatch z
        have dep : X.A.units + 1 + PyData.depthAll (PyData.int n :: ns.map PyData.int) < cLine := by
          have : ∀ l : List Int, PyData.depthAll (l.map PyData.int) = 0 := by
            intro l
            induction l with
            | nil => simp [PyData.depthAll]
            | cons a l ih => simp [PyData.depthAll, PyData.depth, ih]
          have := this (n :: ns)
          rw [List.map_cons] at this
          omega
        have rds : ∀ {its : List Value}, IntsAre its (n :: ns) → ∃ as, ReadsAll s.heap its (PyData.int n :: ns.map PyData.int) as := by
          intro its hi
          have : ∀ {l : List Int} {its : List Value}, IntsAre its l → ∃ as, ReadsAll s.heap its (l.map PyData.int) as := by
            intro l
            induction l with
            | nil => intro its hi; cases hi; exact ⟨_, .nil⟩
            | cons a l ih =>
              intro its hi
              cases hi with
              | cons _ _ hi' =>
                obtain ⟨as, ha⟩ := ih hi'
                exact ⟨_, .cons (.int _ _) ha⟩
          exact this (l := n :: ns) hi
        rcases (hK ▸ h2 : SqL X.K H a ((n :: ns).map V.int) ∨ SqT X.K H a ((n :: ns).map V.int)) with h2 | h2
        · obtain ⟨its, rv, hl, _⟩ := I.list h2
          obtain ⟨as, ha⟩ := rds rv.ints
          exact PySem.W.min_list_data (I.ok.hd hc) hl.isList ha al dep fun i v h' tk bs g1 g2 g3 => fin (its := its) i v h' tk bs g1 g2 g3
        · obtain ⟨its, rv, hl, _⟩ := I.tuple h2
          obtain ⟨as, ha⟩ := rds rv.ints
          exact PySem.W.min_tuple_data (I.ok.hd hc) hl ha al dep fun i v h' tk bs g1 g2 g3 => fin (its := its) i v h' tk bs g1 g2 g3
  | max2 =>
    intro pins s σ H vs us Q I r ⟨ρ, φ, h, ds, d, rH, rd, e, q⟩
    match ds, rd, e with
    | [.int i, .int j], rd, e =>
      simp only [biF, Option.some.injEq] at e
      subst e
      simp only [RDs, RD] at rd
      obtain ⟨_, _, rfl, rfl, _, _, rfl, rfl, rfl⟩ := rd
      exact call_max2 hc pins s σ H _ us Q I r ⟨i, j, rfl, q _ _ _ Ext.refl rH (rint rfl)⟩
  | min2 =>
    intro pins s σ H vs us Q I r ⟨ρ, φ, h, ds, d, rH, rd, e, q⟩
    match ds, rd, e with
    | [.int i, .int j], rd, e =>
      simp only [biF, Option.some.injEq] at e
      subst e
      simp only [RDs, RD] at rd
      obtain ⟨_, _, rfl, rfl, _, _, rfl, rfl, rfl⟩ := rd
      exact call_min2 hc pins s σ H _ us Q I r ⟨i, j, rfl, q _ _ _ Ext.refl rH (rint rfl)⟩
  | str =>
    refine one (g := fun h d => match d with | .int i => if i.natAbs.log2 < 1920 then some (.str (toString i)) else none | _ => none) (fun h ds => ?_) fun pins s σ H us Q ρ φ h d d' x I r rH h1 e q => ?_
    · exact of_arg1 (g := fun h ds => biF h _ ds) rfl (fun d => by cases d <;> rfl) (fun a _ _ => by cases a <;> rfl)
    cases d with
    | int i =>
      simp only at e
      split at e
      · rename_i hz
        cases e
        simp only [RD] at h1
        subst h1
        exact call_str_int pins s σ H _ us Q I r ⟨i, rfl, hz, q _ _ _ Ext.refl rH (by simp only [RD])⟩
      · cases e
    | _ => simp at e
end
end Cl

namespace Cl
open PySem PySem.Spec PyProof.Rows L2

/-! ## does a term fit its syntax -/
/-- what is known of the text: the defs' names, the module's constants, the exceptions' names -/
structure Sg where
  fns : List Str
  consts : List (Str × D)
  excs : List Str
def Sg.glob (S : Sg) (x : Str) : Option D :=
  match S.consts.lookup x with
  | some d => some d
  | none => (S.fns.findIdx? fun y => decide (y = x)).map .fn
def visK : Option NameKind → Bool
  | some .local => true
  | some .cell => true
  | some .free => true
  | _ => false
def nmOk (x : Str) : Bool := decide ((x == ("__debug__" : Str)) = false) && decide ((x == ("__classdict__" : Str)) = false) && decide ((x == ("__name__" : Str)) = false)
def isVarB (N : List Str) (sc : Scope) (i : Nat) (x : Str) : Bool := decide (N[i]? = some x) && visK (sc.names.lookup x) && nmOk x
def isGlB (sc : Scope) (x : Str) : Bool := decide (sc.names.lookup x = some .globalImplicit) && nmOk x
def chkC : D → Const → Bool
  | .non, .none => true
  | .bl a, .bool b => a == b
  | .int a, .int b => decide (a = b)
  | .str a, .str b => decide (a = b)
  | _, _ => false
def baseOk : Expr → Bool
  | .Call _ _ _ _ => false
  | _ => true
def notSet : Expr → Bool
  | .Set _ _ _ => false
  | _ => true
def tyName : Ty → Str
  | .int => "int" | .bool => "bool" | .str => "str" | .tuple => "tuple" | .list => "list" | .dict => "dict"
def chkTy (sc : Scope) : Ty → Expr → Bool
  | t, .Name x _ => decide (x = tyName t) && isGlB sc x
  | _, _ => false
def chkTys (sc : Scope) : List Ty → List Expr → Bool
  | [], [] => true
  | t :: ts, e :: es => chkTy sc t e && chkTys sc ts es
  | _, _ => false
mutual
def chkT (N : List Str) (sc : Scope) : Tg → Expr → Bool
  | .v i, .Name x _ => decide (N[i]? = some x) && (decide (sc.names.lookup x = some .local) || decide (sc.names.lookup x = some .cell)) && nmOk x
  | .t ts, .Tuple es _ _ => chkTs N sc ts es
  | _, _ => false
def chkTs (N : List Str) (sc : Scope) : Tgs → List Expr → Bool
  | .nil, [] => true
  | .cons t ts, e :: es => chkT N sc t e && chkTs N sc ts es
  | _, _ => false
end
def freshC : CE → Bool
  | .lst _ => true
  | .comp _ _ _ _ _ => true
  | .bi .list _ => true
  | .bi .sorted _ => true
  | .lrange _ => true
  | .bin .Add _ _ => true
  | .bin .Mult _ _ => true
  | .sl _ _ _ => true
  | _ => false
def isRng : CI → Bool
  | .rng1 _ => true
  | .rng2 _ _ => true
  | _ => false
mutual
/-- a target's places, all among vs -/
def tgIn (vs : List Nat) : Tg → Bool
  | .v i => decide (i ∈ vs)
  | .t ts => tgsIn vs ts
def tgsIn (vs : List Nat) : Tgs → Bool
  | .nil => true
  | .cons t ts => tgIn vs t && tgsIn vs ts
end
mutual
def chkE (S : Sg) (N : List Str) (sc : Scope) (cm : Bool) : CE → Expr → Bool
  | .var i, e => match e with
    | .Name x _ => isVarB N sc i x
    | _ => false
  | .cst d, e => match e with
    | .Constant c _ _ => chkC d c
    | _ => false
  | .glob x d, e => match e with
    | .Name y _ => decide (x = y) && isGlB sc y && decide (S.glob y = some d)
    | _ => false
  | .bin op a b, e => match e with
    | .BinOp l o r _ => decide (op = o) && chkE S N sc cm a l && chkE S N sc cm b r
    | _ => false
  | .neg a, e => match e with
    | .UnaryOp .USub l _ => chkE S N sc cm a l
    | _ => false
  | .not_ a, e => match e with
    | .UnaryOp .Not l _ => chkE S N sc cm a l
    | _ => false
  | .cmp op a b, e => match e with
    | .Compare l [o] [r] _ => decide (op = o) && notSet r && chkE S N sc cm a l && chkE S N sc cm b r
    | _ => false
  | .chain op op' a b c, e => match e with
    | .Compare l [o, o'] [r, q] _ => decide (op = o) && decide (op' = o') && notSet q && chkE S N sc cm a l && chkE S N sc cm b r && chkE S N sc cm c q
    | _ => false
  | .and_ a b, e => match e with
    | .BoolOp .And [x, y] _ => chkE S N sc cm a x && chkE S N sc cm b y
    | .BoolOp .And (x :: y :: z :: r) p => chkE S N sc cm a x && chkE S N sc cm b (.BoolOp .And (y :: z :: r) p)
    | _ => false
  | .or_ a b, e => match e with
    | .BoolOp .Or [x, y] _ => chkE S N sc cm a x && chkE S N sc cm b y
    | .BoolOp .Or (x :: y :: z :: r) p => chkE S N sc cm a x && chkE S N sc cm b (.BoolOp .Or (y :: z :: r) p)
    | _ => false
  | .ite t a b, e => match e with
    | .IfExp x y z _ => chkE S N sc cm t x && chkE S N sc cm a y && chkE S N sc cm b z
    | _ => false
  | .call f args, e => match e with
    | .Call (.Name x _) es [] _ => cm && decide (S.fns[f]? = some x) && isGlB sc x && chkEs S N sc cm args es
    | _ => false
  | .callv fe fs args, e => match e with
    | .Call (.Name x p) (y :: es) [] _ => cm && fs.all (fun i => decide (i < S.fns.length)) && chkE S N sc cm fe (.Name x p) && chkEs S N sc cm args (y :: es)
    | .Call (.Subscript l r p) (y :: es) [] _ => cm && fs.all (fun i => decide (i < S.fns.length)) && chkE S N sc cm fe (.Subscript l r p) && chkEs S N sc cm args (y :: es)
    | _ => false
  | .bi .lenset args, e => match e with
    | .Call (.Name x _) [.Call (.Name y _) [a] [] _] [] _ => cm && decide (x = "len") && decide (y = "set") && isGlB sc x && isGlB sc y && chkEs S N sc cm args [a]
    | _ => false
  | .bi b args, e => match e with
    | .Call (.Name x _) (a :: es) [] _ => cm && decide (x = biName b) && decide (b ≠ .sortedR) && isGlB sc x && chkEs S N sc cm args (a :: es)
    | _ => false
  | .isin a ts, e => match e with
    | .Call (.Name x _) [l, .Tuple es _ _] [] _ => cm && decide (x = "isinstance") && isGlB sc x && decide (es.length ≤ 6) && chkE S N sc cm a l && chkTys sc ts es
    | .Call (.Name x _) [l, t] [] _ => cm && decide (x = "isinstance") && isGlB sc x && chkE S N sc cm a l && chkTys sc ts [t]
    | _ => false
  | .pop o, e => match e with
    | .Call (.Attribute l m ap) [] [] cp => cm && decide (m = "pop") && baseOk l && decide (ap.endLine = cp.line) && chkE S N sc cm o l
    | _ => false
  | .idx a i, e => match e with
    | .Subscript l r _ => (match r with | .Slice _ _ _ _ => false | _ => true) && chkE S N sc cm a l && chkE S N sc cm i r
    | _ => false
  | .sl a lo hi, e => match e with
    | .Subscript l (.Slice x y none _) _ => chkE S N sc cm a l && (match x with | none => lo.isAbs | some x => !lo.isAbs && chkE S N sc cm lo x) && (match y with | none => hi.isAbs | some y => !hi.isAbs && chkE S N sc cm hi y)
    | _ => false
  | .rev a, e => match e with
    | .Subscript l (.Slice none none (some (.UnaryOp .USub (.Constant (.int 1) _ _) _)) _) _ => chkE S N sc cm a l
    | _ => false
  | .absent, _ => false
  | .tup es, e => match e with
    | .Tuple xs _ _ => decide (xs.length ≤ 4096) && chkEs S N sc cm es xs
    | _ => false
  | .lst es, e => match e with
    | .List xs _ => decide (xs.length ≤ 4096) && chkEs S N sc cm es xs
    | _ => false
  | .comp elt t it cond own, e => match e with
    | .ListComp x [⟨tg, iter, ifs, a⟩] scope _ => cm && decide (a = 0) && notSet iter && chkI S N sc cm it tg iter && blkC N sc scope (own.filterMap fun i => N[i]?.map fun x => (x, i)) && decide ((own.filterMap fun i => N[i]?.map fun x => (x, i)).map (·.2) = own)
        && chkT N scope t tg && tgIn own t && (match ifs with | [] => cond.isAbs | [c] => !cond.isAbs && chkE S N scope cm cond c | _ => false) && chkE S N scope cm elt x
    | _ => false
  | .lrange it, e => match e with
    | .Call (.Name x _) [r] [] _ => cm && decide (x = "list") && isGlB sc x && isRng it && chkI S N sc cm it (.Name x ⟨0, 0, 0, 0⟩) r
    | _ => false
  | .cell c, e => freshC c && chkE S N sc cm c e
  | .dict0 _, e => match e with
    | .Dict [] [] _ => true
    | _ => false
  | .dget o k d, e => match e with
    | .Call (.Attribute l m ap) [x, y] [] cp => cm && decide (m = "get") && baseOk l && decide (ap.endLine = cp.line) && chkE S N sc cm o l && chkE S N sc cm k x && chkE S N sc cm d y
    | _ => false
def chkEs (S : Sg) (N : List Str) (sc : Scope) (cm : Bool) : CEs → List Expr → Bool
  | .nil, [] => true
  | .cons c cs, e :: es => chkE S N sc cm c e && chkEs S N sc cm cs es
  | _, _ => false
def chkI (S : Sg) (N : List Str) (sc : Scope) (cm : Bool) : CI → Expr → Expr → Bool
  | .seq c, _, e => chkE S N sc cm c e
  | .rng1 a, _, e => match e with
    | .Call (.Name x _) [l] [] _ => decide (x = "range") && isGlB sc x && chkE S N sc cm a l
    | _ => false
  | .rng2 a b, _, e => match e with
    | .Call (.Name x _) [l, r] [] _ => decide (x = "range") && isGlB sc x && chkE S N sc cm a l && chkE S N sc cm b r
    | _ => false
  | .rng3 a b c, _, e => match e with
    | .Call (.Name x _) [l, r, q] [] _ => decide (x = "range") && isGlB sc x && chkE S N sc cm a l && chkE S N sc cm b r && chkE S N sc cm c q
    | _ => false
  | .enum _, _, _ => false
  | .zip _ _, _, _ => false
end

/-! ## where a term runs -/
structure Sees (sc sc' : Scope) : Prop where
  loc : ∀ x, sc.names.lookup x = some .local → sc'.names.lookup x = some .local
  cell : ∀ x, sc.names.lookup x = some .cell → sc'.names.lookup x = some .cell
  free : ∀ x, sc.names.lookup x = some .free → sc'.names.lookup x = some .cell ∨ sc'.names.lookup x = some .free
  gl : ∀ x, sc.names.lookup x = some .globalImplicit → sc'.names.lookup x = some .globalImplicit
theorem Sees.refl {sc : Scope} : Sees sc sc := ⟨fun _ h => h, fun _ h => h, fun _ h => .inr h, fun _ h => h⟩
theorem lookup_relabel_keep {sc' : Scope} : ∀ {names : List (Str × NameKind)} {x : Str} {k : NameKind}, names.lookup x = some k → 
    (names.map fun (n, k) => if (k == NameKind.free && sc'.kind == .function && sc'.names.lookup n == some .cell) then (n, NameKind.cell) else (n, k)).lookup x = some k ∨ (k = .free ∧ (names.map fun (n, k) => if (k == NameKind.free && sc'.kind == .function && sc'.names.lookup n == some .cell) then (n, NameKind.cell) else (n, k)).lookup x = some .cell)
  | [], _, _, h => by simp at h
  | (n, k₀) :: r, x, k, h => by
    have ih := @lookup_relabel_keep sc' r x k
    show List.lookup x ((if (k₀ == NameKind.free && sc'.kind == .function && sc'.names.lookup n == some .cell) = true then (n, NameKind.cell) else (n, k₀)) :: _) = _ ∨ _ ∧ List.lookup x ((if (k₀ == NameKind.free && sc'.kind == .function && sc'.names.lookup n == some .cell) = true then (n, NameKind.cell) else (n, k₀)) :: _) = _
    by_cases hx : x = n
    · subst hx
      simp only [List.lookup, beq_self_eq_true] at h
      cases h
      split
      · rename_i hc
        simp only [Bool.and_eq_true, beq_iff_eq] at hc
        right
        refine ⟨hc.1.1, ?_⟩
        simp [List.lookup]
      · left
        simp [List.lookup]
    · have hb : (x == n) = false := by simpa using hx
      simp only [List.lookup, hb] at h
      have ih' := ih h
      split <;> simpa [List.lookup, hb] using ih'
theorem Sees.comp {scope : Scope} {cl : List (Str × Addr)} {C : Addr} {env : Env} : Sees scope (compEnvC scope cl C env).scope := by
  have key := @lookup_relabel_keep env.scope scope.names
  refine ⟨fun x h => ?_, fun x h => ?_, fun x h => ?_, fun x h => ?_⟩
  · rcases key h with q | ⟨q, _⟩
    · exact q
    · cases q
  · rcases key h with q | ⟨q, _⟩
    · exact q
    · cases q
  · rcases key h with q | ⟨_, q⟩
    · exact .inr q
    · exact .inl q
  · rcases key h with q | ⟨q, _⟩
    · exact q
    · cases q
end Cl

namespace Cl
open PySem PySem.Spec PyProof.Rows L2

def bltNames : List Str := ["len", "abs", "int", "tuple", "list", "sorted", "sum", "all", "any", "max", "min", "str", "set", "isinstance", "range", "enumerate", "zip", "bool", "dict", "reversed"]
/-- the value of a module's constant -/
def GV (R : RC) : D → V → Prop
  | .non, v => v = .non
  | .bl b, v => v = .bl b
  | .int i, v => v = .int i
  | .str x, v => v = .str x
  | .fn i, v => v = .ref (R.fa i)
  | .tup ds, v => ∃ a, v = .ref a ∧ (a, D.tup ds) ∈ R.gt
  | _, _ => False
theorem GV.rd {R : RC} {ρ φ : List Addr} {H : Hp} {h : Hc} (r : RelH R ρ φ H h) : ∀ {d : D} {v : V}, GV R d v → RD R ρ φ H d v
  | .non, _, q => by simp only [RD]; exact q
  | .bl _, _, q => by simp only [RD]; exact q
  | .int _, _, q => by simp only [RD]; exact q
  | .str _, _, q => by simp only [RD]; exact q
  | .fn _, _, q => by simp only [RD]; exact q
  | .tup ds, _, ⟨a, e, m⟩ => by subst e; exact (r.gt _ m).2
  | .lst _, _, q => q.elim
  | .ref _, _, q => q.elim
def spC (R : RC) (Y : XC) (C : Caller) (i : Nat) : Sp := fun vs H Q E => ∃ ρ φ ds h, RelH R ρ φ H h ∧ RDs R ρ φ H ds vs ∧ Fin R Y (fun cls dd _ H => E cls dd H) [] ρ φ H (rD R φ) (C i ds h) Q
/-- a run's ground: where a term runs, all that its proof leans on -/
structure Gd (S : Sg) (R : RC) (C : Caller) (Y : XC) (n : Nat) (N : List Str) (cm : Bool) (sc : Scope) (X : Cx) (W : WX) : Prop where
  hK : R.K = X.K
  hN : X.N = N
  nd : N.Nodup
  sees : Sees sc X.env.scope
  fnc : ∀ x, sc.names.lookup x = some .cell → X.fn x = true
  calm : cm = true → X.calm = true
  tk : Takes X W
  hu : X.A.units + 100 < cLine
  glob : ∀ x d, S.glob x = some d → ∃ u v, X.mg x = some u ∧ RelV v u ∧ GV R d v
  blt : ∀ x ∈ bltNames, X.mg x = none
  room : cm = true → Room n X.A
  calls : ∀ i x, S.fns[i]? = some x → ∃ fd ps, X.mg x = some (.ref (R.fa i)) ∧ PySem.W.keepIn X.K (.ref (R.fa i)) = true ∧ Binds X.K fd ps [] ∧ FnOk X.prog X.w X.K X.mg X.base (L2.CX X.prog X.w) n (R.fa i) fd ps (spC R Y C i)
def tE (R : RC) (Y : XC) (W : WX) (f : EvF) : TE := fun σ H Q => ∃ ρ φ c h, RelS R ρ φ H c σ ∧ RelH R ρ φ H h ∧ Fin R Y W σ ρ φ H (rD R φ) (f c h) Q
def tA (R : RC) (Y : XC) (W : WX) (f : CSt → Hc → ERes (List D)) : TA := fun σ H Q => ∃ ρ φ c h, RelS R ρ φ H c σ ∧ RelH R ρ φ H h ∧ Fin R Y W σ ρ φ H (rDs R φ) (f c h) Q
abbrev rEq {α : Type} : List Addr → Hp → α → α → Prop := fun _ _ a b => a = b
def tT (R : RC) (Y : XC) (W : WX) (f : EvF) : TT := fun σ H Q => ∃ ρ φ c h, RelS R ρ φ H c σ ∧ RelH R ρ φ H h ∧ Fin R Y W σ ρ φ H rEq (boolR (f c h)) Q
/-- a new list, held back -/
def FinL (R : RC) (Y : XC) (W : WX) (σ : L2.St) (ρ φ : List Addr) (H : Hp) (r : ERes D) (Q : V → Hp → Prop) : Prop :=
  match r with
  | .ok (.lst xs) h' => ∀ ρ' p ws H', Ext ρ ρ' H H' → RelH R ρ' (p :: φ) H' h' → H p = none → p ∉ φ → H' p = some (.lst ws) → RDs R ρ' (p :: φ) H' xs ws → Q (.ref p) H'
  | .ok _ _ => True
  | .exc x h' => ∀ ρ' cls dd H', Ext ρ ρ' H H' → RelH R ρ' φ H' h' → RX R Y ρ' φ H' x cls dd → W cls dd σ H'
  | .stuck => False
def tL (R : RC) (Y : XC) (W : WX) (f : EvF) : TE := fun σ H Q => ∃ ρ φ c h, RelS R ρ φ H c σ ∧ RelH R ρ φ H h ∧ FinL R Y W σ ρ φ H (f c h) Q ∧ ∀ d h', f c h = .ok d h' → ∃ xs, d = .lst xs
section
variable {S : Sg} {R : RC} {C : Caller} {Y : XC} {n : Nat} {N : List Str} {cm : Bool} {sc : Scope} {X : Cx} {W : WX} {e : Expr}
theorem pe_imp {t t' : TE} (h : PE X e t) (k : ∀ σ H Q, t' σ H Q → t σ H Q) : PE X e t' := ⟨fun pins s σ H Q I q => h.run pins s σ H Q I (k σ H Q q)⟩
theorem pt_imp {t t' : TT} (h : PT X e t) (k : ∀ σ H Q, t' σ H Q → t σ H Q) : PT X e t' := ⟨fun pins s σ H Q I q => h.run pins s σ H Q I (k σ H Q q)⟩
theorem pw_imp {t t' : TT} (h : PW X e t) (k : ∀ σ H Q, t' σ H Q → t σ H Q) : PW X e t' := ⟨fun wh pins s σ H Q I q => h.run wh pins s σ H Q I (k σ H Q q)⟩
theorem pa_imp {es : List Expr} {t t' : TA} (h : PA X es t) (k : ∀ σ H Q, t' σ H Q → t σ H Q) : PA X es t' := ⟨fun pos pins s σ H Q I q => h.run pos pins s σ H Q I (k σ H Q q)⟩
theorem tE_of {f g : EvF} (h : PE X e (tE R Y W f)) (k : ∀ c h, f c h = g c h) : PE X e (tE R Y W g) := by
  have : f = g := by funext c h; exact k c h
  rw [← this]; exact h
theorem Sees.vis {sc' : Scope} (s : Sees sc sc') {x : Str} (h : visK (sc.names.lookup x) = true) : Vis sc' x := by
  cases q : sc.names.lookup x with
  | none => rw [q] at h; cases h
  | some k =>
    cases k with
    | «local» => exact .inl (s.loc x q)
    | cell => exact .inr (.inl (s.cell x q))
    | free => exact (s.free x q).elim (fun z => .inr (.inl z)) fun z => .inr (.inr z)
    | globalExplicit => rw [q] at h; cases h
    | globalImplicit => rw [q] at h; cases h
theorem nm_dbg {x : Str} (h : nmOk x = true) : (x == ("__debug__" : Str)) = false ∧ (x == ("__classdict__" : Str)) = false ∧ x ≠ "__name__" := by
  unfold nmOk at h
  simp only [Bool.and_eq_true, decide_eq_true_eq] at h
  refine ⟨h.1.1, h.1.2, fun e => ?_⟩
  have := h.2
  rw [e] at this
  simp at this
theorem chk_ns : ∀ {c : CE} {e : Expr}, chkE S N sc cm c e = true → ∀ (es : List Expr) (env : PySem.Env), starEach (e :: es) env = (false, eval e env) :: starEach es env := by
  intro c e h es env
  cases e with
  | Starred v p =>
    exfalso
    cases c with
    | cell c =>
      have h' : (freshC c && chkE S N sc cm c (.Starred v p)) = true := h
      rw [Bool.and_eq_true] at h'
      obtain ⟨h1, h2⟩ := h'
      cases c with
      | bi b args => cases b <;> exact Bool.noConfusion (show false = true from h2)
      | _ => first | exact Bool.noConfusion (show false = true from h2) | exact Bool.noConfusion (show false = true from h1)
    | bi b args => cases b <;> exact Bool.noConfusion (show false = true from h)
    | _ => exact Bool.noConfusion (show false = true from h)
  | _ => rfl
theorem chks_plain : ∀ {cs : CEs} {es : List Expr}, chkEs S N sc cm cs es = true → ∀ (pos : Pos) (env : PySem.Env), (backTo pos (starEach es env)).any (·.1) = false
  | .nil, [], _, _, _ => rfl
  | .nil, _ :: _, h, _, _ => by simp [chkEs] at h
  | .cons c cs, [], h, _, _ => by simp [chkEs] at h
  | .cons c cs, e :: es, h, pos, env => by
    simp only [chkEs, Bool.and_eq_true] at h
    rw [chk_ns h.1]
    show ((false, _).1 || (backTo pos (starEach es env)).any (·.1)) = false
    rw [chks_plain h.2]
    rfl
theorem attr_base {o : Expr} {m : Str} {env : PySem.Env} (h : baseOk o = true) : attributeBase o m env (eval o env) = eval o env := by
  cases o <;> first | rfl | (simp [baseOk] at h)
theorem notset_fold {e : Expr} {env : PySem.Env} (h : notSet e = true) : ∀ x, foldedSetIterable e env x = pure x := by
  intro x
  cases e <;> first | rfl | (simp [notSet] at h)
theorem notset_mark {e : Expr} {op : CmpOp} (h : notSet e = true) : behindInMarks op e = false := by
  cases e <;> first | rfl | (simp [notSet] at h)
end
end Cl

namespace Cl
open PySem PySem.Spec PyProof.Rows L2
section
variable {S : Sg} {R : RC} {C : Caller} {Y : XC} {n : Nat} {N : List Str} {cm : Bool} {sc : Scope} {X : Cx} {W : WX} (G : Gd S R C Y n N cm sc X W) {pos : Pos}
include G
theorem Gd.glb {x : Str} (h : isGlB sc x = true) : Gl X x ∧ nmOk x = true := by
  unfold isGlB at h
  simp only [Bool.and_eq_true, decide_eq_true_eq] at h
  exact ⟨G.sees.gl x h.1, h.2⟩
theorem c_var {i : Nat} {x : Str} (h : isVarB N sc i x = true) : PE X (.Name x pos) (tE R Y W (evE C (.var i))) := by
  unfold isVarB at h
  simp only [Bool.and_eq_true, decide_eq_true_eq] at h
  obtain ⟨⟨h1, h2⟩, h3⟩ := h
  obtain ⟨d1, d2, _⟩ := nm_dbg h3
  refine pe_imp (pe_var (i := i) (by rw [G.hN]; exact h1) (G.sees.vis h2) d1 d2) fun σ H Q ⟨ρ, φ, c, h, hS, hH, f⟩ => ?_
  simp only [evE] at f
  cases q : c[i]? with
  | none => rw [q] at f; exact f.elim
  | some o =>
    cases o with
    | none => rw [q] at f; exact f.elim
    | some d =>
      rw [q] at f
      obtain ⟨v, h4, h5⟩ := hS.at_ i d q
      exact ⟨v, h4, f ρ v H Ext.refl hH h5⟩
omit G in
theorem c_cst {d : D} {c : Const} {k : Nat} (h : chkC d c = true) : PE X (.Constant c k pos) (tE R Y W (evE C (.cst d))) := by
  cases d with
  | non =>
    cases c <;> simp [chkC] at h
    exact pe_imp pe_non fun σ H Q ⟨ρ, φ, c, h, hS, hH, f⟩ => f ρ _ H Ext.refl hH (by simp only [RD])
  | bl b =>
    cases c <;> simp [chkC] at h
    subst h
    exact pe_imp pe_bl fun σ H Q ⟨ρ, φ, c, h, hS, hH, f⟩ => f ρ _ H Ext.refl hH (by simp only [RD])
  | int b =>
    cases c <;> simp [chkC] at h
    subst h
    exact pe_imp pe_int fun σ H Q ⟨ρ, φ, c, h, hS, hH, f⟩ => f ρ _ H Ext.refl hH (by simp only [RD])
  | str b =>
    cases c <;> simp [chkC] at h
    subst h
    exact pe_imp pe_str fun σ H Q ⟨ρ, φ, c, h, hS, hH, f⟩ => f ρ _ H Ext.refl hH (by simp only [RD])
  | _ => cases c <;> simp [chkC] at h
theorem c_glob {x y : Str} {d : D} (h1 : isGlB sc y = true) (h2 : S.glob y = some d) : PE X (.Name y pos) (tE R Y W (evE C (.glob x d))) := by
  obtain ⟨g1, g2⟩ := G.glb h1
  obtain ⟨u, v, m1, m2, m3⟩ := G.glob y d h2
  exact pe_imp (pe_glob g1 m1 m2 (nm_dbg g2).1) fun σ H Q ⟨ρ, φ, c, h, hS, hH, f⟩ => f ρ _ H Ext.refl hH (m3.rd hH)
variable {a b c : CE} {ea eb ec : Expr}
theorem c_bin {op : Operator} (ha : PE X ea (tE R Y W (evE C a))) (hb : PE X eb (tE R Y W (evE C b))) : PE X (.BinOp ea op eb pos) (tE R Y W (evE C (.bin op a b))) :=
  pe_imp (pe_op (binR G.hK op) ha hb) fun σ H Q ⟨ρ, φ, s, h, hS, hH, f⟩ => by
    simp only [evE] at f
    refine ⟨ρ, φ, s, h, hS, hH, f.bind fun x h1 ρ1 v H1 _ e1 hH1 r1 f1 => ?_⟩
    refine ⟨ρ1, φ, s, h1, hS.ext e1, hH1, f1.bind fun y h2 ρ2 u H2 _ e2 hH2 r2 f2 => ?_⟩
    obtain ⟨d, ed, k⟩ := Fin.ofO f2
    exact ⟨ρ2, φ, h2, x, y, d, hH2, r1.ext e2, r2, ed, k⟩
omit G in
theorem c_neg (ha : PE X ea (tE R Y W (evE C a))) : PE X (.UnaryOp .USub ea pos) (tE R Y W (evE C (.neg a))) :=
  pe_imp (pe_un un_neg ha) fun σ H Q ⟨ρ, φ, s, h, hS, hH, f⟩ => by
    simp only [evE] at f
    refine ⟨ρ, φ, s, h, hS, hH, f.bind fun x h1 ρ1 v H1 _ e1 hH1 r1 f1 => ?_⟩
    cases x with
    | int i =>
      simp only [RD] at r1
      exact ⟨i, r1, f1 _ _ _ Ext.refl hH1 (by simp only [RD])⟩
    | _ => exact f1.elim
omit G in
theorem c_not (ha : PE X ea (tE R Y W (evE C a))) : PE X (.UnaryOp .Not ea pos) (tE R Y W (evE C (.not_ a))) :=
  pe_imp (pe_not ha) fun σ H Q ⟨ρ, φ, s, h, hS, hH, f⟩ => by
    simp only [evE] at f
    refine ⟨ρ, φ, s, h, hS, hH, f.bind fun x h1 ρ1 v H1 _ e1 hH1 r1 f1 => ?_⟩
    cases x with
    | bl i =>
      simp only [RD] at r1
      exact ⟨i, r1, f1 _ _ _ Ext.refl hH1 (by simp only [RD])⟩
    | _ => exact f1.elim
theorem c_cmp {op : CmpOp} (hs : notSet eb = true) (ha : PE X ea (tE R Y W (evE C a))) (hb : PE X eb (tE R Y W (evE C b))) : PE X (.Compare ea [op] [eb] pos) (tE R Y W (evE C (.cmp op a b))) :=
  pe_imp (pe_cmpR (cmpR G.hK op G.hu) ha hb (notset_mark hs)) fun σ H Q ⟨ρ, φ, s, h, hS, hH, f⟩ => by
    simp only [evE] at f
    refine ⟨ρ, φ, s, h, hS, hH, f.bind fun x h1 ρ1 v H1 _ e1 hH1 r1 f1 => ?_⟩
    refine ⟨ρ1, φ, s, h1, hS.ext e1, hH1, f1.bind fun y h2 ρ2 u H2 _ e2 hH2 r2 f2 => ?_⟩
    obtain ⟨d, ed, k⟩ := Fin.ofO f2
    obtain ⟨q, eq, rfl⟩ := Option.map_eq_some_iff.mp ed
    exact ⟨ρ2, φ, h2, x, y, q, hH2, r1.ext e2, r2, eq, k _ _ _ Ext.refl hH2 (by simp only [RD])⟩
theorem chain_read {op op' : CmpOp} {σ : L2.St} {H : Hp} {Q : VK} (q : tE R Y W (evE C (.chain op op' a b c)) σ H Q) :
    tChain (rB R fun h => cmpF h op) (rB R fun h => cmpF h op') (tE R Y W (evE C a)) (tE R Y W (evE C b)) (tE R Y W (evE C c)) σ H Q := by
  obtain ⟨ρ, φ, s, h, hS, hH, f⟩ := q
  simp only [evE] at f
  refine ⟨ρ, φ, s, h, hS, hH, f.bind fun x h1 ρ1 v H1 _ e1 hH1 r1 f1 => ?_⟩
  refine ⟨ρ1, φ, s, h1, hS.ext e1, hH1, f1.bind fun y h2 ρ2 u H2 _ e2 hH2 r2 f2 => ?_⟩
  cases eq : cmpF h2 op x y with
  | none => rw [eq] at f2; exact f2.elim
  | some k =>
    rw [eq] at f2
    refine ⟨ρ2, φ, h2, x, y, k, hH2, r1.ext e2, r2, eq, k, rfl, ?_⟩
    cases k with
    | false => exact f2 _ _ _ Ext.refl hH2 (by simp only [RD])
    | true =>
      rw [if_pos rfl]
      refine ⟨ρ2, φ, s, h2, (hS.ext e1).ext e2, hH2, f2.bind fun z h3 ρ3 w H3 _ e3 hH3 r3 f3 => ?_⟩
      obtain ⟨d, ed, k⟩ := Fin.ofO f3
      obtain ⟨q, eq, rfl⟩ := Option.map_eq_some_iff.mp ed
      exact ⟨ρ3, φ, h3, y, z, q, hH3, r2.ext e3, r3, eq, k _ _ _ Ext.refl hH3 (by simp only [RD])⟩
theorem c_chain {op op' : CmpOp} (hs : notSet ec = true) (ha : PE X ea (tE R Y W (evE C a))) (hb : PE X eb (tE R Y W (evE C b))) (hc : PE X ec (tE R Y W (evE C c))) :
    PE X (.Compare ea [op, op'] [eb, ec] pos) (tE R Y W (evE C (.chain op op' a b c))) :=
  pe_imp (pe_chain (cmpR G.hK op G.hu) (cmpR G.hK op' G.hu) ha hb hc (notset_mark hs)) fun σ H Q q => chain_read G q
omit G in
theorem and_read {ta tb : EvF} {f : EvF} (hf : ∀ s h, f s h = (ta s h).bind fun x h => match x with | .bl true => tb s h | .bl false => .ok (.bl false) h | _ => .stuck) {σ : L2.St} {H : Hp} {Q : VK} (q : tE R Y W f σ H Q) : tAndV (tE R Y W ta) (tE R Y W tb) σ H Q := by
  obtain ⟨ρ, φ, s, h, hS, hH, f⟩ := q
  rw [hf] at f
  refine ⟨ρ, φ, s, h, hS, hH, f.bind fun x h1 ρ1 v H1 _ e1 hH1 r1 f1 => ?_⟩
  cases x with
  | bl k =>
    simp only [RD] at r1
    refine ⟨k, r1, ?_⟩
    cases k with
    | true => rw [if_pos rfl]; exact ⟨ρ1, φ, s, h1, hS.ext e1, hH1, f1⟩
    | false => exact f1 _ _ _ Ext.refl hH1 (by simp only [RD])
  | _ => exact f1.elim
omit G in
theorem or_read {ta tb : EvF} {f : EvF} (hf : ∀ s h, f s h = (ta s h).bind fun x h => match x with | .bl true => .ok (.bl true) h | .bl false => tb s h | _ => .stuck) {σ : L2.St} {H : Hp} {Q : VK} (q : tE R Y W f σ H Q) : tOrV (tE R Y W ta) (tE R Y W tb) σ H Q := by
  obtain ⟨ρ, φ, s, h, hS, hH, f⟩ := q
  rw [hf] at f
  refine ⟨ρ, φ, s, h, hS, hH, f.bind fun x h1 ρ1 v H1 _ e1 hH1 r1 f1 => ?_⟩
  cases x with
  | bl k =>
    simp only [RD] at r1
    refine ⟨k, r1, ?_⟩
    cases k with
    | true => exact f1 _ _ _ Ext.refl hH1 (by simp only [RD])
    | false => rw [if_neg Bool.false_ne_true]; exact ⟨ρ1, φ, s, h1, hS.ext e1, hH1, f1⟩
  | _ => exact f1.elim
omit G in
theorem c_and {rest : List Expr} (ha : PE X ea (tE R Y W (evE C a))) (hb : PE X (.BoolOp .And (eb :: rest) pos) (tE R Y W (evE C b))) : PE X (.BoolOp .And (ea :: eb :: rest) pos) (tE R Y W (evE C (.and_ a b))) :=
  pe_imp (pe_and ha hb) fun σ H Q q => and_read (fun s h => by simp only [evE]; all_goals rfl) q
omit G in
theorem c_or {rest : List Expr} (ha : PE X ea (tE R Y W (evE C a))) (hb : PE X (.BoolOp .Or (eb :: rest) pos) (tE R Y W (evE C b))) : PE X (.BoolOp .Or (ea :: eb :: rest) pos) (tE R Y W (evE C (.or_ a b))) :=
  pe_imp (pe_or ha hb) fun σ H Q q => or_read (fun s h => by simp only [evE]; all_goals rfl) q

/-! ### tests -/
omit G in
theorem boolR_bind {α : Type} (r : ERes α) (f : α → Hc → ERes D) : boolR (r.bind f) = r.bind fun a h => boolR (f a h) := by cases r <;> rfl
omit G in
theorem t_val {e : Expr} {f : EvF} (h : PE X e (tE R Y W f)) (he : ∀ whole, isTrue e X.env whole = (do let v ← whole; standAt e.pos; holding [v] (truthy v))) : PT X e (tT R Y W f) :=
  pt_imp (pt_val h he) fun σ H Q ⟨ρ, φ, s, h, hS, hH, k⟩ => by
    refine ⟨ρ, φ, s, h, hS, hH, ?_⟩
    cases q : f s h with
    | stuck => rw [q] at k; exact k.elim
    | exc x h' => rw [q] at k; exact k
    | ok d h' =>
      rw [q] at k
      cases d with
      | bl b =>
        intro ρ' v H' e1 hH1 r1
        simp only [RD] at r1
        exact ⟨b, r1, k ρ' b H' e1 hH1 rfl⟩
      | _ => exact k.elim
omit G in
theorem t_not (ha : PT X ea (tT R Y W (evE C a))) : PT X (.UnaryOp .Not ea pos) (tT R Y W (evE C (.not_ a))) :=
  pt_imp (pt_not ha) fun σ H Q ⟨ρ, φ, s, h, hS, hH, k⟩ => by
    refine ⟨ρ, φ, s, h, hS, hH, ?_⟩
    simp only [evE] at k
    cases q : evE C a s h with
    | stuck => rw [q] at k; exact k.elim
    | exc x h' => rw [q] at k; exact k
    | ok d h' =>
      rw [q] at k
      cases d with
      | bl b => exact fun ρ' v H' e1 hH1 r1 => k ρ' _ H' e1 hH1 (by rw [r1])
      | _ => exact k.elim
theorem t_cmp {op : CmpOp} (hs : notSet eb = true) (ha : PE X ea (tE R Y W (evE C a))) (hb : PE X eb (tE R Y W (evE C b))) : PT X (.Compare ea [op] [eb] pos) (tT R Y W (evE C (.cmp op a b))) :=
  pt_imp (pt_cmpR (cmpR G.hK op G.hu) ha hb (notset_mark hs)) fun σ H Q ⟨ρ, φ, s, h, hS, hH, f⟩ => by
    simp only [evE, boolR_bind] at f
    refine ⟨ρ, φ, s, h, hS, hH, f.bind fun x h1 ρ1 v H1 _ e1 hH1 r1 f1 => ?_⟩
    refine ⟨ρ1, φ, s, h1, hS.ext e1, hH1, f1.bind fun y h2 ρ2 u H2 _ e2 hH2 r2 f2 => ?_⟩
    cases eq : cmpF h2 op x y with
    | none => rw [eq] at f2; exact f2.elim
    | some k =>
      rw [eq] at f2
      exact ⟨ρ2, φ, h2, x, y, k, hH2, r1.ext e2, r2, eq, k, rfl, f2 _ _ _ Ext.refl hH2 rfl⟩
theorem t_chain {op op' : CmpOp} (hs : notSet ec = true) (ha : PE X ea (tE R Y W (evE C a))) (hb : PE X eb (tE R Y W (evE C b))) (hc : PE X ec (tE R Y W (evE C c))) :
    PT X (.Compare ea [op, op'] [eb, ec] pos) (tT R Y W (evE C (.chain op op' a b c))) :=
  pt_imp (pt_chain (cmpR G.hK op G.hu) (cmpR G.hK op' G.hu) ha hb hc (notset_mark hs)) fun σ H Q ⟨ρ, φ, s, h, hS, hH, k⟩ => by
    refine chain_read G ⟨ρ, φ, s, h, hS, hH, ?_⟩
    cases q : evE C (.chain op op' a b c) s h with
    | stuck => rw [q] at k; exact k.elim
    | exc x h' => rw [q] at k; exact k
    | ok d h' =>
      rw [q] at k
      cases d with
      | bl b =>
        intro ρ' v H' e1 hH1 r1
        simp only [RD] at r1
        exact ⟨b, r1, k ρ' b H' e1 hH1 rfl⟩
      | _ => exact k.elim
omit G in
theorem and_readT {ta tb : EvF} {f : EvF} (hf : ∀ s h, f s h = (ta s h).bind fun x h => match x with | .bl true => tb s h | .bl false => .ok (.bl false) h | _ => .stuck) {σ : L2.St} {H : Hp} {Q : Bool → Hp → Prop} (q : tT R Y W f σ H Q) : tAnd (tT R Y W ta) (tT R Y W tb) σ H Q := by
  obtain ⟨ρ, φ, s, h, hS, hH, f⟩ := q
  rw [hf] at f
  refine ⟨ρ, φ, s, h, hS, hH, ?_⟩
  cases q : ta s h with
  | stuck => rw [q] at f; exact f.elim
  | exc x h' => rw [q] at f; exact f
  | ok d h' =>
    rw [q] at f
    cases d with
    | bl k =>
        intro ρ1 v H1 e1 hH1 r1
        subst r1
        cases k with
        | true => rw [if_pos rfl]; exact ⟨ρ1, φ, s, h', hS.ext e1, hH1, Fin.ext (r := boolR (tb s h')) f e1⟩
        | false => exact f ρ1 _ H1 e1 hH1 rfl
    | _ => exact f.elim
omit G in
theorem or_readT {ta tb : EvF} {f : EvF} (hf : ∀ s h, f s h = (ta s h).bind fun x h => match x with | .bl true => .ok (.bl true) h | .bl false => tb s h | _ => .stuck) {σ : L2.St} {H : Hp} {Q : Bool → Hp → Prop} (q : tT R Y W f σ H Q) : tOr (tT R Y W ta) (tT R Y W tb) σ H Q := by
  obtain ⟨ρ, φ, s, h, hS, hH, f⟩ := q
  rw [hf] at f
  refine ⟨ρ, φ, s, h, hS, hH, ?_⟩
  cases q : ta s h with
  | stuck => rw [q] at f; exact f.elim
  | exc x h' => rw [q] at f; exact f
  | ok d h' =>
    rw [q] at f
    cases d with
    | bl k =>
        intro ρ1 v H1 e1 hH1 r1
        subst r1
        cases k with
        | false => rw [if_neg Bool.false_ne_true]; exact ⟨ρ1, φ, s, h', hS.ext e1, hH1, Fin.ext (r := boolR (tb s h')) f e1⟩
        | true => exact f ρ1 _ H1 e1 hH1 rfl
    | _ => exact f.elim
omit G in
theorem t_and {rest : List Expr} (ha : PT X ea (tT R Y W (evE C a))) (hb : PW X (.BoolOp .And (eb :: rest) pos) (tT R Y W (evE C b))) : PW X (.BoolOp .And (ea :: eb :: rest) pos) (tT R Y W (evE C (.and_ a b))) :=
  pw_imp (pw_and ha hb) fun σ H Q q => and_readT (fun s h => by simp only [evE]; all_goals rfl) q
omit G in
theorem t_or {rest : List Expr} (ha : PT X ea (tT R Y W (evE C a))) (hb : PW X (.BoolOp .Or (eb :: rest) pos) (tT R Y W (evE C b))) : PW X (.BoolOp .Or (ea :: eb :: rest) pos) (tT R Y W (evE C (.or_ a b))) :=
  pw_imp (pw_or ha hb) fun σ H Q q => or_readT (fun s h => by simp only [evE]; all_goals rfl) q
omit G in
theorem ite_readT {tt ta tb : EvF} {Z : Type} {f : CSt → Hc → ERes Z} {g : ERes D → ERes Z} (hg0 : ∀ x h, g (.exc x h) = .exc x h) (hg1 : g .stuck = .stuck) (hf : ∀ s h, f s h = g ((tt s h).bind fun x h => match x with | .bl true => ta s h | .bl false => tb s h | _ => .stuck))
    {ρ φ : List Addr} {s : CSt} {h : Hc} {σ : L2.St} {H : Hp} {β : Type} {rel : List Addr → Hp → Z → β → Prop} {Q : β → Hp → Prop} (k : Fin R Y W σ ρ φ H rel (f s h) Q) {P : Bool → Hp → Prop}
    (kt : ∀ b ρ1 H1 h1, Ext ρ ρ1 H H1 → RelH R ρ1 φ H1 h1 → Fin R Y W σ ρ1 φ H1 rel (g (if b then ta s h1 else tb s h1)) Q → P b H1) : Fin R Y W σ ρ φ H rEq (boolR (tt s h)) P := by
  rw [hf] at k
  cases q : tt s h with
  | stuck => rw [q] at k; rw [show g (ERes.bind ERes.stuck _) = ERes.stuck from hg1] at k; exact k.elim
  | exc x h' => rw [q] at k; rw [show g (ERes.bind (ERes.exc x h') _) = ERes.exc x h' from hg0 x h'] at k; exact k
  | ok d h' =>
    rw [q] at k
    cases d with
    | bl b =>
        intro ρ1 v H1 e1 hH1 r1
        subst r1
        cases b with
        | true => exact kt true ρ1 H1 h' e1 hH1 (Fin.ext (r := g (ta s h')) k e1)
        | false => exact kt false ρ1 H1 h' e1 hH1 (Fin.ext (r := g (tb s h')) k e1)
    | _ =>
      have k' : Fin R Y W σ ρ φ H rel (g ERes.stuck) Q := k
      rw [hg1] at k'
      exact k'.elim
omit G in
theorem c_ite (ht : PT X ea (tT R Y W (evE C a))) (hb : PE X eb (tE R Y W (evE C b))) (hc : PE X ec (tE R Y W (evE C c))) : PE X (.IfExp ea eb ec pos) (tE R Y W (evE C (.ite a b c))) :=
  pe_imp (pe_ifExp ht hb hc) fun σ H Q ⟨ρ, φ, s, h, hS, hH, k⟩ => by
    refine ⟨ρ, φ, s, h, hS, hH, ite_readT (g := id) (fun _ _ => rfl) rfl (fun s h => by simp only [evE, id]; rfl) k fun b ρ1 H1 h1 e1 hH1 k1 => ?_⟩
    cases b with
    | true => rw [if_pos rfl]; exact ⟨ρ1, φ, s, h1, hS.ext e1, hH1, k1⟩
    | false => rw [if_neg Bool.false_ne_true]; exact ⟨ρ1, φ, s, h1, hS.ext e1, hH1, k1⟩
omit G in
theorem pt_ifExp {t ta tb : TT} (ht : PT X ea t) (hb : PT X eb ta) (hc : PT X ec tb) : PT X (.IfExp ea eb ec pos) (fun σ H Q => t σ H fun b H1 => if b = true then ta σ H1 Q else tb σ H1 Q) := by
  refine ⟨fun pins s σ H Q I h => ?_⟩
  show wpAny _ _ (do if ← isTrue ea X.env (eval ea X.env) then isTrue eb X.env (eval eb X.env) else isTrue ec X.env (eval ec X.env)) _ _ s
  refine wpAny_bind (thn (ht.run pins s σ H _ I h) fun d s1 ⟨H1, I1, q1⟩ => ?_)
  cases d with
  | true => exact hb.run pins s1 σ H1 Q I1 q1
  | false => exact hc.run pins s1 σ H1 Q I1 q1
omit G in
theorem t_ite (ht : PT X ea (tT R Y W (evE C a))) (hb : PT X eb (tT R Y W (evE C b))) (hc : PT X ec (tT R Y W (evE C c))) : PT X (.IfExp ea eb ec pos) (tT R Y W (evE C (.ite a b c))) :=
  pt_imp (pt_ifExp ht hb hc) fun σ H Q ⟨ρ, φ, s, h, hS, hH, k⟩ => by
    refine ⟨ρ, φ, s, h, hS, hH, ite_readT (g := boolR) (f := fun s h => boolR (evE C (.ite a b c) s h)) (fun _ _ => rfl) rfl (fun s h => by simp only [evE]; rfl) k fun b ρ1 H1 h1 e1 hH1 k1 => ?_⟩
    cases b with
    | true => rw [if_pos rfl]; exact ⟨ρ1, φ, s, h1, hS.ext e1, hH1, k1⟩
    | false => rw [if_neg Bool.false_ne_true]; exact ⟨ρ1, φ, s, h1, hS.ext e1, hH1, k1⟩
end
end Cl

namespace Cl
open PySem PySem.Spec PyProof.Rows L2
def plainIxB : Expr → Bool
  | .Slice _ _ _ _ => false
  | _ => true
theorem plainIx_of {e : Expr} (h : plainIxB e = true) : PlainIx e := by
  intro o i
  cases e <;> first | rfl | exact Bool.noConfusion (show false = true from h)
section
variable {X : Cx} {R : RC} (hK : R.K = X.K)
theorem ix_dict (hu : X.A.units + 100 < cLine) : IxR X (fun x y H Q => ∃ a v, x = .ref a ∧ DGet H a y (some v) ∧ Q v H) := by
  intro value slice pins s σ H x y v u Q I rx ry ⟨a, z, ex, g, q⟩ hs
  subst ex
  obtain rfl : v = Value.ref a := rx
  have hT := dict_typeIs I g
  unfold subscriptTail
  refine wpAny_bind ?_
  rw [getitemInPython_of_ne hT.not_modules]
  refine wpAny_bind (wpAny_specialOf hT PySem.F.slot_dict_getitem.lookup ?_)
  have fin : wpAny (model X.prog X.w) X.A (subscripted slice false (.ref a) u) (fun r s₃ => wpAny (model X.prog X.w) X.A (letTemporaryGo value (.ref a) r >>= fun _ => pure r) (EP X pins σ Q) X.xe s₃) X.xe s := by
    rw [hs]
    exact wpAny_operating (wpAny_mono (d_getItem (by omega) I g ry fun w' s3 I3 rw' => (⟨z, H, I3, rw', q⟩ : EP X pins σ Q w' s3)) (fun r s₃ h₃ => wpAny_bind (wpAny_letTemporaryGo (wpAny_pure h₃))) fun _ _ x => x)
  first
    | exact wpAny_pure (wpAny_bind fin)
    | exact wpAny_bind fin
    | exact fin
theorem atD_at {α : Type} {xs : List α} {i : Int} : atD xs i = atI xs i := rfl
theorem rds_at {ρ φ : List Addr} {H : Hp} {xs : List D} {vs : List V} {i : Int} {d : D} (r : RDs R ρ φ H xs vs) (e : atD xs i = some d) : ∃ v, atI vs i = some v ∧ RD R ρ φ H d v := by
  unfold atD at e
  obtain ⟨j, e1, e2⟩ := Option.bind_eq_some_iff.mp e
  obtain ⟨v, h1, h2⟩ := r.get e2
  refine ⟨v, ?_, h2⟩
  unfold atI
  rw [← r.len]
  exact Option.bind_eq_some_iff.mpr ⟨j, e1, h1⟩
include hK
theorem idxR (hu : X.A.units + 100 < cLine) : IxR X (rC R idxF) := by
  intro value slice pins s σ H x y v u Q I rx ry ⟨ρ, φ, h, a, b, d, rH, ra, rb, e, k⟩ hs
  have lst : ∀ {l : Addr} {vs : List V} {xs : List D} {i : Int}, x = .ref l → b = .int i → SqL X.K H l vs → RDs R ρ φ H xs vs → atD xs i = some d → wpAny (model X.prog X.w) X.A (subscriptTail value slice v u) (EP X pins σ Q) X.xe s := by
    intro l vs xs i e1 e2 h1 h2 h3
    subst e1 e2
    simp only [RD] at rb
    subst rb
    obtain ⟨z, g1, g2⟩ := rds_at h2 h3
    exact ix_list value slice pins s σ H _ _ v u Q I rx ry ⟨l, vs, i, z, rfl, rfl, h1, g1, k _ _ _ Ext.refl rH g2⟩ hs
  unfold idxF at e
  split at e
  · rename_i z i
    split at e
    · rename_i hz
      obtain ⟨c, ec, rfl⟩ := Option.map_eq_some_iff.mp e
      simp only [RD] at ra rb
      subst ra rb
      exact ix_str value slice pins s σ H _ _ v u Q I rx ry ⟨z, i, c, rfl, rfl, by rw [← line_eq]; exact hz, ec, k _ _ _ Ext.refl rH (by simp only [RD])⟩ hs
    · cases e
  · rename_i n
    have ra' := ra
    simp only [RD] at ra
    obtain ⟨l, el, rfl⟩ := ra
    split at e
    · rename_i xs hc
      obtain ⟨vs, h1, h2⟩ := rH.cells n l _ el hc
      split at e
      · exact lst rfl rfl (SqL.of h1) h2 e
      · cases e
    · rename_i xs hc
      obtain ⟨o, vs, h1, h2⟩ := rH.cells n l _ el hc
      split at e
      · exact lst rfl rfl (.inl (.inr ⟨o, h1⟩)) h2 e
      · cases e
    · obtain ⟨o, e1, e2⟩ := Option.bind_eq_some_iff.mp e
      simp only [id] at e2
      subst e2
      obtain ⟨o', g, q⟩ := look_get rH rb el e1
      rcases q with ⟨q, _⟩ | ⟨d', w, q1, q2, q3⟩
      · cases q
      · cases q1
        subst q2
        exact ix_dict hu value slice pins s σ H _ _ v u Q I rx ry ⟨l, w, rfl, g, k _ _ _ Ext.refl rH q3⟩ hs
  · simp only [RD] at ra
    obtain ⟨l, vs, rfl, h1, h2⟩ := ra
    simp only [RD] at rb
    subst rb
    obtain ⟨z, g1, g2⟩ := rds_at h2 e
    exact ix_tup value slice pins s σ H _ _ v u Q I rx ry ⟨l, vs, _, z, rfl, rfl, hK ▸ h1.sq, g1, k _ _ _ Ext.refl rH g2⟩ hs
  · simp only [RD] at ra
    obtain ⟨l, vs, rfl, h1, h2⟩ := ra
    exact lst rfl rfl (hK ▸ h1.sq) h2 e
  · cases e
end
/-! ### isinstance -/
def kdStr : Kd → String
  | .non => "NoneType" | .bool => "bool" | .int => "int" | .str => "str" | .tuple => "tuple" | .list => "list" | .dict => "dict"
def tyStr : Ty → String
  | .int => "int" | .bool => "bool" | .str => "str" | .tuple => "tuple" | .list => "list" | .dict => "dict"
theorem kit_all (k : Kd) (t : Ty) : kitB (kdStr k) (tyStr t) = some (kdTy k t) := by
  cases k <;> cases t <;> decide +kernel
theorem ty_of {R : RC} {X : Cx} {ρ φ : List Addr} {H : Hp} {h : Hc} (rH : RelH R ρ φ H h) {d : D} {v : V} (r : RD R ρ φ H d v) {k : Kd} (e : kdD h d = some k) : TyX X.K H v (.type (kdStr k)) := by
  cases d with
  | non => simp only [kdD, Option.some.injEq] at e; subst e; simp only [RD] at r; subst r; exact .base .non
  | bl b => simp only [kdD, Option.some.injEq] at e; subst e; simp only [RD] at r; subst r; exact .base (.bl b)
  | int b => simp only [kdD, Option.some.injEq] at e; subst e; simp only [RD] at r; subst r; exact .base (.int b)
  | str b => simp only [kdD, Option.some.injEq] at e; subst e; simp only [RD] at r; subst r; exact .base (.str b)
  | tup ds =>
    simp only [kdD, Option.some.injEq] at e; subst e; simp only [RD] at r
    obtain ⟨a, vs, rfl, h1, _⟩ := r
    exact .base (.tup h1.1)
  | lst ds =>
    simp only [kdD, Option.some.injEq] at e; subst e; simp only [RD] at r
    obtain ⟨a, vs, rfl, h1, _⟩ := r
    exact .base (.lst h1.1)
  | ref n =>
    simp only [RD] at r
    obtain ⟨a, ea, rfl⟩ := r
    unfold kdD at e
    cases hc : h[n]? with
    | none => simp [hc] at e
    | some c =>
      have rc := rH.cells n a c ea hc
      cases c with
      | lst ys =>
        simp only [hc, Option.some.injEq] at e; subst e
        obtain ⟨vs, e1, _⟩ := rc
        exact .base (.lst e1)
      | ro ys =>
        simp only [hc, Option.some.injEq] at e; subst e
        obtain ⟨o, vs, e1, _⟩ := rc
        exact .base (.frz e1)
      | dK ys =>
        simp only [hc, Option.some.injEq] at e; subst e
        obtain ⟨vs, e1, _⟩ := rc
        exact .base (.dK e1)
      | dT ys =>
        simp only [hc, Option.some.injEq] at e; subst e
        obtain ⟨vs, e1, _⟩ := rc
        exact .base (.dT e1)
  | fn i => simp [kdD] at e
theorem boot_ty (t : Ty) : bootBuiltins (tyName t) = some (.type (tyStr t)) := by cases t <;> decide +kernel
theorem blt_ty (t : Ty) : tyName t ∈ bltNames := by cases t <;> decide +kernel
end Cl

namespace Cl
open PySem PySem.Spec PyProof.Rows L2
section
variable {S : Sg} {R : RC} {C : Caller} {Y : XC} {n : Nat} {N : List Str} {cm : Bool} {sc : Scope} {X : Cx} {W : WX} (G : Gd S R C Y n N cm sc X W) {pos : Pos}
/-! ### arguments -/
theorem a_nil : PA X [] (tA R Y W (evEs C .nil)) := pa_imp pa_nil fun σ H Q ⟨ρ, φ, s, h, hS, hH, f⟩ => by
  simp only [evEs] at f
  exact f ρ [] H Ext.refl hH (by simp only [RDs])
theorem a_cons {c : CE} {cs : CEs} {e : Expr} {es : List Expr} (hc : PE X e (tE R Y W (evE C c))) (hcs : PA X es (tA R Y W (evEs C cs))) (hs : starEach (e :: es) X.env = (false, eval e X.env) :: starEach es X.env) :
    PA X (e :: es) (tA R Y W (evEs C (.cons c cs))) :=
  pa_imp (pa_cons hc hcs hs) fun σ H Q ⟨ρ, φ, s, h, hS, hH, f⟩ => by
    simp only [evEs] at f
    refine ⟨ρ, φ, s, h, hS, hH, f.bind fun x h1 ρ1 v H1 _ e1 hH1 r1 f1 => ?_⟩
    refine ⟨ρ1, φ, s, h1, hS.ext e1, hH1, f1.bind fun y h2 ρ2 u H2 _ e2 hH2 r2 f2 => ?_⟩
    exact f2 ρ2 _ H2 Ext.refl hH2 (RDs.cons (r1.ext e2) r2)
theorem fin_sp {σ : L2.St} {ρ φ : List Addr} {H : Hp} {r : ERes D} {Q : VK} (f : Fin R Y W σ ρ φ H (rD R φ) r Q) : Fin R Y (fun cls dd _ H => WE W σ cls dd H) [] ρ φ H (rD R φ) r Q := by
  cases r <;> exact f
include G
theorem c_call {f : Nat} {args : CEs} {x : Str} {e : Expr} {es : List Expr} {p : Pos} (hcm : cm = true) (hf : S.fns[f]? = some x) (hg : isGlB sc x = true) (ha : PA X (e :: es) (tA R Y W (evEs C args)))
    (hs : starEach (e :: es) X.env = (false, eval e X.env) :: starEach es X.env) (hp : (backTo pos (starEach es X.env)).any (·.1) = false) : PE X (.Call (.Name x p) (e :: es) [] pos) (tE R Y W (evE C (.call f args))) := by
  obtain ⟨g1, g2⟩ := G.glb hg
  obtain ⟨fd, ps, m, kp, bd, F⟩ := G.calls f x hf
  refine pe_imp (pe_callS F (G.room hcm) g1 m kp bd (fun σ => passAt G.tk σ) ha (nm_dbg g2).1 hs hp) fun σ H Q ⟨ρ, φ, s, h, hS, hH, k⟩ => ?_
  simp only [evE] at k
  refine ⟨ρ, φ, s, h, hS, hH, k.bind fun ds h1 ρ1 vs H1 _ e1 hH1 r1 f1 => ?_⟩
  exact ⟨ρ1, φ, ds, h1, hH1, r1, fin_sp f1⟩
theorem c_call0 {f : Nat} {x : Str} {p : Pos} (hcm : cm = true) (hf : S.fns[f]? = some x) (hg : isGlB sc x = true) : PE X (.Call (.Name x p) [] [] pos) (tE R Y W (evE C (.call f .nil))) := by
  obtain ⟨g1, g2⟩ := G.glb hg
  obtain ⟨fd, ps, m, kp, bd, F⟩ := G.calls f x hf
  refine ⟨fun pins s σ H Q I ⟨ρ, φ, c, h, hS, hH, k⟩ => ?_⟩
  refine wpAny_Call_Name_kw (ld_glob I g1 m ?_ (nm_dbg g2).1)
  simp only [evE, evEs] at k
  have hk : wpAny (model X.prog X.w) X.A (call (.ref (R.fa f)) []) (EP X pins σ Q) X.xe s := run_fnS F (G.room hcm) bd (passAt G.tk σ) I .nil ⟨ρ, φ, [], h, hH, by simp only [RDs], fin_sp k⟩
  exact PySem.W.callWith_K0 I.kIn kp hk
theorem c_callv {fe : CE} {fs : List Nat} {args : CEs} {ef e : Expr} {es : List Expr} (hcm : cm = true) (hfs : ∀ i ∈ fs, ∃ x, S.fns[i]? = some x) (hf : PE X ef (tE R Y W (evE C fe))) (ha : PA X (e :: es) (tA R Y W (evEs C args)))
    (hd : ∀ {s : Shared} {Q : Value → Shared → Prop}, wpAny (model X.prog X.w) X.A (eval ef X.env) (fun f s₁ => wpAny (model X.prog X.w) X.A (callWith pos f [] (backTo pos (starEach (e :: es) X.env)) (backToKw pos (keywordEach [] X.env))) Q X.xe s₁) X.xe s → wpAny (model X.prog X.w) X.A (eval (.Call ef (e :: es) [] pos) X.env) Q X.xe s)
    (hs : starEach (e :: es) X.env = (false, eval e X.env) :: starEach es X.env) (hp : (backTo pos (starEach es X.env)).any (·.1) = false) : PE X (.Call ef (e :: es) [] pos) (tE R Y W (evE C (.callv fe fs args))) := by
  refine ⟨fun pins s σ H Q I ⟨ρ, φ, c, h, hS, hH, k⟩ => ?_⟩
  simp only [evE] at k
  have q0 : tE R Y W (evE C fe) σ H (fun v H1 => ∃ i ρ1 h1, i ∈ fs ∧ v = .ref (R.fa i) ∧ RelS R ρ1 φ H1 c σ ∧ RelH R ρ1 φ H1 h1 ∧ Fin R Y W σ ρ1 φ H1 (rD R φ) ((evEs C args c h1).bind fun ds h => C i ds h) Q) := by
    refine ⟨ρ, φ, c, h, hS, hH, k.bind fun x h1 ρ1 v H1 _ e1 hH1 r1 f1 => ?_⟩
    cases x with
    | fn i =>
      simp only at f1
      split at f1
      · rename_i hi
        simp only [RD] at r1
        exact ⟨i, ρ1, h1, hi, r1, hS.ext e1, hH1, f1⟩
      · exact f1.elim
    | _ => exact f1.elim
  refine hd (thn (hf.run pins s σ H _ I q0) fun u s1 ⟨y, H1, I1, ry, i, ρ1, h1, hi, ey, hS1, hH1, f1⟩ => ?_)
  subst ey
  obtain rfl : u = Value.ref (R.fa i) := ry
  obtain ⟨x, hx⟩ := hfs i hi
  obtain ⟨fd, ps, m, kp, bd, F⟩ := G.calls i x hx
  have q1 : tA R Y W (evEs C args) σ H1 (fun vs H2 => spC R Y C i vs H2 Q (fun cls dd H => WE W σ cls dd H)) := by
    refine ⟨ρ1, φ, c, h1, hS1, hH1, f1.bind fun ds h2 ρ2 vs H2 _ e2 hH2 r2 f2 => ?_⟩
    exact ⟨ρ2, φ, ds, h2, hH2, r2, fin_sp f2⟩
  refine PySem.W.callWith_K (h₀ := X.base) I1.ok.mod.kin kp (thn (ha.run pos pins s1 σ H1 _ I1 q1) fun us s2 ⟨vs, H2, I2, r, q⟩ => ⟨I2.kIn, ?_⟩) hs hp
  exact run_fnS F (G.room hcm) bd (passAt G.tk σ) I2 r q
/-! ### built-ins by name -/
theorem Gd.bl {x : Str} (h : x ∈ bltNames) : X.mg x = none := G.blt x h
theorem c_biV {v : Value} {g : Hc → List D → Option D} {args : CEs} {x : Str} {e : Expr} {es : List Expr} {p : Pos} {c : CE} (hv : (∃ id, v = .builtin id) ∨ ∃ T, v = .type T) (hc : CallR X v (rV R g)) (hb : bootBuiltins x = some v) (hx : x ∈ bltNames) (hg : isGlB sc x = true)
    (ha : PA X (e :: es) (tA R Y W (evEs C args))) (hs : starEach (e :: es) X.env = (false, eval e X.env) :: starEach es X.env) (hp : (backTo pos (starEach es X.env)).any (·.1) = false)
    (hev : ∀ s h, evE C c s h = (evEs C args s h).bind fun ds h => ofO (g h ds) h) : PE X (.Call (.Name x p) (e :: es) [] pos) (tE R Y W (evE C c)) := by
  obtain ⟨g1, g2⟩ := G.glb hg
  have rd : ∀ σ H Q, tE R Y W (evE C c) σ H Q → tCB (rV R g) (tA R Y W (evEs C args)) σ H Q := fun σ H Q ⟨ρ, φ, s, h, hS, hH, k⟩ => by
    rw [hev] at k
    refine ⟨ρ, φ, s, h, hS, hH, k.bind fun ds h1 ρ1 vs H1 _ e1 hH1 r1 f1 => ?_⟩
    obtain ⟨d, ed, q⟩ := Fin.ofO f1
    exact ⟨ρ1, φ, h1, ds, d, hH1, r1, ed, q⟩
  rcases hv with ⟨id, rfl⟩ | ⟨T, rfl⟩
  · exact pe_imp (pe_callB hc g1 (G.bl hx) hb ha (nm_dbg g2).2.2 (nm_dbg g2).1 hs hp) rd
  · exact pe_imp (pe_callTy hc g1 (G.bl hx) hb ha (nm_dbg g2).2.2 (nm_dbg g2).1 hs hp) rd
omit G in
theorem bi_boot (b : Bi) (h : b ≠ .sortedR) (h2 : b ≠ .lenset) : bootBuiltins (biName b) = some (biVal b) := by
  cases b <;> first | exact absurd rfl h | exact absurd rfl h2 | decide +kernel
omit G in
theorem bi_in (b : Bi) : biName b ∈ bltNames := by cases b <;> decide +kernel
omit G in
theorem bi_val (b : Bi) (h : b ≠ .sortedR) (h2 : b ≠ .lenset) : (∃ id, biVal b = .builtin id) ∨ ∃ T, biVal b = .type T := by
  cases b <;> first | exact absurd rfl h | exact absurd rfl h2 | exact .inl ⟨_, rfl⟩ | exact .inr ⟨_, rfl⟩
theorem c_bi {b : Bi} {args : CEs} {e : Expr} {es : List Expr} {p : Pos} (hcm : cm = true) (hb : b ≠ .sortedR) (hb2 : b ≠ .lenset) (hg : isGlB sc (biName b) = true) (ha : PA X (e :: es) (tA R Y W (evEs C args)))
    (hs : starEach (e :: es) X.env = (false, eval e X.env) :: starEach es X.env) (hp : (backTo pos (starEach es X.env)).any (·.1) = false) : PE X (.Call (.Name (biName b) p) (e :: es) [] pos) (tE R Y W (evE C (.bi b args))) :=
  c_biV G (bi_val b hb hb2) (biR G.hK (G.calm hcm) G.hu b hb hb2) (bi_boot b hb hb2) (bi_in b) hg ha hs hp fun s h => by simp only [evE]
/-! ### isinstance -/
theorem c_isin1 {a : CE} {t : Ty} {e : Expr} {p p2 : Pos} (hcm : cm = true) (hg : isGlB sc "isinstance" = true) (hg2 : isGlB sc (tyName t) = true) (ha : PE X e (tE R Y W (evE C a))) (hs : starEach [e, .Name (tyName t) p2] X.env = (false, eval e X.env) :: starEach [.Name (tyName t) p2] X.env) :
    PE X (.Call (.Name "isinstance" p) [e, .Name (tyName t) p2] [] pos) (tE R Y W (evE C (.isin a [t]))) := by
  obtain ⟨g1, g2⟩ := G.glb hg
  obtain ⟨g3, g4⟩ := G.glb hg2
  have hty : PE X (.Name (tyName t) p2) (tC (.ty (tyStr t))) := pe_bltn g3 (G.bl (blt_ty t)) (boot_ty t) rfl (nm_dbg g4).2.2 (nm_dbg g4).1
  refine pe_imp (pe_callB call_isi g1 (G.bl (by decide +kernel)) (by decide +kernel) (pa_cons ha (pa_cons hty pa_nil) hs) (nm_dbg g2).2.2 (nm_dbg g2).1 hs rfl) fun σ H Q ⟨ρ, φ, s, h, hS, hH, k⟩ => ?_
  simp only [evE] at k
  refine ⟨ρ, φ, s, h, hS, hH, k.bind fun d h1 ρ1 v H1 _ e1 hH1 r1 f1 => ?_⟩
  obtain ⟨b, eb, q⟩ := Fin.ofO f1
  obtain ⟨b', eb', rfl⟩ := Option.map_eq_some_iff.mp eb
  unfold isFs at eb'
  obtain ⟨kd, ek, rfl⟩ := Option.map_eq_some_iff.mp eb'
  refine ⟨v, .ty (tyStr t), _, _, kdTy kd t, rfl, .ty _, ty_of hH1 r1 ek, kit_ty (kit_all kd t), ?_⟩
  have e2 : ([t].any (kdTy kd)) = kdTy kd t := by simp
  rw [e2] at q
  exact q _ _ _ Ext.refl hH1 (by simp only [RD])
omit G in
theorem cls_all : ∀ ts : List Ty, Paired ClsV (ts.map fun t => V.ty (tyStr t)) (ts.map fun t => Value.type (tyStr t))
  | [] => .nil
  | t :: ts => .cons (.ty _) (cls_all ts)
omit G in
theorem kit_any {K : PySem.W.Frag} (k : Kd) : ∀ ts : List Ty, PySem.W.kitAny K (.type (kdStr k)) (ts.map fun t => .type (tyStr t)) = some (ts.any (kdTy k))
  | [] => kitAny_nil
  | t :: ts => by
    rw [List.map_cons, List.any_cons]
    refine kitAny_cons (kit_ty (kit_all k t)) (fun hb => ?_) fun hb => ?_
    · rw [hb, Bool.false_or]; exact kit_any k ts
    · rw [hb, Bool.true_or]
theorem tys_pa : ∀ {ts : List Ty} {es : List Expr}, chkTys sc ts es = true → ∃ t : TA, PA X es t ∧ ∀ σ H Q, Q (ts.map fun t => V.ty (tyStr t)) H → t σ H Q
  | [], [], _ => ⟨_, pa_nil, fun σ H Q q => q⟩
  | [], _ :: _, h => by simp [chkTys] at h
  | t :: ts, [], h => by simp [chkTys] at h
  | t :: ts, e :: es, h => by
    simp only [chkTys, Bool.and_eq_true] at h
    obtain ⟨h1, h2⟩ := h
    obtain ⟨u, hu, ku⟩ := tys_pa h2
    cases e with
    | Name x p2 =>
      simp only [chkTy, Bool.and_eq_true, decide_eq_true_eq] at h1
      obtain ⟨rfl, hg2⟩ := h1
      obtain ⟨g3, g4⟩ := G.glb hg2
      have hty : PE X (.Name (tyName t) p2) (tC (.ty (tyStr t))) := pe_bltn g3 (G.bl (blt_ty t)) (boot_ty t) rfl (nm_dbg g4).2.2 (nm_dbg g4).1
      exact ⟨_, pa_cons hty hu, fun σ H Q q => ku σ H _ q⟩
    | _ => simp [chkTy] at h1
theorem c_isinT {a : CE} {ts : List Ty} {e : Expr} {es : List Expr} {p p2 : Pos} {k : Nat} (hcm : cm = true) (hg : isGlB sc "isinstance" = true) (hl : es.length ≤ 6) (ht : chkTys sc ts es = true) (ha : PE X e (tE R Y W (evE C a)))
    (hs : starEach [e, .Tuple es k p2] X.env = (false, eval e X.env) :: starEach [.Tuple es k p2] X.env) : PE X (.Call (.Name "isinstance" p) [e, .Tuple es k p2] [] pos) (tE R Y W (evE C (.isin a ts))) := by
  obtain ⟨g1, g2⟩ := G.glb hg
  obtain ⟨u, hu, ku⟩ := tys_pa G ht
  have hlen : ∀ {ts : List Ty} {es : List Expr}, chkTys sc ts es = true → ts.length = es.length := by
    intro ts
    induction ts with
    | nil => intro es h; cases es with | nil => rfl | cons _ _ => simp [chkTys] at h
    | cons t ts ih => intro es h; cases es with
      | nil => simp [chkTys] at h
      | cons e es =>
        simp only [chkTys, Bool.and_eq_true] at h
        simp [ih h.2]
  have hlen := hlen ht
  refine pe_imp (pe_callB call_isiT g1 (G.bl (by decide +kernel)) (by decide +kernel) (pa_cons ha (pa_cons (pe_tup hu) pa_nil) hs) (nm_dbg g2).2.2 (nm_dbg g2).1 hs rfl) fun σ H Q ⟨ρ, φ, s, h, hS, hH, k⟩ => ?_
  simp only [evE] at k
  refine ⟨ρ, φ, s, h, hS, hH, k.bind fun d h1 ρ1 v H1 _ e1 hH1 r1 f1 => ku _ _ _ ⟨?_, fun p hp => ?_⟩⟩
  · rw [List.length_map, hlen, ← line_eq]
    unfold line
    omega
  obtain ⟨b, eb, q⟩ := Fin.ofO f1
  obtain ⟨b', eb', rfl⟩ := Option.map_eq_some_iff.mp eb
  unfold isFs at eb'
  obtain ⟨kd, ek, rfl⟩ := Option.map_eq_some_iff.mp eb'
  have rH2 := (hH1.fresh (o := .tup (ts.map fun t => V.ty (tyStr t))) hp).weak (φ' := φ) (fun a ha => by simp [ha])
  have r2 : RD R ρ1 φ (upd H1 p (.tup (ts.map fun t => V.ty (tyStr t)))) d v := r1.ext (Ext.fresh hp)
  refine ⟨v, p, _, _, ts.map fun t => .type (tyStr t), ts.any (kdTy kd), rfl, upd_same, cls_all ts, ty_of rH2 r2 ek, kit_any kd ts, q _ _ _ (Ext.fresh hp) rH2 (by simp only [RD])⟩
/-! ### subscripts, displays -/
theorem c_idx {a b : CE} {ea eb : Expr} (hp : plainIxB eb = true) (ha : PE X ea (tE R Y W (evE C a))) (hb : PE X eb (tE R Y W (evE C b))) : PE X (.Subscript ea eb pos) (tE R Y W (evE C (.idx a b))) :=
  pe_imp (pe_ix (idxR G.hK G.hu) ha hb (plainIx_of hp)) fun σ H Q ⟨ρ, φ, s, h, hS, hH, f⟩ => by
    simp only [evE] at f
    refine ⟨ρ, φ, s, h, hS, hH, f.bind fun x h1 ρ1 v H1 _ e1 hH1 r1 f1 => ?_⟩
    refine ⟨ρ1, φ, s, h1, hS.ext e1, hH1, f1.bind fun y h2 ρ2 u H2 _ e2 hH2 r2 f2 => ?_⟩
    obtain ⟨d, ed, k⟩ := Fin.ofO f2
    exact ⟨ρ2, φ, h2, x, y, d, hH2, r1.ext e2, r2, ed, k⟩
omit G in
theorem c_tup {es : CEs} {xs : List Expr} {k : Nat} (hl : ∀ s h ds h', evEs C es s h = .ok ds h' → ds.length ≤ 4096) (ha : PA X xs (tA R Y W (evEs C es))) : PE X (.Tuple xs k pos) (tE R Y W (evE C (.tup es))) :=
  pe_imp (pe_tup ha) fun σ H Q ⟨ρ, φ, s, h, hS, hH, f⟩ => by
    simp only [evE] at f
    refine ⟨ρ, φ, s, h, hS, hH, f.bind fun ds h1 ρ1 vs H1 eq e1 hH1 r1 f1 => ⟨?_, fun p hp => ?_⟩⟩
    · have := hl _ _ _ _ eq
      rw [← r1.len, ← line_eq]
      unfold line
      omega
    · obtain ⟨q1, q2, q3⟩ := new_tup hH1 hp r1
      exact f1 _ _ _ q1 q2 q3
omit G in
theorem l_lst {es : CEs} {xs : List Expr} (hl : ∀ s h ds h', evEs C es s h = .ok ds h' → ds.length ≤ 4096) (ha : PA X xs (tA R Y W (evEs C es))) : PE X (.List xs pos) (tL R Y W (evE C (.lst es))) :=
  pe_imp (pe_lst ha) fun σ H Q ⟨ρ, φ, s, h, hS, hH, f, _⟩ => by
    simp only [evE] at f
    refine ⟨ρ, φ, s, h, hS, hH, ?_⟩
    cases q : evEs C es s h with
    | stuck => rw [q] at f; exact f.elim
    | exc x h' => rw [q] at f; exact f
    | ok ds h1 =>
      rw [q] at f
      intro ρ1 vs H1 e1 hH1 r1
      refine ⟨?_, fun p hp => ?_⟩
      · have := hl _ _ _ _ q
        rw [← r1.len, ← line_eq]
        unfold line
        omega
      · obtain ⟨q1, q2, q3⟩ := new_lstF hH1 hp r1
        exact f ρ1 p vs _ (e1.trans q1) q2 (e1.none hp) (hH1.free hp) upd_same q3
omit G in
/-- a new list as it is; as a cell -/
theorem e_of_l {f : EvF} {e : Expr} (h : PE X e (tL R Y W f)) (hl : ∀ s h d h', f s h = .ok d h' → ∃ xs, d = .lst xs) : PE X e (tE R Y W f) :=
  pe_imp h fun σ H Q ⟨ρ, φ, s, h, hS, hH, k⟩ => by
    refine ⟨ρ, φ, s, h, hS, hH, ?_, fun d h' e => hl s h d h' e⟩
    cases q : f s h with
    | stuck => rw [q] at k; exact k.elim
    | exc x h' => rw [q] at k; exact k
    | ok d h' =>
      obtain ⟨xs, rfl⟩ := hl s h d h' q
      rw [q] at k
      intro ρ' p ws H' e1 rH hp np ep rd
      refine k ρ' _ H' e1 (rH.weak fun a ha => by simp [ha]) ?_
      simp only [RD]
      exact ⟨p, ws, rfl, ⟨ep, (rH.phi p (by simp)).2, np⟩, rd.weak fun a ha => by simp [ha]⟩
omit G in
theorem c_cell {a : CE} {e : Expr} (h : PE X e (tL R Y W (evE C a))) : PE X e (tE R Y W (evE C (.cell a))) :=
  pe_imp h fun σ H Q ⟨ρ, φ, s, h, hS, hH, k⟩ => by
    simp only [evE] at k
    refine ⟨ρ, φ, s, h, hS, hH, ?_, fun d h' e => ?_⟩
    · cases q : evE C a s h with
      | stuck => rw [q] at k; exact k.elim
      | exc x h' => rw [q] at k; exact k
      | ok d h' =>
        rw [q] at k
        cases d with
        | lst xs =>
          intro ρ' p ws H' e1 rH hp np ep rd
          refine k (ρ' ++ [p]) _ H' (e1.cell hp) (rH.cell np ⟨ws, ep, rd⟩) ?_
          simp only [RD]
          exact ⟨p, by rw [← rH.len]; simp, rfl⟩
        | _ => exact k.elim
    · rw [e] at k
      cases d with
      | lst xs => exact ⟨xs, rfl⟩
      | _ => exact k.elim
omit G in
theorem c_dict0 {t : Bool} : PE X (.Dict [] [] pos) (tE R Y W (evE C (.dict0 t))) := by
  cases t with
  | false =>
    refine pe_imp pe_dnewK fun σ H Q ⟨ρ, φ, s, h, hS, hH, k⟩ p hp => ?_
    simp only [evE] at k
    have rH := hH.fresh (o := .dK []) hp
    refine k (ρ ++ [p]) _ _ ((Ext.fresh hp).cell hp) (rH.cell (hH.free hp) ⟨[], upd_same, rfl, by simp [RDs]⟩) ?_
    simp only [RD]
    exact ⟨p, by rw [← hH.len]; simp, rfl⟩
  | true =>
    refine pe_imp pe_dnewT fun σ H Q ⟨ρ, φ, s, h, hS, hH, k⟩ p hp => ?_
    simp only [evE] at k
    have rH := hH.fresh (o := .dT []) hp
    refine k (ρ ++ [p]) _ _ ((Ext.fresh hp).cell hp) (rH.cell (hH.free hp) ⟨[], upd_same, rfl, by simp [RDs]⟩) ?_
    simp only [RD]
    exact ⟨p, by rw [← hH.len]; simp, rfl⟩
end
end Cl

namespace Cl
open PySem PySem.Spec PyProof.Rows L2
/-! ### slices -/
theorem slx_eq {n d : Nat} {o : Option Int} : slx n d o = HT.sIx n d o := by cases o <;> rfl
section
variable {R : RC} {ρ φ : List Addr} {H : Hp} {h : Hc}
theorem RDs.cut {xs : List D} {vs : List V} (r : RDs R ρ φ H xs vs) (lo hi : Option Int) : RDs R ρ φ H (cutD xs lo hi) (cutV vs lo hi) := by
  unfold cutD cutV
  rw [slx_eq, slx_eq, r.len]
  exact (r.drop _).take _
theorem cutS_cutD (z : Str) (lo hi : Option Int) : cutS z lo hi = ⟨(cutD z.cps.toList lo hi).toArray⟩ := by
  unfold cutS cutD
  rw [slx_eq, slx_eq]
  simp only [Array.length_toList]
  rfl
/-- what der sees -/
theorem RD.der_lt (r : RelH R ρ φ H h) {d : D} {v : V} (q : RD R ρ φ H d v) {xs : List D} (e : der h d = .lst xs) : ∃ a vs, v = .ref a ∧ SqL R.K H a vs ∧ RDs R ρ φ H xs vs := by
  cases d with
  | lst ds =>
    simp only [der, D.lst.injEq] at e; subst e
    simp only [RD] at q
    obtain ⟨a, vs, rfl, h1, h2⟩ := q
    exact ⟨a, vs, rfl, h1.sq, h2⟩
  | ref n =>
    simp only [RD] at q
    obtain ⟨a, ea, rfl⟩ := q
    unfold der at e
    cases hc : h[n]? with
    | none => simp [hc] at e
    | some c =>
      have rc := r.cells n a c ea hc
      cases c with
      | lst ys =>
        simp only [hc, D.lst.injEq] at e; subst e
        obtain ⟨vs, e1, e2⟩ := rc
        exact ⟨a, vs, rfl, SqL.of e1, e2⟩
      | ro ys =>
        simp only [hc, D.lst.injEq] at e; subst e
        obtain ⟨o, vs, e1, e2⟩ := rc
        exact ⟨a, vs, rfl, .inl (.inr ⟨o, e1⟩), e2⟩
      | dK _ => simp [hc] at e
      | dT _ => simp [hc] at e
  | _ => simp [der] at e
theorem RD.der_tp {d : D} {v : V} (q : RD R ρ φ H d v) {xs : List D} (e : der h d = .tup xs) : ∃ a vs, v = .ref a ∧ SqT R.K H a vs ∧ RDs R ρ φ H xs vs ∧ d = .tup xs := by
  cases d with
  | tup ds =>
    simp only [der, D.tup.injEq] at e; subst e
    simp only [RD] at q
    obtain ⟨a, vs, rfl, h1, h2⟩ := q
    exact ⟨a, vs, rfl, h1.sq, h2, rfl⟩
  | ref n =>
    unfold der at e
    cases hc : h[n]? with
    | none => simp [hc] at e
    | some c => cases c <;> simp [hc] at e
  | _ => simp [der] at e
end
/-- lists are told by rFr: new, held back -/
def rSl (R : RC) : V → Option Int → Option Int → Hp → VK → Prop := fun x lo hi H Q => ∃ ρ φ h a d, RelH R ρ φ H h ∧ RD R ρ φ H a x ∧ sliceF h a lo hi = some d ∧
  (∀ p xs ws, d = .lst xs → H p = none → RDs R ρ φ H xs ws → Q (.ref p) (upd H p (.lst ws))) ∧ ((∀ xs, d ≠ .lst xs) → ∀ ρ' v H', Ext ρ ρ' H H' → RelH R ρ' φ H' h → RD R ρ' φ H' d v → Q v H')
theorem slR {X : Cx} {R : RC} (hK : R.K = X.K) : SlR X (rSl R) := by
  intro pins s σ H x v vl vu lo hi sl Q I rx hs pl pu ⟨ρ, φ, h, a, d, rH, ra, e, k1, k2⟩
  unfold sliceF at e
  split at e
  · rename_i xs he
    obtain ⟨l, vs, rfl, h1, h2, rfl⟩ := RD.der_tp ra he
    cases e
    have k := k2 (fun xs z => nomatch z)
    refine sl_tupA pins s σ H _ v vl vu lo hi sl Q I rx hs pl pu ⟨l, vs, rfl, hK ▸ h1, fun hw => ?_, fun _ p hp => ?_⟩
    · have : cutD xs lo hi = xs := by
        unfold cutD
        rw [slx_eq, slx_eq, h2.len, hw.1, hw.2, List.drop_zero, Nat.sub_zero, ← h2.len, List.take_length]
      rw [this] at k
      exact k _ _ _ Ext.refl rH ra
    · obtain ⟨q1, q2, q3⟩ := new_tup rH hp (h2.cut lo hi)
      exact k _ _ _ q1 q2 q3
  · rename_i xs he
    obtain ⟨l, vs, rfl, h1, h2⟩ := RD.der_lt rH ra he
    cases e
    exact sl_list pins s σ H _ v vl vu lo hi sl Q I rx hs pl pu ⟨l, vs, rfl, hK ▸ h1, fun p hp => k1 p _ _ rfl hp (h2.cut lo hi)⟩
  · rename_i z he
    rw [der_str he] at ra
    simp only [RD] at ra
    subst ra
    split at e
    · rename_i hz
      cases e
      exact sl_str pins s σ H _ v vl vu lo hi sl Q I rx hs pl pu ⟨z, rfl, by rw [← line_eq]; exact hz, by rw [cutS_cutD]; exact k2 (fun xs z => nomatch z) _ _ _ Ext.refl rH (by simp only [RD])⟩
    · cases e
  · cases e
/-! ### the other way round -/
section
variable {prog : Program} {w : World} {A : Around} {E : Value → Shared → Prop} {s : Shared}
theorem rev_pick (xs : Array Value) : ((List.range xs.size).filterMap fun (m : Nat) => xs[(((xs.size : Nat) : Int) - 1 + (m : Int) * (-1)).toNat]?).toArray = xs.toList.reverse.toArray := by
  congr 1
  have e : ∀ m ∈ List.range xs.size, (xs[(((xs.size : Nat) : Int) - 1 + (m : Int) * (-1)).toNat]? : Option Value) = some (xs.toList.reverse.getD m .none) := by
    intro m hm
    have hm := List.mem_range.mp hm
    have : (((xs.size : Nat) : Int) - 1 + (m : Int) * (-1)).toNat = xs.size - 1 - m := by omega
    rw [this]
    have hl : m < xs.toList.reverse.length := by simpa using hm
    rw [List.getD_eq_getElem?_getD, List.getElem?_eq_getElem hl, Option.getD_some, List.getElem_reverse]
    rw [Array.getElem?_eq_getElem (by omega)]
    simp
  have z : ∀ (l : List Nat), (∀ m ∈ l, (xs[(((xs.size : Nat) : Int) - 1 + (m : Int) * (-1)).toNat]? : Option Value) = some (xs.toList.reverse.getD m .none)) → (l.filterMap fun (m : Nat) => xs[(((xs.size : Nat) : Int) - 1 + (m : Int) * (-1)).toNat]?) = l.map fun m => xs.toList.reverse.getD m .none := by
    intro l
    induction l with
    | nil => intro _; rfl
    | cons m l ih =>
      intro q
      rw [List.filterMap_cons, q m (by simp), List.map_cons, ih fun n hn => q n (by simp [hn])]
  rw [z _ e]
  refine List.ext_getElem ?_ fun i h1 h2 => ?_
  · simp
  · have hl : i < xs.toList.reverse.length := by simpa using h2
    rw [List.getElem_map, List.getElem_range, List.getD_eq_getElem?_getD, List.getElem?_eq_getElem hl, Option.getD_some]
theorem tup_back {t sl : Addr} {xs : Array Value} {vl vu vs : Value} {Q : Value → Shared → Prop} (ht : IsTup s.heap t xs) (hs : s.heap.IsSliceOf sl vl vu vs) (pl : IsPart vl none) (pu : IsPart vu none) (ps : IsPart vs (some (-1)))
    (h : Q (.ref s.heap.objs.size) { s with heap := s.heap.push { cls := .type "tuple", data := .seq xs.toList.reverse.toArray } }) (hz : xs.size ≤ sizeLine) : wpAny (model prog w) A (getItem (.ref t) (.ref sl)) Q E s := by
  obtain ⟨os, g1, g2, g3⟩ := id hs
  have ty : s.TypeIs (.ref sl) "slice" := ⟨os, g1, g2⟩
  have htake : sizeOk (.seq xs.toList.reverse.toArray) := by
    show xs.toList.reverse.toArray.size ≤ sizeLine
    simpa using hz
  cases pl
  cases pu
  cases ps with
  | int i tk =>
  unfold getItem
  refine wpAny_holding ?_
  refine wpAny_bind (wpAny_sequenceKey ht.typeIs (by decide) ?_)
  refine wpAny_bind (wpAny_callSpecial?_slot (name := Str.ofString "__getitem__") ht.typeIs PyProof.Rows.slot_tuple_getitem
    (wpAny_call_entry PyProof.Rows.slot_tuple_getitem ht.typeIs entry_tuple_getitem ?_ (args_tuple_getitem _ _)))
  show wpAny _ _ (Builtin.Tuple.tupleItemsOf (.ref t) >>= _) _ _ s
  refine wpAny_bind (tupleItemsOf_ ht ?_)
  refine wpAny_bind (wpAny_typeOf ty ?_)
  rw [if_pos (by decide)]
  have ap : ∀ {A' : Around} {Q' : Int × Int × Nat → Shared → Prop}, Q' ((xs.size : Int) - 1, -1, xs.size) s → wpAny (model prog w) A' (Builtin.Slice.sliceApplied (.ref sl) (pure (xs.size : Int))) Q' E s := fun {A' Q'} q => by
    unfold Builtin.Slice.sliceApplied Builtin.Slice.sliceFields
    refine wpAny_bind (wpAny_bind (wpAny_field g1 g3 (x := .none) rfl (wpAny_bind (wpAny_field g1 g3 (x := .none) rfl (wpAny_bind (wpAny_field g1 g3 (x := .int (-1) tk) rfl (wpAny_pure ?_)))))))
    refine wpAny_bind (slicePart_int ?_)
    show wpAny _ _ (if ((-1 : Int) == 0) = true then _ else _) _ _ s
    rw [if_neg (by decide)]
    refine wpAny_bind (slicePart_none (wpAny_bind (slicePart_none (wpAny_bind (wpAny_pure ?_)))))
    have e1 : Builtin.Slice.sliceAdjust none none (-1) (xs.size : Int) = ((xs.size : Int) - 1, -1) := rfl
    have e2 : Builtin.Slice.slicePlaces ((xs.size : Int) - 1) (-1) (-1) = xs.size := by
      unfold Builtin.Slice.slicePlaces
      rw [if_neg (by decide), show (-(-1) : Int) = 1 from rfl, Int.ediv_one]
      split <;> omega
    show wpAny _ _ (pure (((xs.size : Int) - 1), (-1 : Int), Builtin.Slice.slicePlaces ((xs.size : Int) - 1) (-1) (-1))) _ _ s
    rw [e2]
    exact wpAny_pure q
  refine wpAny_bind (ap ?_)
  have no : ¬ (((xs.size : Int) - 1 == 0 && (-1 : Int) == 1 && xs.size == xs.size) = true) := by
    rw [show ((-1 : Int) == 1) = false from by decide, Bool.and_false, Bool.false_and]
    exact Bool.false_ne_true
  show wpAny _ _ (if ((xs.size : Int) - 1 == 0 && (-1 : Int) == 1 && xs.size == xs.size) = true then _ else _) _ _ s
  rw [if_neg no, rev_pick]
  first
    | exact wpAny_bind (m := Builtin.Tuple.tupleExact _) (wpAny_newObj_type (wpAny_pure ⟨_, rfl, wpAny_pure h⟩) htake)
    | exact wpAny_bind (m := Builtin.Tuple.tupleExact _) (wpAny_newObj_type (wpAny_bind (wpAny_pure (wpAny_pure ⟨_, rfl, wpAny_pure h⟩))) htake)
    | exact wpAny_bind (wpAny_bind (m := Builtin.Tuple.tupleExact _) (wpAny_newObj_type (wpAny_pure (wpAny_pure ⟨_, rfl, wpAny_pure h⟩)) htake))
    | exact wpAny_bind (wpAny_bind (m := Builtin.Tuple.tupleExact _) (wpAny_newObj_type (wpAny_pure ⟨_, rfl, wpAny_pure h⟩) htake))
end
def tRev2 (K : PySem.W.Frag) (te : TE) : TE := fun σ H Q => te σ H fun x H1 => ∃ a xs, x = .ref a ∧ ((SqL K H1 a xs ∧ ∀ p, H1 p = none → Q (.ref p) (upd H1 p (.lst xs.reverse))) ∨ (SqT K H1 a xs ∧ ∀ p, H1 p = none → Q (.ref p) (upd H1 p (.tup xs.reverse))))
theorem pe_rev2 {X : Cx} {e : Expr} {te : TE} {k : Nat} {p1 p2 p3 pos : Pos} (he : PE X e te) : PE X (.Subscript e (.Slice none none (some (.UnaryOp .USub (.Constant (.int 1) k p1) p2)) p3) pos) (tRev2 X.K te) := by
  refine ⟨fun pins s σ H Q I hh => ?_⟩
  refine Subscript_ (thn (he.run pins s σ H _ I hh) fun v s1 ⟨x, H1, I1, r1, a, xs, ex, q⟩ => ?_)
  subst ex
  cases r1
  have hst : PO X (some (.UnaryOp .USub (.Constant (.int 1) k p1) p2)) (tPart (tUn (rU fun i => .int (-i)) (tC (.int 1)))) := po_some (pe_un un_neg pe_int)
  refine wpAny_Slice (thn (po_none.run pins s1 σ H1 (fun o Hn => o = none ∧ Hn = H1) I1 ⟨rfl, rfl⟩) fun vl s2 ⟨l, Ha, I2, pl, el, ea⟩ => ?_)
  subst el ea
  refine thn (po_none.run pins s2 σ Ha (fun o Hn => o = none ∧ Hn = Ha) I2 ⟨rfl, rfl⟩) fun vu s3 ⟨u, Hb, I3, pu, eu, eb⟩ => ?_
  subst eu eb
  refine thn (hst.run pins s3 σ Hb (fun o Hn => o = some (-1) ∧ Hn = Hb) I3 ⟨1, rfl, -1, rfl, rfl, rfl⟩) fun vs s4 ⟨o, Hd, I4, ps, eo, ed⟩ => ?_
  subst eo ed
  have J : Inv X pins σ Hd { s4 with heap := s4.heap.push { cls := .type "slice", data := .fields #[vl, vu, vs] } } := I4.kept (t' := s4.toks) fun b ob z => Heap.get?_push_of_some _ z
  show wpAny (model X.prog X.w) X.A (subscriptTail e (.Slice none none (some (.UnaryOp .USub (.Constant (.int 1) k p1) p2)) p3) (.ref a) (.ref s4.heap.objs.size)) (EP X pins σ Q) X.xe { s4 with heap := s4.heap.push { cls := .type "slice", data := .fields #[vl, vu, vs] } }
  rcases q with ⟨hx, q⟩ | ⟨hx, q⟩
  · obtain ⟨its, r, ht, hz⟩ := J.list hx
    have hlen := r.length
    refine tail_any (ops := [.ref a, .ref s4.heap.objs.size]) ht.isList.typeIs (PySem.slot_list_getitem.lookup) ?_ (by with_unfolding_all rfl)
    refine wpAny_getItem_list_slice ht.isList (Heap.IsSliceOf.new _ vl vu vs) pl pu ps (by decide) ?_ (by rw [List.size_toArray]; omega)
    rw [PySem.W.krv_pick]
    refine ⟨.ref _, _, J.laid (t' := s4.toks) (o := .lst xs.reverse) (fun b ob z => Heap.get?_push_of_some _ z) (Nat.le_refl _) ⟨?_, _, 0, r.reverse, Heap.get?_push_size _ rfl⟩, rfl, q _ (J.hok.fresh (Nat.le_refl _))⟩
    rw [List.length_reverse]; exact hz
  · obtain ⟨its, r, ht, hz⟩ := J.tuple hx
    have hlen := r.length
    refine tail_any (ops := [.ref a, .ref s4.heap.objs.size]) ht.typeIs (PyProof.Rows.slot_tuple_getitem.lookup) ?_ (by with_unfolding_all rfl)
    refine tup_back ht (Heap.IsSliceOf.new _ vl vu vs) pl pu ps ?_ (by rw [List.size_toArray]; omega)
    refine ⟨.ref _, _, J.laid (t' := s4.toks) (o := .tup xs.reverse) (fun b ob z => Heap.get?_push_of_some _ z) (Nat.le_refl _) ⟨?_, _, r.reverse, IsTup.new _ _⟩, rfl, q _ (J.hok.fresh (Nat.le_refl _))⟩
    rw [List.length_reverse]; exact hz
section
variable {S : Sg} {R : RC} {C : Caller} {Y : XC} {n : Nat} {N : List Str} {cm : Bool} {sc : Scope} {X : Cx} {W : WX} (G : Gd S R C Y n N cm sc X W) {pos : Pos}
def tO (R : RC) (Y : XC) (W : WX) (b : Bool) (f : EvF) : TO := fun σ H Q => ∃ ρ φ c h, RelS R ρ φ H c σ ∧ RelH R ρ φ H h ∧ Fin R Y W σ ρ φ H rEq (optR b (f c) h) Q
theorem po_imp {e : Option Expr} {t u : TO} (h : PO X e t) (k : ∀ σ H Q, u σ H Q → t σ H Q) : PO X e u := ⟨fun pins s σ H Q I q => h.run pins s σ H Q I (k σ H Q q)⟩
theorem po_abs {f : EvF} : PO X none (tO R Y W true f) := po_imp po_none fun σ H Q ⟨ρ, φ, c, h, hS, hH, k⟩ => by
  unfold optR at k
  rw [if_pos rfl] at k
  exact k ρ _ H Ext.refl hH rfl
theorem po_val {f : EvF} {e : Expr} (he : PE X e (tE R Y W f)) : PO X (some e) (tO R Y W false f) := po_imp (po_some he) fun σ H Q ⟨ρ, φ, c, h, hS, hH, k⟩ => by
  unfold optR at k
  rw [if_neg Bool.false_ne_true] at k
  refine ⟨ρ, φ, c, h, hS, hH, k.bind fun x h1 ρ1 v H1 _ e1 hH1 r1 f1 => ?_⟩
  cases x with
  | int i =>
    simp only [RD] at r1
    exact ⟨i, r1, f1 ρ1 _ H1 Ext.refl hH1 rfl⟩
  | _ => exact f1.elim
include G
theorem c_slK {a lo hi : CE} {ea : Expr} {elo ehi : Option Expr} {p2 : Pos} (ha : PE X ea (tE R Y W (evE C a))) (hl : PO X elo (tO R Y W lo.isAbs (evE C lo))) (hh : PO X ehi (tO R Y W hi.isAbs (evE C hi))) :
    PE X (.Subscript ea (.Slice elo ehi none p2) pos) (fun σ H Q => ∃ ρ φ s h, RelS R ρ φ H s σ ∧ RelH R ρ φ H h ∧ Fin R Y W σ ρ φ H (rD R φ) (evE C a s h) fun x H1 => tO R Y W lo.isAbs (evE C lo) σ H1 fun l H2 => tO R Y W hi.isAbs (evE C hi) σ H2 fun u H3 => rSl R x l u H3 Q) :=
  pe_imp (pe_slice (slR G.hK) ha hl hh) fun σ H Q q => q
theorem c_sl {a lo hi : CE} {ea : Expr} {elo ehi : Option Expr} {p2 : Pos} (ha : PE X ea (tE R Y W (evE C a))) (hl : PO X elo (tO R Y W lo.isAbs (evE C lo))) (hh : PO X ehi (tO R Y W hi.isAbs (evE C hi))) :
    PE X (.Subscript ea (.Slice elo ehi none p2) pos) (tE R Y W (evE C (.sl a lo hi))) :=
  pe_imp (c_slK G ha hl hh) fun σ H Q ⟨ρ, φ, s, h, hS, hH, f⟩ => by
    simp only [evE] at f
    refine ⟨ρ, φ, s, h, hS, hH, f.bind fun x h1 ρ1 v H1 _ e1 hH1 r1 f1 => ?_⟩
    refine ⟨ρ1, φ, s, h1, hS.ext e1, hH1, f1.bind fun y h2 ρ2 u H2 _ e2 hH2 r2 f2 => ?_⟩
    refine ⟨ρ2, φ, s, h2, (hS.ext e1).ext e2, hH2, f2.bind fun z h3 ρ3 w H3 _ e3 hH3 r3 f3 => ?_⟩
    obtain ⟨d, ed, k⟩ := Fin.ofO f3
    subst r2 r3
    refine ⟨ρ3, φ, h3, x, d, hH3, (r1.ext e2).ext e3, ed, fun p xs ws ex hp rs => ?_, fun _ => k⟩
    subst ex
    obtain ⟨q1, q2, q3⟩ := new_lst hH3 hp rs
    exact k _ _ _ q1 q2 q3

omit G in
theorem finL_new {σ : L2.St} {ρ φ : List Addr} {H : Hp} {d : D} {h : Hc} {Q : VK} {ρ1 : List Addr} {H1 : Hp} (e1 : Ext ρ ρ1 H H1) (k : FinL R Y W σ ρ φ H (.ok d h) Q) {p : Addr} {xs : List D} {ws : List V} (ed : d = .lst xs) (hH : RelH R ρ1 φ H1 h) (hp : H1 p = none) (rs : RDs R ρ1 φ H1 xs ws) : Q (.ref p) (upd H1 p (.lst ws)) := by
  subst ed
  obtain ⟨q1, q2, q3⟩ := new_lstF hH hp rs
  exact k ρ1 p ws _ (e1.trans q1) q2 (e1.none hp) (hH.free hp) upd_same q3

omit G in
theorem FinL.bind {α β : Type} {σ : L2.St} {ρ φ : List Addr} {H : Hp} {rel : List Addr → Hp → α → β → Prop} {r : ERes α} {f : α → Hc → ERes D} {Q' : VK} {Q : β → Hp → Prop}
    (hf : FinL R Y W σ ρ φ H (r.bind f) Q') (k : ∀ a h1 ρ1 b H1, r = .ok a h1 → Ext ρ ρ1 H H1 → RelH R ρ1 φ H1 h1 → rel ρ1 H1 a b → FinL R Y W σ ρ1 φ H1 (f a h1) Q' → Q b H1) : Fin R Y W σ ρ φ H rel r Q := by
  have up : ∀ {r : ERes D} {ρ1 : List Addr} {H1 : Hp}, Ext ρ ρ1 H H1 → FinL R Y W σ ρ φ H r Q' → FinL R Y W σ ρ1 φ H1 r Q' := fun {r ρ1 H1} e f => by
    cases r with
    | ok d h =>
      cases d with
      | lst xs => exact fun ρ2 p ws H2 e2 rH hp => f ρ2 p ws H2 (e.trans e2) rH (e.none hp)
      | _ => exact f
    | exc x h => exact fun ρ2 cls dd H2 e2 => f ρ2 cls dd H2 (e.trans e2)
    | stuck => exact f
  cases r with
  | ok a h' => exact fun ρ1 b H1 e1 hH r1 => k a h' ρ1 b H1 rfl e1 hH r1 (up (r := f a h') e1 hf)
  | exc x h' => exact hf
  | stuck => exact hf
theorem l_sl {a lo hi : CE} {ea : Expr} {elo ehi : Option Expr} {p2 : Pos} (ha : PE X ea (tE R Y W (evE C a))) (hl : PO X elo (tO R Y W lo.isAbs (evE C lo))) (hh : PO X ehi (tO R Y W hi.isAbs (evE C hi))) :
    PE X (.Subscript ea (.Slice elo ehi none p2) pos) (tL R Y W (evE C (.sl a lo hi))) :=
  pe_imp (c_slK G ha hl hh) fun σ H Q ⟨ρ, φ, s, h, hS, hH, f, only⟩ => by
    simp only [evE] at f only
    refine ⟨ρ, φ, s, h, hS, hH, f.bind fun x h1 ρ1 v H1 eq1 e1 hH1 r1 f1 => ?_⟩
    refine ⟨ρ1, φ, s, h1, hS.ext e1, hH1, f1.bind fun y h2 ρ2 u H2 eq2 e2 hH2 r2 f2 => ?_⟩
    refine ⟨ρ2, φ, s, h2, (hS.ext e1).ext e2, hH2, f2.bind fun z h3 ρ3 w H3 eq3 e3 hH3 r3 f3 => ?_⟩
    subst r2 r3
    cases ed : sliceF h3 x y z with
    | none => rw [ed] at f3; exact f3.elim
    | some d =>
      rw [ed] at f3
      obtain ⟨xs, rfl⟩ := only d h3 (by rw [eq1]; show (ERes.bind (optR _ _ h1) _) = _; rw [eq2]; show (ERes.bind (optR _ _ h2) _) = _; rw [eq3]; show ofO (sliceF h3 x y z) h3 = _; rw [ed]; rfl)
      exact ⟨ρ3, φ, h3, x, .lst xs, hH3, (r1.ext e2).ext e3, ed, fun p ys ws ex hp rs => finL_new (d := .lst xs) Ext.refl f3 ex hH3 hp rs, fun no => absurd rfl (no xs)⟩
theorem c_rev {a : CE} {ea : Expr} {k : Nat} {p1 p2 p3 : Pos} (ha : PE X ea (tE R Y W (evE C a))) : PE X (.Subscript ea (.Slice none none (some (.UnaryOp .USub (.Constant (.int 1) k p1) p2)) p3) pos) (tE R Y W (evE C (.rev a))) :=
  pe_imp (pe_rev2 ha) fun σ H Q ⟨ρ, φ, s, h, hS, hH, f⟩ => by
    simp only [evE] at f
    refine ⟨ρ, φ, s, h, hS, hH, f.bind fun x h1 ρ1 v H1 _ e1 hH1 r1 f1 => ?_⟩
    obtain ⟨d, ed, k⟩ := Fin.ofO f1
    unfold revF at ed
    split at ed
    · rename_i xs he
      obtain ⟨l, vs, rfl, g1, g2, _⟩ := RD.der_tp r1 he
      cases ed
      refine ⟨l, vs, rfl, .inr ⟨G.hK ▸ g1, fun p hp => ?_⟩⟩
      obtain ⟨q1, q2, q3⟩ := new_tup hH1 hp g2.reverse
      exact k _ _ _ q1 q2 q3
    · rename_i xs he
      obtain ⟨l, vs, rfl, g1, g2⟩ := RD.der_lt hH1 r1 he
      cases ed
      refine ⟨l, vs, rfl, .inl ⟨G.hK ▸ g1, fun p hp => ?_⟩⟩
      obtain ⟨q1, q2, q3⟩ := new_lst hH1 hp g2.reverse
      exact k _ _ _ q1 q2 q3
    · cases ed
theorem c_pop {o : CE} {eo : Expr} {apos cpos : Pos} (hb : baseOk eo = true) (hl : apos.endLine = cpos.line) (ho : PE X eo (tE R Y W (evE C o))) : PE X (.Call (.Attribute eo "pop" apos) [] [] cpos) (tE R Y W (evE C (.pop o))) :=
  pe_imp (pe_bm0 PySem.F.plainAttrs_list PySem.F.slot_list_pop PySem.F.type_list_pop mt_pop ho (attr_base hb) (by rw [hl]; exact beq_self_eq_true _)) fun σ H Q ⟨ρ, φ, s, h, hS, hH, f⟩ => by
    simp only [evE] at f
    refine ⟨ρ, φ, s, h, hS, hH, f.bind fun x h1 ρ1 v H1 _ e1 hH1 r1 f1 => ?_⟩
    cases x with
    | ref n =>
      simp only [RD] at r1
      obtain ⟨l, el, rfl⟩ := r1
      cases hc : h1[n]? with
      | none => simp only [hc] at f1; exact f1.elim
      | some c =>
        have rc := hH1.cells n l c el hc
        cases c with
        | lst xs =>
          obtain ⟨vs, g1, g2⟩ := rc
          simp only [hc] at f1
          cases hx : xs[xs.length - 1]? with
          | none => simp only [hx] at f1; exact f1.elim
          | some d =>
            simp only [hx] at f1
            obtain ⟨w, w1, w2⟩ := g2.get hx
            have hin : l ∈ ρ1 := List.mem_of_getElem? el
            have ew : Ext ρ1 ρ1 H1 (upd H1 l (.lst vs.dropLast)) := Ext.write hin
            have dl : RDs R ρ1 φ H1 xs.dropLast vs.dropLast := by
              rw [List.dropLast_eq_take, List.dropLast_eq_take, g2.len]
              exact g2.take _
            refine ⟨.inl ⟨rfl, vs, SqL.of g1⟩, l, vs, w, rfl, rfl, g1, by rw [← g2.len]; exact w1, ?_⟩
            exact f1 ρ1 w _ ew (hH1.write el ⟨vs.dropLast, upd_same, (dl.later (Later.of (φ := φ) (Ext.refl))).mv (k := ρ1.length) (Mv.write hin _) dl.low⟩) (RD.mv (k := ρ1.length) (Mv.write hin _) w2.low w2)
        | _ => simp only [hc] at f1; exact f1.elim
    | _ => exact f1.elim
theorem c_dget {o k d : CE} {eo ek ed : Expr} {apos cpos : Pos} (hb : baseOk eo = true) (hl : apos.endLine = cpos.line) (h1 : starEach [ek, ed] X.env = (false, eval ek X.env) :: starEach [ed] X.env) (h2 : starEach [ed] X.env = (false, eval ed X.env) :: starEach [] X.env)
    (ho : PE X eo (tE R Y W (evE C o))) (hk : PE X ek (tE R Y W (evE C k))) (hd : PE X ed (tE R Y W (evE C d))) : PE X (.Call (.Attribute eo "get" apos) [ek, ed] [] cpos) (tE R Y W (evE C (.dget o k d))) := by
  have t2 : backTo cpos (starEach [ek, ed] X.env) = [(false, eval ek X.env), (false, eval ed X.env)] := by rw [h1, h2]; rfl
  have m2 : M2 X eo "get" apos ek ed cpos := ⟨attr_base hb, by rw [t2]; rfl, by rw [hl]; exact beq_self_eq_true _, t2⟩
  have hu : X.A.units + 1 < cLine := by have := G.hu; omega
  refine pe_imp (pe_dget2 hu ho hk hd m2) fun σ H Q ⟨ρ, φ, s, h, hS, hH, f⟩ => ?_
  simp only [evE] at f
  refine ⟨ρ, φ, s, h, hS, hH, f.bind fun x h1 ρ1 v H1 _ e1 hH1 r1 f1 => ?_⟩
  by_cases hx : isDictD h1 x = true
  · simp only [hx, if_true] at f1
    cases x with
    | ref n =>
      have r1' := r1
      simp only [RD] at r1
      obtain ⟨l, el, rfl⟩ := r1
      have isd : IsD H1 l := by
        unfold isDictD at hx
        cases hc : h1[n]? with
        | none => simp only [hc] at hx; cases hx
        | some c =>
          have rc := hH1.cells n l c el hc
          cases c with
          | dK kvs => obtain ⟨kws, g, _⟩ := rc; exact .inl ⟨kws, .inl g⟩
          | dT kvs => obtain ⟨kws, g, _⟩ := rc; exact .inr ⟨kws, .inl g⟩
          | _ => simp only [hc] at hx; cases hx
      refine ⟨l, rfl, isd, ρ1, φ, s, h1, hS.ext e1, hH1, f1.bind fun y h2 ρ2 u H2 _ e2 hH2 r2 f2 => ?_⟩
      refine ⟨ρ2, φ, s, h2, (hS.ext e1).ext e2, hH2, f2.bind fun z h3 ρ3 w H3 _ e3 hH3 r3 f3 => ?_⟩
      have el3 := e3.get (e2.get el)
      cases eq : lookD h3 n y with
      | none => simp only [eq] at f3; exact f3.elim
      | some r =>
        simp only [eq] at f3
        obtain ⟨o', g, q⟩ := look_get hH3 (r2.ext e3) el3 eq
        refine ⟨o', g, ?_⟩
        rcases q with ⟨rfl, rfl⟩ | ⟨d', w', rfl, rfl, q3⟩
        · exact f3 _ _ _ Ext.refl hH3 r3
        · exact f3 _ _ _ Ext.refl hH3 q3
    | _ => exact absurd hx (by simp [isDictD])
  · simp only [hx] at f1
    exact f1.elim
end
end Cl

namespace Cl
open PySem PySem.Spec PyProof.Rows L2
/-! ### new lists by operators and built-ins -/
def rCL (R : RC) (f : Hc → D → D → Option D) : R2 := fun x y H Q => ∃ ρ φ h a b xs, RelH R ρ φ H h ∧ RD R ρ φ H a x ∧ RD R ρ φ H b y ∧ f h a b = some (.lst xs) ∧
  ∀ p ws, H p = none → RDs R ρ φ H xs ws → Q (.ref p) (upd H p (.lst ws))
section
variable {X : Cx} {R : RC}
theorem binL_add : OpR X (binaryOp .Add) (rCL R addF) := by
  intro pins s σ H x y v u Q I rx ry ⟨ρ, φ, h, a, b, d, rH, ra, rb, e, k⟩
  unfold addF at e
  split at e
  · cases e
  · split at e <;> cases e
  · split at e <;> cases e
  · unfold addL at e
    split at e
    · rename_i xs ys ea eb
      split at e
      · rename_i hz
        cases e
        obtain ⟨l, vs, rfl, h1, h2⟩ := ra.der_lst rH ea
        obtain ⟨m, ws, rfl, h3, h4⟩ := rb.der_lst rH eb
        exact op_cat pins s σ H _ _ v u Q I rx ry ⟨l, m, vs, ws, rfl, rfl, h1, h3, by rw [← h2.len, ← h4.len, ← line_eq]; exact hz, fun p hp => k p _ hp (h2.append h4)⟩
      · cases e
    · cases e
theorem binL_mul : OpR X (binaryOp .Mult) (rCL R mulF) := by
  intro pins s σ H x y v u Q I rx ry ⟨ρ, φ, h, a, b, d, rH, ra, rb, e, k⟩
  unfold mulF at e
  split at e
  · split at e <;> cases e
  · split at e <;> cases e
  · rename_i m _ _
    unfold mulL at e
    split at e
    · rename_i xs ea
      split at e
      · rename_i hz
        cases e
        obtain ⟨l, vs, rfl, h1, h2⟩ := ra.der_lst rH ea
        simp only [RD] at rb
        subst rb
        exact op_rep pins s σ H _ _ v u Q I rx ry ⟨l, m, vs, rfl, rfl, h1, hz.1, hz.2.1, by rw [← h2.len, ← line_eq]; exact hz.2.2, fun p hp => k p _ hp (h2.rep _)⟩
      · cases e
    · cases e
  · cases e
end
section
variable {S : Sg} {R : RC} {C : Caller} {Y : XC} {n : Nat} {N : List Str} {cm : Bool} {sc : Scope} {X : Cx} {W : WX} (G : Gd S R C Y n N cm sc X W) {pos : Pos}
theorem l_bin {op : Operator} (hop : op = .Add ∨ op = .Mult) {a b : CE} {ea eb : Expr} (ha : PE X ea (tE R Y W (evE C a))) (hb : PE X eb (tE R Y W (evE C b))) : PE X (.BinOp ea op eb pos) (tL R Y W (evE C (.bin op a b))) := by
  have ho : OpR X (binaryOp op) (rCL R fun h => binF h op) := by
    rcases hop with rfl | rfl
    · exact binL_add
    · exact binL_mul
  refine pe_imp (pe_op ho ha hb) fun σ H Q ⟨ρ, φ, s, h, hS, hH, f, only⟩ => ?_
  simp only [evE] at f only
  refine ⟨ρ, φ, s, h, hS, hH, f.bind fun x h1 ρ1 v H1 eq1 e1 hH1 r1 f1 => ?_⟩
  refine ⟨ρ1, φ, s, h1, hS.ext e1, hH1, f1.bind fun y h2 ρ2 u H2 eq2 e2 hH2 r2 f2 => ?_⟩
  cases ed : binF h2 op x y with
  | none => rw [ed] at f2; exact f2.elim
  | some d =>
    rw [ed] at f2
    obtain ⟨xs, rfl⟩ := only d h2 (by rw [eq1]; show (ERes.bind (evE C b s h1) _) = _; rw [eq2]; show ofO (binF h2 op x y) h2 = _; rw [ed]; rfl)
    exact ⟨ρ2, φ, h2, x, y, xs, hH2, r1.ext e2, r2, ed, fun p ws hp rs => finL_new (d := .lst xs) Ext.refl f2 rfl hH2 hp rs⟩
include G
theorem l_biV {v : Value} {g : Hc → List D → Option (List D)} {args : CEs} {x : Str} {e : Expr} {es : List Expr} {p : Pos} {c : CE} (hv : (∃ id, v = .builtin id) ∨ ∃ T, v = .type T) (hc : CallR X v (rL R g)) (hb : bootBuiltins x = some v) (hx : x ∈ bltNames) (hg : isGlB sc x = true)
    (ha : PA X (e :: es) (tA R Y W (evEs C args))) (hs : starEach (e :: es) X.env = (false, eval e X.env) :: starEach es X.env) (hp : (backTo pos (starEach es X.env)).any (·.1) = false)
    (hev : ∀ s h, evE C c s h = (evEs C args s h).bind fun ds h => ofO ((g h ds).map D.lst) h) : PE X (.Call (.Name x p) (e :: es) [] pos) (tL R Y W (evE C c)) := by
  obtain ⟨g1, g2⟩ := G.glb hg
  have rd : ∀ σ H Q, tL R Y W (evE C c) σ H Q → tCB (rL R g) (tA R Y W (evEs C args)) σ H Q := fun σ H Q ⟨ρ, φ, s, h, hS, hH, k, _⟩ => by
    rw [hev] at k
    refine ⟨ρ, φ, s, h, hS, hH, k.bind fun ds h1 ρ1 vs H1 _ e1 hH1 r1 f1 => ?_⟩
    cases ed : g h1 ds with
    | none => rw [ed] at f1; exact f1.elim
    | some xs =>
      rw [ed] at f1
      exact ⟨ρ1, φ, h1, ds, xs, hH1, r1, ed, fun p ws hp rs => finL_new (d := .lst xs) Ext.refl f1 rfl hH1 hp rs⟩
  rcases hv with ⟨id, rfl⟩ | ⟨T, rfl⟩
  · exact pe_imp (pe_callB hc g1 (G.bl hx) hb ha (nm_dbg g2).2.2 (nm_dbg g2).1 hs hp) rd
  · exact pe_imp (pe_callTy hc g1 (G.bl hx) hb ha (nm_dbg g2).2.2 (nm_dbg g2).1 hs hp) rd
omit G in
theorem bi_list_arg {h : Hc} {ds : List D} : biF h .list ds = (arg1 seqD h ds).map D.lst := by
  rcases ds with _ | ⟨d, _ | ⟨e, l⟩⟩ <;> rfl
omit G in
theorem bi_sorted_arg {h : Hc} {ds : List D} : biF h .sorted ds = (arg1 (fun h d => (seqD h d).bind sortF) h ds).map D.lst := by
  rcases ds with _ | ⟨d, _ | ⟨e, l⟩⟩ <;> rfl
theorem l_list {args : CEs} {e : Expr} {es : List Expr} {p : Pos} (hg : isGlB sc "list" = true) (ha : PA X (e :: es) (tA R Y W (evEs C args)))
    (hs : starEach (e :: es) X.env = (false, eval e X.env) :: starEach es X.env) (hp : (backTo pos (starEach es X.env)).any (·.1) = false) : PE X (.Call (.Name "list" p) (e :: es) [] pos) (tL R Y W (evE C (.bi .list args))) :=
  l_biV G (.inr ⟨_, rfl⟩) (call_listC G.hK) (by decide +kernel) (by decide +kernel) hg ha hs hp fun s h => by simp only [evE, bi_list_arg]
theorem l_sorted {args : CEs} {e : Expr} {es : List Expr} {p : Pos} (hg : isGlB sc "sorted" = true) (ha : PA X (e :: es) (tA R Y W (evEs C args)))
    (hs : starEach (e :: es) X.env = (false, eval e X.env) :: starEach es X.env) (hp : (backTo pos (starEach es X.env)).any (·.1) = false) : PE X (.Call (.Name "sorted" p) (e :: es) [] pos) (tL R Y W (evE C (.bi .sorted args))) :=
  l_biV G (.inl ⟨_, rfl⟩) (call_sortedC G.hK G.hu) (by decide +kernel) (by decide +kernel) hg ha hs hp fun s h => by simp only [evE, bi_sorted_arg]
theorem c_lenset {args : CEs} {a : Expr} {p p2 q : Pos} (hcm : cm = true) (hg : isGlB sc "len" = true) (hg2 : isGlB sc "set" = true) (ha : PA X [a] (tA R Y W (evEs C args))) (hs : starEach [a] X.env = (false, eval a X.env) :: starEach [] X.env) :
    PE X (.Call (.Name "len" p) [.Call (.Name "set" p2) [a] [] q] [] pos) (tE R Y W (evE C (.bi .lenset args))) := by
  obtain ⟨g1, g2⟩ := G.glb hg
  obtain ⟨g3, g4⟩ := G.glb hg2
  refine ⟨fun pins s σ H Q I ⟨ρ, φ, cs, h, hS, hH, f⟩ => ?_⟩
  simp only [evE] at f
  refine Call_ (ld_blt I g1 (G.bl (by decide +kernel)) boot_len ?_)
  refine PyProof.Rows.callWith_builtin1 (PyProof.Rows.args_cons ?_ rfl) rfl rfl
  refine Call_ (ld_blt I g3 (G.bl (by decide +kernel)) boot_set ?_)
  have f' : tA R Y W (evEs C args) σ H (fun vs H1 => ∃ (l : Addr) (ns : List Int), vs = [.ref l] ∧ SqL X.K H1 l (ns.map V.int) ∧ ns.length ≤ 4000 ∧ Q (.int (firstMet (fun i => ns.getD i 0) ns.length).length) H1) := by
    refine ⟨ρ, φ, cs, h, hS, hH, f.bind fun ds h1 ρ1 vs H1 _ e1 hH1 r1 f1 => ?_⟩
    obtain ⟨d, ed, k⟩ := Fin.ofO f1
    rcases ds with _ | ⟨d0, _ | ⟨d1, l⟩⟩
    · cases ed
    · simp only [RDs] at r1
      obtain ⟨v, vs', rfl, h1', rfl⟩ := r1
      have ed' : ((lstD h1 d0).bind fun xs => (intsD xs).bind fun is => if is.length ≤ 4000 then some (.int (firstMet (fun i => is.getD i 0) is.length).length) else none) = some d := ed
      obtain ⟨xs, x1, ed'⟩ := Option.bind_eq_some_iff.mp ed'
      obtain ⟨ns, x2, ed'⟩ := Option.bind_eq_some_iff.mp ed'
      split at ed'
      · rename_i hz
        cases ed'
        obtain ⟨a, ws, rfl, y1, y2⟩ := lst_seq hH1 h1' x1
        obtain ⟨z1, z2⟩ := intsD_rd x2 y2
        subst z1
        exact ⟨a, ns, rfl, G.hK ▸ y1, hz, k _ _ _ Ext.refl hH1 (by simp only [RD])⟩
      · cases ed'
    · cases ed
  refine PyProof.Rows.callWith_type1 (thn (ha.run q pins s σ H _ I f') fun us s1 ⟨vs, H1, I1, r1, l, ns, e1, hq, hl, k⟩ => ?_) hs rfl
  subst e1
  cases r1 with
  | cons r rr =>
  cases rr
  cases r
  obtain ⟨its, r, pl, hz⟩ := I1.list hq
  have hlen : its.toArray.size = ns.length := by rw [List.size_toArray, ← r.length, List.length_map]
  refine call_set_list (I1.ok.hd (G.calm hcm)) pl.isList (by simpa using RZ.intsAre_vals r) (by rw [hlen]; unfold scanBound; omega) fun h' tk hS hk => ?_
  refine PyProof.Rows.args_nil ?_
  rw [hlen] at hS
  obtain ⟨o, es, ep, t, ho, hex, hd, _, _, _, hf, hn⟩ := hS
  have I2 : Inv X pins σ H1 { s1 with heap := h', toks := tk } := I1.kept fun b o e => hk b o (Heap.lt_size e) e
  have hle := PyProof.Rows.firstMet_length_le (fun i => ns.getD i 0) ns.length
  exact call_len_set ho hex hd hf (by rw [hn]; omega) ⟨.int (firstMet (fun i => ns.getD i 0) ns.length).length, H1, I2.tok _, ⟨_, by rw [hn]⟩, k⟩
end
end Cl

namespace Cl
open PySem PySem.Spec PyProof.Rows L2
/-! ### what is walked -/
structure JOk (R : RC) (J : It) (xs : List D) (g : Guard) (ρ φ : List Addr) (H : Hp) : Prop where
  go : ∀ (i : Nat) (ρ' φ' : List Addr) (H' : Hp) (h' : Hc), Later ρ φ H ρ' φ' H' → RelH R ρ' φ' H' h' → gOk g h' = true → ∀ d, xs[i]? = some d →
    J.go i H' ∧ ∀ x H2, J.yld i H' x H2 → Ext ρ' ρ' H' H2 ∧ Later ρ' φ' H' ρ' φ' H2 ∧ RelH R ρ' φ' H2 h' ∧ RD R ρ' φ' H2 d x
  stop : ∀ (ρ' φ' : List Addr) (H' : Hp) (h' : Hc), Later ρ φ H ρ' φ' H' → RelH R ρ' φ' H' h' → gOk g h' = true → J.stop xs.length H'
def tI (R : RC) (Y : XC) (W : WX) (f : CSt → Hc → ERes Itd) : TI := fun σ H Q => ∃ ρ φ c h, RelS R ρ φ H c σ ∧ RelH R ρ φ H h ∧ Fin R Y W σ ρ φ H (fun ρ' H' d J => JOk R J d.xs d.g ρ' φ H') (f c h) Q
theorem pi_imp {X : Cx} {tg e : Expr} {t u : TI} (h : PI X tg e t) (k : ∀ σ H Q, u σ H Q → t σ H Q) : PI X tg e u := ⟨fun pins s σ H Q I q => h.run pins s σ H Q I (k σ H Q q)⟩
def iSeq (K : PySem.W.Frag) (tl : TE) : TI := fun σ H Q => tl σ H fun x H1 => ∃ a, x = .ref a ∧ (((∃ xs, SqL K H1 a xs) ∧ Q (Itl K a) H1) ∨ ((∃ xs, SqT K H1 a xs) ∧ Q (Itt K a) H1))
theorem pi_seq {X : Cx} {tg l : Expr} {tl : TE} (hl : PE X l tl) : PI X tg l (iSeq X.K tl) := by
  refine ⟨fun pins s σ H Q I h => thn (hl.run pins s σ H _ I h) fun v s1 ⟨x, H1, I1, r1, a, e, q1⟩ => ?_⟩
  subst e
  cases r1
  have fo : ∀ b ∈ [s1.heap.objs.size], FpOk X pins H1 b := fun b hb => by
    have e : b = s1.heap.objs.size := by simpa using hb
    subst e
    exact I1.fpOk (Nat.le_refl _) (I1.hok.fresh (Nat.le_refl _))
  rcases q1 with ⟨⟨xs, hq⟩, q⟩ | ⟨⟨xs, hq⟩, q⟩
  · obtain ⟨its, rv, p, hz⟩ := I1.list hq
    refine wpAny_pyIter_list p.isList ?_
    exact ⟨s1.heap.objs.size, [s1.heap.objs.size], _, _, H1, rfl, I1.kept (t' := s1.toks) fun b o e => Heap.get?_push_of_some _ e, turn_list a _, ⟨_, Heap.get?_push_size _ rfl, rfl, rfl⟩, fo, q⟩
  · obtain ⟨its, rv, p, hz⟩ := I1.tuple hq
    refine wpAny_pyIter_tuple (show s1.heap.IsTuple a its.toArray from p) ?_
    exact ⟨s1.heap.objs.size, [s1.heap.objs.size], _, _, H1, rfl, I1.kept (t' := s1.toks) fun b o e => Heap.get?_push_of_some _ e, turn_tuple a _, ⟨_, Heap.get?_push_size _ rfl, rfl, rfl⟩, fo, q⟩
section
variable {R : RC} {ρ φ : List Addr} {H : Hp} {h : Hc}
theorem Later.refl : Later ρ φ H ρ φ H := Later.of Ext.refl
theorem gOk_at {g : Guard} {h : Hc} {n : Nat} {c : Cell} (k : gOk g h = true) (m : (n, c) ∈ g) : h[n]? = some c := by
  unfold gOk at k
  have := List.all_eq_true.mp k _ m
  simpa using this
/-- a list that stays, as walked -/
theorem jok_list {a : Addr} {xs : List D} {g : Guard} (k : ∀ (ρ' φ' : List Addr) (H' : Hp) (h' : Hc), Later ρ φ H ρ' φ' H' → RelH R ρ' φ' H' h' → gOk g h' = true → ∃ vs, SqL R.K H' a vs ∧ RDs R ρ' φ' H' xs vs) : JOk R (Itl R.K a) xs g ρ φ H := by
  refine ⟨fun i ρ' φ' H' h' l rH gg d hd => ?_, fun ρ' φ' H' h' l rH gg => ?_⟩
  · obtain ⟨vs, h1, h2⟩ := k ρ' φ' H' h' l rH gg
    obtain ⟨v, h3, h4⟩ := h2.get hd
    refine ⟨⟨vs, v, h1, h3⟩, fun x H2 ⟨e, y⟩ => ?_⟩
    subst e
    have := y vs h1
    rw [h3] at this
    cases this
    exact ⟨Ext.refl, Later.refl, rH, h4⟩
  · obtain ⟨vs, h1, h2⟩ := k ρ' φ' H' h' l rH gg
    exact ⟨vs, h1, by rw [h2.len]; exact Nat.le_refl _⟩
theorem jok_tup {a : Addr} {xs : List D} {g : Guard} (k : ∀ (ρ' φ' : List Addr) (H' : Hp) (h' : Hc), Later ρ φ H ρ' φ' H' → RelH R ρ' φ' H' h' → gOk g h' = true → ∃ vs, SqT R.K H' a vs ∧ RDs R ρ' φ' H' xs vs) : JOk R (Itt R.K a) xs g ρ φ H := by
  refine ⟨fun i ρ' φ' H' h' l rH gg d hd => ?_, fun ρ' φ' H' h' l rH gg => ?_⟩
  · obtain ⟨vs, h1, h2⟩ := k ρ' φ' H' h' l rH gg
    obtain ⟨v, h3, h4⟩ := h2.get hd
    refine ⟨⟨vs, v, h1, h3⟩, fun x H2 ⟨e, y⟩ => ?_⟩
    subst e
    have := y vs h1
    rw [h3] at this
    cases this
    exact ⟨Ext.refl, Later.refl, rH, h4⟩
  · obtain ⟨vs, h1, h2⟩ := k ρ' φ' H' h' l rH gg
    exact ⟨vs, h1, by rw [h2.len]; exact Nat.le_refl _⟩
theorem rng_get {c : Int} : ∀ {n i : Nat} {a : Int} {d : D}, (rngD a c n)[i]? = some d → i < n ∧ d = .int (a + (i : Nat) * c)
  | 0, i, a, d, e => by simp [rngD] at e
  | n + 1, 0, a, d, e => by
    simp only [rngD, List.getElem?_cons_zero, Option.some.injEq] at e
    refine ⟨Nat.succ_pos _, ?_⟩
    rw [← e]
    simp
  | n + 1, i + 1, a, d, e => by
    simp only [rngD, List.getElem?_cons_succ] at e
    obtain ⟨h1, h2⟩ := rng_get e
    refine ⟨Nat.succ_lt_succ h1, ?_⟩
    rw [h2]
    congr 1
    have : ((i + 1 : Nat) : Int) * c = (i : Nat) * c + c := by rw [Int.natCast_succ, Int.add_mul, Int.one_mul]
    omega
theorem rng_len {c : Int} : ∀ {n : Nat} {a : Int}, (rngD a c n).length = n
  | 0, a => rfl
  | n + 1, a => by rw [rngD, List.length_cons, rng_len]
theorem jok_rng {lo : Int} {n : Nat} : JOk R (Itr lo n) (rngD lo 1 n) [] ρ φ H := by
  refine ⟨fun i ρ' φ' H' h' l rH gg d hd => ?_, fun ρ' φ' H' h' l rH gg => ?_⟩
  · obtain ⟨h1, h2⟩ := rng_get hd
    refine ⟨h1, fun x H2 ⟨e, y⟩ => ?_⟩
    subst e
    refine ⟨Ext.refl, Later.refl, rH, ?_⟩
    rw [h2, Int.mul_one]
    simp only [RD]
    exact y
  · show n ≤ _
    rw [rng_len]
    exact Nat.le_refl _
theorem jok_rngC {lo c : Int} {n : Nat} : JOk R (Itc lo c n) (rngD lo c n) [] ρ φ H := by
  refine ⟨fun i ρ' φ' H' h' l rH gg d hd => ?_, fun ρ' φ' H' h' l rH gg => ?_⟩
  · obtain ⟨h1, h2⟩ := rng_get hd
    refine ⟨h1, fun x H2 ⟨e, y⟩ => ?_⟩
    subst e
    refine ⟨Ext.refl, Later.refl, rH, ?_⟩
    rw [h2]
    simp only [RD]
    exact y
  · show n ≤ _
    rw [rng_len]
    exact Nat.le_refl _
end
section
variable {S : Sg} {R : RC} {C : Caller} {Y : XC} {n : Nat} {N : List Str} {cm : Bool} {sc : Scope} {X : Cx} {W : WX} (G : Gd S R C Y n N cm sc X W) {pos : Pos} {tg : Expr}
include G
theorem i_seq {a : CE} {e : Expr} (ha : PE X e (tE R Y W (evE C a))) : PI X tg e (tI R Y W (evI C (.seq a))) :=
  pi_imp (pi_seq ha) fun σ H Q ⟨ρ, φ, s, h, hS, hH, f⟩ => by
    simp only [evI] at f
    refine ⟨ρ, φ, s, h, hS, hH, f.bind fun x h1 ρ1 v H1 _ e1 hH1 r1 f1 => ?_⟩
    cases ex : seqD h1 x with
    | none => simp only [ex] at f1; exact f1.elim
    | some xs =>
      simp only [ex] at f1
      have r1' := r1
      cases x with
      | tup ds =>
        simp only [seqD, Option.some.injEq] at ex; subst ex
        simp only [RD] at r1
        obtain ⟨a, vs, rfl, g1, g2⟩ := r1
        refine ⟨a, rfl, .inr ⟨⟨vs, G.hK ▸ g1.sq⟩, ?_⟩⟩
        rw [← G.hK]
        refine f1 ρ1 _ H1 Ext.refl hH1 (jok_tup fun ρ' φ' H' h' l rH gg => ?_)
        have q := r1'.later l
        simp only [RD] at q
        obtain ⟨a', vs', e', q1, q2⟩ := q
        cases e'
        exact ⟨vs', q1.sq, q2⟩
      | lst ds =>
        simp only [seqD, Option.some.injEq] at ex; subst ex
        simp only [RD] at r1
        obtain ⟨a, vs, rfl, g1, g2⟩ := r1
        refine ⟨a, rfl, .inl ⟨⟨vs, G.hK ▸ g1.sq⟩, ?_⟩⟩
        rw [← G.hK]
        refine f1 ρ1 _ H1 Ext.refl hH1 (jok_list fun ρ' φ' H' h' l rH gg => ?_)
        have q := r1'.later l
        simp only [RD] at q
        obtain ⟨a', vs', e', q1, q2⟩ := q
        cases e'
        exact ⟨vs', q1.sq, q2⟩
      | ref m =>
        simp only [RD] at r1
        obtain ⟨a, ea, rfl⟩ := r1
        unfold seqD at ex
        cases hc : h1[m]? with
        | none => simp [hc] at ex
        | some c =>
          have gu : guardOf h1 (.ref m) = [(m, c)] := by simp only [guardOf, hc]
          rw [gu] at f1
          have rc := hH1.cells m a c ea hc
          cases c with
          | lst ys =>
            simp only [hc, Option.some.injEq] at ex; subst ex
            obtain ⟨vs, q1, q2⟩ := rc
            refine ⟨a, rfl, .inl ⟨⟨vs, SqL.of q1⟩, ?_⟩⟩
            rw [← G.hK]
            refine f1 ρ1 _ H1 Ext.refl hH1 (jok_list fun ρ' φ' H' h' l rH gg => ?_)
            obtain ⟨ws, w1, w2⟩ := rH.cells m a (.lst ys) (l.ext.get ea) (gOk_at (c := .lst ys) gg (by simp))
            exact ⟨ws, SqL.of w1, w2⟩
          | ro ys =>
            simp only [hc, Option.some.injEq] at ex; subst ex
            obtain ⟨o, vs, q1, q2⟩ := rc
            refine ⟨a, rfl, .inl ⟨⟨vs, .inl (.inr ⟨o, q1⟩)⟩, ?_⟩⟩
            rw [← G.hK]
            refine f1 ρ1 _ H1 Ext.refl hH1 (jok_list fun ρ' φ' H' h' l rH gg => ?_)
            obtain ⟨o', ws, w1, w2⟩ := rH.cells m a (.ro ys) (l.ext.get ea) (gOk_at (c := .ro ys) gg (by simp))
            exact ⟨ws, .inl (.inr ⟨o', w1⟩), w2⟩
          | dK _ => simp [hc] at ex
          | dT _ => simp [hc] at ex
      | _ => simp [seqD] at ex
omit G in
theorem small_of {i : Int} (h : smallI i = true) : -(2 ^ 62) ≤ i ∧ i < 2 ^ 62 := by
  unfold smallI at h
  simpa using h
theorem i_rng1 {a : CE} {e : Expr} {p : Pos} (hg : isGlB sc "range" = true) (ha : PE X e (tE R Y W (evE C a))) (hs : starEach [e] X.env = (false, eval e X.env) :: starEach [] X.env) : PI X tg (.Call (.Name "range" p) [e] [] pos) (tI R Y W (evI C (.rng1 a))) := by
  obtain ⟨g1, g2⟩ := G.glb hg
  refine pi_imp (pi_range1 g1 (G.bl (by decide +kernel)) (pa_cons ha pa_nil hs) (by rw [hs]; rfl)) fun σ H Q ⟨ρ, φ, s, h, hS, hH, f⟩ => ?_
  simp only [evI] at f
  refine ⟨ρ, φ, s, h, hS, hH, f.bind fun x h1 ρ1 v H1 _ e1 hH1 r1 f1 => ?_⟩
  cases x with
  | int j =>
    simp only [RD] at r1
    subst r1
    by_cases hj : smallI j = true
    · simp only [hj, if_true] at f1
      obtain ⟨j1, j2⟩ := small_of hj
      exact ⟨j, rfl, j1, j2, f1 ρ1 _ H1 Ext.refl hH1 jok_rng⟩
    · simp only [hj] at f1
      exact f1.elim
  | _ => exact f1.elim
theorem i_rng2 {a b : CE} {e e2 : Expr} {p : Pos} (hg : isGlB sc "range" = true) (ha : PE X e (tE R Y W (evE C a))) (hb : PE X e2 (tE R Y W (evE C b))) (hs : starEach [e, e2] X.env = (false, eval e X.env) :: starEach [e2] X.env) (hs2 : starEach [e2] X.env = (false, eval e2 X.env) :: starEach [] X.env) :
    PI X tg (.Call (.Name "range" p) [e, e2] [] pos) (tI R Y W (evI C (.rng2 a b))) := by
  obtain ⟨g1, g2⟩ := G.glb hg
  refine pi_imp (pi_range2 g1 (G.bl (by decide +kernel)) (pa_cons ha (pa_cons hb pa_nil hs2) hs) (by rw [hs, hs2]; rfl) (by rw [hs2]; rfl)) fun σ H Q ⟨ρ, φ, s, h, hS, hH, f⟩ => ?_
  simp only [evI] at f
  refine ⟨ρ, φ, s, h, hS, hH, f.bind fun x h1 ρ1 v H1 _ e1 hH1 r1 f1 => ?_⟩
  refine ⟨ρ1, φ, s, h1, hS.ext e1, hH1, f1.bind fun y h2 ρ2 u H2 _ e2 hH2 r2 f2 => ?_⟩
  have r1 := r1.ext e2
  cases x with
  | int i =>
    cases y with
    | int j =>
      simp only [RD] at r1 r2
      subst r1 r2
      by_cases hj : (smallI i && smallI j) = true
      · simp only [hj, if_true] at f2
        rw [Bool.and_eq_true] at hj
        obtain ⟨j1, j2⟩ := small_of hj.1
        obtain ⟨j3, j4⟩ := small_of hj.2
        exact ⟨i, j, rfl, ⟨j1, j2, j3, j4⟩, f2 ρ2 _ H2 Ext.refl hH2 jok_rng⟩
      · simp only [hj] at f2
        exact f2.elim
    | _ => exact f2.elim
  | _ => exact f2.elim
theorem i_rng3 {a b c : CE} {e e2 e3 : Expr} {p : Pos} (hg : isGlB sc "range" = true) (ha : PE X e (tE R Y W (evE C a))) (hb : PE X e2 (tE R Y W (evE C b))) (hc : PE X e3 (tE R Y W (evE C c))) (hs : starEach [e, e2, e3] X.env = (false, eval e X.env) :: starEach [e2, e3] X.env)
    (hs2 : starEach [e2, e3] X.env = (false, eval e2 X.env) :: starEach [e3] X.env) (hs3 : starEach [e3] X.env = (false, eval e3 X.env) :: starEach [] X.env) :
    PI X tg (.Call (.Name "range" p) [e, e2, e3] [] pos) (tI R Y W (evI C (.rng3 a b c))) := by
  obtain ⟨g1, g2⟩ := G.glb hg
  refine pi_imp (pi_range3 g1 (G.bl (by decide +kernel)) (pa_cons ha (pa_cons hb (pa_cons hc pa_nil hs3) hs2) hs) hs (by rw [hs2, hs3]; rfl)) fun σ H Q ⟨ρ, φ, s, h, hS, hH, f⟩ => ?_
  simp only [evI] at f
  refine ⟨ρ, φ, s, h, hS, hH, f.bind fun x h1 ρ1 v H1 _ e1 hH1 r1 f1 => ?_⟩
  refine ⟨ρ1, φ, s, h1, hS.ext e1, hH1, f1.bind fun y h2 ρ2 u H2 _ e2 hH2 r2 f2 => ?_⟩
  refine ⟨ρ2, φ, s, h2, (hS.ext e1).ext e2, hH2, f2.bind fun z h3 ρ3 w H3 _ e3 hH3 r3 f3 => ?_⟩
  have r1 := (r1.ext e2).ext e3
  have r2 := r2.ext e3
  cases x with
  | int i =>
    cases y with
    | int j =>
      cases z with
      | int k =>
        simp only [RD] at r1 r2 r3
        subst r1 r2 r3
        by_cases hj : (Builtin.Range.small i j k && decide (k ≠ 0) && decide (k.natAbs < 1073741824) && decide (Builtin.Range.rangeSize i j k = (rngN i j k : Nat))) = true
        · simp only [hj, if_true] at f3
          simp only [Bool.and_eq_true, decide_eq_true_eq] at hj
          obtain ⟨⟨⟨j1, j2⟩, j3⟩, j4⟩ := hj
          exact ⟨i, j, k, rngN i j k, rfl, ⟨j2, j3, j1, j4⟩, f3 ρ3 _ H3 Ext.refl hH3 jok_rngC⟩
        · simp only [hj] at f3
          exact f3.elim
      | _ => exact f3.elim
    | _ => exact f3.elim
  | _ => exact f3.elim
end

/-! ### targets -/
mutual
def tgIx : Tg → List Nat
  | .v i => [i]
  | .t ts => tgsIx ts
def tgsIx : Tgs → List Nat
  | .nil => []
  | .cons t ts => tgIx t ++ tgsIx ts
end
/-- as before but at the target's places -/
def Same (is : List Nat) (σ σ' : L2.St) : Prop := σ'.length = σ.length ∧ ∀ i, i ∉ is → σ'[i]? = σ[i]?
theorem Same.refl {is : List Nat} {σ : L2.St} : Same is σ σ := ⟨rfl, fun _ _ => rfl⟩
theorem Same.trans {is js : List Nat} {σ σ1 σ2 : L2.St} (a : Same is σ σ1) (b : Same js σ1 σ2) : Same (is ++ js) σ σ2 :=
  ⟨b.1.trans a.1, fun i hi => by
    rw [List.mem_append, not_or] at hi
    rw [b.2 i hi.2, a.2 i hi.1]⟩
def tG (R : RC) (t : Tg) : TG := fun v σ H Q => ∃ ρ φ c h d c', RelS R ρ φ H c σ ∧ RelH R ρ φ H h ∧ RD R ρ φ H d v ∧ asgT t d c = some c' ∧ ∀ σ', RelS R ρ φ H c' σ' → Same (tgIx t) σ σ' → Q σ' H
def tGs (R : RC) (ts : Tgs) : TGs := fun vs σ H Q => ∃ ρ φ c h ds c', RelS R ρ φ H c σ ∧ RelH R ρ φ H h ∧ RDs R ρ φ H ds vs ∧ asgTs ts ds c = some c' ∧ ∀ σ', RelS R ρ φ H c' σ' → Same (tgsIx ts) σ σ' → Q σ' H
theorem pg_imp {X : Cx} {e : Expr} {t u : TG} (h : PG X e t) (k : ∀ v σ H Q, u v σ H Q → t v σ H Q) : PG X e u := ⟨fun pins s σ H v w Q I r q => h.run pins s σ H v w Q I r (k v σ H Q q)⟩
theorem pgs_imp {X : Cx} {e : List Expr} {t u : TGs} (h : PGs X e t) (k : ∀ v σ H Q, u v σ H Q → t v σ H Q) : PGs X e u := ⟨fun pins s σ H v w Q I r q => h.run pins s σ H v w Q I r (k v σ H Q q)⟩
theorem chkT_plain {N : List Str} {sc : Scope} : ∀ {t : Tg} {e : Expr}, chkT N sc t e = true → ∀ (es : List Expr) (env : PySem.Env), assignEach (e :: es) env = (false, assign e env) :: assignEach es env := by
  intro t e h es env
  cases e with
  | Starred v p => cases t <;> simp [chkT] at h
  | _ => rfl
def tgsLen : Tgs → Nat
  | .nil => 0
  | .cons _ ts => tgsLen ts + 1
theorem chkTs_len {N : List Str} {sc : Scope} : ∀ {ts : Tgs} {es : List Expr} {env : PySem.Env}, chkTs N sc ts es = true → (assignEach es env).length = tgsLen ts ∧ (assignEach es env).findIdx? (·.1) = none
  | .nil, [], _, _ => ⟨rfl, rfl⟩
  | .nil, _ :: _, _, h => by simp [chkTs] at h
  | .cons _ _, [], _, h => by simp [chkTs] at h
  | .cons t ts, e :: es, env, h => by
    simp only [chkTs, Bool.and_eq_true] at h
    obtain ⟨h1, h2⟩ := @chkTs_len N sc ts es env h.2
    rw [chkT_plain h.1 es env]
    refine ⟨by rw [List.length_cons, h1]; rfl, ?_⟩
    rw [List.findIdx?_cons, h2]
    rfl
theorem asgTs_len : ∀ {ts : Tgs} {ds : List D} {c c' : CSt}, asgTs ts ds c = some c' → ds.length = tgsLen ts
  | .nil, [], _, _, _ => rfl
  | .nil, _ :: _, _, _, h => by simp [asgTs] at h
  | .cons _ _, [], _, _, h => by simp [asgTs] at h
  | .cons t ts, d :: ds, c, c', h => by
    simp only [asgTs] at h
    cases q : asgT t d c with
    | none => simp [q] at h
    | some c1 =>
      simp only [q] at h
      rw [List.length_cons, asgTs_len h]
      rfl
section
variable {S : Sg} {R : RC} {C : Caller} {Y : XC} {n : Nat} {N : List Str} {cm : Bool} {sc : Scope} {X : Cx} {W : WX} (G : Gd S R C Y n N cm sc X W)
include G
mutual
theorem g_tg (hcm : X.calm = true) : ∀ {t : Tg} {e : Expr}, chkT N sc t e = true → PG X e (tG R t)
  | .v i, e, h => by
    cases e with
    | Name x p =>
      simp only [chkT, Bool.and_eq_true, Bool.or_eq_true, decide_eq_true_eq] at h
      obtain ⟨⟨h1, h2⟩, h3⟩ := h
      have hl : Loc X.env.scope x := h2.elim (fun z => .inl (G.sees.loc x z)) fun z => .inr (G.sees.cell x z)
      have hf : X.fn x = true ∨ X.env.scope.names.lookup x = some .local := h2.elim (fun z => .inr (G.sees.loc x z)) fun z => .inl (G.fnc x z)
      refine pg_imp (pg_name (i := i) (by rw [G.hN]; exact G.nd) (by rw [G.hN]; exact h1) hl hf) fun v σ H Q ⟨ρ, φ, c, h, d, c', hS, hH, r, ea, k⟩ => ?_
      simp only [asgT, Option.some.injEq] at ea
      subst ea
      refine k _ (hS.set i r) ⟨by rw [List.length_set], fun j hj => ?_⟩
      rw [List.getElem?_set_ne]
      intro z
      exact hj (by simp [tgIx, z])
    | _ => simp [chkT] at h
  | .t ts, e, h => by
    cases e with
    | Tuple es k p =>
      simp only [chkT] at h
      obtain ⟨l1, l2⟩ := @chkTs_len N sc ts es X.env h
      refine pg_imp (pg_tup hcm (g_tgs hcm h) l1 l2) fun v σ H Q ⟨ρ, φ, c, hh, d, c', hS, hH, r, ea, k⟩ => ?_
      simp only [asgT] at ea
      cases d with
      | tup ds =>
        have r' := r
        simp only [RD] at r
        obtain ⟨a, vs, rfl, g1, g2⟩ := r
        exact ⟨a, vs, rfl, G.hK ▸ g1.sq, by rw [← g2.len]; exact asgTs_len ea, ρ, φ, c, hh, ds, c', hS, hH, g2, ea, k⟩
      | _ => cases ea
    | _ => simp [chkT] at h
theorem g_tgs (hcm : X.calm = true) : ∀ {ts : Tgs} {es : List Expr}, chkTs N sc ts es = true → PGs X es (tGs R ts)
  | .nil, [], _ => pgs_imp pgs_nil fun vs σ H Q ⟨ρ, φ, c, hh, ds, c', hS, hH, r, ea, k⟩ => by
    cases ds with
    | nil =>
      simp only [asgTs, Option.some.injEq] at ea
      subst ea
      simp only [RDs] at r
      exact ⟨r, k σ hS Same.refl⟩
    | cons _ _ => simp [asgTs] at ea
  | .nil, _ :: _, h => by simp [chkTs] at h
  | .cons _ _, [], h => by simp [chkTs] at h
  | .cons t ts, e :: es, h => by
    simp only [chkTs, Bool.and_eq_true] at h
    refine pgs_imp (pgs_cons (g_tg hcm h.1) (g_tgs hcm h.2) (by rw [chkT_plain h.1]; rfl)) fun vs σ H Q ⟨ρ, φ, c, hh, ds, c', hS, hH, r, ea, k⟩ => ?_
    cases ds with
    | nil => simp [asgTs] at ea
    | cons d ds =>
      simp only [RDs] at r
      obtain ⟨v, vs', rfl, r1, r2⟩ := r
      simp only [asgTs] at ea
      cases q : asgT t d c with
      | none => simp [q] at ea
      | some c1 =>
        simp only [q] at ea
        exact ⟨v, vs', rfl, ρ, φ, c, hh, d, c1, hS, hH, r1, q, fun σ1 hS1 s1 => ⟨ρ, φ, c1, hh, ds, c', hS1, hH, r2, ea, fun σ2 hS2 s2 => k σ2 hS2 (s1.trans s2)⟩⟩
end
end
end Cl

namespace Cl
open PySem PySem.Spec PyProof.Rows L2
section
variable {R : RC} {ρ φ : List Addr} {H : Hp} {h : Hc} {c : CSt} {σ : L2.St}
/-! ### writing at what is held back -/
theorem Mv.held {p : Addr} {o : HO} (hp : p ∈ φ) (ok : D → Bool) : Mv R ρ φ H ρ φ (upd H p o) ok :=
  ⟨fun a xs ⟨r, k, m⟩ => ⟨by rw [upd_ne (show a ≠ p from fun z => m (by rw [z]; exact hp))]; exact r, k, m⟩, fun a xs ⟨r, k, m⟩ => ⟨by rw [upd_ne (show a ≠ p from fun z => m (by rw [z]; exact hp))]; exact r, k, m⟩, fun _ _ _ q => q⟩
theorem RelH.held (r : RelH R ρ φ H h) {p : Addr} {o : HO} (hp : p ∈ φ) : RelH R ρ φ (upd H p o) h := by
  have pn := (r.phi p hp).2
  refine ⟨r.len, r.nd, fun i a c ea ec => ?_, fun a ha => ⟨?_, (r.phi a ha).2⟩, fun q hq => ⟨(r.gt q hq).1, RD.mv (Mv.held hp _) (r.gt q hq).2.low (r.gt q hq).2⟩⟩
  · have ne : a ≠ p := fun z => pn (z ▸ List.mem_of_getElem? ea)
    have rc := r.cells i a c ea ec
    exact rc.mv (Mv.held hp _) rc.low (upd_ne ne)
  · by_cases z : a = p
    · subst z; exact ⟨o, upd_same⟩
    · obtain ⟨u, e⟩ := (r.phi a ha).1
      exact ⟨u, by rw [upd_ne z]; exact e⟩
theorem Ext.writeNew {p : Addr} {o : HO} {ρ0 : List Addr} {H0 : Hp} (e : Ext ρ0 ρ H0 H) (hp : H0 p = Option.none) : Ext ρ0 ρ H0 (upd H p o) :=
  ⟨e.pre, e.new, fun a u q m => by rw [upd_ne (ne_of_none q hp)]; exact e.keep a u q m, fun a u q => by
    obtain ⟨u', q'⟩ := e.there a u q
    exact ⟨u', by rw [upd_ne (ne_of_none q hp)]; exact q'⟩⟩
theorem RelS.later {ρ' φ' : List Addr} {H' : Hp} (r : RelS R ρ φ H c σ) (l : Later ρ φ H ρ' φ' H') : RelS R ρ' φ' H' c σ :=
  ⟨r.len, fun i d q => by obtain ⟨v, h1, h2⟩ := r.at_ i d q; exact ⟨v, h1, h2.later l⟩⟩
theorem RelS.wipe (r : RelS R ρ φ H c σ) : ∀ vs : List Nat, RelS R ρ φ H (cwipe c vs) (wipe σ vs)
  | [] => r
  | v :: vs => by
    have ih := RelS.wipe r vs
    refine ⟨by simp [cwipe, L2.wipe, ih.len], fun i d q => ?_⟩
    by_cases hi : i = v
    · subst hi
      simp only [cwipe] at q
      have hlt := get_lt q
      simp at hlt
      rw [List.getElem?_set_self hlt] at q
      cases q
    · simp only [cwipe] at q
      rw [List.getElem?_set_ne (Ne.symm hi)] at q
      obtain ⟨w, w1, w2⟩ := ih.at_ i d q
      refine ⟨w, ?_, w2⟩
      simp only [L2.wipe]
      rw [List.getElem?_set_ne (Ne.symm hi)]
      exact w1
end
theorem wipe_in {σ : L2.St} {i : Nat} : ∀ {vs : List Nat}, i ∈ vs → i < σ.length → (wipe σ vs)[i]? = some none
  | [], h, _ => by simp at h
  | v :: vs, h, hl => by
    unfold wipe
    by_cases hi : v = i
    · subst hi
      exact List.getElem?_set_self (by rw [wipe_length]; exact hl)
    · rw [List.getElem?_set_ne hi]
      exact wipe_in ((List.mem_cons.mp h).resolve_left fun z => hi z.symm) hl
theorem wipe_same {σ σ' : L2.St} {vs is : List Nat} (hi : ∀ i ∈ is, i ∈ vs) (s : Same is (wipe σ vs) σ') : wipe σ' vs = wipe σ vs := by
  have hl : σ'.length = σ.length := by rw [s.1, wipe_length]
  refine List.ext_getElem? fun j => ?_
  by_cases hj : j ∈ vs
  · by_cases hlt : j < σ.length
    · rw [wipe_in hj hlt, wipe_in hj (by rw [hl]; exact hlt)]
    · rw [List.getElem?_eq_none (by rw [wipe_length, hl]; omega), List.getElem?_eq_none (by rw [wipe_length]; omega)]
  · have e1 : (wipe σ' vs)[j]? = σ'[j]? := wipe_out hj
    rw [e1, s.2 j fun z => hj (hi j z)]
mutual
theorem tgIn_ix {vs : List Nat} : ∀ {t : Tg}, tgIn vs t = true → ∀ i ∈ tgIx t, i ∈ vs
  | .v i, h, j, hj => by
    simp only [tgIn, decide_eq_true_eq] at h
    simp only [tgIx, List.mem_singleton] at hj
    subst hj; exact h
  | .t ts, h, j, hj => tgsIn_ix (by simpa only [tgIn] using h) j (by simpa only [tgIx] using hj)
theorem tgsIn_ix {vs : List Nat} : ∀ {ts : Tgs}, tgsIn vs ts = true → ∀ i ∈ tgsIx ts, i ∈ vs
  | .nil, _, j, hj => by simp [tgsIx] at hj
  | .cons t ts, h, j, hj => by
    simp only [tgsIn, Bool.and_eq_true] at h
    simp only [tgsIx, List.mem_append] at hj
    exact hj.elim (tgIn_ix h.1 j) (tgsIn_ix h.2 j)
end
abbrev W0 : WX := fun _ _ _ _ => False
section
variable {S : Sg} {R : RC} {C : Caller} {Y : XC} {n : Nat} {N : List Str} {cm : Bool} {sc : Scope} {X : Cx} {W : WX}
theorem pts_imp {ifs : List Expr} {t u : TT} (h : PTs X ifs t) (k : ∀ σ H Q, u σ H Q → t σ H Q) : PTs X ifs u := ⟨fun pins s σ H Q I q => h.run pins s σ H Q I (k σ H Q q)⟩
theorem ts_nil {f : EvF} : PTs X [] (tT R Y W (condR true f)) := pts_imp pts_nil fun σ H Q ⟨ρ, φ, c, h, hS, hH, k⟩ => k ρ true H Ext.refl hH rfl
theorem ts_one {f : EvF} {e : Expr} (h : PT X e (tT R Y W f)) : PTs X [e] (tT R Y W (condR false f)) := pts_imp (pts_one h) fun σ H Q q => q
theorem lc_read {fi : CSt → Hc → ERes Itd} {fe fc : EvF} {t : Tg} {own : List Nat} (ho : tgIn own t = true) {σ : L2.St} {H : Hp} {Q : VK}
    (q : tL R Y W (fun c h => (fi c h).bind fun d h => if d.xs.length ≤ line then lmap [] (compF fe fc t d.g (cwipe c own) d.xs h) else .stuck) σ H Q) : tLc (tI R Y W fi) (tG R t) (tT R Y W0 fc) (tE R Y W0 fe) own σ H Q := by
  obtain ⟨ρ, φ, c, h, hS, hH, f, _⟩ := q
  refine ⟨ρ, φ, c, h, hS, hH, f.bind fun d h1 ρ1 J H1 _ e1 hH1 jk f1 => ?_⟩
  by_cases hz : d.xs.length ≤ line
  · rw [if_pos hz] at f1
    intro Da hD
    have hS1 := hS.ext e1
    refine ⟨fun i m H2 => ∃ ρ2 h2 ws ys, m = d.xs.length - i ∧ i ≤ d.xs.length ∧ ws.length ≤ i ∧ Ext ρ1 ρ2 H1 H2 ∧ RelH R ρ2 (Da :: φ) H2 h2 ∧ H2 Da = some (.lst ws) ∧ RDs R ρ2 (Da :: φ) H2 ys ws ∧
      FinL R Y W σ ρ1 φ H1 (lmap ys (compF fe fc t d.g (cwipe c own) (d.xs.drop i) h2)) Q, ⟨d.xs.length, ρ1, h1, [], [], rfl, Nat.zero_le _, Nat.le_refl _, Ext.fresh hD, hH1.fresh hD, upd_same, by simp only [RDs], by simpa using f1⟩, ?_⟩
    rintro i m H2 ⟨ρ2, h2, ws, ys, rfl, hi, hw, e2, hH2, eD, rs, k⟩
    have la : Later ρ1 φ H1 ρ2 (Da :: φ) H2 := ⟨e2, fun a ha => (List.mem_cons.mp ha).elim (fun z => .inr (z ▸ hD)) .inl⟩
    have hg : gOk d.g h2 = true := by
      cases hd : d.xs.drop i with
      | nil =>
        rw [hd] at k
        unfold compF at k
        split at k
        · assumption
        · exact k.elim
      | cons x xs =>
        rw [hd] at k
        unfold compF at k
        split at k
        · assumption
        · exact k.elim
    by_cases hlt : i < d.xs.length
    · right
      rw [List.drop_eq_getElem_cons hlt] at k
      unfold compF at k
      rw [if_pos hg] at k
      obtain ⟨go, yl⟩ := jk.go i ρ2 (Da :: φ) H2 h2 la hH2 hg _ (List.getElem?_eq_getElem hlt)
      refine ⟨go, _, fun H' p' => ⟨d.xs.length - (i + 1), by omega, p'⟩, fun x H3 y => ?_⟩
      obtain ⟨e3, l3, hH3, rx⟩ := yl x H3 y
      cases ea : asgT t d.xs[i] (cwipe c own) with
      | none => simp only [ea] at k; exact k.elim
      | some c1 =>
        simp only [ea] at k
        have eD3 : H3 Da = some (.lst ws) := e3.keep Da _ eD (hH2.phi Da (by simp)).2
        have e13 := e2.trans e3
        have rs3 := rs.ext e3
        refine ⟨ρ2, Da :: φ, cwipe c own, h2, _, c1, (hS1.later (la.trans l3)).wipe own, hH3, rx, ea, fun σ2 hS2 sm => ⟨wipe_same (tgIn_ix ho) sm, ρ2, Da :: φ, c1, h2, hS2, hH3, ?_⟩⟩
        cases eb : boolR (fc c1 h2) with
        | stuck => simp only [eb] at k; exact k.elim
        | exc x h' => simp only [eb] at k; exact k.elim
        | ok b h3 =>
          simp only [eb] at k
          intro ρ4 b' H4 e4 hH4 hb
          subst hb
          have eD4 : H4 Da = some (.lst ws) := e4.keep Da _ eD3 (hH3.phi Da (by simp)).2
          cases b with
          | false =>
            rw [if_neg Bool.false_ne_true]
            exact ⟨ρ4, h3, ws, ys, rfl, hlt, by omega, e13.trans e4, hH4, eD4, rs3.ext e4, k⟩
          | true =>
            rw [if_pos rfl]
            refine ⟨ρ4, Da :: φ, c1, h3, hS2.ext e4, hH4, ?_⟩
            cases ev : fe c1 h3 with
            | stuck => simp only [ev] at k; exact k.elim
            | exc x h' => simp only [ev] at k; exact k.elim
            | ok z h4 =>
              simp only [ev] at k
              intro ρ5 v H5 e5 hH5 rv
              have eD5 : H5 Da = some (.lst ws) := e5.keep Da _ eD4 (hH4.phi Da (by simp)).2
              have inn : Da ∈ (Da :: φ) := by simp
              have rs5 := ((rs3.ext e4).ext e5).append (RDs.one rv)
              refine ⟨ws, eD5, by rw [← line_eq]; omega, ρ5, h4, ws ++ [v], ys ++ [z], rfl, hlt, by rw [List.length_append, List.length_singleton]; omega, ((e13.trans e4).trans e5).writeNew hD, hH5.held inn, upd_same, RDs.mv (Mv.held inn _) rs5.low rs5, ?_⟩
              cases er : compF fe fc t d.g (cwipe c own) (d.xs.drop (i + 1)) h4 with
              | ok zs h5 =>
                rw [er] at k
                show FinL R Y W σ ρ1 φ H1 (.ok (.lst (ys ++ [z] ++ zs)) h5) Q
                rw [List.append_assoc]
                exact k
              | exc x h' => rw [er] at k; exact k.elim
              | stuck => rw [er] at k; exact k.elim
    · left
      have hie : i = d.xs.length := by omega
      subst hie
      refine ⟨jk.stop ρ2 (Da :: φ) H2 h2 la hH2 hg, ?_⟩
      rw [List.drop_length] at k
      unfold compF at k
      rw [if_pos hg] at k
      have k' : FinL R Y W σ ρ1 φ H1 (.ok (.lst (ys ++ [])) h2) Q := k
      rw [List.append_nil] at k'
      exact k' ρ2 Da ws H2 e2 hH2 hD (hH1.free hD) eD rs
  · rw [if_neg hz] at f1
    exact f1.elim
theorem Gd.blk (G : Gd S R C Y n N cm sc X W) {scope : Scope} (s : Shared) (H : Hp) (Ca : Addr) (cl : List (Str × Addr)) (fp : List Addr) : Gd S R C Y n N cm scope (X.blk s H scope (compEnvC scope cl Ca X.env) fp) W0 :=
  ⟨G.hK, G.hN, G.nd, Sees.comp, fun x hx => by show (scope.names.lookup x == some .cell) = true; rw [hx]; rfl, G.calm, takes0, G.hu, G.glob, G.blt, G.room, G.calls⟩
theorem l_comp (G : Gd S R C Y n N cm sc X W) {elt cond : CE} {t : Tg} {it : CI} {own : List (Str × Nat)} {ee tg iter : Expr} {ifs : List Expr} {scope : Scope} {pos : Pos} (hcm : cm = true) (hi : PI X tg iter (tI R Y W (evI C it))) (hb : blkC N sc scope own = true) (ho : tgIn (own.map (·.2)) t = true) (hns : notSet iter = true)
    (hg : chkT N scope t tg = true)
    (ht : ∀ (s : Shared) (H : Hp) (Ca : Addr) (cl : List (Str × Addr)) (fp : List Addr), PTs (X.blk s H scope (compEnvC scope cl Ca X.env) fp) ifs (tT R Y W0 (condR cond.isAbs (evE C cond))))
    (he : ∀ (s : Shared) (H : Hp) (Ca : Addr) (cl : List (Str × Addr)) (fp : List Addr), PE (X.blk s H scope (compEnvC scope cl Ca X.env) fp) ee (tE R Y W0 (evE C elt))) :
    PE X (.ListComp ee [⟨tg, iter, ifs, 0⟩] scope pos) (tL R Y W (evE C (.comp elt t it cond (own.map (·.2))))) := by
  have b0 := blkOk_by hb
  have ok : BlkOk X.N X.env.scope scope own := ⟨b0.kind, b0.uniq, by rw [G.hN]; exact b0.ix, fun y hy e => by
    rcases b0.free y hy e with q | q
    · exact .inl (G.sees.cell _ q)
    · exact G.sees.free _ q, by rw [G.hN]; exact b0.own⟩
  refine pe_imp (pe_lc (G.calm hcm) (by rw [G.hN]; exact G.nd) hi ok (fun s H Ca cl fp => g_tg (G.blk s H Ca cl fp) (G.calm hcm) hg) ht he (notset_fold hns)) fun σ H Q q => lc_read ho ?_
  have : (fun c h => (evI C it c h).bind fun d h => if d.xs.length ≤ line then lmap [] (compF (evE C elt) (condR cond.isAbs (evE C cond)) t d.g (cwipe c (own.map (·.2))) d.xs h) else .stuck) = evE C (.comp elt t it cond (own.map (·.2))) := by
    funext c h
    simp only [evE]
  rw [this]
  exact q
end
end Cl

namespace Cl
open PySem PySem.Spec PyProof.Rows L2
/-! ### all expressions -/
def plainT : Expr → Bool
  | .UnaryOp .Not _ _ => false
  | .BoolOp _ _ _ => false
  | .IfExp _ _ _ _ => false
  | .Compare _ _ _ _ => false
  | _ => true
theorem plainT_of {e : Expr} (h : plainT e = true) (env : PySem.Env) (whole : Sem Value) : isTrue e env whole = (do let v ← whole; standAt e.pos; holding [v] (truthy v)) := by
  cases e with
  | UnaryOp op x p => cases op <;> first | rfl | exact Bool.noConfusion (show false = true from h)
  | _ => first | rfl | exact Bool.noConfusion (show false = true from h)
def isTst : CE → Bool
  | .not_ _ => true
  | .cmp _ _ _ => true
  | .chain _ _ _ _ _ => true
  | .and_ _ _ => true
  | .or_ _ _ => true
  | .ite _ _ _ => true
  | .cell _ => true
  | _ => false
section
variable {S : Sg} {R : RC} {C : Caller} {Y : XC} {n : Nat}
theorem chk_plain {N : List Str} {sc : Scope} {cm : Bool} : ∀ {c : CE} {e : Expr}, isTst c = false → chkE S N sc cm c e = true → plainT e = true := by
  intro c e hc h
  cases c with
  | bi b args => cases b <;> cases e <;> first | rfl | exact Bool.noConfusion (show false = true from h)
  | neg a =>
    cases e with
    | UnaryOp op x p => cases op <;> first | rfl | exact Bool.noConfusion (show false = true from h)
    | _ => first | rfl | exact Bool.noConfusion (show false = true from h)
  | _ => first
    | exact Bool.noConfusion (show true = false from hc)
    | (cases e <;> first | rfl | exact Bool.noConfusion (show false = true from h))
theorem chk_plainL {N : List Str} {sc : Scope} {cm : Bool} : ∀ {c : CE} {e : Expr}, freshC c = true → chkE S N sc cm c e = true → plainT e = true := by
  intro c e hc h
  refine chk_plain ?_ h
  cases c <;> first | rfl | exact Bool.noConfusion (show false = true from hc)
theorem chk_bool {N : List Str} {sc : Scope} {cm : Bool} {c : CE} {op : BoolOp} {es : List Expr} {p : Pos} (h : chkE S N sc cm c (.BoolOp op es p) = true) : (∃ a b, c = .and_ a b ∧ op = .And) ∨ (∃ a b, c = .or_ a b ∧ op = .Or) := by
  cases c with
  | and_ a b => cases op with
    | And => exact .inl ⟨a, b, rfl, rfl⟩
    | Or => exact Bool.noConfusion (show false = true from h)
  | or_ a b => cases op with
    | Or => exact .inr ⟨a, b, rfl, rfl⟩
    | And => exact Bool.noConfusion (show false = true from h)
  | bi b args => cases b <;> exact Bool.noConfusion (show false = true from h)
  | cell c =>
    exfalso
    have h' : (freshC c && chkE S N sc cm c (.BoolOp op es p)) = true := h
    rw [Bool.and_eq_true] at h'
    exact Bool.noConfusion (show false = true from chk_plainL h'.1 h'.2)
  | _ => exact Bool.noConfusion (show false = true from h)
structure Snd (S : Sg) (R : RC) (C : Caller) (Y : XC) (n : Nat) (c : CE) : Prop where
  e : ∀ {N cm sc X W e}, Gd S R C Y n N cm sc X W → chkE S N sc cm c e = true → PE X e (tE R Y W (evE C c))
  l : ∀ {N cm sc X W e}, Gd S R C Y n N cm sc X W → chkE S N sc cm c e = true → freshC c = true → PE X e (tL R Y W (evE C c))
  t : ∀ {N cm sc X W e}, Gd S R C Y n N cm sc X W → chkE S N sc cm c e = true → PT X e (tT R Y W (evE C c))
  w : ∀ {N cm sc X W op es p}, Gd S R C Y n N cm sc X W → chkE S N sc cm c (.BoolOp op es p) = true → PW X (.BoolOp op es p) (tT R Y W (evE C c))
theorem noW {c : CE} (hc : isTst c = false) {N : List Str} {sc : Scope} {cm : Bool} {op : BoolOp} {es : List Expr} {p : Pos} (h : chkE S N sc cm c (.BoolOp op es p) = true) : False :=
  Bool.noConfusion (show false = true from chk_plain hc h)
theorem Snd.val {c : CE} (hf : freshC c = false) (ht : isTst c = false) (he : ∀ {N cm sc X W e}, Gd S R C Y n N cm sc X W → chkE S N sc cm c e = true → PE X e (tE R Y W (evE C c))) : Snd S R C Y n c :=
  ⟨he, fun _ _ h => Bool.noConfusion (hf.symm.trans h), fun G h => t_val (he G h) (plainT_of (chk_plain ht h) _), fun G h => (noW ht h).elim⟩
theorem Snd.new {c : CE} (ht : isTst c = false) (he : ∀ {N cm sc X W e}, Gd S R C Y n N cm sc X W → chkE S N sc cm c e = true → PE X e (tE R Y W (evE C c)))
    (hl : ∀ {N cm sc X W e}, Gd S R C Y n N cm sc X W → chkE S N sc cm c e = true → freshC c = true → PE X e (tL R Y W (evE C c))) : Snd S R C Y n c :=
  ⟨he, hl, fun G h => t_val (he G h) (plainT_of (chk_plain ht h) _), fun G h => (noW ht h).elim⟩
/-- arguments -/
structure SndA (S : Sg) (R : RC) (C : Caller) (Y : XC) (n : Nat) (cs : CEs) : Prop where
  a : ∀ {N cm sc X W es}, Gd S R C Y n N cm sc X W → chkEs S N sc cm cs es = true → PA X es (tA R Y W (evEs C cs))
  z : ∀ {σ h ds h'}, evEs C cs σ h = .ok ds h' → ∀ {N : List Str} {cm : Bool} {sc : Scope} {es : List Expr}, chkEs S N sc cm cs es = true → ds.length = es.length
structure SndI (S : Sg) (R : RC) (C : Caller) (Y : XC) (n : Nat) (it : CI) : Prop where
  i : ∀ {N cm sc X W tg e}, Gd S R C Y n N cm sc X W → chkI S N sc cm it tg e = true → PI X tg e (tI R Y W (evI C it))
theorem chk_len {N : List Str} {cm : Bool} {sc : Scope} : ∀ {cs : CEs} {es : List Expr}, chkEs S N sc cm cs es = true → ∀ {σ h ds h'}, evEs C cs σ h = .ok ds h' → ds.length = es.length
  | .nil, [], _, σ, h, ds, h', e => by simp only [evEs, ERes.ok.injEq] at e; rw [← e.1]; rfl
  | .nil, _ :: _, q, _, _, _, _, _ => by simp [chkEs] at q
  | .cons _ _, [], q, _, _, _, _, _ => by simp [chkEs] at q
  | .cons c cs, x :: es, q, σ, h, ds, h', e => by
    simp only [chkEs, Bool.and_eq_true] at q
    simp only [evEs] at e
    cases e1 : evE C c σ h with
    | stuck => rw [e1] at e; cases e
    | exc y k => rw [e1] at e; cases e
    | ok d h1 =>
      rw [e1] at e
      cases e2 : evEs C cs σ h1 with
      | stuck => simp only [ERes.bind, e2] at e; cases e
      | exc y k => simp only [ERes.bind, e2] at e; cases e
      | ok ds2 h2 =>
        simp only [ERes.bind, e2, ERes.ok.injEq] at e
        rw [← e.1, List.length_cons, List.length_cons, chk_len q.2 e2]
/-! the constructors -/
theorem snd_var {i : Nat} : Snd S R C Y n (.var i) := .val rfl rfl fun {N cm sc X W e} G h => by
  cases e with
  | Name x p => exact c_var G h
  | _ => exact Bool.noConfusion (show false = true from h)
theorem snd_cst {d : D} : Snd S R C Y n (.cst d) := .val rfl rfl fun {N cm sc X W e} G h => by
  cases e with
  | Constant c k p => exact c_cst h
  | _ => exact Bool.noConfusion (show false = true from h)
theorem snd_glob {x : Str} {d : D} : Snd S R C Y n (.glob x d) := .val rfl rfl fun {N cm sc X W e} G h => by
  cases e with
  | Name y p =>
    simp only [chkE, Bool.and_eq_true, decide_eq_true_eq] at h
    exact c_glob G h.1.2 h.2
  | _ => exact Bool.noConfusion (show false = true from h)
theorem snd_bin {op : Operator} {a b : CE} (ha : Snd S R C Y n a) (hb : Snd S R C Y n b) : Snd S R C Y n (.bin op a b) := .new rfl (fun {N cm sc X W e} G h => by
  cases e with
  | BinOp l o r p =>
    simp only [chkE, Bool.and_eq_true, decide_eq_true_eq] at h
    obtain ⟨⟨rfl, h1⟩, h2⟩ := h
    exact c_bin G (ha.e G h1) (hb.e G h2)
  | _ => exact Bool.noConfusion (show false = true from h)) fun {N cm sc X W e} G h hf => by
  cases e with
  | BinOp l o r p =>
    simp only [chkE, Bool.and_eq_true, decide_eq_true_eq] at h
    obtain ⟨⟨rfl, h1⟩, h2⟩ := h
    refine l_bin ?_ (ha.e G h1) (hb.e G h2)
    cases op <;> first | exact .inl rfl | exact .inr rfl | exact Bool.noConfusion (show false = true from hf)
  | _ => exact Bool.noConfusion (show false = true from h)
theorem snd_neg {a : CE} (ha : Snd S R C Y n a) : Snd S R C Y n (.neg a) := .val rfl rfl fun {N cm sc X W e} G h => by
  cases e with
  | UnaryOp op x p => cases op with
    | USub => exact c_neg (ha.e G h)
    | _ => exact Bool.noConfusion (show false = true from h)
  | _ => exact Bool.noConfusion (show false = true from h)
theorem snd_not {a : CE} (ha : Snd S R C Y n a) : Snd S R C Y n (.not_ a) := ⟨fun {N cm sc X W e} G h => by
  cases e with
  | UnaryOp op x p => cases op with
    | Not => exact c_not (ha.e G h)
    | _ => exact Bool.noConfusion (show false = true from h)
  | _ => exact Bool.noConfusion (show false = true from h), fun _ _ h => Bool.noConfusion (show false = true from h), fun {N cm sc X W e} G h => by
  cases e with
  | UnaryOp op x p => cases op with
    | Not => exact t_not (ha.t G h)
    | _ => exact Bool.noConfusion (show false = true from h)
  | _ => exact Bool.noConfusion (show false = true from h), fun _ h => Bool.noConfusion (show false = true from h)⟩
theorem snd_cmp {op : CmpOp} {a b : CE} (ha : Snd S R C Y n a) (hb : Snd S R C Y n b) : Snd S R C Y n (.cmp op a b) := by
  have key : ∀ {N : List Str} {cm : Bool} {sc : Scope} {e : Expr}, chkE S N sc cm (.cmp op a b) e = true → ∃ l r p, e = .Compare l [op] [r] p ∧ notSet r = true ∧ chkE S N sc cm a l = true ∧ chkE S N sc cm b r = true := by
    intro N cm sc e h
    cases e with
    | Compare l ops rs p =>
      rcases ops with _ | ⟨o, _ | ⟨o2, ops⟩⟩
      · exact Bool.noConfusion (show false = true from h)
      · rcases rs with _ | ⟨r, _ | ⟨r2, rs⟩⟩
        · exact Bool.noConfusion (show false = true from h)
        · simp only [chkE, Bool.and_eq_true, decide_eq_true_eq] at h
          obtain ⟨⟨⟨rfl, h1⟩, h2⟩, h3⟩ := h
          exact ⟨l, r, p, rfl, h1, h2, h3⟩
        · exact Bool.noConfusion (show false = true from h)
      · exact Bool.noConfusion (show false = true from h)
    | _ => exact Bool.noConfusion (show false = true from h)
  exact ⟨fun G h => by obtain ⟨l, r, p, rfl, h1, h2, h3⟩ := key h; exact c_cmp G h1 (ha.e G h2) (hb.e G h3), fun _ _ h => Bool.noConfusion (show false = true from h),
    fun G h => by obtain ⟨l, r, p, rfl, h1, h2, h3⟩ := key h; exact t_cmp G h1 (ha.e G h2) (hb.e G h3), fun _ h => Bool.noConfusion (show false = true from h)⟩
theorem snd_chain {op op' : CmpOp} {a b c : CE} (ha : Snd S R C Y n a) (hb : Snd S R C Y n b) (hc : Snd S R C Y n c) : Snd S R C Y n (.chain op op' a b c) := by
  have key : ∀ {N : List Str} {cm : Bool} {sc : Scope} {e : Expr}, chkE S N sc cm (.chain op op' a b c) e = true → ∃ l r q p, e = .Compare l [op, op'] [r, q] p ∧ notSet q = true ∧ chkE S N sc cm a l = true ∧ chkE S N sc cm b r = true ∧ chkE S N sc cm c q = true := by
    intro N cm sc e h
    cases e with
    | Compare l ops rs p =>
      rcases ops with _ | ⟨o, _ | ⟨o2, _ | ⟨o3, ops⟩⟩⟩
      · exact Bool.noConfusion (show false = true from h)
      · exact Bool.noConfusion (show false = true from h)
      · rcases rs with _ | ⟨r, _ | ⟨r2, _ | ⟨r3, rs⟩⟩⟩
        · exact Bool.noConfusion (show false = true from h)
        · exact Bool.noConfusion (show false = true from h)
        · simp only [chkE, Bool.and_eq_true, decide_eq_true_eq] at h
          obtain ⟨⟨⟨⟨⟨rfl, rfl⟩, h1⟩, h2⟩, h3⟩, h4⟩ := h
          exact ⟨l, r, r2, p, rfl, h1, h2, h3, h4⟩
        · exact Bool.noConfusion (show false = true from h)
      · exact Bool.noConfusion (show false = true from h)
    | _ => exact Bool.noConfusion (show false = true from h)
  exact ⟨fun G h => by obtain ⟨l, r, q, p, rfl, h1, h2, h3, h4⟩ := key h; exact c_chain G h1 (ha.e G h2) (hb.e G h3) (hc.e G h4), fun _ _ h => Bool.noConfusion (show false = true from h),
    fun G h => by obtain ⟨l, r, q, p, rfl, h1, h2, h3, h4⟩ := key h; exact t_chain G h1 (ha.e G h2) (hb.e G h3) (hc.e G h4), fun _ h => Bool.noConfusion (show false = true from h)⟩
theorem snd_and {a b : CE} (ha : Snd S R C Y n a) (hb : Snd S R C Y n b) : Snd S R C Y n (.and_ a b) := by
  have key : ∀ {N : List Str} {cm : Bool} {sc : Scope} {e : Expr}, chkE S N sc cm (.and_ a b) e = true → ∃ x y r p, e = .BoolOp .And (x :: y :: r) p ∧ chkE S N sc cm a x = true ∧ ((r = [] ∧ chkE S N sc cm b y = true) ∨ chkE S N sc cm b (.BoolOp .And (y :: r) p) = true) := by
    intro N cm sc e h
    cases e with
    | BoolOp op es p =>
      cases op with
      | And =>
        rcases es with _ | ⟨x, _ | ⟨y, _ | ⟨z, r⟩⟩⟩
        · exact Bool.noConfusion (show false = true from h)
        · exact Bool.noConfusion (show false = true from h)
        · simp only [chkE, Bool.and_eq_true] at h
          exact ⟨x, y, [], p, rfl, h.1, .inl ⟨rfl, h.2⟩⟩
        · simp only [chkE, Bool.and_eq_true] at h
          exact ⟨x, y, z :: r, p, rfl, h.1, .inr h.2⟩
      | Or => exact Bool.noConfusion (show false = true from h)
    | _ => exact Bool.noConfusion (show false = true from h)
  have w : ∀ {N cm sc X W e}, Gd S R C Y n N cm sc X W → chkE S N sc cm (.and_ a b) e = true → PW X e (tT R Y W (evE C (.and_ a b))) := fun G h => by
    obtain ⟨x, y, r, p, rfl, h1, h2⟩ := key h
    rcases h2 with ⟨rfl, h2⟩ | h2
    · exact t_and (ha.t G h1) (pw_and1 (hb.t G h2))
    · exact t_and (ha.t G h1) (hb.w G h2)
  refine ⟨fun G h => ?_, fun _ _ h => Bool.noConfusion (show false = true from h), fun G h => (w G h).pt, fun G h => w G h⟩
  obtain ⟨x, y, r, p, rfl, h1, h2⟩ := key h
  rcases h2 with ⟨rfl, h2⟩ | h2
  · exact c_and (ha.e G h1) (pe_one (hb.e G h2))
  · exact c_and (ha.e G h1) (hb.e G h2)
theorem snd_or {a b : CE} (ha : Snd S R C Y n a) (hb : Snd S R C Y n b) : Snd S R C Y n (.or_ a b) := by
  have key : ∀ {N : List Str} {cm : Bool} {sc : Scope} {e : Expr}, chkE S N sc cm (.or_ a b) e = true → ∃ x y r p, e = .BoolOp .Or (x :: y :: r) p ∧ chkE S N sc cm a x = true ∧ ((r = [] ∧ chkE S N sc cm b y = true) ∨ chkE S N sc cm b (.BoolOp .Or (y :: r) p) = true) := by
    intro N cm sc e h
    cases e with
    | BoolOp op es p =>
      cases op with
      | Or =>
        rcases es with _ | ⟨x, _ | ⟨y, _ | ⟨z, r⟩⟩⟩
        · exact Bool.noConfusion (show false = true from h)
        · exact Bool.noConfusion (show false = true from h)
        · simp only [chkE, Bool.and_eq_true] at h
          exact ⟨x, y, [], p, rfl, h.1, .inl ⟨rfl, h.2⟩⟩
        · simp only [chkE, Bool.and_eq_true] at h
          exact ⟨x, y, z :: r, p, rfl, h.1, .inr h.2⟩
      | And => exact Bool.noConfusion (show false = true from h)
    | _ => exact Bool.noConfusion (show false = true from h)
  have w : ∀ {N cm sc X W e}, Gd S R C Y n N cm sc X W → chkE S N sc cm (.or_ a b) e = true → PW X e (tT R Y W (evE C (.or_ a b))) := fun G h => by
    obtain ⟨x, y, r, p, rfl, h1, h2⟩ := key h
    rcases h2 with ⟨rfl, h2⟩ | h2
    · exact t_or (ha.t G h1) (pw_or1 (hb.t G h2))
    · exact t_or (ha.t G h1) (hb.w G h2)
  refine ⟨fun G h => ?_, fun _ _ h => Bool.noConfusion (show false = true from h), fun G h => (w G h).pt, fun G h => w G h⟩
  obtain ⟨x, y, r, p, rfl, h1, h2⟩ := key h
  rcases h2 with ⟨rfl, h2⟩ | h2
  · exact c_or (ha.e G h1) (pe_one (hb.e G h2))
  · exact c_or (ha.e G h1) (hb.e G h2)
theorem snd_ite {t a b : CE} (ht : Snd S R C Y n t) (ha : Snd S R C Y n a) (hb : Snd S R C Y n b) : Snd S R C Y n (.ite t a b) := ⟨fun {N cm sc X W e} G h => by
  cases e with
  | IfExp x y z p =>
    simp only [chkE, Bool.and_eq_true] at h
    exact c_ite (ht.t G h.1.1) (ha.e G h.1.2) (hb.e G h.2)
  | _ => exact Bool.noConfusion (show false = true from h), fun _ _ h => Bool.noConfusion (show false = true from h), fun {N cm sc X W e} G h => by
  cases e with
  | IfExp x y z p =>
    simp only [chkE, Bool.and_eq_true] at h
    exact t_ite (ht.t G h.1.1) (ha.t G h.1.2) (hb.t G h.2)
  | _ => exact Bool.noConfusion (show false = true from h), fun _ h => Bool.noConfusion (show false = true from h)⟩
theorem snd_call {f : Nat} {args : CEs} (ha : SndA S R C Y n args) : Snd S R C Y n (.call f args) := .val rfl rfl fun {N cm sc X W e} G h => by
  cases e with
  | Call fn es kw p => cases fn with
    | Name x p2 => cases kw with
      | nil =>
        simp only [chkE, Bool.and_eq_true, decide_eq_true_eq] at h
        obtain ⟨⟨⟨h1, h2⟩, h3⟩, h4⟩ := h
        cases es with
        | nil =>
          cases args with
          | nil => exact c_call0 G h1 h2 h3
          | cons _ _ => simp [chkEs] at h4
        | cons y es =>
          have pl := chks_plain h4 p X.env
          cases args with
          | nil => simp [chkEs] at h4
          | cons c cs =>
            have q := h4
            simp only [chkEs, Bool.and_eq_true] at q
            exact c_call G h1 h2 h3 (ha.a G h4) (chk_ns q.1 es X.env) (chks_plain q.2 p X.env)
      | cons _ _ => exact Bool.noConfusion (show false = true from h)
    | _ => exact Bool.noConfusion (show false = true from h)
  | _ => exact Bool.noConfusion (show false = true from h)
end
end Cl

namespace Cl
open PySem PySem.Spec PyProof.Rows L2
section
variable {S : Sg} {R : RC} {C : Caller} {Y : XC} {n : Nat}
theorem snd_bi {b : Bi} {args : CEs} (ha : SndA S R C Y n args) : Snd S R C Y n (.bi b args) := by
  have one : ∀ {N : List Str} {cm : Bool} {sc : Scope} {e : Expr}, b ≠ .lenset → chkE S N sc cm (.bi b args) e = true → ∃ p a es q c cs, e = .Call (.Name (biName b) p) (a :: es) [] q ∧ cm = true ∧ b ≠ .sortedR ∧ isGlB sc (biName b) = true ∧ chkEs S N sc cm args (a :: es) = true ∧ args = .cons c cs := by
    intro N cm sc e hb h
    have go : (∃ x p a es q, e = .Call (.Name x p) (a :: es) [] q ∧ (cm && decide (x = biName b) && decide (b ≠ .sortedR) && isGlB sc x && chkEs S N sc cm args (a :: es)) = true) := by
      cases b <;> first
        | exact absurd rfl hb
        | (unfold chkE at h
           split at h
           · exact ⟨_, _, _, _, _, rfl, h⟩
           · cases h)
    obtain ⟨x, p, a, es, q, rfl, h'⟩ := go
    simp only [Bool.and_eq_true, decide_eq_true_eq] at h'
    obtain ⟨⟨⟨⟨h1, rfl⟩, h3⟩, h4⟩, h5⟩ := h'
    cases args with
    | nil => simp [chkEs] at h5
    | cons c cs => exact ⟨p, a, es, q, c, cs, rfl, h1, h3, h4, h5, rfl⟩
  refine .new rfl (fun {N cm sc X W e} G h => ?_) fun {N cm sc X W e} G h hf => ?_
  · by_cases hb : b = .lenset
    · subst hb
      unfold chkE at h
      split at h
      · simp only [Bool.and_eq_true, decide_eq_true_eq] at h
        obtain ⟨⟨⟨⟨⟨h1, rfl⟩, rfl⟩, h3⟩, h4⟩, h5⟩ := h
        cases args with
        | nil => simp [chkEs] at h5
        | cons c cs =>
          have q := h5
          simp only [chkEs, Bool.and_eq_true] at q
          exact c_lenset G h1 h3 h4 (ha.a G h5) (chk_ns q.1 [] X.env)
      · cases h
    · obtain ⟨p, a, es, q, c, cs, rfl, h1, h3, h4, h5, rfl⟩ := one hb h
      have z := h5
      simp only [chkEs, Bool.and_eq_true] at z
      exact c_bi G h1 h3 hb h4 (ha.a G h5) (chk_ns z.1 es X.env) (chks_plain z.2 q X.env)
  · have hb : b ≠ .lenset := fun z => by subst z; exact Bool.noConfusion (show false = true from hf)
    obtain ⟨p, a, es, q, c, cs, rfl, h1, h3, h4, h5, rfl⟩ := one hb h
    have z := h5
    simp only [chkEs, Bool.and_eq_true] at z
    cases b with
    | list => exact l_list G h4 (ha.a G h5) (chk_ns z.1 es X.env) (chks_plain z.2 q X.env)
    | sorted => exact l_sorted G h4 (ha.a G h5) (chk_ns z.1 es X.env) (chks_plain z.2 q X.env)
    | _ => exact Bool.noConfusion (show false = true from hf)
theorem snd_isin {a : CE} {ts : List Ty} (ha : Snd S R C Y n a) : Snd S R C Y n (.isin a ts) := .val rfl rfl fun {N cm sc X W e} G h => by
  unfold chkE at h
  split at h
  · simp only [Bool.and_eq_true, decide_eq_true_eq] at h
    obtain ⟨⟨⟨⟨⟨h1, rfl⟩, h3⟩, h4⟩, h5⟩, h6⟩ := h
    exact c_isinT G h1 h3 h4 h6 (ha.e G h5) (chk_ns h5 _ X.env)
  · simp only [Bool.and_eq_true, decide_eq_true_eq] at h
    obtain ⟨⟨⟨⟨h1, rfl⟩, h3⟩, h5⟩, h6⟩ := h
    rename_i l t q _
    rcases ts with _ | ⟨t0, _ | ⟨u, ts⟩⟩
    · simp [chkTys] at h6
    · simp only [chkTys, Bool.and_true] at h6
      cases t with
      | Name y p2 =>
        simp only [chkTy, Bool.and_eq_true, decide_eq_true_eq] at h6
        obtain ⟨rfl, h7⟩ := h6
        exact c_isin1 G h1 h3 h7 (ha.e G h5) (chk_ns h5 _ X.env)
      | _ => simp [chkTy] at h6
    · simp [chkTys] at h6
  · cases h
theorem snd_callv {fe : CE} {fs : List Nat} {args : CEs} (hf : Snd S R C Y n fe) (ha : SndA S R C Y n args) : Snd S R C Y n (.callv fe fs args) := .val rfl rfl fun {N cm sc X W e} G h => by
  have fok : ∀ {b : Bool}, fs.all (fun i => decide (i < S.fns.length)) = true → ∀ i ∈ fs, ∃ x, S.fns[i]? = some x := fun h i hi => by
    have := of_decide_eq_true (List.all_eq_true.mp h i hi)
    exact ⟨_, List.getElem?_eq_getElem this⟩
  simp only [chkE] at h
  split at h
  · rename_i x p y es q
    simp only [Bool.and_eq_true] at h
    obtain ⟨⟨⟨h1, h2⟩, h3⟩, h4⟩ := h
    cases args with
    | nil => simp [chkEs] at h4
    | cons c cs =>
      have q := h4
      simp only [chkEs, Bool.and_eq_true] at q
      exact c_callv G h1 (fok (b := true) h2) (hf.e G h3) (ha.a G h4) (fun k => wpAny_Call_Name_kw k) (chk_ns q.1 es X.env) (chks_plain q.2 _ X.env)
  · rename_i l r p y es q
    simp only [Bool.and_eq_true] at h
    obtain ⟨⟨⟨h1, h2⟩, h3⟩, h4⟩ := h
    cases args with
    | nil => simp [chkEs] at h4
    | cons c cs =>
      have q := h4
      simp only [chkEs, Bool.and_eq_true] at q
      exact c_callv G h1 (fok (b := true) h2) (hf.e G h3) (ha.a G h4) (fun k => Call_ k rfl) (chk_ns q.1 es X.env) (chks_plain q.2 _ X.env)
  · cases h
theorem snd_pop {o : CE} (ho : Snd S R C Y n o) : Snd S R C Y n (.pop o) := .val rfl rfl fun {N cm sc X W e} G h => by
  cases e with
  | Call f es kw q => cases f with
    | Attribute l m ap => cases es with
      | nil => cases kw with
        | nil =>
          simp only [chkE, Bool.and_eq_true, decide_eq_true_eq] at h
          obtain ⟨⟨⟨⟨h1, rfl⟩, h3⟩, h4⟩, h5⟩ := h
          exact c_pop G h3 h4 (ho.e G h5)
        | cons _ _ => exact Bool.noConfusion (show false = true from h)
      | cons _ _ => exact Bool.noConfusion (show false = true from h)
    | _ => exact Bool.noConfusion (show false = true from h)
  | _ => exact Bool.noConfusion (show false = true from h)
theorem snd_idx {a i : CE} (ha : Snd S R C Y n a) (hi : Snd S R C Y n i) : Snd S R C Y n (.idx a i) := .val rfl rfl fun {N cm sc X W e} G h => by
  cases e with
  | Subscript l r p =>
    simp only [chkE, Bool.and_eq_true] at h
    refine c_idx G ?_ (ha.e G h.1.2) (hi.e G h.2)
    have := h.1.1
    cases r <;> first | rfl | exact Bool.noConfusion (show false = true from this)
  | _ => exact Bool.noConfusion (show false = true from h)
theorem snd_sl {a lo hi : CE} (ha : Snd S R C Y n a) (hl : Snd S R C Y n lo) (hh : Snd S R C Y n hi) : Snd S R C Y n (.sl a lo hi) := by
  have key : ∀ {N : List Str} {cm : Bool} {sc : Scope} {e : Expr} {X : Cx} {W : WX} , Gd S R C Y n N cm sc X W → chkE S N sc cm (.sl a lo hi) e = true → ∃ l x y p2 p, e = .Subscript l (.Slice x y none p2) p ∧ chkE S N sc cm a l = true ∧ PO X x (tO R Y W lo.isAbs (evE C lo)) ∧ PO X y (tO R Y W hi.isAbs (evE C hi)) := by
    intro N cm sc e X W G h
    have po : ∀ {c : CE} (hc : Snd S R C Y n c) {x : Option Expr}, (match x with | none => c.isAbs | some x => !c.isAbs && chkE S N sc cm c x) = true → PO X x (tO R Y W c.isAbs (evE C c)) := by
      intro c hc x h
      cases x with
      | none =>
        have h : c.isAbs = true := h
        rw [h]; exact po_abs
      | some x =>
        have h : (!c.isAbs && chkE S N sc cm c x) = true := h
        rw [Bool.and_eq_true, Bool.not_eq_true'] at h
        rw [h.1]; exact po_val (hc.e G h.2)
    cases e with
    | Subscript l r p => cases r with
      | Slice x y st p2 => cases st with
        | none =>
          simp only [chkE, Bool.and_eq_true] at h
          exact ⟨l, x, y, p2, p, rfl, h.1.1, po hl h.1.2, po hh h.2⟩
        | some _ => exact Bool.noConfusion (show false = true from h)
      | _ => exact Bool.noConfusion (show false = true from h)
    | _ => exact Bool.noConfusion (show false = true from h)
  refine .new rfl (fun G h => ?_) fun G h _ => ?_
  · obtain ⟨l, x, y, p2, p, rfl, h1, h2, h3⟩ := key G h
    exact c_sl G (ha.e G h1) h2 h3
  · obtain ⟨l, x, y, p2, p, rfl, h1, h2, h3⟩ := key G h
    exact l_sl G (ha.e G h1) h2 h3
theorem snd_rev {a : CE} (ha : Snd S R C Y n a) : Snd S R C Y n (.rev a) := .val rfl rfl fun {N cm sc X W e} G h => by
  unfold chkE at h
  split at h
  · exact c_rev G (ha.e G h)
  · cases h
theorem snd_absent : Snd S R C Y n .absent := .val rfl rfl fun {N cm sc X W e} G h => by
  exact Bool.noConfusion (show false = true from h)
theorem snd_tup {es : CEs} (ha : SndA S R C Y n es) : Snd S R C Y n (.tup es) := .val rfl rfl fun {N cm sc X W e} G h => by
  cases e with
  | Tuple xs k p =>
    simp only [chkE, Bool.and_eq_true, decide_eq_true_eq] at h
    exact c_tup (fun s hh ds h' q => by rw [ha.z q h.2]; exact h.1) (ha.a G h.2)
  | _ => exact Bool.noConfusion (show false = true from h)
theorem snd_lst {es : CEs} (ha : SndA S R C Y n es) : Snd S R C Y n (.lst es) := by
  have key : ∀ {N cm sc X W e}, Gd S R C Y n N cm sc X W → chkE S N sc cm (.lst es) e = true → PE X e (tL R Y W (evE C (.lst es))) := by
    intro N cm sc X W e G h
    cases e with
    | List xs p =>
      simp only [chkE, Bool.and_eq_true, decide_eq_true_eq] at h
      exact l_lst (fun s hh ds h' q => by rw [ha.z q h.2]; exact h.1) (ha.a G h.2)
    | _ => exact Bool.noConfusion (show false = true from h)
  refine .new rfl (fun G h => e_of_l (key G h) fun s hh d h' q => ?_) fun G h _ => key G h
  simp only [evE] at q
  cases z : evEs C es s hh with
  | ok ds h1 => rw [z] at q; simp only [ERes.bind, ERes.ok.injEq] at q; exact ⟨ds, q.1.symm⟩
  | exc _ _ => rw [z] at q; cases q
  | stuck => rw [z] at q; cases q
theorem own_ok {N : List Str} {own : List Nat} {l : List (Str × Nat)} (h : l.map (·.2) = own) {P : List Nat → Prop} (k : P (l.map (·.2))) : P own := by rw [← h]; exact k
theorem snd_comp {elt cond : CE} {t : Tg} {it : CI} {own : List Nat} (he : Snd S R C Y n elt) (hi : SndI S R C Y n it) (hc : Snd S R C Y n cond) : Snd S R C Y n (.comp elt t it cond own) := by
  have key : ∀ {N cm sc X W e}, Gd S R C Y n N cm sc X W → chkE S N sc cm (.comp elt t it cond own) e = true → PE X e (tL R Y W (evE C (.comp elt t it cond own))) := by
    intro N cm sc X W e G h
    unfold chkE at h
    split at h
    · rename_i x tg iter ifs a scope p
      simp only [Bool.and_eq_true, decide_eq_true_eq] at h
      obtain ⟨⟨⟨⟨⟨⟨⟨⟨⟨h1, rfl⟩, h2⟩, h3⟩, h4⟩, h5⟩, h6⟩, h6b⟩, h7⟩, h8⟩ := h
      rw [← h5] at h6b ⊢
      refine l_comp G h1 (hi.i G h3) h4 h6b h2 h6 (fun s H Ca cl fp => ?_) fun s H Ca cl fp => he.e (G.blk s H Ca cl fp) h8
      split at h7
      · rw [h7]; exact ts_nil
      · rw [Bool.and_eq_true, Bool.not_eq_true'] at h7
        rw [h7.1]; exact ts_one (hc.t (G.blk s H Ca cl fp) h7.2)
      · cases h7
    · cases h
  refine .new rfl (fun G h => e_of_l (key G h) fun s hh d h' q => ?_) fun G h _ => key G h
  simp only [evE] at q
  cases z : evI C it s hh with
  | ok ds h1 =>
    rw [z] at q
    simp only [ERes.bind] at q
    split at q
    · cases z2 : compF (evE C elt) (condR cond.isAbs (evE C cond)) t ds.g (cwipe s own) ds.xs h1 with
      | ok ys h2 => rw [z2] at q; simp only [lmap, ERes.ok.injEq] at q; exact ⟨_, q.1.symm⟩
      | exc _ _ => rw [z2] at q; cases q
      | stuck => rw [z2] at q; cases q
    · cases q
  | exc _ _ => rw [z] at q; cases q
  | stuck => rw [z] at q; cases q
theorem rds_rg {R : RC} {ρ φ : List Addr} {H : Hp} : ∀ (n : Nat) (a : Int), RDs R ρ φ H (rngD a 1 n) ((List.range n).map fun i => V.int (a + (i : Nat)))
  | 0, a => by simp [rngD, RDs]
  | n + 1, a => by
    rw [List.range_succ_eq_map, List.map_cons, List.map_map]
    refine RDs.cons (by simp only [RD]; simp) ?_
    have e : ((fun i : Nat => V.int (a + (i : Nat))) ∘ Nat.succ) = fun i : Nat => V.int (a + 1 + (i : Nat)) := by
      funext i
      simp only [Function.comp, Nat.succ_eq_add_one]
      congr 1
      omega
    rw [e]
    exact rds_rg n (a + 1)
theorem bind_bind {α β γ : Type} (x : ERes α) (f : α → Hc → ERes β) (g : β → Hc → ERes γ) : (x.bind f).bind g = x.bind fun a h => (f a h).bind g := by cases x <;> rfl
theorem lrange_lst {it : CI} : ∀ s h d h', evE C (.lrange it) s h = .ok d h' → ∃ xs, d = .lst xs := by
  intro s hh d h' q
  simp only [evE] at q
  cases z : evI C it s hh with
  | ok ds h1 =>
    rw [z] at q
    simp only [ERes.bind] at q
    split at q
    · cases q; exact ⟨_, rfl⟩
    · cases q
  | exc _ _ => rw [z] at q; cases q
  | stuck => rw [z] at q; cases q
theorem l_lrange1 {N : List Str} {cm : Bool} {sc : Scope} {X : Cx} {W : WX} (G : Gd S R C Y n N cm sc X W) {pos p p2 q : Pos} {a : CE} {e : Expr} (hcm : cm = true) (hg : isGlB sc "list" = true) (hg2 : isGlB sc "range" = true) (ha : PE X e (tE R Y W (evE C a))) (hs : starEach [e] X.env = (false, eval e X.env) :: starEach [] X.env) :
    PE X (.Call (.Name "list" p) [.Call (.Name "range" p2) [e] [] q] [] pos) (tL R Y W (evE C (.lrange (.rng1 a)))) := by
  obtain ⟨g1, g2⟩ := G.glb hg
  obtain ⟨g3, g4⟩ := G.glb hg2
  refine pe_imp (pe_listRg (G.calm hcm) g1 (G.bl (by decide +kernel)) (prg_1 g3 (G.bl (by decide +kernel)) ha hs) rfl) fun σ H Q ⟨ρ, φ, s, h, hS, hH, f, _⟩ => ?_
  simp only [evE, evI, bind_bind] at f
  refine ⟨ρ, φ, s, h, hS, hH, f.bind fun x h1 ρ1 v H1 _ e1 hH1 r1 f1 => ?_⟩
  cases x with
  | int j =>
    simp only [RD] at r1
    subst r1
    by_cases hj : smallI j = true
    · simp only [hj, if_true, ERes.bind] at f1
      obtain ⟨j1, j2⟩ := small_of hj
      by_cases hz : (rngD 0 1 j.toNat).length ≤ line
      · rw [if_pos hz] at f1
        rw [rng_len] at hz
        refine ⟨j, rfl, ⟨by omega, by omega, j1, j2, by unfold line at hz; omega⟩, fun p hp => ?_⟩
        refine finL_new (d := .lst (rngD 0 1 j.toNat)) Ext.refl f1 rfl hH1 hp ?_
        unfold rgV
        rw [show (j - 0).toNat = j.toNat from by rw [Int.sub_zero]]
        exact rds_rg _ _
      · rw [if_neg hz] at f1; exact f1.elim
    · simp only [hj] at f1
      exact f1.elim
  | _ => exact f1.elim
theorem l_lrange2 {N : List Str} {cm : Bool} {sc : Scope} {X : Cx} {W : WX} (G : Gd S R C Y n N cm sc X W) {pos p p2 q : Pos} {a b : CE} {e e' : Expr} (hcm : cm = true) (hg : isGlB sc "list" = true) (hg2 : isGlB sc "range" = true) (ha : PE X e (tE R Y W (evE C a))) (hb : PE X e' (tE R Y W (evE C b)))
    (hs : starEach [e, e'] X.env = (false, eval e X.env) :: starEach [e'] X.env) (hs2 : starEach [e'] X.env = (false, eval e' X.env) :: starEach [] X.env) :
    PE X (.Call (.Name "list" p) [.Call (.Name "range" p2) [e, e'] [] q] [] pos) (tL R Y W (evE C (.lrange (.rng2 a b)))) := by
  obtain ⟨g1, g2⟩ := G.glb hg
  obtain ⟨g3, g4⟩ := G.glb hg2
  refine pe_imp (pe_listRg (G.calm hcm) g1 (G.bl (by decide +kernel)) (prg_2 g3 (G.bl (by decide +kernel)) ha hb hs hs2 (by rw [hs2]; rfl)) rfl) fun σ H Q ⟨ρ, φ, s, h, hS, hH, f, _⟩ => ?_
  simp only [evE, evI, bind_bind] at f
  refine ⟨ρ, φ, s, h, hS, hH, f.bind fun x h1 ρ1 v H1 _ e1 hH1 r1 f1 => ?_⟩
  refine ⟨ρ1, φ, s, h1, hS.ext e1, hH1, f1.bind fun y h2 ρ2 u H2 _ e2 hH2 r2 f2 => ?_⟩
  have r1 := r1.ext e2
  cases x with
  | int i =>
    cases y with
    | int j =>
      simp only [RD] at r1 r2
      subst r1 r2
      by_cases hj : (smallI i && smallI j) = true
      · simp only [hj, if_true, ERes.bind] at f2
        rw [Bool.and_eq_true] at hj
        obtain ⟨j1, j2⟩ := small_of hj.1
        obtain ⟨j3, j4⟩ := small_of hj.2
        by_cases hz : (rngD i 1 (j - i).toNat).length ≤ line
        · rw [if_pos hz] at f2
          rw [rng_len] at hz
          refine ⟨i, j, rfl, rfl, ⟨j1, j2, j3, j4, by unfold line at hz; omega⟩, fun p hp => ?_⟩
          refine finL_new (d := .lst (rngD i 1 (j - i).toNat)) Ext.refl f2 rfl hH2 hp ?_
          unfold rgV
          exact rds_rg _ _
        · rw [if_neg hz] at f2; exact f2.elim
      · simp only [hj] at f2
        exact f2.elim
    | _ => exact f2.elim
  | _ => exact f2.elim
theorem snd_lrange {it : CI} (h1 : ∀ a, it = .rng1 a → Snd S R C Y n a) (h2 : ∀ a b, it = .rng2 a b → Snd S R C Y n a ∧ Snd S R C Y n b) : Snd S R C Y n (.lrange it) := by
  have key : ∀ {N cm sc X W e}, Gd S R C Y n N cm sc X W → chkE S N sc cm (.lrange it) e = true → PE X e (tL R Y W (evE C (.lrange it))) := by
    intro N cm sc X W e G h
    unfold chkE at h
    split at h
    · simp only [Bool.and_eq_true, decide_eq_true_eq] at h
      obtain ⟨⟨⟨⟨k1, rfl⟩, k3⟩, k4⟩, k5⟩ := h
      cases it with
      | rng1 a =>
        unfold chkI at k5
        split at k5
        · simp only [Bool.and_eq_true, decide_eq_true_eq] at k5
          obtain ⟨⟨rfl, m2⟩, m3⟩ := k5
          exact l_lrange1 G k1 k3 m2 ((h1 a rfl).e G m3) (chk_ns m3 _ X.env)
        · cases k5
      | rng2 a b =>
        unfold chkI at k5
        split at k5
        · simp only [Bool.and_eq_true, decide_eq_true_eq] at k5
          obtain ⟨⟨⟨rfl, m2⟩, m3⟩, m4⟩ := k5
          exact l_lrange2 G k1 k3 m2 ((h2 a b rfl).1.e G m3) ((h2 a b rfl).2.e G m4) (chk_ns m3 _ X.env) (chk_ns m4 _ X.env)
        · cases k5
      | _ => exact Bool.noConfusion (show false = true from k4)
    · cases h
  exact .new rfl (fun G h => e_of_l (key G h) lrange_lst) fun G h _ => key G h
theorem snd_cell {c : CE} (hc : Snd S R C Y n c) : Snd S R C Y n (.cell c) := by
  have key : ∀ {N cm sc X W e}, Gd S R C Y n N cm sc X W → chkE S N sc cm (.cell c) e = true → PE X e (tE R Y W (evE C (.cell c))) ∧ plainT e = true := by
    intro N cm sc X W e G h
    have h' : (freshC c && chkE S N sc cm c e) = true := by
      cases c with
      | bi b args => cases b <;> exact h
      | _ => exact h
    rw [Bool.and_eq_true] at h'
    exact ⟨c_cell (hc.l G h'.2 h'.1), chk_plainL h'.1 h'.2⟩
  exact ⟨fun G h => (key G h).1, fun _ _ h => Bool.noConfusion (show false = true from h), fun G h => t_val (key G h).1 (plainT_of (key G h).2 _), fun G h => Bool.noConfusion (show false = true from (key G h).2)⟩
theorem snd_dict0 {t : Bool} : Snd S R C Y n (.dict0 t) := .val rfl rfl fun {N cm sc X W e} G h => by
  cases e with
  | Dict ks vs p => cases ks with
    | nil => cases vs with
      | nil => exact c_dict0
      | cons _ _ => exact Bool.noConfusion (show false = true from h)
    | cons _ _ => exact Bool.noConfusion (show false = true from h)
  | _ => exact Bool.noConfusion (show false = true from h)
theorem snd_dget {o k d : CE} (ho : Snd S R C Y n o) (hk : Snd S R C Y n k) (hd : Snd S R C Y n d) : Snd S R C Y n (.dget o k d) := .val rfl rfl fun {N cm sc X W e} G h => by
  unfold chkE at h
  split at h
  · simp only [Bool.and_eq_true, decide_eq_true_eq] at h
    obtain ⟨⟨⟨⟨⟨⟨h1, rfl⟩, h3⟩, h4⟩, h5⟩, h6⟩, h7⟩ := h
    exact c_dget G h3 h4 (chk_ns h6 _ X.env) (chk_ns h7 _ X.env) (ho.e G h5) (hk.e G h6) (hd.e G h7)
  · cases h
theorem snda_nil : SndA S R C Y n .nil := ⟨fun {N cm sc X W es} G h => by
  cases es with
  | nil => exact a_nil
  | cons _ _ => simp [chkEs] at h, fun e _ _ _ _ h => chk_len h e⟩
theorem snda_cons {c : CE} {cs : CEs} (hc : Snd S R C Y n c) (hcs : SndA S R C Y n cs) : SndA S R C Y n (.cons c cs) := ⟨fun {N cm sc X W es} G h => by
  cases es with
  | nil => simp [chkEs] at h
  | cons e es =>
    simp only [chkEs, Bool.and_eq_true] at h
    exact a_cons (hc.e G h.1) (hcs.a G h.2) (chk_ns h.1 es X.env), fun e _ _ _ _ h => chk_len h e⟩
theorem sndi_seq {a : CE} (ha : Snd S R C Y n a) : SndI S R C Y n (.seq a) := ⟨fun {N cm sc X W tg e} G h => i_seq G (ha.e G (by simpa only [chkI] using h))⟩
theorem sndi_r1 {a : CE} (ha : Snd S R C Y n a) : SndI S R C Y n (.rng1 a) := ⟨fun {N cm sc X W tg e} G h => by
  unfold chkI at h
  split at h
  · simp only [Bool.and_eq_true, decide_eq_true_eq] at h
    obtain ⟨⟨rfl, h2⟩, h3⟩ := h
    exact i_rng1 G h2 (ha.e G h3) (chk_ns h3 _ X.env)
  · cases h⟩
theorem sndi_r2 {a b : CE} (ha : Snd S R C Y n a) (hb : Snd S R C Y n b) : SndI S R C Y n (.rng2 a b) := ⟨fun {N cm sc X W tg e} G h => by
  unfold chkI at h
  split at h
  · simp only [Bool.and_eq_true, decide_eq_true_eq] at h
    obtain ⟨⟨⟨rfl, h2⟩, h3⟩, h4⟩ := h
    exact i_rng2 G h2 (ha.e G h3) (hb.e G h4) (chk_ns h3 _ X.env) (chk_ns h4 _ X.env)
  · cases h⟩
theorem sndi_r3 {a b c : CE} (ha : Snd S R C Y n a) (hb : Snd S R C Y n b) (hc : Snd S R C Y n c) : SndI S R C Y n (.rng3 a b c) := ⟨fun {N cm sc X W tg e} G h => by
  unfold chkI at h
  split at h
  · simp only [Bool.and_eq_true, decide_eq_true_eq] at h
    obtain ⟨⟨⟨⟨rfl, h2⟩, h3⟩, h4⟩, h5⟩ := h
    exact i_rng3 G h2 (ha.e G h3) (hb.e G h4) (hc.e G h5) (chk_ns h3 _ X.env) (chk_ns h4 _ X.env) (chk_ns h5 _ X.env)
  · cases h⟩
mutual
theorem snd : ∀ c : CE, Snd S R C Y n c
  | .var _ => snd_var
  | .cst _ => snd_cst
  | .glob _ _ => snd_glob
  | .bin _ a b => snd_bin (snd a) (snd b)
  | .neg a => snd_neg (snd a)
  | .not_ a => snd_not (snd a)
  | .cmp _ a b => snd_cmp (snd a) (snd b)
  | .chain _ _ a b c => snd_chain (snd a) (snd b) (snd c)
  | .and_ a b => snd_and (snd a) (snd b)
  | .or_ a b => snd_or (snd a) (snd b)
  | .ite t a b => snd_ite (snd t) (snd a) (snd b)
  | .call _ args => snd_call (snda args)
  | .bi _ args => snd_bi (snda args)
  | .isin a _ => snd_isin (snd a)
  | .pop o => snd_pop (snd o)
  | .idx a i => snd_idx (snd a) (snd i)
  | .sl a lo hi => snd_sl (snd a) (snd lo) (snd hi)
  | .rev a => snd_rev (snd a)
  | .absent => snd_absent
  | .tup es => snd_tup (snda es)
  | .lst es => snd_lst (snda es)
  | .comp elt _ it cond _ => snd_comp (snd elt) (sndi it) (snd cond)
  | .lrange it => match it with
    | .rng1 a => snd_lrange (fun b e => by cases e; exact snd a) fun b c e => by cases e
    | .rng2 a b => snd_lrange (fun c e => by cases e) fun c d e => by cases e; exact ⟨snd a, snd b⟩
    | .seq _ => snd_lrange (fun b e => by cases e) fun b c e => by cases e
    | .rng3 _ _ _ => snd_lrange (fun b e => by cases e) fun b c e => by cases e
    | .enum _ => snd_lrange (fun b e => by cases e) fun b c e => by cases e
    | .zip _ _ => snd_lrange (fun b e => by cases e) fun b c e => by cases e
  | .cell c => snd_cell (snd c)
  | .dict0 _ => snd_dict0
  | .dget o k d => snd_dget (snd o) (snd k) (snd d)
  | .callv fe _ args => snd_callv (snd fe) (snda args)
theorem snda : ∀ cs : CEs, SndA S R C Y n cs
  | .nil => snda_nil
  | .cons c cs => snda_cons (snd c) (snda cs)
theorem sndi : ∀ it : CI, SndI S R C Y n it
  | .seq a => sndi_seq (snd a)
  | .rng1 a => sndi_r1 (snd a)
  | .rng2 a b => sndi_r2 (snd a) (snd b)
  | .rng3 a b c => sndi_r3 (snd a) (snd b) (snd c)
  | .enum _ => ⟨fun {N cm sc X W tg e} G h => Bool.noConfusion (show false = true from h)⟩
  | .zip _ _ => ⟨fun {N cm sc X W tg e} G h => Bool.noConfusion (show false = true from h)⟩
end
end
end Cl

namespace Cl
open PySem PySem.Spec PyProof.Rows L2
/-! ### statements: their readings -/
def FinS (R : RC) (Y : XC) (W : WX) (D : Ends) (ρ φ : List Addr) (H : Hp) (r : SRes) : Prop :=
  match r with
  | .ok (.nx c') h' => ∀ ρ' σ' H', Ext ρ ρ' H H' → RelS R ρ' φ H' c' σ' → RelH R ρ' φ H' h' → D.nx σ' H'
  | .ok (.bk c') h' => ∀ ρ' σ' H', Ext ρ ρ' H H' → RelS R ρ' φ H' c' σ' → RelH R ρ' φ H' h' → D.bk σ' H'
  | .ok (.ct c') h' => ∀ ρ' σ' H', Ext ρ ρ' H H' → RelS R ρ' φ H' c' σ' → RelH R ρ' φ H' h' → D.ct σ' H'
  | .ok (.rt d) h' => ∀ ρ' v H', Ext ρ ρ' H H' → RelH R ρ' φ H' h' → RD R ρ' φ H' d v → D.rt v H'
  | .exc x c' h' => ∀ ρ' cls dd σ' H', Ext ρ ρ' H H' → RelS R ρ' φ H' c' σ' → RelH R ρ' φ H' h' → RX R Y ρ' φ H' x cls dd → W cls dd σ' H'
  | .stuck => False
def tS (R : RC) (Y : XC) (W : WX) (f : CSt → Hc → SRes) : TS := fun D σ H => ∃ ρ φ c h, RelS R ρ φ H c σ ∧ RelH R ρ φ H h ∧ FinS R Y W D ρ φ H (f c h)
section
variable {R : RC} {Y : XC} {W : WX} {D : Ends} {ρ φ : List Addr} {H : Hp}
theorem FinS.ext {ρ' : List Addr} {H' : Hp} {r : SRes} (f : FinS R Y W D ρ φ H r) (e : Ext ρ ρ' H H') : FinS R Y W D ρ' φ H' r := by
  cases r with
  | ok k h => cases k with
    | nx c => exact fun ρ1 σ1 H1 e1 => f ρ1 σ1 H1 (e.trans e1)
    | bk c => exact fun ρ1 σ1 H1 e1 => f ρ1 σ1 H1 (e.trans e1)
    | ct c => exact fun ρ1 σ1 H1 e1 => f ρ1 σ1 H1 (e.trans e1)
    | rt d => exact fun ρ1 v H1 e1 => f ρ1 v H1 (e.trans e1)
  | exc x c h => exact fun ρ1 cls dd σ1 H1 e1 => f ρ1 cls dd σ1 H1 (e.trans e1)
  | stuck => exact f
/-- other ends that take what these take -/
theorem FinS.ends {D' : Ends} {r : SRes} (f : FinS R Y W D ρ φ H r) (h1 : ∀ c σ' ρ' H' h', Ext ρ ρ' H H' → RelS R ρ' φ H' c σ' → RelH R ρ' φ H' h' → r = .ok (.nx c) h' → D.nx σ' H' → D'.nx σ' H') (h2 : ∀ σ' H', D.bk σ' H' → D'.bk σ' H') (h3 : ∀ σ' H', D.ct σ' H' → D'.ct σ' H') (h4 : ∀ v H', D.rt v H' → D'.rt v H') : FinS R Y W D' ρ φ H r := by
  cases r with
  | ok k h => cases k with
    | nx c => exact fun ρ1 σ1 H1 e1 s1 r1 => h1 c σ1 ρ1 H1 h e1 s1 r1 rfl (f ρ1 σ1 H1 e1 s1 r1)
    | bk c => exact fun ρ1 σ1 H1 e1 s1 r1 => h2 _ _ (f ρ1 σ1 H1 e1 s1 r1)
    | ct c => exact fun ρ1 σ1 H1 e1 s1 r1 => h3 _ _ (f ρ1 σ1 H1 e1 s1 r1)
    | rt d => exact fun ρ1 v H1 e1 s1 r1 => h4 _ _ (f ρ1 v H1 e1 s1 r1)
  | exc x c h => exact f
  | stuck => exact f
/-- through an expression -/
theorem FinS.st {α β : Type} {σ : L2.St} {c : CSt} {h : Hc} {rel : List Addr → Hp → α → β → Prop} {r : ERes α} {f : α → Hc → SRes} {Q : β → Hp → Prop} (hS : RelS R ρ φ H c σ)
    (hf : FinS R Y W D ρ φ H (r.st c f)) (k : ∀ a h1 ρ1 b H1, r = .ok a h1 → Ext ρ ρ1 H H1 → RelH R ρ1 φ H1 h1 → RelS R ρ1 φ H1 c σ → rel ρ1 H1 a b → FinS R Y W D ρ1 φ H1 (f a h1) → Q b H1) : Fin R Y W σ ρ φ H rel r Q := by
  cases r with
  | ok a h' => exact fun ρ1 b H1 e1 hH r1 => k a h' ρ1 b H1 rfl e1 hH (hS.ext e1) r1 (FinS.ext (r := f a h') hf e1)
  | exc x h' => exact fun ρ1 cls dd H1 e1 hH rx => hf ρ1 cls dd σ H1 e1 (hS.ext e1) hH rx
  | stuck => exact hf
theorem FinS.stO {α : Type} {o : Option α} {f : α → SRes} (hf : FinS R Y W D ρ φ H (stO o f)) : ∃ a, o = some a ∧ FinS R Y W D ρ φ H (f a) := by
  cases o with
  | none => exact hf.elim
  | some a => exact ⟨a, rfl, hf⟩
theorem RelS.unsets {c : CSt} {σ : L2.St} (r : RelS R ρ φ H c σ) : ∀ is : List Nat, RelS R ρ φ H (cwipe c is) σ
  | [] => r
  | i :: is => (r.unsets is).unset i
end
/-- the ground of statements -/
structure Gs (S : Sg) (R : RC) (P : Env2) (Y : XC) (n : Nat) (N : List Str) (cm : Bool) (sc : Scope) (X : Cx) (W : WX) : Prop where
  g : Gd S R P.C Y n N cm sc X W
  hsc : X.env.scope = sc
  hfn : sc.kind = .function
  po : cm = true → PassesOwn (model X.prog X.w) X.A X.env X.xe
  stk : X.stack = X.env :: X.outer
  frm : X.env.frame = some X.env.locals
  exc : ∀ i x, S.excs[i]? = some x → ∃ Ca B nid iid bmB, ExcBaseFacts B nid iid bmB ∧ PySem.W.excIn X.K Ca bmB nid = true ∧ X.mg x = some (.ref Ca) ∧ PySem.W.keepIn X.K (.ref Ca) = true ∧ (∀ X' : Cx, X'.K = X.K → Raises X' (.ref Ca)) ∧ Y.cls i = .ref Ca
  sub : ∀ i j b, P.sub i j = some b → PySem.W.exmOne X.K (Y.cls i) (Y.cls j) = some b
section
variable {S : Sg} {R : RC} {P : Env2} {Y : XC} {n : Nat} {N : List Str} {cm : Bool} {sc : Scope} {X : Cx} {W : WX} {pos : Pos} {st : Stmt}
theorem ps_imp {t u : TS} (h : PS X st t) (k : ∀ D σ H, u D σ H → t D σ H) : PS X st u := ⟨fun pins s σ H D I q => h.run pins s σ H D I (k D σ H q)⟩
theorem pss_imp {sts : List Stmt} {t u : TS} (h : PSs X sts t) (k : ∀ D σ H, u D σ H → t D σ H) : PSs X sts u := ⟨fun pins s σ H D I q => h.run pins s σ H D I (k D σ H q)⟩
/-! small statements -/
theorem s_ret {c : CE} {e : Expr} (he : PE X e (tE R Y W (evE P.C c))) : PS X (.Return (some e) pos) (tS R Y W (evS P (.ret c))) :=
  ps_imp (ps_ret he) fun D σ H ⟨ρ, φ, s, h, hS, hH, f⟩ => by
    simp only [evS] at f
    exact ⟨ρ, φ, s, h, hS, hH, FinS.st (h := h) hS f fun d h1 ρ1 v H1 _ e1 hH1 hS1 r1 f1 => f1 ρ1 v H1 Ext.refl hH1 r1⟩
theorem s_retN : PS X (.Return none pos) (tS R Y W (evS P .retN)) := ps_imp ps_retN fun D σ H ⟨ρ, φ, s, h, hS, hH, f⟩ => by
  simp only [evS] at f
  exact f ρ _ H Ext.refl hH (by simp only [RD])
theorem s_brk : PS X (.Break pos) (tS R Y W (evS P .brk)) := ps_imp ps_break fun D σ H ⟨ρ, φ, s, h, hS, hH, f⟩ => by
  simp only [evS] at f
  exact f ρ σ H Ext.refl hS hH
theorem s_pass : PS X (.Pass pos) (tS R Y W (evS P .pass)) := ps_imp ps_pass fun D σ H ⟨ρ, φ, s, h, hS, hH, f⟩ => by
  simp only [evS] at f
  exact f ρ σ H Ext.refl hS hH
theorem s_expr {c : CE} {e : Expr} (he : PE X e (tE R Y W (evE P.C c))) (hs : swapsWith e none pos.line X.env = pure false) : PS X (.Expr e pos) (tS R Y W (evS P (.expr c))) :=
  ps_imp (ps_expr he hs) fun D σ H ⟨ρ, φ, s, h, hS, hH, f⟩ => by
    simp only [evS] at f
    exact ⟨ρ, φ, s, h, hS, hH, FinS.st (h := h) hS f fun d h1 ρ1 v H1 _ e1 hH1 hS1 r1 f1 => f1 ρ1 σ H1 Ext.refl hS1 hH1⟩
theorem boolR_st {r : ERes D} {c : CSt} {f : Bool → Hc → SRes} {D : Ends} {ρ φ : List Addr} {H : Hp} {σ : L2.St} {Q : Bool → Hp → Prop} (hS : RelS R ρ φ H c σ) (hf : FinS R Y W D ρ φ H ((boolR r).st c f))
    (k : ∀ a h1 ρ1 H1, Ext ρ ρ1 H H1 → RelH R ρ1 φ H1 h1 → RelS R ρ1 φ H1 c σ → FinS R Y W D ρ1 φ H1 (f a h1) → Q a H1) : Fin R Y W σ ρ φ H rEq (boolR r) Q :=
  FinS.st (h := []) hS hf fun a h1 ρ1 b H1 _ e1 hH1 hS1 r1 f1 => by
    subst r1
    exact k a h1 ρ1 H1 e1 hH1 hS1 f1
theorem s_ifs {t : CE} {a b : CSs} {e : Expr} {xs ys : List Stmt} (ht : PT X e (tT R Y W (evE P.C t))) (ha : PSs X xs (tS R Y W (evSs P a))) (hb : PSs X ys (tS R Y W (evSs P b))) : PS X (.If e xs ys pos) (tS R Y W (evS P (.ifs t a b))) :=
  ps_imp (ps_if ht ha hb) fun D σ H ⟨ρ, φ, s, h, hS, hH, f⟩ => by
    simp only [evS] at f
    refine ⟨ρ, φ, s, h, hS, hH, boolR_st hS f fun c h1 ρ1 H1 e1 hH1 hS1 f1 => ?_⟩
    cases c with
    | true => rw [if_pos rfl]; exact ⟨ρ1, φ, s, h1, hS1, hH1, f1⟩
    | false => rw [if_neg Bool.false_ne_true]; exact ⟨ρ1, φ, s, h1, hS1, hH1, f1⟩
/-! blocks -/
theorem ss_nil : PSs X [] (tS R Y W (evSs P .nil)) := pss_imp pss_nil fun D σ H ⟨ρ, φ, s, h, hS, hH, f⟩ => by
  simp only [evSs] at f
  exact f ρ σ H Ext.refl hS hH
theorem ss_cons {c : CS} {cs : CSs} {sts : List Stmt} (h1 : PS X st (tS R Y W (evS P c))) (h2 : PSs X sts (tS R Y W (evSs P cs))) : PSs X (st :: sts) (tS R Y W (evSs P (.cons c cs))) :=
  pss_imp (pss_cons h1 h2) fun D σ H ⟨ρ, φ, s, h, hS, hH, f⟩ => by
    simp only [evSs] at f
    refine ⟨ρ, φ, s, h, hS, hH, ?_⟩
    cases q : evS P c s h with
    | ok k h' => cases k with
      | nx c' =>
        rw [q] at f
        intro ρ1 σ1 H1 e1 hS1 hH1
        exact ⟨ρ1, φ, c', h', hS1, hH1, FinS.ext f e1⟩
      | bk c' => rw [q] at f; exact f
      | ct c' => rw [q] at f; exact f
      | rt d => rw [q] at f; exact f
    | exc x c' h' => rw [q] at f; exact f
    | stuck => rw [q] at f; exact f
theorem ss_kill {is : List Nat} {cs : CSs} {sts : List Stmt} (h2 : PSs X sts (tS R Y W (evSs P cs))) : PSs X sts (tS R Y W (evSs P (.cons (.kill is) cs))) :=
  pss_imp h2 fun D σ H ⟨ρ, φ, s, h, hS, hH, f⟩ => by
    simp only [evSs, evS] at f
    exact ⟨ρ, φ, cwipe s is, h, hS.unsets is, hH, f⟩
/-- the cells from n on forgotten -/
theorem cut_rel {ρ φ : List Addr} {H H' : Hp} {h h' : Hc} {t : List Addr} (hH : RelH R ρ φ H h) (hH' : RelH R (ρ ++ t) φ H' h') (hc : cutOk h.length h h' = true) : RelH R ρ φ H' (h'.take h.length) := by
  rw [← hH.len]
  refine hH'.cut fun c hm => ?_
  unfold cutOk at hc
  rw [← hH.len] at hc
  obtain ⟨i, hi⟩ := List.mem_iff_getElem?.mp hm
  have hil : i < ρ.length := by
    rcases Nat.lt_or_ge i ρ.length with q | q
    · exact q
    · rw [List.getElem?_take_eq_none q] at hi; cases hi
  obtain ⟨c0, hc0⟩ : ∃ c0, h[i]? = some c0 := ⟨_, List.getElem?_eq_getElem (by rw [← hH.len]; exact hil)⟩
  have hz : (List.zip (h'.take ρ.length) h)[i]? = some (c, c0) := by
    rw [List.getElem?_zip_eq_some]
    exact ⟨hi, hc0⟩
  have := List.all_eq_true.mp hc _ (List.mem_of_getElem? hz)
  simp only [Bool.or_eq_true, decide_eq_true_eq] at this
  rcases this with q | q
  · exact q
  · subst q
    obtain ⟨a, _, rc⟩ := hH.at hc0
    exact rc.low
theorem low_rel {ρ φ : List Addr} {H' : Hp} {c : CSt} {σ : L2.St} {t : List Addr} (hS : RelS R (ρ ++ t) φ H' c σ) (hl : lowSt ρ.length c = true) : RelS R ρ φ H' c σ :=
  ⟨hS.len, fun i d q => by
    obtain ⟨v, h1, h2⟩ := hS.at_ i d q
    refine ⟨v, h1, RD.mv (Mv.cut) ?_ h2⟩
    have := List.all_eq_true.mp hl _ (List.mem_of_getElem? q)
    exact this⟩
theorem ss_scope {cs : CSs} {sts : List Stmt} (h2 : PSs X sts (tS R Y W (evSs P cs))) : PSs X sts (tS R Y W (evSs P (.cons (.scope cs) .nil))) :=
  pss_imp h2 fun D σ H ⟨ρ, φ, s, h, hS, hH, f⟩ => by
    simp only [evSs, evS] at f
    refine ⟨ρ, φ, s, h, hS, hH, ?_⟩
    cases q : evSs P cs s h with
    | ok k h' => cases k with
      | nx c' =>
        rw [q] at f
        unfold scopeR at f
        by_cases z : (lowSt h.length c' && cutOk h.length h h') = true
        · simp only [z, if_true] at f
          rw [Bool.and_eq_true] at z
          intro ρ1 σ1 H1 e1 hS1 hH1
          obtain ⟨t, rfl⟩ := e1.pre
          exact f ρ σ1 H1 e1.cut (low_rel hS1 (by rw [hH.len]; exact z.1)) (cut_rel hH hH1 z.2)
        · simp only [z] at f
          exact f
      | bk c' => rw [q] at f; exact f
      | ct c' => rw [q] at f; exact f
      | rt d => rw [q] at f; exact f
    | exc x c' h' => rw [q] at f; exact f
    | stuck => rw [q] at f; exact f
/-! loops -/
theorem s_whl (hp : PassesOwn (model X.prog X.w) X.A X.env X.xe) {t : CE} {a : CSs} {e : Expr} {xs : List Stmt} (ht : PT X e (tT R Y W (evE P.C t))) (ha : PSs X xs (tS R Y W (evSs P a))) : PS X (.While e xs [] pos) (tS R Y W (evS P (.whl t a))) :=
  ps_imp (ps_while hp ht ha) fun D σ H ⟨ρ, φ, s, h, hS, hH, f⟩ => by
    simp only [evS] at f
    refine ⟨fun m σ1 H1 => ∃ ρ1 c1 h1, RelS R ρ1 φ H1 c1 σ1 ∧ RelH R ρ1 φ H1 h1 ∧ Ext ρ ρ1 H H1 ∧ FinS R Y W D ρ1 φ H1 (whF (evE P.C t) (evSs P a) m c1 h1), ⟨wFuel, ρ, s, h, hS, hH, Ext.refl, f⟩, ?_⟩
    rintro m σ1 H1 ⟨ρ1, c1, h1, hS1, hH1, e1, f1⟩
    cases m with
    | zero => exact f1.elim
    | succ m =>
      unfold whF at f1
      refine ⟨ρ1, φ, c1, h1, hS1, hH1, ?_⟩
      cases q : boolR (evE P.C t c1 h1) with
      | stuck => rw [q] at f1; exact f1.elim
      | exc x h' => rw [q] at f1; exact fun ρ2 cls dd H2 e2 hH2 rx => f1 ρ2 cls dd σ1 H2 e2 (hS1.ext e2) hH2 rx
      | ok b h2 =>
        rw [q] at f1
        intro ρ2 b' H2 e2 hH2 eb
        subst eb
        cases b with
        | false =>
          rw [if_neg Bool.false_ne_true]
          exact f1 ρ2 σ1 H2 e2 (hS1.ext e2) hH2
        | true =>
          rw [if_pos rfl]
          refine ⟨_, fun σ' H' w => ⟨m, Nat.lt_succ_self m, w⟩, ρ2, φ, c1, h2, hS1.ext e2, hH2, ?_⟩
          have e12 := e1.trans e2
          cases r : evSs P a c1 h2 with
          | ok k h3 => cases k with
            | nx c2 =>
              simp only [r] at f1
              exact fun ρ3 σ3 H3 e3 hS3 hH3 => ⟨ρ3, c2, h3, hS3, hH3, e12.trans e3, FinS.ext f1 (e2.trans e3)⟩
            | ct c2 =>
              simp only [r] at f1
              exact fun ρ3 σ3 H3 e3 hS3 hH3 => ⟨ρ3, c2, h3, hS3, hH3, e12.trans e3, FinS.ext f1 (e2.trans e3)⟩
            | bk c2 =>
              simp only [r] at f1
              exact fun ρ3 σ3 H3 e3 hS3 hH3 => f1 ρ3 σ3 H3 (e2.trans e3) hS3 hH3
            | rt d =>
              simp only [r] at f1
              exact fun ρ3 σ3 H3 e3 hS3 hH3 => f1 ρ3 σ3 H3 (e2.trans e3) hS3 hH3
          | exc x c2 h3 =>
            simp only [r] at f1
            exact fun ρ3 cls dd σ3 H3 e3 hS3 hH3 rx => f1 ρ3 cls dd σ3 H3 (e2.trans e3) hS3 hH3 rx
          | stuck => simp only [r] at f1; exact f1.elim
theorem s_for (hp : PassesOwn (model X.prog X.w) X.A X.env X.xe) (hc : X.calm = true) {t : Tg} {it : CI} {a : CSs} {tg e : Expr} {xs : List Stmt} (hi : PI X tg e (tI R Y W (evI P.C it))) (hg : PG X tg (tG R t)) (ha : PSs X xs (tS R Y W (evSs P a))) (hn : notSet e = true) :
    PS X (.For tg e xs [] pos) (tS R Y W (evS P (.for_ t it a))) :=
  ps_imp (ps_for hp hc hi hg ha (notset_fold hn)) fun D σ H ⟨ρ, φ, s, h, hS, hH, f⟩ => by
    simp only [evS] at f
    refine ⟨ρ, φ, s, h, hS, hH, FinS.st (h := h) hS f fun d h1 ρ1 J H1 _ e1 hH1 hS1 jk f1 => ?_⟩
    refine ⟨fun i m σ2 H2 => ∃ ρ2 c2 h2, m = d.xs.length - i ∧ i ≤ d.xs.length ∧ RelS R ρ2 φ H2 c2 σ2 ∧ RelH R ρ2 φ H2 h2 ∧ Ext ρ1 ρ2 H1 H2 ∧ FinS R Y W D ρ2 φ H2 (forF (evSs P a) t d.g (d.xs.drop i) c2 h2), ⟨d.xs.length, ρ1, s, h1, rfl, Nat.zero_le _, hS1, hH1, Ext.refl, by rw [List.drop_zero]; exact f1⟩, ?_⟩
    rintro i m σ2 H2 ⟨ρ2, c2, h2, rfl, hi', hS2, hH2, e2, f2⟩
    have la : Later ρ1 φ H1 ρ2 φ H2 := Later.of e2
    have hgd : gOk d.g h2 = true := by
      cases hd : d.xs.drop i with
      | nil =>
        rw [hd] at f2
        unfold forF at f2
        split at f2
        · assumption
        · exact f2.elim
      | cons x xs =>
        rw [hd] at f2
        unfold forF at f2
        split at f2
        · assumption
        · exact f2.elim
    by_cases hlt : i < d.xs.length
    · right
      rw [List.drop_eq_getElem_cons hlt] at f2
      unfold forF at f2
      rw [if_pos hgd] at f2
      obtain ⟨go, yl⟩ := jk.go i ρ2 φ H2 h2 la hH2 hgd _ (List.getElem?_eq_getElem hlt)
      refine ⟨go, _, fun σ' H' p' => ⟨d.xs.length - (i + 1), by omega, p'⟩, fun x H3 y => ?_⟩
      obtain ⟨e3, l3, hH3, rx⟩ := yl x H3 y
      cases ea : asgT t d.xs[i] c2 with
      | none => simp only [ea] at f2; exact f2.elim
      | some c3 =>
        simp only [ea] at f2
        refine ⟨ρ2, φ, c2, h2, _, c3, hS2.later l3, hH3, rx, ea, fun σ3 hS3 _ => ⟨ρ2, φ, c3, h2, hS3, hH3, ?_⟩⟩
        have e23 := e2.trans e3
        cases r : evSs P a c3 h2 with
        | ok k h3 => cases k with
          | nx c4 =>
            simp only [r] at f2
            exact fun ρ4 σ4 H4 e4 hS4 hH4 => ⟨ρ4, c4, h3, rfl, hlt, hS4, hH4, e23.trans e4, FinS.ext f2 (e3.trans e4)⟩
          | ct c4 =>
            simp only [r] at f2
            exact fun ρ4 σ4 H4 e4 hS4 hH4 => ⟨ρ4, c4, h3, rfl, hlt, hS4, hH4, e23.trans e4, FinS.ext f2 (e3.trans e4)⟩
          | bk c4 =>
            simp only [r] at f2
            exact fun ρ4 σ4 H4 e4 hS4 hH4 => f2 ρ4 σ4 H4 (e3.trans e4) hS4 hH4
          | rt d =>
            simp only [r] at f2
            exact fun ρ4 σ4 H4 e4 hS4 hH4 => f2 ρ4 σ4 H4 (e3.trans e4) hS4 hH4
        | exc x c4 h3 =>
          simp only [r] at f2
          exact fun ρ4 cls dd σ4 H4 e4 hS4 hH4 rx => f2 ρ4 cls dd σ4 H4 (e3.trans e4) hS4 hH4 rx
        | stuck => simp only [r] at f2; exact f2.elim
    · left
      have hie : i = d.xs.length := by omega
      subst hie
      refine ⟨jk.stop ρ2 φ H2 h2 la hH2 hgd, ?_⟩
      rw [List.drop_length] at f2
      unfold forF at f2
      rw [if_pos hgd] at f2
      exact f2 ρ2 σ2 H2 Ext.refl hS2 hH2
end
end Cl

namespace Cl
open PySem PySem.Spec PyProof.Rows L2
section
variable {R : RC} {ρ φ : List Addr} {H : Hp} {h : Hc}
theorem KRD.write {κ : Type} {kvs : List (κ × D)} {kws : List (κ × V)} (r : KRD R ρ φ H kvs kws) {a : Addr} {o : HO} (ha : a ∈ ρ) : KRD R ρ φ (upd H a o) kvs kws :=
  ⟨r.1, RDs.mv (k := ρ.length) (Mv.write ha _) r.2.low r.2⟩
theorem RDs.write {ds : List D} {vs : List V} (r : RDs R ρ φ H ds vs) {a : Addr} {o : HO} (ha : a ∈ ρ) : RDs R ρ φ (upd H a o) ds vs := RDs.mv (k := ρ.length) (Mv.write ha _) r.low r
theorem RD.write {d : D} {v : V} (r : RD R ρ φ H d v) {a : Addr} {o : HO} (ha : a ∈ ρ) : RD R ρ φ (upd H a o) d v := RD.mv (k := ρ.length) (Mv.write ha _) r.low r
theorem ixD_ixN {n : Nat} {i : Int} {j : Nat} (e : ixD n i = some j) : ixN n i = some j := e
/-- o[i] = v: what it does -/
def Put (X : Cx) (x y v : V) (H H' : Hp) : Prop := rSetL x y v H (fun H2 => H2 = H') ∨ ∃ a, x = .ref a ∧ DPut H a y v H'
theorem put_rel (rH : RelH R ρ φ H h) {x y v : D} {xv yv vv : V} (rx : RD R ρ φ H x xv) (ry : RD R ρ φ H y yv) (rv : RD R ρ φ H v vv) {h' : Hc} (e : putF h x y v = some h') (X : Cx) : ∃ H', Put X xv yv vv H H' ∧ Ext ρ ρ H H' ∧ RelH R ρ φ H' h' := by
  cases x with
  | ref n =>
    simp only [RD] at rx
    obtain ⟨a, ea, rfl⟩ := rx
    have ha : a ∈ ρ := List.mem_of_getElem? ea
    unfold putF at e
    cases hc : h[n]? with
    | none => simp [hc] at e
    | some c =>
      have rc := rH.cells n a c ea hc
      simp only [hc] at e
      cases c with
      | ro xs => cases e
      | lst xs =>
        obtain ⟨vs, h1, h2⟩ := rc
        cases y with
        | int i =>
          simp only [RD] at ry
          subst ry
          obtain ⟨j, ej, rfl⟩ := Option.map_eq_some_iff.mp e
          rw [h2.len] at ej
          exact ⟨_, .inl ⟨a, vs, i, j, rfl, rfl, h1, ej, rfl⟩, Ext.write ha, rH.write ea ⟨_, upd_same, (RDs.set rv j h2).write ha⟩⟩
        | _ => cases e
      | dK kvs =>
        obtain ⟨kws, h1, h2⟩ := rc
        have hl : kvs.length = kws.length := by have := congrArg List.length h2.1; simpa using this
        have e : (if kvs.length < line then (keyD y).map fun k => h.set n (.dK (putD kvs k v)) else none) = some h' := e
        by_cases hz : kvs.length < line
        · rw [if_pos hz] at e
          obtain ⟨k, ek, rfl⟩ := Option.map_eq_some_iff.mp e
          exact ⟨_, .inr ⟨a, rfl, .inl ⟨kws, k, h1, keyD_rd ek ry, by rw [← hl, ← line_eq]; exact hz, rfl⟩⟩, Ext.write ha, rH.write ea ⟨_, upd_same, (krd_put h2 k rv).write ha⟩⟩
        · rw [if_neg hz] at e; cases e
      | dT kvs =>
        obtain ⟨kws, h1, h2⟩ := rc
        have hl : kvs.length = kws.length := by have := congrArg List.length h2.1; simpa using this
        have e : (if kvs.length < line then (tkeyD y).map fun k => h.set n (.dT (putD kvs k v)) else none) = some h' := e
        by_cases hz : kvs.length < line
        · rw [if_pos hz] at e
          obtain ⟨k, ek, rfl⟩ := Option.map_eq_some_iff.mp e
          cases y with
          | tup ds =>
            have ek : keysD ds = some k := ek
            simp only [RD] at ry
            obtain ⟨b, ws, rfl, g1, g2⟩ := ry
            have eb := keysD_rd ek g2
            subst eb
            exact ⟨_, .inr ⟨a, rfl, .inr ⟨kws, k, b, h1, rfl, g1.1, by rw [← hl, ← line_eq]; exact hz, rfl⟩⟩, Ext.write ha, rH.write ea ⟨_, upd_same, (krd_put h2 k rv).write ha⟩⟩
          | _ => cases ek
        · rw [if_neg hz] at e; cases e
  | _ => cases e
end
section
variable {X : Cx} {R : RC}
theorem set_put (hu : X.A.units + 100 < cLine) : PSet X (fun o i v H Q => ∃ H', Put X o i v H H' ∧ Q H') := by
  intro pins s σ H o i v ov iv u Q I ro ri rv ⟨H', p, q⟩
  rcases p with p | ⟨a, rfl, p⟩
  · refine set_list pins s σ H o i v ov iv u Q I ro ri rv ?_
    obtain ⟨l, xs, k, j, e1, e2, e3, e4, e5⟩ := p
    exact ⟨l, xs, k, j, e1, e2, e3, e4, by rw [e5]; exact q⟩
  · obtain rfl : ov = Value.ref a := ro
    exact d_setItem (by omega) I p ri rv fun s1 I1 => ⟨H', I1, q⟩
def Got (K : PySem.W.Frag) (x y z : V) (H : Hp) : Prop := (∃ p xs i, x = .ref p ∧ y = .int i ∧ SqL K H p xs ∧ atI xs i = some z) ∨ ∃ a, x = .ref a ∧ DGet H a y (some z)
theorem get_got (hu : X.A.units + 100 < cLine) : PGet X (fun o i H Q => ∃ z, Got X.K o i z H ∧ Q z H) := by
  intro pins s σ H o i ov iv Q I ro ri ⟨z, g, q⟩
  rcases g with ⟨p, xs, k, rfl, rfl, hq, he⟩ | ⟨a, rfl, g⟩
  · cases ro
    obtain ⟨t, rfl⟩ := ri
    obtain ⟨its, r, pl, hz⟩ := I.list hq
    obtain ⟨j, h1, h2, h3, h4, h5⟩ := atI_get he
    obtain ⟨w, ew, rw'⟩ := r.get h2
    have hl := r.length
    have hn := line63
    have fin : EP X pins σ Q w s := ⟨z, H, I, rw', q⟩
    by_cases h0 : 0 ≤ k
    · have hj : k.toNat = j := by
        rw [seqIndex_of h0 h5] at h1
        exact Option.some.inj h1
      exact wpAny_getItem_list pl.isList h0 (by omega) (by rw [hj]; simpa using ew) fin
    · have hj : (k + (its.toArray.size : Int)).toNat = j := by
        rw [seqIndex_neg (by omega) h4] at h1
        rw [List.size_toArray, ← hl]
        exact Option.some.inj h1
      exact wpAny_getItem_list_neg pl.isList (by omega) (by rw [List.size_toArray]; omega) (by omega) (by rw [hj]; simpa using ew) fin
  · obtain rfl : ov = Value.ref a := ro
    exact d_getItem (by omega) I g ri fun w' s3 I3 rw' => ⟨z, H, I3, rw', q⟩
def lstIx (xs : List D) : D → Option D
  | .int i => atD xs i
  | _ => none
theorem got_rel {ρ φ : List Addr} {H : Hp} {h : Hc} (rH : RelH R ρ φ H h) {n : Nat} {y : D} {xv yv : V} (rx : RD R ρ φ H (.ref n) xv) (ry : RD R ρ φ H y yv) {d : D} (e : idxF h (.ref n) y = some d) : ∃ z, Got R.K xv yv z H ∧ RD R ρ φ H d z := by
  have rx' := rx
  simp only [RD] at rx
  obtain ⟨a, ea, rfl⟩ := rx
  have lk : lookD h n y = some (some d) → ∃ z, Got R.K (.ref a) yv z H ∧ RD R ρ φ H d z := fun q => by
    obtain ⟨o', g, q'⟩ := look_get rH ry ea q
    rcases q' with ⟨q1, _⟩ | ⟨d', w, q1, q2, q3⟩
    · cases q1
    · cases q1
      subst q2
      exact ⟨w, .inr ⟨a, rfl, g⟩, q3⟩
  unfold idxF at e
  have fin : ∀ {xs : List D} {vs : List V}, SqL R.K H a vs → RDs R ρ φ H xs vs → lstIx xs y = some d → ∃ z, Got R.K (.ref a) yv z H ∧ RD R ρ φ H d z := by
    intro xs vs h1 h2 e
    cases y with
    | int i =>
      simp only [RD] at ry
      subst ry
      obtain ⟨v, g1, g2⟩ := rds_at h2 e
      exact ⟨v, .inl ⟨a, vs, i, rfl, rfl, h1, g1⟩, g2⟩
    | _ => cases e
  cases hc : h[n]? with
  | none =>
    simp only [hc] at e
    obtain ⟨o, e1, e2⟩ := Option.bind_eq_some_iff.mp e
    simp only [id] at e2; subst e2
    exact lk e1
  | some c =>
    have rc := rH.cells n a c ea hc
    simp only [hc] at e
    cases c with
    | lst xs => obtain ⟨vs, h1, h2⟩ := rc; exact fin (SqL.of h1) h2 (by cases y <;> exact e)
    | ro xs => obtain ⟨o, vs, h1, h2⟩ := rc; exact fin (.inl (.inr ⟨o, h1⟩)) h2 (by cases y <;> exact e)
    | dK kvs =>
      obtain ⟨o, e1, e2⟩ := Option.bind_eq_some_iff.mp e
      simp only [id] at e2; subst e2
      exact lk e1
    | dT kvs =>
      obtain ⟨o, e1, e2⟩ := Option.bind_eq_some_iff.mp e
      simp only [id] at e2; subst e2
      exact lk e1
def augOp : Operator → Bool
  | .Add => true
  | .Sub => true
  | .Mult => true
  | .FloorDiv => true
  | _ => false
theorem ip_int {op : Operator} (h : augOp op = true) : PIp X op (fun x y H Q => ∃ i j k, x = .int i ∧ y = .int j ∧ binF [] op (.int i) (.int j) = some (.int k) ∧ Q (.int k) H) := by
  intro pins s σ H x y v u Q I r1 r2 ⟨i, j, k, e1, e2, e3, q⟩
  subst e1 e2
  obtain ⟨t, rfl⟩ := r1
  obtain ⟨t', rfl⟩ := r2
  have fin : ∀ {m : Int}, k = m → ∀ tk : Tok, EP X pins σ Q (.int m tk) { s with toks := s.toks + 1 } := fun {m} e tk => by subst e; exact ⟨.int _, H, I.tok _, ⟨_, rfl⟩, q⟩
  cases op with
  | Add =>
    have e3 : some (Cl.D.int (i + j)) = some (.int k) := e3
    cases e3
    exact iadd_int (fin rfl _)
  | Sub =>
    have e3 : some (Cl.D.int (i - j)) = some (.int k) := e3
    cases e3
    exact isub_int (fin rfl _)
  | Mult =>
    have e3 : (if mulOk i j then some (Cl.D.int (i * j)) else none) = some (.int k) := e3
    split at e3
    · rename_i hz
      cases e3
      exact PyProof.Rows.imul_int (fin rfl _) (mulOk_ok hz)
    · cases e3
  | FloorDiv =>
    have e3 : (if divOk j then some (i.fdiv j) else none).map Cl.D.int = some (.int k) := e3
    split at e3
    · rename_i hz
      cases e3
      unfold divOk at hz
      rw [Bool.and_eq_true, decide_eq_true_eq, decide_eq_true_eq] at hz
      exact ifloordiv_int hz.1 (fin rfl _) (.inl (PyProof.noPylong_of_log2 hz.2))
    · cases e3
  | _ => exact Bool.noConfusion (show false = true from h)
end
section
variable {S : Sg} {R : RC} {P : Env2} {Y : XC} {n : Nat} {N : List Str} {cm : Bool} {sc : Scope} {X : Cx} {W : WX} {pos : Pos} (G : Gs S R P Y n N cm sc X W)
include G
theorem s_aug {i : Nat} {x : Str} {op : Operator} {c : CE} {e : Expr} {p : Pos} (h1 : N[i]? = some x) (h2 : sc.names.lookup x = some .local ∨ sc.names.lookup x = some .cell) (ho : augOp op = true) (he : PE X e (tE R Y W (evE P.C c))) : PS X (.AugAssign (.Name x p) op e pos) (tS R Y W (evS P (.aug i op c))) := by
  have hl : Loc X.env.scope x := h2.elim (fun z => .inl (G.g.sees.loc x z)) fun z => .inr (G.g.sees.cell x z)
  have hf : X.fn x = true ∨ X.env.scope.names.lookup x = some .local := h2.elim (fun z => .inr (G.g.sees.loc x z)) fun z => .inl (G.g.fnc x z)
  refine ps_imp (ps_aug (by rw [G.g.hN]; exact G.g.nd) (by rw [G.g.hN]; exact h1) hl he (ip_int ho) hf) fun D σ H ⟨ρ, φ, s, h, hS, hH, f⟩ => ?_
  simp only [evS] at f
  cases q : s[i]? with
  | none => simp only [q] at f; exact f.elim
  | some o =>
    cases o with
    | none => simp only [q] at f; exact f.elim
    | some d =>
      simp only [q] at f
      obtain ⟨v, e1, r1⟩ := hS.at_ i d q
      refine ⟨v, e1, ρ, φ, s, h, hS, hH, FinS.st (h := h) hS f fun y h1 ρ1 u H1 _ e1 hH1 hS1 r2 f1 => ?_⟩
      have r1 := r1.ext e1
      cases d with
      | int a =>
        cases y with
        | int b =>
          obtain ⟨z, ez, f2⟩ := FinS.stO f1
          simp only [RD] at r1 r2
          have ez' : binF [] op (.int a) (.int b) = some z := by
            rw [← ez]
            clear ez
            cases op <;> first | rfl | exact Bool.noConfusion (show false = true from ho)
          obtain ⟨k, rfl⟩ : ∃ k, z = .int k := by
            cases op with
            | Add => cases ez'; exact ⟨_, rfl⟩
            | Sub => cases ez'; exact ⟨_, rfl⟩
            | Mult =>
              have ez' : (if mulOk a b then some (Cl.D.int (a * b)) else none) = some z := ez'
              split at ez' <;> cases ez'
              exact ⟨_, rfl⟩
            | FloorDiv =>
              have ez' : (if divOk b then some (a.fdiv b) else none).map Cl.D.int = some z := ez'
              split at ez' <;> cases ez'
              exact ⟨_, rfl⟩
            | _ => exact Bool.noConfusion (show false = true from ho)
          exact ⟨a, b, k, r1, r2, ez', f2 ρ1 _ H1 Ext.refl (hS1.set i (by simp only [RD])) hH1⟩
        | _ => exact f1.elim
      | _ => exact f1.elim
omit G in
theorem sub_asg {o i : Expr} {p : Pos} {env : PySem.Env} (h : plainIxB i = true) : ∀ v, assign (.Subscript o i p) env v = (do
      let ov ← holding [v] (eval o env)
      let iv ← holding [v, ov] (eval i env)
      standAt p
      holding [v, ov, iv] (setItem ov iv v)
      release [v, ov, iv] []) := by
  intro v
  cases i <;> first | rfl | exact Bool.noConfusion (show false = true from h)
theorem s_sput {o i c : CE} {eo ei e : Expr} {p : Pos} (hp : plainIxB ei = true) (ho : PE X eo (tE R Y W (evE P.C o))) (hi : PE X ei (tE R Y W (evE P.C i))) (he : PE X e (tE R Y W (evE P.C c))) : PS X (.Assign [.Subscript eo ei p] e pos) (tS R Y W (evS P (.sput o i c))) := by
  have hs : swapsWithSole [.Subscript eo ei p] e pos.line X.env = pure false := by cases e <;> rfl
  have hw : swappedStores [.Subscript eo ei p] e X.env = pure none := by cases e <;> rfl
  refine ps_imp (ps_asg he (pg_sub ho hi (set_put G.g.hu) (sub_asg hp)) hs hw) fun D σ H ⟨ρ, φ, s, h, hS, hH, f⟩ => ?_
  simp only [evS] at f
  refine ⟨ρ, φ, s, h, hS, hH, FinS.st (h := h) hS f fun v h1 ρ1 u H1 _ e1 hH1 hS1 r1 f1 => ?_⟩
  refine ⟨ρ1, φ, s, h1, hS1, hH1, FinS.st (h := h) hS1 f1 fun x h2 ρ2 w H2 _ e2 hH2 hS2 r2 f2 => ?_⟩
  refine ⟨ρ2, φ, s, h2, hS2, hH2, FinS.st (h := h) hS2 f2 fun y h3 ρ3 z H3 _ e3 hH3 hS3 r3 f3 => ?_⟩
  obtain ⟨h4, e4, f4⟩ := FinS.stO f3
  obtain ⟨H4, pt, ex, hH4⟩ := put_rel hH3 (r2.ext e3) r3 ((r1.ext e2).ext e3) e4 X
  exact ⟨H4, pt, f4 ρ3 σ H4 ex (hS3.ext ex) hH4⟩
theorem s_saug {o i c : CE} {op : Operator} {eo ei e : Expr} {p : Pos} (hp : plainIxB ei = true) (hop : augOp op = true) (ho : PE X eo (tE R Y W (evE P.C o))) (hi : PE X ei (tE R Y W (evE P.C i))) (he : PE X e (tE R Y W (evE P.C c))) : PS X (.AugAssign (.Subscript eo ei p) op e pos) (tS R Y W (evS P (.saug o i op c))) := by
  have hst : ∀ ov iv new, augStore ei ov iv new = (do holding [new, ov, iv] (setItem ov iv new); release [new, ov, iv] []; pure .next) := by
    intro ov iv new
    cases ei <;> first | rfl | exact Bool.noConfusion (show false = true from hp)
  refine ps_imp (ps_augS ho hi (get_got G.g.hu) he (ip_int hop) (set_put G.g.hu) hst) fun D σ H ⟨ρ, φ, s, h, hS, hH, f⟩ => ?_
  simp only [evS] at f
  refine ⟨ρ, φ, s, h, hS, hH, FinS.st (h := h) hS f fun x h1 ρ1 w H1 _ e1 hH1 hS1 r1 f1 => ?_⟩
  refine ⟨ρ1, φ, s, h1, hS1, hH1, FinS.st (h := h) hS1 f1 fun y h2 ρ2 z H2 _ e2 hH2 hS2 r2 f2 => ?_⟩
  obtain ⟨u, eu, f2⟩ := FinS.stO f2
  have r1 := r1.ext e2
  cases x with
  | ref m =>
    obtain ⟨zv, gt, rz⟩ := got_rel hH2 r1 r2 eu
    refine ⟨zv, G.g.hK ▸ gt, ρ2, φ, s, h2, hS2, hH2, FinS.st (h := h) hS2 f2 fun v h3 ρ3 vv H3 _ e3 hH3 hS3 r3 f3 => ?_⟩
    cases u with
    | int a =>
      cases v with
      | int b =>
        have rz := rz.ext e3
        simp only [RD] at rz r3
        obtain ⟨w, ew, f3⟩ := FinS.stO f3
        obtain ⟨h4, e4, f4⟩ := FinS.stO f3
        have ew' : binF [] op (.int a) (.int b) = some w := by
          rw [← ew]
          cases op <;> first | rfl | exact Bool.noConfusion (show false = true from hop)
        obtain ⟨k, rfl⟩ : ∃ k, w = .int k := by
          cases op with
          | Add => cases ew'; exact ⟨_, rfl⟩
          | Sub => cases ew'; exact ⟨_, rfl⟩
          | Mult =>
            have ew' : (if mulOk a b then some (Cl.D.int (a * b)) else none) = some w := ew'
            split at ew' <;> cases ew'
            exact ⟨_, rfl⟩
          | FloorDiv =>
            have ew' : (if divOk b then some (a.fdiv b) else none).map Cl.D.int = some w := ew'
            split at ew' <;> cases ew'
            exact ⟨_, rfl⟩
          | _ => exact Bool.noConfusion (show false = true from hop)
        obtain ⟨H4, pt, ex, hH4⟩ := put_rel hH3 (r1.ext e3) (r2.ext e3) (show RD R ρ3 φ H3 (.int k) (.int k) from by simp only [RD]) e4 X
        exact ⟨a, b, k, rz, r3, ew', H4, pt, f4 ρ3 σ H4 ex (hS3.ext ex) hH4⟩
      | _ => exact f3.elim
    | _ => exact f3.elim
  | _ => cases eu
end
end Cl

namespace Cl
open PySem PySem.Spec PyProof.Rows L2
section
variable {S : Sg} {R : RC} {P : Env2} {Y : XC} {n : Nat} {N : List Str} {cm : Bool} {sc : Scope} {X : Cx} {W : WX} {pos : Pos} (G : Gs S R P Y n N cm sc X W)
include G
theorem s_app {o c : CE} {eo e : Expr} {apos cpos : Pos} (hb : baseOk eo = true) (hl : apos.endLine = cpos.line) (h1 : starEach [e] X.env = (false, eval e X.env) :: starEach [] X.env) (ho : PE X eo (tE R Y W (evE P.C o))) (he : PE X e (tE R Y W (evE P.C c))) :
    PS X (.Expr (.Call (.Attribute eo "append" apos) [e] [] cpos) pos) (tS R Y W (evS P (.app o c))) := by
  have t1 : backTo cpos (starEach [e] X.env) = [(false, eval e X.env)] := by rw [h1]; rfl
  have mt : MtR X "list.append" rAppend := mt_append
  refine ps_imp (ps_expr (pe_bm PySem.F.plainAttrs_list PySem.F.slot_list_append PySem.F.type_list_append mt ho (pa_cons he pa_nil h1) (attr_base hb) (by rw [t1]; rfl) (by rw [hl]; exact beq_self_eq_true _) h1 rfl)) fun D σ H ⟨ρ, φ, s, h, hS, hH, f⟩ => ?_
  simp only [evS] at f
  refine ⟨ρ, φ, s, h, hS, hH, FinS.st (h := h) hS f fun x h1 ρ1 w H1 _ e1 hH1 hS1 r1 f1 => ?_⟩
  by_cases hx : isLstD h1 x = false
  · rw [if_pos hx] at f1; exact f1.elim
  · rw [if_neg hx] at f1
    cases x with
    | ref m =>
      have r1' := r1
      simp only [RD] at r1
      obtain ⟨a, ea, rfl⟩ := r1
      have ty : tyV X.K "list" (.ref a) H1 := by
        unfold isLstD at hx
        cases hc : h1[m]? with
        | none => simp [hc] at hx
        | some cc =>
          have rc := hH1.cells m a cc ea hc
          cases cc with
          | lst xs => obtain ⟨vs, g1, g2⟩ := rc; exact .inl ⟨rfl, vs, SqL.of g1⟩
          | _ => simp [hc] at hx
      refine ⟨ty, ρ1, φ, s, h1, hS1, hH1, FinS.st (h := h) hS1 f1 fun v h2 ρ2 u H2 _ e2 hH2 hS2 r2 f2 => ?_⟩
      have ea2 := e2.get ea
      cases hc : h2[m]? with
      | none => simp only [hc] at f2; exact f2.elim
      | some cc =>
        have rc := hH2.cells m a cc ea2 hc
        cases cc with
        | lst xs =>
          obtain ⟨vs, g1, g2⟩ := rc
          simp only [hc] at f2
          by_cases hz : xs.length < line
          · rw [if_pos hz] at f2
            have ha : a ∈ ρ2 := List.mem_of_getElem? ea2
            have ex : Ext ρ2 ρ2 H2 (upd H2 a (.lst (vs ++ [u]))) := Ext.write ha
            exact ⟨a, vs, u, rfl, rfl, g1, by rw [← g2.len, ← line_eq]; exact hz, f2 ρ2 σ _ ex (hS2.ext ex) (hH2.write ea2 ⟨_, upd_same, (g2.append (RDs.one r2)).write ha⟩)⟩
          · rw [if_neg hz] at f2; exact f2.elim
        | _ => simp only [hc] at f2; exact f2.elim
    | _ => simp [isLstD] at hx
theorem s_raise {i : Nat} {c : CE} {x m : Str} {j : Nat} {p p2 p3 : Pos} (hcm : cm = true) (hx : S.excs[i]? = some x) (hg : isGlB sc x = true) (ha : c.isAbs = true) : PS X (.Raise (some (.Call (.Name x p) [.Constant (.str m) j p2] [] p3)) none pos) (tS R Y W (evS P (.raise i c))) := by
  obtain ⟨g1, g2⟩ := G.g.glb hg
  obtain ⟨Ca, B, nid, iid, bmB, F, q, gC, kC, rs, ey⟩ := G.exc i x hx
  refine ps_imp (ps_raise (G.g.calm hcm) G.g.tk (pmk_own F q gC kC (rs X rfl) g1 (nm_dbg g2).1)) fun D σ H ⟨ρ, φ, s, h, hS, hH, f⟩ => ?_
  simp only [evS, ha, if_true] at f
  exact f ρ _ _ σ H Ext.refl hS hH ⟨ey.symm, rfl⟩
/-! ### try -/
theorem Gs.tr {W' : WX} (pn : List (Addr × Obj)) (xe : Value → Shared → Prop) (tk : Takes (X.tr pn xe) W') (po : PassesOwn (model X.prog X.w) X.A X.env xe) : Gs S R P Y n N cm sc (X.tr pn xe) W' :=
  ⟨⟨G.g.hK, G.g.hN, G.g.nd, G.g.sees, G.g.fnc, G.g.calm, tk, G.g.hu, G.g.glob, G.g.blt, G.g.room, G.g.calls⟩, G.hsc, G.hfn, fun _ => po, G.stk, G.frm, G.exc, G.sub⟩
theorem Gs.suite (a : Addr) (pn : List (Addr × Obj)) : Gs S R P Y n N false sc (X.suite a pn) W0 :=
  ⟨⟨G.g.hK, G.g.hN, G.g.nd, G.g.sees, G.g.fnc, fun z => Bool.noConfusion z, takes0, G.g.hu, G.g.glob, G.g.blt, fun z => Bool.noConfusion z, G.g.calls⟩, G.hsc, G.hfn, fun z => Bool.noConfusion z, G.stk, G.frm, G.exc, G.sub⟩
theorem s_try {body suite : CSs} {i : Nat} {x : Str} {xs : List Stmt} {y0 : Stmt} {ys : List Stmt} {np p2 : Pos} (hx : S.excs[i]? = some x) (hg : isGlB sc x = true)
    (hb : ∀ {X' W'}, Gs S R P Y n N cm sc X' W' → PSs X' xs (tS R Y W' (evSs P body))) (hs : ∀ {X' W'}, Gs S R P Y n N false sc X' W' → PSs X' (y0 :: ys) (tS R Y W' (evSs P suite))) :
    PS X (.Try xs [.ExceptHandler (some (.Name x np)) none (y0 :: ys) p2] [] [] pos) (tS R Y W (evS P (.try_ body i suite))) := by
  obtain ⟨g1, g2⟩ := G.g.glb hg
  obtain ⟨Ca, B, nid, iid, bmB, F, q, gC, kC, rs, ey⟩ := G.exc i x hx
  refine ps_imp (ps_try_only (c := .ref Ca) (Wout := W) (tb := fun W' => tS R Y W' (evSs P body)) (ts := fun _ _ _ => tS R Y W0 (evSs P suite)) G.stk G.frm ⟨g1, (nm_dbg g2).1, .inl gC⟩ G.g.tk (fun W' pn xe tk po => hb (G.tr pn xe tk po)) fun a oe cls d pn _ _ => hs (G.suite a _)) fun D σ H ⟨ρ, φ, s, h, hS, hH, f⟩ => ?_
  simp only [evS] at f
  refine ⟨ρ, φ, s, h, hS, hH, ?_⟩
  cases r : evSs P body s h with
  | ok k h' => rw [r] at f; cases k <;> exact f
  | stuck => rw [r] at f; exact f
  | exc y c' h' =>
    rw [r] at f
    intro ρ1 cls dd σ1 H1 e1 hS1 hH1 rx
    have ecls : cls = Y.cls y.cls := rx.1
    cases sb : P.sub y.cls i with
    | none => simp only [sb] at f; exact f.elim
    | some b =>
      refine ⟨b, by rw [ecls, ← ey]; exact G.sub _ _ _ sb, fun hb1 a na => ?_, fun hb1 => ?_⟩
      · subst hb1
        simp only [sb] at f
        refine ⟨ρ1, φ, c', h', hS1, hH1, ?_⟩
        cases r2 : evSs P suite c' h' with
        | ok k h2 => rw [r2] at f; cases k <;> exact FinS.ext (r := SRes.ok _ h2) f e1
        | stuck => rw [r2] at f; exact f
        | exc _ _ _ => rw [r2] at f; exact f.elim
      · subst hb1
        simp only [sb] at f
        exact f ρ1 cls dd σ1 H1 e1 hS1 hH1 rx
/-! ### assignments -/
omit G in
theorem sw_none {e : Expr} {l : Nat} {env : PySem.Env} (h : (match e with | .ListComp _ _ _ _ => false | .SetComp _ _ _ _ => false | .DictComp _ _ _ _ _ => false | _ => true) = true) (t : Option Expr) : swapsWith e t l env = pure false := by
  cases e <;> first | rfl | exact Bool.noConfusion (show false = true from h)
theorem s_setP {i : Nat} {x : Str} {c : CE} {e : Expr} {p : Pos} (h : chkT N sc (.v i) (.Name x p) = true) (he : PE X e (tE R Y W (evE P.C c))) (hs : swapsWith e (some (.Name x p)) pos.line X.env = pure false) : PS X (.Assign [.Name x p] e pos) (tS R Y W (evS P (.asg (.v i) c))) := by
  simp only [chkT, Bool.and_eq_true, Bool.or_eq_true, decide_eq_true_eq] at h
  obtain ⟨⟨h1, h2⟩, h3⟩ := h
  have hl : Loc X.env.scope x := h2.elim (fun z => .inl (G.g.sees.loc x z)) fun z => .inr (G.g.sees.cell x z)
  have hf : X.fn x = true ∨ X.env.scope.names.lookup x = some .local := h2.elim (fun z => .inr (G.g.sees.loc x z)) fun z => .inl (G.g.fnc x z)
  refine ps_imp (ps_set (by rw [G.g.hN]; exact G.g.nd) (by rw [G.g.hN]; exact h1) hl he hs hf) fun D σ H ⟨ρ, φ, s, h, hS, hH, f⟩ => ?_
  simp only [evS] at f
  refine ⟨ρ, φ, s, h, hS, hH, FinS.st (h := h) hS f fun d h1 ρ1 v H1 _ e1 hH1 hS1 r1 f1 => ?_⟩
  obtain ⟨c', ec, f2⟩ := FinS.stO f1
  simp only [asgT, Option.some.injEq] at ec
  subst ec
  exact f2 ρ1 _ H1 Ext.refl (hS1.set i r1) hH1
/-! readings of new lists -/
omit G in
theorem rd_lst {f : EvF} (hl : ∀ s h d h', f s h = .ok d h' → ∃ xs, d = .lst xs) {σ : L2.St} {H : Hp} {Q : VK} (q : tE R Y W f σ H Q) : tL R Y W f σ H Q := by
  obtain ⟨ρ, φ, s, h, hS, hH, k⟩ := q
  refine ⟨ρ, φ, s, h, hS, hH, ?_, fun d h' e => hl s h d h' e⟩
  cases q : f s h with
  | stuck => rw [q] at k; exact k.elim
  | exc x h' => rw [q] at k; exact k
  | ok d h' =>
    obtain ⟨xs, rfl⟩ := hl s h d h' q
    rw [q] at k
    intro ρ' p ws H' e1 rH hp np ep rd
    refine k ρ' _ H' e1 (rH.weak fun a ha => by simp [ha]) ?_
    simp only [RD]
    exact ⟨p, ws, rfl, ⟨ep, (rH.phi p (by simp)).2, np⟩, rd.weak fun a ha => by simp [ha]⟩
omit G in
theorem rd_cell {C : Caller} {a : CE} {σ : L2.St} {H : Hp} {Q : VK} (q : tE R Y W (evE C (.cell a)) σ H Q) : tL R Y W (evE C a) σ H Q := by
  obtain ⟨ρ, φ, s, h, hS, hH, k⟩ := q
  simp only [evE] at k
  refine ⟨ρ, φ, s, h, hS, hH, ?_, fun d h' e => ?_⟩
  · cases q : evE C a s h with
    | stuck => rw [q] at k; exact k.elim
    | exc x h' => rw [q] at k; exact k
    | ok d h' =>
      rw [q] at k
      cases d with
      | lst xs =>
        intro ρ' p ws H' e1 rH hp np ep rd
        refine k (ρ' ++ [p]) _ H' (e1.cell hp) (rH.cell np ⟨ws, ep, rd⟩) ?_
        simp only [RD]
        exact ⟨p, by rw [← rH.len]; simp, rfl⟩
      | _ => exact k.elim
  · rw [e] at k
    cases d with
    | lst xs => exact ⟨xs, rfl⟩
    | _ => exact k.elim
omit G in
theorem comp_lst {C : Caller} {elt cond : CE} {t : Tg} {it : CI} {own : List Nat} : ∀ s h d h', evE C (.comp elt t it cond own) s h = .ok d h' → ∃ xs, d = .lst xs := by
  intro s hh d h' q
  simp only [evE] at q
  cases z : evI C it s hh with
  | ok ds h1 =>
    rw [z] at q
    simp only [ERes.bind] at q
    split at q
    · cases z2 : compF (evE C elt) (condR cond.isAbs (evE C cond)) t ds.g (cwipe s own) ds.xs h1 with
      | ok ys h2 => rw [z2] at q; simp only [lmap, ERes.ok.injEq] at q; exact ⟨_, q.1.symm⟩
      | exc _ _ => rw [z2] at q; cases q
      | stuck => rw [z2] at q; cases q
    · cases q
  | exc _ _ => rw [z] at q; cases q
  | stuck => rw [z] at q; cases q
/-- x = [..] on one line -/
theorem s_setC {i : Nat} {x : Str} {c : CE} {elt cond : CE} {t : Tg} {it : CI} {own : List Nat} {e : Expr} {p : Pos} (h1 : N[i]? = some x) (h2 : sc.names.lookup x = some .local) (hc : chkE S N sc cm (.comp elt t it cond own) e = true)
    (hs : swapsWith e (some (.Name x p)) pos.line X.env = pure true) (hr : ∀ σ H Q, tE R Y W (evE P.C c) σ H Q → tL R Y W (evE P.C (.comp elt t it cond own)) σ H Q) : PS X (.Assign [.Name x p] e pos) (tS R Y W (evS P (.asg (.v i) c))) := by
  unfold chkE at hc
  split at hc
  · rename_i y tg iter ifs a scope p2
    simp only [Bool.and_eq_true, decide_eq_true_eq] at hc
    obtain ⟨⟨⟨⟨⟨⟨⟨⟨⟨k1, rfl⟩, k2⟩, k3⟩, k4⟩, k5⟩, k6⟩, k6b⟩, k7⟩, k8⟩ := hc
    have b0 := blkOk_by k4
    have ok : BlkOk X.N X.env.scope scope (own.filterMap fun i => N[i]?.map fun x => (x, i)) := ⟨b0.kind, b0.uniq, by rw [G.g.hN]; exact b0.ix, fun y hy e => by
      rcases b0.free y hy e with q | q
      · exact .inl (G.g.sees.cell _ q)
      · exact G.g.sees.free _ q, by rw [G.g.hN]; exact b0.own⟩
    have ht : ∀ (s : Shared) (H : Hp) (Ca : Addr) (cl : List (Str × Addr)) (fp : List Addr), PTs (X.blk s H scope (compEnvC scope cl Ca X.env) fp) ifs (tT R Y W0 (condR cond.isAbs (evE P.C cond))) := fun s H Ca cl fp => by
      split at k7
      · rw [k7]; exact ts_nil
      · rw [Bool.and_eq_true, Bool.not_eq_true'] at k7
        rw [k7.1]; exact ts_one ((snd cond).t (G.g.blk s H Ca cl fp) k7.2)
      · cases k7
    refine ps_imp (ps_setLc (i := i) (G.g.calm k1) (by rw [G.g.hN]; exact G.g.nd) (by rw [G.g.hN]; exact h1) (G.g.sees.loc x h2) hs ((sndi it).i G.g k3) ok (fun s H Ca cl fp => g_tg (G.g.blk s H Ca cl fp) (G.g.calm k1) k6) ht (fun s H Ca cl fp => (snd elt).e (G.g.blk s H Ca cl fp) k8) (notset_fold k2)) fun D σ H ⟨ρ, φ, s, h, hS, hH, f⟩ => ?_
    simp only [evS] at f
    rw [k5]
    refine lc_read k6b ?_
    have : (fun c h => (evI P.C it c h).bind fun d h => if d.xs.length ≤ line then lmap [] (compF (evE P.C elt) (condR cond.isAbs (evE P.C cond)) t d.g (cwipe c own) d.xs h) else .stuck) = evE P.C (.comp elt t it cond own) := by
      funext c h
      simp only [evE]
    rw [this]
    refine hr σ H _ ⟨ρ, φ, s, h, hS, hH, FinS.st (h := h) hS f fun d h1 ρ1 v H1 _ e1 hH1 hS1 r1 f1 => ?_⟩
    obtain ⟨c', ec, f2⟩ := FinS.stO f1
    simp only [asgT, Option.some.injEq] at ec
    subst ec
    exact f2 ρ1 _ H1 Ext.refl (hS1.set i r1) hH1
  · cases hc
theorem s_setT {ts : Tgs} {c : CE} {es : List Expr} {e : Expr} {k : Nat} {p : Pos} (hcm : cm = true) (h : chkTs N sc ts es = true) (he : PE X e (tE R Y W (evE P.C c))) (hw : swappedStores [.Tuple es k p] e X.env = pure none) : PS X (.Assign [.Tuple es k p] e pos) (tS R Y W (evS P (.asg (.t ts) c))) := by
  have hs : swapsWithSole [.Tuple es k p] e pos.line X.env = pure false := by cases e <;> rfl
  refine ps_imp (ps_asg he (g_tg G.g (G.g.calm hcm) (t := .t ts) (by simpa only [chkT] using h)) hs hw) fun D σ H ⟨ρ, φ, s, h, hS, hH, f⟩ => ?_
  simp only [evS] at f
  refine ⟨ρ, φ, s, h, hS, hH, FinS.st (h := h) hS f fun d h1 ρ1 v H1 _ e1 hH1 hS1 r1 f1 => ?_⟩
  obtain ⟨c', ec, f2⟩ := FinS.stO f1
  exact ⟨ρ1, φ, s, h1, d, c', hS1, hH1, r1, ec, fun σ' hS' _ => f2 ρ1 σ' H1 Ext.refl hS' hH1⟩
theorem s_par2 {i j : Nat} {es : CEs} {x y : Str} {a b : Expr} {px py pt p2 : Pos} {kt k2 : Nat} (hcm : cm = true) (h1 : N[i]? = some x) (h2 : N[j]? = some y) (hij : i ≠ j) (hx : sc.names.lookup x = some .local) (hy : sc.names.lookup y = some .local) (ha : PA X [a, b] (tA R Y W (evEs P.C es)))
    (hw : swappedStores [.Tuple [.Name x px, .Name y py] kt pt] (.Tuple [a, b] k2 p2) X.env = pure (some [x, y])) : PS X (.Assign [.Tuple [.Name x px, .Name y py] kt pt] (.Tuple [a, b] k2 p2) pos) (tS R Y W (evS P (.asg (.t (.cons (.v i) (.cons (.v j) .nil))) (.tup es)))) := by
  refine ps_imp (ps_par (G.g.calm hcm) (by rw [G.g.hN]; exact G.g.nd) (by rw [G.g.hN]; exact h1) (by rw [G.g.hN]; exact h2) hij (G.g.sees.loc x hx) (G.g.sees.loc y hy) ha hw) fun D σ H ⟨ρ, φ, s, h, hS, hH, f⟩ => ?_
  simp only [evS, evE] at f
  have f' : FinS R Y W D ρ φ H ((evEs P.C es s h).st s fun ds h => stO (asgT (.t (.cons (.v i) (.cons (.v j) .nil))) (.tup ds) s) fun σ' => .ok (.nx σ') h) := by
    cases q : evEs P.C es s h <;> (rw [q] at f; exact f)
  refine ⟨ρ, φ, s, h, hS, hH, FinS.st (h := h) hS f' fun ds h1 ρ1 vs H1 _ e1 hH1 hS1 r1 f1 => ?_⟩
  obtain ⟨c', ec, f2⟩ := FinS.stO f1
  rcases ds with _ | ⟨d1, _ | ⟨d2, _ | ⟨d3, ds⟩⟩⟩
  · simp [asgT, asgTs] at ec
  · simp [asgT, asgTs] at ec
  · simp only [asgT, asgTs, Option.some.injEq] at ec
    subst ec
    simp only [RDs] at r1
    obtain ⟨v1, vs1, rfl, q1, v2, vs2, rfl, q2, rfl⟩ := r1
    exact ⟨v1, v2, rfl, f2 ρ1 _ H1 Ext.refl ((hS1.set i q1).set j q2) hH1⟩
  · simp [asgT, asgTs] at ec
theorem s_par3 {i j l : Nat} {es : CEs} {x y z : Str} {a b c : Expr} {px py pz pt p2 : Pos} {kt k2 : Nat} (hcm : cm = true) (h1 : N[i]? = some x) (h2 : N[j]? = some y) (h3 : N[l]? = some z) (hij : i ≠ j) (hil : i ≠ l) (hjl : j ≠ l) (hx : sc.names.lookup x = some .local) (hy : sc.names.lookup y = some .local) (hz : sc.names.lookup z = some .local)
    (ha : PA X [a, b, c] (tA R Y W (evEs P.C es)))
    (hw : swappedStores [.Tuple [.Name x px, .Name y py, .Name z pz] kt pt] (.Tuple [a, b, c] k2 p2) X.env = pure (some [x, y, z])) : PS X (.Assign [.Tuple [.Name x px, .Name y py, .Name z pz] kt pt] (.Tuple [a, b, c] k2 p2) pos) (tS R Y W (evS P (.asg (.t (.cons (.v i) (.cons (.v j) (.cons (.v l) .nil)))) (.tup es)))) := by
  refine ps_imp (ps_par3 (G.g.calm hcm) (by rw [G.g.hN]; exact G.g.nd) (by rw [G.g.hN]; exact h1) (by rw [G.g.hN]; exact h2) (by rw [G.g.hN]; exact h3) hij hil hjl (G.g.sees.loc x hx) (G.g.sees.loc y hy) (G.g.sees.loc z hz) ha hw) fun D σ H ⟨ρ, φ, s, h, hS, hH, f⟩ => ?_
  simp only [evS, evE] at f
  have f' : FinS R Y W D ρ φ H ((evEs P.C es s h).st s fun ds h => stO (asgT (.t (.cons (.v i) (.cons (.v j) (.cons (.v l) .nil)))) (.tup ds) s) fun σ' => .ok (.nx σ') h) := by
    cases q : evEs P.C es s h <;> (rw [q] at f; exact f)
  refine ⟨ρ, φ, s, h, hS, hH, FinS.st (h := h) hS f' fun ds h1 ρ1 vs H1 _ e1 hH1 hS1 r1 f1 => ?_⟩
  obtain ⟨c', ec, f2⟩ := FinS.stO f1
  rcases ds with _ | ⟨d1, _ | ⟨d2, _ | ⟨d3, _ | ⟨d4, ds⟩⟩⟩⟩
  · simp [asgT, asgTs] at ec
  · simp [asgT, asgTs] at ec
  · simp [asgT, asgTs] at ec
  · simp only [asgT, asgTs, Option.some.injEq] at ec
    subst ec
    simp only [RDs] at r1
    obtain ⟨v1, vs1, rfl, q1, v2, vs2, rfl, q2, v3, vs3, rfl, q3, rfl⟩ := r1
    exact ⟨v1, v2, v3, rfl, f2 ρ1 _ H1 Ext.refl (((hS1.set i q1).set j q2).set l q3) hH1⟩
  · simp [asgT, asgTs] at ec
end
end Cl

namespace Cl
open PySem PySem.Spec PyProof.Rows L2
/-! ### do the statements fit -/
/-- is a comprehension stored while its frame still stands (0: no comprehension; 1: yes; 2: no; 3: not served) -/
def lcMode (sc : Scope) (x : Str) (p : Pos) : Expr → Nat
  | .ListComp _ _ s q => if decide (sc.names.lookup x = some .local) && (p.line == q.line) && !(s.names.any fun (n, k) => n == x && (k == .local || k == .cell)) then 1 else 2
  | .SetComp _ _ _ _ => 3
  | .DictComp _ _ _ _ _ => 3
  | _ => 0
def notStar : Expr → Bool
  | .Starred _ _ => false
  | _ => true
/-- a, b = x, y: 0 as a tuple, 2 and 3 stored from the right, 9 not served -/
def parMode (sc : Scope) : List Expr → Expr → Nat
  | [.Name x px, .Name y py], .Tuple [a, b] _ _ =>
    if notStar a && notStar b then
      if decide (sc.names.lookup x = some .local) && decide (sc.names.lookup y = some .local) && (py.line == px.line) && decide (x ≠ y) then
        if foldedForSure 8 a && foldedForSure 8 b then 0 else if constantsAlone 8 a && constantsAlone 8 b then 9 else 2
      else if !decide (sc.names.lookup x = some .local) || !decide (sc.names.lookup y = some .local) then 0 else 9
    else 9
  | [.Name x px, .Name y py, .Name z pz], .Tuple [a, b, c] _ _ =>
    if notStar a && notStar b && notStar c then
      if decide (sc.names.lookup x = some .local) && decide (sc.names.lookup y = some .local) && decide (sc.names.lookup z = some .local) && (py.line == px.line) && (pz.line == px.line) && decide (x ≠ y) && decide (x ≠ z) && decide (y ≠ z) then
        if foldedForSure 8 a && foldedForSure 8 b && foldedForSure 8 c then 0 else if constantsAlone 8 a && constantsAlone 8 b && constantsAlone 8 c then 9 else 3
      else if !decide (sc.names.lookup x = some .local) || !decide (sc.names.lookup y = some .local) || !decide (sc.names.lookup z = some .local) then 0 else 9
    else 9
  | es, .Tuple vs _ _ => if !(es.length == 2 || es.length == 3) || vs.length != es.length then 0 else 9
  | _, _ => 0
theorem star_no {a : Expr} : notStar a = true → (match a with | .Starred _ _ => true | _ => false) = false := by
  intro h
  cases a <;> first | rfl | exact Bool.noConfusion (show false = true from h)
theorem ne_beq {x y : Str} (h : x ≠ y) : (y == x) = false := by simpa using Ne.symm h
theorem par0 {sc : Scope} {es : List Expr} {e : Expr} {k : Nat} {p : Pos} {env : PySem.Env} (hsc : env.scope = sc) (hk : sc.kind = .function) (h : parMode sc es e = 0) : swappedStores [.Tuple es k p] e env = pure none := by
  have bk : env.blockKind = .function := by unfold Env.blockKind; rw [hsc, hk]; rfl
  have kn : ∀ x, env.kindOf x = sc.names.lookup x := fun x => by unfold Env.kindOf; rw [hsc]
  unfold parMode at h
  split at h
  · rename_i x px y py a b k2 p2
    split at h
    · rename_i hs
      split at h
      · rename_i hc
        split at h
        · rename_i hf
          simp only [Bool.and_eq_true, decide_eq_true_eq, beq_iff_eq] at hc hf hs
          obtain ⟨⟨⟨c1, c2⟩, c3⟩, c4⟩ := hc
          have s1 := star_no hs.1
          have s2 := star_no hs.2
          unfold swappedStores
          simp [bk, kn, c1, c2, c3, Ne.symm c4, c4, ne_beq c4, hf.1, hf.2, Expr.pos, s1, s2, List.eraseDups, List.eraseDupsBy, List.eraseDupsBy.loop]
        · split at h <;> cases h
      · split at h
        · rename_i hn
          simp only [Bool.and_eq_true] at hs
          have s1 := star_no hs.1
          have s2 := star_no hs.2
          unfold swappedStores
          rw [Bool.or_eq_true, Bool.not_eq_true', Bool.not_eq_true', decide_eq_false_iff_not, decide_eq_false_iff_not] at hn
          by_cases hx : sc.names.lookup x = some .local
          · have hy : ¬ sc.names.lookup y = some .local := hn.resolve_left fun z => z hx
            simp [bk, kn, hx, hy, Expr.pos, s1, s2, List.filterMap_cons]
          · by_cases hy : sc.names.lookup y = some .local ∧ py.line = px.line
            · simp [bk, kn, hx, hy.1, hy.2, Expr.pos, s1, s2, List.filterMap_cons]
            · simp [bk, kn, hx, hy, Expr.pos, s1, s2, List.filterMap_cons]
        · cases h
    · cases h
  · rename_i x px y py z pz a b c k2 p2
    split at h
    · rename_i hs
      split at h
      · rename_i hc
        split at h
        · rename_i hf
          simp only [Bool.and_eq_true, decide_eq_true_eq, beq_iff_eq] at hc hf hs
          obtain ⟨⟨⟨⟨⟨⟨⟨c1, c2⟩, c3⟩, c4⟩, c5⟩, c6⟩, c7⟩, c8⟩ := hc
          have s1 := star_no hs.1.1
          have s2 := star_no hs.1.2
          have s3 := star_no hs.2
          unfold swappedStores
          simp [bk, kn, c1, c2, c3, c4, c5, c6, c7, c8, Ne.symm c6, Ne.symm c7, Ne.symm c8, ne_beq c6, ne_beq c7, ne_beq c8, hf.1.1, hf.1.2, hf.2, Expr.pos, s1, s2, s3, List.eraseDups, List.eraseDupsBy, List.eraseDupsBy.loop]
        · split at h <;> cases h
      · split at h
        · rename_i hn
          simp only [Bool.and_eq_true] at hs
          have s1 := star_no hs.1.1
          have s2 := star_no hs.1.2
          have s3 := star_no hs.2
          unfold swappedStores
          simp only [Bool.or_eq_true, Bool.not_eq_true', decide_eq_false_iff_not] at hn
          by_cases hx : sc.names.lookup x = some .local <;> by_cases hy : sc.names.lookup y = some .local ∧ py.line = px.line <;> by_cases hz : sc.names.lookup z = some .local ∧ pz.line = px.line <;>
            first
              | (exfalso; exact hn.elim (fun q => q.elim (fun q => q hx) fun q => q hy.1) fun q => q hz.1)
              | simp [bk, kn, hx, hy, hz, Expr.pos, s1, s2, s3, List.filterMap_cons]
        · cases h
    · cases h
  · rename_i vs k2 p2 _ _
    split at h
    · rename_i hc
      unfold swappedStores
      have hc' : (!(es.length == 2 || es.length == 3) || vs.length != es.length || env.blockKind != .function) = true := by rw [hc]; rfl
      simp only [hc', if_true]
    · cases h
  · rename_i hn1 hn2 hn
    cases e <;> first | rfl | exact absurd rfl (hn _ _ _) | exact absurd rfl (hn2 _ _ _) | exact absurd rfl (hn1 _ _ _)
theorem par2 {sc : Scope} {es : List Expr} {e : Expr} {k : Nat} {p : Pos} {env : PySem.Env} (hsc : env.scope = sc) (hk : sc.kind = .function) (h : parMode sc es e = 2) :
    ∃ x px y py a b k2 p2, es = [.Name x px, .Name y py] ∧ e = .Tuple [a, b] k2 p2 ∧ sc.names.lookup x = some .local ∧ sc.names.lookup y = some .local ∧ x ≠ y ∧ swappedStores [.Tuple es k p] e env = pure (some [x, y]) := by
  have bk : env.blockKind = .function := by unfold Env.blockKind; rw [hsc, hk]; rfl
  have kn : ∀ x, env.kindOf x = sc.names.lookup x := fun x => by unfold Env.kindOf; rw [hsc]
  unfold parMode at h
  split at h
  · rename_i x px y py a b k2 p2
    split at h
    · rename_i hs
      split at h
      · rename_i hc
        split at h
        · cases h
        · rename_i hf
          split at h
          · cases h
          · rename_i hg
            simp only [Bool.and_eq_true, decide_eq_true_eq, beq_iff_eq] at hc hf hs hg
            obtain ⟨⟨⟨c1, c2⟩, c3⟩, c4⟩ := hc
            have s1 := star_no hs.1
            have s2 := star_no hs.2
            refine ⟨x, px, y, py, a, b, k2, p2, rfl, rfl, c1, c2, c4, ?_⟩
            unfold swappedStores
            simp [bk, kn, c1, c2, c3, Ne.symm c4, c4, ne_beq c4, hf, hg, Expr.pos, s1, s2, List.eraseDups, List.eraseDupsBy, List.eraseDupsBy.loop]
            intro q
            exfalso
            rcases q with q | q
            · cases a <;> first | exact Bool.noConfusion (show false = true from q) | exact Bool.noConfusion (show false = true from hs.1)
            · cases b <;> first | exact Bool.noConfusion (show false = true from q) | exact Bool.noConfusion (show false = true from hs.2)
      · split at h <;> cases h
    · cases h
  · split at h
    · split at h
      · split at h
        · cases h
        · split at h <;> cases h
      · split at h <;> cases h
    · cases h
  · split at h <;> cases h
  · cases h
theorem par3 {sc : Scope} {es : List Expr} {e : Expr} {k : Nat} {p : Pos} {env : PySem.Env} (hsc : env.scope = sc) (hk : sc.kind = .function) (h : parMode sc es e = 3) :
    ∃ x px y py z pz a b c k2 p2, es = [.Name x px, .Name y py, .Name z pz] ∧ e = .Tuple [a, b, c] k2 p2 ∧ sc.names.lookup x = some .local ∧ sc.names.lookup y = some .local ∧ sc.names.lookup z = some .local ∧ x ≠ y ∧ x ≠ z ∧ y ≠ z ∧ swappedStores [.Tuple es k p] e env = pure (some [x, y, z]) := by
  have bk : env.blockKind = .function := by unfold Env.blockKind; rw [hsc, hk]; rfl
  have kn : ∀ x, env.kindOf x = sc.names.lookup x := fun x => by unfold Env.kindOf; rw [hsc]
  unfold parMode at h
  split at h
  · split at h
    · split at h
      · split at h
        · cases h
        · split at h <;> cases h
      · split at h <;> cases h
    · cases h
  · rename_i x px y py z pz a b c k2 p2
    split at h
    · rename_i hs
      split at h
      · rename_i hc
        split at h
        · cases h
        · rename_i hf
          split at h
          · cases h
          · rename_i hg
            simp only [Bool.and_eq_true, decide_eq_true_eq, beq_iff_eq] at hc hf hs hg
            obtain ⟨⟨⟨⟨⟨⟨⟨c1, c2⟩, c3⟩, c4⟩, c5⟩, c6⟩, c7⟩, c8⟩ := hc
            have s1 := star_no hs.1.1
            have s2 := star_no hs.1.2
            have s3 := star_no hs.2
            refine ⟨x, px, y, py, z, pz, a, b, c, k2, p2, rfl, rfl, c1, c2, c3, c6, c7, c8, ?_⟩
            have hf' : foldedForSure 8 a = true → foldedForSure 8 b = true → foldedForSure 8 c = false := fun q1 q2 => by
              cases q3 : foldedForSure 8 c with
              | false => rfl
              | true => exact absurd ⟨⟨q1, q2⟩, q3⟩ hf
            have hg' : constantsAlone 8 a = true → constantsAlone 8 b = true → constantsAlone 8 c = false := fun q1 q2 => by
              cases q3 : constantsAlone 8 c with
              | false => rfl
              | true => exact absurd ⟨⟨q1, q2⟩, q3⟩ hg
            unfold swappedStores
            have e1 : (foldedForSure 8 a && (foldedForSure 8 b && foldedForSure 8 c)) = false := by
              cases q1 : foldedForSure 8 a <;> cases q2 : foldedForSure 8 b <;> simp_all
            have e2 : (constantsAlone 8 a && (constantsAlone 8 b && constantsAlone 8 c)) = false := by
              cases q1 : constantsAlone 8 a <;> cases q2 : constantsAlone 8 b <;> simp_all
            simp [bk, kn, c1, c2, c3, c4, c5, c6, c7, c8, Ne.symm c6, Ne.symm c7, Ne.symm c8, ne_beq c6, ne_beq c7, ne_beq c8, Expr.pos, s1, s2, s3, List.eraseDups, List.eraseDupsBy, List.eraseDupsBy.loop, -Bool.and_eq_true, e1, e2]
            intro q
            exfalso
            rcases q with q | q | q
            · cases a <;> first | exact Bool.noConfusion (show false = true from q) | exact Bool.noConfusion (show false = true from hs.1.1)
            · cases b <;> first | exact Bool.noConfusion (show false = true from q) | exact Bool.noConfusion (show false = true from hs.1.2)
            · cases c <;> first | exact Bool.noConfusion (show false = true from q) | exact Bool.noConfusion (show false = true from hs.2)
      · split at h <;> cases h
    · cases h
  · split at h <;> cases h
  · cases h
end Cl

namespace Cl
open PySem PySem.Spec PyProof.Rows L2
def compOf : CE → CE
  | .cell c => c
  | c => c
def isCompB : CE → Bool
  | .comp _ _ _ _ _ => true
  | _ => false
mutual
def chkS (S : Sg) (N : List Str) (sc : Scope) : Bool → CS → Stmt → Bool
  | cm, .asg t c, st => match st with
    | .Assign [.Name x p] e _ => (match t with | .v _ => true | _ => false) && chkT N sc t (.Name x p) && (match lcMode sc x p e with
      | 0 => chkE S N sc cm c e
      | 1 => isCompB (compOf c) && chkE S N sc cm (compOf c) e
      | 2 => chkE S N sc cm c e
      | _ => false)
    | .Assign [.Tuple es _ _] e _ => cm && (match t with | .t ts => chkTs N sc ts es | _ => false) && chkE S N sc cm c e && (match parMode sc es e with | 0 => true | 2 => true | 3 => true | _ => false)
    | _ => false
  | cm, .aug i op c, st => match st with
    | .AugAssign (.Name x _) o e _ => decide (op = o) && decide (N[i]? = some x) && (decide (sc.names.lookup x = some .local) || decide (sc.names.lookup x = some .cell)) && augOp op && chkE S N sc cm c e
    | _ => false
  | cm, .sput o i c, st => match st with
    | .Assign [.Subscript eo ei _] e _ => plainIxB ei && chkE S N sc cm o eo && chkE S N sc cm i ei && chkE S N sc cm c e
    | _ => false
  | cm, .saug o i op c, st => match st with
    | .AugAssign (.Subscript eo ei _) q e _ => decide (op = q) && plainIxB ei && augOp op && chkE S N sc cm o eo && chkE S N sc cm i ei && chkE S N sc cm c e
    | _ => false
  | cm, .expr c, st => match st with
    | .Expr e _ => (match e with | .ListComp _ _ _ _ => false | .SetComp _ _ _ _ => false | .DictComp _ _ _ _ _ => false | _ => true) && chkE S N sc cm c e
    | _ => false
  | cm, .app o c, st => match st with
    | .Expr (.Call (.Attribute eo m ap) [e] [] cp) _ => decide (m = "append") && baseOk eo && decide (ap.endLine = cp.line) && chkE S N sc cm o eo && chkE S N sc cm c e
    | _ => false
  | cm, .ifs t a b, st => match st with
    | .If e xs ys _ => chkE S N sc cm t e && chkSs S N sc cm a xs && chkSs S N sc cm b ys
    | _ => false
  | cm, .for_ t it a, st => match st with
    | .For tg e xs [] _ => cm && chkT N sc t tg && notSet e && chkI S N sc cm it tg e && chkSs S N sc cm a xs
    | _ => false
  | cm, .whl t a, st => match st with
    | .While e xs [] _ => cm && chkE S N sc cm t e && chkSs S N sc cm a xs
    | _ => false
  | cm, .ret c, st => match st with
    | .Return (some e) _ => chkE S N sc cm c e
    | _ => false
  | _, .retN, st => match st with
    | .Return none _ => true
    | _ => false
  | _, .brk, st => match st with
    | .Break _ => true
    | _ => false
  | _, .pass, st => match st with
    | .Pass _ => true
    | _ => false
  | cm, .raise i c, st => match st with
    | .Raise (some (.Call (.Name x _) [.Constant (.str _) _ _] [] _)) none _ => cm && decide (S.excs[i]? = some x) && isGlB sc x && c.isAbs
    | _ => false
  | cm, .try_ body i suite, st => match st with
    | .Try xs [.ExceptHandler (some (.Name x _)) none (y0 :: ys) _] [] [] _ => decide (S.excs[i]? = some x) && isGlB sc x && chkSs S N sc cm body xs && chkSs S N sc false suite (y0 :: ys)
    | _ => false
  | _, .kill _, _ => false
  | _, .scope _, _ => false
def chkSs (S : Sg) (N : List Str) (sc : Scope) : Bool → CSs → List Stmt → Bool
  | _, .nil, sts => match sts with
    | [] => true
    | _ => false
  | cm, .cons c cs, sts => (match c with | .kill _ => chkSs S N sc cm cs sts | _ => false) || (match cs with | .nil => chkSc S N sc cm c sts | _ => false) || (match sts with
    | st :: sts => chkS S N sc cm c st && chkSs S N sc cm cs sts
    | [] => false)
def chkSc (S : Sg) (N : List Str) (sc : Scope) : Bool → CS → List Stmt → Bool
  | cm, .scope ss, sts => chkSs S N sc cm ss sts
  | _, _, _ => false
end
section
variable {S : Sg} {R : RC} {P : Env2} {Y : XC} {n : Nat}
theorem chk_tup {N : List Str} {sc : Scope} {cm : Bool} {c : CE} {es : List Expr} {k : Nat} {p : Pos} (h : chkE S N sc cm c (.Tuple es k p) = true) : ∃ cs, c = .tup cs ∧ chkEs S N sc cm cs es = true := by
  cases c with
  | tup cs =>
    simp only [chkE, Bool.and_eq_true, decide_eq_true_eq] at h
    exact ⟨cs, rfl, h.2⟩
  | bi b args => cases b <;> exact Bool.noConfusion (show false = true from h)
  | cell c =>
    exfalso
    have h' : (freshC c && chkE S N sc cm c (.Tuple es k p)) = true := h
    rw [Bool.and_eq_true] at h'
    cases c with
    | bi b args => cases b <;> exact Bool.noConfusion (show false = true from h'.2)
    | _ => first | exact Bool.noConfusion (show false = true from h'.2) | exact Bool.noConfusion (show false = true from h'.1)
  | _ => exact Bool.noConfusion (show false = true from h)
structure SndS (S : Sg) (R : RC) (P : Env2) (Y : XC) (n : Nat) (c : CS) : Prop where
  s : ∀ {N cm sc X W st}, Gs S R P Y n N cm sc X W → chkS S N sc cm c st = true → PS X st (tS R Y W (evS P c))
  sc : ∀ ss, c = .scope ss → ∀ {N cm sc X W sts}, Gs S R P Y n N cm sc X W → chkSs S N sc cm ss sts = true → PSs X sts (tS R Y W (evSs P ss))
structure SndSs (S : Sg) (R : RC) (P : Env2) (Y : XC) (n : Nat) (cs : CSs) : Prop where
  s : ∀ {N cm sc X W sts}, Gs S R P Y n N cm sc X W → chkSs S N sc cm cs sts = true → PSs X sts (tS R Y W (evSs P cs))
theorem lc_swap {N : List Str} {cm : Bool} {sc : Scope} {X : Cx} {W : WX} (G : Gs S R P Y n N cm sc X W) {x : Str} {p : Pos} {e : Expr} (l : Nat) :
    (lcMode sc x p e = 0 → swapsWith e (some (.Name x p)) l X.env = pure false) ∧ (lcMode sc x p e = 2 → swapsWith e (some (.Name x p)) l X.env = pure false) ∧ (lcMode sc x p e = 1 → sc.names.lookup x = some .local ∧ swapsWith e (some (.Name x p)) l X.env = pure true) := by
  have bk : X.env.blockKind = .function := by unfold Env.blockKind; rw [G.hsc, G.hfn]; rfl
  have kn : X.env.kindOf x = sc.names.lookup x := by unfold Env.kindOf; rw [G.hsc]
  cases e with
  | ListComp a gs s q =>
    have e0 : swapsWith (.ListComp a gs s q) (some (.Name x p)) l X.env = pure (X.env.blockKind == .function && X.env.kindOf x == some .local && p.line == q.line && !(s.names.any fun (n, k) => n == x && (k == .local || k == .cell))) := rfl
    rw [e0, bk, kn]
    have e1 : lcMode sc x p (.ListComp a gs s q) = if (decide (sc.names.lookup x = some .local) && (p.line == q.line) && !(s.names.any fun (n, k) => n == x && (k == .local || k == .cell))) = true then 1 else 2 := rfl
    rw [e1]
    by_cases hc : (decide (sc.names.lookup x = some .local) && (p.line == q.line) && !(s.names.any fun (n, k) => n == x && (k == .local || k == .cell))) = true
    · rw [if_pos hc]
      refine ⟨fun z => (by cases z), fun z => (by cases z), fun _ => ?_⟩
      simp only [Bool.and_eq_true, decide_eq_true_eq] at hc
      refine ⟨hc.1.1, ?_⟩
      rw [hc.1.1, hc.1.2, hc.2]
      rfl
    · rw [if_neg hc]
      refine ⟨fun z => (by cases z), fun _ => ?_, fun z => (by cases z)⟩
      congr 1
      cases h1 : (p.line == q.line) with
      | false => simp
      | true =>
        cases h2 : (s.names.any fun (n, k) => n == x && (k == .local || k == .cell)) with
        | true => simp
        | false =>
          simp only [h1, h2, Bool.and_true, Bool.not_false, decide_eq_true_eq] at hc
          simp only [Bool.and_true, Bool.not_false]
          simp [hc]
  | SetComp _ _ _ _ => exact ⟨fun z => absurd (show (3 : Nat) = 0 from z) (by decide), fun z => absurd (show (3 : Nat) = 2 from z) (by decide), fun z => absurd (show (3 : Nat) = 1 from z) (by decide)⟩
  | DictComp _ _ _ _ _ => exact ⟨fun z => absurd (show (3 : Nat) = 0 from z) (by decide), fun z => absurd (show (3 : Nat) = 2 from z) (by decide), fun z => absurd (show (3 : Nat) = 1 from z) (by decide)⟩
  | _ => exact ⟨fun _ => rfl, fun z => absurd (show (0 : Nat) = 2 from z) (by decide), fun z => absurd (show (0 : Nat) = 1 from z) (by decide)⟩
theorem snds_asg {t : Tg} {c : CE} : SndS S R P Y n (.asg t c) := ⟨fun {N cm sc X W st} G h => by
  unfold chkS at h
  split at h
  · rename_i x p e pos
    rw [Bool.and_eq_true, Bool.and_eq_true] at h
    obtain ⟨⟨h1, h2⟩, h3⟩ := h
    cases t with
    | v i =>
      obtain ⟨w0, w2, w1⟩ := lc_swap G (x := x) (p := p) (e := e) pos.line
      split at h3
      · rename_i hm
        exact s_setP G h2 ((snd c).e G.g h3) (w0 hm)
      · rename_i hm
        obtain ⟨hl, hs⟩ := w1 hm
        rw [Bool.and_eq_true] at h3
        simp only [chkT, Bool.and_eq_true, decide_eq_true_eq] at h2
        cases c with
        | comp a t2 it d own => exact s_setC G h2.1.1 hl h3.2 hs fun σ H Q q => rd_lst comp_lst q
        | cell c2 =>
          cases c2 with
          | comp a t2 it d own => exact s_setC G h2.1.1 hl h3.2 hs fun σ H Q q => rd_cell q
          | _ => exact Bool.noConfusion (show false = true from h3.1)
        | _ => exact Bool.noConfusion (show false = true from h3.1)
      · rename_i hm
        exact s_setP G h2 ((snd c).e G.g h3) (w2 hm)
      · cases h3
    | t ts => exact Bool.noConfusion (show false = true from h1)
  · rename_i es k p e pos
    simp only [Bool.and_eq_true] at h
    obtain ⟨⟨⟨h1, h2⟩, h3⟩, h4⟩ := h
    cases t with
    | v i => exact Bool.noConfusion (show false = true from h2)
    | t ts =>
      have h2 : chkTs N sc ts es = true := h2
      split at h4
      · rename_i hm
        exact s_setT G h1 h2 ((snd c).e G.g h3) (par0 G.hsc G.hfn hm)
      · rename_i hm
        obtain ⟨x, px, y, py, a, b, k2, p2, rfl, rfl, l1, l2, hxy, hw⟩ := par2 (k := k) (p := p) G.hsc G.hfn hm
        obtain ⟨cs, rfl, h5⟩ := chk_tup h3
        rcases ts with _ | ⟨t1, _ | ⟨t2, _ | ⟨t3, ts⟩⟩⟩
        · simp [chkTs] at h2
        · simp [chkTs] at h2
        · simp only [chkTs, Bool.and_eq_true] at h2
          cases t1 with
          | v i =>
            cases t2 with
            | v j =>
              simp only [chkT, Bool.and_eq_true, decide_eq_true_eq] at h2
              obtain ⟨⟨⟨h21, _⟩, _⟩, ⟨⟨h22, _⟩, _⟩, _⟩ := h2
              refine s_par2 G h1 h21 h22 (fun z => hxy ?_) l1 l2 ((snda cs).a G.g h5) hw
              rw [z, h22] at h21
              exact (Option.some.inj h21).symm
            | t _ => simp [chkT] at h2
          | t _ => simp [chkT] at h2
        · simp [chkTs] at h2
      · rename_i hm
        obtain ⟨x, px, y, py, z, pz, a, b, d, k2, p2, rfl, rfl, l1, l2, l3, hxy, hxz, hyz, hw⟩ := par3 (k := k) (p := p) G.hsc G.hfn hm
        obtain ⟨cs, rfl, h5⟩ := chk_tup h3
        rcases ts with _ | ⟨t1, _ | ⟨t2, _ | ⟨t3, _ | ⟨t4, ts⟩⟩⟩⟩
        · simp [chkTs] at h2
        · simp [chkTs] at h2
        · simp [chkTs] at h2
        · simp only [chkTs, Bool.and_eq_true] at h2
          cases t1 with
          | v i =>
            cases t2 with
            | v j =>
              cases t3 with
              | v l =>
                simp only [chkT, Bool.and_eq_true, decide_eq_true_eq] at h2
                obtain ⟨⟨⟨h21, _⟩, _⟩, ⟨⟨h22, _⟩, _⟩, ⟨⟨h23, _⟩, _⟩, _⟩ := h2
                refine s_par3 G h1 h21 h22 h23 (fun q => hxy ?_) (fun q => hxz ?_) (fun q => hyz ?_) l1 l2 l3 ((snda cs).a G.g h5) hw
                · rw [q, h22] at h21
                  exact (Option.some.inj h21).symm
                · rw [q, h23] at h21
                  exact (Option.some.inj h21).symm
                · rw [q, h23] at h22
                  exact (Option.some.inj h22).symm
              | t _ => simp [chkT] at h2
            | t _ => simp [chkT] at h2
          | t _ => simp [chkT] at h2
        · simp [chkTs] at h2
      · cases h4
  · exact Bool.noConfusion h, fun ss z => (by cases z)⟩
theorem snds_aug {i : Nat} {op : Operator} {c : CE} : SndS S R P Y n (.aug i op c) := ⟨fun {N cm sc X W st} G h => by
  unfold chkS at h
  split at h
  · simp only [Bool.and_eq_true, Bool.or_eq_true, decide_eq_true_eq] at h
    obtain ⟨⟨⟨⟨rfl, h1⟩, h2⟩, h3⟩, h4⟩ := h
    exact s_aug G h1 h2 h3 ((snd c).e G.g h4)
  · exact Bool.noConfusion h, fun ss z => (by cases z)⟩
theorem snds_sput {o i c : CE} : SndS S R P Y n (.sput o i c) := ⟨fun {N cm sc X W st} G h => by
  unfold chkS at h
  split at h
  · simp only [Bool.and_eq_true] at h
    obtain ⟨⟨⟨h1, h2⟩, h3⟩, h4⟩ := h
    exact s_sput G h1 ((snd o).e G.g h2) ((snd i).e G.g h3) ((snd c).e G.g h4)
  · exact Bool.noConfusion h, fun ss z => (by cases z)⟩
theorem snds_saug {o i c : CE} {op : Operator} : SndS S R P Y n (.saug o i op c) := ⟨fun {N cm sc X W st} G h => by
  unfold chkS at h
  split at h
  · simp only [Bool.and_eq_true, decide_eq_true_eq] at h
    obtain ⟨⟨⟨⟨⟨rfl, h1⟩, h2⟩, h3⟩, h4⟩, h5⟩ := h
    exact s_saug G h1 h2 ((snd o).e G.g h3) ((snd i).e G.g h4) ((snd c).e G.g h5)
  · exact Bool.noConfusion h, fun ss z => (by cases z)⟩
theorem snds_expr {c : CE} : SndS S R P Y n (.expr c) := ⟨fun {N cm sc X W st} G h => by
  unfold chkS at h
  split at h
  · rw [Bool.and_eq_true] at h
    exact s_expr ((snd c).e G.g h.2) (sw_none h.1 none)
  · exact Bool.noConfusion h, fun ss z => (by cases z)⟩
theorem snds_app {o c : CE} : SndS S R P Y n (.app o c) := ⟨fun {N cm sc X W st} G h => by
  unfold chkS at h
  split at h
  · simp only [Bool.and_eq_true, decide_eq_true_eq] at h
    obtain ⟨⟨⟨⟨rfl, h1⟩, h2⟩, h3⟩, h4⟩ := h
    exact s_app G h1 h2 (chk_ns h4 _ X.env) ((snd o).e G.g h3) ((snd c).e G.g h4)
  · exact Bool.noConfusion h, fun ss z => (by cases z)⟩
theorem snds_raise {i : Nat} {c : CE} : SndS S R P Y n (.raise i c) := ⟨fun {N cm sc X W st} G h => by
  unfold chkS at h
  split at h
  · simp only [Bool.and_eq_true, decide_eq_true_eq] at h
    obtain ⟨⟨⟨h1, h2⟩, h3⟩, h4⟩ := h
    exact s_raise G h1 h2 h3 h4
  · exact Bool.noConfusion h, fun ss z => (by cases z)⟩
theorem snds_ret {c : CE} : SndS S R P Y n (.ret c) := ⟨fun {N cm sc X W st} G h => by
  unfold chkS at h
  split at h
  · exact s_ret ((snd c).e G.g h)
  · exact Bool.noConfusion h, fun ss z => (by cases z)⟩
theorem snds_if {t : CE} {a b : CSs} (ha : SndSs S R P Y n a) (hb : SndSs S R P Y n b) : SndS S R P Y n (.ifs t a b) := ⟨fun {N cm sc X W st} G h => by
  unfold chkS at h
  split at h
  · simp only [Bool.and_eq_true] at h
    exact s_ifs ((snd t).t G.g h.1.1) (ha.s G h.1.2) (hb.s G h.2)
  · exact Bool.noConfusion h, fun ss z => (by cases z)⟩
theorem snds_for {t : Tg} {it : CI} {a : CSs} (ha : SndSs S R P Y n a) : SndS S R P Y n (.for_ t it a) := ⟨fun {N cm sc X W st} G h => by
  unfold chkS at h
  split at h
  · simp only [Bool.and_eq_true] at h
    obtain ⟨⟨⟨⟨h1, h2⟩, h3⟩, h4⟩, h5⟩ := h
    exact s_for (G.po h1) (G.g.calm h1) ((sndi it).i G.g h4) (g_tg G.g (G.g.calm h1) h2) (ha.s G h5) h3
  · exact Bool.noConfusion h, fun ss z => (by cases z)⟩
theorem snds_whl {t : CE} {a : CSs} (ha : SndSs S R P Y n a) : SndS S R P Y n (.whl t a) := ⟨fun {N cm sc X W st} G h => by
  unfold chkS at h
  split at h
  · simp only [Bool.and_eq_true] at h
    obtain ⟨⟨h1, h2⟩, h3⟩ := h
    exact s_whl (G.po h1) ((snd t).t G.g h2) (ha.s G h3)
  · exact Bool.noConfusion h, fun ss z => (by cases z)⟩
theorem snds_try {body suite : CSs} {i : Nat} (ha : SndSs S R P Y n body) (hb : SndSs S R P Y n suite) : SndS S R P Y n (.try_ body i suite) := ⟨fun {N cm sc X W st} G h => by
  unfold chkS at h
  split at h
  · simp only [Bool.and_eq_true, decide_eq_true_eq] at h
    obtain ⟨⟨⟨h1, h2⟩, h3⟩, h4⟩ := h
    exact s_try G h1 h2 (fun G' => ha.s G' h3) (fun G' => hb.s G' h4)
  · exact Bool.noConfusion h, fun ss z => (by cases z)⟩
theorem sndss_cons {c : CS} {cs : CSs} (hc : SndS S R P Y n c) (hcs : SndSs S R P Y n cs) : SndSs S R P Y n (.cons c cs) := ⟨fun {N cm sc X W sts} G h => by
  unfold chkSs at h
  rw [Bool.or_eq_true, Bool.or_eq_true] at h
  rcases h with (h | h) | h
  · cases c with
    | kill is => exact ss_kill (hcs.s G h)
    | _ => exact Bool.noConfusion (show false = true from h)
  · cases cs with
    | nil =>
      have h : chkSc S N sc cm c sts = true := h
      unfold chkSc at h
      split at h
      · exact ss_scope (hc.sc _ rfl G h)
      · cases h
    | cons _ _ => exact Bool.noConfusion (show false = true from h)
  · split at h
    · rw [Bool.and_eq_true] at h
      exact ss_cons (hc.s G h.1) (hcs.s G h.2)
    · cases h⟩
theorem sndss_nil : SndSs S R P Y n .nil := ⟨fun {N cm sc X W sts} G h => by
  unfold chkSs at h
  split at h
  · exact ss_nil
  · cases h⟩
mutual
theorem snds : ∀ c : CS, SndS S R P Y n c
  | .asg _ _ => snds_asg
  | .aug _ _ _ => snds_aug
  | .sput _ _ _ => snds_sput
  | .saug _ _ _ _ => snds_saug
  | .expr _ => snds_expr
  | .app _ _ => snds_app
  | .ifs _ a b => snds_if (sndss a) (sndss b)
  | .for_ _ _ a => snds_for (sndss a)
  | .whl _ a => snds_whl (sndss a)
  | .ret _ => snds_ret
  | .retN => ⟨fun {N cm sc X W st} G h => by
    unfold chkS at h
    split at h
    · exact s_retN
    · exact Bool.noConfusion h, fun ss z => (by cases z)⟩
  | .brk => ⟨fun {N cm sc X W st} G h => by
    unfold chkS at h
    split at h
    · exact s_brk
    · exact Bool.noConfusion h, fun ss z => (by cases z)⟩
  | .pass => ⟨fun {N cm sc X W st} G h => by
    unfold chkS at h
    split at h
    · exact s_pass
    · exact Bool.noConfusion h, fun ss z => (by cases z)⟩
  | .raise _ _ => snds_raise
  | .try_ a _ b => snds_try (sndss a) (sndss b)
  | .kill _ => ⟨fun {N cm sc X W st} G h => by unfold chkS at h; exact Bool.noConfusion h, fun ss z => (by cases z)⟩
  | .scope ss => ⟨fun {N cm sc X W st} G h => by unfold chkS at h; exact Bool.noConfusion h, fun ss' z => by cases z; exact fun G h => (sndss ss).s G h⟩
theorem sndss : ∀ cs : CSs, SndSs S R P Y n cs
  | .nil => sndss_nil
  | .cons c cs => sndss_cons (snds c) (sndss cs)
end
end
end Cl

namespace Cl
open PySem PySem.Spec PyProof.Rows L2
/-! ### defs -/
structure DTx where
  name : Str
  st : Stmt
  N : List Str
  ps : List Str
def fnScB (N ps : List Str) (sc : Scope) : Bool :=
  (match sc.kind with | .function => true | _ => false) && !sc.isCoroutine && !sc.isGenerator && decide N.Nodup && decide (N.take ps.length = ps) && (ps.all fun x => decide (sc.names.lookup x = some .local) || decide (sc.names.lookup x = some .cell)) && (sc.names.all fun y => match y.2 with | .free => false | _ => true)
theorem fnSc_of {N ps : List Str} {sc : Scope} (h : fnScB N ps sc = true) : FnScope N ps sc := by
  unfold fnScB at h
  simp only [Bool.and_eq_true, Bool.not_eq_true', decide_eq_true_eq] at h
  obtain ⟨⟨⟨⟨⟨⟨h1, h2⟩, h3⟩, h4⟩, h5⟩, h6⟩, h7⟩ := h
  refine ⟨?_, h2, h3, h4, h5, fun x hx => ?_, fun y hy e => ?_⟩
  · split at h1
    · assumption
    · cases h1
  · have := List.all_eq_true.mp h6 x hx
    simpa only [Bool.or_eq_true, decide_eq_true_eq] using this
  · have := List.all_eq_true.mp h7 y hy
    rw [e] at this
    cases this
def chkD (S : Sg) (d : DTx) (c : CDef) : Bool := decide (d.N.length = c.ns) && decide (d.ps.length = c.np) && fnScB d.N d.ps (L2.defScope d.st) && chkSs S d.N (L2.defScope d.st) true c.body (L2.defBody d.st)
def chkDs (S : Sg) : List DTx → List CDef → Bool
  | [], [] => true
  | d :: ds, c :: cs => chkD S d c && chkDs S ds cs
  | _, _ => false
theorem chkDs_at {S : Sg} : ∀ {ds : List DTx} {cs : List CDef} {i : Nat} {d : DTx}, chkDs S ds cs = true → ds[i]? = some d → ∃ c, cs[i]? = some c ∧ chkD S d c = true
  | [], _, _, _, _, e => by simp at e
  | d :: ds, [], _, _, h, _ => by simp [chkDs] at h
  | d :: ds, c :: cs, 0, d', h, e => by
    simp only [chkDs, Bool.and_eq_true] at h
    simp only [List.getElem?_cons_zero, Option.some.injEq] at e
    subst e
    exact ⟨c, rfl, h.1⟩
  | d :: ds, c :: cs, i + 1, d', h, e => by
    simp only [chkDs, Bool.and_eq_true] at h
    rw [List.getElem?_cons_succ] at e ⊢
    exact chkDs_at h.2 e
/-- what the text's top has written -/
structure TxOk (S : Sg) (R : RC) (Y : XC) (P : Pg) (w : World) (K : PySem.W.Frag) (mg : Str → Option Value) (ds : List DTx) : Prop where
  hK : R.K = K
  fns : S.fns = ds.map (·.name)
  chk : chkDs S ds P.defs = true
  defs : ∀ (i : Nat) (d : DTx), ds[i]? = some d → ∃ fd, mg d.name = some (.ref (R.fa i)) ∧ Fun K d.name d.name d.st (R.fa i) fd ∧ Binds K fd d.ps []
  glob : ∀ x d, S.glob x = some d → ∃ u v, mg x = some u ∧ RelV v u ∧ GV R d v
  blt : ∀ x ∈ bltNames, mg x = none
  exc : ∀ i x, S.excs[i]? = some x → ∃ Ca B nid iid bmB, ExcBaseFacts B nid iid bmB ∧ PySem.W.excIn K Ca bmB nid = true ∧ mg x = some (.ref Ca) ∧ PySem.W.keepIn K (.ref Ca) = true ∧ (∀ X' : Cx, X'.K = K → Raises X' (.ref Ca)) ∧ Y.cls i = .ref Ca
  sub : ∀ i j b, P.sub i j = some b → PySem.W.exmOne K (Y.cls i) (Y.cls j) = some b
theorem start_rel {R : RC} {ρ φ : List Addr} {H : Hp} {N : List Str} {vs : List V} {ds : List D} {c : CDef} (r : RDs R ρ φ H ds vs) (hN : N.length = c.ns) : RelS R ρ φ H (cstart c ds) (L2.start N vs) := by
  have hl := r.len
  refine ⟨?_, fun i d e => ?_⟩
  · unfold cstart L2.start
    rw [List.length_append, List.length_map, List.length_replicate, List.length_append, List.length_map, List.length_replicate, hN, hl]
  · unfold cstart at e
    by_cases hi : i < ds.length
    · rw [List.getElem?_append_left (by rw [List.length_map]; exact hi), List.getElem?_map] at e
      cases q : ds[i]? with
      | none => rw [q] at e; cases e
      | some d' =>
        rw [q] at e
        cases e
        obtain ⟨v, g1, g2⟩ := r.get q
        refine ⟨v, ?_, g2⟩
        unfold L2.start
        rw [List.getElem?_append_left (by rw [List.length_map, ← hl]; exact hi), List.getElem?_map, g1]
        rfl
    · rw [List.getElem?_append_right (by rw [List.length_map]; omega), List.getElem?_replicate] at e
      split at e <;> cases e
section
variable {R : RC} {Y : XC} {E : XK} {ρ φ : List Addr} {H : Hp} {h : Hc} {Q : VK} {P2 : Env2}
theorem fin_cut {d : D} {h' : Hc} (hH : RelH R ρ φ H h) (f : Fin R Y (fun cls dd _ H => E cls dd H) [] ρ φ H (rD R φ) (finR h d h') Q) {ρ' : List Addr} {v : V} {H' : Hp} (e : Ext ρ ρ' H H') (hH' : RelH R ρ' φ H' h') (r : RD R ρ' φ H' d v) : Q v H' := by
  unfold finR at f
  by_cases z : (d.low h.length && cutOk h.length h h') = true
  · rw [if_pos z] at f
    rw [Bool.and_eq_true] at z
    obtain ⟨t, rfl⟩ := e.pre
    exact f ρ v H' e.cut (cut_rel hH hH' z.2) (RD.mv Mv.cut (by rw [hH.len]; exact z.1) r)
  · rw [if_neg z] at f
    exact f ρ' v H' e hH' r
theorem finX_cut {x : Exc} {h' : Hc} (hH : RelH R ρ φ H h) (f : Fin R Y (fun cls dd _ H => E cls dd H) [] ρ φ H (rD R φ) (finX h x h') Q) {ρ' : List Addr} {cls : Value} {dd : Option Addr} {H' : Hp} (e : Ext ρ ρ' H H') (hH' : RelH R ρ' φ H' h') (r : RX R Y ρ' φ H' x cls dd) : E cls dd H' := by
  unfold finX at f
  by_cases z : (x.low h.length && cutOk h.length h h') = true
  · rw [if_pos z] at f
    rw [Bool.and_eq_true] at z
    obtain ⟨t, rfl⟩ := e.pre
    refine f ρ cls dd H' e.cut (cut_rel hH hH' z.2) ⟨r.1, ?_⟩
    have r2 := r.2
    have z1 := z.1
    unfold Exc.low at z1
    cases q : x.arg with
    | none => rw [q] at r2; exact r2
    | some d =>
      rw [q] at r2 z1
      obtain ⟨a, v, g1, g2, g3⟩ := r2
      exact ⟨a, v, g1, g2, RD.mv Mv.cut (by rw [hH.len]; exact z1) g3⟩
  · rw [if_neg z] at f
    exact f ρ' cls dd H' e hH' r
theorem body_read {c : CDef} {ds : List D} {vs : List V} {N : List Str} (hN : N.length = c.ns) (hH : RelH R ρ φ H h) (r : RDs R ρ φ H ds vs) (f : Fin R Y (fun cls dd _ H => E cls dd H) [] ρ φ H (rD R φ) (runD P2 c ds h) Q) :
    tS R Y (fun cls dd _ H => E cls dd H) (evSs P2 c.body) { nx := fun _ H' => Q .non H', rt := Q } (L2.start N vs) H := by
  refine ⟨ρ, φ, cstart c ds, h, start_rel r hN, hH, ?_⟩
  unfold runD at f
  by_cases hl : ds.length = c.np
  · rw [if_pos hl] at f
    cases q : evSs P2 c.body (cstart c ds) h with
    | ok k h' =>
      rw [q] at f
      cases k with
      | nx σ => exact fun ρ' σ' H' e hS' hH' => fin_cut hH f e hH' (by simp only [RD])
      | rt d => exact fun ρ' v H' e hH' r' => fin_cut hH f e hH' r'
      | bk σ => exact f.elim
      | ct σ => exact f.elim
    | exc x σ h' =>
      rw [q] at f
      exact fun ρ' cls dd σ' H' e hS' hH' rx => finX_cut hH f e hH' rx
    | stuck => rw [q] at f; exact f.elim
  · rw [if_neg hl] at f
    exact f.elim
end
section
variable {S : Sg} {R : RC} {Y : XC} {P : Pg} {prog : Program} {w : World} {K : PySem.W.Frag} {mg : Str → Option Value} {ds : List DTx} {base : Heap}
theorem sp_len {n i : Nat} {c : CDef} (hc : P.defs[i]? = some c) {vs : List V} {H : Hp} {Q : VK} {E : XK} (h : spC R Y (callN P (n + 1)) i vs H Q E) : vs.length = c.np := by
  obtain ⟨ρ, φ, ds, hh, hH, r, f⟩ := h
  have f : Fin R Y _ [] ρ φ H (rD R φ) (match P.defs[i]? with | some d => runD ⟨callN P n, P.sub⟩ d ds hh | none => .stuck) Q := f
  rw [hc] at f
  have f : Fin R Y _ [] ρ φ H (rD R φ) (runD ⟨callN P n, P.sub⟩ c ds hh) Q := f
  rw [← r.len]
  unfold runD at f
  by_cases hl : ds.length = c.np
  · exact hl
  · rw [if_neg hl] at f
    exact f.elim
theorem all_ok (T : TxOk S R Y P w K mg ds) : ∀ (n i : Nat) (d : DTx), ds[i]? = some d → ∀ fd, Fun K d.name d.name d.st (R.fa i) fd → FnOk prog w K mg base (L2.CX prog w) n (R.fa i) fd d.ps (spC R Y (callN P n) i) := by
  intro n
  induction n with
  | zero =>
    intro i d hd fd F
    exact ⟨fun vs H Q E ⟨ρ, φ, dd, hh, hH, r, f⟩ => f.elim, fun A outer s H args us vs Q E _ _ _ _ ⟨ρ, φ, dd, hh, hH, r, f⟩ => f.elim⟩
  | succ n ih =>
    intro i d hd fd F
    obtain ⟨c, hc, k⟩ := chkDs_at T.chk hd
    unfold chkD at k
    simp only [Bool.and_eq_true, decide_eq_true_eq] at k
    obtain ⟨⟨⟨k1, k2⟩, k3⟩, k4⟩ := k
    have SC := fnSc_of k3
    refine F.okX SC (fun vs H Q E h => by rw [k2]; exact sp_len hc h) fun cdv A outer s H vs Q E hr h => ?_
    refine ⟨tS R Y (fun cls dd _ H => E cls dd H) (evSs ⟨callN P n, P.sub⟩ c.body), ?_, ?_⟩
    · refine (sndss (P := ⟨callN P n, P.sub⟩) (n := n) c.body).s (S := S) ⟨⟨T.hK, rfl, SC.nd, Sees.refl, fun _ _ => rfl, fun _ => rfl, takes_of rfl rfl rfl rfl, ?_, T.glob, T.blt, fun _ => hr, fun j x hx => ?_⟩, rfl, SC.kind, fun _ => passes_of rfl, rfl, rfl, T.exc, T.sub⟩ k4
      · have := hr.un
        show (A.deeper _).units + 100 < cLine
        omega
      · rw [T.fns, List.getElem?_map] at hx
        cases q : ds[j]? with
        | none => rw [q] at hx; cases hx
        | some d' =>
          rw [q] at hx
          cases hx
          obtain ⟨fd', m', F', b'⟩ := T.defs j d' q
          exact ⟨fd', d'.ps, m', F'.kp, b', ih j d' q fd' F'⟩
    · obtain ⟨ρ, φ, dd, hh, hH, r, f⟩ := h
      have f : Fin R Y (fun cls dd _ H => E cls dd H) [] ρ φ H (rD R φ) (match P.defs[i]? with | some d => runD ⟨callN P n, P.sub⟩ d dd hh | none => .stuck) Q := f
      rw [hc] at f
      exact body_read k1 hH r f
/-! ### the end -/
theorem exm_of {cls c : Value} {C : Addr} {b : Bool} (hc : c = .ref C) (h1 : PySem.W.subIn K c (.type "BaseException") = some true) (h2 : PySem.W.isClsIn K C = true) (h3 : PySem.W.typeIn K c = some (.type "type")) (h4 : PySem.W.subIn K cls c = some b) : PySem.W.exmOne K cls c = some b := by
  subst hc
  have e2 : ((PySem.W.clsIn K C).isSome && PySem.W.typeIn K (.ref C) == some (.type "type")) = true := by
    rw [show (PySem.W.clsIn K C).isSome = true from h2, h3]; rfl
  show (if (PySem.W.subIn K (.ref C) (.type "BaseException") == some true) = true then (if ((PySem.W.clsIn K C).isSome && PySem.W.typeIn K (.ref C) == some (.type "type")) = true then PySem.W.subIn K cls (.ref C) else none) else none) = some b
  rw [if_pos (by rw [h1]; rfl), if_pos e2]
  exact h4

def noLists (K : PySem.W.Frag) : Bool := K.all fun p => match p.2.cls with | .type t => !decide (t = "list") | _ => true
theorem lookup_in {α : Type} : ∀ {l : List (Addr × α)} {a : Addr} {o : α}, l.lookup a = some o → (a, o) ∈ l
  | [], _, _, e => by simp at e
  | (b, u) :: l, a, o, e => by
    rw [List.lookup_cons] at e
    cases q : (a == b) with
    | true =>
      rw [q] at e
      cases e
      rw [eq_of_beq q]
      exact List.mem_cons_self
    | false =>
      rw [q] at e
      exact List.mem_cons_of_mem _ (lookup_in e)
theorem noLists_of (h : noLists K = true) {a : Addr} {o : Obj} (e : K.lookup a = some o) : o.cls ≠ .type "list" := fun z => by
  have := List.all_eq_true.mp h _ (lookup_in e)
  simp only [z] at this
  simp at this
theorem ints_rds {ρ φ : List Addr} {H : Hp} : ∀ ns : List Int, RDs R ρ φ H (ns.map D.int) (ns.map V.int)
  | [] => by simp [RDs]
  | n :: ns => by
    rw [List.map_cons, List.map_cons]
    exact RDs.cons (by simp only [RD]) (ints_rds ns)
/-- the law's promise -/
theorem law_sp {n i : Nat} {a : Addr} {H : Hp} {ns : List Int} (hg : R.gt = []) (nl : noLists K = true) (hS : SqL K H a (ns.map V.int)) {h' : Hc} (run : callN P n i [.ref 0] [.ro (ns.map D.int)] = .ok (.bl true) h') (hO : Only H) {Q : VK} {E : XK} (k : ∀ H', Q (.bl true) H') :
    spC R Y (callN P n) i [.ref a] H Q E := by
  have hf : ∃ o, H a = some (.frz o (.lst (ns.map V.int))) := by
    rcases hS with (h | ⟨o, h⟩) | ⟨o, its, m, h1, h2, _⟩
    · rcases hO a with q | ⟨o, ys, q⟩ <;> (rw [h] at q; cases q)
    · exact ⟨o, h⟩
    · exact absurd h2 (noLists_of nl h1)
  obtain ⟨o, hf⟩ := hf
  refine ⟨[a], [], [.ref 0], [.ro (ns.map D.int)], ⟨rfl, by simp, fun j b c e1 e2 => ?_, fun b hb => (by simp at hb), fun p hp => (by rw [hg] at hp; simp at hp)⟩, RDs.one (by simp only [RD]; exact ⟨a, rfl, rfl⟩), ?_⟩
  · cases j with
    | zero =>
      simp only [List.getElem?_cons_zero, Option.some.injEq] at e1 e2
      subst e1 e2
      exact ⟨o, _, hf, ints_rds ns⟩
    | succ j => simp at e1
  · rw [run]
    intro ρ' v H' _ _ r
    simp only [RD] at r
    subst r
    exact k H'
end
/-- the goal that k_head leaves, from the facts and the run -/
theorem walk_cl {S : Sg} {P : Pg} {ds : List DTx} {l : PySem.W.OpenLaw} {q : Program} {loose : List Str} {XP : (Str → Option Value) → Heap → Prop} {YP : World → Heap → Prop} {d : DefRec} {K : Params → PySem.W.Frag} {x : Str} {n i : Nat}
    (hn : l.most = some 63) (hdf : d.params.defaults = []) (hr : Room n callerA) (hY : ∀ (w : World) (h : Heap), YP w h → (K w.params).In h) (nl : ∀ w : World, noLists (K w.params) = true)
    (dx : DTx) (hdx : ds[i]? = some dx) (hps : dx.ps = [x])
    (hba : ∀ (kV doc pm : Value) (an : Option Addr) (cdv ct u : Value), bindArgs (PySem.W.fnOf dx.name dx.name (L2.defArgs dx.st) (L2.defBody dx.st) (L2.defScope dx.st) .none kV doc pm an cdv ct) ⟨[u], []⟩ = pure [(x, u)])
    (F : ∀ (w : World) (mg : Str → Option Value) (fa : Addr) (h : Heap), (K w.params).In h → h.Ns mainGlobals mg → mg d.name = some (.ref fa) → ∃ R Y, R.gt = [] ∧ TxOk S R Y P w (K w.params) mg ds ∧ R.fa i = fa)
    (run : ∀ ns : List Int, ns.length ≤ 63 → ∃ h', callN P n i [.ref 0] [.ro (ns.map D.int)] = .ok (.bl true) h') :
    PySem.W.WalkO q loose XP YP l.row.toRowW d [] (fun f vs => PySem.call f vs) := by
  refine L2.walk_of (n := 63) (k := n) (x := x) (CX := fun w => L2.CX l.prog w) (K := K) (sp := fun w vs H Q E => ∃ (a : Addr) (ns : List Int), vs = [.ref a] ∧ ns.length ≤ 63 ∧ Only H ∧ SqL (K w.params) H a (ns.map V.int) ∧ ∀ H', Q (.bl true) H') hn (by rw [sizeLine_eq]; omega) hdf hr hY ?_ ?_ ?_
  · intro w mg fa h X G hfa
    obtain ⟨R, Y, hg, T, rfl⟩ := F w mg fa h X G hfa
    obtain ⟨fd, m, Fn, B⟩ := T.defs i dx hdx
    refine ⟨fd, fun s u => ?_, fun base hb hns => ?_⟩
    · obtain ⟨oc, od, kV, doc, pm, an, cdv, ct, osl, rfl, lk, hcd⟩ := Fn.ex
      exact .of_eq (hba kV doc pm an cdv ct u)
    · have A := all_ok (prog := l.prog) (w := w) (base := base) T n i dx hdx fd Fn
      rw [hps] at A
      refine FnOk.imp A fun vs H Q E ⟨a, ns, e, hl, hO, hS, k⟩ => ?_
      subst e
      obtain ⟨h', e⟩ := run ns hl
      exact law_sp hg (nl w) hS e hO k
  · intro w H a ns hl hO hS
    exact ⟨a, ns, rfl, hl, hO, hS, fun _ => rfl⟩
  · intro w H s e s' ⟨_, _, _, _, _, _, _, _, _, _, _, _, z⟩
    exact z
theorem lookup_in2 {α : Type} : ∀ {l : List ((Nat × Nat) × α)} {a : Nat × Nat} {o : α}, l.lookup a = some o → (a, o) ∈ l
  | [], _, _, e => by simp at e
  | (b, u) :: l, a, o, e => by
    rw [List.lookup_cons] at e
    cases q : (a == b) with
    | true =>
      rw [q] at e
      cases e
      rw [eq_of_beq q]
      exact List.mem_cons_self
    | false =>
      rw [q] at e
      exact List.mem_cons_of_mem _ (lookup_in2 e)
theorem glob_mem {S : Sg} {x : Str} {d : D} (e : S.glob x = some d) : (x, d) ∈ S.consts ∨ ∃ i, S.fns[i]? = some x ∧ d = .fn i := by
  unfold Sg.glob at e
  cases q : S.consts.lookup x with
  | some v =>
    rw [q] at e
    cases e
    exact .inl (PySem.mem_of_lookup q)
  | none =>
    rw [q] at e
    obtain ⟨i, h1, h2⟩ := Option.map_eq_some_iff.mp e
    refine .inr ⟨i, ?_, h2.symm⟩
    obtain ⟨h3, h4, _⟩ := List.findIdx?_eq_some_iff_getElem.mp h1
    rw [List.getElem?_eq_getElem h3]
    simp only [decide_eq_true_eq] at h4
    rw [h4]
end Cl

namespace Cl
open PySem PySem.Spec PyProof.Rows L2
/-! ### reckoning with the clean runs -/
theorem ERes.ok_bind {α β : Type} {a : α} {h : Hc} {f : α → Hc → ERes β} : (ERes.ok a h).bind f = f a h := rfl
theorem ERes.exc_bind {α β : Type} {x : Exc} {h : Hc} {f : α → Hc → ERes β} : (ERes.exc x h : ERes α).bind f = .exc x h := rfl
theorem st_ok {α : Type} {a : α} {h : Hc} {σ : CSt} {f : α → Hc → SRes} : (ERes.ok a h).st σ f = f a h := rfl
theorem st_exc {α : Type} {x : Exc} {h : Hc} {σ : CSt} {f : α → Hc → SRes} : (ERes.exc x h : ERes α).st σ f = .exc x σ h := rfl
theorem ofO_some {α : Type} {a : α} {h : Hc} : ofO (some a) h = .ok a h := rfl
theorem stO_some {α : Type} {a : α} {f : α → SRes} : stO (some a) f = f a := rfl
theorem boolR_bl {b : Bool} {h : Hc} : boolR (.ok (.bl b) h) = .ok b h := rfl
theorem cutOk_app {h t : Hc} : cutOk h.length h (h ++ t) = true := by
  unfold cutOk
  rw [List.take_left']
  · rw [List.all_eq_true]
    intro p hp
    obtain ⟨i, hi⟩ := List.mem_iff_getElem?.mp hp
    rw [List.getElem?_zip_eq_some] at hi
    have : p.1 = p.2 := by
      have := hi.1.symm.trans hi.2
      exact Option.some.inj this
    simp [this]
  · rfl
theorem cutOk_self {h : Hc} : cutOk h.length h h = true := by
  have := @cutOk_app h []
  rwa [List.append_nil] at this
mutual
theorem low_plain {n : Nat} : ∀ {d : D}, d.plain = true → d.low n = true
  | .non, _ => rfl
  | .bl _, _ => rfl
  | .int _, _ => rfl
  | .str _, _ => rfl
  | .ref _, h => by simp [D.plain] at h
  | .fn _, h => by simp [D.plain] at h
  | .tup xs, h => by
    simp only [D.plain] at h
    simp only [D.low]
    exact lows_plain h
  | .lst xs, h => by
    simp only [D.plain] at h
    simp only [D.low]
    exact lows_plain h
theorem lows_plain {n : Nat} : ∀ {ds : List D}, D.plains ds = true → D.low.lows n ds = true
  | [], _ => rfl
  | d :: ds, h => by
    simp only [D.plains, Bool.and_eq_true] at h
    simp only [D.low.lows, Bool.and_eq_true]
    exact ⟨low_plain h.1, lows_plain h.2⟩
end
/-- back from a def that leaves no new cell reachable -/
theorem finR_app {h t : Hc} {d : D} (hd : d.low h.length = true) : finR h d (h ++ t) = .ok d h := by
  unfold finR
  rw [hd, cutOk_app, Bool.true_and, if_pos rfl, List.take_left' rfl]
theorem finR_self {h : Hc} {d : D} : finR h d h = .ok d h := by
  unfold finR
  split
  · rw [List.take_length]
  · rfl
theorem finX_self {h : Hc} {x : Exc} : finX h x h = .exc x h := by
  unfold finX
  split
  · rw [List.take_length]
  · rfl
/-- a call, by its def -/
theorem call_eq {P : Pg} {n i : Nat} {d : CDef} {args : List D} {h : Hc} (hd : P.defs[i]? = some d) (hl : args.length = d.np) : callN P (n + 1) i args h = match evSs ⟨callN P n, P.sub⟩ d.body (cstart d args) h with
    | .ok (.rt v) h' => finR h v h'
    | .ok (.nx _) h' => finR h .non h'
    | .exc x _ h' => finX h x h'
    | _ => .stuck := by
  show (match P.defs[i]? with | some d => runD ⟨callN P n, P.sub⟩ d args h | none => .stuck) = _
  rw [hd]
  show runD _ d args h = _
  unfold runD
  rw [if_pos hl]
  all_goals rfl
/-- a comprehension without effects -/
theorem compF_pure {fe fc : EvF} {t : Tg} {g : Guard} {σ : CSt} {h : Hc} (hg : gOk g h = true) (f : D → D) (p : D → Bool) : ∀ {xs : List D}, (∀ x ∈ xs, ∃ σ1, asgT t x σ = some σ1 ∧ boolR (fc σ1 h) = .ok (p x) h ∧ (p x = true → fe σ1 h = .ok (f x) h)) →
    compF fe fc t g σ xs h = .ok ((xs.filter p).map f) h
  | [], _ => by unfold compF; rw [if_pos hg]; rfl
  | x :: xs, k => by
    obtain ⟨σ1, e1, e2, e3⟩ := k x (by simp)
    have ih := compF_pure hg f p (xs := xs) fun y hy => k y (by simp [hy])
    unfold compF
    rw [if_pos hg, e1]
    simp only [e2]
    cases q : p x with
    | true =>
      simp only [e3 q, ih]
      rw [List.filter_cons_of_pos q, List.map_cons]
    | false =>
      simp only [ih]
      rw [List.filter_cons_of_neg (by simp [q])]
/-- .. with a state that goes through -/
theorem compF_thru {fe fc : EvF} {t : Tg} {g : Guard} {σ : CSt} {S : Type} (enc : S → Hc) (hg : ∀ s, gOk g (enc s) = true) (f : S → D → D) (nx : S → D → S) : ∀ {xs : List D} (s : S), (∀ s, ∀ x ∈ xs, ∃ σ1, asgT t x σ = some σ1 ∧ boolR (fc σ1 (enc s)) = .ok true (enc s) ∧ fe σ1 (enc s) = .ok (f s x) (enc (nx s x))) →
    ∃ ys, compF fe fc t g σ xs (enc s) = .ok ys (enc (xs.foldl nx s)) ∧ ys.length = xs.length ∧ ∀ y ∈ ys, ∃ s x, x ∈ xs ∧ y = f s x
  | [], s, _ => ⟨[], by unfold compF; rw [if_pos (hg s)]; rfl, rfl, fun y hy => by simp at hy⟩
  | x :: xs, s, k => by
    obtain ⟨σ1, e1, e2, e3⟩ := k s x (by simp)
    obtain ⟨ys, i1, i2, i3⟩ := compF_thru enc hg f nx (xs := xs) (nx s x) fun s y hy => k s y (by simp [hy])
    refine ⟨f s x :: ys, ?_, by simp [i2], fun y hy => ?_⟩
    · unfold compF
      rw [if_pos (hg s), e1]
      simp only [e2, e3, i1]
      rfl
    · rcases List.mem_cons.mp hy with rfl | hy
      · exact ⟨s, x, by simp, rfl⟩
      · obtain ⟨s', x', h1, h2⟩ := i3 y hy
        exact ⟨s', x', by simp [h1], h2⟩
/-- a loop whose body goes on -/
theorem forF_fold {fb : CSt → Hc → SRes} {t : Tg} {g : Guard} {S : Type} (eσ : S → CSt) (eh : S → Hc) (nx : S → D → S) (I : S → Prop) (hg : ∀ s, I s → gOk g (eh s) = true) : ∀ {xs : List D} (s : S), I s →
    (∀ s, I s → ∀ x ∈ xs, I (nx s x) ∧ ∃ σ1, asgT t x (eσ s) = some σ1 ∧ fb σ1 (eh s) = .ok (.nx (eσ (nx s x))) (eh (nx s x))) → forF fb t g xs (eσ s) (eh s) = .ok (.nx (eσ (xs.foldl nx s))) (eh (xs.foldl nx s)) ∧ I (xs.foldl nx s)
  | [], s, hI, _ => ⟨by unfold forF; rw [if_pos (hg s hI)]; rfl, hI⟩
  | x :: xs, s, hI, k => by
    obtain ⟨i1, σ1, e1, e2⟩ := k s hI x (by simp)
    have ih := forF_fold eσ eh nx I hg (xs := xs) (nx s x) i1 fun s hs y hy => k s hs y (by simp [hy])
    refine ⟨?_, ih.2⟩
    unfold forF
    rw [if_pos (hg s hI), e1]
    simp only [e2]
    exact ih.1
/-- a loop with an invariant on what has been walked; it may leave -/
theorem forF_inv {fb : CSt → Hc → SRes} {t : Tg} {g : Guard} {xs : List D} (I : Nat → CSt → Hc → Prop) (B : SRes → Prop) (hg : ∀ i σ h, I i σ h → gOk g h = true) (hend : ∀ σ h, I xs.length σ h → B (.ok (.nx σ) h))
    (hs : ∀ (i : Nat) (x : D) (σ : CSt) (h : Hc), xs[i]? = some x → I i σ h → ∃ σ1, asgT t x σ = some σ1 ∧ ((∃ σ2 h2, fb σ1 h = .ok (.nx σ2) h2 ∧ I (i + 1) σ2 h2) ∨ (∃ σ2 h2, fb σ1 h = .ok (.bk σ2) h2 ∧ B (.ok (.nx σ2) h2)) ∨ (∃ d h2, fb σ1 h = .ok (.rt d) h2 ∧ B (.ok (.rt d) h2)))) :
    ∀ (i : Nat) (σ : CSt) (h : Hc), i ≤ xs.length → I i σ h → B (forF fb t g (xs.drop i) σ h) := by
  suffices key : ∀ (m i : Nat) (σ : CSt) (h : Hc), xs.length - i = m → i ≤ xs.length → I i σ h → B (forF fb t g (xs.drop i) σ h) from fun i σ h hi hI => key _ i σ h rfl hi hI
  intro m
  induction m with
  | zero =>
    intro i σ h hm hi hI
    have : i = xs.length := by omega
    subst this
    rw [List.drop_length]
    unfold forF
    rw [if_pos (hg _ _ _ hI)]
    exact hend σ h hI
  | succ m ih =>
    intro i σ h hm hi hI
    have hlt : i < xs.length := by omega
    rw [List.drop_eq_getElem_cons hlt]
    unfold forF
    rw [if_pos (hg _ _ _ hI)]
    obtain ⟨σ1, e1, k⟩ := hs i xs[i] σ h (List.getElem?_eq_getElem hlt) hI
    rw [e1]
    rcases k with ⟨σ2, h2, e2, k⟩ | ⟨σ2, h2, e2, k⟩ | ⟨d, h2, e2, k⟩
    · simp only [e2]
      exact ih (i + 1) σ2 h2 (by omega) hlt k
    · simp only [e2]; exact k
    · simp only [e2]; exact k
end Cl

namespace Cl
open PySem PySem.Spec PyProof.Rows L2
/-! ### the clauses of the runs, each with all its arguments -/
theorem EV {C : Caller} : (∀ (i : Nat) (σ : CSt) (h : Hc), evE C (.var i) σ h = (match σ[i]? with
    | some (some d) => .ok d h
    | _ => .stuck))
  ∧ (∀ (d : D) (σ : CSt) (h : Hc), evE C (.cst d) σ h = (.ok d h))
  ∧ (∀ (u0 : Str) (d : D) (σ : CSt) (h : Hc), evE C (.glob u0 d) σ h = (.ok d h))
  ∧ (∀ (op : Operator) (a : CE) (b : CE) (σ : CSt) (h : Hc), evE C (.bin op a b) σ h = ((evE C a σ h).bind fun x h => (evE C b σ h).bind fun y h => ofO (binF h op x y) h))
  ∧ (∀ (a : CE) (σ : CSt) (h : Hc), evE C (.neg a) σ h = ((evE C a σ h).bind fun x h => match x with
    | .int i => .ok (.int (-i)) h
    | _ => .stuck))
  ∧ (∀ (a : CE) (σ : CSt) (h : Hc), evE C (.not_ a) σ h = ((evE C a σ h).bind fun x h => match x with
    | .bl b => .ok (.bl (!b)) h
    | _ => .stuck))
  ∧ (∀ (op : CmpOp) (a : CE) (b : CE) (σ : CSt) (h : Hc), evE C (.cmp op a b) σ h = ((evE C a σ h).bind fun x h => (evE C b σ h).bind fun y h => ofO ((cmpF h op x y).map .bl) h))
  ∧ (∀ (op : CmpOp) (op' : CmpOp) (a : CE) (b : CE) (c : CE) (σ : CSt) (h : Hc), evE C (.chain op op' a b c) σ h = ((evE C a σ h).bind fun x h => (evE C b σ h).bind fun y h => match cmpF h op x y with
    | some true => (evE C c σ h).bind fun z h => ofO ((cmpF h op' y z).map .bl) h
    | some false => .ok (.bl false) h
    | none => .stuck))
  ∧ (∀ (a : CE) (b : CE) (σ : CSt) (h : Hc), evE C (.and_ a b) σ h = ((evE C a σ h).bind fun x h => match x with
    | .bl true => evE C b σ h
    | .bl false => .ok (.bl false) h
    | _ => .stuck))
  ∧ (∀ (a : CE) (b : CE) (σ : CSt) (h : Hc), evE C (.or_ a b) σ h = ((evE C a σ h).bind fun x h => match x with
    | .bl true => .ok (.bl true) h
    | .bl false => evE C b σ h
    | _ => .stuck))
  ∧ (∀ (t : CE) (a : CE) (b : CE) (σ : CSt) (h : Hc), evE C (.ite t a b) σ h = ((evE C t σ h).bind fun x h => match x with
    | .bl true => evE C a σ h
    | .bl false => evE C b σ h
    | _ => .stuck))
  ∧ (∀ (f : Nat) (args : CEs) (σ : CSt) (h : Hc), evE C (.call f args) σ h = ((evEs C args σ h).bind fun ds h => C f ds h))
  ∧ (∀ (b : Bi) (args : CEs) (σ : CSt) (h : Hc), evE C (.bi b args) σ h = ((evEs C args σ h).bind fun ds h => ofO (biF h b ds) h))
  ∧ (∀ (a : CE) (ts : List Ty) (σ : CSt) (h : Hc), evE C (.isin a ts) σ h = ((evE C a σ h).bind fun x h => ofO ((isFs h ts x).map .bl) h))
  ∧ (∀ (fe : CE) (fs : List Nat) (args : CEs) (σ : CSt) (h : Hc), evE C (.callv fe fs args) σ h = ((evE C fe σ h).bind fun x h => match x with
    | .fn i => if i ∈ fs then (evEs C args σ h).bind fun ds h => C i ds h else .stuck
    | _ => .stuck))
  ∧ (∀ (o : CE) (σ : CSt) (h : Hc), evE C (.pop o) σ h = ((evE C o σ h).bind fun x h => match x with
    | .ref n => match h[n]? with
      | some (.lst xs) => match xs[xs.length - 1]? with
        | some d => .ok d (h.set n (.lst xs.dropLast))
        | none => .stuck
      | _ => .stuck
    | _ => .stuck))
  ∧ (∀ (a : CE) (i : CE) (σ : CSt) (h : Hc), evE C (.idx a i) σ h = ((evE C a σ h).bind fun x h => (evE C i σ h).bind fun y h => ofO (idxF h x y) h))
  ∧ (∀ (a : CE) (lo : CE) (hi : CE) (σ : CSt) (h : Hc), evE C (.sl a lo hi) σ h = ((evE C a σ h).bind fun x h => (optR lo.isAbs (evE C lo σ) h).bind fun l h => (optR hi.isAbs (evE C hi σ) h).bind fun u h => ofO (sliceF h x l u) h))
  ∧ (∀ (a : CE) (σ : CSt) (h : Hc), evE C (.rev a) σ h = ((evE C a σ h).bind fun x h => ofO (revF h x) h))
  ∧ (∀  (σ : CSt) (h : Hc), evE C (.absent) σ h = (.stuck))
  ∧ (∀ (es : CEs) (σ : CSt) (h : Hc), evE C (.tup es) σ h = ((evEs C es σ h).bind fun ds h => .ok (.tup ds) h))
  ∧ (∀ (es : CEs) (σ : CSt) (h : Hc), evE C (.lst es) σ h = ((evEs C es σ h).bind fun ds h => .ok (.lst ds) h))
  ∧ (∀ (elt : CE) (t : Tg) (it : CI) (cond : CE) (own : List Nat) (σ : CSt) (h : Hc), evE C (.comp elt t it cond own) σ h = ((evI C it σ h).bind fun d h => if d.xs.length ≤ line then lmap [] (compF (evE C elt) (condR cond.isAbs (evE C cond)) t d.g (cwipe σ own) d.xs h) else .stuck))
  ∧ (∀ (it : CI) (σ : CSt) (h : Hc), evE C (.lrange it) σ h = ((evI C it σ h).bind fun d h => if d.xs.length ≤ line then .ok (.lst d.xs) h else .stuck))
  ∧ (∀ (e : CE) (σ : CSt) (h : Hc), evE C (.cell e) σ h = ((evE C e σ h).bind fun x h => match x with
    | .lst xs => .ok (.ref h.length) (h ++ [.lst xs])
    | _ => .stuck))
  ∧ (∀ (t : Bool) (σ : CSt) (h : Hc), evE C (.dict0 t) σ h = (.ok (.ref h.length) (h ++ [if t then .dT [] else .dK []])))
  ∧ (∀ (o : CE) (k : CE) (d : CE) (σ : CSt) (h : Hc), evE C (.dget o k d) σ h = ((evE C o σ h).bind fun x h => if isDictD h x then (evE C k σ h).bind fun y h => (evE C d σ h).bind fun z h => match x with
    | .ref n => match lookD h n y with
      | some r => .ok (r.getD z) h
      | none => .stuck
    | _ => .stuck
    else .stuck))
  ∧ (∀ (σ : CSt) (h : Hc), evEs C .nil σ h = .ok [] h) ∧ (∀ (e : CE) (es : CEs) (σ : CSt) (h : Hc), evEs C (.cons e es) σ h = (evE C e σ h).bind fun d h => (evEs C es σ h).bind fun ds h => .ok (d :: ds) h)
  ∧ (∀ (e : CE) (σ : CSt) (h : Hc), evI C (.seq e) σ h = ((evE C e σ h).bind fun d h => match seqD h d with
    | some xs => .ok ⟨xs, guardOf h d⟩ h
    | none => .stuck))
  ∧ (∀ (a : CE) (σ : CSt) (h : Hc), evI C (.rng1 a) σ h = ((evE C a σ h).bind fun d h => match d with
    | .int j => if smallI j then .ok ⟨rngD 0 1 j.toNat, []⟩ h else .stuck
    | _ => .stuck))
  ∧ (∀ (a : CE) (b : CE) (σ : CSt) (h : Hc), evI C (.rng2 a b) σ h = ((evE C a σ h).bind fun d h => (evE C b σ h).bind fun e h => match d, e with
    | .int i, .int j => if smallI i && smallI j then .ok ⟨rngD i 1 (j - i).toNat, []⟩ h else .stuck
    | _, _ => .stuck))
  ∧ (∀ (a : CE) (b : CE) (c : CE) (σ : CSt) (h : Hc), evI C (.rng3 a b c) σ h = ((evE C a σ h).bind fun d h => (evE C b σ h).bind fun e h => (evE C c σ h).bind fun f h => match d, e, f with
    | .int i, .int j, .int k => if Builtin.Range.small i j k && decide (k ≠ 0) && decide (k.natAbs < 1073741824) && decide (Builtin.Range.rangeSize i j k = (rngN i j k : Nat)) then .ok ⟨rngD i k (rngN i j k), []⟩ h else .stuck
    | _, _, _ => .stuck))
  ∧ (∀ (e : CE) (σ : CSt) (h : Hc), evI C (.enum e) σ h = ((evE C e σ h).bind fun d h => match seqD h d with
    | some xs => .ok ⟨enumD 0 xs, guardOf h d⟩ h
    | none => .stuck))
  ∧ (∀ (a : CE) (b : CE) (σ : CSt) (h : Hc), evI C (.zip a b) σ h = ((evE C a σ h).bind fun d h => (evE C b σ h).bind fun e h => match seqD h d, seqD h e with
    | some xs, some ys => .ok ⟨zipD xs ys, guardOf h d ++ guardOf h e⟩ h
    | _, _ => .stuck)) := by
  refine ⟨?_, ?_, ?_, ?_, ?_, ?_, ?_, ?_, ?_, ?_, ?_, ?_, ?_, ?_, ?_, ?_, ?_, ?_, ?_, ?_, ?_, ?_, ?_, ?_, ?_, ?_, ?_, ?_, ?_, ?_, ?_, ?_, ?_, ?_, ?_⟩ <;> intros <;> simp only [evE, evEs, evI] <;> all_goals rfl
theorem EB : (∀ (α β : Type) (a : α) (h : Hc) (f : α → Hc → ERes β), (ERes.ok a h).bind f = f a h) ∧ (∀ (α β : Type) (x : Exc) (h : Hc) (f : α → Hc → ERes β), (ERes.exc x h : ERes α).bind f = .exc x h) ∧
  (∀ (α : Type) (a : α) (h : Hc) (σ : CSt) (f : α → Hc → SRes), (ERes.ok a h).st σ f = f a h) ∧ (∀ (α : Type) (x : Exc) (h : Hc) (σ : CSt) (f : α → Hc → SRes), (ERes.exc x h : ERes α).st σ f = .exc x σ h) ∧
  (∀ (α : Type) (a : α) (h : Hc), ofO (some a) h = .ok a h) ∧ (∀ (α : Type) (a : α) (f : α → SRes), stO (some a) f = f a) ∧ (∀ (b : Bool) (h : Hc), boolR (.ok (.bl b) h) = .ok b h) ∧ (∀ (h : Hc) (d : D), finR h d h = .ok d h) ∧ (∀ (h : Hc) (x : Exc), finX h x h = .exc x h) :=
  ⟨fun _ _ _ _ _ => rfl, fun _ _ _ _ _ => rfl, fun _ _ _ _ _ => rfl, fun _ _ _ _ _ => rfl, fun _ _ _ => rfl, fun _ _ _ => rfl, fun _ _ => rfl, fun _ _ => finR_self, fun _ _ => finX_self⟩
theorem ES {P : Env2} : (∀ (t : Tg) (e : CE) (σ : CSt) (h : Hc), evS P (.asg t e) σ h = ((evE P.C e σ h).st σ fun d h => stO (asgT t d σ) fun σ' => .ok (.nx σ') h))
  ∧ (∀ (i : Nat) (op : Operator) (e : CE) (σ : CSt) (h : Hc), evS P (.aug i op e) σ h = (match σ[i]? with
    | some (some x) => (evE P.C e σ h).st σ fun y h => match x, y with
      | .int a, .int b => stO (binF h op (.int a) (.int b)) fun z => .ok (.nx (σ.set i (some z))) h
      | _, _ => .stuck
    | _ => .stuck))
  ∧ (∀ (o : CE) (i : CE) (e : CE) (σ : CSt) (h : Hc), evS P (.sput o i e) σ h = ((evE P.C e σ h).st σ fun v h => (evE P.C o σ h).st σ fun x h => (evE P.C i σ h).st σ fun y h => stO (putF h x y v) fun h' => .ok (.nx σ) h'))
  ∧ (∀ (o : CE) (i : CE) (op : Operator) (e : CE) (σ : CSt) (h : Hc), evS P (.saug o i op e) σ h = ((evE P.C o σ h).st σ fun x h => (evE P.C i σ h).st σ fun y h => stO (refIdx h x y) fun u => (evE P.C e σ h).st σ fun v h =>
      match u, v with
      | .int a, .int b => stO (binF h op (.int a) (.int b)) fun w => stO (putF h x y w) fun h' => .ok (.nx σ) h'
      | _, _ => .stuck))
  ∧ (∀ (e : CE) (σ : CSt) (h : Hc), evS P (.expr e) σ h = ((evE P.C e σ h).st σ fun _ h => .ok (.nx σ) h))
  ∧ (∀ (o : CE) (e : CE) (σ : CSt) (h : Hc), evS P (.app o e) σ h = ((evE P.C o σ h).st σ fun x h => if isLstD h x = false then .stuck else (evE P.C e σ h).st σ fun v h => match x with
    | .ref n => match h[n]? with
      | some (.lst xs) => if xs.length < line then .ok (.nx σ) (h.set n (.lst (xs ++ [v]))) else .stuck
      | _ => .stuck
    | _ => .stuck))
  ∧ (∀ (t : CE) (a : CSs) (b : CSs) (σ : CSt) (h : Hc), evS P (.ifs t a b) σ h = ((boolR (evE P.C t σ h)).st σ fun c h => if c then evSs P a σ h else evSs P b σ h))
  ∧ (∀ (t : Tg) (it : CI) (body : CSs) (σ : CSt) (h : Hc), evS P (.for_ t it body) σ h = ((evI P.C it σ h).st σ fun d h => forF (evSs P body) t d.g d.xs σ h))
  ∧ (∀ (t : CE) (body : CSs) (σ : CSt) (h : Hc), evS P (.whl t body) σ h = (whF (evE P.C t) (evSs P body) wFuel σ h))
  ∧ (∀ (e : CE) (σ : CSt) (h : Hc), evS P (.ret e) σ h = ((evE P.C e σ h).st σ fun d h => .ok (.rt d) h))
  ∧ (∀  (σ : CSt) (h : Hc), evS P (.retN) σ h = (.ok (.rt .non) h))
  ∧ (∀  (σ : CSt) (h : Hc), evS P (.brk) σ h = (.ok (.bk σ) h))
  ∧ (∀  (σ : CSt) (h : Hc), evS P (.pass) σ h = (.ok (.nx σ) h))
  ∧ (∀ (x : Nat) (e : CE) (σ : CSt) (h : Hc), evS P (.raise x e) σ h = (if e.isAbs then .exc ⟨x, none⟩ σ h else (evE P.C e σ h).st σ fun d h => .exc ⟨x, some d⟩ σ h))
  ∧ (∀ (body : CSs) (x : Nat) (suite : CSs) (σ : CSt) (h : Hc), evS P (.try_ body x suite) σ h = (match evSs P body σ h with
    | .exc y σ' h' => match P.sub y.cls x with
      | some true => noExc (evSs P suite σ' h')
      | some false => .exc y σ' h'
      | none => .stuck
    | r => r))
  ∧ (∀ (is : List Nat) (σ : CSt) (h : Hc), evS P (.kill is) σ h = (.ok (.nx (ckill σ is)) h))
  ∧ (∀ (ss : CSs) (σ : CSt) (h : Hc), evS P (.scope ss) σ h = (scopeR h (evSs P ss σ h)))
  ∧ (∀ (σ : CSt) (h : Hc), evSs P .nil σ h = .ok (.nx σ) h) ∧ (∀ (s : CS) (ss : CSs) (σ : CSt) (h : Hc), evSs P (.cons s ss) σ h = (match evS P s σ h with
    | .ok (.nx σ') h' => evSs P ss σ' h'
    | r => r)) := by
  refine ⟨?_, ?_, ?_, ?_, ?_, ?_, ?_, ?_, ?_, ?_, ?_, ?_, ?_, ?_, ?_, ?_, ?_, ?_, ?_⟩ <;> intros <;> simp only [evS, evSs] <;> rfl
end Cl

namespace Cl
open PySem PySem.Spec PyProof.Rows L2
/-! ### calls by their body's run -/
theorem call_rt {P : Pg} {n i : Nat} {d : CDef} {b : CSs} {σ : CSt} {args : List D} {h t : Hc} {v : D} (hd : P.defs[i]? = some d) (hl : args.length = d.np) (hb : d.body = b) (hσ : cstart d args = σ) (hv : v.low h.length = true) (e : evSs ⟨callN P n, P.sub⟩ b σ h = .ok (.rt v) (h ++ t)) : callN P (n + 1) i args h = .ok v h := by
  subst hb hσ
  rw [call_eq hd hl, e]
  exact finR_app hv
theorem call_rt0 {P : Pg} {n i : Nat} {d : CDef} {b : CSs} {σ : CSt} {args : List D} {h h' : Hc} {v : D} (hd : P.defs[i]? = some d) (hl : args.length = d.np) (hb : d.body = b) (hσ : cstart d args = σ) (e : evSs ⟨callN P n, P.sub⟩ b σ h = .ok (.rt v) h') : callN P (n + 1) i args h = finR h v h' := by
  subst hb hσ
  rw [call_eq hd hl, e]
theorem call_rtp {P : Pg} {n i : Nat} {d : CDef} {b : CSs} {σ : CSt} {args : List D} {h : Hc} {v : D} (hd : P.defs[i]? = some d) (hl : args.length = d.np) (hb : d.body = b) (hσ : cstart d args = σ) (e : evSs ⟨callN P n, P.sub⟩ b σ h = .ok (.rt v) h) : callN P (n + 1) i args h = .ok v h := by
  subst hb hσ
  rw [call_eq hd hl, e]
  exact finR_self
theorem call_nxp {P : Pg} {n i : Nat} {d : CDef} {b : CSs} {σ σ' : CSt} {args : List D} {h : Hc} (hd : P.defs[i]? = some d) (hl : args.length = d.np) (hb : d.body = b) (hσ : cstart d args = σ) (e : evSs ⟨callN P n, P.sub⟩ b σ h = .ok (.nx σ') h) : callN P (n + 1) i args h = .ok .non h := by
  subst hb hσ
  rw [call_eq hd hl, e]
  exact finR_self
theorem call_xp {P : Pg} {n i : Nat} {d : CDef} {b : CSs} {σ σ' : CSt} {args : List D} {h : Hc} {x : Exc} (hd : P.defs[i]? = some d) (hl : args.length = d.np) (hb : d.body = b) (hσ : cstart d args = σ) (e : evSs ⟨callN P n, P.sub⟩ b σ h = .exc x σ' h) : callN P (n + 1) i args h = .exc x h := by
  subst hb hσ
  rw [call_eq hd hl, e]
  exact finX_self
/-! ### statements in a row -/
theorem seqN {P : Env2} {s : CS} {ss : CSs} {σ σ' : CSt} {h h' : Hc} (e : evS P s σ h = .ok (.nx σ') h') : evSs P (.cons s ss) σ h = evSs P ss σ' h' := by simp only [evSs, e]
theorem seqR {P : Env2} {s : CS} {ss : CSs} {σ : CSt} {h h' : Hc} {d : D} (e : evS P s σ h = .ok (.rt d) h') : evSs P (.cons s ss) σ h = .ok (.rt d) h' := by simp only [evSs, e]
theorem seqX {P : Env2} {s : CS} {ss : CSs} {σ σ' : CSt} {h h' : Hc} {x : Exc} (e : evS P s σ h = .exc x σ' h') : evSs P (.cons s ss) σ h = .exc x σ' h' := by simp only [evSs, e]
theorem asgV {P : Env2} {i : Nat} {e : CE} {σ : CSt} {h h' : Hc} {d : D} (k : evE P.C e σ h = .ok d h') : evS P (.asg (.v i) e) σ h = .ok (.nx (σ.set i (some d))) h' := by simp only [ES, EB, k, asgT]
theorem retE {P : Env2} {e : CE} {σ : CSt} {h h' : Hc} {d : D} (k : evE P.C e σ h = .ok d h') : evS P (.ret e) σ h = .ok (.rt d) h' := by simp only [ES, EB, k]
theorem ifT {P : Env2} {t : CE} {a b : CSs} {σ : CSt} {h h' : Hc} (k : evE P.C t σ h = .ok (.bl true) h') : evS P (.ifs t a b) σ h = evSs P a σ h' := by simp only [ES, EB, k, if_true]
theorem ifF {P : Env2} {t : CE} {a b : CSs} {σ : CSt} {h h' : Hc} (k : evE P.C t σ h = .ok (.bl false) h') : evS P (.ifs t a b) σ h = evSs P b σ h' := by simp only [ES, EB, k]; rfl
theorem ifB {P : Env2} {t : CE} {a b : CSs} {σ : CSt} {h h' : Hc} {c : Bool} (k : evE P.C t σ h = .ok (.bl c) h') : evS P (.ifs t a b) σ h = if c then evSs P a σ h' else evSs P b σ h' := by simp only [ES, EB, k]
theorem forS {P : Env2} {t : Tg} {e : CE} {body : CSs} {σ : CSt} {h h' : Hc} {d : D} {xs : List D} {g : Guard} (k : evE P.C e σ h = .ok d h') (k2 : seqD h' d = some xs) (k3 : guardOf h' d = g) : evS P (.for_ t (.seq e) body) σ h = forF (evSs P body) t g xs σ h' := by
  simp only [ES, EV, EB, k, k2, k3]
theorem forR1 {P : Env2} {t : Tg} {a : CE} {body : CSs} {σ : CSt} {h h' : Hc} {j : Int} (k : evE P.C a σ h = .ok (.int j) h') (k2 : smallI j = true) : evS P (.for_ t (.rng1 a) body) σ h = forF (evSs P body) t [] (rngD 0 1 j.toNat) σ h' := by
  simp only [ES, EV, EB, k, k2, if_true]
theorem forR2 {P : Env2} {t : Tg} {a b : CE} {body : CSs} {σ : CSt} {h h' h'' : Hc} {i j : Int} (k : evE P.C a σ h = .ok (.int i) h') (k1 : evE P.C b σ h' = .ok (.int j) h'') (k2 : smallI i = true) (k3 : smallI j = true) : evS P (.for_ t (.rng2 a b) body) σ h = forF (evSs P body) t [] (rngD i 1 (j - i).toNat) σ h'' := by
  simp only [ES, EV, EB, k, k1, k2, k3, Bool.and_self, if_true]
theorem raiseN {P : Env2} {x : Nat} {σ : CSt} {h : Hc} : evS P (.raise x .absent) σ h = .exc ⟨x, none⟩ σ h := by simp only [ES, CE.isAbs, if_true]
/-! ### loops -/
/-- a loop over made items whose body goes on -/
theorem forF_map {α S : Type} {fb : CSt → Hc → SRes} {t : Tg} {g : Guard} (enc : α → D) (R : S → CSt → Hc → Prop) (f : S → α → S) (hg : ∀ s σ h, R s σ h → gOk g h = true) : ∀ (xs : List α), (∀ s x σ h, x ∈ xs → R s σ h → ∃ σ1, asgT t (enc x) σ = some σ1 ∧ ∃ σ2 h2, fb σ1 h = .ok (.nx σ2) h2 ∧ R (f s x) σ2 h2) →
    ∀ (s : S) (σ : CSt) (h : Hc), R s σ h → ∃ σ' h', forF fb t g (xs.map enc) σ h = .ok (.nx σ') h' ∧ R (xs.foldl f s) σ' h'
  | [], _, s, σ, h, r => ⟨σ, h, by rw [List.map_nil, forF, if_pos (hg _ _ _ r)], r⟩
  | x :: xs, k, s, σ, h, r => by
    obtain ⟨σ1, e1, σ2, h2, e2, r2⟩ := k s x σ h (by simp) r
    obtain ⟨σ', h', e3, r3⟩ := forF_map enc R f hg xs (fun s y σ h hy => k s y σ h (by simp [hy])) (f s x) σ2 h2 r2
    refine ⟨σ', h', ?_, r3⟩
    rw [List.map_cons, forF, if_pos (hg _ _ _ r), e1]
    simp only [e2]
    exact e3
/-- .. with an exact state -/
theorem forF_mapE {α S : Type} {fb : CSt → Hc → SRes} {t : Tg} {g : Guard} (enc : α → D) (eσ : S → CSt) (eh : S → Hc) (f : S → α → S) (I : S → Prop) (hg : ∀ s, I s → gOk g (eh s) = true) (xs : List α) (k : ∀ s x, x ∈ xs → I s → I (f s x) ∧ ∃ σ1, asgT t (enc x) (eσ s) = some σ1 ∧ fb σ1 (eh s) = .ok (.nx (eσ (f s x))) (eh (f s x))) (s : S) (hI : I s) :
    forF fb t g (xs.map enc) (eσ s) (eh s) = .ok (.nx (eσ (xs.foldl f s))) (eh (xs.foldl f s)) ∧ I (xs.foldl f s) := by
  obtain ⟨σ', h', e, rfl, rfl, r⟩ := forF_map (fb := fb) (t := t) (g := g) enc (fun s σ h => σ = eσ s ∧ h = eh s ∧ I s) f (fun s σ h r => by obtain ⟨_, rfl, r⟩ := r; exact hg s r) xs (fun s x σ h hx r => by
    obtain ⟨rfl, rfl, r⟩ := r
    obtain ⟨i, σ1, e1, e2⟩ := k s x hx r
    exact ⟨σ1, e1, _, _, e2, rfl, rfl, i⟩) s (eσ s) (eh s) ⟨rfl, rfl, hI⟩
  exact ⟨e, r⟩
/-- a loop over made items that may leave with a value -/
theorem forF_ret {α : Type} {fb : CSt → Hc → SRes} {t : Tg} {g : Guard} (enc : α → D) (R : CSt → Hc → Prop) (B : SRes → Prop) (hg : ∀ σ h, R σ h → gOk g h = true) (hend : ∀ σ h, R σ h → B (.ok (.nx σ) h)) : ∀ (xs : List α), (∀ x σ h, x ∈ xs → R σ h → ∃ σ1, asgT t (enc x) σ = some σ1 ∧ ((∃ σ2 h2, fb σ1 h = .ok (.nx σ2) h2 ∧ R σ2 h2) ∨ (∃ d h2, fb σ1 h = .ok (.rt d) h2 ∧ B (.ok (.rt d) h2)))) →
    ∀ (σ : CSt) (h : Hc), R σ h → B (forF fb t g (xs.map enc) σ h)
  | [], _, σ, h, r => by rw [List.map_nil, forF, if_pos (hg _ _ r)]; exact hend σ h r
  | x :: xs, k, σ, h, r => by
    obtain ⟨σ1, e1, q⟩ := k x σ h (by simp) r
    rw [List.map_cons, forF, if_pos (hg _ _ r), e1]
    rcases q with ⟨σ2, h2, e2, r2⟩ | ⟨d, h2, e2, b⟩
    · simp only [e2]
      exact forF_ret enc R B hg hend xs (fun y σ h hy => k y σ h (by simp [hy])) σ2 h2 r2
    · simp only [e2]; exact b
/-- while: a size that falls -/
theorem whF_meas {fc : EvF} {fb : CSt → Hc → SRes} (I : Nat → CSt → Hc → Prop) (B : SRes → Prop) (k : ∀ m σ h, I m σ h → (∃ h', boolR (fc σ h) = .ok false h' ∧ B (.ok (.nx σ) h')) ∨ (∃ h1 σ2 h2, boolR (fc σ h) = .ok true h1 ∧ fb σ h1 = .ok (.nx σ2) h2 ∧ ∃ m', m' < m ∧ I m' σ2 h2)) :
    ∀ (n m : Nat) (σ : CSt) (h : Hc), m < n → I m σ h → B (whF fc fb n σ h) := by
  intro n
  induction n with
  | zero => intro m σ h hm; omega
  | succ n ih =>
    intro m σ h hm hI
    rw [whF]
    rcases k m σ h hI with ⟨h', e, b⟩ | ⟨h1, σ2, h2, e1, e2, m', hm', hI'⟩
    · simp only [e]; exact b
    · simp only [e1, e2]
      exact ih m' σ2 h2 (by omega) hI'
/-- while, as a statement -/
theorem whS {P : Env2} {t : CE} {body : CSs} {σ : CSt} {h : Hc} (I : Nat → CSt → Hc → Prop) (B : SRes → Prop) (k : ∀ m σ h, I m σ h → (∃ h', boolR (evE P.C t σ h) = .ok false h' ∧ B (.ok (.nx σ) h')) ∨ (∃ h1 σ2 h2, boolR (evE P.C t σ h) = .ok true h1 ∧ evSs P body σ h1 = .ok (.nx σ2) h2 ∧ ∃ m', m' < m ∧ I m' σ2 h2)) (m : Nat) (hm : m < 1000000000) (hI : I m σ h) : B (evS P (.whl t body) σ h) := by
  simp only [ES]
  exact whF_meas I B k wFuel m σ h hm hI

/-! ### plain data -/
mutual
/-- how deep -/
def D.dep : D → Nat
  | .tup xs => D.deps xs + 1
  | .lst xs => D.deps xs + 1
  | _ => 0
def D.deps : List D → Nat
  | [] => 0
  | x :: xs => max (D.dep x) (D.deps xs)
end
mutual
theorem depth_dep : ∀ (d : D), PyData.depth d.toPy ≤ d.dep + 1
  | .non => by simp [D.toPy, PyData.depth]
  | .bl _ => by simp [D.toPy, PyData.depth]
  | .int _ => by simp [D.toPy, PyData.depth]
  | .str _ => by simp [D.toPy, PyData.depth]
  | .ref _ => by simp [D.toPy, PyData.depth]
  | .fn _ => by simp [D.toPy, PyData.depth]
  | .tup xs => by
    have := depths_dep xs
    simp only [D.toPy, PyData.depth, D.dep]
    omega
  | .lst xs => by
    have := depths_dep xs
    simp only [D.toPy, PyData.depth, D.dep]
    omega
theorem depths_dep : ∀ (ds : List D), PyData.depthAll (D.toPys ds) ≤ D.deps ds + 1
  | [] => by simp [D.toPys, PyData.depthAll]
  | d :: ds => by
    have h1 := depth_dep d
    have h2 := depths_dep ds
    simp only [D.toPys, PyData.depthAll, D.deps]
    omega
end
mutual
/-- ints, texts, None, tuples and lists of these: Python's == is equality -/
def D.hard : D → Bool
  | .non => true
  | .int _ => true
  | .str x => PyData.strOk x
  | .tup xs => D.hards xs
  | .lst xs => D.hards xs
  | _ => false
def D.hards : List D → Bool
  | [] => true
  | x :: xs => D.hard x && D.hards xs
end
mutual
theorem hard_plain : ∀ {d : D}, d.hard = true → d.plain = true
  | .non, _ => rfl
  | .int _, _ => rfl
  | .str _, _ => rfl
  | .bl _, h => by simp [D.hard] at h
  | .ref _, h => by simp [D.hard] at h
  | .fn _, h => by simp [D.hard] at h
  | .tup xs, h => by
    simp only [D.hard] at h
    simp only [D.plain]
    exact hards_plain h
  | .lst xs, h => by
    simp only [D.hard] at h
    simp only [D.plain]
    exact hards_plain h
theorem hards_plain : ∀ {ds : List D}, D.hards ds = true → D.plains ds = true
  | [], _ => rfl
  | d :: ds, h => by
    simp only [D.hards, Bool.and_eq_true] at h
    simp only [D.plains, Bool.and_eq_true]
    exact ⟨hard_plain h.1, hards_plain h.2⟩
end
mutual
theorem canLay_hard : ∀ {d : D}, d.hard = true → PyData.canLay0 d.toPy = true
  | .non, _ => rfl
  | .bl _, h => by simp [D.hard] at h
  | .int _, _ => by simp [D.toPy, PyData.canLay0]
  | .str _, h => by simpa [D.toPy, PyData.canLay0, D.hard] using h
  | .ref _, h => by simp [D.hard] at h
  | .fn _, h => by simp [D.hard] at h
  | .tup xs, h => by
    simp only [D.hard] at h
    simp only [D.toPy, PyData.canLay0]
    exact canLays_hard h
  | .lst xs, h => by
    simp only [D.hard] at h
    simp only [D.toPy, PyData.canLay0]
    exact canLays_hard h
theorem canLays_hard : ∀ {ds : List D}, D.hards ds = true → PyData.canLayAll0 (D.toPys ds) = true
  | [], _ => rfl
  | d :: ds, h => by
    simp only [D.hards, Bool.and_eq_true] at h
    simp only [D.toPys, PyData.canLayAll0, Bool.and_eq_true]
    exact ⟨canLay_hard h.1, canLays_hard h.2⟩
end
theorem okD_of {d : D} (h : d.hard = true) (k : d.dep ≤ 63) : d.okD = true := by
  unfold D.okD SeqAt.shaped
  rw [hard_plain h, canLay_hard h, Bool.true_and, Bool.true_and, decide_eq_true_eq]
  have := depth_dep d
  omega
mutual
theorem eqv_hard : ∀ {a b : D}, a.hard = true → b.hard = true → PyData.eqv a.toPy b.toPy = decide (a = b)
  | .non, b, _, hb => by cases b <;> simp [D.hard] at hb <;> simp [D.toPy, PyData.eqv]
  | .int i, b, _, hb => by cases b <;> simp [D.hard] at hb <;> simp [D.toPy, PyData.eqv, Bool.beq_eq_decide_eq]
  | .str x, b, _, hb => by cases b <;> simp [D.hard] at hb <;> (simp [D.toPy, PyData.eqv]; try rw [Bool.eq_iff_iff]; try simp)
  | .bl _, _, h, _ => by simp [D.hard] at h
  | .ref _, _, h, _ => by simp [D.hard] at h
  | .fn _, _, h, _ => by simp [D.hard] at h
  | .tup xs, b, ha, hb => by
    cases b <;> simp [D.hard] at hb <;> simp [D.toPy, PyData.eqv]
    rw [eqvs_hard (by simpa [D.hard] using ha) hb]
  | .lst xs, b, ha, hb => by
    cases b <;> simp [D.hard] at hb <;> simp [D.toPy, PyData.eqv]
    rw [eqvs_hard (by simpa [D.hard] using ha) hb]
theorem eqvs_hard : ∀ {as bs : List D}, D.hards as = true → D.hards bs = true → PyData.eqvAll (D.toPys as) (D.toPys bs) = decide (as = bs)
  | [], bs, _, _ => by cases bs <;> simp [D.toPys, PyData.eqvAll]
  | a :: as, bs, ha, hb => by
    cases bs with
    | nil => simp [D.toPys, PyData.eqvAll]
    | cons b bs =>
      simp only [D.hards, Bool.and_eq_true] at ha hb
      simp only [D.toPys, PyData.eqvAll, eqv_hard ha.1 hb.1, eqvs_hard ha.2 hb.2, List.cons.injEq, Bool.decide_and]
end
theorem eqF_hard {h : Hc} {a b : D} (ha : a.hard = true) (hb : b.hard = true) (da : a.dep ≤ 63) (db : b.dep ≤ 63) : eqF h a b = some (decide (a = b)) := by
  have key : eqG h a b = some (decide (a = b)) := by
    unfold eqG
    have h1 : der h a = a := by cases a <;> first | rfl | simp [D.hard] at ha
    have h2 : der h b = b := by cases b <;> first | rfl | simp [D.hard] at hb
    rw [h1, h2, okD_of ha da, okD_of hb db, eqv_hard ha hb]
    rfl
  unfold eqF
  split
  · simp
  · simp
  · simp
  · exact key
abbrev natD (f : List Nat) : List D := f.map fun n => D.int (n : Nat)
theorem hards_natD : ∀ (l : List Nat), D.hards (natD l) = true
  | [] => rfl
  | a :: l => by
    rw [natD, List.map_cons, D.hards, D.hard, Bool.true_and]
    exact hards_natD l
theorem deps_natD : ∀ (l : List Nat), D.deps (natD l) = 0
  | [] => rfl
  | a :: l => by
    have := deps_natD l
    simp only [natD] at this
    simp [D.deps, D.dep, this]
theorem plains_natD (l : List Nat) : D.plains (natD l) = true := hards_plain (hards_natD l)
theorem any_natD {a : Nat} : ∀ (l : List Nat), ((natD l).any fun z => PyData.eqv z.toPy (D.int (a : Nat)).toPy) = decide (a ∈ l)
  | [] => rfl
  | b :: l => by
    rw [natD, List.map_cons, List.any_cons]
    have := any_natD (a := a) l
    rw [natD] at this
    rw [this]
    rw [Bool.eq_iff_iff]
    simp only [D.toPy, PyData.eqv, Bool.or_eq_true, decide_eq_true_eq, beq_iff_eq, List.mem_cons, Int.natCast_inj]
    exact ⟨fun h => h.imp Eq.symm id, fun h => h.imp Eq.symm id⟩
theorem cell_at {h : Hc} {c : Cell} : (h ++ [c])[h.length]? = some c := by simp
theorem cell_set {h : Hc} {c c' : Cell} : (h ++ [c]).set h.length c' = h ++ [c'] := by simp
theorem inF_nat {H : Hc} {a n : Nat} {l : List Nat} (e : H[n]? = some (.lst (natD l))) : inF H (.int (a : Nat)) (.ref n) = some (decide (a ∈ l)) := by
  have k1 : der H (.ref n) = .lst (natD l) := by simp only [der, e]
  have k2 : der H (.int (a : Nat)) = .int (a : Nat) := rfl
  have k3 : (D.int (a : Nat)).okD = true := okD_of rfl (Nat.zero_le _)
  have k4 : (D.lst (natD l)).okD = true := okD_of (by rw [D.hard]; exact hards_natD l) (by rw [D.dep, deps_natD]; omega)
  have k5 : inData H (.int (a : Nat)) (.lst (natD l)) (natD l) = some (decide (a ∈ l)) := by
    unfold inData
    simp only [k2, k3, k4, any_natD, Bool.and_self, if_true]
  unfold inF
  rw [k1]
  exact k5
theorem atD_nat {l : List Nat} {i : Nat} {v : Nat} (e : l[i]? = some v) : atD (natD l) (i : Int) = some (.int (v : Nat)) := by
  have hlt := (List.getElem?_eq_some_iff.mp e).1
  unfold atD ixD
  rw [if_pos (by omega), if_pos (by rw [natD, List.length_map]; omega)]
  simp [natD, e]
theorem atD_of {α : Type} {l : List α} {i : Nat} {v : α} (e : l[i]? = some v) : atD l (i : Int) = some v := by
  have hlt := (List.getElem?_eq_some_iff.mp e).1
  unfold atD ixD
  rw [if_pos (by omega), if_pos (by omega)]
  simp [e]
end Cl

namespace Cl
open PySem PySem.Spec PyProof.Rows L2
theorem forF_cntA {α : Type} {fb : CSt → Hc → SRes} {t : Tg} {g : Guard} (enc : α → D) (R : Nat → CSt → Hc → Prop) (hg : ∀ i σ h, R i σ h → gOk g h = true) : ∀ (xs : List α) (j : Nat), (∀ i x σ h, i < j + xs.length → x ∈ xs → R i σ h → ∃ σ1, asgT t (enc x) σ = some σ1 ∧ ∃ σ2 h2, fb σ1 h = .ok (.nx σ2) h2 ∧ R (i + 1) σ2 h2) → ∀ (σ : CSt) (h : Hc), R j σ h →
    ∃ σ' h', forF fb t g (xs.map enc) σ h = .ok (.nx σ') h' ∧ R (j + xs.length) σ' h'
  | [], j, _, σ, h, r => ⟨σ, h, by rw [List.map_nil, forF, if_pos (hg _ _ _ r)], r⟩
  | x :: xs, j, k, σ, h, r => by
    obtain ⟨σ1, e1, σ2, h2, e2, r2⟩ := k j x σ h (by simp) (by simp) r
    obtain ⟨σ', h', e3, r3⟩ := forF_cntA enc R hg xs (j + 1) (fun i y σ h hi hy => k i y σ h (by simp; omega) (by simp [hy])) σ2 h2 r2
    refine ⟨σ', h', ?_, by rw [List.length_cons, show j + (xs.length + 1) = j + 1 + xs.length by omega]; exact r3⟩
    rw [List.map_cons, forF, if_pos (hg _ _ _ r), e1]
    simp only [e2]
    exact e3
theorem forF_cnt {α : Type} {fb : CSt → Hc → SRes} {t : Tg} {g : Guard} (enc : α → D) (R : Nat → CSt → Hc → Prop) (hg : ∀ i σ h, R i σ h → gOk g h = true) (xs : List α) (k : ∀ i x σ h, i < xs.length → x ∈ xs → R i σ h → ∃ σ1, asgT t (enc x) σ = some σ1 ∧ ∃ σ2 h2, fb σ1 h = .ok (.nx σ2) h2 ∧ R (i + 1) σ2 h2) (σ : CSt) (h : Hc) (r : R 0 σ h) :
    ∃ σ' h', forF fb t g (xs.map enc) σ h = .ok (.nx σ') h' ∧ R xs.length σ' h' := by
  obtain ⟨σ', h', e, r'⟩ := forF_cntA enc R hg xs 0 (fun i x σ h hi => k i x σ h (by omega)) σ h r
  rw [Nat.zero_add] at r'
  exact ⟨σ', h', e, r'⟩
/-- a comprehension with effects -/
theorem compF_eff {fe fc : EvF} {t : Tg} {g : Guard} {σ : CSt} (I : Hc → Prop) (V : D → Prop) (hg : ∀ h, I h → gOk g h = true) : ∀ (xs : List D), (∀ x h, x ∈ xs → I h → ∃ σ1, asgT t x σ = some σ1 ∧ boolR (fc σ1 h) = .ok true h ∧ ∃ y h', fe σ1 h = .ok y h' ∧ I h' ∧ V y) → ∀ h, I h →
    ∃ ys h', compF fe fc t g σ xs h = .ok ys h' ∧ I h' ∧ ys.length = xs.length ∧ ∀ y ∈ ys, V y
  | [], _, h, i => ⟨[], h, by rw [compF, if_pos (hg h i)], i, rfl, fun y hy => by simp at hy⟩
  | x :: xs, k, h, i => by
    obtain ⟨σ1, e1, e2, y, h', e3, i', v⟩ := k x h (by simp) i
    obtain ⟨ys, h2, e4, i2, l2, v2⟩ := compF_eff I V hg xs (fun x h hx => k x h (by simp [hx])) h' i'
    refine ⟨y :: ys, h2, ?_, i2, by simp [l2], fun z hz => ?_⟩
    · rw [compF, if_pos (hg h i), e1]
      simp only [e2, e3, e4]
    · rcases List.mem_cons.mp hz with rfl | hz
      · exact v
      · exact v2 z hz
theorem natD_of {k : Nat} : ∀ {ys : List D}, (∀ y ∈ ys, ∃ v : Nat, v < k ∧ y = .int (v : Nat)) → ∃ L : List Nat, ys = natD L ∧ L.length = ys.length ∧ ∀ v ∈ L, v < k
  | [], _ => ⟨[], rfl, rfl, fun v hv => by simp at hv⟩
  | y :: ys, h => by
    obtain ⟨v, hv, rfl⟩ := h y (by simp)
    obtain ⟨L, rfl, e, hl⟩ := natD_of (ys := ys) fun z hz => h z (by simp [hz])
    refine ⟨v :: L, rfl, by simp, fun z hz => ?_⟩
    rcases List.mem_cons.mp hz with rfl | hz
    · exact hv
    · exact hl z hz
theorem ev_var {C : Caller} {i : Nat} {σ : CSt} {h : Hc} {d : D} (e : σ[i]? = some (some d)) : evE C (.var i) σ h = .ok d h := by simp only [EV, e]
theorem ev_cst {C : Caller} {d : D} {σ : CSt} {h : Hc} : evE C (.cst d) σ h = .ok d h := by simp only [EV]
theorem ev_bin {C : Caller} {op : Operator} {a b : CE} {σ : CSt} {h h1 h2 : Hc} {x y z : D} (ka : evE C a σ h = .ok x h1) (kb : evE C b σ h1 = .ok y h2) (kz : binF h2 op x y = some z) : evE C (.bin op a b) σ h = .ok z h2 := by simp only [EV, EB, ka, kb, kz]
theorem ev_cmp {C : Caller} {op : CmpOp} {a b : CE} {σ : CSt} {h h1 h2 : Hc} {x y : D} {z : Bool} (ka : evE C a σ h = .ok x h1) (kb : evE C b σ h1 = .ok y h2) (kz : cmpF h2 op x y = some z) : evE C (.cmp op a b) σ h = .ok (.bl z) h2 := by simp only [EV, EB, ka, kb, kz, Option.map_some]
theorem ev_ite {C : Caller} {t a b : CE} {σ : CSt} {h h1 : Hc} {c : Bool} (k : evE C t σ h = .ok (.bl c) h1) : evE C (.ite t a b) σ h = if c then evE C a σ h1 else evE C b σ h1 := by
  simp only [EV, EB, k]
  cases c <;> rfl
theorem ev_not {C : Caller} {t : CE} {σ : CSt} {h h1 : Hc} {c : Bool} (k : evE C t σ h = .ok (.bl c) h1) : evE C (.not_ t) σ h = .ok (.bl (!c)) h1 := by simp only [EV, EB, k]
theorem ev_and {C : Caller} {a b : CE} {σ : CSt} {h h1 : Hc} {c : Bool} (k : evE C a σ h = .ok (.bl c) h1) : evE C (.and_ a b) σ h = if c then evE C b σ h1 else .ok (.bl false) h1 := by
  simp only [EV, EB, k]
  cases c <;> rfl
theorem ev_or {C : Caller} {a b : CE} {σ : CSt} {h h1 : Hc} {c : Bool} (k : evE C a σ h = .ok (.bl c) h1) : evE C (.or_ a b) σ h = if c then .ok (.bl true) h1 else evE C b σ h1 := by
  simp only [EV, EB, k]
  cases c <;> rfl
theorem ev_idx {C : Caller} {a i : CE} {σ : CSt} {h h1 h2 : Hc} {x y z : D} (ka : evE C a σ h = .ok x h1) (kb : evE C i σ h1 = .ok y h2) (kz : idxF h2 x y = some z) : evE C (.idx a i) σ h = .ok z h2 := by simp only [EV, EB, ka, kb, kz]
theorem ev_bi1 {C : Caller} {b : Bi} {a : CE} {σ : CSt} {h h1 : Hc} {x z : D} (ka : evE C a σ h = .ok x h1) (kz : biF h1 b [x] = some z) : evE C (.bi b (.cons a .nil)) σ h = .ok z h1 := by simp only [EV, EB, ka, kz]
theorem ev_bi2 {C : Caller} {b : Bi} {a a' : CE} {σ : CSt} {h h1 h2 : Hc} {x y z : D} (ka : evE C a σ h = .ok x h1) (kb : evE C a' σ h1 = .ok y h2) (kz : biF h2 b [x, y] = some z) : evE C (.bi b (.cons a (.cons a' .nil))) σ h = .ok z h2 := by simp only [EV, EB, ka, kb, kz]
theorem ev_c1 {C : Caller} {f : Nat} {a : CE} {σ : CSt} {h h1 : Hc} {x : D} (ka : evE C a σ h = .ok x h1) : evE C (.call f (.cons a .nil)) σ h = C f [x] h1 := by simp only [EV, EB, ka]
theorem ev_c2 {C : Caller} {f : Nat} {a b : CE} {σ : CSt} {h h1 h2 : Hc} {x y : D} (ka : evE C a σ h = .ok x h1) (kb : evE C b σ h1 = .ok y h2) : evE C (.call f (.cons a (.cons b .nil))) σ h = C f [x, y] h2 := by simp only [EV, EB, ka, kb]
theorem ev_c3 {C : Caller} {f : Nat} {a b c : CE} {σ : CSt} {h h1 h2 h3 : Hc} {x y z : D} (ka : evE C a σ h = .ok x h1) (kb : evE C b σ h1 = .ok y h2) (kc : evE C c σ h2 = .ok z h3) : evE C (.call f (.cons a (.cons b (.cons c .nil)))) σ h = C f [x, y, z] h3 := by simp only [EV, EB, ka, kb, kc]
theorem ev_t1 {C : Caller} {a : CE} {σ : CSt} {h h1 : Hc} {x : D} (ka : evE C a σ h = .ok x h1) : evE C (.tup (.cons a .nil)) σ h = .ok (.tup [x]) h1 := by simp only [EV, EB, ka]
theorem ev_t2 {C : Caller} {a b : CE} {σ : CSt} {h h1 h2 : Hc} {x y : D} (ka : evE C a σ h = .ok x h1) (kb : evE C b σ h1 = .ok y h2) : evE C (.tup (.cons a (.cons b .nil))) σ h = .ok (.tup [x, y]) h2 := by simp only [EV, EB, ka, kb]
theorem ev_t3 {C : Caller} {a b c : CE} {σ : CSt} {h h1 h2 h3 : Hc} {x y z : D} (ka : evE C a σ h = .ok x h1) (kb : evE C b σ h1 = .ok y h2) (kc : evE C c σ h2 = .ok z h3) : evE C (.tup (.cons a (.cons b (.cons c .nil)))) σ h = .ok (.tup [x, y, z]) h3 := by simp only [EV, EB, ka, kb, kc]
theorem ev_nil {C : Caller} {σ : CSt} {h : Hc} : evEs C .nil σ h = .ok [] h := by simp only [EV]
theorem ev_cons {C : Caller} {e : CE} {es : CEs} {σ : CSt} {h h1 h2 : Hc} {x : D} {xs : List D} (ka : evE C e σ h = .ok x h1) (kb : evEs C es σ h1 = .ok xs h2) : evEs C (.cons e es) σ h = .ok (x :: xs) h2 := by simp only [EV, EB, ka, kb]
theorem ev_tup {C : Caller} {es : CEs} {σ : CSt} {h h1 : Hc} {xs : List D} (k : evEs C es σ h = .ok xs h1) : evE C (.tup es) σ h = .ok (.tup xs) h1 := by simp only [EV, EB, k]
theorem ev_lst {C : Caller} {es : CEs} {σ : CSt} {h h1 : Hc} {xs : List D} (k : evEs C es σ h = .ok xs h1) : evE C (.lst es) σ h = .ok (.lst xs) h1 := by simp only [EV, EB, k]
theorem ev_call {C : Caller} {f : Nat} {es : CEs} {σ : CSt} {h h1 : Hc} {xs : List D} (k : evEs C es σ h = .ok xs h1) : evE C (.call f es) σ h = C f xs h1 := by simp only [EV, EB, k]
theorem ev_cell {C : Caller} {e : CE} {σ : CSt} {h h1 : Hc} {xs : List D} (k : evE C e σ h = .ok (.lst xs) h1) : evE C (.cell e) σ h = .ok (.ref h1.length) (h1 ++ [.lst xs]) := by simp only [EV, EB, k]
theorem ev_isin {C : Caller} {a : CE} {ts : List Ty} {σ : CSt} {h h1 : Hc} {x : D} {b : Bool} (ka : evE C a σ h = .ok x h1) (kb : isFs h1 ts x = some b) : evE C (.isin a ts) σ h = .ok (.bl b) h1 := by simp only [EV, EB, ka, kb, Option.map_some]
theorem ev_neg {C : Caller} {a : CE} {σ : CSt} {h h1 : Hc} {i : Int} (ka : evE C a σ h = .ok (.int i) h1) : evE C (.neg a) σ h = .ok (.int (-i)) h1 := by simp only [EV, EB, ka]
theorem optR_no {f : Hc → ERes D} {h : Hc} : optR (CE.isAbs .absent) f h = .ok none h := rfl
theorem optR_is {e : CE} {f : Hc → ERes D} {h h1 : Hc} {i : Int} (hb : e.isAbs = false) (k : f h = .ok (.int i) h1) : optR e.isAbs f h = .ok (some i) h1 := by
  unfold optR
  rw [hb, if_neg (by simp), k]
  rfl
theorem ev_slu {C : Caller} {a hi : CE} {σ : CSt} {h h1 h2 : Hc} {x z : D} {u : Int} (hb : hi.isAbs = false) (ka : evE C a σ h = .ok x h1) (kb : evE C hi σ h1 = .ok (.int u) h2) (kz : sliceF h2 x none (some u) = some z) : evE C (.sl a .absent hi) σ h = .ok z h2 := by
  simp only [EV, EB, ka, optR_no, optR_is hb kb, kz]
theorem ev_sll {C : Caller} {a lo : CE} {σ : CSt} {h h1 h2 : Hc} {x z : D} {u : Int} (hb : lo.isAbs = false) (ka : evE C a σ h = .ok x h1) (kb : evE C lo σ h1 = .ok (.int u) h2) (kz : sliceF h2 x (some u) none = some z) : evE C (.sl a lo .absent) σ h = .ok z h2 := by
  simp only [EV, EB, ka, optR_no, optR_is hb kb, kz]
theorem cutD_mem {α : Type} {xs : List α} {lo hi : Option Int} {x : α} (h : x ∈ cutD xs lo hi) : x ∈ xs := List.mem_of_mem_drop (List.mem_of_mem_take h)
theorem cutD_len {α : Type} {xs : List α} {lo hi : Option Int} : (cutD xs lo hi).length ≤ xs.length := by
  unfold cutD
  rw [List.length_take, List.length_drop]
  omega
theorem exprE {P : Env2} {e : CE} {σ : CSt} {h h' : Hc} {d : D} (k : evE P.C e σ h = .ok d h') : evS P (.expr e) σ h = .ok (.nx σ) h' := by simp only [ES, EB, k]
theorem exprX {P : Env2} {e : CE} {σ : CSt} {h h' : Hc} {x : Exc} (k : evE P.C e σ h = .exc x h') : evS P (.expr e) σ h = .exc x σ h' := by simp only [ES, EB, k]
theorem ev_call1 {C : Caller} {f i : Nat} {σ : CSt} {h : Hc} {d : D} {r : ERes D} (e : σ[i]? = some (some d)) (k : C f [d] h = r) : evE C (.call f (.cons (.var i) .nil)) σ h = r := by
  simp only [EV, EB, e, k]
theorem allB_map {α : Type} (p : α → Bool) : ∀ xs : List α, allB (xs.map fun x => D.bl (p x)) = some (xs.map p)
  | [] => rfl
  | x :: xs => by simp [allB, allB_map p xs]
theorem plains_all {xs : List D} (h : D.plains xs = true) : ∀ x ∈ xs, x.plain = true := by
  induction xs with
  | nil => intro x hx; simp at hx
  | cons y ys ih =>
    simp only [D.plains, Bool.and_eq_true] at h
    intro x hx
    rcases List.mem_cons.mp hx with rfl | hx
    · exact h.1
    · exact ih h.2 x hx
theorem plains_iff {xs : List D} : D.plains xs = true ↔ ∀ x ∈ xs, x.plain = true := by
  constructor
  · exact plains_all
  · intro h
    induction xs with
    | nil => rfl
    | cons x xs ih =>
      rw [D.plains, h x (by simp), ih fun y hy => h y (by simp [hy])]
      rfl
theorem rngD_nat : ∀ (n i : Nat), rngD (i : Int) 1 n = natD (List.range' i n)
  | 0, i => rfl
  | n + 1, i => by
    rw [rngD, List.range'_succ, natD, List.map_cons]
    have := rngD_nat n (i + 1)
    rw [natD] at this
    rw [← this]
    rfl
theorem rngD_zero (n : Nat) : rngD 0 1 n = natD (List.range n) := by
  rw [List.range_eq_range']; exact rngD_nat n 0
theorem atD_natG {l : List Nat} {i : Nat} (h : i < l.length) : atD (natD l) (i : Int) = some (.int (l.getD i 0 : Nat)) := by
  refine atD_nat ?_
  rw [List.getElem?_eq_getElem h, List.getD_eq_getElem?_getD, List.getElem?_eq_getElem h]
  rfl
theorem natD_plain_tup {l : List Nat} : (D.tup (natD l)).plain = true := by rw [D.plain]; exact plains_natD l
theorem mulOk_r {a b : Int} (h : bitsI b ≤ 64) : mulOk a b = true := by unfold mulOk; rw [decide_eq_true h, Bool.or_true]; rfl
theorem divOk_s {m : Int} (h0 : 0 < m) (h : m < 2 ^ 62) : divOk m = true := by
  unfold divOk
  rw [decide_eq_true (by omega), Bool.true_and, decide_eq_true_eq]
  have : m.natAbs < 2 ^ 62 := by omega
  have := (Nat.log2_lt (by omega : m.natAbs ≠ 0)).mpr this
  omega
theorem finR_len {h h' : Hc} {v : D} (e : h'.length = h.length) : finR h v h' = .ok v h' := by
  unfold finR
  split
  · rw [← e, List.take_length]
  · rfl
theorem mulOk_l {a b : Int} (h : bitsI a ≤ 64) : mulOk a b = true := by unfold mulOk; rw [decide_eq_true h]; rfl
end Cl

namespace Cl
open PySem PySem.Spec PyProof.Rows L2
/-! ### the draws that all laws have -/
def BL_state_0 : CSs := (.cons (.asg (.v 1) (.bin .Add (.bin .Mult (.var 1) (.cst (.int 1000003))) (.bi .abs (.cons (.var 3) .nil)))) (.cons (.asg (.v 2) (.bin .Mod (.bi .int (.cons (.bin .Add (.bin .Mult (.var 2) (.cst (.int 48271))) (.var 3)) .nil)) (.cst (.int 2147483647)))) .nil))
def BD_state : CDef := ⟨4, 1, (.cons (.asg (.v 1) (.cst (.int 0))) (.cons (.asg (.v 2) (.cst (.int 1))) (.cons (.for_ (.v 3) (.seq (.sl (.var 0) .absent (.cst (.int 63)))) BL_state_0) (.cons (.ret (.cell (.lst (.cons (.var 1) (.cons (.var 2) .nil))))) .nil))))⟩
def BD_take : CDef := ⟨3, 2, (.cons (.ifs (.cmp .Gt (.idx (.var 0) (.cst (.int 0))) (.cst (.int 0))) (.cons (.asg (.v 2) (.bin .Mod (.bi .int (.cons (.idx (.var 0) (.cst (.int 0))) .nil)) (.var 1))) (.cons (.sput (.var 0) (.cst (.int 0)) (.bin .FloorDiv (.idx (.var 0) (.cst (.int 0))) (.var 1))) (.cons (.ret (.var 2)) .nil))) .nil) (.cons (.sput (.var 0) (.cst (.int 1)) (.bin .Mod (.bi .int (.cons (.bin .Add (.bin .Mult (.idx (.var 0) (.cst (.int 1))) (.cst (.int 48271))) (.cst (.int 11))) .nil)) (.cst (.int 2147483647)))) (.cons (.ret (.bin .Mod (.bi .int (.cons (.bin .FloorDiv (.idx (.var 0) (.cst (.int 1))) (.cst (.int 7))) .nil)) (.var 1))) .nil)))⟩
def HX (ns : List D) (s t : Int) (X : Hc) : Hc := .ro ns :: .lst [.int s, .int t] :: X
theorem run_take {P : Pg} {it : Nat} (hd : P.defs[it]? = some BD_take) {n : Nat} {ns : List D} {s t m : Int} {X : Hc} (h0 : 0 < m) (h1 : m < 2 ^ 62) :
    ∃ (v : Nat) (s' t' : Int), (v : Int) < m ∧ callN P (n + 1) it [.ref 1, .int m] (HX ns s t X) = .ok (.int (v : Nat)) (HX ns s' t' X) := by
  have d7 : divOk 7 = true := by decide
  have dm := divOk_s h0 h1
  have m0 : ¬ m = 0 := by omega
  by_cases hs : 0 < s
  · have hr : 0 ≤ s.fmod m := Int.fmod_nonneg_of_pos _ h0
    have hlt : s.fmod m < m := Int.fmod_lt_of_pos _ h0
    refine ⟨(s.fmod m).toNat, s.fdiv m, t, by omega, ?_⟩
    rw [Int.toNat_of_nonneg hr]
    rw [call_rt0 (σ := [some (.ref 1), some (.int m), none]) (d := BD_take) (b := BD_take.body) (h' := HX ns (s.fdiv m) t X) (v := .int (s.fmod m)) hd rfl rfl rfl]
    · exact finR_len rfl
    · show evSs _ ((.cons (.ifs (.cmp .Gt (.idx (.var 0) (.cst (.int 0))) (.cst (.int 0))) (.cons (.asg (.v 2) (.bin .Mod (.bi .int (.cons (.idx (.var 0) (.cst (.int 0))) .nil)) (.var 1))) (.cons (.sput (.var 0) (.cst (.int 0)) (.bin .FloorDiv (.idx (.var 0) (.cst (.int 0))) (.var 1))) (.cons (.ret (.var 2)) .nil))) .nil) (.cons (.sput (.var 0) (.cst (.int 1)) (.bin .Mod (.bi .int (.cons (.bin .Add (.bin .Mult (.idx (.var 0) (.cst (.int 1))) (.cst (.int 48271))) (.cst (.int 11))) .nil)) (.cst (.int 2147483647)))) (.cons (.ret (.bin .Mod (.bi .int (.cons (.bin .FloorDiv (.idx (.var 0) (.cst (.int 1))) (.cst (.int 7))) .nil)) (.var 1))) .nil)))) _ _ = _
      unfold HX
      simp [ES, EV, EB, asgT, idxF, atD, ixD, cmpF, ltF, hs, biF, intF, binF, int2, m0, dm, putF]
  · have hr : ∀ x : Int, 0 ≤ x.fmod m := fun x => Int.fmod_nonneg_of_pos _ h0
    have hlt : ∀ x : Int, x.fmod m < m := fun x => Int.fmod_lt_of_pos _ h0
    have km : mulOk t 48271 = true := mulOk_r (by decide)
    refine ⟨((((t * 48271 + 11).fmod 2147483647).fdiv 7).fmod m).toNat, s, (t * 48271 + 11).fmod 2147483647, by have := hr (((t * 48271 + 11).fmod 2147483647).fdiv 7); have := hlt (((t * 48271 + 11).fmod 2147483647).fdiv 7); omega, ?_⟩
    rw [Int.toNat_of_nonneg (hr _)]
    rw [call_rt0 (σ := [some (.ref 1), some (.int m), none]) (d := BD_take) (b := BD_take.body) (h' := HX ns s ((t * 48271 + 11).fmod 2147483647) X) (v := .int ((((t * 48271 + 11).fmod 2147483647).fdiv 7).fmod m)) hd rfl rfl rfl]
    · exact finR_len rfl
    · show evSs _ ((.cons (.ifs (.cmp .Gt (.idx (.var 0) (.cst (.int 0))) (.cst (.int 0))) (.cons (.asg (.v 2) (.bin .Mod (.bi .int (.cons (.idx (.var 0) (.cst (.int 0))) .nil)) (.var 1))) (.cons (.sput (.var 0) (.cst (.int 0)) (.bin .FloorDiv (.idx (.var 0) (.cst (.int 0))) (.var 1))) (.cons (.ret (.var 2)) .nil))) .nil) (.cons (.sput (.var 0) (.cst (.int 1)) (.bin .Mod (.bi .int (.cons (.bin .Add (.bin .Mult (.idx (.var 0) (.cst (.int 1))) (.cst (.int 48271))) (.cst (.int 11))) .nil)) (.cst (.int 2147483647)))) (.cons (.ret (.bin .Mod (.bi .int (.cons (.bin .FloorDiv (.idx (.var 0) (.cst (.int 1))) (.cst (.int 7))) .nil)) (.var 1))) .nil)))) _ _ = _
      unfold HX
      simp [ES, EV, EB, idxF, atD, ixD, cmpF, ltF, hs, biF, intF, binF, int2, addF, mulF, km, m0, dm, d7, putF]
theorem run_state {P : Pg} {ia : Nat} (hd : P.defs[ia]? = some BD_state) {n : Nat} {ns : List Int} (hl : ns.length ≤ 63) : ∃ s t : Int, callN P (n + 1) ia [.ref 0] [.ro (ns.map D.int)] = .ok (.ref 1) (HX (ns.map D.int) s t []) := by
  obtain ⟨σ', H', e, ⟨s, t, o3, rfl⟩, hH⟩ := forF_map (fb := evSs ⟨callN P n, P.sub⟩ BL_state_0) (t := .v 3) (g := []) D.int (fun (_ : Unit) σ H => (∃ s t o3, σ = [some (.ref 0), some (.int s), some (.int t), o3]) ∧ H = [.ro (ns.map D.int)]) (fun _ _ => ()) (fun _ _ _ _ => rfl) ns (fun _ c σ H hm R => by
    obtain ⟨⟨s, t, o3, rfl⟩, rfl⟩ := R
    have k1 : mulOk s 1000003 = true := mulOk_r (by decide)
    have k2 : mulOk t 48271 = true := mulOk_r (by decide)
    refine ⟨_, rfl, [some (.ref 0), some (.int (s * 1000003 + if c < 0 then -c else c)), some (.int ((t * 48271 + c).fmod 2147483647)), some (.int c)], [.ro (ns.map D.int)], ?_, ⟨_, _, _, rfl⟩, rfl⟩
    unfold BL_state_0
    simp [ES, EV, EB, asgT, binF, addF, mulF, k1, k2, biF, intF, int2]) () [some (.ref 0), some (.int 0), some (.int 1), none] [.ro (ns.map D.int)] ⟨⟨_, _, _, rfl⟩, rfl⟩
  rw [hH] at e
  refine ⟨s, t, ?_⟩
  rw [call_rt0 (σ := [some (.ref 0), none, none, none]) (d := BD_state) (b := BD_state.body) (h' := HX (ns.map D.int) s t []) (v := .ref 1) hd rfl rfl rfl]
  · rfl
  · show evSs _ ((.cons (.asg (.v 1) (.cst (.int 0))) (.cons (.asg (.v 2) (.cst (.int 1))) (.cons (.for_ (.v 3) (.seq (.sl (.var 0) .absent (.cst (.int 63)))) BL_state_0) (.cons (.ret (.cell (.lst (.cons (.var 1) (.cons (.var 2) .nil))))) .nil))))) _ _ = _
    rw [seqN (σ' := [some (.ref 0), some (.int 0), none, none]) (h' := [.ro (ns.map D.int)]) (asgV (by simp only [EV])), seqN (σ' := [some (.ref 0), some (.int 0), some (.int 1), none]) (h' := [.ro (ns.map D.int)]) (asgV (by simp only [EV]))]
    rw [seqN (σ' := [some (.ref 0), some (.int s), some (.int t), o3]) (h' := [.ro (ns.map D.int)])]
    · refine seqR (retE ?_)
      simp only [EV, EB, List.getElem?_cons_zero, List.getElem?_cons_succ]
      rfl
    · rw [forS (P := ⟨callN P n, P.sub⟩) (h' := [.ro (ns.map D.int)]) (d := .lst (ns.map D.int)) (xs := ns.map D.int) (g := []) _ rfl rfl]
      · exact e
      · simp only [EV, EB, List.getElem?_cons_zero, CE.isAbs, optR, sliceF, der]
        simp only [if_true, EB]
        rw [if_neg (by simp)]
        simp only [EB, cutD, slx]
        simp [EB]
        rw [List.take_of_length_le (by rw [List.length_map]; omega)]
theorem take2 {C : Caller} {it : Nat} {ns : List D} {s t : Int} {X : Hc} {e1 e2 : CE} {σ : CSt} {m : Int} (hC : ∀ s t m X, 0 < m → m < 2 ^ 62 → ∃ (v : Nat) (s' t' : Int), (v : Int) < m ∧ C it [.ref 1, .int m] (HX ns s t X) = .ok (.int (v : Nat)) (HX ns s' t' X)) (h0 : 0 < m) (h1 : m < 2 ^ 62) (k1 : evE C e1 σ (HX ns s t X) = .ok (.ref 1) (HX ns s t X)) (k2 : evE C e2 σ (HX ns s t X) = .ok (.int m) (HX ns s t X)) :
    ∃ (v : Nat) (s' t' : Int), (v : Int) < m ∧ evE C (.call it (.cons e1 (.cons e2 .nil))) σ (HX ns s t X) = .ok (.int (v : Nat)) (HX ns s' t' X) := by
  obtain ⟨v, s', t', hv, e⟩ := hC s t m X h0 h1
  exact ⟨v, s', t', hv, by simp only [EV, EB, k1, k2, e]⟩
abbrev TakeOk (C : Caller) (it : Nat) (ns : List D) : Prop := ∀ s t m X, 0 < m → m < 2 ^ 62 → ∃ (v : Nat) (s' t' : Int), (v : Int) < m ∧ C it [.ref 1, .int m] (HX ns s t X) = .ok (.int (v : Nat)) (HX ns s' t' X)
theorem take_ok {P : Pg} {it : Nat} (hd : P.defs[it]? = some BD_take) {n : Nat} {ns : List D} : TakeOk (callN P (n + 1)) it ns := fun s t m X h0 h1 => run_take hd h0 h1
/-- a menu's item, drawn -/
theorem menu {C : Caller} {it : Nat} {ns : List D} {s t : Int} {X : Hc} {e1 : CE} {σ : CSt} (hC : TakeOk C it ns) (ms : List Nat) (hm : 0 < ms.length) (hs : ms.length < 100) (k1 : ∀ s t X, evE C e1 σ (HX ns s t X) = .ok (.ref 1) (HX ns s t X)) (es : CEs) (he : ∀ h, evEs C es σ h = .ok (natD ms) h) (k : Int) (hk : k = ms.length) :
    ∃ (v : Nat) (s' t' : Int), v ∈ ms ∧ evE C (.idx (.lst es) (.call it (.cons e1 (.cons (.cst (.int k)) .nil)))) σ (HX ns s t X) = .ok (.int (v : Nat)) (HX ns s' t' X) := by
  obtain ⟨v, s', t', hv, e⟩ := take2 (m := k) (e2 := .cst (.int k)) hC (by omega) (by omega) (k1 s t X) (by simp only [EV])
  have hlt : v < ms.length := by omega
  refine ⟨ms[v], s', t', List.getElem_mem hlt, ?_⟩
  exact ev_idx (ev_lst (he _)) e (atD_nat (List.getElem?_eq_getElem hlt))
/-- a row of drawn numbers -/
theorem comp_draw {C : Caller} {ns : List D} {X : Hc} {elt a : CE} {i k : Nat} {σ : CSt} {s t s1 t1 : Int} {m : Nat} (hm : m ≤ 1000) (ea : evE C a σ (HX ns s t X) = .ok (.int (m : Nat)) (HX ns s1 t1 X))
    (el : ∀ (x : Nat) (s t : Int), ∃ (v : Nat) (s' t' : Int), v < k ∧ evE C elt ((cwipe σ [i]).set i (some (.int (x : Nat)))) (HX ns s t X) = .ok (.int (v : Nat)) (HX ns s' t' X)) :
    ∃ (L : List Nat) (s' t' : Int), L.length = m ∧ (∀ v ∈ L, v < k) ∧ evE C (.comp elt (.v i) (.rng1 a) .absent [i]) σ (HX ns s t X) = .ok (.lst (natD L)) (HX ns s' t' X) := by
  obtain ⟨ys, h', e, ⟨s', t', rfl⟩, hl, hv⟩ := compF_eff (fe := evE C elt) (fc := condR true (evE C .absent)) (t := .v i) (g := []) (σ := cwipe σ [i]) (fun h => ∃ s t, h = HX ns s t X) (fun y => ∃ v : Nat, v < k ∧ y = .int (v : Nat)) (fun _ _ => rfl) (natD (List.range m)) (fun x h hx I => by
    obtain ⟨s, t, rfl⟩ := I
    obtain ⟨x, _, rfl⟩ := List.mem_map.mp hx
    obtain ⟨v, s', t', hv, e⟩ := el x s t
    exact ⟨_, rfl, rfl, _, _, e, ⟨s', t', rfl⟩, v, hv, rfl⟩) (HX ns s1 t1 X) ⟨s1, t1, rfl⟩
  obtain ⟨L, rfl, hL, hk⟩ := natD_of hv
  refine ⟨L, s', t', by rw [hL, hl, natD, List.length_map, List.length_range], hk, ?_⟩
  have hsm : smallI (m : Nat) = true := by unfold smallI; simp; omega
  simp only [EV, EB, ea, hsm, if_true]
  rw [if_pos (by rw [Int.toNat_natCast, rngD_zero, natD, List.length_map, List.length_range]; unfold line; omega), Int.toNat_natCast, rngD_zero]
  simp only [CE.isAbs, e, lmap, List.nil_append]
theorem menuD {C : Caller} {it : Nat} {ns : List D} {s t : Int} {X : Hc} {e1 : CE} {σ : CSt} (hC : TakeOk C it ns) (ms : List D) (hm : 0 < ms.length) (hs : ms.length < 100) (k1 : ∀ s t X, evE C e1 σ (HX ns s t X) = .ok (.ref 1) (HX ns s t X)) (es : CEs) (he : evEs C es σ (HX ns s t X) = .ok ms (HX ns s t X)) (k : Int) (hk : k = ms.length) :
    ∃ (v : D) (s' t' : Int), v ∈ ms ∧ evE C (.idx (.lst es) (.call it (.cons e1 (.cons (.cst (.int k)) .nil)))) σ (HX ns s t X) = .ok v (HX ns s' t' X) := by
  obtain ⟨v, s', t', hv, e⟩ := take2 (m := k) (e2 := .cst (.int k)) hC (by omega) (by omega) (k1 s t X) ev_cst
  have hlt : v < ms.length := by omega
  exact ⟨ms[v], s', t', List.getElem_mem hlt, ev_idx (ev_lst he) e (atD_of (List.getElem?_eq_getElem hlt))⟩
/-! ### expressions that make plain data -/
def PE (C : Caller) (σ : CSt) (h : Hc) (e : CE) : Prop := ∃ d, evE C e σ h = .ok d h ∧ d.plain = true
def PEs (C : Caller) (σ : CSt) (h : Hc) (es : CEs) (n : Nat) : Prop := ∃ ds, evEs C es σ h = .ok ds h ∧ D.plains ds = true ∧ ds.length = n
/-- .. a tuple of at most n items -/
def PT (C : Caller) (σ : CSt) (h : Hc) (e : CE) (n : Nat) : Prop := ∃ ds, evE C e σ h = .ok (.tup ds) h ∧ D.plains ds = true ∧ ds.length ≤ n
section
variable {C : Caller} {σ : CSt} {h : Hc}
theorem PE.c {d : D} (hp : d.plain = true) : PE C σ h (.cst d) := ⟨d, ev_cst, hp⟩
theorem PE.v {i : Nat} {d : D} (e : σ[i]? = some (some d)) (hp : d.plain = true) : PE C σ h (.var i) := ⟨d, ev_var e, hp⟩
theorem PEs.n : PEs C σ h .nil 0 := ⟨[], ev_nil, rfl, rfl⟩
theorem PEs.k {e : CE} {es : CEs} {n : Nat} (a : PE C σ h e) (b : PEs C σ h es n) : PEs C σ h (.cons e es) (n + 1) := by
  obtain ⟨d, e1, p1⟩ := a
  obtain ⟨ds, e2, p2, l2⟩ := b
  exact ⟨d :: ds, ev_cons e1 e2, by rw [D.plains, p1, p2]; rfl, by simp [l2]⟩
theorem PT.t {es : CEs} {n : Nat} (a : PEs C σ h es n) : PT C σ h (.tup es) n := by
  obtain ⟨ds, e, p, l⟩ := a
  exact ⟨ds, ev_tup e, p, by omega⟩
theorem PT.e {e : CE} {n : Nat} (a : PT C σ h e n) : PE C σ h e := by
  obtain ⟨ds, e, p, l⟩ := a
  exact ⟨_, e, by rw [D.plain]; exact p⟩
theorem PT.v {i : Nat} {ds : List D} {n : Nat} (e : σ[i]? = some (some (.tup ds))) (hp : D.plains ds = true) (hl : ds.length ≤ n) : PT C σ h (.var i) n := ⟨ds, ev_var e, hp, hl⟩
theorem PT.l {e : CE} {n : Nat} (a : PT C σ h e n) : PE C σ h (.bi .list (.cons e .nil)) := by
  obtain ⟨ds, e, p, l⟩ := a
  exact ⟨.lst ds, ev_bi1 e rfl, by rw [D.plain]; exact p⟩
theorem plains_app {xs ys : List D} (hx : D.plains xs = true) (hy : D.plains ys = true) : D.plains (xs ++ ys) = true := by
  rw [plains_iff] at *
  intro x h
  rcases List.mem_append.mp h with h | h
  · exact hx x h
  · exact hy x h
theorem PT.app {a b : CE} {n m : Nat} (ka : PT C σ h a n) (kb : PT C σ h b m) (hl : n + m ≤ 1000) : PT C σ h (.bin .Add a b) (n + m) := by
  obtain ⟨xs, e1, p1, l1⟩ := ka
  obtain ⟨ys, e2, p2, l2⟩ := kb
  refine ⟨xs ++ ys, ev_bin e1 e2 ?_, plains_app p1 p2, by rw [List.length_append]; omega⟩
  simp only [binF, addF]
  exact if_pos (by unfold line; omega)
theorem plains_rep {xs : List D} (h : D.plains xs = true) : ∀ n, D.plains (List.replicate n xs).flatten = true
  | 0 => rfl
  | n + 1 => by rw [List.replicate_succ, List.flatten_cons]; exact plains_app h (plains_rep h n)
theorem rep_len {xs : List D} : ∀ n, (List.replicate n xs).flatten.length = n * xs.length
  | 0 => by simp
  | n + 1 => by rw [List.replicate_succ, List.flatten_cons, List.length_append, rep_len n, Nat.succ_mul]; omega
theorem PT.mul {a b : CE} {m : Nat} (ka : PT C σ h a 1) (kb : evE C b σ h = .ok (.int (m : Nat)) h) (hm : m ≤ 1000) : PT C σ h (.bin .Mult a b) m := by
  obtain ⟨xs, e1, p1, l1⟩ := ka
  refine ⟨(List.replicate m xs).flatten, ev_bin e1 kb ?_, plains_rep p1 m, ?_⟩
  · simp only [binF, mulF, Int.toNat_natCast]
    refine if_pos ⟨by omega, by omega, ?_⟩
    have : xs.length * m ≤ 1 * m := Nat.mul_le_mul_right _ l1
    unfold line; omega
  · rw [rep_len]
    have : m * xs.length ≤ m * 1 := Nat.mul_le_mul_left _ l1
    omega
theorem PT.rev {a : CE} {n : Nat} (ka : PT C σ h a n) : PT C σ h (.rev a) n := by
  obtain ⟨xs, e1, p1, l1⟩ := ka
  refine ⟨xs.reverse, by simp only [EV, EB, e1, revF, der], ?_, by simpa using l1⟩
  rw [plains_iff] at *
  intro x hx
  exact p1 x (List.mem_reverse.mp hx)
theorem PT.sl {a : CE} {n : Nat} (u : Int) (ka : PT C σ h a n) : PT C σ h (.sl a (.cst (.int u)) .absent) n := by
  obtain ⟨xs, e1, p1, l1⟩ := ka
  refine ⟨cutD xs (some u) none, ev_sll rfl e1 ev_cst rfl, ?_, Nat.le_trans cutD_len l1⟩
  rw [plains_iff] at *
  intro x hx
  exact p1 x (cutD_mem hx)
theorem PE.ints {e : CE} {i : Int} (k : evE C e σ h = .ok (.int i) h) : PE C σ h e := ⟨_, k, rfl⟩
end
end Cl

namespace Cl
open PySem PySem.Spec PyProof.Rows L2
/-! ### Euclid, by the number of its steps -/
/-- how many steps are left, at most -/
def eMeas (x y : Nat) : Nat := if y = 0 then 0 else 2 * (x * y).log2 + (if x < y then 1 else 0) + 2
theorem log2_double {a b : Nat} (ha : 0 < a) (h : 2 * a ≤ b) : a.log2 + 1 ≤ b.log2 := by
  have hb : b ≠ 0 := by omega
  rw [Nat.le_log2 hb]
  have := Nat.log2_self_le (by omega : a ≠ 0)
  rw [Nat.pow_succ]
  omega
theorem eMeas_step {x y : Nat} (hy : y ≠ 0) : eMeas y (x % y) < eMeas x y := by
  unfold eMeas
  rw [if_neg hy]
  have hy0 : 0 < y := by omega
  have hlt := Nat.mod_lt x hy0
  by_cases hr : x % y = 0
  · rw [if_pos hr]; omega
  · rw [if_neg hr]
    by_cases hx : x < y
    · rw [Nat.mod_eq_of_lt hx, if_pos hx, if_neg (by omega), Nat.mul_comm y x]
      omega
    · rw [if_neg hx, if_neg (by omega)]
      have h1 := Nat.div_add_mod x y
      have h2 : 1 ≤ x / y := Nat.div_pos (by omega) hy0
      have h3 : y * 1 ≤ y * (x / y) := Nat.mul_le_mul_left _ h2
      have h4 : 2 * (x % y) ≤ x := by omega
      have h5 : 2 * (y * (x % y)) ≤ x * y := by
        calc 2 * (y * (x % y)) = y * (2 * (x % y)) := by rw [Nat.mul_left_comm]
          _ ≤ y * x := Nat.mul_le_mul_left _ h4
          _ = x * y := Nat.mul_comm _ _
      have := log2_double (Nat.mul_pos hy0 (by omega : 0 < x % y)) h5
      omega
theorem eMeas_lt {x y : Nat} (hx : x.log2 < 100000000) (hy : y.log2 < 100000000) : eMeas x y < 1000000000 := by
  unfold eMeas
  split
  · omega
  · by_cases h0 : x = 0
    · subst h0
      rw [Nat.zero_mul, show Nat.log2 0 = 0 from by decide]
      split <;> omega
    · rename_i hy0
      have h1 := (Nat.log2_lt h0).mp (Nat.lt_succ_self _)
      have h2 := (Nat.log2_lt hy0).mp (Nat.lt_succ_self _)
      have h3 : x * y < 2 ^ ((x.log2 + 1) + (y.log2 + 1)) := by
        rw [Nat.pow_add]
        exact Nat.mul_lt_mul'' h1 h2
      have h4 := (Nat.log2_lt (Nat.mul_ne_zero h0 hy0)).mpr h3
      split <;> omega
def smallG (n d : Int) : Bool := decide (n.natAbs.log2 < 100000000) && decide (d.natAbs.log2 < 100000000)
theorem absD (i : Int) : (if i < 0 then -i else i) = (i.natAbs : Nat) := by split <;> omega
/-- n over d in lowest terms -/
def sgcd (n d : Int) : Int := if d < 0 then -((Nat.gcd n.natAbs d.natAbs : Nat) : Int) else ((Nat.gcd n.natAbs d.natAbs : Nat) : Int)
def lowM (n d : Int) : Option (Int × Int) := if smallG n d && divOk (sgcd n d) then some (n.fdiv (sgcd n d), d.fdiv (sgcd n d)) else none
abbrev qD (q : Int × Int) : D := .tup [.int q.1, .int q.2]
def BL_gcd : CSs := (.cons (.asg (.t (.cons (.v 0) (.cons (.v 1) .nil))) (.tup (.cons (.var 1) (.cons (.bin .Mod (.var 0) (.var 1)) .nil)))) .nil)
def BD_gcd : CDef := ⟨2, 2, (.cons (.asg (.t (.cons (.v 0) (.cons (.v 1) .nil))) (.tup (.cons (.bi .abs (.cons (.var 0) .nil)) (.cons (.bi .abs (.cons (.var 1) .nil)) .nil)))) (.cons (.whl (.cmp .NotEq (.var 1) (.cst (.int 0))) BL_gcd) (.cons (.ret (.var 0)) .nil)))⟩
theorem asgE {P : Env2} {t : Tg} {e : CE} {σ σ' : CSt} {h h' : Hc} {d : D} (k : evE P.C e σ h = .ok d h') (k2 : asgT t d σ = some σ') : evS P (.asg t e) σ h = .ok (.nx σ') h' := by simp only [ES, EB, k, k2]
/-- Euclid's loop over two places -/
theorem euclid {Pe : Env2} {test : CE} {body : CSs} (mk : Int → Int → CSt) (h : Hc) (ht : ∀ x y : Int, evE Pe.C test (mk x y) h = .ok (.bl (!decide (y = 0))) h) (hb : ∀ x y : Int, y ≠ 0 → evSs Pe body (mk x y) h = .ok (.nx (mk y (x.fmod y))) h)
    (x y : Nat) (hx : x.log2 < 100000000) (hy : y.log2 < 100000000) : evS Pe (.whl test body) (mk x y) h = .ok (.nx (mk (Nat.gcd x y : Nat) 0)) h := by
  refine whS (P := Pe) (fun m σ H => ∃ a b : Nat, σ = mk a b ∧ H = h ∧ Nat.gcd a b = Nat.gcd x y ∧ m = eMeas a b) (fun r => r = .ok (.nx (mk (Nat.gcd x y : Nat) 0)) h) (fun m σ H I => ?_) (eMeas x y) (eMeas_lt hx hy) ⟨x, y, rfl, rfl, rfl, rfl⟩
  obtain ⟨a, b, rfl, rfl, hg, rfl⟩ := I
  by_cases hb0 : b = 0
  · left
    subst hb0
    rw [Nat.gcd_zero_right] at hg
    exact ⟨H, by rw [ht]; rfl, by rw [← hg]; rfl⟩
  · right
    refine ⟨H, mk (b : Nat) ((a % b : Nat) : Int), H, ?_, ?_, eMeas b (a % b), eMeas_step hb0, b, a % b, rfl, rfl, ?_, rfl⟩
    · rw [ht, decide_eq_false (by omega)]; rfl
    · rw [hb _ _ (by omega)]
      rw [Int.fmod_eq_emod_of_nonneg _ (by omega)]
      rfl
    · rw [← hg, Nat.gcd_comm a b, Nat.gcd_rec b a, Nat.gcd_comm]
theorem run_gcd {P : Pg} {i : Nat} (hd : P.defs[i]? = some BD_gcd) {n : Nat} {h : Hc} {a b : Int} (hs : smallG a b = true) : callN P (n + 1) i [.int a, .int b] h = .ok (.int (Nat.gcd a.natAbs b.natAbs : Nat)) h := by
  simp only [smallG, Bool.and_eq_true, decide_eq_true_eq] at hs
  refine call_rtp (d := BD_gcd) (b := BD_gcd.body) (σ := [some (.int a), some (.int b)]) hd rfl rfl rfl ?_
  show evSs _ (.cons (.asg (.t (.cons (.v 0) (.cons (.v 1) .nil))) (.tup (.cons (.bi .abs (.cons (.var 0) .nil)) (.cons (.bi .abs (.cons (.var 1) .nil)) .nil)))) (.cons (.whl (.cmp .NotEq (.var 1) (.cst (.int 0))) BL_gcd) (.cons (.ret (.var 0)) .nil))) _ _ = _
  have e1 : evS ⟨callN P n, P.sub⟩ (.asg (.t (.cons (.v 0) (.cons (.v 1) .nil))) (.tup (.cons (.bi .abs (.cons (.var 0) .nil)) (.cons (.bi .abs (.cons (.var 1) .nil)) .nil)))) [some (.int a), some (.int b)] h = .ok (.nx [some (.int (a.natAbs : Nat)), some (.int (b.natAbs : Nat))]) h :=
    asgE (ev_t2 (ev_bi1 (z := .int (a.natAbs : Nat)) (ev_var rfl) (by simp only [biF]; rw [absD])) (ev_bi1 (z := .int (b.natAbs : Nat)) (ev_var rfl) (by simp only [biF]; rw [absD]))) rfl
  have e2 := euclid (Pe := ⟨callN P n, P.sub⟩) (test := .cmp .NotEq (.var 1) (.cst (.int 0))) (body := BL_gcd) (fun x y => [some (.int x), some (.int y)]) h (fun x y => ev_cmp (ev_var rfl) ev_cst rfl) (fun x y hy => by
    unfold BL_gcd
    rw [seqN (asgE (ev_t2 (ev_var rfl) (ev_bin (op := .Mod) (z := .int (x.fmod y)) (ev_var rfl) (ev_var rfl) (by simp only [binF, int2]; rw [if_neg hy]; rfl))) rfl)]
    simp only [ES]; all_goals rfl) a.natAbs b.natAbs hs.1 hs.2
  rw [seqN e1, seqN e2]
  exact seqR (retE (ev_var rfl))
def BD_low (ig : Nat) : CDef := ⟨3, 2, (.cons (.asg (.v 2) (.call ig (.cons (.var 0) (.cons (.var 1) .nil)))) (.cons (.ifs (.cmp .Lt (.var 1) (.cst (.int 0))) (.cons (.asg (.v 2) (.neg (.var 2))) .nil) .nil) (.cons (.ret (.tup (.cons (.bin .FloorDiv (.var 0) (.var 2)) (.cons (.bin .FloorDiv (.var 1) (.var 2)) .nil)))) .nil)))⟩
theorem run_low {P : Pg} {i ig : Nat} (hd : P.defs[i]? = some (BD_low ig)) (hg : P.defs[ig]? = some BD_gcd) {n : Nat} {h : Hc} {a b : Int} {q : Int × Int} (hq : lowM a b = some q) : callN P (n + 2) i [.int a, .int b] h = .ok (qD q) h := by
  unfold lowM at hq
  split at hq
  · rename_i hc
    rw [Bool.and_eq_true] at hc
    cases hq
    refine call_rtp (d := BD_low ig) (b := (BD_low ig).body) (σ := [some (.int a), some (.int b), none]) hd rfl rfl rfl ?_
    show evSs _ (.cons (.asg (.v 2) (.call ig (.cons (.var 0) (.cons (.var 1) .nil)))) (.cons (.ifs (.cmp .Lt (.var 1) (.cst (.int 0))) (.cons (.asg (.v 2) (.neg (.var 2))) .nil) .nil) (.cons (.ret (.tup (.cons (.bin .FloorDiv (.var 0) (.var 2)) (.cons (.bin .FloorDiv (.var 1) (.var 2)) .nil)))) .nil))) _ _ = _
    rw [seqN (σ' := [some (.int a), some (.int b), some (.int (Nat.gcd a.natAbs b.natAbs : Nat))]) (h' := h) (asgV (P := ⟨callN P (n + 1), P.sub⟩) ((ev_c2 (ev_var rfl) (ev_var rfl)).trans (run_gcd hg (n := n) hc.1)))]
    have ec : evE (callN P (n + 1)) (.cmp .Lt (.var 1) (.cst (.int 0))) [some (.int a), some (.int b), some (.int (Nat.gcd a.natAbs b.natAbs : Nat))] h = .ok (.bl (decide (b < 0))) h := ev_cmp (ev_var rfl) ev_cst rfl
    by_cases hb : b < 0
    · have hg : sgcd a b = -((Nat.gcd a.natAbs b.natAbs : Nat) : Int) := if_pos hb
      rw [hg] at hc ⊢
      rw [decide_eq_true hb] at ec
      rw [seqN (σ' := [some (.int a), some (.int b), some (.int (-(Nat.gcd a.natAbs b.natAbs : Nat)))]) (h' := h) (by
        rw [ifT (P := ⟨callN P (n + 1), P.sub⟩) ec, seqN (asgV (P := ⟨callN P (n + 1), P.sub⟩) (ev_neg (ev_var rfl)))]; simp only [ES]; rfl)]
      exact seqR (retE (ev_t2 (ev_bin (op := .FloorDiv) (ev_var rfl) (ev_var rfl) (by simp only [binF, int2]; rw [if_pos hc.2]; rfl)) (ev_bin (op := .FloorDiv) (ev_var rfl) (ev_var rfl) (by simp only [binF, int2]; rw [if_pos hc.2]; rfl))))
    · have hg : sgcd a b = ((Nat.gcd a.natAbs b.natAbs : Nat) : Int) := if_neg hb
      rw [hg] at hc ⊢
      rw [decide_eq_false hb] at ec
      rw [seqN (σ' := [some (.int a), some (.int b), some (.int (Nat.gcd a.natAbs b.natAbs : Nat))]) (h' := h) (by rw [ifF (P := ⟨callN P (n + 1), P.sub⟩) ec]; simp only [ES])]
      exact seqR (retE (ev_t2 (ev_bin (op := .FloorDiv) (ev_var rfl) (ev_var rfl) (by simp only [binF, int2]; rw [if_pos hc.2]; rfl)) (ev_bin (op := .FloorDiv) (ev_var rfl) (ev_var rfl) (by simp only [binF, int2]; rw [if_pos hc.2]; rfl))))
  · cases hq
/-! the law's own -/
def BL_frac : CSs := (.cons (.asg (.t (.cons (.v 2) (.cons (.v 3) .nil))) (.tup (.cons (.var 3) (.cons (.bin .Mod (.bi .int (.cons (.var 2) .nil)) (.var 3)) .nil)))) .nil)
def BD_frac : CDef := ⟨4, 2, (.cons (.asg (.t (.cons (.v 2) (.cons (.v 3) .nil))) (.tup (.cons (.bi .abs (.cons (.var 0) .nil)) (.cons (.bi .abs (.cons (.var 1) .nil)) .nil)))) (.cons (.whl (.cmp .NotEq (.var 3) (.cst (.int 0))) BL_frac) (.cons (.ifs (.cmp .Lt (.var 1) (.cst (.int 0))) (.cons (.asg (.v 2) (.neg (.var 2))) .nil) .nil) (.cons (.ret (.tup (.cons (.bin .FloorDiv (.var 0) (.var 2)) (.cons (.bin .FloorDiv (.var 1) (.var 2)) .nil)))) .nil))))⟩
theorem run_frac {P : Pg} {i : Nat} (hd : P.defs[i]? = some BD_frac) {n : Nat} {h : Hc} {a b : Int} {q : Int × Int} (hq : lowM a b = some q) : callN P (n + 1) i [.int a, .int b] h = .ok (qD q) h := by
  unfold lowM at hq
  split at hq
  · rename_i hc
    rw [Bool.and_eq_true] at hc
    have hs := hc.1
    simp only [smallG, Bool.and_eq_true, decide_eq_true_eq] at hs
    cases hq
    refine call_rtp (d := BD_frac) (b := BD_frac.body) (σ := [some (.int a), some (.int b), none, none]) hd rfl rfl rfl ?_
    show evSs _ (.cons (.asg (.t (.cons (.v 2) (.cons (.v 3) .nil))) (.tup (.cons (.bi .abs (.cons (.var 0) .nil)) (.cons (.bi .abs (.cons (.var 1) .nil)) .nil)))) (.cons (.whl (.cmp .NotEq (.var 3) (.cst (.int 0))) BL_frac) (.cons (.ifs (.cmp .Lt (.var 1) (.cst (.int 0))) (.cons (.asg (.v 2) (.neg (.var 2))) .nil) .nil) (.cons (.ret (.tup (.cons (.bin .FloorDiv (.var 0) (.var 2)) (.cons (.bin .FloorDiv (.var 1) (.var 2)) .nil)))) .nil)))) _ _ = _
    have e1 : evS ⟨callN P n, P.sub⟩ (.asg (.t (.cons (.v 2) (.cons (.v 3) .nil))) (.tup (.cons (.bi .abs (.cons (.var 0) .nil)) (.cons (.bi .abs (.cons (.var 1) .nil)) .nil)))) [some (.int a), some (.int b), none, none] h = .ok (.nx [some (.int a), some (.int b), some (.int (a.natAbs : Nat)), some (.int (b.natAbs : Nat))]) h :=
      asgE (ev_t2 (ev_bi1 (z := .int (a.natAbs : Nat)) (ev_var rfl) (by simp only [biF]; rw [absD])) (ev_bi1 (z := .int (b.natAbs : Nat)) (ev_var rfl) (by simp only [biF]; rw [absD]))) rfl
    have e2 := euclid (Pe := ⟨callN P n, P.sub⟩) (test := .cmp .NotEq (.var 3) (.cst (.int 0))) (body := BL_frac) (fun x y => [some (.int a), some (.int b), some (.int x), some (.int y)]) h (fun x y => ev_cmp (ev_var rfl) ev_cst rfl) (fun x y hy => by
      unfold BL_frac
      rw [seqN (asgE (ev_t2 (ev_var rfl) (ev_bin (op := .Mod) (z := .int (x.fmod y)) (ev_bi1 (ev_var rfl) rfl) (ev_var rfl) (by simp only [binF, int2]; rw [if_neg hy]; rfl))) rfl)]
      simp only [ES]; all_goals rfl) a.natAbs b.natAbs hs.1 hs.2
    rw [seqN e1, seqN e2]
    have ec : evE (callN P n) (.cmp .Lt (.var 1) (.cst (.int 0))) [some (.int a), some (.int b), some (.int (Nat.gcd a.natAbs b.natAbs : Nat)), some (.int 0)] h = .ok (.bl (decide (b < 0))) h := ev_cmp (ev_var rfl) ev_cst rfl
    by_cases hb : b < 0
    · have hg : sgcd a b = -((Nat.gcd a.natAbs b.natAbs : Nat) : Int) := if_pos hb
      rw [hg] at hc ⊢
      rw [decide_eq_true hb] at ec
      rw [seqN (σ' := [some (.int a), some (.int b), some (.int (-(Nat.gcd a.natAbs b.natAbs : Nat))), some (.int 0)]) (h' := h) (by
        rw [ifT (P := ⟨callN P n, P.sub⟩) ec, seqN (asgV (P := ⟨callN P n, P.sub⟩) (ev_neg (ev_var rfl)))]; simp only [ES]; rfl)]
      exact seqR (retE (ev_t2 (ev_bin (op := .FloorDiv) (ev_var rfl) (ev_var rfl) (by simp only [binF, int2]; rw [if_pos hc.2]; rfl)) (ev_bin (op := .FloorDiv) (ev_var rfl) (ev_var rfl) (by simp only [binF, int2]; rw [if_pos hc.2]; rfl))))
    · have hg : sgcd a b = ((Nat.gcd a.natAbs b.natAbs : Nat) : Int) := if_neg hb
      rw [hg] at hc ⊢
      rw [decide_eq_false hb] at ec
      rw [seqN (σ' := [some (.int a), some (.int b), some (.int (Nat.gcd a.natAbs b.natAbs : Nat)), some (.int 0)]) (h' := h) (by rw [ifF (P := ⟨callN P n, P.sub⟩) ec]; simp only [ES])]
      exact seqR (retE (ev_t2 (ev_bin (op := .FloorDiv) (ev_var rfl) (ev_var rfl) (by simp only [binF, int2]; rw [if_pos hc.2]; rfl)) (ev_bin (op := .FloorDiv) (ev_var rfl) (ev_var rfl) (by simp only [binF, int2]; rw [if_pos hc.2]; rfl))))
  · cases hq
end Cl

namespace Cl
open PySem PySem.Spec PyProof.Rows L2
/-! ### sums, products, quotients -/
def mulM (a b : Int) : Option Int := if mulOk a b then some (a * b) else none
theorem binMul {h : Hc} {a b z : Int} (k : mulM a b = some z) : binF h .Mult (.int a) (.int b) = some (.int z) := by
  unfold mulM at k
  split at k
  · rename_i c
    cases k
    simp only [binF, mulF]
    rw [if_pos c]
  · cases k
abbrev Q2 := Int × Int
def sumM (p q : Q2) : Option Q2 := (mulM p.1 q.2).bind fun x => (mulM q.1 p.2).bind fun y => (mulM p.2 q.2).bind fun z => lowM (x + y) z
def lessM (p q : Q2) : Option Q2 := (mulM p.1 q.2).bind fun x => (mulM q.1 p.2).bind fun y => (mulM p.2 q.2).bind fun z => lowM (x - y) z
def prodM (p q : Q2) : Option Q2 := (mulM p.1 q.1).bind fun x => (mulM p.2 q.2).bind fun y => lowM x y
def overM (p q : Q2) : Option Q2 := (mulM p.1 q.2).bind fun x => (mulM p.2 q.1).bind fun y => lowM x y
abbrev LowC (C : Caller) (il : Nat) : Prop := ∀ (a b : Int) (q : Q2) (h : Hc), lowM a b = some q → C il [.int a, .int b] h = .ok (qD q) h
theorem lowC_low {P : Pg} {i ig : Nat} (hd : P.defs[i]? = some (BD_low ig)) (hg : P.defs[ig]? = some BD_gcd) {n : Nat} : LowC (callN P (n + 2)) i := fun _ _ _ _ hq => run_low hd hg hq
theorem lowC_frac {P : Pg} {i : Nat} (hd : P.defs[i]? = some BD_frac) {n : Nat} : LowC (callN P (n + 1)) i := fun _ _ _ _ hq => run_frac hd hq
def ixE (i : Nat) (k : Int) : CE := .idx (.var i) (.cst (.int k))
theorem ev_q0 {C : Caller} {i : Nat} {σ : CSt} {h : Hc} {p : Q2} (e : σ[i]? = some (some (qD p))) : evE C (ixE i 0) σ h = .ok (.int p.1) h := ev_idx (ev_var e) ev_cst rfl
theorem ev_q1 {C : Caller} {i : Nat} {σ : CSt} {h : Hc} {p : Q2} (e : σ[i]? = some (some (qD p))) : evE C (ixE i 1) σ h = .ok (.int p.2) h := ev_idx (ev_var e) ev_cst rfl
def BD_sum (il : Nat) : CDef := ⟨2, 2, .cons (.ret (.call il (.cons (.bin .Add (.bin .Mult (ixE 0 0) (ixE 1 1)) (.bin .Mult (ixE 1 0) (ixE 0 1))) (.cons (.bin .Mult (ixE 0 1) (ixE 1 1)) .nil)))) .nil⟩
def BD_less (il : Nat) : CDef := ⟨2, 2, .cons (.ret (.call il (.cons (.bin .Sub (.bin .Mult (ixE 0 0) (ixE 1 1)) (.bin .Mult (ixE 1 0) (ixE 0 1))) (.cons (.bin .Mult (ixE 0 1) (ixE 1 1)) .nil)))) .nil⟩
def BD_prod (il : Nat) : CDef := ⟨2, 2, .cons (.ret (.call il (.cons (.bin .Mult (ixE 0 0) (ixE 1 0)) (.cons (.bin .Mult (ixE 0 1) (ixE 1 1)) .nil)))) .nil⟩
def BD_over (il : Nat) : CDef := ⟨2, 2, .cons (.ret (.call il (.cons (.bin .Mult (ixE 0 0) (ixE 1 1)) (.cons (.bin .Mult (ixE 0 1) (ixE 1 0)) .nil)))) .nil⟩
/-- the program's quotient, which refuses zero -/
def BD_overP (ix il : Nat) : CDef := ⟨2, 2, .cons (.ifs (.cmp .Eq (ixE 1 0) (.cst (.int 0))) (.cons (.raise ix .absent) .nil) .nil) (.cons (.ret (.call il (.cons (.bin .Mult (ixE 0 0) (ixE 1 1)) (.cons (.bin .Mult (ixE 0 1) (ixE 1 0)) .nil)))) .nil)⟩
section
variable {P : Pg} {i il n : Nat} {h : Hc} {p q r : Q2}
theorem run_sum (hd : P.defs[i]? = some (BD_sum il)) (hl : LowC (callN P n) il) (hq : sumM p q = some r) : callN P (n + 1) i [qD p, qD q] h = .ok (qD r) h := by
  simp only [sumM, Option.bind_eq_some_iff] at hq
  obtain ⟨x, hx, y, hy, z, hz, hq⟩ := hq
  refine call_rtp (d := BD_sum il) (b := (BD_sum il).body) (σ := [some (qD p), some (qD q)]) hd rfl rfl rfl ?_
  exact seqR (retE ((ev_c2 (ev_bin (op := .Add) (z := .int (x + y)) (ev_bin (ev_q0 rfl) (ev_q1 rfl) (binMul hx)) (ev_bin (ev_q0 rfl) (ev_q1 rfl) (binMul hy)) rfl) (ev_bin (ev_q1 rfl) (ev_q1 rfl) (binMul hz))).trans (hl _ _ _ _ hq)))
theorem run_less (hd : P.defs[i]? = some (BD_less il)) (hl : LowC (callN P n) il) (hq : lessM p q = some r) : callN P (n + 1) i [qD p, qD q] h = .ok (qD r) h := by
  simp only [lessM, Option.bind_eq_some_iff] at hq
  obtain ⟨x, hx, y, hy, z, hz, hq⟩ := hq
  refine call_rtp (d := BD_less il) (b := (BD_less il).body) (σ := [some (qD p), some (qD q)]) hd rfl rfl rfl ?_
  exact seqR (retE ((ev_c2 (ev_bin (op := .Sub) (z := .int (x - y)) (ev_bin (ev_q0 rfl) (ev_q1 rfl) (binMul hx)) (ev_bin (ev_q0 rfl) (ev_q1 rfl) (binMul hy)) rfl) (ev_bin (ev_q1 rfl) (ev_q1 rfl) (binMul hz))).trans (hl _ _ _ _ hq)))
theorem run_prod (hd : P.defs[i]? = some (BD_prod il)) (hl : LowC (callN P n) il) (hq : prodM p q = some r) : callN P (n + 1) i [qD p, qD q] h = .ok (qD r) h := by
  simp only [prodM, Option.bind_eq_some_iff] at hq
  obtain ⟨x, hx, y, hy, hq⟩ := hq
  refine call_rtp (d := BD_prod il) (b := (BD_prod il).body) (σ := [some (qD p), some (qD q)]) hd rfl rfl rfl ?_
  exact seqR (retE ((ev_c2 (ev_bin (ev_q0 rfl) (ev_q0 rfl) (binMul hx)) (ev_bin (ev_q1 rfl) (ev_q1 rfl) (binMul hy))).trans (hl _ _ _ _ hq)))
theorem run_over (hd : P.defs[i]? = some (BD_over il)) (hl : LowC (callN P n) il) (hq : overM p q = some r) : callN P (n + 1) i [qD p, qD q] h = .ok (qD r) h := by
  simp only [overM, Option.bind_eq_some_iff] at hq
  obtain ⟨x, hx, y, hy, hq⟩ := hq
  refine call_rtp (d := BD_over il) (b := (BD_over il).body) (σ := [some (qD p), some (qD q)]) hd rfl rfl rfl ?_
  exact seqR (retE ((ev_c2 (ev_bin (ev_q0 rfl) (ev_q1 rfl) (binMul hx)) (ev_bin (ev_q1 rfl) (ev_q0 rfl) (binMul hy))).trans (hl _ _ _ _ hq)))
theorem run_overP {ix : Nat} (hd : P.defs[i]? = some (BD_overP ix il)) (hl : LowC (callN P n) il) (h0 : q.1 ≠ 0) (hq : overM p q = some r) : callN P (n + 1) i [qD p, qD q] h = .ok (qD r) h := by
  simp only [overM, Option.bind_eq_some_iff] at hq
  obtain ⟨x, hx, y, hy, hq⟩ := hq
  refine call_rtp (d := BD_overP ix il) (b := (BD_overP ix il).body) (σ := [some (qD p), some (qD q)]) hd rfl rfl rfl ?_
  have ec : evE (callN P n) (.cmp .Eq (ixE 1 0) (.cst (.int 0))) [some (qD p), some (qD q)] h = .ok (.bl false) h := ev_cmp (ev_q0 rfl) ev_cst (by show some (decide (q.1 = 0)) = _; rw [decide_eq_false h0])
  refine (seqN (σ' := [some (qD p), some (qD q)]) (h' := h) (by rw [ifF (P := ⟨callN P n, P.sub⟩) ec]; simp only [ES])).trans ?_
  exact seqR (retE ((ev_c2 (ev_bin (ev_q0 rfl) (ev_q1 rfl) (binMul hx)) (ev_bin (ev_q1 rfl) (ev_q0 rfl) (binMul hy))).trans (hl _ _ _ _ hq)))
end
/-! ### is_integer, ratio -/
def BD_isint : CDef := ⟨1, 1, .cons (.ret (.and_ (.isin (.var 0) [.int]) (.not_ (.isin (.var 0) [.bool])))) .nil⟩
def isInt : D → Bool
  | .int _ => true
  | _ => false
theorem run_isint {P : Pg} {i : Nat} (hd : P.defs[i]? = some BD_isint) {n : Nat} {h : Hc} {v : D} (hv : v.plain = true) : callN P (n + 1) i [v] h = .ok (.bl (isInt v)) h := by
  refine call_rtp (d := BD_isint) (b := BD_isint.body) (σ := [some v]) hd rfl rfl rfl ?_
  refine seqR (retE ?_)
  have e1 : evE (callN P n) (.isin (.var 0) [.int]) [some v] h = .ok (.bl (match v with | .int _ => true | .bl _ => true | _ => false)) h := ev_isin (ev_var rfl) (by cases v <;> first | rfl | (simp [D.plain] at hv; done))
  have e2 : evE (callN P n) (.isin (.var 0) [.bool]) [some v] h = .ok (.bl (match v with | .bl _ => true | _ => false)) h := ev_isin (ev_var rfl) (by cases v <;> first | rfl | (simp [D.plain] at hv; done))
  refine (ev_and e1).trans ?_
  rw [ev_not e2]
  cases v <;> rfl
def BD_ratio (ii ix il : Nat) : CDef := ⟨2, 2, .cons (.ifs (.or_ (.not_ (.call ii (.cons (.var 0) .nil))) (.or_ (.not_ (.call ii (.cons (.var 1) .nil))) (.cmp .Eq (.var 1) (.cst (.int 0))))) (.cons (.raise ix .absent) .nil) .nil) (.cons (.ret (.call il (.cons (.var 0) (.cons (.var 1) .nil)))) .nil)⟩
theorem run_ratio {P : Pg} {i ii ix il n : Nat} {h : Hc} {a b : Int} {q : Q2} (hd : P.defs[i]? = some (BD_ratio ii ix il)) (hi : P.defs[ii]? = some BD_isint) (hl : LowC (callN P (n + 1)) il) (hb : b ≠ 0) (hq : lowM a b = some q) : callN P (n + 2) i [.int a, .int b] h = .ok (qD q) h := by
  refine call_rtp (d := BD_ratio ii ix il) (b := (BD_ratio ii ix il).body) (σ := [some (.int a), some (.int b)]) hd rfl rfl rfl ?_
  have e1 : evE (callN P (n + 1)) (.not_ (.call ii (.cons (.var 0) .nil))) [some (.int a), some (.int b)] h = .ok (.bl false) h := ev_not (c := true) ((ev_c1 (ev_var rfl)).trans (run_isint hi (n := n) (v := .int a) rfl))
  have e2 : evE (callN P (n + 1)) (.not_ (.call ii (.cons (.var 1) .nil))) [some (.int a), some (.int b)] h = .ok (.bl false) h := ev_not (c := true) ((ev_c1 (ev_var rfl)).trans (run_isint hi (n := n) (v := .int b) rfl))
  have e3 : evE (callN P (n + 1)) (.cmp .Eq (.var 1) (.cst (.int 0))) [some (.int a), some (.int b)] h = .ok (.bl false) h := ev_cmp (ev_var rfl) ev_cst (by show some (decide (b = 0)) = _; rw [decide_eq_false hb])
  have ec : evE (callN P (n + 1)) (.or_ (.not_ (.call ii (.cons (.var 0) .nil))) (.or_ (.not_ (.call ii (.cons (.var 1) .nil))) (.cmp .Eq (.var 1) (.cst (.int 0))))) [some (.int a), some (.int b)] h = .ok (.bl false) h := (ev_or e1).trans ((if_neg (by simp)).trans ((ev_or e2).trans ((if_neg (by simp)).trans e3)))
  refine (seqN (σ' := [some (.int a), some (.int b)]) (h' := h) (by rw [ifF (P := ⟨callN P (n + 1), P.sub⟩) ec]; simp only [ES])).trans ?_
  exact seqR (retE ((ev_c2 (ev_var rfl) (ev_var rfl)).trans (hl _ _ _ _ hq)))
/-! ### binomial numbers -/
def divM (a b : Int) : Option Int := if divOk b then some (a.fdiv b) else none
theorem binDiv {h : Hc} {a b z : Int} (k : divM a b = some z) : binF h .FloorDiv (.int a) (.int b) = some (.int z) := by
  unfold divM at k
  split at k
  · rename_i c
    cases k
    simp only [binF, int2]
    rw [if_pos c]; rfl
  · cases k
def choStep (n : Int) (t : Int) (j : Nat) : Option Int := (mulM t (n - j)).bind fun x => divM x (j + 1)
def choL (n : Int) : Nat → Int → List Nat → Option Int
  | _, t, [] => some t
  | k, t, j :: js => (choStep n t j).bind fun t => choL n k t js
def choM (n k : Nat) : Option Int := choL n k 1 (List.range k)
def BL_cho : CSs := (.cons (.asg (.v 2) (.bin .FloorDiv (.bin .Mult (.var 2) (.bin .Sub (.var 0) (.var 3))) (.bin .Add (.var 3) (.cst (.int 1))))) .nil)
def BD_cho : CDef := ⟨4, 2, .cons (.asg (.v 2) (.cst (.int 1))) (.cons (.for_ (.v 3) (.rng1 (.var 1)) BL_cho) (.cons (.ret (.var 2)) .nil))⟩
def BD_choP : CDef := ⟨4, 2, .cons (.ifs (.cmp .Gt (.var 1) (.var 0)) (.cons (.ret (.cst (.int 0))) .nil) .nil) (.cons (.asg (.v 2) (.cst (.int 1))) (.cons (.for_ (.v 3) (.rng1 (.var 1)) BL_cho) (.cons (.ret (.var 2)) .nil)))⟩
theorem loop_cho {Pe : Env2} {h : Hc} {n k : Nat} {o3 : Option D} : ∀ (js : List Nat) (t z : Int), choL n k t js = some z → ∀ o3, ∃ o3', forF (evSs Pe BL_cho) (.v 3) [] (natD js) [some (.int (n : Nat)), some (.int (k : Nat)), some (.int t), o3] h = .ok (.nx [some (.int (n : Nat)), some (.int (k : Nat)), some (.int z), o3']) h
  | [], t, z, e, o3 => by cases e; exact ⟨o3, rfl⟩
  | j :: js, t, z, e, o3 => by
    simp only [choL, Option.bind_eq_some_iff] at e
    obtain ⟨t1, e1, e2⟩ := e
    simp only [choStep, Option.bind_eq_some_iff] at e1
    obtain ⟨x, e3, e4⟩ := e1
    obtain ⟨o3', ih⟩ := loop_cho (Pe := Pe) (h := h) (n := n) (k := k) (o3 := o3) js t1 z e2 (some (.int (j : Nat)))
    refine ⟨o3', ?_⟩
    rw [natD, List.map_cons, forF, if_pos (show gOk [] h = true from rfl)]
    simp only [asgT]
    have hb : evSs Pe BL_cho ([some (.int (n : Nat)), some (.int (k : Nat)), some (.int t), o3].set 3 (some (.int (j : Nat)))) h = .ok (.nx [some (.int (n : Nat)), some (.int (k : Nat)), some (.int t1), some (.int (j : Nat))]) h := by
      unfold BL_cho
      rw [seqN (asgV (ev_bin (op := .FloorDiv) (z := .int t1) (ev_bin (op := .Mult) (z := .int x) (ev_var rfl) (ev_bin (op := .Sub) (ev_var rfl) (ev_var rfl) rfl) (binMul e3)) (ev_bin (op := .Add) (ev_var rfl) ev_cst rfl) (binDiv e4)))]
      simp only [ES]; all_goals rfl
    rw [hb]
    exact ih
theorem run_cho {P : Pg} {i : Nat} (hd : P.defs[i]? = some BD_cho) {m : Nat} {h : Hc} {n k : Nat} {z : Int} (hk : k < 1000) (e : choM n k = some z) : callN P (m + 1) i [.int (n : Nat), .int (k : Nat)] h = .ok (.int z) h := by
  refine call_rtp (d := BD_cho) (b := BD_cho.body) (σ := [some (.int (n : Nat)), some (.int (k : Nat)), none, none]) hd rfl rfl rfl ?_
  obtain ⟨o3, e2⟩ := loop_cho (Pe := ⟨callN P m, P.sub⟩) (h := h) (o3 := none) _ _ _ e none
  refine (seqN (σ' := [some (.int (n : Nat)), some (.int (k : Nat)), some (.int 1), none]) (h' := h) (asgV ev_cst)).trans ?_
  refine (seqN (σ' := [some (.int (n : Nat)), some (.int (k : Nat)), some (.int z), o3]) (h' := h) ?_).trans (seqR (retE (ev_var rfl)))
  rw [forR1 (P := ⟨callN P m, P.sub⟩) (h' := h) (j := k) (ev_var rfl) (by unfold smallI; simp; omega), Int.toNat_natCast, rngD_zero]
  exact e2
theorem run_choP {P : Pg} {i : Nat} (hd : P.defs[i]? = some BD_choP) {m : Nat} {h : Hc} {n k : Nat} {z : Int} (hk : k < 1000) (hkn : k ≤ n) (e : choM n k = some z) : callN P (m + 1) i [.int (n : Nat), .int (k : Nat)] h = .ok (.int z) h := by
  refine call_rtp (d := BD_choP) (b := BD_choP.body) (σ := [some (.int (n : Nat)), some (.int (k : Nat)), none, none]) hd rfl rfl rfl ?_
  obtain ⟨o3, e2⟩ := loop_cho (Pe := ⟨callN P m, P.sub⟩) (h := h) (o3 := none) _ _ _ e none
  have ec : evE (callN P m) (.cmp .Gt (.var 1) (.var 0)) [some (.int (n : Nat)), some (.int (k : Nat)), none, none] h = .ok (.bl false) h := ev_cmp (ev_var rfl) (ev_var rfl) (by show some (decide ((n : Int) < k)) = _; rw [decide_eq_false (by omega)])
  refine (seqN (σ' := [some (.int (n : Nat)), some (.int (k : Nat)), none, none]) (h' := h) (by rw [ifF (P := ⟨callN P m, P.sub⟩) ec]; simp only [ES])).trans ?_
  refine (seqN (σ' := [some (.int (n : Nat)), some (.int (k : Nat)), some (.int 1), none]) (h' := h) (asgV ev_cst)).trans ?_
  refine (seqN (σ' := [some (.int (n : Nat)), some (.int (k : Nat)), some (.int z), o3]) (h' := h) ?_).trans (seqR (retE (ev_var rfl)))
  rw [forR1 (P := ⟨callN P m, P.sub⟩) (h' := h) (j := k) (ev_var rfl) (by unfold smallI; simp; omega), Int.toNat_natCast, rngD_zero]
  exact e2
end Cl

namespace Cl
open PySem PySem.Spec PyProof.Rows L2
/-! ### rows of fractions -/
abbrev rowD (f : List Q2) : List D := f.map qD
abbrev SumC (C : Caller) (i : Nat) : Prop := ∀ (p q r : Q2) (h : Hc), sumM p q = some r → C i [qD p, qD q] h = .ok (qD r) h
abbrev ProdC (C : Caller) (i : Nat) : Prop := ∀ (p q r : Q2) (h : Hc), prodM p q = some r → C i [qD p, qD q] h = .ok (qD r) h
abbrev OverC (C : Caller) (i : Nat) : Prop := ∀ (p q r : Q2) (h : Hc), overM p q = some r → C i [qD p, qD q] h = .ok (qD r) h
abbrev LessC (C : Caller) (i : Nat) : Prop := ∀ (p q r : Q2) (h : Hc), lessM p q = some r → C i [qD p, qD q] h = .ok (qD r) h
def z2 : Q2 := (0, 1)
theorem atD_row {f : List Q2} {i : Nat} (h : i < f.length) : atD (rowD f) (i : Int) = some (qD (f.getD i z2)) := by
  refine atD_of ?_
  rw [List.getElem?_map, List.getElem?_eq_getElem h, List.getD_eq_getElem?_getD, List.getElem?_eq_getElem h]
  rfl
theorem smallI_nat {n : Nat} (h : n ≤ 1000000) : smallI (n : Nat) = true := by
  unfold smallI
  rw [Bool.and_eq_true, decide_eq_true_eq, decide_eq_true_eq]
  constructor <;> omega
theorem idx_row {h : Hc} {f : List Q2} {i : Nat} (k : i < f.length) : idxF h (.lst (rowD f)) (.int (i : Nat)) = some (qD (f.getD i z2)) := by
  simp only [idxF]; exact atD_row k
theorem len_row {h : Hc} {F : List Q2} : biF h .len [.lst (rowD F)] = some (.int (F.length : Nat)) := by simp only [biF, lenF, seqD]; rw [rowD, List.length_map]
theorem ixD_nat {n i : Nat} (h : i < n) : ixD n (i : Int) = some i := by
  unfold ixD
  rw [if_pos (by omega), if_pos (by omega)]
  simp
def rpJ (F G : List Q2) (i : Nat) : List Nat → List Q2 → Option (List Q2)
  | [], r => some r
  | j :: js, r => (prodM (F.getD i z2) (G.getD j z2)).bind fun p => (sumM (r.getD (i + j) z2) p).bind fun s => rpJ F G i js (r.set (i + j) s)
def rpI (F G : List Q2) : List Nat → List Q2 → Option (List Q2)
  | [], r => some r
  | i :: is, r => (rpJ F G i (List.range G.length) r).bind (rpI F G is)
def rowProd (F G : List Q2) : Option (List Q2) := rpI F G (List.range F.length) (List.replicate (F.length + G.length - 1) z2)
theorem rpJ_len {F G : List Q2} {i : Nat} : ∀ {js : List Nat} {r r' : List Q2}, rpJ F G i js r = some r' → r'.length = r.length
  | [], r, r', e => by cases e; rfl
  | j :: js, r, r', e => by
    simp only [rpJ, Option.bind_eq_some_iff] at e
    obtain ⟨p, _, s, _, e⟩ := e
    rw [rpJ_len e, List.length_set]
theorem rpI_len {F G : List Q2} : ∀ {is : List Nat} {r r' : List Q2}, rpI F G is r = some r' → r'.length = r.length
  | [], r, r', e => by cases e; rfl
  | i :: is, r, r', e => by
    simp only [rpI, Option.bind_eq_some_iff] at e
    obtain ⟨r1, e1, e2⟩ := e
    rw [rpI_len e2, rpJ_len e1]
def BL_rp0 (is ip : Nat) : CSs := (.cons (.sput (.var 2) (.bin .Add (.var 3) (.var 4)) (.call is (.cons (.idx (.var 2) (.bin .Add (.var 3) (.var 4))) (.cons (.call ip (.cons (.idx (.var 0) (.var 3)) (.cons (.idx (.var 1) (.var 4)) .nil))) .nil)))) .nil)
def BL_rp1 (is ip : Nat) : CSs := (.cons (.for_ (.v 4) (.rng1 (.bi .len (.cons (.var 1) .nil))) (BL_rp0 is ip)) (.cons (.kill [4]) .nil))
theorem sputE {P : Env2} {o i e : CE} {σ : CSt} {h h1 h2 h3 h4 : Hc} {v x y : D} (ke : evE P.C e σ h = .ok v h1) (ko : evE P.C o σ h1 = .ok x h2) (ki : evE P.C i σ h2 = .ok y h3) (kp : putF h3 x y v = some h4) : evS P (.sput o i e) σ h = .ok (.nx σ) h4 := by simp only [ES, EB, ke, ko, ki, kp]
theorem forF_cons {fb : CSt → Hc → SRes} {t : Tg} {g : Guard} {x : D} {xs : List D} {σ σ1 σ2 : CSt} {h h2 : Hc} (hg : gOk g h = true) (e1 : asgT t x σ = some σ1) (e2 : fb σ1 h = .ok (.nx σ2) h2) : forF fb t g (x :: xs) σ h = forF fb t g xs σ2 h2 := by
  rw [forF, if_pos hg, e1]
  simp only [e2]
theorem forF_nil {fb : CSt → Hc → SRes} {t : Tg} {g : Guard} {σ : CSt} {h : Hc} (hg : gOk g h = true) : forF fb t g [] σ h = .ok (.nx σ) h := by rw [forF, if_pos hg]
section
variable {Pe : Env2} {is ip : Nat} {H : Hc} {F G : List Q2} {o5 : List (Option D)}
theorem loop_rp0 (hs : SumC Pe.C is) (hp : ProdC Pe.C ip) {i : Nat} (hi : i < F.length) : ∀ (js : List Nat), (∀ j ∈ js, j < G.length) → ∀ (r r' : List Q2), rpJ F G i js r = some r' → r.length = F.length + G.length - 1 → ∀ o4, ∃ o4', forF (evSs Pe (BL_rp0 is ip)) (.v 4) [] (natD js) ([some (.lst (rowD F)), some (.lst (rowD G)), some (.ref H.length), some (.int (i : Nat)), o4] ++ o5) (H ++ [.lst (rowD r)]) = .ok (.nx ([some (.lst (rowD F)), some (.lst (rowD G)), some (.ref H.length), some (.int (i : Nat)), o4'] ++ o5)) (H ++ [.lst (rowD r')])
  | [], _, r, r', e, _, o4 => by cases e; exact ⟨o4, rfl⟩
  | j :: js, hj, r, r', e, hr, o4 => by
    simp only [rpJ, Option.bind_eq_some_iff] at e
    obtain ⟨p, e1, s, e2, e3⟩ := e
    have hjl := hj j (by simp)
    obtain ⟨o4', ih⟩ := loop_rp0 hs hp hi js (fun k hk => hj k (by simp [hk])) _ _ e3 (by rw [List.length_set]; exact hr) (some (.int (j : Nat)))
    refine ⟨o4', ?_⟩
    rw [natD, List.map_cons, forF, if_pos (show gOk [] _ = true from rfl)]
    simp only [asgT]
    have hij : i + j < r.length := by omega
    have hix : idxF (H ++ [.lst (rowD r)]) (.ref H.length) (.int ((i + j : Nat) : Int)) = some (qD (r.getD (i + j) z2)) := by
      simp only [idxF, cell_at]; exact atD_row hij
    have hput : putF (H ++ [.lst (rowD r)]) (.ref H.length) (.int ((i + j : Nat) : Int)) (qD s) = some (H ++ [.lst (rowD (r.set (i + j) s))]) := by
      simp only [putF, cell_at]
      rw [ixD_nat (by rw [List.length_map]; exact hij)]
      simp only [Option.map_some, cell_set]
      rw [rowD, rowD, List.map_set]
    have hb : evSs Pe (BL_rp0 is ip) (([some (.lst (rowD F)), some (.lst (rowD G)), some (.ref H.length), some (.int (i : Nat)), o4] ++ o5).set 4 (some (.int (j : Nat)))) (H ++ [.lst (rowD r)]) = .ok (.nx ([some (.lst (rowD F)), some (.lst (rowD G)), some (.ref H.length), some (.int (i : Nat)), some (.int (j : Nat))] ++ o5)) (H ++ [.lst (rowD (r.set (i + j) s))]) := by
      unfold BL_rp0
      have ea : evE Pe.C (.bin .Add (.var 3) (.var 4)) ([some (.lst (rowD F)), some (.lst (rowD G)), some (.ref H.length), some (.int (i : Nat)), some (.int (j : Nat))] ++ o5) (H ++ [.lst (rowD r)]) = .ok (.int ((i + j : Nat) : Int)) (H ++ [.lst (rowD r)]) := ev_bin (ev_var rfl) (ev_var rfl) rfl
      have ep := (ev_c2 (C := Pe.C) (f := ip) (h := H ++ [.lst (rowD r)]) (σ := [some (.lst (rowD F)), some (.lst (rowD G)), some (.ref H.length), some (.int (i : Nat)), some (.int (j : Nat))] ++ o5) (ev_idx (a := .var 0) (i := .var 3) (ev_var rfl) (ev_var rfl) (idx_row hi)) (ev_idx (a := .var 1) (i := .var 4) (ev_var rfl) (ev_var rfl) (idx_row hjl))).trans (hp _ _ _ _ e1)
      refine (seqN (sputE ((ev_c2 (ev_idx (ev_var rfl) ea hix) ep).trans (hs _ _ _ _ e2)) (ev_var rfl) ea hput)).trans ?_
      simp only [ES]; all_goals rfl
    rw [hb]
    exact ih
theorem rp1_body (hs : SumC Pe.C is) (hp : ProdC Pe.C ip) (hG : G.length ≤ 100000) {j : Nat} {r r1 : List Q2} (hjl : j < F.length) (e1 : rpJ F G j (List.range G.length) r = some r1) (hr : r.length = F.length + G.length - 1) (o4 : Option D) :
    evSs Pe (BL_rp1 is ip) ([some (.lst (rowD F)), some (.lst (rowD G)), some (.ref H.length), some (.int (j : Nat)), o4] ++ o5) (H ++ [.lst (rowD r)]) = .ok (.nx ([some (.lst (rowD F)), some (.lst (rowD G)), some (.ref H.length), some (.int (j : Nat)), none] ++ o5)) (H ++ [.lst (rowD r1)]) := by
  obtain ⟨o4a, e3⟩ := loop_rp0 (Pe := Pe) (H := H) (o5 := o5) hs hp hjl (List.range G.length) (fun k hk => List.mem_range.mp hk) r r1 e1 hr o4
  have el : evE Pe.C (.bi .len (.cons (.var 1) .nil)) ([some (.lst (rowD F)), some (.lst (rowD G)), some (.ref H.length), some (.int (j : Nat)), o4] ++ o5) (H ++ [.lst (rowD r)]) = .ok (.int (G.length : Nat)) (H ++ [.lst (rowD r)]) := ev_bi1 (ev_var rfl) len_row
  have ef : evS Pe (.for_ (.v 4) (.rng1 (.bi .len (.cons (.var 1) .nil))) (BL_rp0 is ip)) ([some (.lst (rowD F)), some (.lst (rowD G)), some (.ref H.length), some (.int (j : Nat)), o4] ++ o5) (H ++ [.lst (rowD r)]) = .ok (.nx ([some (.lst (rowD F)), some (.lst (rowD G)), some (.ref H.length), some (.int (j : Nat)), o4a] ++ o5)) (H ++ [.lst (rowD r1)]) := by
    rw [forR1 el (smallI_nat (by omega)), Int.toNat_natCast, rngD_zero]
    exact e3
  unfold BL_rp1
  rw [seqN ef]
  simp only [ES]
  rfl
theorem loop_rp1 (hs : SumC Pe.C is) (hp : ProdC Pe.C ip) (hG : G.length ≤ 100000) (js : List Nat) : (∀ j ∈ js, j < F.length) → ∀ (r r' : List Q2), rpI F G js r = some r' → r.length = F.length + G.length - 1 → ∀ o3 o4, ∃ o3' o4', forF (evSs Pe (BL_rp1 is ip)) (.v 3) [] (natD js) ([some (.lst (rowD F)), some (.lst (rowD G)), some (.ref H.length), o3, o4] ++ o5) (H ++ [.lst (rowD r)]) = .ok (.nx ([some (.lst (rowD F)), some (.lst (rowD G)), some (.ref H.length), o3', o4'] ++ o5)) (H ++ [.lst (rowD r')]) := by
  induction js with
  | nil =>
    intro _ r r' e _ o3 o4
    cases e
    exact ⟨o3, o4, forF_nil rfl⟩
  | cons j js ih =>
    intro hj r r' e hr o3 o4
    simp only [rpI, Option.bind_eq_some_iff] at e
    obtain ⟨r1, e1, e2⟩ := e
    have hjl := hj j (by simp)
    obtain ⟨o3', o4', ih⟩ := ih (fun k hk => hj k (List.mem_cons_of_mem _ hk)) _ _ e2 (by rw [rpJ_len e1]; exact hr) (some (.int (j : Nat))) none
    have hb := rp1_body (Pe := Pe) (H := H) (o5 := o5) hs hp hG hjl e1 hr o4
    exact ⟨o3', o4', (forF_cons (xs := natD js) rfl rfl hb).trans ih⟩
end
theorem rep_row (n : Nat) : (List.replicate n [qD z2]).flatten = rowD (List.replicate n z2) := by
  induction n with
  | zero => rfl
  | succ n ih => rw [List.replicate_succ, List.flatten_cons, ih]; rfl
def BD_rpP (is ip : Nat) : CDef := ⟨5, 2, (.cons (.asg (.v 2) (.cell (.bin .Mult (.lst (.cons (.tup (.cons (.cst (.int 0)) (.cons (.cst (.int 1)) .nil))) .nil)) (.bin .Sub (.bin .Add (.bi .len (.cons (.var 0) .nil)) (.bi .len (.cons (.var 1) .nil))) (.cst (.int 1)))))) (.cons (.for_ (.v 3) (.rng1 (.bi .len (.cons (.var 0) .nil))) (BL_rp1 is ip)) (.cons (.ret (.var 2)) .nil)))⟩
def BD_rpL (is ip : Nat) : CDef := ⟨6, 2, (.cons (.asg (.v 2) (.cell (.comp (.tup (.cons (.cst (.int 0)) (.cons (.cst (.int 1)) .nil))) (.v 5) (.rng1 (.bin .Sub (.bin .Add (.bi .len (.cons (.var 0) .nil)) (.bi .len (.cons (.var 1) .nil))) (.cst (.int 1)))) .absent [5]))) (.cons (.for_ (.v 3) (.rng1 (.bi .len (.cons (.var 0) .nil))) (BL_rp1 is ip)) (.cons (.ret (.var 2)) .nil)))⟩
section
variable {P : Pg} {i is ip n : Nat} {H : Hc} {F G R : List Q2}
theorem finR_ref {h : Hc} {c : Cell} : finR h (.ref h.length) (h ++ [c]) = .ok (.ref h.length) (h ++ [c]) := by
  unfold finR
  rw [if_neg]
  simp [D.low]
theorem run_rpP (hd : P.defs[i]? = some (BD_rpP is ip)) (hs : SumC (callN P n) is) (hp : ProdC (callN P n) ip) (h1 : 0 < F.length) (h2 : F.length ≤ 1000) (h3 : G.length ≤ 1000) (e : rowProd F G = some R) :
    callN P (n + 1) i [.lst (rowD F), .lst (rowD G)] H = .ok (.ref H.length) (H ++ [.lst (rowD R)]) := by
  rw [call_rt0 (d := BD_rpP is ip) (b := (BD_rpP is ip).body) (σ := [some (.lst (rowD F)), some (.lst (rowD G)), none, none, none]) (v := .ref H.length) (h' := H ++ [.lst (rowD R)]) hd rfl rfl rfl]
  · exact finR_ref
  · obtain ⟨o3, o4, e2⟩ := loop_rp1 (Pe := ⟨callN P n, P.sub⟩) (H := H) (o5 := []) hs hp (by omega) (List.range F.length) (fun k hk => List.mem_range.mp hk) _ _ e (by simp) none none
    refine (seqN (σ' := [some (.lst (rowD F)), some (.lst (rowD G)), some (.ref H.length), none, none]) (h' := H ++ [.lst (rowD (List.replicate (F.length + G.length - 1) z2))]) (asgV (ev_cell (ev_bin (op := .Mult) (x := .lst [qD z2]) (y := .int ((F.length + G.length - 1 : Nat) : Int)) (ev_lst (ev_cons (ev_t2 ev_cst ev_cst) ev_nil)) (ev_bin (op := .Sub) (ev_bin (op := .Add) (ev_bi1 (ev_var rfl) len_row) (ev_bi1 (ev_var rfl) len_row) rfl) ev_cst ?_) ?_)))).trans ?_
    · show some (D.int ((F.length : Int) + (G.length : Int) - 1)) = _
      congr 2; omega
    · simp only [binF, mulF, mulL, derM]
      rw [if_pos ⟨by omega, by omega, by rw [Int.toNat_natCast]; show 1 * _ ≤ line; unfold line; omega⟩, Int.toNat_natCast, rep_row]
    · refine (seqN (σ' := [some (.lst (rowD F)), some (.lst (rowD G)), some (.ref H.length), o3, o4]) (h' := H ++ [.lst (rowD R)]) ?_).trans (seqR (retE (ev_var rfl)))
      have el : evE (callN P n) (.bi .len (.cons (.var 0) .nil)) [some (.lst (rowD F)), some (.lst (rowD G)), some (.ref H.length), none, none] (H ++ [.lst (rowD (List.replicate (F.length + G.length - 1) z2))]) = .ok (.int (F.length : Nat)) (H ++ [.lst (rowD (List.replicate (F.length + G.length - 1) z2))]) := ev_bi1 (ev_var rfl) len_row
      rw [forR1 (P := ⟨callN P n, P.sub⟩) el (smallI_nat (by omega)), Int.toNat_natCast, rngD_zero]
      exact e2
theorem run_rpL (hd : P.defs[i]? = some (BD_rpL is ip)) (hs : SumC (callN P n) is) (hp : ProdC (callN P n) ip) (h1 : 0 < F.length) (h2 : F.length ≤ 1000) (h3 : G.length ≤ 1000) (e : rowProd F G = some R) :
    callN P (n + 1) i [.lst (rowD F), .lst (rowD G)] H = .ok (.ref H.length) (H ++ [.lst (rowD R)]) := by
  rw [call_rt0 (d := BD_rpL is ip) (b := (BD_rpL is ip).body) (σ := [some (.lst (rowD F)), some (.lst (rowD G)), none, none, none, none]) (v := .ref H.length) (h' := H ++ [.lst (rowD R)]) hd rfl rfl rfl]
  · exact finR_ref
  · obtain ⟨o3, o4, e2⟩ := loop_rp1 (Pe := ⟨callN P n, P.sub⟩) (H := H) (o5 := [none]) hs hp (by omega) (List.range F.length) (fun k hk => List.mem_range.mp hk) _ _ e (by simp) none none
    have key : compF (evE (callN P n) (.tup (.cons (.cst (.int 0)) (.cons (.cst (.int 1)) .nil)))) (condR true (evE (callN P n) .absent)) (.v 5) [] (cwipe [some (.lst (rowD F)), some (.lst (rowD G)), none, none, none, none] [5]) (natD (List.range (F.length + G.length - 1))) H = .ok (rowD (List.replicate (F.length + G.length - 1) z2)) H := by
      rw [compF_pure rfl (fun _ => qD z2) (fun _ => true)]
      · rw [List.filter_eq_self.mpr (by simp)]
        congr 1
        rw [natD, List.map_map, rowD, List.map_replicate]
        have : ∀ l : List Nat, l.map ((fun _ => qD z2) ∘ fun n : Nat => D.int (n : Nat)) = List.replicate l.length (qD z2) := fun l => by
          induction l with
          | nil => rfl
          | cons a l ih => rw [List.map_cons, ih]; rfl
        rw [this, List.length_range]
      · intro x hx
        exact ⟨_, rfl, rfl, fun _ => ev_t2 ev_cst ev_cst⟩
    have ek : evE (callN P n) (.bin .Sub (.bin .Add (.bi .len (.cons (.var 0) .nil)) (.bi .len (.cons (.var 1) .nil))) (.cst (.int 1))) [some (.lst (rowD F)), some (.lst (rowD G)), none, none, none, none] H = .ok (.int ((F.length + G.length - 1 : Nat) : Int)) H := ev_bin (op := .Sub) (ev_bin (op := .Add) (ev_bi1 (ev_var rfl) len_row) (ev_bi1 (ev_var rfl) len_row) rfl) ev_cst (by
      show some (D.int ((F.length : Int) + (G.length : Int) - 1)) = _
      congr 2; omega)
    have ec : evE (callN P n) (.comp (.tup (.cons (.cst (.int 0)) (.cons (.cst (.int 1)) .nil))) (.v 5) (.rng1 (.bin .Sub (.bin .Add (.bi .len (.cons (.var 0) .nil)) (.bi .len (.cons (.var 1) .nil))) (.cst (.int 1)))) .absent [5]) [some (.lst (rowD F)), some (.lst (rowD G)), none, none, none, none] H = .ok (.lst (rowD (List.replicate (F.length + G.length - 1) z2))) H := by
      have hsm : smallI ((F.length + G.length - 1 : Nat) : Int) = true := smallI_nat (by omega)
      rw [show ∀ (elt a : CE) (σ : CSt) (h : Hc), evE (callN P n) (.comp elt (.v 5) (.rng1 a) .absent [5]) σ h = ((evI (callN P n) (.rng1 a) σ h).bind fun d h => if d.xs.length ≤ line then lmap [] (compF (evE (callN P n) elt) (condR true (evE (callN P n) .absent)) (.v 5) d.g (cwipe σ [5]) d.xs h) else .stuck) from fun elt a σ h => by simp only [evE]; all_goals rfl]
      rw [show evI (callN P n) (.rng1 (.bin .Sub (.bin .Add (.bi .len (.cons (.var 0) .nil)) (.bi .len (.cons (.var 1) .nil))) (.cst (.int 1)))) [some (.lst (rowD F)), some (.lst (rowD G)), none, none, none, none] H = .ok ⟨natD (List.range (F.length + G.length - 1)), []⟩ H from by
        rw [show ∀ (a : CE) (σ : CSt) (h : Hc), evI (callN P n) (.rng1 a) σ h = ((evE (callN P n) a σ h).bind fun d h => match d with
          | D.int j => if smallI j then ERes.ok ⟨rngD 0 1 j.toNat, []⟩ h else ERes.stuck
          | _ => ERes.stuck) from fun a σ h => by simp only [evI]; all_goals rfl]
        rw [ek, ERes.ok_bind]
        simp only [hsm, if_true]
        rw [Int.toNat_natCast, rngD_zero]]
      rw [ERes.ok_bind]
      simp only
      rw [if_pos (by rw [natD, List.length_map, List.length_range]; unfold line; omega), key]
      rfl
    refine (seqN (σ' := [some (.lst (rowD F)), some (.lst (rowD G)), some (.ref H.length), none, none, none]) (h' := H ++ [.lst (rowD (List.replicate (F.length + G.length - 1) z2))]) (asgV (ev_cell ec))).trans ?_
    refine (seqN (σ' := [some (.lst (rowD F)), some (.lst (rowD G)), some (.ref H.length), o3, o4, none]) (h' := H ++ [.lst (rowD R)]) ?_).trans (seqR (retE (ev_var rfl)))
    have el : evE (callN P n) (.bi .len (.cons (.var 0) .nil)) [some (.lst (rowD F)), some (.lst (rowD G)), some (.ref H.length), none, none, none] (H ++ [.lst (rowD (List.replicate (F.length + G.length - 1) z2))]) = .ok (.int (F.length : Nat)) (H ++ [.lst (rowD (List.replicate (F.length + G.length - 1) z2))]) := ev_bi1 (ev_var rfl) len_row
    rw [forR1 (P := ⟨callN P n, P.sub⟩) el (smallI_nat (by omega)), Int.toNat_natCast, rngD_zero]
    exact e2
end
end Cl

namespace Cl
open PySem PySem.Spec PyProof.Rows L2
/-! ### comprehensions over a range, with values that may fail -/
def mapMO {β : Type} (m : Nat → Option β) : List Nat → Option (List β)
  | [] => some []
  | j :: js => (m j).bind fun q => (mapMO m js).bind fun qs => some (q :: qs)
theorem mapMO_len {β : Type} {m : Nat → Option β} : ∀ {js : List Nat} {R : List β}, mapMO m js = some R → R.length = js.length
  | [], R, e => by cases e; rfl
  | j :: js, R, e => by
    simp only [mapMO, Option.bind_eq_some_iff] at e
    obtain ⟨q, _, qs, e2, e3⟩ := e
    cases e3
    rw [List.length_cons, List.length_cons, mapMO_len e2]
theorem compF_mapM {β : Type} {fe fc : EvF} {t : Tg} {σ : CSt} {h : Hc} (enc : β → D) (m : Nat → Option β) : ∀ (js : List Nat) (R : List β), mapMO m js = some R → (∀ j ∈ js, ∀ q, m j = some q → ∃ σ1, asgT t (.int (j : Nat)) σ = some σ1 ∧ boolR (fc σ1 h) = .ok true h ∧ fe σ1 h = .ok (enc q) h) →
    compF fe fc t [] σ (natD js) h = .ok (R.map enc) h
  | [], R, e, _ => by cases e; rfl
  | j :: js, R, e, k => by
    simp only [mapMO, Option.bind_eq_some_iff] at e
    obtain ⟨q, e1, qs, e2, e3⟩ := e
    cases e3
    obtain ⟨σ1, a1, a2, a3⟩ := k j (by simp) q e1
    have ih := compF_mapM enc m js qs e2 fun i hi => k i (List.mem_cons_of_mem _ hi)
    rw [natD, List.map_cons, compF, if_pos (show gOk [] h = true from rfl), a1]
    simp only [a2, a3]
    rw [natD] at ih
    simp only [ih]
    rfl
theorem ev_comp1 {C : Caller} {elt a : CE} {i n : Nat} {σ : CSt} {h h1 h2 : Hc} {ys : List D} (ka : evE C a σ h = .ok (.int (n : Nat)) h1) (hn : n ≤ 1000000) (kc : compF (evE C elt) (condR true (evE C .absent)) (.v i) [] (cwipe σ [i]) (natD (List.range n)) h1 = .ok ys h2) :
    evE C (.comp elt (.v i) (.rng1 a) .absent [i]) σ h = .ok (.lst ys) h2 := by
  have e1 : evI C (.rng1 a) σ h = .ok ⟨natD (List.range n), []⟩ h1 := by
    simp only [EV, EB, ka, smallI_nat hn, if_true]
    rw [Int.toNat_natCast, rngD_zero]
  have e2 : (natD (List.range n)).length ≤ line := by rw [natD, List.length_map, List.length_range]; unfold line; omega
  have e3 : evE C (.comp elt (.v i) (.rng1 a) .absent [i]) σ h = ((evI C (.rng1 a) σ h).bind fun d h => if d.xs.length ≤ line then lmap [] (compF (evE C elt) (condR true (evE C .absent)) (.v i) d.g (cwipe σ [i]) d.xs h) else .stuck) := by
    simp only [evE]; all_goals rfl
  rw [e3, e1, ERes.ok_bind]
  simp only
  rw [if_pos e2, kc]
  rfl
theorem max2_nat {h : Hc} {a b : Nat} : biF h .max2 [.int (a : Nat), .int (b : Nat)] = some (.int ((max a b : Nat) : Int)) := by
  simp only [biF]
  congr 2
  split <;> omega
/-! ### sums of rows -/
def rsE (F G : List Q2) (c : Q2) (k : Nat) : Option Q2 := (prodM c (G.getD k z2)).bind fun p => sumM (F.getD k z2) p
def rowSum (F G : List Q2) (c : Q2) : Option (List Q2) := mapMO (rsE F G c) (List.range (max F.length G.length))
structure IsL (H : Hc) (d : D) (F : List Q2) : Prop where
  s : seqD H d = some (rowD F)
  m : derM H d = .lst (rowD F)
  l : lenF H d = some (.int (F.length : Nat))
theorem IsL.lst {H : Hc} {F : List Q2} : IsL H (.lst (rowD F)) F := ⟨rfl, rfl, len_row (h := H)⟩
theorem IsL.at {H : Hc} {n : Nat} {F : List Q2} (e : H[n]? = some (.lst (rowD F))) : IsL H (.ref n) F := by
  have e1 : seqD H (.ref n) = some (rowD F) := by simp only [seqD, e]
  refine ⟨e1, by simp only [derM, e], ?_⟩
  unfold lenF
  simp only [e1]
  rw [rowD, List.length_map]
theorem pad_get {F : List Q2} {m k : Nat} : (F ++ List.replicate m z2).getD k z2 = F.getD k z2 := by
  rw [List.getD_eq_getElem?_getD, List.getD_eq_getElem?_getD, List.getElem?_append]
  split
  · rfl
  · rename_i h
    rw [List.getElem?_eq_none (by omega : F.length ≤ k), List.getElem?_replicate]
    split <;> rfl
section
variable {P : Pg} {i is ip n : Nat} {H : Hc} {F G R : List Q2} {c : Q2} {d1 d2 : D}
theorem pad_row (F : List Q2) (m : Nat) : rowD F ++ rowD (List.replicate m z2) = rowD (F ++ List.replicate m z2) := by rw [rowD, rowD, rowD, List.map_append]
theorem bin_pad {H : Hc} {m : Nat} (hm : m ≤ 1000) : binF H .Mult (.lst [qD z2]) (.int (m : Nat)) = some (.lst (rowD (List.replicate m z2))) := by
  simp only [binF, mulF, mulL, derM]
  rw [if_pos ⟨by omega, by omega, by rw [Int.toNat_natCast]; show 1 * _ ≤ line; unfold line; omega⟩, Int.toNat_natCast, rep_row]
theorem bin_app {H : Hc} {d : D} {F : List Q2} {m : Nat} (hd : derM H d = .lst (rowD F)) (hns : ∀ x, d ≠ .str x) (hni : ∀ x, d ≠ .int x) (hnt : ∀ x, d ≠ .tup x) (h1 : F.length ≤ 1000) (h2 : m ≤ 1000) : binF H .Add d (.lst (rowD (List.replicate m z2))) = some (.lst (rowD (F ++ List.replicate m z2))) := by
  have : addL H d (.lst (rowD (List.replicate m z2))) = some (.lst (rowD (F ++ List.replicate m z2))) := by
    unfold addL
    rw [hd, show derM H (.lst (rowD (List.replicate m z2))) = .lst (rowD (List.replicate m z2)) from rfl]
    simp only
    rw [if_pos (by rw [rowD, rowD, List.length_map, List.length_map, List.length_replicate]; unfold line; omega), pad_row]
  simp only [binF, addF]
  exact this
def BD_rsP (is ip : Nat) : CDef := ⟨5, 3, (.cons (.asg (.v 3) (.bi .max2 (.cons (.bi .len (.cons (.var 0) .nil)) (.cons (.bi .len (.cons (.var 1) .nil)) .nil)))) (.cons (.asg (.t (.cons (.v 0) (.cons (.v 1) .nil))) (.tup (.cons (.bin .Add (.var 0) (.bin .Mult (.lst (.cons (.tup (.cons (.cst (.int 0)) (.cons (.cst (.int 1)) .nil))) .nil)) (.bin .Sub (.var 3) (.bi .len (.cons (.var 0) .nil))))) (.cons (.bin .Add (.var 1) (.bin .Mult (.lst (.cons (.tup (.cons (.cst (.int 0)) (.cons (.cst (.int 1)) .nil))) .nil)) (.bin .Sub (.var 3) (.bi .len (.cons (.var 1) .nil))))) .nil)))) (.cons (.ret (.comp (.call is (.cons (.idx (.var 0) (.var 4)) (.cons (.call ip (.cons (.var 2) (.cons (.idx (.var 1) (.var 4)) .nil))) .nil))) (.v 4) (.rng1 (.var 3)) .absent [4])) .nil)))⟩
def BD_rsL (is ip : Nat) : CDef := ⟨7, 3, (.cons (.asg (.v 3) (.bi .max2 (.cons (.bi .len (.cons (.var 0) .nil)) (.cons (.bi .len (.cons (.var 1) .nil)) .nil)))) (.cons (.asg (.t (.cons (.v 4) (.cons (.v 5) .nil))) (.tup (.cons (.bin .Add (.bi .list (.cons (.var 0) .nil)) (.bin .Mult (.lst (.cons (.tup (.cons (.cst (.int 0)) (.cons (.cst (.int 1)) .nil))) .nil)) (.bin .Sub (.var 3) (.bi .len (.cons (.var 0) .nil))))) (.cons (.bin .Add (.bi .list (.cons (.var 1) .nil)) (.bin .Mult (.lst (.cons (.tup (.cons (.cst (.int 0)) (.cons (.cst (.int 1)) .nil))) .nil)) (.bin .Sub (.var 3) (.bi .len (.cons (.var 1) .nil))))) .nil)))) (.cons (.ret (.comp (.call is (.cons (.idx (.var 4) (.var 6)) (.cons (.call ip (.cons (.var 2) (.cons (.idx (.var 5) (.var 6)) .nil))) .nil))) (.v 6) (.rng1 (.var 3)) .absent [6])) .nil)))⟩
theorem IsL.shape {d : D} (h : IsL H d F) : (∀ x, d ≠ .str x) ∧ (∀ x, d ≠ .int x) ∧ (∀ x, d ≠ .tup x) := by
  refine ⟨fun x e => ?_, fun x e => ?_, fun x e => ?_⟩ <;> (have := h.m; rw [e] at this; simp [derM] at this)
theorem low_row {n : Nat} {F : List Q2} : (D.lst (rowD F)).low n = true := by
  refine low_plain ?_
  rw [D.plain, plains_iff]
  intro x hx
  obtain ⟨q, _, rfl⟩ := List.mem_map.mp hx
  rfl
theorem run_rsP (hd : P.defs[i]? = some (BD_rsP is ip)) (hs : SumC (callN P n) is) (hp : ProdC (callN P n) ip) (k1 : IsL H d1 F) (k2 : IsL H d2 G) (h1 : F.length ≤ 500) (h2 : G.length ≤ 500) (e : rowSum F G c = some R) :
    callN P (n + 1) i [d1, d2, qD c] H = .ok (.lst (rowD R)) H := by
  have hm1 : max F.length G.length ≤ 500 := by omega
  obtain ⟨a1, a2, a3⟩ := k1.shape
  obtain ⟨b1, b2, b3⟩ := k2.shape
  refine call_rtp (d := BD_rsP is ip) (b := (BD_rsP is ip).body) (σ := [some d1, some d2, some (qD c), none, none]) hd rfl rfl rfl ?_
  let F' := F ++ List.replicate (max F.length G.length - F.length) z2
  let G' := G ++ List.replicate (max F.length G.length - G.length) z2
  have eF : evE (callN P n) (.bin .Add (.var 0) (.bin .Mult (.lst (.cons (.tup (.cons (.cst (.int 0)) (.cons (.cst (.int 1)) .nil))) .nil)) (.bin .Sub (.var 3) (.bi .len (.cons (.var 0) .nil))))) [some d1, some d2, some (qD c), some (.int ((max F.length G.length : Nat) : Int)), none] H = .ok (.lst (rowD F')) H :=
    ev_bin (ev_var rfl) (ev_bin (x := .lst [qD z2]) (y := .int ((max F.length G.length - F.length : Nat) : Int)) (ev_lst (ev_cons (ev_t2 ev_cst ev_cst) ev_nil)) (ev_bin (op := .Sub) (ev_var rfl) (ev_bi1 (ev_var rfl) k1.l) (by show some (D.int (((max F.length G.length : Nat) : Int) - (F.length : Nat))) = _; congr 2; omega)) (bin_pad (by omega))) (bin_app k1.m a1 a2 a3 (by omega) (by omega))
  have eG : evE (callN P n) (.bin .Add (.var 1) (.bin .Mult (.lst (.cons (.tup (.cons (.cst (.int 0)) (.cons (.cst (.int 1)) .nil))) .nil)) (.bin .Sub (.var 3) (.bi .len (.cons (.var 1) .nil))))) [some d1, some d2, some (qD c), some (.int ((max F.length G.length : Nat) : Int)), none] H = .ok (.lst (rowD G')) H :=
    ev_bin (ev_var rfl) (ev_bin (x := .lst [qD z2]) (y := .int ((max F.length G.length - G.length : Nat) : Int)) (ev_lst (ev_cons (ev_t2 ev_cst ev_cst) ev_nil)) (ev_bin (op := .Sub) (ev_var rfl) (ev_bi1 (ev_var rfl) k2.l) (by show some (D.int (((max F.length G.length : Nat) : Int) - (G.length : Nat))) = _; congr 2; omega)) (bin_pad (by omega))) (bin_app k2.m b1 b2 b3 (by omega) (by omega))
  have lF : F'.length = max F.length G.length := by simp only [F', List.length_append, List.length_replicate]; omega
  have lG : G'.length = max F.length G.length := by simp only [G', List.length_append, List.length_replicate]; omega
  have s1 : evS ⟨callN P n, P.sub⟩ (.asg (.v 3) (.bi .max2 (.cons (.bi .len (.cons (.var 0) .nil)) (.cons (.bi .len (.cons (.var 1) .nil)) .nil)))) [some d1, some d2, some (qD c), none, none] H = .ok (.nx [some d1, some d2, some (qD c), some (.int ((max F.length G.length : Nat) : Int)), none]) H := asgV (ev_bi2 (ev_bi1 (ev_var rfl) k1.l) (ev_bi1 (ev_var rfl) k2.l) max2_nat)
  have s2 : evS ⟨callN P n, P.sub⟩ _ [some d1, some d2, some (qD c), some (.int ((max F.length G.length : Nat) : Int)), none] H = .ok (.nx [some (.lst (rowD F')), some (.lst (rowD G')), some (qD c), some (.int ((max F.length G.length : Nat) : Int)), none]) H := asgE (t := .t (.cons (.v 0) (.cons (.v 1) .nil))) (ev_t2 eF eG) rfl
  have key := compF_mapM (fe := evE (callN P n) (.call is (.cons (.idx (.var 0) (.var 4)) (.cons (.call ip (.cons (.var 2) (.cons (.idx (.var 1) (.var 4)) .nil))) .nil)))) (fc := condR true (evE (callN P n) .absent)) (t := .v 4) (σ := cwipe [some (.lst (rowD F')), some (.lst (rowD G')), some (qD c), some (.int ((max F.length G.length : Nat) : Int)), none] [4]) (h := H) qD (rsE F G c) (List.range (max F.length G.length)) R e (fun j hj q hq => by
    rw [List.mem_range] at hj
    simp only [rsE, Option.bind_eq_some_iff] at hq
    obtain ⟨p, e1, e2⟩ := hq
    rw [← pad_get (F := G) (m := max F.length G.length - G.length)] at e1
    rw [← pad_get (F := F) (m := max F.length G.length - F.length)] at e2
    exact ⟨_, rfl, rfl, (ev_c2 (ev_idx (ev_var rfl) (ev_var rfl) (idx_row (f := F') (by rw [lF]; exact hj))) ((ev_c2 (ev_var rfl) (ev_idx (ev_var rfl) (ev_var rfl) (idx_row (f := G') (by rw [lG]; exact hj)))).trans (hp _ _ _ _ e1))).trans (hs _ _ _ _ e2)⟩)
  exact (seqN s1).trans ((seqN s2).trans (seqR (retE (ev_comp1 (ev_var rfl) (by omega) key))))
theorem run_rsL (hd : P.defs[i]? = some (BD_rsL is ip)) (hs : SumC (callN P n) is) (hp : ProdC (callN P n) ip) (k1 : IsL H d1 F) (k2 : IsL H d2 G) (h1 : F.length ≤ 500) (h2 : G.length ≤ 500) (e : rowSum F G c = some R) :
    callN P (n + 1) i [d1, d2, qD c] H = .ok (.lst (rowD R)) H := by
  have hm1 : max F.length G.length ≤ 500 := by omega
  refine call_rtp (d := BD_rsL is ip) (b := (BD_rsL is ip).body) (σ := [some d1, some d2, some (qD c), none, none, none, none]) hd rfl rfl rfl ?_
  let F' := F ++ List.replicate (max F.length G.length - F.length) z2
  let G' := G ++ List.replicate (max F.length G.length - G.length) z2
  have no : ∀ (X : List Q2), (∀ x, D.lst (rowD X) ≠ .str x) ∧ (∀ x, D.lst (rowD X) ≠ .int x) ∧ (∀ x, D.lst (rowD X) ≠ .tup x) := fun X => (IsL.lst (H := H) (F := X)).shape
  have eF : evE (callN P n) (.bin .Add (.bi .list (.cons (.var 0) .nil)) (.bin .Mult (.lst (.cons (.tup (.cons (.cst (.int 0)) (.cons (.cst (.int 1)) .nil))) .nil)) (.bin .Sub (.var 3) (.bi .len (.cons (.var 0) .nil))))) [some d1, some d2, some (qD c), some (.int ((max F.length G.length : Nat) : Int)), none, none, none] H = .ok (.lst (rowD F')) H :=
    ev_bin (ev_bi1 (z := .lst (rowD F)) (ev_var rfl) (by simp only [biF, k1.s]; rfl)) (ev_bin (x := .lst [qD z2]) (y := .int ((max F.length G.length - F.length : Nat) : Int)) (ev_lst (ev_cons (ev_t2 ev_cst ev_cst) ev_nil)) (ev_bin (op := .Sub) (ev_var rfl) (ev_bi1 (ev_var rfl) k1.l) (by show some (D.int (((max F.length G.length : Nat) : Int) - (F.length : Nat))) = _; congr 2; omega)) (bin_pad (by omega))) (bin_app rfl (no F).1 (no F).2.1 (no F).2.2 (by omega) (by omega))
  have eG : evE (callN P n) (.bin .Add (.bi .list (.cons (.var 1) .nil)) (.bin .Mult (.lst (.cons (.tup (.cons (.cst (.int 0)) (.cons (.cst (.int 1)) .nil))) .nil)) (.bin .Sub (.var 3) (.bi .len (.cons (.var 1) .nil))))) [some d1, some d2, some (qD c), some (.int ((max F.length G.length : Nat) : Int)), none, none, none] H = .ok (.lst (rowD G')) H :=
    ev_bin (ev_bi1 (z := .lst (rowD G)) (ev_var rfl) (by simp only [biF, k2.s]; rfl)) (ev_bin (x := .lst [qD z2]) (y := .int ((max F.length G.length - G.length : Nat) : Int)) (ev_lst (ev_cons (ev_t2 ev_cst ev_cst) ev_nil)) (ev_bin (op := .Sub) (ev_var rfl) (ev_bi1 (ev_var rfl) k2.l) (by show some (D.int (((max F.length G.length : Nat) : Int) - (G.length : Nat))) = _; congr 2; omega)) (bin_pad (by omega))) (bin_app rfl (no G).1 (no G).2.1 (no G).2.2 (by omega) (by omega))
  have lF : F'.length = max F.length G.length := by simp only [F', List.length_append, List.length_replicate]; omega
  have lG : G'.length = max F.length G.length := by simp only [G', List.length_append, List.length_replicate]; omega
  have s1 : evS ⟨callN P n, P.sub⟩ (.asg (.v 3) (.bi .max2 (.cons (.bi .len (.cons (.var 0) .nil)) (.cons (.bi .len (.cons (.var 1) .nil)) .nil)))) [some d1, some d2, some (qD c), none, none, none, none] H = .ok (.nx [some d1, some d2, some (qD c), some (.int ((max F.length G.length : Nat) : Int)), none, none, none]) H := asgV (ev_bi2 (ev_bi1 (ev_var rfl) k1.l) (ev_bi1 (ev_var rfl) k2.l) max2_nat)
  have s2 : evS ⟨callN P n, P.sub⟩ _ [some d1, some d2, some (qD c), some (.int ((max F.length G.length : Nat) : Int)), none, none, none] H = .ok (.nx [some d1, some d2, some (qD c), some (.int ((max F.length G.length : Nat) : Int)), some (.lst (rowD F')), some (.lst (rowD G')), none]) H := asgE (t := .t (.cons (.v 4) (.cons (.v 5) .nil))) (ev_t2 eF eG) rfl
  have key := compF_mapM (fe := evE (callN P n) (.call is (.cons (.idx (.var 4) (.var 6)) (.cons (.call ip (.cons (.var 2) (.cons (.idx (.var 5) (.var 6)) .nil))) .nil)))) (fc := condR true (evE (callN P n) .absent)) (t := .v 6) (σ := cwipe [some d1, some d2, some (qD c), some (.int ((max F.length G.length : Nat) : Int)), some (.lst (rowD F')), some (.lst (rowD G')), none] [6]) (h := H) qD (rsE F G c) (List.range (max F.length G.length)) R e (fun j hj q hq => by
    rw [List.mem_range] at hj
    simp only [rsE, Option.bind_eq_some_iff] at hq
    obtain ⟨p, e1, e2⟩ := hq
    rw [← pad_get (F := G) (m := max F.length G.length - G.length)] at e1
    rw [← pad_get (F := F) (m := max F.length G.length - F.length)] at e2
    exact ⟨_, rfl, rfl, (ev_c2 (ev_idx (ev_var rfl) (ev_var rfl) (idx_row (f := F') (by rw [lF]; exact hj))) ((ev_c2 (ev_var rfl) (ev_idx (ev_var rfl) (ev_var rfl) (idx_row (f := G') (by rw [lG]; exact hj)))).trans (hp _ _ _ _ e1))).trans (hs _ _ _ _ e2)⟩)
  exact (seqN s1).trans ((seqN s2).trans (seqR (retE (ev_comp1 (ev_var rfl) (by omega) key))))
end
end Cl

namespace Cl
open PySem PySem.Spec PyProof.Rows L2
/-! ### a dict by pairs of numbers -/
abbrev Pr := Nat × Nat
def kd (V : Nat → Nat → D) (ks : List Pr) : List (List Key × D) := ks.map fun p => ([.inl (p.1 : Int), .inl (p.2 : Int)], V p.1 p.2)
def prD (g n : Nat) : D := .tup [.int (g : Nat), .int (n : Nat)]
theorem tkey_pr {g n : Nat} : tkeyD (prD g n) = some [.inl (g : Int), .inl (n : Int)] := rfl
theorem key_inj {a b c d : Nat} : (([.inl (a : Int), .inl (b : Int)] : List Key) = [.inl (c : Int), .inl (d : Int)]) ↔ (a, b) = (c, d) := by
  constructor
  · intro h
    simp only [List.cons.injEq, Sum.inl.injEq, and_true] at h
    exact Prod.ext (by simp only; omega) (by simp only; omega)
  · intro h
    cases h; rfl
theorem val_kd {V : Nat → Nat → D} {g n : Nat} : ∀ ks : List Pr, valD (kd V ks) [.inl (g : Int), .inl (n : Int)] = if (g, n) ∈ ks then some (V g n) else none
  | [] => rfl
  | (a, b) :: ks => by
    have ih := val_kd (V := V) (g := g) (n := n) ks
    unfold valD kd at *
    rw [List.map_cons, List.find?_cons]
    by_cases h : (a, b) = (g, n)
    · cases h
      simp
    · rw [decide_eq_false (fun e => h (key_inj.mp e))]
      simp only
      rw [ih]
      have : ((g, n) ∈ (a, b) :: ks) ↔ (g, n) ∈ ks := by
        rw [List.mem_cons]
        exact ⟨fun h' => h'.elim (fun e => absurd e.symm h) id, .inr⟩
      by_cases hm : (g, n) ∈ ks
      · rw [if_pos hm, if_pos (this.mpr hm)]
      · rw [if_neg hm, if_neg fun h' => hm (this.mp h')]
theorem put_kd {V : Nat → Nat → D} {g n : Nat} {ks : List Pr} (h : (g, n) ∉ ks) : putD (kd V ks) [.inl (g : Int), .inl (n : Int)] (V g n) = kd V (ks ++ [(g, n)]) := by
  unfold putD
  rw [if_neg]
  · rw [kd, kd, List.map_append]; rfl
  · rw [List.any_eq_true]
    rintro ⟨kv, hkv, he⟩
    obtain ⟨p, hp, rfl⟩ := List.mem_map.mp hkv
    have := key_inj.mp (of_decide_eq_true he)
    exact h (this ▸ hp)
theorem finR_set {H X : Hc} {r : Nat} {c : Cell} {v : D} (hv : v.low H.length = true) (hc : c.low H.length = true) : finR H v (H.set r c ++ X) = .ok v (H.set r c) := by
  unfold finR
  have hl : (H.set r c).length = H.length := List.length_set ..
  have ht : (H.set r c ++ X).take H.length = H.set r c := by rw [← hl]; exact List.take_left' rfl
  have : cutOk H.length H (H.set r c ++ X) = true := by
    unfold cutOk
    rw [ht, List.all_eq_true]
    intro p hp
    obtain ⟨i, hi⟩ := List.mem_iff_getElem?.mp hp
    rw [List.getElem?_zip_eq_some] at hi
    obtain ⟨h1, h2⟩ := hi
    rw [List.getElem?_set] at h1
    split at h1
    · split at h1
      · cases h1; rw [hc]; rfl
      · cases h1
    · rw [h1] at h2
      rw [decide_eq_true (Option.some.inj h2), Bool.or_true]
  rw [hv, this, Bool.true_and, if_pos rfl, ht]
/-! ### the table of edge polynomials -/
structure Dm (g n : Nat) : Prop where
  g6 : g ≤ 6
  n20 : n + 2 * g ≤ 20
  st : 2 < 2 * g + n
def cnd (g n a i : Nat) : Bool := decide (0 < 2 * (a : Int) - 1 + (i : Nat)) && decide (0 < 2 * ((g : Int) - (a : Nat)) - 1 + (n : Nat) - (i : Nat))
def cutIn (T : Nat → Nat → List Q2) (g n a : Nat) : List Nat → List Q2 → Option (List Q2)
  | [], s => some s
  | i :: is, s => (if cnd g n a i then (rowProd (T a (i + 1)) (T (g - a) (n - i + 1))).bind fun b => (choM n i).bind fun c => (lowM c 2).bind fun q => rowSum s b q else some s).bind (cutIn T g n a is)
def cutOut (T : Nat → Nat → List Q2) (g n : Nat) : List Nat → List Q2 → Option (List Q2)
  | [], s => some s
  | a :: as, s => (cutIn T g n a (List.range (n + 1)) s).bind (cutOut T g n as)
def cutStep (T : Nat → Nat → List Q2) (sm : Nat → Nat → Option Q2) (g n : Nat) : Option (List Q2) :=
  (if 0 < g then rowSum [z2] (T (g - 1) (n + 2)) (1, 2) else some [z2]).bind fun s => (cutOut T g n (List.range (g + 1)) s).bind fun s => (sm g n).bind fun q =>
    (mapMO (fun k => prodM (s.getD k z2) (1, (k : Int) + 1)) (List.range s.length)).bind fun r => some (q :: r)
/-- the table's promise -/
structure TabOk (T : Nat → Nat → List Q2) (sm : Nat → Nat → Option Q2) : Prop where
  step : ∀ g n, Dm g n → cutStep T sm g n = some (T g n)
  pos : ∀ g n, Dm g n → 0 < (T g n).length
  len : ∀ g n, Dm g n → (T g n).length ≤ 100
theorem Dm.cut {g n : Nat} (d : Dm g n) (h : 0 < g) : Dm (g - 1) (n + 2) := ⟨by have := d.g6; omega, by have := d.n20; omega, by have := d.st; omega⟩
theorem Dm.two {g n a i : Nat} (d : Dm g n) (ha : a ≤ g) (hi : i ≤ n) (h : cnd g n a i = true) : Dm a (i + 1) ∧ Dm (g - a) (n - i + 1) ∧ 3 * a + (i + 1) < 3 * g + n ∧ 3 * (g - a) + (n - i + 1) < 3 * g + n := by
  unfold cnd at h
  rw [Bool.and_eq_true, decide_eq_true_eq, decide_eq_true_eq] at h
  obtain ⟨h1, h2⟩ := h
  have := d.g6; have := d.n20; have := d.st
  exact ⟨⟨by omega, by omega, by omega⟩, ⟨by omega, by omega, by omega⟩, by omega, by omega⟩
theorem rowProd_len {F G R : List Q2} (e : rowProd F G = some R) : R.length = F.length + G.length - 1 := by
  rw [rpI_len e, List.length_replicate]
theorem rowSum_len {F G R : List Q2} {c : Q2} (e : rowSum F G c = some R) : R.length = max F.length G.length := by
  rw [mapMO_len e, List.length_range]
structure KI (ks : List Pr) : Prop where
  nd : (ks.map fun p => p.1 * 32 + p.2).Nodup
  dm : ∀ p ∈ ks, Dm p.1 p.2
theorem nodup_len' : ∀ {n : Nat} {r : List Nat}, r.Nodup → (∀ y ∈ r, y < n) → r.length ≤ n := by
  intro n
  induction n with
  | zero => intro r h1 h2; cases r with
    | nil => simp
    | cons a r => exact absurd (h2 a (by simp)) (by omega)
  | succ n ih =>
    intro r h1 h2
    have h3 := ih (r := r.filter (fun y => decide (y ≠ n))) (h1.filter _) (fun y hy => by
      rw [List.mem_filter] at hy
      have := h2 y hy.1
      have := of_decide_eq_true hy.2
      omega)
    by_cases hn : n ∈ r
    · have : (r.filter (fun y => decide (y ≠ n))).length + 1 = r.length := by
        have e : r.filter (fun y => decide (y ≠ n)) = r.erase n := by
          rw [h1.erase_eq_filter]
          congr 1
          funext y
          by_cases hy : y = n <;> simp [hy]
        rw [e, List.length_erase_of_mem hn]
        have := List.length_pos_of_mem hn
        omega
      omega
    · have : r.filter (fun y => decide (y ≠ n)) = r := List.filter_eq_self.mpr fun y hy => decide_eq_true fun e => hn (e ▸ hy)
      rw [this] at h3
      omega
theorem KI.len {ks : List Pr} (k : KI ks) : ks.length ≤ 224 := by
  have := nodup_len' (n := 224) k.nd (fun y hy => by
    obtain ⟨p, hp, rfl⟩ := List.mem_map.mp hy
    have d := k.dm p hp
    have := d.g6; have := d.n20
    omega)
  rwa [List.length_map] at this
theorem KI.add {ks : List Pr} {g n : Nat} (k : KI ks) (d : Dm g n) (h : (g, n) ∉ ks) : KI (ks ++ [(g, n)]) := by
  refine ⟨?_, fun p hp => ?_⟩
  · rw [List.map_append, List.nodup_append]
    refine ⟨k.nd, by simp, fun x hx y hy => ?_⟩
    obtain ⟨p, hp, rfl⟩ := List.mem_map.mp hx
    simp only [List.map_cons, List.map_nil, List.mem_singleton] at hy
    subst hy
    intro e
    have d1 := k.dm p hp
    have := d1.n20; have := d.n20
    have : p = (g, n) := Prod.ext (by simp only; omega) (by simp only; omega)
    exact h (this ▸ hp)
  · rcases List.mem_append.mp hp with hp | hp
    · exact k.dm p hp
    · rw [List.mem_singleton] at hp; subst hp; exact d
theorem KI.nil : KI [] := ⟨by simp, fun p hp => by simp at hp⟩
end Cl

namespace Cl
open PySem PySem.Spec PyProof.Rows L2
/-! ### the recursion over cut edges -/
abbrev RpC (C : Caller) (i : Nat) : Prop := ∀ (F G R : List Q2) (H : Hc), rowProd F G = some R → 0 < F.length → F.length ≤ 1000 → G.length ≤ 1000 → C i [.lst (rowD F), .lst (rowD G)] H = .ok (.ref H.length) (H ++ [.lst (rowD R)])
abbrev RsC (C : Caller) (i : Nat) : Prop := ∀ (F G R : List Q2) (c : Q2) (d1 d2 : D) (H : Hc), rowSum F G c = some R → IsL H d1 F → IsL H d2 G → F.length ≤ 500 → G.length ≤ 500 → C i [d1, d2, qD c] H = .ok (.lst (rowD R)) H
abbrev HfC (C : Caller) (i : Nat) : Prop := ∀ (a : Int) (q : Q2) (h : Hc), lowM a 2 = some q → C i [.int a, .int 2] h = .ok (qD q) h
abbrev ChC (C : Caller) (i : Nat) : Prop := ∀ (n k : Nat) (z : Int) (h : Hc), choM n k = some z → k ≤ n → k < 1000 → C i [.int (n : Nat), .int (k : Nat)] h = .ok (.int z) h
abbrev SmC (C : Caller) (i : Nat) (sm : Nat → Nat → Option Q2) : Prop := ∀ (g n : Nat) (q : Q2) (h : Hc), sm g n = some q → Dm g n → C i [.int (g : Nat), .int (n : Nat)] h = .ok (qD q) h
/-- the recursive call, at one depth -/
abbrev CutC (C : Caller) (i : Nat) (T : Nat → Nat → List Q2) (m : Nat) : Prop := ∀ (g n : Nat), Dm g n → 3 * g + n < m → ∀ (H : Hc) (r : Nat) (ks : List Pr), KI ks → H[r]? = some (.dT (kd (fun g n => .lst (rowD (T g n))) ks)) → ∃ ks', KI ks' ∧ C i [.int (g : Nat), .int (n : Nat), .ref r] H = .ok (.lst (rowD (T g n))) (H.set r (.dT (kd (fun g n => .lst (rowD (T g n))) ks')))
def tD (T : Nat → Nat → List Q2) : Nat → Nat → D := fun g n => .lst (rowD (T g n))
def BL_cut0 (ic irp irs ihf ich : Nat) : CSs := (.cons (.ifs (.and_ (.cmp .Gt (.bin .Add (.bin .Sub (.bin .Mult (.cst (.int 2)) (.var 4)) (.cst (.int 1))) (.var 5)) (.cst (.int 0))) (.cmp .Gt (.bin .Sub (.bin .Add (.bin .Sub (.bin .Mult (.cst (.int 2)) (.bin .Sub (.var 0) (.var 4))) (.cst (.int 1))) (.var 1)) (.var 5)) (.cst (.int 0)))) (.cons (.asg (.v 6) (.call irp (.cons (.call ic (.cons (.var 4) (.cons (.bin .Add (.var 5) (.cst (.int 1))) (.cons (.var 2) .nil)))) (.cons (.call ic (.cons (.bin .Sub (.var 0) (.var 4)) (.cons (.bin .Add (.bin .Sub (.var 1) (.var 5)) (.cst (.int 1))) (.cons (.var 2) .nil)))) .nil)))) (.cons (.asg (.v 3) (.call irs (.cons (.var 3) (.cons (.var 6) (.cons (.call ihf (.cons (.call ich (.cons (.var 1) (.cons (.var 5) .nil))) (.cons (.cst (.int 2)) .nil))) .nil))))) .nil)) .nil) (.cons (.kill [6]) .nil))
def BL_cut1 (ic irp irs ihf ich : Nat) : CSs := (.cons (.for_ (.v 5) (.rng1 (.bin .Add (.var 1) (.cst (.int 1)))) (BL_cut0 ic irp irs ihf ich)) (.cons (.kill [5, 6]) .nil))
/-- the state of the sum -/
def sC (g n r : Nat) (s : List Q2) (o4 o5 o6 : Option D) (o : List (Option D)) : CSt := [some (.int (g : Nat)), some (.int (n : Nat)), some (.ref r), some (.lst (rowD s)), o4, o5, o6] ++ o
/-- the heap: the dict at r, and what has been left behind -/
def hC (T : Nat → Nat → List Q2) (H : Hc) (r : Nat) (ks : List Pr) (X : Hc) : Hc := H.set r (.dT (kd (tD T) ks)) ++ X
section
variable {Pe : Env2} {ic irp irs ihf ich : Nat} {T : Nat → Nat → List Q2} {g n r : Nat} {H : Hc} {o : List (Option D)}
theorem hC_at {ks : List Pr} {X : Hc} (hr : r < H.length) : (hC T H r ks X)[r]? = some (.dT (kd (tD T) ks)) := by
  unfold hC
  rw [List.getElem?_append_left (by rw [List.length_set]; exact hr), List.getElem?_set_self hr]
theorem hC_set {ks ks' : List Pr} {X : Hc} (hr : r < H.length) : (hC T H r ks X).set r (.dT (kd (tD T) ks')) = hC T H r ks' X := by
  unfold hC
  rw [List.set_append_left _ _ (by rw [List.length_set]; exact hr), List.set_set]
theorem hC_app {ks : List Pr} {X Y : Hc} : hC T H r ks X ++ Y = hC T H r ks (X ++ Y) := by
  unfold hC; rw [List.append_assoc]
theorem cut_cond {C : Caller} {a i : Nat} {s : List Q2} {o6 : Option D} {h : Hc} : evE C (.and_ (.cmp .Gt (.bin .Add (.bin .Sub (.bin .Mult (.cst (.int 2)) (.var 4)) (.cst (.int 1))) (.var 5)) (.cst (.int 0))) (.cmp .Gt (.bin .Sub (.bin .Add (.bin .Sub (.bin .Mult (.cst (.int 2)) (.bin .Sub (.var 0) (.var 4))) (.cst (.int 1))) (.var 1)) (.var 5)) (.cst (.int 0)))) (sC g n r s (some (.int (a : Nat))) (some (.int (i : Nat))) o6 o) h = .ok (.bl (cnd g n a i)) h := by
  have m2 : ∀ x : Int, binF h .Mult (.int 2) (.int x) = some (.int (2 * x)) := fun x => by
    simp only [binF, mulF]
    rw [if_pos (mulOk_l (show bitsI 2 ≤ 64 by decide))]
  have e1 : evE C (.cmp .Gt (.bin .Add (.bin .Sub (.bin .Mult (.cst (.int 2)) (.var 4)) (.cst (.int 1))) (.var 5)) (.cst (.int 0))) (sC g n r s (some (.int (a : Nat))) (some (.int (i : Nat))) o6 o) h = .ok (.bl (decide (0 < 2 * (a : Int) - 1 + (i : Nat)))) h :=
    ev_cmp (ev_bin (op := .Add) (ev_bin (op := .Sub) (ev_bin (op := .Mult) ev_cst (ev_var rfl) (m2 _)) ev_cst rfl) (ev_var rfl) rfl) ev_cst rfl
  have e2 : evE C (.cmp .Gt (.bin .Sub (.bin .Add (.bin .Sub (.bin .Mult (.cst (.int 2)) (.bin .Sub (.var 0) (.var 4))) (.cst (.int 1))) (.var 1)) (.var 5)) (.cst (.int 0))) (sC g n r s (some (.int (a : Nat))) (some (.int (i : Nat))) o6 o) h = .ok (.bl (decide (0 < 2 * ((g : Int) - (a : Nat)) - 1 + (n : Nat) - (i : Nat)))) h :=
    ev_cmp (ev_bin (op := .Sub) (ev_bin (op := .Add) (ev_bin (op := .Sub) (ev_bin (op := .Mult) ev_cst (ev_bin (op := .Sub) (ev_var rfl) (ev_var rfl) rfl) (m2 _)) ev_cst rfl) (ev_var rfl) rfl) (ev_var rfl) rfl) ev_cst rfl
  rw [ev_and e1]
  unfold cnd
  cases decide (0 < 2 * (a : Int) - 1 + (i : Nat)) with
  | true => rw [if_pos rfl, e2]; rfl
  | false => rw [if_neg (by simp)]; rfl
theorem cut_body (hrp : RpC Pe.C irp) (hrs : RsC Pe.C irs) (hhf : HfC Pe.C ihf) (hch : ChC Pe.C ich) (hcut : CutC Pe.C ic T (3 * g + n)) (d : Dm g n) (hpos : ∀ g n, Dm g n → 0 < (T g n).length) (hlen : ∀ g n, Dm g n → (T g n).length ≤ 100) (hr : r < H.length)
    {a i : Nat} (ha : a ≤ g) (hi : i ≤ n) {s s' : List Q2} (hs : s.length ≤ 300) {ks : List Pr} (hk : KI ks) {X : Hc} {o6 : Option D}
    (e : (if cnd g n a i then (rowProd (T a (i + 1)) (T (g - a) (n - i + 1))).bind fun b => (choM n i).bind fun c => (lowM c 2).bind fun q => rowSum s b q else some s) = some s') :
    ∃ ks' X', KI ks' ∧ s'.length ≤ 300 ∧ evSs Pe (BL_cut0 ic irp irs ihf ich) (sC g n r s (some (.int (a : Nat))) (some (.int (i : Nat))) o6 o) (hC T H r ks X) = .ok (.nx (sC g n r s' (some (.int (a : Nat))) (some (.int (i : Nat))) none o)) (hC T H r ks' X') := by
  have hn := d.n20
  cases hc : cnd g n a i with
  | false =>
    rw [hc, if_neg (by simp)] at e
    cases e
    refine ⟨ks, X, hk, hs, ?_⟩
    unfold BL_cut0
    have ec := cut_cond (C := Pe.C) (g := g) (n := n) (r := r) (a := a) (i := i) (s := s) (o6 := o6) (o := o) (h := hC T H r ks X)
    rw [hc] at ec
    rw [seqN (σ' := sC g n r s (some (.int (a : Nat))) (some (.int (i : Nat))) o6 o) (h' := hC T H r ks X) (by rw [ifF ec]; simp only [ES])]
    simp only [ES]; all_goals rfl
  | true =>
    rw [hc, if_pos rfl] at e
    simp only [Option.bind_eq_some_iff] at e
    obtain ⟨b, e1, c, e2, q, e3, e4⟩ := e
    obtain ⟨d1, d2, m1, m2⟩ := d.two ha hi hc
    obtain ⟨ks1, k1, c1⟩ := hcut a (i + 1) d1 m1 (hC T H r ks X) r ks hk (hC_at hr)
    obtain ⟨ks2, k2, c2⟩ := hcut (g - a) (n - i + 1) d2 m2 (hC T H r ks1 X) r ks1 k1 (hC_at hr)
    rw [show (kd (fun g n => D.lst (rowD (T g n))) ks1) = kd (tD T) ks1 from rfl, hC_set hr] at c1
    rw [show (kd (fun g n => D.lst (rowD (T g n))) ks2) = kd (tD T) ks2 from rfl, hC_set hr] at c2
    have bl := rowProd_len e1
    have l1 := hlen _ _ d1
    have l2 := hlen _ _ d2
    have p1 := hpos _ _ d1
    have rp := hrp _ _ b (hC T H r ks2 X) e1 p1 (by omega) (by omega)
    have at2 : (hC T H r ks2 X ++ [.lst (rowD b)])[(hC T H r ks2 X).length]? = some (.lst (rowD b)) := cell_at
    refine ⟨ks2, X ++ [.lst (rowD b)], k2, by rw [rowSum_len e4]; omega, ?_⟩
    unfold BL_cut0
    have ec := cut_cond (C := Pe.C) (g := g) (n := n) (r := r) (a := a) (i := i) (s := s) (o6 := o6) (o := o) (h := hC T H r ks X)
    rw [hc] at ec
    have s1 : evS Pe (.asg (.v 6) (.call irp (.cons (.call ic (.cons (.var 4) (.cons (.bin .Add (.var 5) (.cst (.int 1))) (.cons (.var 2) .nil)))) (.cons (.call ic (.cons (.bin .Sub (.var 0) (.var 4)) (.cons (.bin .Add (.bin .Sub (.var 1) (.var 5)) (.cst (.int 1))) (.cons (.var 2) .nil)))) .nil)))) (sC g n r s (some (.int (a : Nat))) (some (.int (i : Nat))) o6 o) (hC T H r ks X) = .ok (.nx (sC g n r s (some (.int (a : Nat))) (some (.int (i : Nat))) (some (.ref (hC T H r ks2 X).length)) o)) (hC T H r ks2 (X ++ [.lst (rowD b)])) := by
      rw [← hC_app]
      refine asgV (i := 6) ((ev_c2 ((ev_c3 (ev_var rfl) (ev_bin (op := .Add) (z := .int ((i + 1 : Nat) : Int)) (ev_var rfl) ev_cst rfl) (ev_var rfl)).trans c1) ((ev_c3 (ev_bin (op := .Sub) (z := .int ((g - a : Nat) : Int)) (ev_var rfl) (ev_var rfl) ?_) (ev_bin (op := .Add) (z := .int ((n - i + 1 : Nat) : Int)) (ev_bin (op := .Sub) (ev_var rfl) (ev_var rfl) rfl) ev_cst ?_) (ev_var rfl)).trans c2)).trans rp)
      · show some (D.int ((g : Int) - (a : Nat))) = _
        congr 2; omega
      · show some (D.int ((n : Int) - (i : Nat) + 1)) = _
        congr 2; omega
    have s2 : evS Pe (.asg (.v 3) (.call irs (.cons (.var 3) (.cons (.var 6) (.cons (.call ihf (.cons (.call ich (.cons (.var 1) (.cons (.var 5) .nil))) (.cons (.cst (.int 2)) .nil))) .nil))))) (sC g n r s (some (.int (a : Nat))) (some (.int (i : Nat))) (some (.ref (hC T H r ks2 X).length)) o) (hC T H r ks2 (X ++ [.lst (rowD b)])) = .ok (.nx (sC g n r s' (some (.int (a : Nat))) (some (.int (i : Nat))) (some (.ref (hC T H r ks2 X).length)) o)) (hC T H r ks2 (X ++ [.lst (rowD b)])) := by
      rw [← hC_app]
      exact asgV (i := 3) ((ev_c3 (ev_var rfl) (ev_var rfl) ((ev_c2 ((ev_c2 (ev_var rfl) (ev_var rfl)).trans (hch n i c _ e2 hi (by omega))) ev_cst).trans (hhf c q _ e3))).trans (hrs s b s' q _ _ _ e4 IsL.lst (IsL.at at2) (by omega) (by omega)))
    rw [seqN (σ' := sC g n r s' (some (.int (a : Nat))) (some (.int (i : Nat))) (some (.ref (hC T H r ks2 X).length)) o) (h' := hC T H r ks2 (X ++ [.lst (rowD b)])) (by rw [ifT ec, seqN s1, seqN s2]; simp only [ES])]
    simp only [ES]; all_goals rfl
theorem cut_in (hrp : RpC Pe.C irp) (hrs : RsC Pe.C irs) (hhf : HfC Pe.C ihf) (hch : ChC Pe.C ich) (hcut : CutC Pe.C ic T (3 * g + n)) (d : Dm g n) (hpos : ∀ g n, Dm g n → 0 < (T g n).length) (hlen : ∀ g n, Dm g n → (T g n).length ≤ 100) (hr : r < H.length)
    {a : Nat} (ha : a ≤ g) (js : List Nat) : (∀ i ∈ js, i ≤ n) → ∀ (s s' : List Q2) (ks : List Pr) (X : Hc) (o5 o6 : Option D), s.length ≤ 300 → KI ks → cutIn T g n a js s = some s' →
    ∃ ks' X' o5' o6', KI ks' ∧ s'.length ≤ 300 ∧ forF (evSs Pe (BL_cut0 ic irp irs ihf ich)) (.v 5) [] (natD js) (sC g n r s (some (.int (a : Nat))) o5 o6 o) (hC T H r ks X) = .ok (.nx (sC g n r s' (some (.int (a : Nat))) o5' o6' o)) (hC T H r ks' X') := by
  induction js with
  | nil =>
    intro _ s s' ks X o5 o6 hs hk e
    cases e
    exact ⟨ks, X, o5, o6, hk, hs, forF_nil rfl⟩
  | cons i js ih =>
    intro hj s s' ks X o5 o6 hs hk e
    simp only [cutIn, Option.bind_eq_some_iff] at e
    obtain ⟨s1, e1, e2⟩ := e
    obtain ⟨ks1, X1, k1, l1, b1⟩ := cut_body (Pe := Pe) (ic := ic) (T := T) (H := H) (o := o) (o6 := o6) (X := X) hrp hrs hhf hch hcut d hpos hlen hr ha (hj i (by simp)) hs hk e1
    obtain ⟨ks2, X2, o5', o6', k2, l2, b2⟩ := ih (fun k hk => hj k (List.mem_cons_of_mem _ hk)) s1 s' ks1 X1 (some (.int (i : Nat))) none l1 k1 e2
    exact ⟨ks2, X2, o5', o6', k2, l2, (forF_cons (xs := natD js) rfl rfl b1).trans b2⟩
theorem cut_out (hrp : RpC Pe.C irp) (hrs : RsC Pe.C irs) (hhf : HfC Pe.C ihf) (hch : ChC Pe.C ich) (hcut : CutC Pe.C ic T (3 * g + n)) (d : Dm g n) (hpos : ∀ g n, Dm g n → 0 < (T g n).length) (hlen : ∀ g n, Dm g n → (T g n).length ≤ 100) (hr : r < H.length)
    (js : List Nat) : (∀ a ∈ js, a ≤ g) → ∀ (s s' : List Q2) (ks : List Pr) (X : Hc) (o4 o5 o6 : Option D), s.length ≤ 300 → KI ks → cutOut T g n js s = some s' →
    ∃ ks' X' o4' o5' o6', KI ks' ∧ s'.length ≤ 300 ∧ forF (evSs Pe (BL_cut1 ic irp irs ihf ich)) (.v 4) [] (natD js) (sC g n r s o4 o5 o6 o) (hC T H r ks X) = .ok (.nx (sC g n r s' o4' o5' o6' o)) (hC T H r ks' X') := by
  induction js with
  | nil =>
    intro _ s s' ks X o4 o5 o6 hs hk e
    cases e
    exact ⟨ks, X, o4, o5, o6, hk, hs, forF_nil rfl⟩
  | cons a js ih =>
    intro hj s s' ks X o4 o5 o6 hs hk e
    simp only [cutOut, Option.bind_eq_some_iff] at e
    obtain ⟨s1, e1, e2⟩ := e
    have hn := d.n20
    obtain ⟨ks1, X1, o5a, o6a, k1, l1, b1⟩ := cut_in (Pe := Pe) (ic := ic) (T := T) (H := H) (o := o) hrp hrs hhf hch hcut d hpos hlen hr (hj a (by simp)) (List.range (n + 1)) (fun i hi => by have := List.mem_range.mp hi; omega) s s1 ks X o5 o6 hs hk e1
    obtain ⟨ks2, X2, o4', o5', o6', k2, l2, b2⟩ := ih (fun k hk => hj k (List.mem_cons_of_mem _ hk)) s1 s' ks1 X1 (some (.int (a : Nat))) none none l1 k1 e2
    have hb : evSs Pe (BL_cut1 ic irp irs ihf ich) (sC g n r s (some (.int (a : Nat))) o5 o6 o) (hC T H r ks X) = .ok (.nx (sC g n r s1 (some (.int (a : Nat))) none none o)) (hC T H r ks1 X1) := by
      unfold BL_cut1
      have el : evE Pe.C (.bin .Add (.var 1) (.cst (.int 1))) (sC g n r s (some (.int (a : Nat))) o5 o6 o) (hC T H r ks X) = .ok (.int ((n + 1 : Nat) : Int)) (hC T H r ks X) := ev_bin (op := .Add) (ev_var rfl) ev_cst rfl
      have ef : evS Pe (.for_ (.v 5) (.rng1 (.bin .Add (.var 1) (.cst (.int 1)))) (BL_cut0 ic irp irs ihf ich)) (sC g n r s (some (.int (a : Nat))) o5 o6 o) (hC T H r ks X) = .ok (.nx (sC g n r s1 (some (.int (a : Nat))) o5a o6a o)) (hC T H r ks1 X1) := by
        rw [forR1 el (smallI_nat (by omega)), Int.toNat_natCast, rngD_zero]
        exact b1
      rw [seqN ef]
      simp only [ES]; all_goals rfl
    exact ⟨ks2, X2, o4', o5', o6', k2, l2, (forF_cons (xs := natD js) rfl rfl hb).trans b2⟩
end
end Cl

namespace Cl
open PySem PySem.Spec PyProof.Rows L2
def cTest : CE := .cmp .NotIn (.tup (.cons (.var 0) (.cons (.var 1) .nil))) (.var 2)
def cKey : CE := .tup (.cons (.var 0) (.cons (.var 1) .nil))
def cSlope0 : CS := .asg (.v 3) (.lst (.cons (.tup (.cons (.cst (.int 0)) (.cons (.cst (.int 1)) .nil))) .nil))
def cSlope1 (ic irs : Nat) : CS := .ifs (.cmp .Gt (.var 0) (.cst (.int 0))) (.cons (.asg (.v 3) (.call irs (.cons (.var 3) (.cons (.call ic (.cons (.bin .Sub (.var 0) (.cst (.int 1))) (.cons (.bin .Add (.var 1) (.cst (.int 2))) (.cons (.var 2) .nil)))) (.cons (.tup (.cons (.cst (.int 1)) (.cons (.cst (.int 2)) .nil))) .nil))))) .nil) .nil
def cLoop (ic irp irs ihf ich : Nat) : CS := .for_ (.v 4) (.rng1 (.bin .Add (.var 0) (.cst (.int 1)))) (BL_cut1 ic irp irs ihf ich)
def cRow (ism ip : Nat) : CE := .bin .Add (.lst (.cons (.call ism (.cons (.var 0) (.cons (.var 1) .nil))) .nil)) (.comp (.call ip (.cons (.idx (.var 3) (.var 8)) (.cons (.tup (.cons (.cst (.int 1)) (.cons (.bin .Add (.var 8) (.cst (.int 1))) .nil))) .nil))) (.v 8) (.rng1 (.bi .len (.cons (.var 3) .nil))) .absent [8])
def cRowL (ism io : Nat) : CE := .bin .Add (.lst (.cons (.call ism (.cons (.var 0) (.cons (.var 1) .nil))) .nil)) (.comp (.call io (.cons (.idx (.var 3) (.var 7)) (.cons (.tup (.cons (.bin .Add (.var 7) (.cst (.int 1))) (.cons (.cst (.int 1)) .nil))) .nil))) (.v 7) (.rng1 (.bi .len (.cons (.var 3) .nil))) .absent [7])
def BD_cutP (ic irp irs ihf ich ism ip : Nat) : CDef := ⟨9, 3, (.cons (.ifs cTest (.cons cSlope0 (.cons (cSlope1 ic irs) (.cons (cLoop ic irp irs ihf ich) (.cons (.asg (.v 7) (cRow ism ip)) (.cons (.sput (.var 2) cKey (.var 7)) .nil))))) .nil) (.cons (.ret (.idx (.var 2) cKey)) .nil))⟩
def BD_cutL (ic irp irs ihf ich ism io : Nat) : CDef := ⟨8, 3, (.cons (.ifs cTest (.cons cSlope0 (.cons (cSlope1 ic irs) (.cons (cLoop ic irp irs ihf ich) (.cons (.sput (.var 2) cKey (cRowL ism io)) .nil)))) .nil) (.cons (.ret (.idx (.var 2) cKey)) .nil))⟩
section
variable {Pe : Env2} {ic irp irs ihf ich : Nat} {T : Nat → Nat → List Q2} {sm : Nat → Nat → Option Q2} {g n r : Nat} {H : Hc} {o : List (Option D)}
theorem ev_key {C : Caller} {σ : CSt} {h : Hc} (e0 : σ[0]? = some (some (.int (g : Nat)))) (e1 : σ[1]? = some (some (.int (n : Nat)))) : evE C cKey σ h = .ok (prD g n) h := ev_t2 (ev_var e0) (ev_var e1)
theorem look_hC {ks : List Pr} {h : Hc} (hr : h[r]? = some (.dT (kd (tD T) ks))) : lookD h r (prD g n) = some (if (g, n) ∈ ks then some (tD T g n) else none) := by
  unfold lookD
  rw [hr]
  simp only [tkey_pr, Option.map_some, val_kd]
theorem ev_test {C : Caller} {σ : CSt} {ks : List Pr} {h : Hc} (e0 : σ[0]? = some (some (.int (g : Nat)))) (e1 : σ[1]? = some (some (.int (n : Nat)))) (e2 : σ[2]? = some (some (.ref r))) (hr : h[r]? = some (.dT (kd (tD T) ks))) : evE C cTest σ h = .ok (.bl (decide ((g, n) ∉ ks))) h := by
  refine ev_cmp (ev_key e0 e1) (ev_var e2) ?_
  have hd : der h (.ref r) = .ref r := by simp only [der, hr]
  have : inF h (prD g n) (.ref r) = some (decide ((g, n) ∈ ks)) := by
    unfold inF
    rw [hd]
    simp only [look_hC hr, Option.map_some]
    by_cases hm : (g, n) ∈ ks <;> simp [hm]
  simp only [cmpF, this, Option.map_some]
  by_cases hm : (g, n) ∈ ks <;> simp [hm]
theorem ev_got {C : Caller} {σ : CSt} {ks : List Pr} {h : Hc} (e0 : σ[0]? = some (some (.int (g : Nat)))) (e1 : σ[1]? = some (some (.int (n : Nat)))) (e2 : σ[2]? = some (some (.ref r))) (hr : h[r]? = some (.dT (kd (tD T) ks))) (hm : (g, n) ∈ ks) : evE C (.idx (.var 2) cKey) σ h = .ok (.lst (rowD (T g n))) h := by
  refine ev_idx (ev_var e2) (ev_key e0 e1) ?_
  unfold idxF
  simp only [prD, hr]
  rw [show (D.tup [D.int (g : Nat), D.int (n : Nat)]) = prD g n from rfl, look_hC hr, if_pos hm]
  rfl
theorem putF_dT {h : Hc} {kvs : List (List Key × D)} {i v : D} {k : List Key} (e : h[r]? = some (.dT kvs)) (hl : kvs.length < line) (hk : tkeyD i = some k) : putF h (.ref r) i v = some (h.set r (.dT (putD kvs k v))) := by
  simp only [putF, e, hl, if_true, hk, Option.map_some]
theorem kd_len {V : Nat → Nat → D} {ks : List Pr} (k : KI ks) : (kd V ks).length < line := by
  have := k.len
  rw [kd, List.length_map]; unfold line; omega
theorem put_hC {ks : List Pr} {X : Hc} (hr : r < H.length) (hk : KI ks) (hm : (g, n) ∉ ks) : putF (hC T H r ks X) (.ref r) (prD g n) (.lst (rowD (T g n))) = some (hC T H r (ks ++ [(g, n)]) X) := by
  rw [putF_dT (hC_at hr) (kd_len hk) tkey_pr, show (D.lst (rowD (T g n))) = tD T g n from rfl, put_kd hm, hC_set hr]
theorem cell_low {n : Nat} {ks : List Pr} : (Cell.dT (kd (tD T) ks)).low n = true := by
  unfold Cell.low
  rw [List.all_eq_true]
  intro kv hkv
  obtain ⟨p, _, rfl⟩ := List.mem_map.mp hkv
  exact low_row
theorem set_self {c : Cell} (e : H[r]? = some c) : H.set r c = H := by
  refine List.ext_getElem? fun i => ?_
  rw [List.getElem?_set]
  split
  · rename_i h
    subst h
    rw [e, if_pos (List.getElem?_eq_some_iff.mp e).1]
  · rfl
theorem hC_self {ks : List Pr} (e : H[r]? = some (.dT (kd (tD T) ks))) : hC T H r ks [] = H := by
  unfold hC; rw [set_self e, List.append_nil]
/-- up to the row -/
theorem cut_upto (hrp : RpC Pe.C irp) (hrs : RsC Pe.C irs) (hhf : HfC Pe.C ihf) (hch : ChC Pe.C ich) (hcut : CutC Pe.C ic T (3 * g + n)) (tab : TabOk T sm) (d : Dm g n) (hr : r < H.length) {ks : List Pr} (hk : KI ks) {o3 : Option D} :
    ∃ s q R ks' X' o4 o5 o6, KI ks' ∧ sm g n = some q ∧ mapMO (fun k => prodM (s.getD k z2) (1, (k : Int) + 1)) (List.range s.length) = some R ∧ T g n = q :: R ∧ s.length ≤ 300 ∧
      ∀ ss, evSs Pe (.cons cSlope0 (.cons (cSlope1 ic irs) (.cons (cLoop ic irp irs ihf ich) ss))) ([some (.int (g : Nat)), some (.int (n : Nat)), some (.ref r), o3, none, none, none] ++ o) (hC T H r ks []) = evSs Pe ss (sC g n r s o4 o5 o6 o) (hC T H r ks' X') := by
  have st := tab.step g n d
  simp only [cutStep, Option.bind_eq_some_iff] at st
  obtain ⟨s0, e0, s, e1, q, e2, R, e3, e4⟩ := st
  have hg := d.g6
  have s1 : evS Pe cSlope0 ([some (.int (g : Nat)), some (.int (n : Nat)), some (.ref r), o3, none, none, none] ++ o) (hC T H r ks []) = .ok (.nx (sC g n r [z2] none none none o)) (hC T H r ks []) := asgV (i := 3) (ev_lst (ev_cons (ev_t2 ev_cst ev_cst) ev_nil))
  have ec : evE Pe.C (.cmp .Gt (.var 0) (.cst (.int 0))) (sC g n r [z2] none none none o) (hC T H r ks []) = .ok (.bl (decide (0 < g))) (hC T H r ks []) := ev_cmp (ev_var rfl) ev_cst (by
    show some (decide ((0 : Int) < (g : Nat))) = _
    congr 1
    rw [decide_eq_decide]; omega)
  obtain ⟨ks1, X1, k1, hl1, s2⟩ : ∃ ks1 X1, KI ks1 ∧ s0.length ≤ 300 ∧ evS Pe (cSlope1 ic irs) (sC g n r [z2] none none none o) (hC T H r ks []) = .ok (.nx (sC g n r s0 none none none o)) (hC T H r ks1 X1) := by
    by_cases h0 : 0 < g
    · rw [if_pos h0] at e0
      rw [decide_eq_true h0] at ec
      have dc := d.cut h0
      obtain ⟨ks1, k1, c1⟩ := hcut (g - 1) (n + 2) dc (by omega) (hC T H r ks []) r ks hk (hC_at hr)
      rw [show (kd (fun g n => D.lst (rowD (T g n))) ks1) = kd (tD T) ks1 from rfl, hC_set hr] at c1
      have hl := tab.len _ _ dc
      refine ⟨ks1, [], k1, by rw [rowSum_len e0]; simp only [List.length_cons, List.length_nil]; omega, ?_⟩
      unfold cSlope1
      rw [ifT ec]
      have : evS Pe (.asg (.v 3) (.call irs (.cons (.var 3) (.cons (.call ic (.cons (.bin .Sub (.var 0) (.cst (.int 1))) (.cons (.bin .Add (.var 1) (.cst (.int 2))) (.cons (.var 2) .nil)))) (.cons (.tup (.cons (.cst (.int 1)) (.cons (.cst (.int 2)) .nil))) .nil))))) (sC g n r [z2] none none none o) (hC T H r ks []) = .ok (.nx (sC g n r s0 none none none o)) (hC T H r ks1 []) := by
        refine asgV (i := 3) ((ev_c3 (ev_var rfl) ((ev_c3 (ev_bin (op := .Sub) (z := .int ((g - 1 : Nat) : Int)) (ev_var rfl) ev_cst ?_) (ev_bin (op := .Add) (z := .int ((n + 2 : Nat) : Int)) (ev_var rfl) ev_cst rfl) (ev_var rfl)).trans c1) (ev_t2 ev_cst ev_cst)).trans (hrs [z2] (T (g - 1) (n + 2)) s0 (1, 2) _ _ _ e0 IsL.lst IsL.lst (by simp) (by omega)))
        show some (D.int ((g : Int) - 1)) = _
        congr 2; omega
      rw [seqN this]
      simp only [ES]
    · rw [if_neg h0] at e0
      rw [decide_eq_false h0] at ec
      cases e0
      refine ⟨ks, [], hk, by simp, ?_⟩
      unfold cSlope1
      rw [ifF ec]
      simp only [ES]
  obtain ⟨ks2, X2, o4, o5, o6, k2, hl2, s3⟩ := cut_out (Pe := Pe) (ic := ic) (irp := irp) (irs := irs) (ihf := ihf) (ich := ich) (T := T) (H := H) (o := o) hrp hrs hhf hch hcut d tab.pos tab.len hr (List.range (g + 1)) (fun a ha => by have := List.mem_range.mp ha; omega) s0 s ks1 X1 none none none hl1 k1 e1
  have s3' : evS Pe (cLoop ic irp irs ihf ich) (sC g n r s0 none none none o) (hC T H r ks1 X1) = .ok (.nx (sC g n r s o4 o5 o6 o)) (hC T H r ks2 X2) := by
    have el : evE Pe.C (.bin .Add (.var 0) (.cst (.int 1))) (sC g n r s0 none none none o) (hC T H r ks1 X1) = .ok (.int ((g + 1 : Nat) : Int)) (hC T H r ks1 X1) := ev_bin (op := .Add) (ev_var rfl) ev_cst rfl
    unfold cLoop
    rw [forR1 el (smallI_nat (by omega)), Int.toNat_natCast, rngD_zero]
    exact s3
  refine ⟨s, q, R, ks2, X2, o4, o5, o6, k2, e2, e3, (Option.some.inj e4).symm, hl2, fun ss => ?_⟩
  rw [seqN s1, seqN s2, seqN s3']
end
theorem sC_8 {g n r : Nat} {s : List Q2} {o4 o5 o6 o7 o8 : Option D} : sC g n r s o4 o5 o6 [o7, o8] = [some (.int (g : Nat)), some (.int (n : Nat)), some (.ref r), some (.lst (rowD s)), o4, o5, o6, o7, o8] := rfl
theorem bin_row {H : Hc} {q : Q2} {R : List Q2} (h : R.length ≤ 1000) : binF H .Add (.lst [qD q]) (.lst (rowD R)) = some (.lst (rowD (q :: R))) := by
  simp only [binF, addF, addL, derM]
  rw [if_pos (by rw [rowD, List.length_map]; show 1 + _ ≤ line; unfold line; omega)]
  rfl
section
variable {P : Pg} {ic irp irs ihf ich ism ip : Nat} {T : Nat → Nat → List Q2} {sm : Nat → Nat → Option Q2} {N : Nat}
theorem run_cutP (hd : P.defs[ic]? = some (BD_cutP ic irp irs ihf ich ism ip)) (hrp : ∀ n, RpC (callN P (N + n)) irp) (hrs : ∀ n, RsC (callN P (N + n)) irs) (hhf : ∀ n, HfC (callN P (N + n)) ihf) (hch : ∀ n, ChC (callN P (N + n)) ich) (hsm : ∀ n, SmC (callN P (N + n)) ism sm) (hp : ∀ n, ProdC (callN P (N + n)) ip) (tab : TabOk T sm) :
    ∀ m, CutC (callN P (N + m + 1)) ic T (m + 1) := by
  intro m
  induction m with
  | zero => intro g n d h; have := d.st; omega
  | succ m ih =>
    intro g n d hlt H r ks hk hr
    have hrl : r < H.length := (List.getElem?_eq_some_iff.mp hr).1
    have ih' : CutC (callN P (N + (m + 1))) ic T (3 * g + n) := fun g' n' d' h' => ih g' n' d' (by omega)
    show ∃ ks', KI ks' ∧ callN P (N + (m + 1) + 1) ic _ _ = _
    by_cases hm : (g, n) ∈ ks
    · refine ⟨ks, hk, ?_⟩
      rw [call_rt0 (d := BD_cutP ic irp irs ihf ich ism ip) (b := (BD_cutP ic irp irs ihf ich ism ip).body) (σ := [some (.int (g : Nat)), some (.int (n : Nat)), some (.ref r), none, none, none, none, none, none]) (v := .lst (rowD (T g n))) (h' := H) hd rfl rfl rfl]
      · rw [finR_self]
        congr 1
        exact (set_self hr).symm
      · have et := ev_test (C := callN P (N + (m + 1))) (T := T) (σ := [some (.int (g : Nat)), some (.int (n : Nat)), some (.ref r), none, none, none, none, none, none]) (h := H) rfl rfl rfl hr
        rw [decide_eq_false (fun h => h hm)] at et
        refine (seqN (σ' := [some (.int (g : Nat)), some (.int (n : Nat)), some (.ref r), none, none, none, none, none, none]) (h' := H) (by rw [ifF (P := ⟨callN P (N + (m + 1)), P.sub⟩) et]; simp only [ES])).trans ?_
        exact seqR (retE (ev_got rfl rfl rfl hr hm))
    · obtain ⟨s, q, R, ks1, X1, o4, o5, o6, k1, eq, eR, eT, hl, run⟩ := cut_upto (Pe := ⟨callN P (N + (m + 1)), P.sub⟩) (ic := ic) (irp := irp) (irs := irs) (ihf := ihf) (ich := ich) (T := T) (sm := sm) (H := H) (o := [none, none]) (o3 := none) (hrp _) (hrs _) (hhf _) (hch _) ih' tab d hrl hk
      rw [hC_self hr] at run
      have et := ev_test (C := callN P (N + (m + 1))) (T := T) (σ := [some (.int (g : Nat)), some (.int (n : Nat)), some (.ref r), none, none, none, none, none, none]) (h := H) rfl rfl rfl hr
      rw [decide_eq_true hm] at et
      have key := compF_mapM (fe := evE (callN P (N + (m + 1))) (.call ip (.cons (.idx (.var 3) (.var 8)) (.cons (.tup (.cons (.cst (.int 1)) (.cons (.bin .Add (.var 8) (.cst (.int 1))) .nil))) .nil)))) (fc := condR true (evE (callN P (N + (m + 1))) .absent)) (t := .v 8) (σ := cwipe (sC g n r s o4 o5 o6 [none, none]) [8]) (h := hC T H r ks1 X1) qD _ _ R eR (fun k hk2 q hq => by
        rw [List.mem_range] at hk2
        exact ⟨_, rfl, rfl, (ev_c2 (ev_idx (ev_var rfl) (ev_var rfl) (idx_row hk2)) (ev_t2 ev_cst (ev_bin (op := .Add) (ev_var rfl) ev_cst rfl))).trans (hp _ _ _ _ _ hq)⟩)
      have hRl : R.length ≤ 1000 := by rw [mapMO_len eR, List.length_range]; omega
      have ls : biF (hC T H r ks1 X1) .len [.lst (rowD s)] = some (.int (s.length : Nat)) := len_row
      have er : evE (callN P (N + (m + 1))) (cRow ism ip) (sC g n r s o4 o5 o6 [none, none]) (hC T H r ks1 X1) = .ok (.lst (rowD (T g n))) (hC T H r ks1 X1) := by
        rw [eT]
        exact ev_bin (ev_lst (ev_cons ((ev_c2 (ev_var rfl) (ev_var rfl)).trans (hsm _ g n q _ eq d)) ev_nil)) (ev_comp1 (ev_bi1 (ev_var rfl) ls) (by omega) key) (bin_row hRl)
      have s4 : evS ⟨callN P (N + (m + 1)), P.sub⟩ (.asg (.v 7) (cRow ism ip)) (sC g n r s o4 o5 o6 [none, none]) (hC T H r ks1 X1) = .ok (.nx (sC g n r s o4 o5 o6 [some (.lst (rowD (T g n))), none])) (hC T H r ks1 X1) := asgV (i := 7) er
      obtain ⟨ks2, k2, hm2, s5⟩ : ∃ ks2, KI ks2 ∧ (g, n) ∈ ks2 ∧ evS ⟨callN P (N + (m + 1)), P.sub⟩ (.sput (.var 2) cKey (.var 7)) (sC g n r s o4 o5 o6 [some (.lst (rowD (T g n))), none]) (hC T H r ks1 X1) = .ok (.nx (sC g n r s o4 o5 o6 [some (.lst (rowD (T g n))), none])) (hC T H r ks2 X1) := by
        by_cases hm1 : (g, n) ∈ ks1
        · refine ⟨ks1, k1, hm1, sputE (ev_var rfl) (ev_var rfl) (ev_key rfl rfl) ?_⟩
          rw [putF_dT (hC_at hrl) (kd_len k1) tkey_pr]
          have : putD (kd (tD T) ks1) [.inl (g : Int), .inl (n : Int)] (.lst (rowD (T g n))) = kd (tD T) ks1 := by
            unfold putD
            rw [if_pos]
            · unfold kd
              rw [List.map_map]
              refine List.map_congr_left fun p hp => ?_
              simp only [Function.comp]
              split
              · rename_i h
                have := key_inj.mp h
                cases this
                rfl
              · rfl
            · rw [List.any_eq_true]
              exact ⟨_, List.mem_map.mpr ⟨(g, n), hm1, rfl⟩, by simp⟩
          rw [this, hC_set hrl]
        · exact ⟨ks1 ++ [(g, n)], k1.add d hm1, by simp, sputE (ev_var rfl) (ev_var rfl) (ev_key rfl rfl) (put_hC hrl k1 hm1)⟩
      refine ⟨ks2, k2, ?_⟩
      rw [call_rt0 (d := BD_cutP ic irp irs ihf ich ism ip) (b := (BD_cutP ic irp irs ihf ich ism ip).body) (σ := [some (.int (g : Nat)), some (.int (n : Nat)), some (.ref r), none, none, none, none, none, none]) (v := .lst (rowD (T g n))) (h' := hC T H r ks2 X1) hd rfl rfl rfl]
      · exact finR_set low_row cell_low
      · have hb : evS ⟨callN P (N + (m + 1)), P.sub⟩ (.ifs cTest (.cons cSlope0 (.cons (cSlope1 ic irs) (.cons (cLoop ic irp irs ihf ich) (.cons (.asg (.v 7) (cRow ism ip)) (.cons (.sput (.var 2) cKey (.var 7)) .nil))))) .nil) [some (.int (g : Nat)), some (.int (n : Nat)), some (.ref r), none, none, none, none, none, none] H = .ok (.nx (sC g n r s o4 o5 o6 [some (.lst (rowD (T g n))), none])) (hC T H r ks2 X1) := by
          rw [ifT (P := ⟨callN P (N + (m + 1)), P.sub⟩) et]
          refine (run _).trans ?_
          rw [seqN s4, seqN s5]
          simp only [ES]
        refine (seqN hb).trans ?_
        exact seqR (retE (ev_got rfl rfl rfl (hC_at hrl) hm2))
end
end Cl

namespace Cl
open PySem PySem.Spec PyProof.Rows L2
section
variable {P : Pg} {ic irp irs ihf ich ism io : Nat} {T : Nat → Nat → List Q2} {sm : Nat → Nat → Option Q2} {N : Nat}
theorem run_cutL (hd : P.defs[ic]? = some (BD_cutL ic irp irs ihf ich ism io)) (hrp : ∀ n, RpC (callN P (N + n)) irp) (hrs : ∀ n, RsC (callN P (N + n)) irs) (hhf : ∀ n, HfC (callN P (N + n)) ihf) (hch : ∀ n, ChC (callN P (N + n)) ich) (hsm : ∀ n, SmC (callN P (N + n)) ism sm) (ho : ∀ n, OverC (callN P (N + n)) io) (tab : TabOk T sm) :
    ∀ m, CutC (callN P (N + m + 1)) ic T (m + 1) := by
  intro m
  induction m with
  | zero => intro g n d h; have := d.st; omega
  | succ m ih =>
    intro g n d hlt H r ks hk hr
    have hrl : r < H.length := (List.getElem?_eq_some_iff.mp hr).1
    have ih' : CutC (callN P (N + (m + 1))) ic T (3 * g + n) := fun g' n' d' h' => ih g' n' d' (by omega)
    show ∃ ks', KI ks' ∧ callN P (N + (m + 1) + 1) ic _ _ = _
    by_cases hm : (g, n) ∈ ks
    · refine ⟨ks, hk, ?_⟩
      rw [call_rt0 (d := BD_cutL ic irp irs ihf ich ism io) (b := (BD_cutL ic irp irs ihf ich ism io).body) (σ := [some (.int (g : Nat)), some (.int (n : Nat)), some (.ref r), none, none, none, none, none]) (v := .lst (rowD (T g n))) (h' := H) hd rfl rfl rfl]
      · rw [finR_self]
        congr 1
        exact (set_self hr).symm
      · have et := ev_test (C := callN P (N + (m + 1))) (T := T) (σ := [some (.int (g : Nat)), some (.int (n : Nat)), some (.ref r), none, none, none, none, none]) (h := H) rfl rfl rfl hr
        rw [decide_eq_false (fun h => h hm)] at et
        refine (seqN (σ' := [some (.int (g : Nat)), some (.int (n : Nat)), some (.ref r), none, none, none, none, none]) (h' := H) (by rw [ifF (P := ⟨callN P (N + (m + 1)), P.sub⟩) et]; simp only [ES])).trans ?_
        exact seqR (retE (ev_got rfl rfl rfl hr hm))
    · obtain ⟨s, q, R, ks1, X1, o4, o5, o6, k1, eq, eR, eT, hl, run⟩ := cut_upto (Pe := ⟨callN P (N + (m + 1)), P.sub⟩) (ic := ic) (irp := irp) (irs := irs) (ihf := ihf) (ich := ich) (T := T) (sm := sm) (H := H) (o := [none]) (o3 := none) (hrp _) (hrs _) (hhf _) (hch _) ih' tab d hrl hk
      rw [hC_self hr] at run
      have et := ev_test (C := callN P (N + (m + 1))) (T := T) (σ := [some (.int (g : Nat)), some (.int (n : Nat)), some (.ref r), none, none, none, none, none]) (h := H) rfl rfl rfl hr
      rw [decide_eq_true hm] at et
      have key := compF_mapM (fe := evE (callN P (N + (m + 1))) (.call io (.cons (.idx (.var 3) (.var 7)) (.cons (.tup (.cons (.bin .Add (.var 7) (.cst (.int 1))) (.cons (.cst (.int 1)) .nil))) .nil)))) (fc := condR true (evE (callN P (N + (m + 1))) .absent)) (t := .v 7) (σ := cwipe (sC g n r s o4 o5 o6 [none]) [7]) (h := hC T H r ks1 X1) qD _ _ R eR (fun k hk2 q hq => by
        rw [List.mem_range] at hk2
        exact ⟨_, rfl, rfl, (ev_c2 (ev_idx (ev_var rfl) (ev_var rfl) (idx_row hk2)) (ev_t2 (ev_bin (op := .Add) (ev_var rfl) ev_cst rfl) ev_cst)).trans (ho _ _ ((k : Int) + 1, 1) _ _ hq)⟩)
      have hRl : R.length ≤ 1000 := by rw [mapMO_len eR, List.length_range]; omega
      have ls : biF (hC T H r ks1 X1) .len [.lst (rowD s)] = some (.int (s.length : Nat)) := len_row
      have er : evE (callN P (N + (m + 1))) (cRowL ism io) (sC g n r s o4 o5 o6 [none]) (hC T H r ks1 X1) = .ok (.lst (rowD (T g n))) (hC T H r ks1 X1) := by
        rw [eT]
        exact ev_bin (ev_lst (ev_cons ((ev_c2 (ev_var rfl) (ev_var rfl)).trans (hsm _ g n q _ eq d)) ev_nil)) (ev_comp1 (ev_bi1 (ev_var rfl) ls) (by omega) key) (bin_row hRl)
      obtain ⟨ks2, k2, hm2, s5⟩ : ∃ ks2, KI ks2 ∧ (g, n) ∈ ks2 ∧ evS ⟨callN P (N + (m + 1)), P.sub⟩ (.sput (.var 2) cKey (cRowL ism io)) (sC g n r s o4 o5 o6 [none]) (hC T H r ks1 X1) = .ok (.nx (sC g n r s o4 o5 o6 [none])) (hC T H r ks2 X1) := by
        by_cases hm1 : (g, n) ∈ ks1
        · refine ⟨ks1, k1, hm1, sputE er (ev_var rfl) (ev_key rfl rfl) ?_⟩
          rw [putF_dT (hC_at hrl) (kd_len k1) tkey_pr]
          have : putD (kd (tD T) ks1) [.inl (g : Int), .inl (n : Int)] (.lst (rowD (T g n))) = kd (tD T) ks1 := by
            unfold putD
            rw [if_pos]
            · unfold kd
              rw [List.map_map]
              refine List.map_congr_left fun p hp => ?_
              simp only [Function.comp]
              split
              · rename_i h
                have := key_inj.mp h
                cases this
                rfl
              · rfl
            · rw [List.any_eq_true]
              exact ⟨_, List.mem_map.mpr ⟨(g, n), hm1, rfl⟩, by simp⟩
          rw [this, hC_set hrl]
        · exact ⟨ks1 ++ [(g, n)], k1.add d hm1, by simp, sputE er (ev_var rfl) (ev_key rfl rfl) (put_hC hrl k1 hm1)⟩
      refine ⟨ks2, k2, ?_⟩
      rw [call_rt0 (d := BD_cutL ic irp irs ihf ich ism io) (b := (BD_cutL ic irp irs ihf ich ism io).body) (σ := [some (.int (g : Nat)), some (.int (n : Nat)), some (.ref r), none, none, none, none, none]) (v := .lst (rowD (T g n))) (h' := hC T H r ks2 X1) hd rfl rfl rfl]
      · exact finR_set low_row cell_low
      · have hb : evS ⟨callN P (N + (m + 1)), P.sub⟩ (.ifs cTest (.cons cSlope0 (.cons (cSlope1 ic irs) (.cons (cLoop ic irp irs ihf ich) (.cons (.sput (.var 2) cKey (cRowL ism io)) .nil)))) .nil) [some (.int (g : Nat)), some (.int (n : Nat)), some (.ref r), none, none, none, none, none] H = .ok (.nx (sC g n r s o4 o5 o6 [none])) (hC T H r ks2 X1) := by
          rw [ifT (P := ⟨callN P (N + (m + 1)), P.sub⟩) et]
          refine (run _).trans ?_
          rw [seqN s5]
          simp only [ES]
        refine (seqN hb).trans ?_
        exact seqR (retE (ev_got rfl rfl rfl (hC_at hrl) hm2))
end
end Cl

namespace Cl
open PySem PySem.Spec PyProof.Rows L2
/-! ### Bernoulli's numbers, the program's way -/
abbrev ChC0 (C : Caller) (i : Nat) : Prop := ∀ (n k : Nat) (z : Int) (h : Hc), choM n k = some z → k ≤ n → k < 1000 → C i [.int (n : Nat), .int (k : Nat)] h = .ok (.int z) h
abbrev RtC (C : Caller) (i : Nat) : Prop := ∀ (a b : Int) (q : Q2) (h : Hc), b ≠ 0 → lowM a b = some q → C i [.int a, .int b] h = .ok (qD q) h
abbrev OvC (C : Caller) (i : Nat) : Prop := ∀ (p q r : Q2) (h : Hc), q.1 ≠ 0 → overM p q = some r → C i [qD p, qD q] h = .ok (qD r) h
def bnJ (fd : List Q2) (i : Nat) : List Nat → Q2 → Option Q2
  | [], t => some t
  | j :: js, t => (choM (i + 1) j).bind fun c => (prodM (c, 1) (fd.getD j z2)).bind fun p => (lessM t p).bind fun t => bnJ fd i js t
def bnI : List Nat → List Q2 → Option (List Q2)
  | [], fd => some fd
  | i :: is, fd => (bnJ fd i (List.range i) (if 0 < i then (0, 1) else (1, 1))).bind fun t => (if 0 < i then overM t ((i : Int) + 1, 1) else some t).bind fun q => bnI is (fd ++ [q])
def bernP (k : Nat) : Option Q2 := (bnI (List.range (k + 1)) []).map (·.getD k z2)
def BL_bn0 (il ip ich : Nat) : CSs := (.cons (.asg (.v 3) (.call il (.cons (.var 3) (.cons (.call ip (.cons (.tup (.cons (.call ich (.cons (.bin .Add (.var 2) (.cst (.int 1))) (.cons (.var 4) .nil))) (.cons (.cst (.int 1)) .nil))) (.cons (.idx (.var 1) (.var 4)) .nil))) .nil)))) .nil)
def bnGt : CE := .cmp .Gt (.var 2) (.cst (.int 0))
def bnAsg : CS := .asg (.v 3) (.ite bnGt (.tup (.cons (.cst (.int 0)) (.cons (.cst (.int 1)) .nil))) (.tup (.cons (.cst (.int 1)) (.cons (.cst (.int 1)) .nil))))
def bnApp (io : Nat) : CS := .app (.var 1) (.ite bnGt (.call io (.cons (.var 3) (.cons (.tup (.cons (.bin .Add (.var 2) (.cst (.int 1))) (.cons (.cst (.int 1)) .nil))) .nil))) (.var 3))
def BL_bn1 (il ip ich io : Nat) : CSs := (.cons bnAsg (.cons (.for_ (.v 4) (.rng1 (.var 2)) (BL_bn0 il ip ich)) (.cons (bnApp io) (.cons (.kill [3, 4]) .nil))))
def BD_bn (il ip ich io : Nat) : CDef := ⟨5, 1, (.cons (.asg (.v 1) (.cell (.lst .nil))) (.cons (.for_ (.v 2) (.rng1 (.bin .Add (.var 0) (.cst (.int 1)))) (BL_bn1 il ip ich io)) (.cons (.ret (.idx (.var 1) (.var 0))) .nil)))⟩
theorem idx_cell {H X : Hc} {f : List Q2} {i : Nat} (k : i < f.length) : idxF (H ++ .lst (rowD f) :: X) (.ref H.length) (.int (i : Nat)) = some (qD (f.getD i z2)) := by
  have : (H ++ .lst (rowD f) :: X)[H.length]? = some (.lst (rowD f)) := by simp
  simp only [idxF, this]
  exact atD_row k
theorem appE {P : Env2} {o e : CE} {σ : CSt} {h h1 h2 : Hc} {n : Nat} {xs : List D} {v : D} (ko : evE P.C o σ h = .ok (.ref n) h1) (kl : h1[n]? = some (.lst xs)) (ke : evE P.C e σ h1 = .ok v h2) (kl2 : h2[n]? = some (.lst xs)) (hl : xs.length < line) : evS P (.app o e) σ h = .ok (.nx σ) (h2.set n (.lst (xs ++ [v]))) := by
  have hb : isLstD h1 (.ref n) = true := by simp only [isLstD, kl]
  simp only [ES, EB, ko, hb, ke, kl2, hl, if_true]
  rfl
section
variable {Pe : Env2} {il ip ich io : Nat} {H : Hc} {k i : Nat} {fd : List Q2}
def sB (k r i : Nat) (o3 o4 : Option D) : CSt := [some (.int (k : Nat)), some (.ref r), some (.int (i : Nat)), o3, o4]
theorem bn_loop0 (hl : LessC Pe.C il) (hp : ProdC Pe.C ip) (hc : ChC0 Pe.C ich) (hfd : fd.length = i) (hi : i < 900) (js : List Nat) : (∀ j ∈ js, j < i) → ∀ (t t' : Q2) o4, bnJ fd i js t = some t' → ∃ o4', forF (evSs Pe (BL_bn0 il ip ich)) (.v 4) [] (natD js) (sB k H.length i (some (qD t)) o4) (H ++ [.lst (rowD fd)]) = .ok (.nx (sB k H.length i (some (qD t')) o4')) (H ++ [.lst (rowD fd)]) := by
  induction js with
  | nil => intro _ t t' o4 e; cases e; exact ⟨o4, forF_nil rfl⟩
  | cons j js ih =>
    intro hj t t' o4 e
    simp only [bnJ, Option.bind_eq_some_iff] at e
    obtain ⟨c, e1, p, e2, t1, e3, e4⟩ := e
    have hji := hj j (by simp)
    obtain ⟨o4', ih⟩ := ih (fun k hk => hj k (List.mem_cons_of_mem _ hk)) t1 t' (some (.int (j : Nat))) e4
    have hb : evSs Pe (BL_bn0 il ip ich) (sB k H.length i (some (qD t)) (some (.int (j : Nat)))) (H ++ [.lst (rowD fd)]) = .ok (.nx (sB k H.length i (some (qD t1)) (some (.int (j : Nat))))) (H ++ [.lst (rowD fd)]) := by
      unfold BL_bn0
      have ea : evE Pe.C (.bin .Add (.var 2) (.cst (.int 1))) (sB k H.length i (some (qD t)) (some (.int (j : Nat)))) (H ++ [.lst (rowD fd)]) = .ok (.int ((i + 1 : Nat) : Int)) (H ++ [.lst (rowD fd)]) := ev_bin (op := .Add) (ev_var rfl) ev_cst rfl
      refine (seqN (asgV (i := 3) ((ev_c2 (ev_var rfl) ((ev_c2 (ev_t2 ((ev_c2 ea (ev_var rfl)).trans (hc (i + 1) j c _ e1 (by omega) (by omega))) ev_cst) (ev_idx (ev_var rfl) (ev_var rfl) (idx_cell (by omega)))).trans (hp (c, 1) _ p _ e2))).trans (hl _ _ _ _ e3)))).trans ?_
      simp only [ES]; all_goals rfl
    exact ⟨o4', (forF_cons (xs := natD js) rfl rfl hb).trans ih⟩
theorem ev_bnGt {C : Caller} {o3 o4 : Option D} {r : Nat} {h : Hc} : evE C bnGt (sB k r i o3 o4) h = .ok (.bl (decide (0 < i))) h := ev_cmp (ev_var rfl) ev_cst (by
  show some (decide ((0 : Int) < (i : Nat))) = _
  congr 1
  rw [decide_eq_decide]; omega)
theorem bn_loop1 (hl : LessC Pe.C il) (hp : ProdC Pe.C ip) (hc : ChC0 Pe.C ich) (ho : OvC Pe.C io) (m : Nat) : ∀ (i0 : Nat) (fd fd' : List Q2) o2, fd.length = i0 → i0 + m < 900 → bnI (List.range' i0 m) fd = some fd' → ∃ o2' o3' o4', forF (evSs Pe (BL_bn1 il ip ich io)) (.v 2) [] (natD (List.range' i0 m)) [some (.int (k : Nat)), some (.ref H.length), o2, none, none] (H ++ [.lst (rowD fd)]) = .ok (.nx [some (.int (k : Nat)), some (.ref H.length), o2', o3', o4']) (H ++ [.lst (rowD fd')]) ∧ fd'.length = i0 + m := by
  induction m with
  | zero =>
    intro i0 fd fd' o2 hf _ e
    cases e
    exact ⟨o2, none, none, forF_nil rfl, hf⟩
  | succ m ih =>
    intro i0 fd fd' o2 hf hi e
    rw [List.range'_succ] at e ⊢
    simp only [bnI, Option.bind_eq_some_iff] at e
    obtain ⟨t, e1, q, e2, e3⟩ := e
    obtain ⟨o2', o3', o4', r, rl⟩ := ih (i0 + 1) (fd ++ [q]) fd' (some (.int (i0 : Nat))) (by simp [hf]) (by omega) e3
    obtain ⟨o4a, b0⟩ := bn_loop0 (Pe := Pe) (H := H) (k := k) hl hp hc hf (by omega) (List.range i0) (fun j hj => List.mem_range.mp hj) _ t none e1
    have hb : evSs Pe (BL_bn1 il ip ich io) (sB k H.length i0 none none) (H ++ [.lst (rowD fd)]) = .ok (.nx (sB k H.length i0 none none)) (H ++ [.lst (rowD (fd ++ [q]))]) := by
      unfold BL_bn1
      have s1 : evS Pe bnAsg (sB k H.length i0 none none) (H ++ [.lst (rowD fd)]) = .ok (.nx (sB k H.length i0 (some (qD (if 0 < i0 then (0, 1) else (1, 1)))) none)) (H ++ [.lst (rowD fd)]) := by
        refine asgV (i := 3) ((ev_ite ev_bnGt).trans ?_)
        by_cases h0 : 0 < i0
        · rw [decide_eq_true h0, if_pos rfl, if_pos h0]; exact ev_t2 ev_cst ev_cst
        · rw [decide_eq_false h0, if_neg (by simp), if_neg h0]; exact ev_t2 ev_cst ev_cst
      have s2 : evS Pe (.for_ (.v 4) (.rng1 (.var 2)) (BL_bn0 il ip ich)) (sB k H.length i0 (some (qD (if 0 < i0 then (0, 1) else (1, 1)))) none) (H ++ [.lst (rowD fd)]) = .ok (.nx (sB k H.length i0 (some (qD t)) o4a)) (H ++ [.lst (rowD fd)]) := by
        have el : evE Pe.C (.var 2) (sB k H.length i0 (some (qD (if 0 < i0 then (0, 1) else (1, 1)))) none) (H ++ [.lst (rowD fd)]) = .ok (.int (i0 : Nat)) (H ++ [.lst (rowD fd)]) := ev_var rfl
        rw [forR1 el (smallI_nat (by omega)), Int.toNat_natCast, rngD_zero]
        exact b0
      have ev : evE Pe.C (.ite bnGt (.call io (.cons (.var 3) (.cons (.tup (.cons (.bin .Add (.var 2) (.cst (.int 1))) (.cons (.cst (.int 1)) .nil))) .nil))) (.var 3)) (sB k H.length i0 (some (qD t)) o4a) (H ++ [.lst (rowD fd)]) = .ok (qD q) (H ++ [.lst (rowD fd)]) := by
        rw [ev_ite ev_bnGt]
        by_cases h0 : 0 < i0
        · rw [if_pos h0] at e2
          rw [decide_eq_true h0, if_pos rfl]
          exact (ev_c2 (ev_var rfl) (ev_t2 (ev_bin (op := .Add) (ev_var rfl) ev_cst rfl) ev_cst)).trans (ho t ((i0 : Int) + 1, 1) q _ (by show (i0 : Int) + 1 ≠ 0; omega) e2)
        · rw [if_neg h0] at e2
          cases e2
          rw [decide_eq_false h0, if_neg (by simp)]
          exact ev_var rfl
      have s3 : evS Pe (bnApp io) (sB k H.length i0 (some (qD t)) o4a) (H ++ [.lst (rowD fd)]) = .ok (.nx (sB k H.length i0 (some (qD t)) o4a)) (H ++ [.lst (rowD (fd ++ [q]))]) := by
        have := appE (P := Pe) (o := .var 1) (n := H.length) (xs := rowD fd) (ev_var (by rfl)) cell_at ev cell_at (by rw [rowD, List.length_map]; unfold line; omega)
        rw [cell_set] at this
        rw [show rowD (fd ++ [q]) = rowD fd ++ [qD q] from by rw [rowD, List.map_append]; rfl]
        exact this
      rw [seqN s1, seqN s2, seqN s3]
      simp only [ES]; all_goals rfl
    exact ⟨o2', o3', o4', (forF_cons (xs := natD (List.range' (i0 + 1) m)) rfl rfl hb).trans r, by omega⟩
end
theorem run_bn {P : Pg} {i il ip ich io n : Nat} (hd : P.defs[i]? = some (BD_bn il ip ich io)) (hl : LessC (callN P n) il) (hp : ProdC (callN P n) ip) (hc : ChC0 (callN P n) ich) (ho : OvC (callN P n) io) {k : Nat} {q : Q2} {H : Hc} (hk : k < 800) (e : bernP k = some q) : callN P (n + 1) i [.int (k : Nat)] H = .ok (qD q) H := by
  unfold bernP at e
  rw [Option.map_eq_some_iff] at e
  obtain ⟨fd, e1, e2⟩ := e
  rw [List.range_eq_range'] at e1
  obtain ⟨o2, o3, o4, r, rl⟩ := bn_loop1 (Pe := ⟨callN P n, P.sub⟩) (H := H) (k := k) hl hp hc ho (k + 1) 0 [] fd none rfl (by omega) e1
  refine call_rt (t := [.lst (rowD fd)]) (d := BD_bn il ip ich io) (b := (BD_bn il ip ich io).body) (σ := [some (.int (k : Nat)), none, none, none, none]) hd rfl rfl rfl (low_plain rfl) ?_
  refine (seqN (σ' := [some (.int (k : Nat)), some (.ref H.length), none, none, none]) (h' := H ++ [.lst []]) (asgV (i := 1) (ev_cell (ev_lst ev_nil)))).trans ?_
  refine (seqN (σ' := [some (.int (k : Nat)), some (.ref H.length), o2, o3, o4]) (h' := H ++ [.lst (rowD fd)]) ?_).trans (seqR (retE ?_))
  · have el : evE (callN P n) (.bin .Add (.var 0) (.cst (.int 1))) [some (.int (k : Nat)), some (.ref H.length), none, none, none] (H ++ [.lst []]) = .ok (.int ((k + 1 : Nat) : Int)) (H ++ [.lst []]) := ev_bin (op := .Add) (ev_var rfl) ev_cst rfl
    rw [forR1 (P := ⟨callN P n, P.sub⟩) el (smallI_nat (by omega)), Int.toNat_natCast, rngD_zero, List.range_eq_range']
    exact r
  · rw [← e2]
    exact ev_idx (ev_var rfl) (ev_var rfl) (idx_cell (by omega))
/-! ### .. and the law's -/
def totM : List Q2 → Q2 → Option Q2
  | [], t => some t
  | c :: cs, t => (sumM t c).bind (totM cs)
def blI : List Nat → List Q2 → Option (List Q2)
  | [], fd => some fd
  | i :: is, fd => (mapMO (fun j => (choM (i + 1) j).bind fun c => prodM (c, 1) (fd.getD j z2)) (List.range i)).bind fun cs => (totM cs z2).bind fun t => (lessM z2 t).bind fun u => (overM u ((i : Int) + 1, 1)).bind fun q => blI is (fd ++ [q])
def bernL (k : Nat) : Option Q2 := (blI (List.range' 1 k) [(1, 1)]).map (·.getD k z2)
def BL_tot (is : Nat) : CSs := .cons (.asg (.v 1) (.call is (.cons (.var 1) (.cons (.var 2) .nil)))) .nil
def BD_tot (is : Nat) : CDef := ⟨3, 1, .cons (.asg (.v 1) (.tup (.cons (.cst (.int 0)) (.cons (.cst (.int 1)) .nil)))) (.cons (.for_ (.v 2) (.seq (.var 0)) (BL_tot is)) (.cons (.ret (.var 1)) .nil))⟩
abbrev TotC (C : Caller) (i : Nat) : Prop := ∀ (f : List Q2) (q : Q2) (h : Hc), totM f z2 = some q → C i [.lst (rowD f)] h = .ok (qD q) h ∧ C i [.tup (rowD f)] h = .ok (qD q) h
theorem tot_loop {Pe : Env2} {is : Nat} (hs : SumC Pe.C is) {d : D} {H : Hc} (f : List Q2) : ∀ (t t' : Q2) o2, totM f t = some t' → ∃ o2', forF (evSs Pe (BL_tot is)) (.v 2) [] (rowD f) [some d, some (qD t), o2] H = .ok (.nx [some d, some (qD t'), o2']) H := by
  induction f with
  | nil => intro t t' o2 e; cases e; exact ⟨o2, forF_nil rfl⟩
  | cons c f ih =>
    intro t t' o2 e
    simp only [totM, Option.bind_eq_some_iff] at e
    obtain ⟨t1, e1, e2⟩ := e
    obtain ⟨o2', ih⟩ := ih t1 t' (some (qD c)) e2
    have hb : evSs Pe (BL_tot is) [some d, some (qD t), some (qD c)] H = .ok (.nx [some d, some (qD t1), some (qD c)]) H := by
      unfold BL_tot
      refine (seqN (asgV (i := 1) ((ev_c2 (ev_var rfl) (ev_var rfl)).trans (hs _ _ _ _ e1)))).trans ?_
      simp only [ES]; all_goals rfl
    exact ⟨o2', (forF_cons (xs := rowD f) rfl rfl hb).trans ih⟩
theorem run_tot {P : Pg} {i is n : Nat} (hd : P.defs[i]? = some (BD_tot is)) (hs : SumC (callN P n) is) : TotC (callN P (n + 1)) i := by
  intro f q h e
  constructor
  · obtain ⟨o2, r⟩ := tot_loop (Pe := ⟨callN P n, P.sub⟩) hs (d := .lst (rowD f)) (H := h) f z2 q none e
    refine call_rtp (d := BD_tot is) (b := (BD_tot is).body) (σ := [some (.lst (rowD f)), none, none]) hd rfl rfl rfl ?_
    refine (seqN (σ' := [some (.lst (rowD f)), some (qD z2), none]) (h' := h) (asgV (i := 1) (ev_t2 ev_cst ev_cst))).trans ?_
    refine (seqN (σ' := [some (.lst (rowD f)), some (qD q), o2]) (h' := h) ?_).trans (seqR (retE (ev_var rfl)))
    rw [forS (P := ⟨callN P n, P.sub⟩) (h' := h) (d := .lst (rowD f)) (xs := rowD f) (g := []) (ev_var rfl) rfl rfl]
    exact r
  · obtain ⟨o2, r⟩ := tot_loop (Pe := ⟨callN P n, P.sub⟩) hs (d := .tup (rowD f)) (H := h) f z2 q none e
    refine call_rtp (d := BD_tot is) (b := (BD_tot is).body) (σ := [some (.tup (rowD f)), none, none]) hd rfl rfl rfl ?_
    refine (seqN (σ' := [some (.tup (rowD f)), some (qD z2), none]) (h' := h) (asgV (i := 1) (ev_t2 ev_cst ev_cst))).trans ?_
    refine (seqN (σ' := [some (.tup (rowD f)), some (qD q), o2]) (h' := h) ?_).trans (seqR (retE (ev_var rfl)))
    rw [forS (P := ⟨callN P n, P.sub⟩) (h' := h) (d := .tup (rowD f)) (xs := rowD f) (g := []) (ev_var rfl) rfl rfl]
    exact r
def blAsg (it ip ich : Nat) : CS := .asg (.v 3) (.call it (.cons (.comp (.call ip (.cons (.tup (.cons (.call ich (.cons (.bin .Add (.var 2) (.cst (.int 1))) (.cons (.var 4) .nil))) (.cons (.cst (.int 1)) .nil))) (.cons (.idx (.var 1) (.var 4)) .nil))) (.v 4) (.rng1 (.var 2)) .absent [4]) .nil))
def blApp (io il : Nat) : CS := .app (.var 1) (.call io (.cons (.call il (.cons (.tup (.cons (.cst (.int 0)) (.cons (.cst (.int 1)) .nil))) (.cons (.var 3) .nil))) (.cons (.tup (.cons (.bin .Add (.var 2) (.cst (.int 1))) (.cons (.cst (.int 1)) .nil))) .nil)))
def BL_bl (it ip ich io il : Nat) : CSs := (.cons (blAsg it ip ich) (.cons (blApp io il) (.cons (.kill [3]) .nil)))
def BD_bl (it ip ich io il : Nat) : CDef := ⟨5, 1, (.cons (.asg (.v 1) (.cell (.lst (.cons (.tup (.cons (.cst (.int 1)) (.cons (.cst (.int 1)) .nil))) .nil)))) (.cons (.for_ (.v 2) (.rng2 (.cst (.int 1)) (.bin .Add (.var 0) (.cst (.int 1)))) (BL_bl it ip ich io il)) (.cons (.ret (.var 1)) .nil)))⟩
theorem bl_loop {Pe : Env2} {it ip ich io il : Nat} {H : Hc} {k : Nat} (ht : TotC Pe.C it) (hl : LessC Pe.C il) (hp : ProdC Pe.C ip) (hc : ChC0 Pe.C ich) (ho : OverC Pe.C io) (m : Nat) : ∀ (i0 : Nat) (fd fd' : List Q2) o2, fd.length = i0 → i0 + m < 900 → blI (List.range' i0 m) fd = some fd' → ∃ o2' o3' o4', forF (evSs Pe (BL_bl it ip ich io il)) (.v 2) [] (natD (List.range' i0 m)) [some (.int (k : Nat)), some (.ref H.length), o2, none, none] (H ++ [.lst (rowD fd)]) = .ok (.nx [some (.int (k : Nat)), some (.ref H.length), o2', o3', o4']) (H ++ [.lst (rowD fd')]) ∧ fd'.length = i0 + m := by
  induction m with
  | zero =>
    intro i0 fd fd' o2 hf _ e
    cases e
    exact ⟨o2, none, none, forF_nil rfl, hf⟩
  | succ m ih =>
    intro i0 fd fd' o2 hf hi e
    rw [List.range'_succ] at e ⊢
    simp only [blI, Option.bind_eq_some_iff] at e
    obtain ⟨cs, e0, t, e1, u, e2, q, e3, e4⟩ := e
    obtain ⟨o2', o3', o4', r, rl⟩ := ih (i0 + 1) (fd ++ [q]) fd' (some (.int (i0 : Nat))) (by simp [hf]) (by omega) e4
    have hb : evSs Pe (BL_bl it ip ich io il) (sB k H.length i0 none none) (H ++ [.lst (rowD fd)]) = .ok (.nx (sB k H.length i0 none none)) (H ++ [.lst (rowD (fd ++ [q]))]) := by
      unfold BL_bl
      have key := compF_mapM (fe := evE Pe.C (.call ip (.cons (.tup (.cons (.call ich (.cons (.bin .Add (.var 2) (.cst (.int 1))) (.cons (.var 4) .nil))) (.cons (.cst (.int 1)) .nil))) (.cons (.idx (.var 1) (.var 4)) .nil)))) (fc := condR true (evE Pe.C .absent)) (t := .v 4) (σ := cwipe (sB k H.length i0 none none) [4]) (h := H ++ [.lst (rowD fd)]) qD _ _ cs e0 (fun j hj q hq => by
        rw [List.mem_range] at hj
        simp only [Option.bind_eq_some_iff] at hq
        obtain ⟨c, q1, q2⟩ := hq
        have ea : evE Pe.C (.bin .Add (.var 2) (.cst (.int 1))) (sB k H.length i0 none (some (.int (j : Nat)))) (H ++ [.lst (rowD fd)]) = .ok (.int ((i0 + 1 : Nat) : Int)) (H ++ [.lst (rowD fd)]) := ev_bin (op := .Add) (ev_var rfl) ev_cst rfl
        exact ⟨sB k H.length i0 none (some (.int (j : Nat))), rfl, rfl, (ev_c2 (ev_t2 ((ev_c2 ea (ev_var rfl)).trans (hc (i0 + 1) j c _ q1 (by omega) (by omega))) ev_cst) (ev_idx (ev_var rfl) (ev_var rfl) (idx_cell (by omega)))).trans (hp (c, 1) _ q _ q2)⟩)
      have s1 : evS Pe (blAsg it ip ich) (sB k H.length i0 none none) (H ++ [.lst (rowD fd)]) = .ok (.nx (sB k H.length i0 (some (qD t)) none)) (H ++ [.lst (rowD fd)]) :=
        asgV (i := 3) ((ev_c1 (ev_comp1 (ev_var rfl) (by omega) key)).trans (ht cs t _ e1).1)
      have s3 : evS Pe (blApp io il) (sB k H.length i0 (some (qD t)) none) (H ++ [.lst (rowD fd)]) = .ok (.nx (sB k H.length i0 (some (qD t)) none)) (H ++ [.lst (rowD (fd ++ [q]))]) := by
        have ev : evE Pe.C (.call io (.cons (.call il (.cons (.tup (.cons (.cst (.int 0)) (.cons (.cst (.int 1)) .nil))) (.cons (.var 3) .nil))) (.cons (.tup (.cons (.bin .Add (.var 2) (.cst (.int 1))) (.cons (.cst (.int 1)) .nil))) .nil))) (sB k H.length i0 (some (qD t)) none) (H ++ [.lst (rowD fd)]) = .ok (qD q) (H ++ [.lst (rowD fd)]) :=
          (ev_c2 ((ev_c2 (ev_t2 ev_cst ev_cst) (ev_var rfl)).trans (hl z2 t u _ e2)) (ev_t2 (ev_bin (op := .Add) (ev_var rfl) ev_cst rfl) ev_cst)).trans (ho u ((i0 : Int) + 1, 1) q _ e3)
        have := appE (P := Pe) (o := .var 1) (n := H.length) (xs := rowD fd) (ev_var (by rfl)) cell_at ev cell_at (by rw [rowD, List.length_map]; unfold line; omega)
        rw [cell_set] at this
        rw [show rowD (fd ++ [q]) = rowD fd ++ [qD q] from by rw [rowD, List.map_append]; rfl]
        exact this
      rw [seqN s1, seqN s3]
      simp only [ES]; all_goals rfl
    exact ⟨o2', o3', o4', (forF_cons (xs := natD (List.range' (i0 + 1) m)) rfl rfl hb).trans r, by omega⟩
theorem run_bl {P : Pg} {i it ip ich io il n : Nat} (hd : P.defs[i]? = some (BD_bl it ip ich io il)) (ht : TotC (callN P n) it) (hl : LessC (callN P n) il) (hp : ProdC (callN P n) ip) (hc : ChC0 (callN P n) ich) (ho : OverC (callN P n) io) {k : Nat} {q : Q2} {H : Hc} (hk : k < 800) (e : bernL k = some q) :
    ∃ fd, callN P (n + 1) i [.int (k : Nat)] H = .ok (.ref H.length) (H ++ [.lst (rowD fd)]) ∧ k < fd.length ∧ fd.getD k z2 = q := by
  unfold bernL at e
  rw [Option.map_eq_some_iff] at e
  obtain ⟨fd, e1, e2⟩ := e
  obtain ⟨o2, o3, o4, r, rl⟩ := bl_loop (Pe := ⟨callN P n, P.sub⟩) (H := H) (k := k) ht hl hp hc ho k 1 [(1, 1)] fd none rfl (by omega) e1
  refine ⟨fd, ?_, by omega, e2⟩
  rw [call_rt0 (d := BD_bl it ip ich io il) (b := (BD_bl it ip ich io il).body) (σ := [some (.int (k : Nat)), none, none, none, none]) (v := .ref H.length) (h' := H ++ [.lst (rowD fd)]) hd rfl rfl rfl]
  · exact finR_ref
  · refine (seqN (σ' := [some (.int (k : Nat)), some (.ref H.length), none, none, none]) (h' := H ++ [.lst (rowD [(1, 1)])]) (asgV (i := 1) (ev_cell (ev_lst (ev_cons (ev_t2 ev_cst ev_cst) ev_nil))))).trans ?_
    refine (seqN (σ' := [some (.int (k : Nat)), some (.ref H.length), o2, o3, o4]) (h' := H ++ [.lst (rowD fd)]) ?_).trans (seqR (retE (ev_var rfl)))
    have el : evE (callN P n) (.bin .Add (.var 0) (.cst (.int 1))) [some (.int (k : Nat)), some (.ref H.length), none, none, none] (H ++ [.lst (rowD [(1, 1)])]) = .ok (.int ((k + 1 : Nat) : Int)) (H ++ [.lst (rowD [(1, 1)])]) := ev_bin (op := .Add) (ev_var rfl) ev_cst rfl
    rw [forR2 (P := ⟨callN P n, P.sub⟩) ev_cst el rfl (smallI_nat (by omega))]
    have : rngD 1 1 (((k + 1 : Nat) : Int) - 1).toNat = natD (List.range' 1 k) := by
      rw [show (((k + 1 : Nat) : Int) - 1).toNat = k by omega]
      exact rngD_nat k 1
    rw [this]
    exact r
end Cl

namespace Cl
open PySem PySem.Spec PyProof.Rows L2
theorem bits_small {x : Int} (h : x.natAbs < 2 ^ 62) : bitsI x ≤ 64 := by
  unfold bitsI Builtin.Int.intBits
  by_cases h0 : x.natAbs = 0
  · simp only [h0]; split <;> decide
  · have := (Nat.log2_lt h0).mpr h
    split <;> omega
theorem mul_small {h : Hc} {a b : Int} (ha : a.natAbs < 2 ^ 62) : binF h .Mult (.int a) (.int b) = some (.int (a * b)) := by
  simp only [binF, mulF]
  rw [if_pos (mulOk_l (bits_small ha))]
/-! ### the numbers of smooth curves -/
def smLoop (g : Nat) : List Nat → Q2 → Option Q2
  | [], q => some q
  | k :: ks, q => (prodM q (2 - 2 * (g : Int) - (k : Nat), 1)).bind (smLoop g ks)
def smP (g n : Nat) : Option Q2 :=
  if g = 0 then smLoop g (List.range' 3 (n - 3)) (1, 1)
  else if g = 1 then smLoop g (List.range' 1 (n - 1)) (-1, 12)
  else (bernP (2 * g)).bind fun b => (lowM 1 (((2 * g : Nat) : Int) * (((2 * g : Nat) : Int) - 2))).bind fun r => (prodM b r).bind fun q => smLoop g (List.range' 0 n) q
def smL (g n : Nat) : Option Q2 :=
  if g = 0 then smLoop g (List.range' 3 (n - 3)) (1, 1)
  else if g = 1 then smLoop g (List.range' 1 (n - 1)) (-1, 12)
  else (bernL (2 * g)).bind fun b => (overM b (((2 * g : Nat) : Int) * (((2 * g : Nat) : Int) - 2), 1)).bind fun q => smLoop g (List.range' 0 n) q
def BL_sm (ip : Nat) : CSs := (.cons (.asg (.v 2) (.call ip (.cons (.var 2) (.cons (.tup (.cons (.bin .Sub (.bin .Sub (.cst (.int 2)) (.bin .Mult (.cst (.int 2)) (.var 0))) (.var 4)) (.cons (.cst (.int 1)) .nil))) .nil)))) .nil)
def smHead (e : CE) : CS := (.ifs (.cmp .Eq (.var 0) (.cst (.int 0))) (.cons (.asg (.t (.cons (.v 2) (.cons (.v 3) .nil))) (.tup (.cons (.tup (.cons (.cst (.int 1)) (.cons (.cst (.int 1)) .nil))) (.cons (.cst (.int 3)) .nil)))) .nil) (.cons (.ifs (.cmp .Eq (.var 0) (.cst (.int 1))) (.cons (.asg (.t (.cons (.v 2) (.cons (.v 3) .nil))) (.tup (.cons (.tup (.cons (.neg (.cst (.int 1))) (.cons (.cst (.int 12)) .nil))) (.cons (.cst (.int 1)) .nil)))) .nil) (.cons (.asg (.t (.cons (.v 2) (.cons (.v 3) .nil))) (.tup (.cons e (.cons (.cst (.int 0)) .nil)))) .nil)) .nil))
def smRest (ip : Nat) : CSs := (.cons (.for_ (.v 4) (.rng2 (.var 3) (.var 1)) (BL_sm ip)) (.cons (.ret (.var 2)) .nil))
def e2g : CE := .bin .Mult (.cst (.int 2)) (.var 0)
def smEP (ip ibn irt : Nat) : CE := .call ip (.cons (.call ibn (.cons e2g .nil)) (.cons (.call irt (.cons (.cst (.int 1)) (.cons (.bin .Mult e2g (.bin .Sub e2g (.cst (.int 2)))) .nil))) .nil))
def smEL (io ibl : Nat) : CE := .call io (.cons (.idx (.call ibl (.cons e2g .nil)) e2g) (.cons (.tup (.cons (.bin .Mult e2g (.bin .Sub e2g (.cst (.int 2)))) (.cons (.cst (.int 1)) .nil))) .nil))
def BD_smP (ip ibn irt : Nat) : CDef := ⟨5, 2, .cons (smHead (smEP ip ibn irt)) (smRest ip)⟩
def BD_smL (ip io ibl : Nat) : CDef := ⟨5, 2, .cons (smHead (smEL io ibl)) (smRest ip)⟩
section
variable {Pe : Env2} {ip : Nat} {g n : Nat}
theorem sm_loop (hp : ProdC Pe.C ip) {d3 : Option D} {H : Hc} (hg : g ≤ 6) (ks : List Nat) : ∀ (q q' : Q2) o4, smLoop g ks q = some q' → ∃ o4', forF (evSs Pe (BL_sm ip)) (.v 4) [] (natD ks) [some (.int (g : Nat)), some (.int (n : Nat)), some (qD q), d3, o4] H = .ok (.nx [some (.int (g : Nat)), some (.int (n : Nat)), some (qD q'), d3, o4']) H := by
  induction ks with
  | nil => intro q q' o4 e; cases e; exact ⟨o4, forF_nil rfl⟩
  | cons k ks ih =>
    intro q q' o4 e
    simp only [smLoop, Option.bind_eq_some_iff] at e
    obtain ⟨q1, e1, e2⟩ := e
    obtain ⟨o4', ih⟩ := ih q1 q' (some (.int (k : Nat))) e2
    have hb : evSs Pe (BL_sm ip) [some (.int (g : Nat)), some (.int (n : Nat)), some (qD q), d3, some (.int (k : Nat))] H = .ok (.nx [some (.int (g : Nat)), some (.int (n : Nat)), some (qD q1), d3, some (.int (k : Nat))]) H := by
      unfold BL_sm
      refine (seqN (asgV (i := 2) ((ev_c2 (ev_var rfl) (ev_t2 (ev_bin (op := .Sub) (ev_bin (op := .Sub) ev_cst (ev_bin (op := .Mult) ev_cst (ev_var rfl) (mul_small (by decide))) rfl) (ev_var rfl) rfl) ev_cst)).trans (hp _ _ _ _ e1)))).trans ?_
      simp only [ES]; all_goals rfl
    exact ⟨o4', (forF_cons (xs := natD ks) rfl rfl hb).trans ih⟩
theorem sm_rest (hp : ProdC Pe.C ip) {H : Hc} (hg : g ≤ 6) (hn : n ≤ 1000) {st : Nat} (hst : st ≤ 3) {q q' : Q2} (e : smLoop g (List.range' st (n - st)) q = some q') : evSs Pe (smRest ip) [some (.int (g : Nat)), some (.int (n : Nat)), some (qD q), some (.int (st : Nat)), none] H = .ok (.rt (qD q')) H := by
  obtain ⟨o4, r⟩ := sm_loop (Pe := Pe) (n := n) (d3 := some (.int (st : Nat))) (H := H) hp hg _ q q' none e
  unfold smRest
  refine (seqN (σ' := [some (.int (g : Nat)), some (.int (n : Nat)), some (qD q'), some (.int (st : Nat)), o4]) (h' := H) ?_).trans (seqR (retE (ev_var rfl)))
  have e1 : evE Pe.C (.var 3) [some (.int (g : Nat)), some (.int (n : Nat)), some (qD q), some (.int (st : Nat)), none] H = .ok (.int (st : Nat)) H := ev_var rfl
  have e2 : evE Pe.C (.var 1) [some (.int (g : Nat)), some (.int (n : Nat)), some (qD q), some (.int (st : Nat)), none] H = .ok (.int (n : Nat)) H := ev_var rfl
  rw [forR2 e1 e2 (smallI_nat (by omega)) (smallI_nat (by omega))]
  rw [show ((n : Int) - (st : Nat)).toNat = n - st by omega, rngD_nat]
  exact r
theorem sm_head {e : CE} {H H' : Hc} {q : Q2} {st : Nat} (h : (g = 0 ∧ q = (1, 1) ∧ st = 3 ∧ H' = H) ∨ (g = 1 ∧ q = (-1, 12) ∧ st = 1 ∧ H' = H) ∨ (2 ≤ g ∧ st = 0 ∧ evE Pe.C e [some (.int (g : Nat)), some (.int (n : Nat)), none, none, none] H = .ok (qD q) H')) :
    evS Pe (smHead e) [some (.int (g : Nat)), some (.int (n : Nat)), none, none, none] H = .ok (.nx [some (.int (g : Nat)), some (.int (n : Nat)), some (qD q), some (.int (st : Nat)), none]) H' := by
  have c0 : evE Pe.C (.cmp .Eq (.var 0) (.cst (.int 0))) [some (.int (g : Nat)), some (.int (n : Nat)), none, none, none] H = .ok (.bl (decide ((g : Int) = 0))) H := ev_cmp (ev_var rfl) ev_cst rfl
  have c1 : evE Pe.C (.cmp .Eq (.var 0) (.cst (.int 1))) [some (.int (g : Nat)), some (.int (n : Nat)), none, none, none] H = .ok (.bl (decide ((g : Int) = 1))) H := ev_cmp (ev_var rfl) ev_cst rfl
  unfold smHead
  rcases h with ⟨rfl, rfl, rfl, rfl⟩ | ⟨rfl, rfl, rfl, rfl⟩ | ⟨h2, rfl, he⟩
  · rw [ifT (by rw [c0]; rfl)]
    refine (seqN (asgE (ev_t2 (ev_t2 ev_cst ev_cst) ev_cst) rfl)).trans ?_
    simp only [ES]; all_goals rfl
  · rw [ifF (by rw [c0]; rfl)]
    refine (seqN (σ' := [some (.int 1), some (.int (n : Nat)), some (qD (-1, 12)), some (.int 1), none]) (h' := H') ?_).trans ?_
    · rw [ifT (by rw [c1]; rfl)]
      refine (seqN (asgE (ev_t2 (ev_t2 (ev_neg ev_cst) ev_cst) ev_cst) rfl)).trans ?_
      simp only [ES]; all_goals rfl
    · simp only [ES]; all_goals rfl
  · rw [ifF (by rw [c0, decide_eq_false (by omega)])]
    refine (seqN (σ' := [some (.int (g : Nat)), some (.int (n : Nat)), some (qD q), some (.int 0), none]) (h' := H') ?_).trans ?_
    · rw [ifF (by rw [c1, decide_eq_false (by omega)])]
      refine (seqN (asgE (ev_t2 he ev_cst) rfl)).trans ?_
      simp only [ES]; all_goals rfl
    · simp only [ES]; all_goals rfl
end
theorem ev_2g {C : Caller} {σ : CSt} {h : Hc} {g : Nat} (e : σ[0]? = some (some (.int (g : Nat)))) : evE C e2g σ h = .ok (.int ((2 * g : Nat) : Int)) h := ev_bin (op := .Mult) ev_cst (ev_var e) (by rw [mul_small (by decide)]; congr 2)
theorem ev_22 {C : Caller} {σ : CSt} {h : Hc} {g : Nat} (hg : g ≤ 6) (e : σ[0]? = some (some (.int (g : Nat)))) : evE C (.bin .Mult e2g (.bin .Sub e2g (.cst (.int 2)))) σ h = .ok (.int (((2 * g : Nat) : Int) * (((2 * g : Nat) : Int) - 2))) h := ev_bin (op := .Mult) (ev_2g e) (ev_bin (op := .Sub) (ev_2g e) ev_cst rfl) (mul_small (by omega))
section
variable {P : Pg} {i ip ibn irt io ibl n : Nat}
theorem run_smP (hd : P.defs[i]? = some (BD_smP ip ibn irt)) (hp : ProdC (callN P n) ip) (hbn : ∀ (k : Nat) (q : Q2) (H : Hc), k < 800 → bernP k = some q → callN P n ibn [.int (k : Nat)] H = .ok (qD q) H) (hrt : RtC (callN P n) irt) : SmC (callN P (n + 1)) i smP := by
  intro g m q H e d
  have hg := d.g6
  have hm := d.n20
  refine call_rtp (d := BD_smP ip ibn irt) (b := (BD_smP ip ibn irt).body) (σ := [some (.int (g : Nat)), some (.int (m : Nat)), none, none, none]) hd rfl rfl rfl ?_
  unfold smP at e
  by_cases h0 : g = 0
  · rw [if_pos h0] at e
    exact (seqN (sm_head (.inl ⟨h0, rfl, rfl, rfl⟩))).trans (sm_rest (Pe := ⟨callN P n, P.sub⟩) hp hg (by omega) (by omega) e)
  · rw [if_neg h0] at e
    by_cases h1 : g = 1
    · rw [if_pos h1] at e
      exact (seqN (sm_head (.inr (.inl ⟨h1, rfl, rfl, rfl⟩)))).trans (sm_rest (Pe := ⟨callN P n, P.sub⟩) hp hg (by omega) (by omega) e)
    · rw [if_neg h1] at e
      simp only [Option.bind_eq_some_iff] at e
      obtain ⟨b, e1, r, e2, u, e3, e4⟩ := e
      have he : evE (callN P n) (smEP ip ibn irt) [some (.int (g : Nat)), some (.int (m : Nat)), none, none, none] H = .ok (qD u) H :=
        (ev_c2 ((ev_c1 (ev_2g rfl)).trans (hbn _ _ _ (by omega) e1)) ((ev_c2 ev_cst (ev_22 hg rfl)).trans (hrt 1 _ r _ (by
          have h1' : (4 : Int) ≤ ((2 * g : Nat) : Int) := by omega
          have h2' : (2 : Int) ≤ ((2 * g : Nat) : Int) - 2 := by omega
          have := Int.mul_le_mul h1' h2' (by omega) (by omega)
          omega) e2))).trans (hp _ _ _ _ e3)
      exact (seqN (sm_head (Pe := ⟨callN P n, P.sub⟩) (.inr (.inr ⟨by omega, rfl, he⟩)))).trans (sm_rest (Pe := ⟨callN P n, P.sub⟩) hp hg (by omega) (by omega) (by rw [Nat.sub_zero]; exact e4))
theorem run_smL (hd : P.defs[i]? = some (BD_smL ip io ibl)) (hp : ProdC (callN P n) ip) (ho : OverC (callN P n) io) (hbl : ∀ (k : Nat) (q : Q2) (H : Hc), k < 800 → bernL k = some q → ∃ fd, callN P n ibl [.int (k : Nat)] H = .ok (.ref H.length) (H ++ [.lst (rowD fd)]) ∧ k < fd.length ∧ fd.getD k z2 = q) : SmC (callN P (n + 1)) i smL := by
  intro g m q H e d
  have hg := d.g6
  have hm := d.n20
  unfold smL at e
  by_cases h0 : g = 0
  · rw [if_pos h0] at e
    refine call_rtp (d := BD_smL ip io ibl) (b := (BD_smL ip io ibl).body) (σ := [some (.int (g : Nat)), some (.int (m : Nat)), none, none, none]) hd rfl rfl rfl ?_
    exact (seqN (sm_head (.inl ⟨h0, rfl, rfl, rfl⟩))).trans (sm_rest (Pe := ⟨callN P n, P.sub⟩) hp hg (by omega) (by omega) e)
  · rw [if_neg h0] at e
    by_cases h1 : g = 1
    · rw [if_pos h1] at e
      refine call_rtp (d := BD_smL ip io ibl) (b := (BD_smL ip io ibl).body) (σ := [some (.int (g : Nat)), some (.int (m : Nat)), none, none, none]) hd rfl rfl rfl ?_
      exact (seqN (sm_head (.inr (.inl ⟨h1, rfl, rfl, rfl⟩)))).trans (sm_rest (Pe := ⟨callN P n, P.sub⟩) hp hg (by omega) (by omega) e)
    · rw [if_neg h1] at e
      simp only [Option.bind_eq_some_iff] at e
      obtain ⟨b, e1, u, e3, e4⟩ := e
      obtain ⟨fd, c1, c2, c3⟩ := hbl _ _ H (by omega) e1
      have hix : idxF (H ++ [.lst (rowD fd)]) (.ref H.length) (.int ((2 * g : Nat) : Int)) = some (qD b) := by rw [← c3]; exact idx_cell c2
      have he : evE (callN P n) (smEL io ibl) [some (.int (g : Nat)), some (.int (m : Nat)), none, none, none] H = .ok (qD u) (H ++ [.lst (rowD fd)]) :=
        (ev_c2 (ev_idx ((ev_c1 (ev_2g rfl)).trans c1) (ev_2g rfl) hix) (ev_t2 (ev_22 hg rfl) ev_cst)).trans (ho _ (_, 1) _ _ e3)
      refine call_rt (t := [.lst (rowD fd)]) (d := BD_smL ip io ibl) (b := (BD_smL ip io ibl).body) (σ := [some (.int (g : Nat)), some (.int (m : Nat)), none, none, none]) hd rfl rfl rfl (low_plain rfl) ?_
      exact (seqN (sm_head (Pe := ⟨callN P n, P.sub⟩) (.inr (.inr ⟨by omega, rfl, he⟩)))).trans (sm_rest (Pe := ⟨callN P n, P.sub⟩) hp hg (by omega) (by omega) (by rw [Nat.sub_zero]; exact e4))
end
end Cl

namespace Cl
open PySem PySem.Spec PyProof.Rows L2
/-! ### fractions for the kernel: sign, numerator, denominator -/
structure FQ where
  s : Bool
  n : Nat
  d : Nat
def fB : Nat := 2 ^ 4000
def FQ.to (a : FQ) : Q2 := (cond a.s (-(a.n : Int)) (a.n : Int), (a.d : Int))
/-- sign and size of a sum of signed sizes -/
def sgn (s t : Bool) (x y : Nat) : Bool := cond (Bool.xor s t) (cond (Nat.ble y x) s t) s
def mag (s t : Bool) (x y : Nat) : Nat := cond (Bool.xor s t) (cond (Nat.ble y x) (x - y) (y - x)) (x + y)
def fLow (s : Bool) (n d : Nat) : FQ := ⟨s, n / Nat.gcd n d, d / Nat.gcd n d⟩
def fSum (a b : FQ) : Option FQ :=
  cond (Nat.ble (a.n * b.d + b.n * a.d + a.d * b.d) fB && Nat.ble 1 (a.d * b.d))
    (some (fLow (sgn a.s b.s (a.n * b.d) (b.n * a.d)) (mag a.s b.s (a.n * b.d) (b.n * a.d)) (a.d * b.d))) none
def fProd (a b : FQ) : Option FQ :=
  cond (Nat.ble (a.n * b.n + a.d * b.d) fB && Nat.ble 1 (a.d * b.d)) (some (fLow (Bool.xor a.s b.s) (a.n * b.n) (a.d * b.d))) none
def sI (s : Bool) (n : Nat) : Int := cond s (-(n : Int)) (n : Int)
theorem sgn_mag (s t : Bool) (x y : Nat) : sI (sgn s t x y) (mag s t x y) = sI s x + sI t y := by
  unfold sI sgn mag
  cases s <;> cases t <;> simp only [Bool.xor_false, Bool.xor_true, Bool.not_false, Bool.not_true, cond_true, cond_false]
  · omega
  · cases h : Nat.ble y x
    · have : ¬ y ≤ x := fun k => by rw [Nat.ble_eq_true_of_le k] at h; cases h
      simp only [cond_true, cond_false]; omega
    · have := Nat.le_of_ble_eq_true h
      simp only [cond_true, cond_false]; omega
  · cases h : Nat.ble y x
    · have : ¬ y ≤ x := fun k => by rw [Nat.ble_eq_true_of_le k] at h; cases h
      simp only [cond_true, cond_false]; omega
    · have := Nat.le_of_ble_eq_true h
      simp only [cond_true, cond_false]; omega
  · omega
theorem sI_abs (s : Bool) (n : Nat) : (sI s n).natAbs = n := by cases s <;> simp [sI]
theorem fB_log {n : Nat} (h : n ≤ fB) : n.log2 < 4002 := by
  by_cases h0 : n = 0
  · subst h0; decide
  · have h1 : n < 2 ^ 4002 := Nat.lt_of_le_of_lt h (by decide +kernel)
    exact (Nat.log2_lt h0).mpr h1
theorem fLow_low {s : Bool} {n d : Nat} (hn : n ≤ fB) (hd : d ≤ fB) (h0 : 1 ≤ d) : lowM (sI s n) (d : Int) = some (fLow s n d).to := by
  have ln := fB_log hn
  have ld := fB_log hd
  have hg0 : 0 < Nat.gcd n d := Nat.gcd_pos_of_pos_right _ (by omega)
  have hgd : Nat.gcd n d ≤ d := Nat.le_of_dvd (by omega) (Nat.gcd_dvd_right n d)
  have hsg : sgcd (sI s n) (d : Int) = (Nat.gcd n d : Nat) := by
    unfold sgcd
    rw [if_neg (by omega), sI_abs, Int.natAbs_natCast]
  unfold lowM
  rw [if_pos, hsg]
  · congr 1
    unfold fLow FQ.to
    obtain ⟨x, hx⟩ := Nat.gcd_dvd_left n d
    obtain ⟨y, hy⟩ := Nat.gcd_dvd_right n d
    generalize Nat.gcd n d = G at *
    subst hx
    refine Prod.ext ?_ ?_
    · simp only
      rw [Nat.mul_div_cancel_left _ hg0]
      cases s
      · simp only [sI, cond_false]
        rw [Int.fdiv_eq_ediv_of_nonneg _ (by omega), Int.natCast_mul, Int.mul_ediv_cancel_left _ (by omega)]
      · simp only [sI, cond_true]
        rw [Int.fdiv_eq_ediv_of_nonneg _ (by omega), Int.natCast_mul, ← Int.mul_neg, Int.mul_ediv_cancel_left _ (by omega)]
    · simp only
      rw [Int.fdiv_eq_ediv_of_nonneg _ (by omega), Int.natCast_ediv]
  · rw [Bool.and_eq_true]
    constructor
    · unfold smallG
      rw [sI_abs, Int.natAbs_natCast, Bool.and_eq_true, decide_eq_true_eq, decide_eq_true_eq]
      omega
    · rw [hsg]
      unfold divOk
      rw [Bool.and_eq_true, decide_eq_true_eq, decide_eq_true_eq, Int.natAbs_natCast]
      have := fB_log (Nat.le_trans hgd hd)
      omega
theorem bits_log {x : Int} {k : Nat} (h : x.natAbs.log2 < k) : bitsI x ≤ k := by
  unfold bitsI Builtin.Int.intBits
  split <;> omega
theorem mulM_s {s t : Bool} {x y : Nat} (hx : x.log2 < 4002) (hy : y.log2 < 4002) : mulM (sI s x) (sI t y) = some (sI (Bool.xor s t) (x * y)) := by
  unfold mulM
  rw [if_pos]
  · congr 1
    cases s <;> cases t <;> simp [sI, Int.natCast_mul, Int.neg_mul, Int.mul_neg]
  · unfold mulOk
    have h1 := bits_log (x := sI s x) (k := 4002) (by rw [sI_abs]; exact hx)
    have h2 := bits_log (x := sI t y) (k := 4002) (by rw [sI_abs]; exact hy)
    rw [decide_eq_true (show bitsI (sI s x) + bitsI (sI t y) ≤ 134217728 by omega), Bool.or_true]
theorem log_le {a b : Nat} (h : a ≤ b) : a.log2 ≤ b.log2 := by
  by_cases ha : a = 0
  · subst ha
    rw [show Nat.log2 0 = 0 from by decide]; omega
  · have hb : b ≠ 0 := by omega
    exact (Nat.le_log2 hb).mpr (Nat.le_trans (Nat.log2_self_le ha) h)
theorem cond_some {c : Bool} {α : Type} {x : Option α} {y : α} (h : cond c x none = some y) : c = true ∧ x = some y := by
  cases c
  · cases h
  · exact ⟨rfl, h⟩
theorem fac_le {a b c : Nat} (h : a * b ≤ c) (hb : 1 ≤ b) : a ≤ c := Nat.le_trans (Nat.le_mul_of_pos_right a hb) h
theorem pos_of_mul {a b : Nat} (h : 1 ≤ a * b) : 1 ≤ a ∧ 1 ≤ b := by
  constructor
  · cases a with
    | zero => rw [Nat.zero_mul] at h; omega
    | succ a => omega
  · cases b with
    | zero => rw [Nat.mul_zero] at h; omega
    | succ b => omega
theorem fSum_sum {a b c : FQ} (h : fSum a b = some c) : sumM a.to b.to = some c.to := by
  obtain ⟨h1, h2⟩ := cond_some h
  cases h2
  rw [Bool.and_eq_true] at h1
  have hle := Nat.le_of_ble_eq_true h1.1
  have hd := Nat.le_of_ble_eq_true h1.2
  obtain ⟨da, db⟩ := pos_of_mul hd
  have la : a.n.log2 < 4002 := fB_log (fac_le (Nat.le_trans (by omega) hle) db)
  have lb : b.n.log2 < 4002 := fB_log (fac_le (a := b.n) (b := a.d) (Nat.le_trans (by omega) hle) da)
  have lda : a.d.log2 < 4002 := fB_log (fac_le (a := a.d) (b := b.d) (Nat.le_trans (by omega) hle) db)
  have ldb : b.d.log2 < 4002 := fB_log (fac_le (a := b.d) (b := a.d) (Nat.le_trans (by rw [Nat.mul_comm]; omega) hle) da)
  have m1 := mulM_s (s := a.s) (t := false) la ldb
  have m2 := mulM_s (s := b.s) (t := false) lb lda
  have m3 := mulM_s (s := false) (t := false) lda ldb
  unfold sumM
  show (mulM (sI a.s a.n) (sI false b.d)).bind _ = _
  rw [m1, Option.bind_some]
  show (mulM (sI b.s b.n) (sI false a.d)).bind _ = _
  rw [m2, Option.bind_some]
  show (mulM (sI false a.d) (sI false b.d)).bind _ = _
  rw [m3, Option.bind_some]
  simp only [Bool.xor_false]
  rw [← sgn_mag]
  have hm : mag a.s b.s (a.n * b.d) (b.n * a.d) ≤ a.n * b.d + b.n * a.d := by
    unfold mag
    cases Bool.xor a.s b.s
    · exact Nat.le_refl _
    · cases Nat.ble (b.n * a.d) (a.n * b.d) <;> simp only [cond_true, cond_false] <;> omega
  exact fLow_low (by omega) (by omega) hd
theorem fProd_prod {a b c : FQ} (h : fProd a b = some c) : prodM a.to b.to = some c.to := by
  obtain ⟨h1, h2⟩ := cond_some h
  cases h2
  rw [Bool.and_eq_true] at h1
  have hle := Nat.le_of_ble_eq_true h1.1
  have hd := Nat.le_of_ble_eq_true h1.2
  obtain ⟨da, db⟩ := pos_of_mul hd
  have lda : a.d.log2 < 4002 := fB_log (fac_le (a := a.d) (b := b.d) (Nat.le_trans (by omega) hle) db)
  have ldb : b.d.log2 < 4002 := fB_log (fac_le (a := b.d) (b := a.d) (Nat.le_trans (by rw [Nat.mul_comm]; omega) hle) da)
  unfold prodM
  by_cases h0 : 1 ≤ a.n * b.n
  · obtain ⟨na, nb⟩ := pos_of_mul h0
    have la : a.n.log2 < 4002 := fB_log (fac_le (a := a.n) (b := b.n) (Nat.le_trans (by omega) hle) nb)
    have lb : b.n.log2 < 4002 := fB_log (fac_le (a := b.n) (b := a.n) (Nat.le_trans (by rw [Nat.mul_comm]; omega) hle) na)
    show (mulM (sI a.s a.n) (sI b.s b.n)).bind _ = _
    rw [mulM_s la lb, Option.bind_some]
    show (mulM (sI false a.d) (sI false b.d)).bind _ = _
    rw [mulM_s lda ldb, Option.bind_some]
    exact fLow_low (by omega) (by omega) hd
  · have hz : a.n = 0 ∨ b.n = 0 := Nat.mul_eq_zero.mp (by omega)
    have hm : mulM (sI a.s a.n) (sI b.s b.n) = some (sI (Bool.xor a.s b.s) (a.n * b.n)) := by
      have e : sI a.s a.n * sI b.s b.n = sI (Bool.xor a.s b.s) (a.n * b.n) := by
        cases a.s <;> cases b.s <;> simp [sI, Int.natCast_mul, Int.neg_mul, Int.mul_neg]
      unfold mulM
      rw [if_pos, e]
      have z : ∀ (s : Bool), bitsI (sI s 0) ≤ 64 := fun s => by cases s <;> decide
      rcases hz with hz | hz
      · rw [hz]; exact mulOk_l (z _)
      · rw [hz]; exact mulOk_r (z _)
    show (mulM (sI a.s a.n) (sI b.s b.n)).bind _ = _
    rw [hm, Option.bind_some]
    show (mulM (sI false a.d) (sI false b.d)).bind _ = _
    rw [mulM_s lda ldb, Option.bind_some]
    exact fLow_low (by omega) (by omega) hd
/-! ### rows of these -/
abbrev rowQ (f : List FQ) : List Q2 := f.map FQ.to
def fz : FQ := ⟨false, 0, 1⟩
theorem fz_to : fz.to = z2 := rfl
theorem getD_to {f : List FQ} {i : Nat} : (rowQ f).getD i z2 = (f.getD i fz).to := by
  rw [List.getD_eq_getElem?_getD, List.getD_eq_getElem?_getD, List.getElem?_map]
  cases f[i]? <;> rfl
/-- add p into the i-th place and on -/
def fJ (a : FQ) (G r : List FQ) : Option (List FQ) :=
  match G with
  | [] => some r
  | b :: G => match r with
    | [] => none
    | x :: r => match fProd a b with
      | none => none
      | some p => match fSum x p with
        | none => none
        | some s => match fJ a G r with
          | none => none
          | some r => some (s :: r)
/-- the rows of F one after another, each a place further on -/
def fI (F G r : List FQ) : Option (List FQ) :=
  match F with
  | [] => some r
  | a :: F => match fJ a G r with
    | none => none
    | some [] => (match F with | [] => some [] | _ => none)
    | some (x :: r) => match fI F G r with
      | none => none
      | some r => some (x :: r)
def fRowProd (F G : List FQ) : Option (List FQ) := fI F G (List.replicate (F.length + G.length - 1) fz)
end Cl

namespace Cl
open PySem PySem.Spec PyProof.Rows L2
/-! ### the fast rows are the rows -/
theorem fJ_rp {F' G' : List Q2} {i : Nat} {a : FQ} (ha : F'.getD i z2 = a.to) : ∀ (Gs rs rs' pre : List FQ) (j0 : Nat), fJ a Gs rs = some rs' → pre.length = i + j0 → (∀ k b, Gs[k]? = some b → G'.getD (j0 + k) z2 = b.to) → rpJ F' G' i (List.range' j0 Gs.length) (rowQ (pre ++ rs)) = some (rowQ (pre ++ rs'))
  | [], rs, rs', pre, j0, e, _, _ => by cases e; rfl
  | b :: Gs, rs, rs', pre, j0, e, hp, hG => by
    cases rs with
    | nil => cases e
    | cons x r =>
      unfold fJ at e
      simp only at e
      split at e
      · cases e
      · rename_i p e1
        split at e
        · cases e
        · rename_i s e2
          split at e
          · cases e
          · rename_i r1 e3
            cases e
            have hb := hG 0 b rfl
            rw [Nat.add_zero] at hb
            rw [List.length_cons, List.range'_succ]
            have hx : (rowQ (pre ++ x :: r)).getD (i + j0) z2 = x.to := by
              rw [getD_to, ← hp, List.getD_eq_getElem?_getD, List.getElem?_append_right (Nat.le_refl _), Nat.sub_self]
              rfl
            have hset : (rowQ (pre ++ x :: r)).set (i + j0) s.to = rowQ ((pre ++ [s]) ++ r) := by
              rw [← hp, rowQ, List.map_append, List.set_append_right _ _ (by rw [List.length_map]; exact Nat.le_refl _), List.length_map, Nat.sub_self, List.append_assoc, rowQ, List.map_append]
              rfl
            have ih := fJ_rp ha Gs r r1 (pre ++ [s]) (j0 + 1) e3 (by rw [List.length_append, hp]; rfl) (fun k c hk => by
              have := hG (k + 1) c hk
              rw [show j0 + 1 + k = j0 + (k + 1) by omega]; exact this)
            simp only [rpJ]
            rw [ha, hb, fProd_prod e1, Option.bind_some, hx, fSum_sum e2, Option.bind_some, hset, ih, List.append_assoc]
            rfl
theorem fI_rp {F' G' : List Q2} {G : List FQ} (hG : ∀ k b, G[k]? = some b → G'.getD k z2 = b.to) (hGl : G'.length = G.length) : ∀ (Fs rs rs' pre : List FQ) (i0 : Nat), fI Fs G rs = some rs' → pre.length = i0 → (∀ k b, Fs[k]? = some b → F'.getD (i0 + k) z2 = b.to) → rpI F' G' (List.range' i0 Fs.length) (rowQ (pre ++ rs)) = some (rowQ (pre ++ rs'))
  | [], rs, rs', pre, i0, e, _, _ => by cases e; rfl
  | a :: Fs, rs, rs', pre, i0, e, hp, hF => by
    have ha := hF 0 a rfl
    rw [Nat.add_zero] at ha
    have step : ∀ r1, fJ a G rs = some r1 → rpJ F' G' i0 (List.range G'.length) (rowQ (pre ++ rs)) = some (rowQ (pre ++ r1)) := fun r1 e1 => by
      rw [hGl, List.range_eq_range']
      exact fJ_rp ha G rs r1 pre 0 e1 (by omega) (fun k b hk => by rw [Nat.zero_add]; exact hG k b hk)
    unfold fI at e
    rw [List.length_cons, List.range'_succ]
    simp only [rpI]
    split at e
    · cases e
    · rename_i e1
      split at e
      · cases e
        rw [step _ e1, Option.bind_some]
        rfl
      · cases e
    · rename_i x r e1
      split at e
      · cases e
      · rename_i r2 e2
        cases e
        rw [step _ e1, Option.bind_some]
        have ih := fI_rp hG hGl Fs r r2 (pre ++ [x]) (i0 + 1) e2 (by rw [List.length_append, hp]; rfl) (fun k b hk => by
          have := hF (k + 1) b hk
          rw [show i0 + 1 + k = i0 + (k + 1) by omega]; exact this)
        rw [List.append_assoc, List.append_assoc] at ih
        exact ih
theorem get_row {F : List FQ} {k : Nat} {b : FQ} (h : F[k]? = some b) : (rowQ F).getD k z2 = b.to := by
  rw [getD_to, List.getD_eq_getElem?_getD, h]; rfl
theorem fRow_row {F G R : List FQ} (e : fRowProd F G = some R) : rowProd (rowQ F) (rowQ G) = some (rowQ R) := by
  have := fI_rp (F' := rowQ F) (G' := rowQ G) (G := G) (fun k b h => get_row h) (List.length_map ..) F _ R [] 0 e rfl (fun k b h => by rw [Nat.zero_add]; exact get_row h)
  rw [List.nil_append, List.nil_append] at this
  unfold rowProd
  rw [List.length_map, List.length_map, List.range_eq_range', show List.replicate (F.length + G.length - 1) z2 = rowQ (List.replicate (F.length + G.length - 1) fz) from by rw [rowQ, List.map_replicate]; rfl]
  exact this
def fRS (c : FQ) : Nat → List FQ → List FQ → Option (List FQ)
  | 0, _, _ => some []
  | n + 1, F, G => match fProd c (G.headD fz) with
    | none => none
    | some p => match fSum (F.headD fz) p with
      | none => none
      | some s => match fRS c n F.tail G.tail with
        | none => none
        | some r => some (s :: r)
theorem getD_tail {F : List FQ} {j : Nat} : F.tail.getD j fz = F.getD (j + 1) fz := by cases F <;> simp
theorem getD_head {F : List FQ} : F.getD 0 fz = F.headD fz := by cases F <;> rfl
theorem fRS_rs {c : FQ} {F' G' : List Q2} : ∀ (n : Nat) (F G R : List FQ) (k : Nat), fRS c n F G = some R → (∀ j, F'.getD (k + j) z2 = (F.getD j fz).to) → (∀ j, G'.getD (k + j) z2 = (G.getD j fz).to) → mapMO (rsE F' G' c.to) (List.range' k n) = some (rowQ R)
  | 0, F, G, R, k, e, _, _ => by cases e; rfl
  | n + 1, F, G, R, k, e, hF, hG => by
    unfold fRS at e
    split at e
    · cases e
    · rename_i p e1
      split at e
      · cases e
      · rename_i s e2
        split at e
        · cases e
        · rename_i r e3
          cases e
          have hF0 := hF 0
          have hG0 := hG 0
          rw [Nat.add_zero, getD_head] at hF0 hG0
          have ih := fRS_rs n F.tail G.tail r (k + 1) e3 (fun j => by rw [getD_tail, ← hF (j + 1)]; congr 1; omega) (fun j => by rw [getD_tail, ← hG (j + 1)]; congr 1; omega)
          rw [List.range'_succ]
          simp only [mapMO]
          rw [show rsE F' G' c.to k = some s.to from by unfold rsE; rw [hG0, hF0, fProd_prod e1, Option.bind_some, fSum_sum e2], Option.bind_some, ih]
          rfl
def fRowSum (F G : List FQ) (c : FQ) : Option (List FQ) := fRS c (Nat.max F.length G.length) F G
theorem fRowSum_sum {F G R : List FQ} {c : FQ} (e : fRowSum F G c = some R) : rowSum (rowQ F) (rowQ G) c.to = some (rowQ R) := by
  unfold rowSum
  rw [List.length_map, List.length_map, List.range_eq_range']
  exact fRS_rs _ F G R 0 e (fun j => by rw [Nat.zero_add]; exact getD_to) (fun j => by rw [Nat.zero_add]; exact getD_to)
/-! ### one step of the table -/
def fCutIn (TT : Nat → Nat → List FQ) (hf : Nat → Nat → FQ) (g n a : Nat) : List Nat → List FQ → Option (List FQ)
  | [], s => some s
  | i :: is, s => match (cond (cnd g n a i) (match fRowProd (TT a (i + 1)) (TT (g - a) (n - i + 1)) with | none => none | some b => fRowSum s b (hf n i)) (some s)) with
    | none => none
    | some s => fCutIn TT hf g n a is s
def fCutOut (TT : Nat → Nat → List FQ) (hf : Nat → Nat → FQ) (g n : Nat) : List Nat → List FQ → Option (List FQ)
  | [], s => some s
  | a :: as, s => match fCutIn TT hf g n a (List.range (n + 1)) s with
    | none => none
    | some s => fCutOut TT hf g n as s
def fEnd : Nat → List FQ → Option (List FQ)
  | _, [] => some []
  | k, x :: xs => match fProd x ⟨false, 1, k + 1⟩ with
    | none => none
    | some q => match fEnd (k + 1) xs with
      | none => none
      | some r => some (q :: r)
def fStep (TT : Nat → Nat → List FQ) (hf : Nat → Nat → FQ) (g n : Nat) : Option (List FQ) :=
  match (match g with | 0 => some [fz] | g' + 1 => fRowSum [fz] (TT g' (n + 2)) ⟨false, 1, 2⟩) with
  | none => none
  | some s => match fCutOut TT hf g n (List.range (g + 1)) s with
    | none => none
    | some s => fEnd 0 s
section
variable {TT : Nat → Nat → List FQ} {hf : Nat → Nat → FQ} {g n : Nat}
theorem fCutIn_in (hhf : ∀ i, i ≤ n → ((choM n i).bind fun c => lowM c 2) = some (hf n i).to) {a : Nat} : ∀ (is : List Nat) (s s' : List FQ), (∀ i ∈ is, i ≤ n) → fCutIn TT hf g n a is s = some s' → cutIn (fun g n => rowQ (TT g n)) g n a is (rowQ s) = some (rowQ s')
  | [], s, s', _, e => by cases e; rfl
  | i :: is, s, s', hi, e => by
    unfold fCutIn at e
    split at e
    · cases e
    · rename_i s1 e1
      have ih := fCutIn_in hhf is s1 s' (fun j hj => hi j (List.mem_cons_of_mem _ hj)) e
      simp only [cutIn]
      cases hc : cnd g n a i with
      | false =>
        rw [hc] at e1
        cases e1
        rw [if_neg (by simp), Option.bind_some]
        exact ih
      | true =>
        rw [hc] at e1
        simp only [cond_true] at e1
        split at e1
        · cases e1
        · rename_i b e2
          have h1 := hhf i (hi i (by simp))
          rw [Option.bind_eq_some_iff] at h1
          obtain ⟨c, h1, h2⟩ := h1
          rw [if_pos rfl, fRow_row e2, Option.bind_some, h1, Option.bind_some, h2, Option.bind_some, fRowSum_sum e1, Option.bind_some]
          exact ih
theorem fCutOut_out (hhf : ∀ i, i ≤ n → ((choM n i).bind fun c => lowM c 2) = some (hf n i).to) : ∀ (as : List Nat) (s s' : List FQ), fCutOut TT hf g n as s = some s' → cutOut (fun g n => rowQ (TT g n)) g n as (rowQ s) = some (rowQ s')
  | [], s, s', e => by cases e; rfl
  | a :: as, s, s', e => by
    unfold fCutOut at e
    split at e
    · cases e
    · rename_i s1 e1
      simp only [cutOut]
      rw [fCutIn_in hhf _ s s1 (fun i hi => by have := List.mem_range.mp hi; omega) e1, Option.bind_some]
      exact fCutOut_out hhf as s1 s' e
theorem fEnd_end {s0 : List Q2} : ∀ (xs r : List FQ) (k : Nat), fEnd k xs = some r → (∀ j b, xs[j]? = some b → s0.getD (k + j) z2 = b.to) → mapMO (fun k => prodM (s0.getD k z2) (1, (k : Int) + 1)) (List.range' k xs.length) = some (rowQ r)
  | [], r, k, e, _ => by cases e; rfl
  | x :: xs, r, k, e, h => by
    unfold fEnd at e
    split at e
    · cases e
    · rename_i q e1
      split at e
      · cases e
      · rename_i r1 e2
        cases e
        have h0 := h 0 x rfl
        rw [Nat.add_zero] at h0
        have ih := fEnd_end xs r1 (k + 1) e2 (fun j b hj => by
          have := h (j + 1) b hj
          rw [show k + 1 + j = k + (j + 1) by omega]; exact this)
        rw [List.length_cons, List.range'_succ]
        simp only [mapMO]
        rw [h0, show ((1 : Int), (k : Int) + 1) = (FQ.to ⟨false, 1, k + 1⟩) from rfl, fProd_prod e1, Option.bind_some, ih]
        rfl
theorem fStep_step {sm : Nat → Nat → Option Q2} {q : FQ} {r : List FQ} (hhf : ∀ i, i ≤ n → ((choM n i).bind fun c => lowM c 2) = some (hf n i).to) (e : fStep TT hf g n = some r) (hs : sm g n = some q.to) (hT : TT g n = q :: r) : cutStep (fun g n => rowQ (TT g n)) sm g n = some (rowQ (TT g n)) := by
  unfold fStep at e
  split at e
  · cases e
  · rename_i s0 e0
    split at e
    · cases e
    · rename_i s e1
      unfold cutStep
      have h0 : (if 0 < g then rowSum [z2] (rowQ (TT (g - 1) (n + 2))) (1, 2) else some [z2]) = some (rowQ s0) := by
        cases g with
        | zero => cases e0; rfl
        | succ g' =>
          rw [if_pos (by omega)]
          exact fRowSum_sum e0
      rw [h0, Option.bind_some, fCutOut_out hhf _ _ _ e1, Option.bind_some, hs, Option.bind_some]
      have := fEnd_end (s0 := rowQ s) s r 0 e (fun j b hj => by rw [Nat.zero_add]; exact get_row hj)
      rw [List.length_map, List.range_eq_range', this, Option.bind_some, hT]
      rfl
end
end Cl

namespace Cl
open PySem PySem.Spec PyProof.Rows L2
def tab10 : List (List (List FQ)) := [
  [[],
   [],
   [],
   [⟨false, 1, 1⟩, ⟨false, 0, 1⟩],
   [⟨true, 1, 1⟩, ⟨false, 3, 1⟩, ⟨false, 0, 1⟩, ⟨false, 0, 1⟩],
   [⟨false, 2, 1⟩, ⟨true, 10, 1⟩, ⟨false, 15, 1⟩, ⟨false, 0, 1⟩, ⟨false, 0, 1⟩, ⟨false, 0, 1⟩],
   [⟨true, 6, 1⟩, ⟨false, 40, 1⟩, ⟨true, 105, 1⟩, ⟨false, 105, 1⟩, ⟨false, 0, 1⟩, ⟨false, 0, 1⟩, ⟨false, 0, 1⟩, ⟨false, 0, 1⟩],
   [⟨false, 24, 1⟩, ⟨true, 196, 1⟩, ⟨false, 700, 1⟩, ⟨true, 1260, 1⟩, ⟨false, 945, 1⟩, ⟨false, 0, 1⟩, ⟨false, 0, 1⟩, ⟨false, 0, 1⟩, ⟨false, 0, 1⟩, ⟨false, 0, 1⟩],
   [⟨true, 120, 1⟩, ⟨false, 1148, 1⟩, ⟨true, 5068, 1⟩, ⟨false, 12600, 1⟩, ⟨true, 17325, 1⟩, ⟨false, 10395, 1⟩, ⟨false, 0, 1⟩, ⟨false, 0, 1⟩, ⟨false, 0, 1⟩, ⟨false, 0, 1⟩, ⟨false, 0, 1⟩, ⟨false, 0, 1⟩],
   [⟨false, 720, 1⟩, ⟨true, 7848, 1⟩, ⟨false, 40740, 1⟩, ⟨true, 126280, 1⟩, ⟨false, 242550, 1⟩, ⟨true, 270270, 1⟩, ⟨false, 135135, 1⟩, ⟨false, 0, 1⟩, ⟨false, 0, 1⟩, ⟨false, 0, 1⟩, ⟨false, 0, 1⟩, ⟨false, 0, 1⟩, ⟨false, 0, 1⟩, ⟨false, 0, 1⟩],
   [⟨true, 5040, 1⟩, ⟨false, 61416, 1⟩, ⟨true, 363660, 1⟩, ⟨false, 1332100, 1⟩, ⟨true, 3213210, 1⟩, ⟨false, 5045040, 1⟩, ⟨true, 4729725, 1⟩, ⟨false, 2027025, 1⟩, ⟨false, 0, 1⟩, ⟨false, 0, 1⟩, ⟨false, 0, 1⟩, ⟨false, 0, 1⟩, ⟨false, 0, 1⟩, ⟨false, 0, 1⟩, ⟨false, 0, 1⟩, ⟨false, 0, 1⟩],
   [⟨false, 40320, 1⟩, ⟨true, 541728, 1⟩, ⟨false, 3584856, 1⟩, ⟨true, 15020720, 1⟩, ⟨false, 43022980, 1⟩, ⟨true, 85345260, 1⟩, ⟨false, 113513400, 1⟩, ⟨true, 91891800, 1⟩, ⟨false, 34459425, 1⟩, ⟨false, 0, 1⟩, ⟨false, 0, 1⟩, ⟨false, 0, 1⟩, ⟨false, 0, 1⟩, ⟨false, 0, 1⟩, ⟨false, 0, 1⟩, ⟨false, 0, 1⟩, ⟨false, 0, 1⟩, ⟨false, 0, 1⟩],
   [⟨true, 362880, 1⟩, ⟨false, 5319072, 1⟩, ⟨true, 38764440, 1⟩, ⟨false, 181789608, 1⟩, ⟨true, 597496900, 1⟩, ⟨false, 1413452040, 1⟩, ⟨true, 2387144760, 1⟩, ⟨false, 2756754000, 1⟩, ⟨true, 1964187225, 1⟩, ⟨false, 654729075, 1⟩, ⟨false, 0, 1⟩, ⟨false, 0, 1⟩, ⟨false, 0, 1⟩, ⟨false, 0, 1⟩, ⟨false, 0, 1⟩, ⟨false, 0, 1⟩, ⟨false, 0, 1⟩, ⟨false, 0, 1⟩, ⟨false, 0, 1⟩, ⟨false, 0, 1⟩],
   [⟨false, 3628800, 1⟩, ⟨true, 57545280, 1⟩, ⟨false, 456792336, 1⟩, ⟨true, 2360598240, 1⟩, ⟨false, 8701813120, 1⟩, ⟨true, 23694470800, 1⟩, ⟨false, 47900132280, 1⟩, ⟨true, 70536145680, 1⟩, ⟨false, 72020198250, 1⟩, ⟨true, 45831035250, 1⟩, ⟨false, 13749310575, 1⟩, ⟨false, 0, 1⟩, ⟨false, 0, 1⟩, ⟨false, 0, 1⟩, ⟨false, 0, 1⟩, ⟨false, 0, 1⟩, ⟨false, 0, 1⟩, ⟨false, 0, 1⟩, ⟨false, 0, 1⟩, ⟨false, 0, 1⟩, ⟨false, 0, 1⟩, ⟨false, 0, 1⟩],
   [⟨true, 39916800, 1⟩, ⟨false, 680172480, 1⟩, ⟨true, 5830349616, 1⟩, ⟨false, 32818465680, 1⟩, ⟨true, 133489516160, 1⟩, ⟨false, 408570001840, 1⟩, ⟨true, 953401929480, 1⟩, ⟨false, 1686000115800, 1⟩, ⟨true, 2202945094350, 1⟩, ⟨false, 2016565551000, 1⟩, ⟨true, 1159525191825, 1⟩, ⟨false, 316234143225, 1⟩, ⟨false, 0, 1⟩, ⟨false, 0, 1⟩, ⟨false, 0, 1⟩, ⟨false, 0, 1⟩, ⟨false, 0, 1⟩, ⟨false, 0, 1⟩, ⟨false, 0, 1⟩, ⟨false, 0, 1⟩, ⟨false, 0, 1⟩, ⟨false, 0, 1⟩, ⟨false, 0, 1⟩, ⟨false, 0, 1⟩],
   [⟨false, 479001600, 1⟩, ⟨true, 8720904960, 1⟩, ⟨false, 80166782592, 1⟩, ⟨true, 487107182016, 1⟩, ⟨false, 2159788110480, 1⟩, ⟨true, 7305651312960, 1⟩, ⟨false, 19203653188720, 1⟩, ⟨true, 39300039979200, 1⟩, ⟨false, 61841343564000, 1⟩, ⟨true, 72663578687700, 1⟩, ⟨false, 60295309974900, 1⟩, ⟨true, 31623414322500, 1⟩, ⟨false, 7905853580625, 1⟩, ⟨false, 0, 1⟩, ⟨false, 0, 1⟩, ⟨false, 0, 1⟩, ⟨false, 0, 1⟩, ⟨false, 0, 1⟩, ⟨false, 0, 1⟩, ⟨false, 0, 1⟩, ⟨false, 0, 1⟩, ⟨false, 0, 1⟩, ⟨false, 0, 1⟩, ⟨false, 0, 1⟩, ⟨false, 0, 1⟩, ⟨false, 0, 1⟩],
   [⟨true, 6227020800, 1⟩, ⟨false, 120556788480, 1⟩, ⟨true, 1181702653056, 1⟩, ⟨false, 7695228670272, 1⟩, ⟨true, 36845174712528, 1⟩, ⟨false, 136009441167600, 1⟩, ⟨true, 395760517712560, 1⟩, ⟨false, 914177236692720, 1⟩, ⟨true, 1668538345874400, 1⟩, ⟨false, 2366977424912100, 1⟩, ⟨true, 2527764918178500, 1⟩, ⟨false, 1918487135565000, 1⟩, ⟨true, 924984868933125, 1⟩, ⟨false, 213458046676875, 1⟩, ⟨false, 0, 1⟩, ⟨false, 0, 1⟩, ⟨false, 0, 1⟩, ⟨false, 0, 1⟩, ⟨false, 0, 1⟩, ⟨false, 0, 1⟩, ⟨false, 0, 1⟩, ⟨false, 0, 1⟩, ⟨false, 0, 1⟩, ⟨false, 0, 1⟩, ⟨false, 0, 1⟩, ⟨false, 0, 1⟩, ⟨false, 0, 1⟩, ⟨false, 0, 1⟩],
   [⟨false, 87178291200, 1⟩, ⟨true, 1787427371520, 1⟩, ⟨false, 18593302546944, 1⟩, ⟨true, 129003849138816, 1⟩, ⟨false, 662041790710560, 1⟩, ⟨true, 2641035670596960, 1⟩, ⟨false, 8396845512495440, 1⟩, ⟨true, 21505212703374400, 1⟩, ⟨false, 44385613286174160, 1⟩, ⟨true, 73182604249755000, 1⟩, ⟨false, 94563144477301500, 1⟩, ⟨true, 92580707770551000, 1⟩, ⟨false, 64748940825318750, 1⟩, ⟨true, 28887988983603750, 1⟩, ⟨false, 6190283353629375, 1⟩, ⟨false, 0, 1⟩, ⟨false, 0, 1⟩, ⟨false, 0, 1⟩, ⟨false, 0, 1⟩, ⟨false, 0, 1⟩, ⟨false, 0, 1⟩, ⟨false, 0, 1⟩, ⟨false, 0, 1⟩, ⟨false, 0, 1⟩, ⟨false, 0, 1⟩, ⟨false, 0, 1⟩, ⟨false, 0, 1⟩, ⟨false, 0, 1⟩, ⟨false, 0, 1⟩, ⟨false, 0, 1⟩],
   [⟨true, 1307674368000, 1⟩, ⟨false, 28293441523200, 1⟩, ⟨true, 311073230891520, 1⟩, ⟨false, 2288330485474176, 1⟩, ⟨true, 12510703843434720, 1⟩, ⟨false, 53518412663876160, 1⟩, ⟨true, 184055467440564720, 1⟩, ⟨false, 515705637338011120, 1⟩, ⟨true, 1181909304173598000, 1⟩, ⟨false, 2207379395900679000, 1⟩, ⟨true, 3321194877653152500, 1⟩, ⟨false, 3941915517445405500, 1⟩, ⟨true, 3563493929955209250, 1⟩, ⟨false, 2311039118688300000, 1⟩, ⟨true, 959493919812553125, 1⟩, ⟨false, 191898783962510625, 1⟩, ⟨false, 0, 1⟩, ⟨false, 0, 1⟩, ⟨false, 0, 1⟩, ⟨false, 0, 1⟩, ⟨false, 0, 1⟩, ⟨false, 0, 1⟩, ⟨false, 0, 1⟩, ⟨false, 0, 1⟩, ⟨false, 0, 1⟩, ⟨false, 0, 1⟩, ⟨false, 0, 1⟩, ⟨false, 0, 1⟩, ⟨false, 0, 1⟩, ⟨false, 0, 1⟩, ⟨false, 0, 1⟩, ⟨false, 0, 1⟩],
   [⟨false, 20922789888000, 1⟩, ⟨true, 476233202995200, 1⟩, ⟨false, 5514747083205120, 1⟩, ⟨true, 42834752385417216, 1⟩, ⟨false, 248226201689913216, 1⟩, ⟨true, 1131530087177582400, 1⟩, ⟨false, 4175810970318187200, 1⟩, ⟨true, 12668621415981731200, 1⟩, ⟨false, 31803189800227846000, 1⟩, ⟨true, 66047712242924412000, 1⟩, ⟨false, 112738361731768773000, 1⟩, ⟨true, 156064104853414758000, 1⟩, ⟨false, 171331452885200107500, 1⟩, ⟨true, 143881443797669077500, 1⟩, ⟨false, 86994115396338150000, 1⟩, ⟨true, 33774185977401870000, 1⟩, ⟨false, 6332659870762850625, 1⟩, ⟨false, 0, 1⟩, ⟨false, 0, 1⟩, ⟨false, 0, 1⟩, ⟨false, 0, 1⟩, ⟨false, 0, 1⟩, ⟨false, 0, 1⟩, ⟨false, 0, 1⟩, ⟨false, 0, 1⟩, ⟨false, 0, 1⟩, ⟨false, 0, 1⟩, ⟨false, 0, 1⟩, ⟨false, 0, 1⟩, ⟨false, 0, 1⟩, ⟨false, 0, 1⟩, ⟨false, 0, 1⟩, ⟨false, 0, 1⟩, ⟨false, 0, 1⟩],
   [⟨true, 355687428096000, 1⟩, ⟨false, 8493497458790400, 1⟩, ⟨true, 103275364474391040, 1⟩, ⟨false, 844000479299400192, 1⟩, ⟨true, 5162209981207703424, 1⟩, ⟨false, 24945214120886904768, 1⟩, ⟨true, 98145508587671160000, 1⟩, ⟨false, 319761838329644110400, 1⟩, ⟨true, 870038383419398393200, 1⟩, ⟨false, 1981497232735866846000, 1⟩, ⟨true, 3765888092241952677000, 1⟩, ⟨false, 5922502272729345303000, 1⟩, ⟨true, 7594557844650844567500, 1⟩, ⟨false, 7757259584001577650000, 1⟩, ⟨true, 6083106163263159030000, 1⟩, ⟨false, 3444966969694990740000, 1⟩, ⟨true, 1255977541034632040625, 1⟩, ⟨false, 221643095476699771875, 1⟩, ⟨false, 0, 1⟩, ⟨false, 0, 1⟩, ⟨false, 0, 1⟩, ⟨false, 0, 1⟩, ⟨false, 0, 1⟩, ⟨false, 0, 1⟩, ⟨false, 0, 1⟩, ⟨false, 0, 1⟩, ⟨false, 0, 1⟩, ⟨false, 0, 1⟩, ⟨false, 0, 1⟩, ⟨false, 0, 1⟩, ⟨false, 0, 1⟩, ⟨false, 0, 1⟩, ⟨false, 0, 1⟩, ⟨false, 0, 1⟩, ⟨false, 0, 1⟩, ⟨false, 0, 1⟩]],
  [[],
   [⟨true, 1, 12⟩, ⟨false, 1, 2⟩, ⟨false, 0, 1⟩],
   [⟨false, 1, 12⟩, ⟨true, 7, 12⟩, ⟨false, 1, 1⟩, ⟨false, 0, 1⟩, ⟨false, 0, 1⟩],
   [⟨true, 1, 6⟩, ⟨false, 4, 3⟩, ⟨true, 15, 4⟩, ⟨false, 4, 1⟩, ⟨false, 0, 1⟩, ⟨false, 0, 1⟩, ⟨false, 0, 1⟩],
   [⟨false, 1, 2⟩, ⟨true, 9, 2⟩, ⟨false, 199, 12⟩, ⟨true, 123, 4⟩, ⟨false, 24, 1⟩, ⟨false, 0, 1⟩, ⟨false, 0, 1⟩, ⟨false, 0, 1⟩, ⟨false, 0, 1⟩],
   [⟨true, 2, 1⟩, ⟨false, 20, 1⟩, ⟨true, 533, 6⟩, ⟨false, 445, 2⟩, ⟨true, 1245, 4⟩, ⟨false, 192, 1⟩, ⟨false, 0, 1⟩, ⟨false, 0, 1⟩, ⟨false, 0, 1⟩, ⟨false, 0, 1⟩, ⟨false, 0, 1⟩],
   [⟨false, 10, 1⟩, ⟨true, 110, 1⟩, ⟨false, 3385, 6⟩, ⟨true, 5203, 3⟩, ⟨false, 13345, 4⟩, ⟨true, 15045, 4⟩, ⟨false, 1920, 1⟩, ⟨false, 0, 1⟩, ⟨false, 0, 1⟩, ⟨false, 0, 1⟩, ⟨false, 0, 1⟩, ⟨false, 0, 1⟩, ⟨false, 0, 1⟩],
   [⟨true, 60, 1⟩, ⟨false, 720, 1⟩, ⟨true, 4155, 1⟩, ⟨false, 44758, 3⟩, ⟨true, 71253, 2⟩, ⟨false, 55930, 1⟩, ⟨true, 211575, 4⟩, ⟨false, 23040, 1⟩, ⟨false, 0, 1⟩, ⟨false, 0, 1⟩, ⟨false, 0, 1⟩, ⟨false, 0, 1⟩, ⟨false, 0, 1⟩, ⟨false, 0, 1⟩, ⟨false, 0, 1⟩],
   [⟨false, 420, 1⟩, ⟨true, 5460, 1⟩, ⟨false, 34845, 1⟩, ⟨true, 425491, 3⟩, ⟨false, 2391473, 6⟩, ⟨true, 1566803, 2⟩, ⟨false, 4165665, 4⟩, ⟨true, 3395595, 4⟩, ⟨false, 322560, 1⟩, ⟨false, 0, 1⟩, ⟨false, 0, 1⟩, ⟨false, 0, 1⟩, ⟨false, 0, 1⟩, ⟨false, 0, 1⟩, ⟨false, 0, 1⟩, ⟨false, 0, 1⟩, ⟨false, 0, 1⟩],
   [⟨true, 3360, 1⟩, ⟨false, 47040, 1⟩, ⟨true, 327900, 1⟩, ⟨false, 4449278, 3⟩, ⟨true, 14246293, 3⟩, ⟨false, 11050158, 1⟩, ⟨true, 37031099, 2⟩, ⟨false, 42742035, 2⟩, ⟨true, 61255845, 4⟩, ⟨false, 5160960, 1⟩, ⟨false, 0, 1⟩, ⟨false, 0, 1⟩, ⟨false, 0, 1⟩, ⟨false, 0, 1⟩, ⟨false, 0, 1⟩, ⟨false, 0, 1⟩, ⟨false, 0, 1⟩, ⟨false, 0, 1⟩, ⟨false, 0, 1⟩],
   [⟨false, 30240, 1⟩, ⟨true, 453600, 1⟩, ⟨false, 3421500, 1⟩, ⟨true, 16954734, 1⟩, ⟨false, 60535991, 1⟩, ⟨true, 483556075, 3⟩, ⟨false, 642684315, 2⟩, ⟨true, 470072400, 1⟩, ⟨false, 1919047725, 4⟩, ⟨true, 1227143925, 4⟩, ⟨false, 92897280, 1⟩, ⟨false, 0, 1⟩, ⟨false, 0, 1⟩, ⟨false, 0, 1⟩, ⟨false, 0, 1⟩, ⟨false, 0, 1⟩, ⟨false, 0, 1⟩, ⟨false, 0, 1⟩, ⟨false, 0, 1⟩, ⟨false, 0, 1⟩, ⟨false, 0, 1⟩],
   [⟨true, 302400, 1⟩, ⟨false, 4838400, 1⟩, ⟨true, 39204600, 1⟩, ⟨false, 210605340, 1⟩, ⟨true, 825771452, 1⟩, ⟨false, 7378072372, 3⟩, ⟨true, 5631201950, 1⟩, ⟨false, 9842198520, 1⟩, ⟨true, 25577700225, 2⟩, ⟨false, 11703574575, 1⟩, ⟨true, 27031625775, 4⟩, ⟨false, 1857945600, 1⟩, ⟨false, 0, 1⟩, ⟨false, 0, 1⟩, ⟨false, 0, 1⟩, ⟨false, 0, 1⟩, ⟨false, 0, 1⟩, ⟨false, 0, 1⟩, ⟨false, 0, 1⟩, ⟨false, 0, 1⟩, ⟨false, 0, 1⟩, ⟨false, 0, 1⟩, ⟨false, 0, 1⟩],
   [⟨false, 3326400, 1⟩, ⟨true, 56548800, 1⟩, ⟨false, 489311400, 1⟩, ⟨true, 2826318540, 1⟩, ⟨false, 12031960732, 1⟩, ⟨true, 118318511432, 3⟩, ⟨false, 303878822302, 3⟩, ⟨true, 203994616870, 1⟩, ⟨false, 635673849195, 2⟩, ⟨true, 743454944925, 2⟩, ⟨false, 1233633849525, 4⟩, ⟨true, 649413747675, 4⟩, ⟨false, 40874803200, 1⟩, ⟨false, 0, 1⟩, ⟨false, 0, 1⟩, ⟨false, 0, 1⟩, ⟨false, 0, 1⟩, ⟨false, 0, 1⟩, ⟨false, 0, 1⟩, ⟨false, 0, 1⟩, ⟨false, 0, 1⟩, ⟨false, 0, 1⟩, ⟨false, 0, 1⟩, ⟨false, 0, 1⟩, ⟨false, 0, 1⟩],
   [⟨true, 39916800, 1⟩, ⟨false, 718502400, 1⟩, ⟨true, 6606871200, 1⟩, ⟨false, 40766182080, 1⟩, ⟨true, 186778306884, 1⟩, ⟨false, 665785417440, 1⟩, ⟨true, 5657960561968, 3⟩, ⟨false, 4271208336252, 1⟩, ⟨true, 7689940815700, 1⟩, ⟨false, 10817468161500, 1⟩, ⟨true, 23014356940575, 2⟩, ⟨false, 17466454830825, 2⟩, ⟨true, 16898506750125, 4⟩, ⟨false, 980995276800, 1⟩, ⟨false, 0, 1⟩, ⟨false, 0, 1⟩, ⟨false, 0, 1⟩, ⟨false, 0, 1⟩, ⟨false, 0, 1⟩, ⟨false, 0, 1⟩, ⟨false, 0, 1⟩, ⟨false, 0, 1⟩, ⟨false, 0, 1⟩, ⟨false, 0, 1⟩, ⟨false, 0, 1⟩, ⟨false, 0, 1⟩, ⟨false, 0, 1⟩],
   [⟨false, 518918400, 1⟩, ⟨true, 9859449600, 1⟩, ⟨false, 95948359200, 1⟩, ⟨true, 629063435040, 1⟩, ⟨false, 3080376902772, 1⟩, ⟨true, 11830441643748, 1⟩, ⟨false, 109505899847344, 3⟩, ⟨true, 274078375791220, 3⟩, ⟨false, 185393397329140, 1⟩, ⟨true, 302115843229200, 1⟩, ⟨false, 775155239333475, 2⟩, ⟨true, 378197061216975, 1⟩, ⟨false, 1058070419631225, 4⟩, ⟨true, 473474423146725, 4⟩, ⟨false, 25505877196800, 1⟩, ⟨false, 0, 1⟩, ⟨false, 0, 1⟩, ⟨false, 0, 1⟩, ⟨false, 0, 1⟩, ⟨false, 0, 1⟩, ⟨false, 0, 1⟩, ⟨false, 0, 1⟩, ⟨false, 0, 1⟩, ⟨false, 0, 1⟩, ⟨false, 0, 1⟩, ⟨false, 0, 1⟩, ⟨false, 0, 1⟩, ⟨false, 0, 1⟩, ⟨false, 0, 1⟩],
   [⟨true, 7264857600, 1⟩, ⟨false, 145297152000, 1⟩, ⟨true, 1491168772800, 1⟩, ⟨false, 10342061837760, 1⟩, ⟨true, 53819355034488, 1⟩, ⟨false, 221072967262368, 1⟩, ⟨true, 2207417771556452, 3⟩, ⟨false, 6027215258023960, 3⟩, ⟨true, 4514056193146500, 1⟩, ⟨false, 8308276546449880, 1⟩, ⟨true, 12374751069605925, 1⟩, ⟨false, 14596621729039350, 1⟩, ⟨true, 26316345998267325, 2⟩, ⟨false, 8534618208616500, 1⟩, ⟨true, 14212138547982375, 4⟩, ⟨false, 714164561510400, 1⟩, ⟨false, 0, 1⟩, ⟨false, 0, 1⟩, ⟨false, 0, 1⟩, ⟨false, 0, 1⟩, ⟨false, 0, 1⟩, ⟨false, 0, 1⟩, ⟨false, 0, 1⟩, ⟨false, 0, 1⟩, ⟨false, 0, 1⟩, ⟨false, 0, 1⟩, ⟨false, 0, 1⟩, ⟨false, 0, 1⟩, ⟨false, 0, 1⟩, ⟨false, 0, 1⟩, ⟨false, 0, 1⟩],
   [⟨false, 108972864000, 1⟩, ⟨true, 2288430144000, 1⟩, ⟨false, 24692286024000, 1⟩, ⟨true, 180480796704000, 1⟩, ⟨false, 993447438597000, 1⟩, ⟨true, 4338662254590792, 1⟩, ⟨false, 15458548203029620, 1⟩, ⟨true, 45588000691014964, 1⟩, ⟨false, 335731264368119620, 3⟩, ⟨true, 228447440639117700, 1⟩, ⟨false, 385019903158885995, 1⟩, ⟨true, 528318102675738375, 1⟩, ⟨false, 1153769519884056075, 2⟩, ⟨true, 966579888211712775, 2⟩, ⟨false, 1169059317584783625, 4⟩, ⟨true, 455001891582112875, 4⟩, ⟨false, 21424936845312000, 1⟩, ⟨false, 0, 1⟩, ⟨false, 0, 1⟩, ⟨false, 0, 1⟩, ⟨false, 0, 1⟩, ⟨false, 0, 1⟩, ⟨false, 0, 1⟩, ⟨false, 0, 1⟩, ⟨false, 0, 1⟩, ⟨false, 0, 1⟩, ⟨false, 0, 1⟩, ⟨false, 0, 1⟩, ⟨false, 0, 1⟩, ⟨false, 0, 1⟩, ⟨false, 0, 1⟩, ⟨false, 0, 1⟩, ⟨false, 0, 1⟩],
   [⟨true, 1743565824000, 1⟩, ⟨false, 38358448128000, 1⟩, ⟨true, 433979888832000, 1⟩, ⟨false, 3332153895696000, 1⟩, ⟨true, 19324294154928000, 1⟩, ⟨false, 89287544845392672, 1⟩, ⟨true, 338448678594880552, 1⟩, ⟨false, 1069496071522891064, 1⟩, ⟨true, 8517272277569946436, 3⟩, ⟨false, 6341009165170840160, 1⟩, ⟨true, 11871504466520118420, 1⟩, ⟨false, 18463607124942849870, 1⟩, ⟨true, 23494744931317384725, 1⟩, ⟨false, 23885412384070487250, 1⟩, ⟨true, 37383291298817939475, 2⟩, ⟨false, 21175904896428657375, 2⟩, ⟨true, 15476254597145467125, 4⟩, ⟨false, 685597979049984000, 1⟩, ⟨false, 0, 1⟩, ⟨false, 0, 1⟩, ⟨false, 0, 1⟩, ⟨false, 0, 1⟩, ⟨false, 0, 1⟩, ⟨false, 0, 1⟩, ⟨false, 0, 1⟩, ⟨false, 0, 1⟩, ⟨false, 0, 1⟩, ⟨false, 0, 1⟩, ⟨false, 0, 1⟩, ⟨false, 0, 1⟩, ⟨false, 0, 1⟩, ⟨false, 0, 1⟩, ⟨false, 0, 1⟩, ⟨false, 0, 1⟩, ⟨false, 0, 1⟩],
   [⟨false, 29640619008000, 1⟩, ⟨true, 681734237184000, 1⟩, ⟨false, 8068110176448000, 1⟩, ⟨true, 64892234114640000, 1⟩, ⟨false, 395156078547696000, 1⟩, ⟨true, 1923698439625163424, 1⟩, ⟨false, 7717953522711608168, 1⟩, ⟨true, 25965752823571400784, 1⟩, ⟨false, 221797345868337246020, 3⟩, ⟨true, 536323274362961509060, 3⟩, ⟨false, 366681814225283857300, 1⟩, ⟨true, 634411941720071645130, 1⟩, ⟨false, 916391663330795336685, 1⟩, ⟨true, 1087399613537402440275, 1⟩, ⟨false, 2068640695124134206075, 2⟩, ⟨true, 759436206751321649550, 1⟩, ⟨false, 1618354241522907013125, 4⟩, ⟨true, 557337064281199327125, 4⟩, ⟨false, 23310331287699456000, 1⟩, ⟨false, 0, 1⟩, ⟨false, 0, 1⟩, ⟨false, 0, 1⟩, ⟨false, 0, 1⟩, ⟨false, 0, 1⟩, ⟨false, 0, 1⟩, ⟨false, 0, 1⟩, ⟨false, 0, 1⟩, ⟨false, 0, 1⟩, ⟨false, 0, 1⟩, ⟨false, 0, 1⟩, ⟨false, 0, 1⟩, ⟨false, 0, 1⟩, ⟨false, 0, 1⟩, ⟨false, 0, 1⟩, ⟨false, 0, 1⟩, ⟨false, 0, 1⟩, ⟨false, 0, 1⟩]],
  [[⟨true, 1, 240⟩, ⟨false, 13, 288⟩, ⟨true, 1, 6⟩, ⟨false, 5, 24⟩, ⟨false, 0, 1⟩, ⟨false, 0, 1⟩],
   [⟨false, 1, 120⟩, ⟨true, 13, 144⟩, ⟨false, 109, 288⟩, ⟨true, 3, 4⟩, ⟨false, 5, 8⟩, ⟨false, 0, 1⟩, ⟨false, 0, 1⟩, ⟨false, 0, 1⟩],
   [⟨true, 1, 40⟩, ⟨false, 67, 240⟩, ⟨true, 379, 288⟩, ⟨false, 325, 96⟩, ⟨true, 39, 8⟩, ⟨false, 25, 8⟩, ⟨false, 0, 1⟩, ⟨false, 0, 1⟩, ⟨false, 0, 1⟩, ⟨false, 0, 1⟩],
   [⟨false, 1, 10⟩, ⟨true, 7, 6⟩, ⟨false, 4393, 720⟩, ⟨true, 677, 36⟩, ⟨false, 3497, 96⟩, ⟨true, 167, 4⟩, ⟨false, 175, 8⟩, ⟨false, 0, 1⟩, ⟨false, 0, 1⟩, ⟨false, 0, 1⟩, ⟨false, 0, 1⟩, ⟨false, 0, 1⟩],
   [⟨true, 1, 2⟩, ⟨false, 92, 15⟩, ⟨true, 5065, 144⟩, ⟨false, 17933, 144⟩, ⟨true, 9439, 32⟩, ⟨false, 44519, 96⟩, ⟨true, 3547, 8⟩, ⟨false, 1575, 8⟩, ⟨false, 0, 1⟩, ⟨false, 0, 1⟩, ⟨false, 0, 1⟩, ⟨false, 0, 1⟩, ⟨false, 0, 1⟩, ⟨false, 0, 1⟩],
   [⟨false, 3, 1⟩, ⟨true, 194, 5⟩, ⟨false, 5801, 24⟩, ⟨true, 3833, 4⟩, ⟨false, 23774, 9⟩, ⟨true, 82275, 16⟩, ⟨false, 218685, 32⟩, ⟨true, 5615, 1⟩, ⟨false, 17325, 8⟩, ⟨false, 0, 1⟩, ⟨false, 0, 1⟩, ⟨false, 0, 1⟩, ⟨false, 0, 1⟩, ⟨false, 0, 1⟩, ⟨false, 0, 1⟩, ⟨false, 0, 1⟩],
   [⟨true, 21, 1⟩, ⟨false, 1433, 5⟩, ⟨true, 230971, 120⟩, ⟨false, 201593, 24⟩, ⟨true, 235412, 9⟩, ⟨false, 956309, 16⟩, ⟨true, 3176295, 32⟩, ⟨false, 3663295, 32⟩, ⟨true, 660315, 8⟩, ⟨false, 225225, 8⟩, ⟨false, 0, 1⟩, ⟨false, 0, 1⟩, ⟨false, 0, 1⟩, ⟨false, 0, 1⟩, ⟨false, 0, 1⟩, ⟨false, 0, 1⟩, ⟨false, 0, 1⟩, ⟨false, 0, 1⟩],
   [⟨false, 168, 1⟩, ⟨true, 12094, 5⟩, ⟨false, 261064, 15⟩, ⟨true, 1238936, 15⟩, ⟨false, 20509379, 72⟩, ⟨true, 13315021, 18⟩, ⟨false, 23224579, 16⟩, ⟨true, 16855475, 8⟩, ⟨false, 68752915, 32⟩, ⟨true, 5523105, 4⟩, ⟨false, 3378375, 8⟩, ⟨false, 0, 1⟩, ⟨false, 0, 1⟩, ⟨false, 0, 1⟩, ⟨false, 0, 1⟩, ⟨false, 0, 1⟩, ⟨false, 0, 1⟩, ⟨false, 0, 1⟩, ⟨false, 0, 1⟩, ⟨false, 0, 1⟩],
   [⟨true, 1512, 1⟩, ⟨false, 114726, 5⟩, ⟨true, 879944, 5⟩, ⟨false, 900000, 1⟩, ⟨true, 81351113, 24⟩, ⟨false, 704943925, 72⟩, ⟨true, 1053144305, 48⟩, ⟨false, 605318077, 16⟩, ⟨true, 1562682835, 32⟩, ⟨false, 1428957285, 32⟩, ⟨true, 207144735, 8⟩, ⟨false, 57432375, 8⟩, ⟨false, 0, 1⟩, ⟨false, 0, 1⟩, ⟨false, 0, 1⟩, ⟨false, 0, 1⟩, ⟨false, 0, 1⟩, ⟨false, 0, 1⟩, ⟨false, 0, 1⟩, ⟨false, 0, 1⟩, ⟨false, 0, 1⟩, ⟨false, 0, 1⟩],
   [⟨false, 15120, 1⟩, ⟨true, 241548, 1⟩, ⟨false, 9831974, 5⟩, ⟨true, 10759888, 1⟩, ⟨false, 525555565, 12⟩, ⟨true, 4989039659, 36⟩, ⟨false, 3120179450, 9⟩, ⟨true, 8225890645, 12⟩, ⟨false, 8446592665, 8⟩, ⟨true, 19646249105, 16⟩, ⟨false, 32578063245, 32⟩, ⟨true, 1075732245, 2⟩, ⟨false, 1091215125, 8⟩, ⟨false, 0, 1⟩, ⟨false, 0, 1⟩, ⟨false, 0, 1⟩, ⟨false, 0, 1⟩, ⟨false, 0, 1⟩, ⟨false, 0, 1⟩, ⟨false, 0, 1⟩, ⟨false, 0, 1⟩, ⟨false, 0, 1⟩, ⟨false, 0, 1⟩, ⟨false, 0, 1⟩],
   [⟨true, 166320, 1⟩, ⟨false, 2793108, 1⟩, ⟨true, 120229114, 5⟩, ⟨false, 699945554, 5⟩, ⟨true, 7330535087, 12⟩, ⟨false, 18844025821, 9⟩, ⟨true, 103567225513, 18⟩, ⟨false, 50962795365, 4⟩, ⟨true, 541966058585, 24⟩, ⟨false, 503292890765, 16⟩, ⟨true, 1065623663475, 32⟩, ⟨false, 808312076775, 32⟩, ⟨true, 98061945975, 8⟩, ⟨false, 22915517625, 8⟩, ⟨false, 0, 1⟩, ⟨false, 0, 1⟩, ⟨false, 0, 1⟩, ⟨false, 0, 1⟩, ⟨false, 0, 1⟩, ⟨false, 0, 1⟩, ⟨false, 0, 1⟩, ⟨false, 0, 1⟩, ⟨false, 0, 1⟩, ⟨false, 0, 1⟩, ⟨false, 0, 1⟩, ⟨false, 0, 1⟩],
   [⟨false, 1995840, 1⟩, ⟨true, 35180496, 1⟩, ⟨false, 1596370308, 5⟩, ⟨true, 9842096016, 5⟩, ⟨false, 45751967637, 5⟩, ⟨true, 202065952177, 6⟩, ⟨false, 301354580131, 3⟩, ⟨true, 2204533278959, 9⟩, ⟨false, 1950299638375, 4⟩, ⟨true, 1567888424025, 2⟩, ⟨false, 15956306905385, 16⟩, ⟨true, 1938263636925, 2⟩, ⟨false, 21681527019075, 32⟩, ⟨true, 1216174511475, 4⟩, ⟨false, 527056905375, 8⟩, ⟨false, 0, 1⟩, ⟨false, 0, 1⟩, ⟨false, 0, 1⟩, ⟨false, 0, 1⟩, ⟨false, 0, 1⟩, ⟨false, 0, 1⟩, ⟨false, 0, 1⟩, ⟨false, 0, 1⟩, ⟨false, 0, 1⟩, ⟨false, 0, 1⟩, ⟨false, 0, 1⟩, ⟨false, 0, 1⟩, ⟨false, 0, 1⟩],
   [⟨true, 25945920, 1⟩, ⟨false, 479300688, 1⟩, ⟨true, 22863643764, 5⟩, ⟨false, 148700062212, 5⟩, ⟨true, 146512984701, 1⟩, ⟨false, 3450392795767, 6⟩, ⟨true, 1844712386373, 1⟩, ⟨false, 44028016213148, 9⟩, ⟨true, 42990161530547, 4⟩, ⟨false, 77820792153775, 4⟩, ⟨true, 458294137614005, 16⟩, ⟨false, 536661863253285, 16⟩, ⟨true, 964128651445575, 32⟩, ⟨false, 625157270632125, 32⟩, ⟨true, 65228116320675, 8⟩, ⟨false, 13176422634375, 8⟩, ⟨false, 0, 1⟩, ⟨false, 0, 1⟩, ⟨false, 0, 1⟩, ⟨false, 0, 1⟩, ⟨false, 0, 1⟩, ⟨false, 0, 1⟩, ⟨false, 0, 1⟩, ⟨false, 0, 1⟩, ⟨false, 0, 1⟩, ⟨false, 0, 1⟩, ⟨false, 0, 1⟩, ⟨false, 0, 1⟩, ⟨false, 0, 1⟩, ⟨false, 0, 1⟩],
   [⟨false, 363242880, 1⟩, ⟨true, 7021560672, 1⟩, ⟨false, 351245557416, 5⟩, ⟨true, 2401891883664, 5⟩, ⟨false, 2497281972450, 1⟩, ⟨true, 31185372836017, 3⟩, ⟨false, 213612517983371, 6⟩, ⟨true, 915235633576498, 9⟩, ⟨false, 4381444792524085, 18⟩, ⟨true, 974647160381895, 2⟩, ⟨false, 6476532233756585, 8⟩, ⟨true, 4398934278263525, 4⟩, ⟨false, 4773030853736145, 4⟩, ⟨true, 15945644711771775, 16⟩, ⟨false, 19281706279760925, 32⟩, ⟨true, 235050117652350, 1⟩, ⟨false, 355763411128125, 8⟩, ⟨false, 0, 1⟩, ⟨false, 0, 1⟩, ⟨false, 0, 1⟩, ⟨false, 0, 1⟩, ⟨false, 0, 1⟩, ⟨false, 0, 1⟩, ⟨false, 0, 1⟩, ⟨false, 0, 1⟩, ⟨false, 0, 1⟩, ⟨false, 0, 1⟩, ⟨false, 0, 1⟩, ⟨false, 0, 1⟩, ⟨false, 0, 1⟩, ⟨false, 0, 1⟩, ⟨false, 0, 1⟩],
   [⟨true, 5448643200, 1⟩, ⟨false, 110045567520, 1⟩, ⟨true, 1152038521656, 1⟩, ⟨false, 8259412323240, 1⟩, ⟨true, 225726418072374, 5⟩, ⟨false, 198380657711735, 1⟩, ⟨true, 1442287063949059, 2⟩, ⟨false, 4403664725816343, 2⟩, ⟨true, 102331097230921195, 18⟩, ⟨false, 37264617882426935, 3⟩, ⟨true, 182916933619955535, 8⟩, ⟨false, 280928269724307205, 8⟩, ⟨true, 177169885484366775, 4⟩, ⟨false, 716487756050191125, 16⟩, ⟨true, 1118399119208546175, 32⟩, ⟨false, 633430126026672975, 32⟩, ⟨true, 57987677521048275, 8⟩, ⟨false, 10317138922715625, 8⟩, ⟨false, 0, 1⟩, ⟨false, 0, 1⟩, ⟨false, 0, 1⟩, ⟨false, 0, 1⟩, ⟨false, 0, 1⟩, ⟨false, 0, 1⟩, ⟨false, 0, 1⟩, ⟨false, 0, 1⟩, ⟨false, 0, 1⟩, ⟨false, 0, 1⟩, ⟨false, 0, 1⟩, ⟨false, 0, 1⟩, ⟨false, 0, 1⟩, ⟨false, 0, 1⟩, ⟨false, 0, 1⟩, ⟨false, 0, 1⟩],
   [⟨false, 87178291200, 1⟩, ⟨true, 1837010085120, 1⟩, ⟨false, 20083299859296, 1⟩, ⟨true, 150583213518336, 1⟩, ⟨false, 4313672736633384, 5⟩, ⟨true, 19933528142241532, 5⟩, ⟨false, 15307529008115437, 1⟩, ⟨true, 49652188446021334, 1⟩, ⟨false, 2469590188874027947, 18⟩, ⟨true, 2914343727896626025, 9⟩, ⟨false, 1954587813015552715, 3⟩, ⟨true, 1110607340308481015, 1⟩, ⟨false, 12692643078607416925, 8⟩, ⟨true, 3736184023397150325, 2⟩, ⟨false, 28292362367023529775, 16⟩, ⟨true, 10362514338566515125, 8⟩, ⟨false, 22080685016120605875, 32⟩, ⟨true, 952352274197449125, 4⟩, ⟨false, 319831306604184375, 8⟩, ⟨false, 0, 1⟩, ⟨false, 0, 1⟩, ⟨false, 0, 1⟩, ⟨false, 0, 1⟩, ⟨false, 0, 1⟩, ⟨false, 0, 1⟩, ⟨false, 0, 1⟩, ⟨false, 0, 1⟩, ⟨false, 0, 1⟩, ⟨false, 0, 1⟩, ⟨false, 0, 1⟩, ⟨false, 0, 1⟩, ⟨false, 0, 1⟩, ⟨false, 0, 1⟩, ⟨false, 0, 1⟩, ⟨false, 0, 1⟩, ⟨false, 0, 1⟩],
   [⟨true, 1482030950400, 1⟩, ⟨false, 32536845815040, 1⟩, ⟨true, 370808258969952, 1⟩, ⟨false, 2901330727419744, 1⟩, ⟨true, 86884925739417768, 5⟩, ⟨false, 84165952082828068, 1⟩, ⟨true, 339962105706928557, 1⟩, ⟨false, 1165545312752786855, 1⟩, ⟨true, 61645299835482923363, 18⟩, ⟨false, 155888261092587927631, 18⟩, ⟨true, 18847580881479134785, 1⟩, ⟨false, 105505669681121349640, 3⟩, ⟨true, 446781259120490138845, 8⟩, ⟨false, 596761876713406479075, 8⟩, ⟨true, 1317875381480361678975, 16⟩, ⟨false, 1172803996154943877725, 16⟩, ⟨true, 1618873365902032114875, 32⟩, ⟨false, 814021144790591863125, 32⟩, ⟨true, 66387677760907878375, 8⟩, ⟨false, 10554433117938084375, 8⟩, ⟨false, 0, 1⟩, ⟨false, 0, 1⟩, ⟨false, 0, 1⟩, ⟨false, 0, 1⟩, ⟨false, 0, 1⟩, ⟨false, 0, 1⟩, ⟨false, 0, 1⟩, ⟨false, 0, 1⟩, ⟨false, 0, 1⟩, ⟨false, 0, 1⟩, ⟨false, 0, 1⟩, ⟨false, 0, 1⟩, ⟨false, 0, 1⟩, ⟨false, 0, 1⟩, ⟨false, 0, 1⟩, ⟨false, 0, 1⟩, ⟨false, 0, 1⟩, ⟨false, 0, 1⟩]],
  [[⟨false, 1, 1008⟩, ⟨true, 19, 1440⟩, ⟨false, 1307, 17280⟩, ⟨true, 2539, 10368⟩, ⟨false, 35, 72⟩, ⟨true, 55, 96⟩, ⟨false, 5, 16⟩, ⟨false, 0, 1⟩, ⟨false, 0, 1⟩, ⟨false, 0, 1⟩, ⟨false, 0, 1⟩],
   [⟨true, 1, 252⟩, ⟨false, 19, 360⟩, ⟨true, 341, 1080⟩, ⟨false, 29311, 25920⟩, ⟨true, 9259, 3456⟩, ⟨false, 305, 72⟩, ⟨true, 395, 96⟩, ⟨false, 15, 8⟩, ⟨false, 0, 1⟩, ⟨false, 0, 1⟩, ⟨false, 0, 1⟩, ⟨false, 0, 1⟩, ⟨false, 0, 1⟩],
   [⟨false, 5, 252⟩, ⟨true, 15, 56⟩, ⟨false, 1819, 1080⟩, ⟨true, 171107, 25920⟩, ⟨false, 928913, 51840⟩, ⟨true, 119495, 3456⟩, ⟨false, 4415, 96⟩, ⟨true, 3665, 96⟩, ⟨false, 15, 1⟩, ⟨false, 0, 1⟩, ⟨false, 0, 1⟩, ⟨false, 0, 1⟩, ⟨false, 0, 1⟩, ⟨false, 0, 1⟩, ⟨false, 0, 1⟩],
   [⟨true, 5, 42⟩, ⟨false, 415, 252⟩, ⟨true, 27491, 2520⟩, ⟨false, 66737, 1440⟩, ⟨true, 1821137, 12960⟩, ⟨false, 1360669, 4320⟩, ⟨true, 1790105, 3456⟩, ⟨false, 28655, 48⟩, ⟨true, 13875, 32⟩, ⟨false, 150, 1⟩, ⟨false, 0, 1⟩, ⟨false, 0, 1⟩, ⟨false, 0, 1⟩, ⟨false, 0, 1⟩, ⟨false, 0, 1⟩, ⟨false, 0, 1⟩, ⟨false, 0, 1⟩],
   [⟨false, 5, 6⟩, ⟨true, 2995, 252⟩, ⟨false, 69679, 840⟩, ⟨true, 424437, 1120⟩, ⟨false, 16351757, 12960⟩, ⟨true, 5165251, 1620⟩, ⟨false, 35398361, 5760⟩, ⟨true, 1131595, 128⟩, ⟨false, 864475, 96⟩, ⟨true, 186225, 32⟩, ⟨false, 1800, 1⟩, ⟨false, 0, 1⟩, ⟨false, 0, 1⟩, ⟨false, 0, 1⟩, ⟨false, 0, 1⟩, ⟨false, 0, 1⟩, ⟨false, 0, 1⟩, ⟨false, 0, 1⟩, ⟨false, 0, 1⟩],
   [⟨true, 20, 3⟩, ⟨false, 6200, 63⟩, ⟨true, 911023, 1260⟩, ⟨false, 17647, 5⟩, ⟨true, 165193453, 12960⟩, ⟨false, 11534753, 324⟩, ⟨true, 3737291, 48⟩, ⟨false, 76135781, 576⟩, ⟨true, 65005835, 384⟩, ⟨false, 1236925, 8⟩, ⟨true, 2881725, 32⟩, ⟨false, 25200, 1⟩, ⟨false, 0, 1⟩, ⟨false, 0, 1⟩, ⟨false, 0, 1⟩, ⟨false, 0, 1⟩, ⟨false, 0, 1⟩, ⟨false, 0, 1⟩, ⟨false, 0, 1⟩, ⟨false, 0, 1⟩, ⟨false, 0, 1⟩],
   [⟨false, 60, 1⟩, ⟨true, 19300, 21⟩, ⟨false, 425867, 60⟩, ⟨true, 6628651, 180⟩, ⟨false, 205852141, 1440⟩, ⟨true, 69620397, 160⟩, ⟨false, 1369551833, 1296⟩, ⟨true, 392848147, 192⟩, ⟨false, 1194138763, 384⟩, ⟨true, 1379427455, 384⟩, ⟨false, 95203325, 32⟩, ⟨true, 50483475, 32⟩, ⟨false, 403200, 1⟩, ⟨false, 0, 1⟩, ⟨false, 0, 1⟩, ⟨false, 0, 1⟩, ⟨false, 0, 1⟩, ⟨false, 0, 1⟩, ⟨false, 0, 1⟩, ⟨false, 0, 1⟩, ⟨false, 0, 1⟩, ⟨false, 0, 1⟩, ⟨false, 0, 1⟩],
   [⟨true, 600, 1⟩, ⟨false, 200560, 21⟩, ⟨true, 464467, 6⟩, ⟨false, 38253659, 90⟩, ⟨true, 1267892141, 720⟩, ⟨false, 416217857, 72⟩, ⟨true, 198986957027, 12960⟩, ⟨false, 28634581279, 864⟩, ⟨true, 1846286621, 32⟩, ⟨false, 1907013577, 24⟩, ⟨true, 10705270275, 128⟩, ⟨false, 1014043975, 16⟩, ⟨true, 987243075, 32⟩, ⟨false, 7257600, 1⟩, ⟨false, 0, 1⟩, ⟨false, 0, 1⟩, ⟨false, 0, 1⟩, ⟨false, 0, 1⟩, ⟨false, 0, 1⟩, ⟨false, 0, 1⟩, ⟨false, 0, 1⟩, ⟨false, 0, 1⟩, ⟨false, 0, 1⟩, ⟨false, 0, 1⟩, ⟨false, 0, 1⟩],
   [⟨false, 6600, 1⟩, ⟨true, 2294360, 21⟩, ⟨false, 12990973, 14⟩, ⟨true, 241746647, 45⟩, ⟨false, 17007106271, 720⟩, ⟨true, 59730777821, 720⟩, ⟨false, 3087887098417, 12960⟩, ⟨true, 3655768176193, 6480⟩, ⟨false, 949231264343, 864⟩, ⟨true, 166991495333, 96⟩, ⟨false, 841469394787, 384⟩, ⟨true, 271225464475, 128⟩, ⟨false, 47365256925, 32⟩, ⟨true, 21312293625, 32⟩, ⟨false, 145152000, 1⟩, ⟨false, 0, 1⟩, ⟨false, 0, 1⟩, ⟨false, 0, 1⟩, ⟨false, 0, 1⟩, ⟨false, 0, 1⟩, ⟨false, 0, 1⟩, ⟨false, 0, 1⟩, ⟨false, 0, 1⟩, ⟨false, 0, 1⟩, ⟨false, 0, 1⟩, ⟨false, 0, 1⟩, ⟨false, 0, 1⟩],
   [⟨true, 79200, 1⟩, ⟨false, 9547040, 7⟩, ⟨true, 84828918, 7⟩, ⟨false, 7743229091, 105⟩, ⟨true, 61658171281, 180⟩, ⟨false, 19184471023, 15⟩, ⟨true, 8505274531853, 2160⟩, ⟨false, 13096885560647, 1296⟩, ⟨true, 9351155762251, 432⟩, ⟨false, 8305695431363, 216⟩, ⟨true, 2681631802511, 48⟩, ⟨false, 4151760971211, 64⟩, ⟨true, 7426816157425, 128⟩, ⟨false, 75190791375, 2⟩, ⟨true, 503296534125, 32⟩, ⟨false, 3193344000, 1⟩, ⟨false, 0, 1⟩, ⟨false, 0, 1⟩, ⟨false, 0, 1⟩, ⟨false, 0, 1⟩, ⟨false, 0, 1⟩, ⟨false, 0, 1⟩, ⟨false, 0, 1⟩, ⟨false, 0, 1⟩, ⟨false, 0, 1⟩, ⟨false, 0, 1⟩, ⟨false, 0, 1⟩, ⟨false, 0, 1⟩, ⟨false, 0, 1⟩],
   [⟨false, 1029600, 1⟩, ⟨true, 129101120, 7⟩, ⟨false, 1198246334, 7⟩, ⟨true, 16379821379, 15⟩, ⟨false, 1345183715135, 252⟩, ⟨true, 3794333706241, 180⟩, ⟨false, 149244462496457, 2160⟩, ⟨true, 15425436442193, 81⟩, ⟨false, 574245243698141, 1296⟩, ⟨true, 41657525463745, 48⟩, ⟨false, 68083995158095, 48⟩, ⟨true, 365722694868065, 192⟩, ⟨false, 262619048894965, 128⟩, ⟨true, 218521877729925, 128⟩, ⟨false, 33010013507625, 32⟩, ⟨true, 12904251388875, 32⟩, ⟨false, 76640256000, 1⟩, ⟨false, 0, 1⟩, ⟨false, 0, 1⟩, ⟨false, 0, 1⟩, ⟨false, 0, 1⟩, ⟨false, 0, 1⟩, ⟨false, 0, 1⟩, ⟨false, 0, 1⟩, ⟨false, 0, 1⟩, ⟨false, 0, 1⟩, ⟨false, 0, 1⟩, ⟨false, 0, 1⟩, ⟨false, 0, 1⟩, ⟨false, 0, 1⟩, ⟨false, 0, 1⟩],
   [⟨true, 14414400, 1⟩, ⟨false, 268498240, 1⟩, ⟨true, 18195560996, 7⟩, ⟨false, 1820906835262, 105⟩, ⟨true, 8003544643237, 90⟩, ⟨false, 16643127259681, 45⟩, ⟨true, 1386201271036889, 1080⟩, ⟨false, 1527513938442881, 405⟩, ⟨true, 6117576062025235, 648⟩, ⟨false, 724526639218393, 36⟩, ⟨true, 581556305341495, 16⟩, ⟨false, 1761139556800085, 32⟩, ⟨true, 2199196103170605, 32⟩, ⟨false, 2209231340977045, 32⟩, ⟨true, 6874563944215275, 128⟩, ⟨false, 486449921813625, 16⟩, ⟨true, 356941119409875, 32⟩, ⟨false, 1992646656000, 1⟩, ⟨false, 0, 1⟩, ⟨false, 0, 1⟩, ⟨false, 0, 1⟩, ⟨false, 0, 1⟩, ⟨false, 0, 1⟩, ⟨false, 0, 1⟩, ⟨false, 0, 1⟩, ⟨false, 0, 1⟩, ⟨false, 0, 1⟩, ⟨false, 0, 1⟩, ⟨false, 0, 1⟩, ⟨false, 0, 1⟩, ⟨false, 0, 1⟩, ⟨false, 0, 1⟩, ⟨false, 0, 1⟩],
   [⟨false, 216216000, 1⟩, ⟨true, 4186032000, 1⟩, ⟨false, 295487267100, 7⟩, ⟨true, 293921304030, 1⟩, ⟨false, 15767116852411, 10⟩, ⟨true, 13763266387533, 2⟩, ⟨false, 3020442214807871, 120⟩, ⟨true, 28221993048447451, 360⟩, ⟨false, 226260070595889163, 1080⟩, ⟨true, 311856137767445575, 648⟩, ⟨false, 136472232358573265, 144⟩, ⟨true, 50842458176344065, 32⟩, ⟨false, 71733011797160945, 32⟩, ⟨true, 41859990243789795, 16⟩, ⟨false, 315204667897025445, 128⟩, ⟨true, 230238089223016875, 128⟩, ⟨false, 30649512725456625, 32⟩, ⟨true, 10593880618946625, 32⟩, ⟨false, 55794106368000, 1⟩, ⟨false, 0, 1⟩, ⟨false, 0, 1⟩, ⟨false, 0, 1⟩, ⟨false, 0, 1⟩, ⟨false, 0, 1⟩, ⟨false, 0, 1⟩, ⟨false, 0, 1⟩, ⟨false, 0, 1⟩, ⟨false, 0, 1⟩, ⟨false, 0, 1⟩, ⟨false, 0, 1⟩, ⟨false, 0, 1⟩, ⟨false, 0, 1⟩, ⟨false, 0, 1⟩, ⟨false, 0, 1⟩, ⟨false, 0, 1⟩],
   [⟨true, 3459456000, 1⟩, ⟨false, 69571104000, 1⟩, ⟨true, 5108725185600, 7⟩, ⟨false, 5293715398680, 1⟩, ⟨true, 148181032621538, 5⟩, ⟨false, 676667590320608, 5⟩, ⟨true, 15591401788052399, 30⟩, ⟨false, 61465576837478425, 36⟩, ⟨true, 1045762946659146263, 216⟩, ⟨false, 1926204762857449789, 162⟩, ⟨true, 5458326540977877385, 216⟩, ⟨false, 3331523050292692255, 72⟩, ⟨true, 2317104726810488615, 32⟩, ⟨false, 382638996366642015, 4⟩, ⟨true, 1676909091888795765, 16⟩, ⟨false, 5939565396445465785, 64⟩, ⟨true, 8177997223450679625, 128⟩, ⟨false, 256922111553982875, 8⟩, ⟨true, 335789120409868125, 32⟩, ⟨false, 1673823191040000, 1⟩, ⟨false, 0, 1⟩, ⟨false, 0, 1⟩, ⟨false, 0, 1⟩, ⟨false, 0, 1⟩, ⟨false, 0, 1⟩, ⟨false, 0, 1⟩, ⟨false, 0, 1⟩, ⟨false, 0, 1⟩, ⟨false, 0, 1⟩, ⟨false, 0, 1⟩, ⟨false, 0, 1⟩, ⟨false, 0, 1⟩, ⟨false, 0, 1⟩, ⟨false, 0, 1⟩, ⟨false, 0, 1⟩, ⟨false, 0, 1⟩, ⟨false, 0, 1⟩],
   [⟨false, 58810752000, 1⟩, ⟨true, 1227681696000, 1⟩, ⟨false, 93666296347200, 7⟩, ⟨true, 706583010226920, 7⟩, ⟨false, 2942574786460546, 5⟩, ⟨true, 14022426590016482, 5⟩, ⟨false, 338133930151516447, 30⟩, ⟨true, 7001993835023639611, 180⟩, ⟨false, 25153839313702897471, 216⟩, ⟨true, 196864989513832800221, 648⟩, ⟨false, 447880672721327328067, 648⟩, ⟨true, 73862296501854621215, 54⟩, ⟨false, 224781078676701071525, 96⟩, ⟨true, 109966521676125529415, 32⟩, ⟨false, 68301910184240297565, 16⟩, ⟨true, 282078793663562860965, 64⟩, ⟨false, 471641614999607637585, 128⟩, ⟨true, 307044733822753051125, 128⟩, ⟨false, 36539068433445703125, 32⟩, ⟨true, 11320022548631671875, 32⟩, ⟨false, 53562342113280000, 1⟩, ⟨false, 0, 1⟩, ⟨false, 0, 1⟩, ⟨false, 0, 1⟩, ⟨false, 0, 1⟩, ⟨false, 0, 1⟩, ⟨false, 0, 1⟩, ⟨false, 0, 1⟩, ⟨false, 0, 1⟩, ⟨false, 0, 1⟩, ⟨false, 0, 1⟩, ⟨false, 0, 1⟩, ⟨false, 0, 1⟩, ⟨false, 0, 1⟩, ⟨false, 0, 1⟩, ⟨false, 0, 1⟩, ⟨false, 0, 1⟩, ⟨false, 0, 1⟩, ⟨false, 0, 1⟩]],
  [[⟨true, 1, 1440⟩, ⟨false, 6221, 604800⟩, ⟨true, 17063, 241920⟩, ⟨false, 187051, 622080⟩, ⟨true, 2235257, 2488320⟩, ⟨false, 182341, 92160⟩, ⟨true, 66773, 20736⟩, ⟨false, 8549, 2304⟩, ⟨true, 1045, 384⟩, ⟨false, 1105, 1152⟩, ⟨false, 0, 1⟩, ⟨false, 0, 1⟩, ⟨false, 0, 1⟩, ⟨false, 0, 1⟩, ⟨false, 0, 1⟩, ⟨false, 0, 1⟩],
   [⟨false, 1, 240⟩, ⟨true, 6221, 100800⟩, ⟨false, 131083, 302400⟩, ⟨true, 282347, 145152⟩, ⟨false, 2609359, 414720⟩, ⟨true, 3848027, 248832⟩, ⟨false, 1615391, 55296⟩, ⟨true, 71857, 1728⟩, ⟨false, 97463, 2304⟩, ⟨true, 5285, 192⟩, ⟨false, 1105, 128⟩, ⟨false, 0, 1⟩, ⟨false, 0, 1⟩, ⟨false, 0, 1⟩, ⟨false, 0, 1⟩, ⟨false, 0, 1⟩, ⟨false, 0, 1⟩, ⟨false, 0, 1⟩],
   [⟨true, 7, 240⟩, ⟨false, 6281, 14400⟩, ⟨true, 954907, 302400⟩, ⟨false, 54129713, 3628800⟩, ⟨true, 150446351, 2903040⟩, ⟨false, 17382133, 124416⟩, ⟨true, 49315319, 165888⟩, ⟨false, 27403705, 55296⟩, ⟨true, 4346147, 6912⟩, ⟨false, 440369, 768⟩, ⟨true, 128905, 384⟩, ⟨false, 12155, 128⟩, ⟨false, 0, 1⟩, ⟨false, 0, 1⟩, ⟨false, 0, 1⟩, ⟨false, 0, 1⟩, ⟨false, 0, 1⟩, ⟨false, 0, 1⟩, ⟨false, 0, 1⟩, ⟨false, 0, 1⟩],
   [⟨false, 7, 30⟩, ⟨true, 3193, 900⟩, ⟨false, 8034959, 302400⟩, ⟨true, 11971831, 90720⟩, ⟨false, 7889387, 16128⟩, ⟨true, 6221014399, 4354560⟩, ⟨false, 417566845, 124416⟩, ⟨true, 65763217, 10368⟩, ⟨false, 524786753, 55296⟩, ⟨true, 37584019, 3456⟩, ⟨false, 6906539, 768⟩, ⟨true, 153215, 32⟩, ⟨false, 158015, 128⟩, ⟨false, 0, 1⟩, ⟨false, 0, 1⟩, ⟨false, 0, 1⟩, ⟨false, 0, 1⟩, ⟨false, 0, 1⟩, ⟨false, 0, 1⟩, ⟨false, 0, 1⟩, ⟨false, 0, 1⟩, ⟨false, 0, 1⟩],
   [⟨true, 21, 10⟩, ⟨false, 3263, 100⟩, ⟨true, 25535341, 100800⟩, ⟨false, 15973189, 12096⟩, ⟨true, 1256616541, 241920⟩, ⟨false, 7877785669, 483840⟩, ⟨true, 181301671367, 4354560⟩, ⟨false, 1206725449, 13824⟩, ⟨true, 24691357051, 165888⟩, ⟨false, 11184753019, 55296⟩, ⟨true, 487148705, 2304⟩, ⟨false, 122879447, 768⟩, ⟨true, 10002175, 128⟩, ⟨false, 2370225, 128⟩, ⟨false, 0, 1⟩, ⟨false, 0, 1⟩, ⟨false, 0, 1⟩, ⟨false, 0, 1⟩, ⟨false, 0, 1⟩, ⟨false, 0, 1⟩, ⟨false, 0, 1⟩, ⟨false, 0, 1⟩, ⟨false, 0, 1⟩, ⟨false, 0, 1⟩],
   [⟨false, 21, 1⟩, ⟨true, 3347, 10⟩, ⟨false, 27179893, 10080⟩, ⟨true, 1113233347, 75600⟩, ⟨false, 164471243, 2688⟩, ⟨true, 49441860673, 241920⟩, ⟨false, 350159621837, 622080⟩, ⟨true, 280710093901, 217728⟩, ⟨false, 203100664889, 82944⟩, ⟨true, 105306479197, 27648⟩, ⟨false, 262317478447, 55296⟩, ⟨true, 41040880, 9⟩, ⟨false, 814440735, 256⟩, ⟨true, 91868525, 64⟩, ⟨false, 40293825, 128⟩, ⟨false, 0, 1⟩, ⟨false, 0, 1⟩, ⟨false, 0, 1⟩, ⟨false, 0, 1⟩, ⟨false, 0, 1⟩, ⟨false, 0, 1⟩, ⟨false, 0, 1⟩, ⟨false, 0, 1⟩, ⟨false, 0, 1⟩, ⟨false, 0, 1⟩, ⟨false, 0, 1⟩],
   [⟨true, 231, 1⟩, ⟨false, 37867, 10⟩, ⟨true, 319221479, 10080⟩, ⟨false, 27345022399, 151200⟩, ⟨true, 478313260633, 604800⟩, ⟨false, 677082174233, 241920⟩, ⟨true, 35861825802589, 4354560⟩, ⟨false, 88718511539669, 4354560⟩, ⟨true, 8207158067095, 193536⟩, ⟨false, 3057711228529, 41472⟩, ⟨true, 216076802979, 2048⟩, ⟨false, 745385445625, 6144⟩, ⟨true, 248733077245, 2304⟩, ⟨false, 17887707595, 256⟩, ⟨true, 3750498975, 128⟩, ⟨false, 765582675, 128⟩, ⟨false, 0, 1⟩, ⟨false, 0, 1⟩, ⟨false, 0, 1⟩, ⟨false, 0, 1⟩, ⟨false, 0, 1⟩, ⟨false, 0, 1⟩, ⟨false, 0, 1⟩, ⟨false, 0, 1⟩, ⟨false, 0, 1⟩, ⟨false, 0, 1⟩, ⟨false, 0, 1⟩, ⟨false, 0, 1⟩],
   [⟨false, 2772, 1⟩, ⟨true, 234132, 5⟩, ⟨false, 68297455, 168⟩, ⟨true, 10179079063, 4200⟩, ⟨false, 56034832783, 5040⟩, ⟨true, 89627135119, 2160⟩, ⟨false, 13438194764981, 103680⟩, ⟨true, 2966198508149, 8640⟩, ⟨false, 481324761161621, 622080⟩, ⟨true, 20438002981211, 13824⟩, ⟨false, 4098847147993, 1728⟩, ⟨true, 1609692657541, 512⟩, ⟨false, 20631011047465, 6144⟩, ⟨true, 356059322815, 128⟩, ⟨false, 429878419705, 256⟩, ⟨true, 5262310725, 8⟩, ⟨false, 16077236175, 128⟩, ⟨false, 0, 1⟩, ⟨false, 0, 1⟩, ⟨false, 0, 1⟩, ⟨false, 0, 1⟩, ⟨false, 0, 1⟩, ⟨false, 0, 1⟩, ⟨false, 0, 1⟩, ⟨false, 0, 1⟩, ⟨false, 0, 1⟩, ⟨false, 0, 1⟩, ⟨false, 0, 1⟩, ⟨false, 0, 1⟩, ⟨false, 0, 1⟩],
   [⟨true, 36036, 1⟩, ⟨false, 3140736, 5⟩, ⟨true, 4754007983, 840⟩, ⟨false, 73847477597, 2100⟩, ⟨true, 170120354987, 1008⟩, ⟨false, 2501304694417, 3780⟩, ⟨true, 226321761773297, 103680⟩, ⟨false, 637423499215997, 103680⟩, ⟨true, 1849429998263053, 124416⟩, ⟨false, 639203438714425, 20736⟩, ⟨true, 94161018886331, 1728⟩, ⟨false, 1122445334923939, 13824⟩, ⟨true, 615896757645901, 6144⟩, ⟨false, 614170227338395, 6144⟩, ⟨true, 19830792368765, 256⟩, ⟨false, 11216568075405, 256⟩, ⟨true, 2061337445475, 128⟩, ⟨false, 369776432025, 128⟩, ⟨false, 0, 1⟩, ⟨false, 0, 1⟩, ⟨false, 0, 1⟩, ⟨false, 0, 1⟩, ⟨false, 0, 1⟩, ⟨false, 0, 1⟩, ⟨false, 0, 1⟩, ⟨false, 0, 1⟩, ⟨false, 0, 1⟩, ⟨false, 0, 1⟩, ⟨false, 0, 1⟩, ⟨false, 0, 1⟩, ⟨false, 0, 1⟩, ⟨false, 0, 1⟩],
   [⟨false, 504504, 1⟩, ⟨true, 45411744, 5⟩, ⟨false, 5093207471, 60⟩, ⟨true, 384238295311, 700⟩, ⟨false, 34644995644127, 12600⟩, ⟨true, 42673681696253, 3780⟩, ⟨false, 14211394585523969, 362880⟩, ⟨true, 3023108413462529, 25920⟩, ⟨false, 291919085637271, 972⟩, ⟨true, 20820992206055137, 31104⟩, ⟨false, 26685509631048833, 20736⟩, ⟨true, 14636710704283405, 6912⟩, ⟨false, 81454418458801445, 27648⟩, ⟨true, 10458159167827775, 3072⟩, ⟨false, 6520240336670445, 2048⟩, ⟨true, 148327346292125, 64⟩, ⟨false, 315698514207615, 256⟩, ⟨true, 27324484369875, 64⟩, ⟨false, 9244410800625, 128⟩, ⟨false, 0, 1⟩, ⟨false, 0, 1⟩, ⟨false, 0, 1⟩, ⟨false, 0, 1⟩, ⟨false, 0, 1⟩, ⟨false, 0, 1⟩, ⟨false, 0, 1⟩, ⟨false, 0, 1⟩, ⟨false, 0, 1⟩, ⟨false, 0, 1⟩, ⟨false, 0, 1⟩, ⟨false, 0, 1⟩, ⟨false, 0, 1⟩, ⟨false, 0, 1⟩, ⟨false, 0, 1⟩],
   [⟨true, 7567560, 1⟩, ⟨false, 140775768, 1⟩, ⟨true, 5456501423, 4⟩, ⟨false, 1925160816533, 210⟩, ⟨true, 200890135483027, 4200⟩, ⟨false, 287118780909589, 1400⟩, ⟨true, 30058260775847063, 40320⟩, ⟨false, 6281656930444375, 2688⟩, ⟨true, 860090462866192, 135⟩, ⟨false, 471118865677502479, 31104⟩, ⟨true, 216711516979464713, 6912⟩, ⟨false, 291419166170670263, 5184⟩, ⟨true, 2392753133224694075, 27648⟩, ⟨false, 520399045881929995, 4608⟩, ⟨true, 753569818534592125, 6144⟩, ⟨false, 221162653963640235, 2048⟩, ⟨true, 18974902957158225, 256⟩, ⟨false, 9531931917382875, 256⟩, ⟨true, 1559539349242875, 128⟩, ⟨false, 249599091616875, 128⟩, ⟨false, 0, 1⟩, ⟨false, 0, 1⟩, ⟨false, 0, 1⟩, ⟨false, 0, 1⟩, ⟨false, 0, 1⟩, ⟨false, 0, 1⟩, ⟨false, 0, 1⟩, ⟨false, 0, 1⟩, ⟨false, 0, 1⟩, ⟨false, 0, 1⟩, ⟨false, 0, 1⟩, ⟨false, 0, 1⟩, ⟨false, 0, 1⟩, ⟨false, 0, 1⟩, ⟨false, 0, 1⟩, ⟨false, 0, 1⟩],
   [⟨false, 121080960, 1⟩, ⟨true, 2328087888, 1⟩, ⟨false, 23374539140, 1⟩, ⟨true, 17120084480509, 105⟩, ⟨false, 928695995006753, 1050⟩, ⟨true, 331883267608453, 84⟩, ⟨false, 18905233930202983, 1260⟩, ⟨true, 15535389341564086, 315⟩, ⟨false, 17135724427439675387, 120960⟩, ⟨true, 3470271568262097227, 9720⟩, ⟨false, 24554487670394006437, 31104⟩, ⟨true, 7913379413422694903, 5184⟩, ⟨false, 1108171824104846479, 432⟩, ⟨true, 51299438667804274585, 13824⟩, ⟨false, 21012015877699495385, 4608⟩, ⟨true, 1195895126461872595, 256⟩, ⟨false, 7957853927607258675, 2048⟩, ⟨true, 322929193782119925, 128⟩, ⟨false, 307267420945109625, 256⟩, ⟨true, 11915171811167625, 32⟩, ⟨false, 7238373656889375, 128⟩, ⟨false, 0, 1⟩, ⟨false, 0, 1⟩, ⟨false, 0, 1⟩, ⟨false, 0, 1⟩, ⟨false, 0, 1⟩, ⟨false, 0, 1⟩, ⟨false, 0, 1⟩, ⟨false, 0, 1⟩, ⟨false, 0, 1⟩, ⟨false, 0, 1⟩, ⟨false, 0, 1⟩, ⟨false, 0, 1⟩, ⟨false, 0, 1⟩, ⟨false, 0, 1⟩, ⟨false, 0, 1⟩, ⟨false, 0, 1⟩, ⟨false, 0, 1⟩],
   [⟨true, 2058376320, 1⟩, ⟨false, 40909384656, 1⟩, ⟨true, 425304220036, 1⟩, ⟨false, 322947682094753, 105⟩, ⟨true, 6061547914128687, 350⟩, ⟨false, 4826036245251289, 60⟩, ⟨true, 401040961039479431, 1260⟩, ⟨false, 1377795452039808559, 1260⟩, ⟨true, 398687926395365444011, 120960⟩, ⟨false, 1907521188612643522277, 217728⟩, ⟨true, 639523670765472331957, 31104⟩, ⟨false, 146978771249709890587, 3456⟩, ⟨true, 200080699606343984791, 2592⟩, ⟨false, 562568306631279892163, 4608⟩, ⟨true, 255866593087775206075, 1536⟩, ⟨false, 891244305639820398695, 4608⟩, ⟨true, 384029703073392897235, 2048⟩, ⟨false, 302698796754132603825, 2048⟩, ⟨true, 23307581007865579425, 256⟩, ⟨false, 10531218573726976125, 256⟩, ⟨true, 1552872969507234375, 128⟩, ⟨false, 224389583363570625, 128⟩, ⟨false, 0, 1⟩, ⟨false, 0, 1⟩, ⟨false, 0, 1⟩, ⟨false, 0, 1⟩, ⟨false, 0, 1⟩, ⟨false, 0, 1⟩, ⟨false, 0, 1⟩, ⟨false, 0, 1⟩, ⟨false, 0, 1⟩, ⟨false, 0, 1⟩, ⟨false, 0, 1⟩, ⟨false, 0, 1⟩, ⟨false, 0, 1⟩, ⟨false, 0, 1⟩, ⟨false, 0, 1⟩, ⟨false, 0, 1⟩, ⟨false, 0, 1⟩, ⟨false, 0, 1⟩]],
  [[⟨false, 1, 1056⟩, ⟨true, 181, 12096⟩, ⟨false, 32821, 290304⟩, ⟨true, 667199, 1209600⟩, ⟨false, 114641981, 58060800⟩, ⟨true, 578872613, 104509440⟩, ⟨false, 374564131, 29859840⟩, ⟨true, 229328099, 9953280⟩, ⟨false, 2805265, 82944⟩, ⟨true, 3182161, 82944⟩, ⟨false, 145883, 4608⟩, ⟨true, 26015, 1536⟩, ⟨false, 565, 128⟩, ⟨false, 0, 1⟩, ⟨false, 0, 1⟩, ⟨false, 0, 1⟩, ⟨false, 0, 1⟩, ⟨false, 0, 1⟩, ⟨false, 0, 1⟩, ⟨false, 0, 1⟩, ⟨false, 0, 1⟩],
   [⟨true, 1, 132⟩, ⟨false, 181, 1512⟩, ⟨true, 8341, 9072⟩, ⟨false, 16833301, 3628800⟩, ⟨true, 126651563, 7257600⟩, ⟨false, 6820503959, 130636800⟩, ⟨true, 13382158733, 104509440⟩, ⟨false, 430625509, 1658880⟩, ⟨true, 4298351093, 9953280⟩, ⟨false, 2993713, 5184⟩, ⟨true, 612921, 1024⟩, ⟨false, 1041595, 2304⟩, ⟨true, 340405, 1536⟩, ⟨false, 1695, 32⟩, ⟨false, 0, 1⟩, ⟨false, 0, 1⟩, ⟨false, 0, 1⟩, ⟨false, 0, 1⟩, ⟨false, 0, 1⟩, ⟨false, 0, 1⟩, ⟨false, 0, 1⟩, ⟨false, 0, 1⟩, ⟨false, 0, 1⟩],
   [⟨false, 3, 44⟩, ⟨true, 2005, 1848⟩, ⟨false, 25747, 3024⟩, ⟨true, 53836303, 1209600⟩, ⟨false, 50981219, 290304⟩, ⟨true, 8087019589, 14515200⟩, ⟨false, 255296412667, 174182400⟩, ⟨true, 24131412481, 7464960⟩, ⟨false, 19785061423, 3317760⟩, ⟨true, 10046280053, 1105920⟩, ⟨false, 925813489, 82944⟩, ⟨true, 10908511, 1024⟩, ⟨false, 11396405, 1536⟩, ⟨true, 5157505, 1536⟩, ⟨false, 11865, 16⟩, ⟨false, 0, 1⟩, ⟨false, 0, 1⟩, ⟨false, 0, 1⟩, ⟨false, 0, 1⟩, ⟨false, 0, 1⟩, ⟨false, 0, 1⟩, ⟨false, 0, 1⟩, ⟨false, 0, 1⟩, ⟨false, 0, 1⟩, ⟨false, 0, 1⟩],
   [⟨true, 15, 22⟩, ⟨false, 10151, 924⟩, ⟨true, 367555, 4158⟩, ⟨false, 57955823, 120960⟩, ⟨true, 179504923, 90720⟩, ⟨false, 9616456159, 1451520⟩, ⟨true, 1616136886073, 87091200⟩, ⟨false, 5754775660177, 130636800⟩, ⟨true, 147188132077, 1658880⟩, ⟨false, 24961950791, 165888⟩, ⟨true, 701852637349, 3317760⟩, ⟨false, 3324275963, 13824⟩, ⟨true, 653360029, 3072⟩, ⟨false, 13195295, 96⟩, ⟨true, 29584325, 512⟩, ⟨false, 11865, 1⟩, ⟨false, 0, 1⟩, ⟨false, 0, 1⟩, ⟨false, 0, 1⟩, ⟨false, 0, 1⟩, ⟨false, 0, 1⟩, ⟨false, 0, 1⟩, ⟨false, 0, 1⟩, ⟨false, 0, 1⟩, ⟨false, 0, 1⟩, ⟨false, 0, 1⟩, ⟨false, 0, 1⟩],
   [⟨false, 15, 2⟩, ⟨true, 113551, 924⟩, ⟨false, 603689, 594⟩, ⟨true, 361940123, 63360⟩, ⟨false, 638672959, 25920⟩, ⟨true, 8392371275, 96768⟩, ⟨false, 22393404703123, 87091200⟩, ⟨true, 34048152089573, 52254720⟩, ⟨false, 148039580810777, 104509440⟩, ⟨true, 1454961346619, 552960⟩, ⟨false, 13711247200679, 3317760⟩, ⟨true, 17900172827857, 3317760⟩, ⟨false, 157762369835, 27648⟩, ⟨true, 14445144275, 3072⟩, ⟨false, 4354278245, 1536⟩, ⟨true, 569757205, 512⟩, ⟨false, 213570, 1⟩, ⟨false, 0, 1⟩, ⟨false, 0, 1⟩, ⟨false, 0, 1⟩, ⟨false, 0, 1⟩, ⟨false, 0, 1⟩, ⟨false, 0, 1⟩, ⟨false, 0, 1⟩, ⟨false, 0, 1⟩, ⟨false, 0, 1⟩, ⟨false, 0, 1⟩, ⟨false, 0, 1⟩, ⟨false, 0, 1⟩],
   [⟨true, 90, 1⟩, ⟨false, 115861, 77⟩, ⟨true, 35509849, 2772⟩, ⟨false, 1182410609, 15840⟩, ⟨true, 12760792595, 38016⟩, ⟨false, 449188078783, 362880⟩, ⟨true, 7014563828437, 1814400⟩, ⟨false, 90489708882269, 8709120⟩, ⟨true, 252553431569993, 10450944⟩, ⟨false, 52878409415221, 1088640⟩, ⟨true, 3089132793827, 36864⟩, ⟨false, 40675953474379, 331776⟩, ⟨true, 33045360332017, 221184⟩, ⟨false, 1021068374765, 6912⟩, ⟨true, 350070130555, 3072⟩, ⟨false, 16481377965, 256⟩, ⟨true, 12137560975, 512⟩, ⟨false, 4271400, 1⟩, ⟨false, 0, 1⟩, ⟨false, 0, 1⟩, ⟨false, 0, 1⟩, ⟨false, 0, 1⟩, ⟨false, 0, 1⟩, ⟨false, 0, 1⟩, ⟨false, 0, 1⟩, ⟨false, 0, 1⟩, ⟨false, 0, 1⟩, ⟨false, 0, 1⟩, ⟨false, 0, 1⟩, ⟨false, 0, 1⟩, ⟨false, 0, 1⟩],
   [⟨false, 1170, 1⟩, ⟨true, 1540843, 77⟩, ⟨false, 486654013, 2772⟩, ⟨true, 5597243959, 5280⟩, ⟨false, 942962937139, 190080⟩, ⟨true, 19073211067061, 997920⟩, ⟨false, 12627637078759, 201600⟩, ⟨true, 1104810846864979, 6220800⟩, ⟨false, 22931232091572913, 52254720⟩, ⟨true, 7058871503878207, 7464960⟩, ⟨false, 8805646255740529, 4976640⟩, ⟨true, 236455080583393, 82944⟩, ⟨false, 2590399564128791, 663552⟩, ⟨true, 328845189848843, 73728⟩, ⟨false, 12719458695335, 3072⟩, ⟨true, 9222427443085, 3072⟩, ⟨false, 817043411275, 512⟩, ⟨true, 283319218875, 512⟩, ⟨false, 93970800, 1⟩, ⟨false, 0, 1⟩, ⟨false, 0, 1⟩, ⟨false, 0, 1⟩, ⟨false, 0, 1⟩, ⟨false, 0, 1⟩, ⟨false, 0, 1⟩, ⟨false, 0, 1⟩, ⟨false, 0, 1⟩, ⟨false, 0, 1⟩, ⟨false, 0, 1⟩, ⟨false, 0, 1⟩, ⟨false, 0, 1⟩, ⟨false, 0, 1⟩, ⟨false, 0, 1⟩],
   [⟨true, 16380, 1⟩, ⟨false, 3158906, 11⟩, ⟨true, 514389187, 198⟩, ⟨false, 900659504053, 55440⟩, ⟨true, 7507494081331, 95040⟩, ⟨false, 8221571665939, 25920⟩, ⟨true, 986273246632427, 907200⟩, ⟨false, 14100229830091127, 4354560⟩, ⟨true, 78871891742799373, 9331200⟩, ⟨false, 36171666309360181, 1866240⟩, ⟨true, 16155646884929123, 414720⟩, ⟨false, 42439075972737323, 622080⟩, ⟨true, 34211742428572261, 331776⟩, ⟨false, 1223078973267673, 9216⟩, ⟨true, 10521796728760577, 73728⟩, ⟨false, 63917193018315, 512⟩, ⟨true, 87434207617295, 1024⟩, ⟨false, 5485356028075, 128⟩, ⟨true, 7189924728525, 512⟩, ⟨false, 2255299200, 1⟩, ⟨false, 0, 1⟩, ⟨false, 0, 1⟩, ⟨false, 0, 1⟩, ⟨false, 0, 1⟩, ⟨false, 0, 1⟩, ⟨false, 0, 1⟩, ⟨false, 0, 1⟩, ⟨false, 0, 1⟩, ⟨false, 0, 1⟩, ⟨false, 0, 1⟩, ⟨false, 0, 1⟩, ⟨false, 0, 1⟩, ⟨false, 0, 1⟩, ⟨false, 0, 1⟩, ⟨false, 0, 1⟩],
   [⟨false, 245700, 1⟩, ⟨true, 48644850, 11⟩, ⟨false, 2723573423, 66⟩, ⟨true, 987076887469, 3696⟩, ⟨false, 1810840442477, 1344⟩, ⟨true, 8102558735171, 1440⟩, ⟨false, 45054713084397, 2240⟩, ⟨true, 151692721134016861, 2419200⟩, ⟨false, 107072351402981627, 622080⟩, ⟨true, 43288370548266713, 103680⟩, ⟨false, 3338505651364957397, 3732480⟩, ⟨true, 233012252257056107, 138240⟩, ⟨false, 511439592092701231, 184320⟩, ⟨true, 1310485751707416379, 331776⟩, ⟨false, 353519586654236335, 73728⟩, ⟨true, 119672956074510839, 24576⟩, ⟨false, 4123869607065285, 1024⟩, ⟨true, 2669229498566785, 1024⟩, ⟨false, 634443049623075, 512⟩, ⟨true, 197068816069125, 512⟩, ⟨false, 58637779200, 1⟩, ⟨false, 0, 1⟩, ⟨false, 0, 1⟩, ⟨false, 0, 1⟩, ⟨false, 0, 1⟩, ⟨false, 0, 1⟩, ⟨false, 0, 1⟩, ⟨false, 0, 1⟩, ⟨false, 0, 1⟩, ⟨false, 0, 1⟩, ⟨false, 0, 1⟩, ⟨false, 0, 1⟩, ⟨false, 0, 1⟩, ⟨false, 0, 1⟩, ⟨false, 0, 1⟩, ⟨false, 0, 1⟩, ⟨false, 0, 1⟩],
   [⟨true, 3931200, 1⟩, ⟨false, 799939200, 11⟩, ⟨true, 23101998334, 33⟩, ⟨false, 98400177934, 21⟩, ⟨true, 2743479552459, 112⟩, ⟨false, 535231109081041, 5040⟩, ⟨true, 796254437395429, 2016⟩, ⟨false, 97134712499386013, 75600⟩, ⟨true, 16087806827752397471, 4354560⟩, ⟨false, 73360514938516381, 7776⟩, ⟨true, 19977143299344636677, 933120⟩, ⟨false, 1786159941106860793, 41472⟩, ⟨true, 2112901579599296161, 27648⟩, ⟨false, 9844899335663976595, 82944⟩, ⟨true, 17657870341653586693, 110592⟩, ⟨false, 6760866398984859821, 36864⟩, ⟨true, 4336043918826818737, 24576⟩, ⟨false, 17710067818329425, 128⟩, ⟨true, 87032915052108025, 1024⟩, ⟨false, 9824310173652975, 256⟩, ⟨true, 5801218721072775, 512⟩, ⟨false, 1641857817600, 1⟩, ⟨false, 0, 1⟩, ⟨false, 0, 1⟩, ⟨false, 0, 1⟩, ⟨false, 0, 1⟩, ⟨false, 0, 1⟩, ⟨false, 0, 1⟩, ⟨false, 0, 1⟩, ⟨false, 0, 1⟩, ⟨false, 0, 1⟩, ⟨false, 0, 1⟩, ⟨false, 0, 1⟩, ⟨false, 0, 1⟩, ⟨false, 0, 1⟩, ⟨false, 0, 1⟩, ⟨false, 0, 1⟩, ⟨false, 0, 1⟩, ⟨false, 0, 1⟩],
   [⟨false, 66830400, 1⟩, ⟨true, 13988155200, 11⟩, ⟨false, 37884740698, 3⟩, ⟨true, 611505671072, 7⟩, ⟨false, 52936763779579, 112⟩, ⟨true, 382280871163079, 180⟩, ⟨false, 82668098232880613, 10080⟩, ⟨true, 599766638149854581, 21600⟩, ⟨false, 259294333650874933277, 3110400⟩, ⟨true, 971884818286466704127, 4354560⟩, ⟨false, 498070148356054206469, 933120⟩, ⟨true, 2125543800321844700371, 1866240⟩, ⟨false, 179204378203838535931, 82944⟩, ⟨true, 150238044110521630129, 41472⟩, ⟨false, 1766902528962762861703, 331776⟩, ⟨true, 375467602103130172405, 55296⟩, ⟨false, 181886609003813675665, 24576⟩, ⟨true, 166206759329697711625, 24576⟩, ⟨false, 5163253662098356825, 1024⟩, ⟨true, 3017941798215318975, 1024⟩, ⟨false, 648782087982803775, 512⟩, ⟨true, 182526073355500875, 512⟩, ⟨false, 49255734528000, 1⟩, ⟨false, 0, 1⟩, ⟨false, 0, 1⟩, ⟨false, 0, 1⟩, ⟨false, 0, 1⟩, ⟨false, 0, 1⟩, ⟨false, 0, 1⟩, ⟨false, 0, 1⟩, ⟨false, 0, 1⟩, ⟨false, 0, 1⟩, ⟨false, 0, 1⟩, ⟨false, 0, 1⟩, ⟨false, 0, 1⟩, ⟨false, 0, 1⟩, ⟨false, 0, 1⟩, ⟨false, 0, 1⟩, ⟨false, 0, 1⟩, ⟨false, 0, 1⟩, ⟨false, 0, 1⟩]],
  [[⟨true, 691, 327600⟩, ⟨false, 441541, 12700800⟩, ⟨true, 24719227, 88704000⟩, ⟨false, 106613887, 72576000⟩, ⟨true, 3031168109, 522547200⟩, ⟨false, 6419764103, 348364800⟩, ⟨true, 614429790997, 12541132800⟩, ⟨false, 835339878797, 7524679680⟩, ⟨true, 1079372228279, 5016453120⟩, ⟨false, 253843871663, 716636160⟩, ⟨true, 9702562787, 19906560⟩, ⟨false, 241682111, 442368⟩, ⟨true, 159107029, 331776⟩, ⟨false, 1266935, 4096⟩, ⟨true, 400565, 3072⟩, ⟨false, 82825, 3072⟩, ⟨false, 0, 1⟩, ⟨false, 0, 1⟩, ⟨false, 0, 1⟩, ⟨false, 0, 1⟩, ⟨false, 0, 1⟩, ⟨false, 0, 1⟩, ⟨false, 0, 1⟩, ⟨false, 0, 1⟩, ⟨false, 0, 1⟩, ⟨false, 0, 1⟩],
   [⟨false, 691, 32760⟩, ⟨true, 441541, 1270080⟩, ⟨false, 315347821, 111767040⟩, ⟨true, 217365601, 14256000⟩, ⟨false, 81536352623, 1306368000⟩, ⟨true, 108421133981, 522547200⟩, ⟨false, 729985544851, 1254113280⟩, ⟨true, 13206682544449, 9405849600⟩, ⟨false, 5509490643941, 1881169920⟩, ⟨true, 1466891602369, 278691840⟩, ⟨false, 641946383143, 79626240⟩, ⟨true, 10289128891, 995328⟩, ⟨false, 14339790823, 1327104⟩, ⟨true, 489250283, 55296⟩, ⟨false, 65433065, 12288⟩, ⟨true, 100565, 48⟩, ⟨false, 414125, 1024⟩, ⟨false, 0, 1⟩, ⟨false, 0, 1⟩, ⟨false, 0, 1⟩, ⟨false, 0, 1⟩, ⟨false, 0, 1⟩, ⟨false, 0, 1⟩, ⟨false, 0, 1⟩, ⟨false, 0, 1⟩, ⟨false, 0, 1⟩, ⟨false, 0, 1⟩, ⟨false, 0, 1⟩],
   [⟨true, 7601, 32760⟩, ⟨false, 63488627, 16511040⟩, ⟨true, 322412477, 10160640⟩, ⟨false, 492291322331, 2794176000⟩, ⟨true, 2148463354123, 2874009600⟩, ⟨false, 1355705179037, 522547200⟩, ⟨true, 47955526613437, 6270566400⟩, ⟨false, 367195498187233, 18811699200⟩, ⟨true, 408675445772347, 9405849600⟩, ⟨false, 70445385453941, 836075520⟩, ⟨true, 78767703549391, 557383680⟩, ⟨false, 5371947879551, 26542080⟩, ⟨true, 11939398567, 49152⟩, ⟨false, 315579355411, 1327104⟩, ⟨true, 20176881359, 110592⟩, ⟨false, 1264687015, 12288⟩, ⟨true, 116644685, 3072⟩, ⟨false, 7040125, 1024⟩, ⟨false, 0, 1⟩, ⟨false, 0, 1⟩, ⟨false, 0, 1⟩, ⟨false, 0, 1⟩, ⟨false, 0, 1⟩, ⟨false, 0, 1⟩, ⟨false, 0, 1⟩, ⟨false, 0, 1⟩, ⟨false, 0, 1⟩, ⟨false, 0, 1⟩, ⟨false, 0, 1⟩, ⟨false, 0, 1⟩],
   [⟨false, 7601, 2730⟩, ⟨true, 64127111, 1375920⟩, ⟨false, 95963099, 244608⟩, ⟨true, 195692174771, 87318000⟩, ⟨false, 8258058722927, 838252800⟩, ⟨true, 1706122032353, 47900160⟩, ⟨false, 2393560952779, 21772800⟩, ⟨true, 154368850471369, 522547200⟩, ⟨false, 174839602429619, 250822656⟩, ⟨true, 2719376298801101, 1881169920⟩, ⟨false, 2192717903882389, 836075520⟩, ⟨true, 95789304509981, 23224320⟩, ⟨false, 147202625148323, 26542080⟩, ⟨true, 1383340820543, 221184⟩, ⟨false, 2546387082287, 442368⟩, ⟨true, 114854074841, 27648⟩, ⟨false, 27098624135, 12288⟩, ⟨true, 392174805, 512⟩, ⟨false, 133762375, 1024⟩, ⟨false, 0, 1⟩, ⟨false, 0, 1⟩, ⟨false, 0, 1⟩, ⟨false, 0, 1⟩, ⟨false, 0, 1⟩, ⟨false, 0, 1⟩, ⟨false, 0, 1⟩, ⟨false, 0, 1⟩, ⟨false, 0, 1⟩, ⟨false, 0, 1⟩, ⟨false, 0, 1⟩, ⟨false, 0, 1⟩, ⟨false, 0, 1⟩],
   [⟨true, 7601, 210⟩, ⟨false, 169029031, 275184⟩, ⟨true, 8312925781, 1572480⟩, ⟨false, 282388970542267, 9081072000⟩, ⟨true, 84733309046329, 598752000⟩, ⟨false, 127414049548799, 239500800⟩, ⟨true, 410524097541517, 239500800⟩, ⟨false, 2523804221928061, 522547200⟩, ⟨true, 15069426569238091, 1254113280⟩, ⟨false, 14221759738530823, 537477120⟩, ⟨true, 129026019032230787, 2508226560⟩, ⟨false, 2095277921746919, 23887872⟩, ⟨true, 689252599817579, 5308416⟩, ⟨false, 32341118942755, 196608⟩, ⟨true, 8596659814123, 49152⟩, ⟨false, 22392742655269, 147456⟩, ⟨true, 423704904161, 4096⟩, ⟨false, 637232397725, 12288⟩, ⟨true, 17425903075, 1024⟩, ⟨false, 2809009875, 1024⟩, ⟨false, 0, 1⟩, ⟨false, 0, 1⟩, ⟨false, 0, 1⟩, ⟨false, 0, 1⟩, ⟨false, 0, 1⟩, ⟨false, 0, 1⟩, ⟨false, 0, 1⟩, ⟨false, 0, 1⟩, ⟨false, 0, 1⟩, ⟨false, 0, 1⟩, ⟨false, 0, 1⟩, ⟨false, 0, 1⟩, ⟨false, 0, 1⟩, ⟨false, 0, 1⟩],
   [⟨false, 7601, 15⟩, ⟨true, 859374227, 98280⟩, ⟨false, 424236266369, 5503680⟩, ⟨true, 151481730925121, 324324000⟩, ⟨false, 427894901742137, 194594400⟩, ⟨true, 570817578508733, 66528000⟩, ⟨false, 6894063811520429, 239500800⟩, ⟨true, 243595816793442737, 2874009600⟩, ⟨false, 694001008570585211, 3135283200⟩, ⟨true, 193623181086859193, 376233984⟩, ⟨false, 28598046684879653, 26873856⟩, ⟨true, 174515100407828641, 89579520⟩, ⟨false, 12475347102451877, 3981312⟩, ⟨true, 11626492278721327, 2654208⟩, ⟨false, 1031211971617723, 196608⟩, ⟨true, 97214753392051, 18432⟩, ⟨false, 639009382147255, 147456⟩, ⟨true, 17171773908905, 6144⟩, ⟨false, 5436477356275, 4096⟩, ⟨true, 105674001475, 256⟩, ⟨false, 64607227125, 1024⟩, ⟨false, 0, 1⟩, ⟨false, 0, 1⟩, ⟨false, 0, 1⟩, ⟨false, 0, 1⟩, ⟨false, 0, 1⟩, ⟨false, 0, 1⟩, ⟨false, 0, 1⟩, ⟨false, 0, 1⟩, ⟨false, 0, 1⟩, ⟨false, 0, 1⟩, ⟨false, 0, 1⟩, ⟨false, 0, 1⟩, ⟨false, 0, 1⟩, ⟨false, 0, 1⟩, ⟨false, 0, 1⟩],
   [⟨true, 7601, 1⟩, ⟨false, 875974811, 6552⟩, ⟨true, 739143748423, 611520⟩, ⟨false, 36255161833393, 4804800⟩, ⟨true, 3969742130318131, 108108000⟩, ⟨false, 25685044775777683, 172972800⟩, ⟨true, 41320129999706941, 79833600⟩, ⟨false, 1521317891674112561, 958003200⟩, ⟨true, 7123236382495348283, 1642291200⟩, ⟨false, 2768742562272917239, 261273600⟩, ⟨true, 155648470340013497, 6718464⟩, ⟨false, 809525768072282453, 17915904⟩, ⟨true, 14005342507205533487, 179159040⟩, ⟨false, 947353954025823533, 7962624⟩, ⟨true, 92910507837682843, 589824⟩, ⟨false, 35147388003464897, 196608⟩, ⟨true, 25139501274936985, 147456⟩, ⟨false, 6533678544099385, 49152⟩, ⟨true, 1000199533024195, 12288⟩, ⟨false, 150400739548325, 4096⟩, ⟨true, 11113812548475, 1024⟩, ⟨false, 1615180678125, 1024⟩, ⟨false, 0, 1⟩, ⟨false, 0, 1⟩, ⟨false, 0, 1⟩, ⟨false, 0, 1⟩, ⟨false, 0, 1⟩, ⟨false, 0, 1⟩, ⟨false, 0, 1⟩, ⟨false, 0, 1⟩, ⟨false, 0, 1⟩, ⟨false, 0, 1⟩, ⟨false, 0, 1⟩, ⟨false, 0, 1⟩, ⟨false, 0, 1⟩, ⟨false, 0, 1⟩, ⟨false, 0, 1⟩, ⟨false, 0, 1⟩],
   [⟨false, 121616, 1⟩, ⟨true, 1789300936, 819⟩, ⟨false, 4649476319233, 229320⟩, ⟨true, 182741723943589, 1401400⟩, ⟨false, 141715088712704357, 216216000⟩, ⟨true, 14827393453047907, 5405400⟩, ⟨false, 5144899997570185403, 518918400⟩, ⟨true, 17210900560649773, 544320⟩, ⟨false, 258782016485160141803, 2874009600⟩, ⟨true, 29414132548051976311, 127733760⟩, ⟨false, 249082335962183882093, 470292480⟩, ⟨true, 3673765066936955335, 3359232⟩, ⟨false, 60284143447929425467, 29859840⟩, ⟨true, 10984140529240668049, 3317760⟩, ⟨false, 38068394819430141215, 7962624⟩, ⟨true, 886321195229992979, 147456⟩, ⟨false, 3823213525814255551, 589824⟩, ⟨true, 433342799082692075, 73728⟩, ⟨false, 71429125542611445, 16384⟩, ⟨true, 1301001012120845, 512⟩, ⟨false, 4471302491810525, 4096⟩, ⟨true, 157401008555175, 512⟩, ⟨false, 43609878309375, 1024⟩, ⟨false, 0, 1⟩, ⟨false, 0, 1⟩, ⟨false, 0, 1⟩, ⟨false, 0, 1⟩, ⟨false, 0, 1⟩, ⟨false, 0, 1⟩, ⟨false, 0, 1⟩, ⟨false, 0, 1⟩, ⟨false, 0, 1⟩, ⟨false, 0, 1⟩, ⟨false, 0, 1⟩, ⟨false, 0, 1⟩, ⟨false, 0, 1⟩, ⟨false, 0, 1⟩, ⟨false, 0, 1⟩, ⟨false, 0, 1⟩, ⟨false, 0, 1⟩],
   [⟨true, 2067472, 1⟩, ⟨false, 31115340440, 819⟩, ⟨true, 83049131523601, 229320⟩, ⟨false, 17154747472443, 7150⟩, ⟨true, 18837706175402579683, 1513512000⟩, ⟨false, 431166426811567581, 8008000⟩, ⟨true, 1608376264870836011, 7983360⟩, ⟨false, 79803468089540707229, 119750400⟩, ⟨true, 5671524049690953630811, 2874009600⟩, ⟨false, 2017684792920971075467, 383201280⟩, ⟨true, 9376964959438009514417, 739031040⟩, ⟨false, 12977960570667079692881, 470292480⟩, ⟨true, 537544283108237695513, 9953280⟩, ⟨false, 282597222648448129537, 2985984⟩, ⟨true, 1174401457333864467007, 7962624⟩, ⟨false, 537693049476388840079, 2654208⟩, ⟨true, 142990895119081726519, 589824⟩, ⟨false, 146868531768973999873, 589824⟩, ⟨true, 10576370187996256895, 49152⟩, ⟨false, 2493472689159025805, 16384⟩, ⟨true, 346620352881914685, 4096⟩, ⟨false, 142131704442387975, 4096⟩, ⟨true, 9555824410349175, 1024⟩, ⟨false, 1264686470971875, 1024⟩, ⟨false, 0, 1⟩, ⟨false, 0, 1⟩, ⟨false, 0, 1⟩, ⟨false, 0, 1⟩, ⟨false, 0, 1⟩, ⟨false, 0, 1⟩, ⟨false, 0, 1⟩, ⟨false, 0, 1⟩, ⟨false, 0, 1⟩, ⟨false, 0, 1⟩, ⟨false, 0, 1⟩, ⟨false, 0, 1⟩, ⟨false, 0, 1⟩, ⟨false, 0, 1⟩, ⟨false, 0, 1⟩, ⟨false, 0, 1⟩, ⟨false, 0, 1⟩, ⟨false, 0, 1⟩]]]
def hf10 : List (List FQ) := [[⟨false, 1, 2⟩],
  [⟨false, 1, 2⟩, ⟨false, 1, 2⟩],
  [⟨false, 1, 2⟩, ⟨false, 1, 1⟩, ⟨false, 1, 2⟩],
  [⟨false, 1, 2⟩, ⟨false, 3, 2⟩, ⟨false, 3, 2⟩, ⟨false, 1, 2⟩],
  [⟨false, 1, 2⟩, ⟨false, 2, 1⟩, ⟨false, 3, 1⟩, ⟨false, 2, 1⟩, ⟨false, 1, 2⟩],
  [⟨false, 1, 2⟩, ⟨false, 5, 2⟩, ⟨false, 5, 1⟩, ⟨false, 5, 1⟩, ⟨false, 5, 2⟩, ⟨false, 1, 2⟩],
  [⟨false, 1, 2⟩, ⟨false, 3, 1⟩, ⟨false, 15, 2⟩, ⟨false, 10, 1⟩, ⟨false, 15, 2⟩, ⟨false, 3, 1⟩, ⟨false, 1, 2⟩],
  [⟨false, 1, 2⟩, ⟨false, 7, 2⟩, ⟨false, 21, 2⟩, ⟨false, 35, 2⟩, ⟨false, 35, 2⟩, ⟨false, 21, 2⟩, ⟨false, 7, 2⟩, ⟨false, 1, 2⟩],
  [⟨false, 1, 2⟩, ⟨false, 4, 1⟩, ⟨false, 14, 1⟩, ⟨false, 28, 1⟩, ⟨false, 35, 1⟩, ⟨false, 28, 1⟩, ⟨false, 14, 1⟩, ⟨false, 4, 1⟩, ⟨false, 1, 2⟩],
  [⟨false, 1, 2⟩, ⟨false, 9, 2⟩, ⟨false, 18, 1⟩, ⟨false, 42, 1⟩, ⟨false, 63, 1⟩, ⟨false, 63, 1⟩, ⟨false, 42, 1⟩, ⟨false, 18, 1⟩, ⟨false, 9, 2⟩, ⟨false, 1, 2⟩],
  [⟨false, 1, 2⟩, ⟨false, 5, 1⟩, ⟨false, 45, 2⟩, ⟨false, 60, 1⟩, ⟨false, 105, 1⟩, ⟨false, 126, 1⟩, ⟨false, 105, 1⟩, ⟨false, 60, 1⟩, ⟨false, 45, 2⟩, ⟨false, 5, 1⟩, ⟨false, 1, 2⟩],
  [⟨false, 1, 2⟩, ⟨false, 11, 2⟩, ⟨false, 55, 2⟩, ⟨false, 165, 2⟩, ⟨false, 165, 1⟩, ⟨false, 231, 1⟩, ⟨false, 231, 1⟩, ⟨false, 165, 1⟩, ⟨false, 165, 2⟩, ⟨false, 55, 2⟩, ⟨false, 11, 2⟩, ⟨false, 1, 2⟩],
  [⟨false, 1, 2⟩, ⟨false, 6, 1⟩, ⟨false, 33, 1⟩, ⟨false, 110, 1⟩, ⟨false, 495, 2⟩, ⟨false, 396, 1⟩, ⟨false, 462, 1⟩, ⟨false, 396, 1⟩, ⟨false, 495, 2⟩, ⟨false, 110, 1⟩, ⟨false, 33, 1⟩, ⟨false, 6, 1⟩, ⟨false, 1, 2⟩],
  [⟨false, 1, 2⟩, ⟨false, 13, 2⟩, ⟨false, 39, 1⟩, ⟨false, 143, 1⟩, ⟨false, 715, 2⟩, ⟨false, 1287, 2⟩, ⟨false, 858, 1⟩, ⟨false, 858, 1⟩, ⟨false, 1287, 2⟩, ⟨false, 715, 2⟩, ⟨false, 143, 1⟩, ⟨false, 39, 1⟩, ⟨false, 13, 2⟩, ⟨false, 1, 2⟩],
  [⟨false, 1, 2⟩, ⟨false, 7, 1⟩, ⟨false, 91, 2⟩, ⟨false, 182, 1⟩, ⟨false, 1001, 2⟩, ⟨false, 1001, 1⟩, ⟨false, 3003, 2⟩, ⟨false, 1716, 1⟩, ⟨false, 3003, 2⟩, ⟨false, 1001, 1⟩, ⟨false, 1001, 2⟩, ⟨false, 182, 1⟩, ⟨false, 91, 2⟩, ⟨false, 7, 1⟩, ⟨false, 1, 2⟩],
  [⟨false, 1, 2⟩, ⟨false, 15, 2⟩, ⟨false, 105, 2⟩, ⟨false, 455, 2⟩, ⟨false, 1365, 2⟩, ⟨false, 3003, 2⟩, ⟨false, 5005, 2⟩, ⟨false, 6435, 2⟩, ⟨false, 6435, 2⟩, ⟨false, 5005, 2⟩, ⟨false, 3003, 2⟩, ⟨false, 1365, 2⟩, ⟨false, 455, 2⟩, ⟨false, 105, 2⟩, ⟨false, 15, 2⟩, ⟨false, 1, 2⟩],
  [⟨false, 1, 2⟩, ⟨false, 8, 1⟩, ⟨false, 60, 1⟩, ⟨false, 280, 1⟩, ⟨false, 910, 1⟩, ⟨false, 2184, 1⟩, ⟨false, 4004, 1⟩, ⟨false, 5720, 1⟩, ⟨false, 6435, 1⟩, ⟨false, 5720, 1⟩, ⟨false, 4004, 1⟩, ⟨false, 2184, 1⟩, ⟨false, 910, 1⟩, ⟨false, 280, 1⟩, ⟨false, 60, 1⟩, ⟨false, 8, 1⟩, ⟨false, 1, 2⟩],
  [⟨false, 1, 2⟩, ⟨false, 17, 2⟩, ⟨false, 68, 1⟩, ⟨false, 340, 1⟩, ⟨false, 1190, 1⟩, ⟨false, 3094, 1⟩, ⟨false, 6188, 1⟩, ⟨false, 9724, 1⟩, ⟨false, 12155, 1⟩, ⟨false, 12155, 1⟩, ⟨false, 9724, 1⟩, ⟨false, 6188, 1⟩, ⟨false, 3094, 1⟩, ⟨false, 1190, 1⟩, ⟨false, 340, 1⟩, ⟨false, 68, 1⟩, ⟨false, 17, 2⟩, ⟨false, 1, 2⟩],
  [⟨false, 1, 2⟩, ⟨false, 9, 1⟩, ⟨false, 153, 2⟩, ⟨false, 408, 1⟩, ⟨false, 1530, 1⟩, ⟨false, 4284, 1⟩, ⟨false, 9282, 1⟩, ⟨false, 15912, 1⟩, ⟨false, 21879, 1⟩, ⟨false, 24310, 1⟩, ⟨false, 21879, 1⟩, ⟨false, 15912, 1⟩, ⟨false, 9282, 1⟩, ⟨false, 4284, 1⟩, ⟨false, 1530, 1⟩, ⟨false, 408, 1⟩, ⟨false, 153, 2⟩, ⟨false, 9, 1⟩, ⟨false, 1, 2⟩],
  [⟨false, 1, 2⟩, ⟨false, 19, 2⟩, ⟨false, 171, 2⟩, ⟨false, 969, 2⟩, ⟨false, 1938, 1⟩, ⟨false, 5814, 1⟩, ⟨false, 13566, 1⟩, ⟨false, 25194, 1⟩, ⟨false, 37791, 1⟩, ⟨false, 46189, 1⟩, ⟨false, 46189, 1⟩, ⟨false, 37791, 1⟩, ⟨false, 25194, 1⟩, ⟨false, 13566, 1⟩, ⟨false, 5814, 1⟩, ⟨false, 1938, 1⟩, ⟨false, 969, 2⟩, ⟨false, 171, 2⟩, ⟨false, 19, 2⟩, ⟨false, 1, 2⟩],
  [⟨false, 1, 2⟩, ⟨false, 10, 1⟩, ⟨false, 95, 1⟩, ⟨false, 570, 1⟩, ⟨false, 4845, 2⟩, ⟨false, 7752, 1⟩, ⟨false, 19380, 1⟩, ⟨false, 38760, 1⟩, ⟨false, 62985, 1⟩, ⟨false, 83980, 1⟩, ⟨false, 92378, 1⟩, ⟨false, 83980, 1⟩, ⟨false, 62985, 1⟩, ⟨false, 38760, 1⟩, ⟨false, 19380, 1⟩, ⟨false, 7752, 1⟩, ⟨false, 4845, 2⟩, ⟨false, 570, 1⟩, ⟨false, 95, 1⟩, ⟨false, 10, 1⟩, ⟨false, 1, 2⟩]]
def bn10 : List Q2 := [(1, 1), (1, 6), (-1, 30), (1, 42), (-1, 30), (5, 66), (-691, 2730)]

def TT10 (g n : Nat) : List FQ := (tab10.getD g []).getD n []
def H10 (n i : Nat) : FQ := (hf10.getD n []).getD i fz
def eqfq : List FQ → List FQ → Bool
  | [], [] => true
  | a :: as, b :: bs => (a.s == b.s) && Nat.beq a.n b.n && Nat.beq a.d b.d && eqfq as bs
  | _, _ => false
theorem eqfq_eq : ∀ {a b : List FQ}, eqfq a b = true → a = b
  | [], [], _ => rfl
  | [], b :: bs, h => by simp [eqfq] at h
  | a :: as, [], h => by simp [eqfq] at h
  | a :: as, b :: bs, h => by
    simp only [eqfq, Bool.and_eq_true, beq_iff_eq] at h
    obtain ⟨⟨⟨h1, h2⟩, h3⟩, h4⟩ := h
    rw [eqfq_eq h4]
    congr 1
    cases a; cases b
    simp only at h1 h2 h3
    rw [h1, Nat.eq_of_beq_eq_true h2, Nat.eq_of_beq_eq_true h3]
def chkF (g n : Nat) : Bool := match fStep TT10 H10 g n with
  | some r => match TT10 g n with
    | [] => false
    | _ :: t => eqfq r t && Nat.ble t.length 99
  | none => false
end Cl

namespace Cl
open PySem PySem.Spec PyProof.Rows L2
/-! ### halves of binomial numbers -/
def eqO (o : Option Q2) (q : Q2) : Bool := match o with
  | some p => decide (p.1 = q.1) && decide (p.2 = q.2)
  | none => false
theorem eqO_eq {o : Option Q2} {q : Q2} (h : eqO o q = true) : o = some q := by
  unfold eqO at h
  split at h
  · rw [Bool.and_eq_true, decide_eq_true_eq, decide_eq_true_eq] at h
    rw [Prod.ext h.1 h.2]
  · cases h
theorem hf_ck : ((List.range 21).all fun n => (List.range (n + 1)).all fun i => eqO ((choM n i).bind fun c => lowM c 2) (H10 n i).to) = true := by decide +kernel
theorem hf_ok {n : Nat} (hn : n ≤ 20) : ∀ i, i ≤ n → ((choM n i).bind fun c => lowM c 2) = some (H10 n i).to := fun i hi => eqO_eq (List.all_eq_true.mp (List.all_eq_true.mp hf_ck n (List.mem_range.mpr (by omega))) i (List.mem_range.mpr (by omega)))
/-! ### the heads -/
def smPB (b : Option Q2) (g n : Nat) : Option Q2 :=
  if g = 0 then smLoop g (List.range' 3 (n - 3)) (1, 1)
  else if g = 1 then smLoop g (List.range' 1 (n - 1)) (-1, 12)
  else b.bind fun b => (lowM 1 (((2 * g : Nat) : Int) * (((2 * g : Nat) : Int) - 2))).bind fun r => (prodM b r).bind fun q => smLoop g (List.range' 0 n) q
def smLB (b : Option Q2) (g n : Nat) : Option Q2 :=
  if g = 0 then smLoop g (List.range' 3 (n - 3)) (1, 1)
  else if g = 1 then smLoop g (List.range' 1 (n - 1)) (-1, 12)
  else b.bind fun b => (overM b (((2 * g : Nat) : Int) * (((2 * g : Nat) : Int) - 2), 1)).bind fun q => smLoop g (List.range' 0 n) q
theorem bnP_ck : ((List.range 7).all fun g => eqO (bernP (2 * g)) (bn10.getD g (0, 1))) = true := by decide +kernel
theorem bnL_ck : ((List.range 7).all fun g => eqO (bernL (2 * g)) (bn10.getD g (0, 1))) = true := by decide +kernel
def dmB (g n : Nat) : Bool := Nat.ble (n + 2 * g) 20 && Nat.ble 3 (2 * g + n)
theorem smP_ck : ((List.range 7).all fun g => (List.range 21).all fun n => !dmB g n || eqO (smPB (some (bn10.getD g (0, 1))) g n) ((TT10 g n).headD fz).to) = true := by decide +kernel
theorem smL_ck : ((List.range 7).all fun g => (List.range 21).all fun n => !dmB g n || eqO (smLB (some (bn10.getD g (0, 1))) g n) ((TT10 g n).headD fz).to) = true := by decide +kernel
theorem dmB_of {g n : Nat} (d : Dm g n) : dmB g n = true := by
  unfold dmB
  have := d.n20; have := d.st
  rw [Bool.and_eq_true]
  exact ⟨Nat.ble_eq_true_of_le (by omega), Nat.ble_eq_true_of_le (by omega)⟩
theorem smP_ok {g n : Nat} (d : Dm g n) : smP g n = some ((TT10 g n).headD fz).to := by
  have hb := eqO_eq (List.all_eq_true.mp bnP_ck g (List.mem_range.mpr (by have := d.g6; omega)))
  have h := List.all_eq_true.mp (List.all_eq_true.mp smP_ck g (List.mem_range.mpr (by have := d.g6; omega))) n (List.mem_range.mpr (by have := d.n20; omega))
  rw [dmB_of d, Bool.not_true, Bool.false_or] at h
  rw [← hb] at h
  exact eqO_eq h
theorem smL_ok {g n : Nat} (d : Dm g n) : smL g n = some ((TT10 g n).headD fz).to := by
  have hb := eqO_eq (List.all_eq_true.mp bnL_ck g (List.mem_range.mpr (by have := d.g6; omega)))
  have h := List.all_eq_true.mp (List.all_eq_true.mp smL_ck g (List.mem_range.mpr (by have := d.g6; omega))) n (List.mem_range.mpr (by have := d.n20; omega))
  rw [dmB_of d, Bool.not_true, Bool.false_or] at h
  rw [← hb] at h
  exact eqO_eq h
theorem tab_of (hF : ∀ g n, Dm g n → chkF g n = true) {sm : Nat → Nat → Option Q2} (hs : ∀ g n, Dm g n → sm g n = some ((TT10 g n).headD fz).to) : TabOk (fun g n => rowQ (TT10 g n)) sm := by
  have key : ∀ g n, Dm g n → ∃ q r, TT10 g n = q :: r ∧ fStep TT10 H10 g n = some r ∧ r.length ≤ 99 := fun g n d => by
    have h := hF g n d
    unfold chkF at h
    split at h
    · rename_i r e
      split at h
      · cases h
      · rename_i q t e2
        rw [Bool.and_eq_true] at h
        have := eqfq_eq h.1
        subst this
        exact ⟨q, r, e2, e, Nat.le_of_ble_eq_true h.2⟩
    · cases h
  refine ⟨fun g n d => ?_, fun g n d => ?_, fun g n d => ?_⟩
  · obtain ⟨q, r, e1, e2, _⟩ := key g n d
    refine fStep_step (hf_ok (by have := d.n20; omega)) e2 ?_ e1
    rw [hs g n d, e1]; rfl
  · obtain ⟨q, r, e1, _, _⟩ := key g n d
    show 0 < (rowQ (TT10 g n)).length
    rw [e1]; simp
  · obtain ⟨q, r, e1, _, h⟩ := key g n d
    show (rowQ (TT10 g n)).length ≤ 100
    rw [e1, rowQ, List.length_map, List.length_cons]; omega
end Cl

namespace Cl
open PySem PySem.Spec PyProof.Rows L2
/-! ### zeros at the end left out -/
def trN (f : List Q2) : Nat → Nat
  | 0 => 0
  | k + 1 => if (f.getD k z2).1 = 0 then trN f k else k + 1
def trim (f : List Q2) : List Q2 := f.take (trN f f.length)
theorem trN_le {f : List Q2} : ∀ k, trN f k ≤ k
  | 0 => Nat.le_refl _
  | k + 1 => by
    unfold trN
    split
    · have := trN_le (f := f) k; omega
    · exact Nat.le_refl _
theorem augI {P : Env2} {i : Nat} {op : Operator} {e : CE} {σ : CSt} {h h' : Hc} {a b : Int} {z : D} (e1 : σ[i]? = some (some (.int a))) (k : evE P.C e σ h = .ok (.int b) h') (kz : binF h' op (.int a) (.int b) = some z) : evS P (.aug i op e) σ h = .ok (.nx (σ.set i (some z))) h' := by simp only [ES, e1, EB, k, kz]
def trT : CE := .and_ (.cmp .Gt (.var 1) (.cst (.int 0))) (.cmp .Eq (.idx (.idx (.var 0) (.bin .Sub (.var 1) (.cst (.int 1)))) (.cst (.int 0))) (.cst (.int 0)))
def trL : CSs := .cons (.aug 1 .Sub (.cst (.int 1))) .nil
def BD_trP : CDef := ⟨2, 1, .cons (.asg (.v 1) (.bi .len (.cons (.var 0) .nil))) (.cons (.whl trT trL) (.cons (.ret (.bi .tuple (.cons (.sl (.var 0) .absent (.var 1)) .nil))) .nil))⟩
theorem run_trP {P : Pg} {i n : Nat} (hd : P.defs[i]? = some BD_trP) {f : List Q2} {H : Hc} (hl : f.length ≤ 1000) : callN P (n + 1) i [.lst (rowD f)] H = .ok (.tup (rowD (trim f))) H := by
  refine call_rtp (d := BD_trP) (b := BD_trP.body) (σ := [some (.lst (rowD f)), none]) hd rfl rfl rfl ?_
  have w := whS (P := ⟨callN P n, P.sub⟩) (t := trT) (body := trL) (σ := [some (.lst (rowD f)), some (.int (f.length : Nat))]) (h := H) (fun m σ h => ∃ k : Nat, σ = [some (.lst (rowD f)), some (.int (k : Nat))] ∧ h = H ∧ m = k ∧ k ≤ f.length ∧ trN f k = trN f f.length) (fun r => r = .ok (.nx [some (.lst (rowD f)), some (.int (trN f f.length : Nat))]) H) (fun m σ h I => by
    obtain ⟨k, rfl, rfl, rfl, hk, ht⟩ := I
    have c1 : evE (callN P n) (.cmp .Gt (.var 1) (.cst (.int 0))) [some (.lst (rowD f)), some (.int (m : Nat))] h = .ok (.bl (decide ((0 : Int) < (m : Nat)))) h := ev_cmp (ev_var rfl) ev_cst rfl
    cases m with
    | zero =>
      left
      refine ⟨h, ?_, by rw [← ht]; rfl⟩
      show boolR (evE (callN P n) trT _ _) = _
      unfold trT
      rw [ev_and c1, decide_eq_false (by omega), if_neg (by simp)]; rfl
    | succ k =>
      have e1 : evE (callN P n) (.bin .Sub (.var 1) (.cst (.int 1))) [some (.lst (rowD f)), some (.int ((k + 1 : Nat) : Int))] h = .ok (.int (k : Nat)) h := ev_bin (op := .Sub) (ev_var rfl) ev_cst (by show some (D.int (((k + 1 : Nat) : Int) - 1)) = _; congr 2; omega)
      have c2 : evE (callN P n) (.cmp .Eq (.idx (.idx (.var 0) (.bin .Sub (.var 1) (.cst (.int 1)))) (.cst (.int 0))) (.cst (.int 0))) [some (.lst (rowD f)), some (.int ((k + 1 : Nat) : Int))] h = .ok (.bl (decide ((f.getD k z2).1 = 0))) h := ev_cmp (ev_idx (ev_idx (ev_var rfl) e1 (idx_row (by omega))) ev_cst rfl) ev_cst rfl
      have et : evE (callN P n) trT [some (.lst (rowD f)), some (.int ((k + 1 : Nat) : Int))] h = .ok (.bl (decide ((f.getD k z2).1 = 0))) h := by
        unfold trT
        rw [ev_and c1, decide_eq_true (by omega), if_pos rfl, c2]
      rw [show trN f (k + 1) = if (f.getD k z2).1 = 0 then trN f k else k + 1 from rfl] at ht
      by_cases h0 : (f.getD k z2).1 = 0
      · right
        rw [if_pos h0] at ht
        rw [decide_eq_true h0] at et
        refine ⟨h, [some (.lst (rowD f)), some (.int (k : Nat))], h, by rw [et]; rfl, ?_, k, by omega, k, rfl, rfl, rfl, by omega, ht⟩
        unfold trL
        refine (seqN (augI rfl ev_cst (z := .int (k : Nat)) (by show some (D.int (((k + 1 : Nat) : Int) - 1)) = _; congr 2; omega))).trans ?_
        simp only [ES]; all_goals rfl
      · left
        rw [if_neg h0] at ht
        rw [decide_eq_false h0] at et
        exact ⟨h, by rw [et]; rfl, by rw [← ht]⟩) f.length (by omega) ⟨f.length, rfl, rfl, rfl, Nat.le_refl _, rfl⟩
  refine (seqN (σ' := [some (.lst (rowD f)), some (.int (f.length : Nat))]) (h' := H) (asgV (i := 1) (ev_bi1 (ev_var rfl) len_row))).trans ?_
  refine (seqN w).trans (seqR (retE ?_))
  have hle := trN_le (f := f) f.length
  refine ev_bi1 (x := .lst (rowD (trim f))) (ev_slu rfl (ev_var rfl) (ev_var rfl) ?_) rfl
  simp only [sliceF, der, cutD, slx]
  rw [if_neg (by omega), List.length_map, Int.toNat_natCast, Nat.min_eq_left hle, Nat.sub_zero, List.drop_zero, trim, rowD, rowD, List.map_take]
def trTL : CE := .and_ (.cmp .Gt (.bi .len (.cons (.var 1) .nil)) (.cst (.int 0))) (.cmp .Eq (.idx (.idx (.var 1) (.neg (.cst (.int 1)))) (.cst (.int 0))) (.cst (.int 0)))
def trLL : CSs := .cons (.expr (.pop (.var 1))) .nil
def BD_trL : CDef := ⟨2, 1, .cons (.asg (.v 1) (.cell (.bi .list (.cons (.var 0) .nil)))) (.cons (.whl trTL trLL) (.cons (.ret (.bi .tuple (.cons (.var 1) .nil))) .nil))⟩
theorem run_trL {P : Pg} {i n : Nat} (hd : P.defs[i]? = some BD_trL) {f : List Q2} {H : Hc} (hl : f.length ≤ 1000) : callN P (n + 1) i [.lst (rowD f)] H = .ok (.tup (rowD (trim f))) H := by
  refine call_rt (t := [.lst (rowD (trim f))]) (d := BD_trL) (b := BD_trL.body) (σ := [some (.lst (rowD f)), none]) hd rfl rfl rfl (low_plain (by
    rw [D.plain, plains_iff]
    intro x hx
    obtain ⟨q, _, rfl⟩ := List.mem_map.mp hx
    rfl)) ?_
  have w := whS (P := ⟨callN P n, P.sub⟩) (t := trTL) (body := trLL) (σ := [some (.lst (rowD f)), some (.ref H.length)]) (h := H ++ [.lst (rowD f)]) (fun m σ h => ∃ k : Nat, σ = [some (.lst (rowD f)), some (.ref H.length)] ∧ h = H ++ [.lst (rowD (f.take k))] ∧ m = k ∧ k ≤ f.length ∧ trN f k = trN f f.length) (fun r => r = .ok (.nx [some (.lst (rowD f)), some (.ref H.length)]) (H ++ [.lst (rowD (trim f))])) (fun m σ h I => by
    obtain ⟨k, rfl, rfl, rfl, hk, ht⟩ := I
    have lk : (f.take m).length = m := by rw [List.length_take]; omega
    have c1 : evE (callN P n) (.cmp .Gt (.bi .len (.cons (.var 1) .nil)) (.cst (.int 0))) [some (.lst (rowD f)), some (.ref H.length)] (H ++ [.lst (rowD (f.take m))]) = .ok (.bl (decide ((0 : Int) < (m : Nat)))) (H ++ [.lst (rowD (f.take m))]) := ev_cmp (ev_bi1 (z := .int (m : Nat)) (ev_var rfl) (by
      have := (IsL.at (H := H ++ [.lst (rowD (f.take m))]) (n := H.length) (F := f.take m) cell_at).l
      rw [lk] at this
      exact this)) ev_cst rfl
    cases m with
    | zero =>
      left
      refine ⟨H ++ [.lst (rowD (f.take 0))], ?_, by rw [trim, ← ht]; rfl⟩
      show boolR (evE (callN P n) trTL _ _) = _
      unfold trTL
      rw [ev_and c1, decide_eq_false (by omega), if_neg (by simp)]; rfl
    | succ k =>
      have hlast : (f.take (k + 1))[k]? = some (f.getD k z2) := by
        rw [List.getElem?_take_of_lt (by omega), List.getD_eq_getElem?_getD, List.getElem?_eq_getElem (by omega)]
        rfl
      have hix : idxF (H ++ [.lst (rowD (f.take (k + 1)))]) (.ref H.length) (.int (-1)) = some (qD (f.getD k z2)) := by
        simp only [idxF, cell_at]
        unfold atD ixD
        rw [if_neg (by omega), if_pos (by rw [List.length_map, lk]; omega), List.length_map, lk, Option.bind_some]
        rw [show ((-1 : Int) + ((k + 1 : Nat) : Int)).toNat = k by omega, List.getElem?_map, hlast]
        rfl
      have c2 : evE (callN P n) (.cmp .Eq (.idx (.idx (.var 1) (.neg (.cst (.int 1)))) (.cst (.int 0))) (.cst (.int 0))) [some (.lst (rowD f)), some (.ref H.length)] (H ++ [.lst (rowD (f.take (k + 1)))]) = .ok (.bl (decide ((f.getD k z2).1 = 0))) (H ++ [.lst (rowD (f.take (k + 1)))]) := ev_cmp (ev_idx (ev_idx (ev_var rfl) (ev_neg ev_cst) hix) ev_cst rfl) ev_cst rfl
      have et : evE (callN P n) trTL [some (.lst (rowD f)), some (.ref H.length)] (H ++ [.lst (rowD (f.take (k + 1)))]) = .ok (.bl (decide ((f.getD k z2).1 = 0))) (H ++ [.lst (rowD (f.take (k + 1)))]) := by
        unfold trTL
        rw [ev_and c1, decide_eq_true (by omega), if_pos rfl, c2]
      rw [show trN f (k + 1) = if (f.getD k z2).1 = 0 then trN f k else k + 1 from rfl] at ht
      by_cases h0 : (f.getD k z2).1 = 0
      · right
        rw [if_pos h0] at ht
        rw [decide_eq_true h0] at et
        refine ⟨H ++ [.lst (rowD (f.take (k + 1)))], [some (.lst (rowD f)), some (.ref H.length)], H ++ [.lst (rowD (f.take k))], by rw [et]; rfl, ?_, k, by omega, k, rfl, rfl, rfl, by omega, ht⟩
        unfold trLL
        have ep : evE (callN P n) (.pop (.var 1)) [some (.lst (rowD f)), some (.ref H.length)] (H ++ [.lst (rowD (f.take (k + 1)))]) = .ok (qD (f.getD k z2)) (H ++ [.lst (rowD (f.take k))]) := by
          have g1 : (rowD (f.take (k + 1)))[(rowD (f.take (k + 1))).length - 1]? = some (qD (f.getD k z2)) := by
            rw [List.length_map, lk, Nat.add_sub_cancel, List.getElem?_map, hlast]; rfl
          have g2 : (rowD (f.take (k + 1))).dropLast = rowD (f.take k) := by
            rw [rowD, ← List.map_dropLast, List.dropLast_eq_take, lk, Nat.add_sub_cancel, List.take_take, Nat.min_eq_left (by omega)]
          simp only [EV, EB, List.getElem?_cons_succ, List.getElem?_cons_zero, cell_at, g1, g2, cell_set]
        refine (seqN (exprE (P := ⟨callN P n, P.sub⟩) ep)).trans ?_
        simp only [ES]
      · left
        rw [if_neg h0] at ht
        rw [decide_eq_false h0] at et
        exact ⟨_, by rw [et]; rfl, by rw [trim, ← ht]⟩) f.length (by omega) ⟨f.length, rfl, by rw [List.take_length], rfl, Nat.le_refl _, rfl⟩
  refine (seqN (σ' := [some (.lst (rowD f)), some (.ref H.length)]) (h' := H ++ [.lst (rowD f)]) (asgV (i := 1) (ev_cell (ev_bi1 (x := .lst (rowD f)) (ev_var rfl) rfl)))).trans ?_
  refine (seqN w).trans (seqR (retE ?_))
  exact ev_bi1 (x := .ref H.length) (ev_var rfl) (by simp only [biF, seqD, cell_at, Option.map_some])
/-! ### what leaves nested tuples of ints as they are -/
mutual
def D.tt : D → Bool
  | .int _ => true
  | .tup xs => decide (xs.length ≤ 100000) && D.tts xs
  | _ => false
def D.tts : List D → Bool
  | [] => true
  | x :: xs => D.tt x && D.tts xs
end
theorem tts_mem {xs : List D} (h : D.tts xs = true) : ∀ x ∈ xs, x.tt = true := by
  induction xs with
  | nil => intro x hx; simp at hx
  | cons y ys ih =>
    simp only [D.tts, Bool.and_eq_true] at h
    intro x hx
    rcases List.mem_cons.mp hx with rfl | hx
    · exact h.1
    · exact ih h.2 x hx
theorem dep_mem' {xs : List D} {d : Nat} (h : D.deps xs ≤ d) : ∀ x ∈ xs, x.dep ≤ d := by
  induction xs with
  | nil => intro x hx; simp at hx
  | cons y ys ih =>
    simp only [D.deps] at h
    intro x hx
    rcases List.mem_cons.mp hx with rfl | hx
    · omega
    · exact ih (by omega) x hx
def inE (ii : Nat) : CE := .bi .tuple (.cons (.comp (.call ii (.cons (.var 1) .nil)) (.v 1) (.seq (.var 0)) .absent [1]) .nil)
def inT : CE := .or_ (.cmp .Is (.var 0) (.cst .non)) (.or_ (.isin (.var 0) [.str]) (.and_ (.isin (.var 0) [.int]) (.not_ (.isin (.var 0) [.bool]))))
def BD_inner (ii : Nat) : CDef := ⟨2, 1, .cons (.ifs (.isin (.var 0) [.tuple]) (.cons (.ret (inE ii)) .nil) .nil) (.cons (.ifs inT (.cons (.ret (.var 0)) .nil) .nil) (.cons (.ret (.cst (.str (Str.ofString "odd")))) .nil))⟩
theorem run_inner {P : Pg} {ii n : Nat} (hd : P.defs[ii]? = some (BD_inner ii)) {H : Hc} : ∀ (d : Nat) (v : D), v.tt = true → v.dep ≤ d → callN P (n + d + 1) ii [v] H = .ok v H := by
  intro d
  have hint : ∀ (m : Nat) (i : Int), callN P (m + 1) ii [.int i] H = .ok (.int i) H := fun m i => by
    refine call_rtp (d := BD_inner ii) (b := (BD_inner ii).body) (σ := [some (.int i), none]) hd rfl rfl rfl ?_
    have e1 : evE (callN P m) (.isin (.var 0) [.tuple]) [some (.int i), none] H = .ok (.bl false) H := ev_isin (ev_var rfl) rfl
    have e2 : evE (callN P m) inT [some (.int i), none] H = .ok (.bl true) H := by
      unfold inT
      rw [ev_or (c := false) (ev_cmp (ev_var rfl) ev_cst rfl), if_neg (by simp), ev_or (c := false) (ev_isin (ev_var rfl) rfl), if_neg (by simp), ev_and (c := true) (ev_isin (ev_var rfl) rfl), if_pos rfl]
      exact ev_not (c := false) (ev_isin (ev_var rfl) rfl)
    refine (seqN (σ' := [some (.int i), none]) (h' := H) (by rw [ifF (P := ⟨callN P m, P.sub⟩) e1]; simp only [ES])).trans (seqR ?_)
    rw [ifT (P := ⟨callN P m, P.sub⟩) e2]
    exact seqR (retE (ev_var rfl))
  induction d with
  | zero =>
    intro v hv hdp
    cases v with
    | int i => exact hint _ i
    | tup xs => simp [D.dep] at hdp
    | _ => simp [D.tt] at hv
  | succ d ih =>
    intro v hv hdp
    cases v with
    | int i => exact hint _ i
    | tup xs =>
      have hv' : xs.length ≤ 100000 ∧ D.tts xs = true := by simpa [D.tt] using hv
      have hdx : D.deps xs ≤ d := by simp only [D.dep] at hdp; omega
      show callN P (n + d + 1 + 1) ii _ _ = _
      refine call_rtp (d := BD_inner ii) (b := (BD_inner ii).body) (σ := [some (.tup xs), none]) hd rfl rfl rfl (seqR ?_)
      rw [ifT (P := ⟨callN P (n + d + 1), P.sub⟩) (h' := H) (ev_isin (b := true) (ev_var rfl) rfl)]
      refine seqR (retE ?_)
      have key : compF (evE (callN P (n + d + 1)) (.call ii (.cons (.var 1) .nil))) (condR true (evE (callN P (n + d + 1)) .absent)) (.v 1) [] (cwipe [some (.tup xs), none] [1]) xs H = .ok xs H := by
        rw [compF_pure rfl (fun x => x) (fun _ => true)]
        · rw [List.filter_eq_self.mpr (by simp), List.map_id']
        · intro x hx
          exact ⟨_, rfl, rfl, fun _ => (ev_c1 (ev_var rfl)).trans (ih x (tts_mem hv'.2 x hx) (dep_mem' hdx x hx))⟩
      have ec : evE (callN P (n + d + 1)) (.comp (.call ii (.cons (.var 1) .nil)) (.v 1) (.seq (.var 0)) .absent [1]) [some (.tup xs), none] H = .ok (.lst xs) H := by
        simp only [EV, EB, List.getElem?_cons_zero, seqD, guardOf, CE.isAbs]
        rw [if_pos (by unfold line; omega)]
        rw [key]
        rfl
      exact ev_bi1 ec rfl
    | _ => simp [D.tt] at hv
def BD_plain (ii : Nat) : CDef := ⟨1, 1, .cons (.ret (.ite (.isin (.var 0) [.str]) (.cst (.str (Str.ofString "odd"))) (.call ii (.cons (.var 0) .nil)))) .nil⟩
theorem run_plain {P : Pg} {i ii n : Nat} (hd : P.defs[i]? = some (BD_plain ii)) (hi : P.defs[ii]? = some (BD_inner ii)) {H : Hc} {v : D} (hv : v.tt = true) (hdp : v.dep ≤ 5) : callN P (n + 7) i [v] H = .ok v H := by
  refine call_rtp (d := BD_plain ii) (b := (BD_plain ii).body) (σ := [some v]) hd rfl rfl rfl (seqR (retE ?_))
  have e1 : evE (callN P (n + 6)) (.isin (.var 0) [.str]) [some v] H = .ok (.bl false) H := ev_isin (ev_var rfl) (by cases v <;> first | rfl | (simp [D.tt] at hv; done))
  rw [ev_ite e1, if_neg (by simp)]
  exact (ev_c1 (ev_var rfl)).trans (run_inner (n := n) hi 5 v hv hdp)
theorem row_tts : ∀ f : List Q2, D.tts (rowD f) = true
  | [] => rfl
  | q :: f => by
    rw [rowD, List.map_cons, D.tts]
    have := row_tts f
    rw [rowD] at this
    rw [this]; rfl
theorem row_deps : ∀ f : List Q2, D.deps (rowD f) ≤ 1
  | [] => by simp [D.deps]
  | q :: f => by
    have := row_deps f
    rw [rowD] at this
    simp only [rowD, List.map_cons, D.deps, qD, D.dep]
    omega
end Cl

namespace Cl
open PySem PySem.Spec PyProof.Rows L2
theorem ckF_0_3 : chkF 0 3 = true := by decide +kernel
theorem ckF_0_4 : chkF 0 4 = true := by decide +kernel
theorem ckF_0_5 : chkF 0 5 = true := by decide +kernel
theorem ckF_0_6 : chkF 0 6 = true := by decide +kernel
theorem ckF_0_7 : chkF 0 7 = true := by decide +kernel
theorem ckF_0_8 : chkF 0 8 = true := by decide +kernel
theorem ckF_0_9 : chkF 0 9 = true := by decide +kernel
theorem ckF_0_10 : chkF 0 10 = true := by decide +kernel
theorem ckF_0_11 : chkF 0 11 = true := by decide +kernel
theorem ckF_0_12 : chkF 0 12 = true := by decide +kernel
theorem ckF_0_13 : chkF 0 13 = true := by decide +kernel
theorem ckF_0_14 : chkF 0 14 = true := by decide +kernel
theorem ckF_0_15 : chkF 0 15 = true := by decide +kernel
theorem ckF_0_16 : chkF 0 16 = true := by decide +kernel
theorem ckF_0_17 : chkF 0 17 = true := by decide +kernel
theorem ckF_0_18 : chkF 0 18 = true := by decide +kernel
theorem ckF_0_19 : chkF 0 19 = true := by decide +kernel
theorem ckF_0_20 : chkF 0 20 = true := by decide +kernel
theorem ckF_1_1 : chkF 1 1 = true := by decide +kernel
theorem ckF_1_2 : chkF 1 2 = true := by decide +kernel
theorem ckF_1_3 : chkF 1 3 = true := by decide +kernel
theorem ckF_1_4 : chkF 1 4 = true := by decide +kernel
theorem ckF_1_5 : chkF 1 5 = true := by decide +kernel
theorem ckF_1_6 : chkF 1 6 = true := by decide +kernel
theorem ckF_1_7 : chkF 1 7 = true := by decide +kernel
theorem ckF_1_8 : chkF 1 8 = true := by decide +kernel
theorem ckF_1_9 : chkF 1 9 = true := by decide +kernel
theorem ckF_1_10 : chkF 1 10 = true := by decide +kernel
theorem ckF_1_11 : chkF 1 11 = true := by decide +kernel
theorem ckF_1_12 : chkF 1 12 = true := by decide +kernel
theorem ckF_1_13 : chkF 1 13 = true := by decide +kernel
theorem ckF_1_14 : chkF 1 14 = true := by decide +kernel
theorem ckF_1_15 : chkF 1 15 = true := by decide +kernel
theorem ckF_1_16 : chkF 1 16 = true := by decide +kernel
theorem ckF_1_17 : chkF 1 17 = true := by decide +kernel
theorem ckF_1_18 : chkF 1 18 = true := by decide +kernel
theorem ckF_2_0 : chkF 2 0 = true := by decide +kernel
theorem ckF_2_1 : chkF 2 1 = true := by decide +kernel
theorem ckF_2_2 : chkF 2 2 = true := by decide +kernel
theorem ckF_2_3 : chkF 2 3 = true := by decide +kernel
theorem ckF_2_4 : chkF 2 4 = true := by decide +kernel
theorem ckF_2_5 : chkF 2 5 = true := by decide +kernel
theorem ckF_2_6 : chkF 2 6 = true := by decide +kernel
theorem ckF_2_7 : chkF 2 7 = true := by decide +kernel
theorem ckF_2_8 : chkF 2 8 = true := by decide +kernel
theorem ckF_2_9 : chkF 2 9 = true := by decide +kernel
theorem ckF_2_10 : chkF 2 10 = true := by decide +kernel
theorem ckF_2_11 : chkF 2 11 = true := by decide +kernel
theorem ckF_2_12 : chkF 2 12 = true := by decide +kernel
theorem ckF_2_13 : chkF 2 13 = true := by decide +kernel
theorem ckF_2_14 : chkF 2 14 = true := by decide +kernel
theorem ckF_2_15 : chkF 2 15 = true := by decide +kernel
theorem ckF_2_16 : chkF 2 16 = true := by decide +kernel
theorem ckF_3_0 : chkF 3 0 = true := by decide +kernel
theorem ckF_3_1 : chkF 3 1 = true := by decide +kernel
theorem ckF_3_2 : chkF 3 2 = true := by decide +kernel
theorem ckF_3_3 : chkF 3 3 = true := by decide +kernel
theorem ckF_3_4 : chkF 3 4 = true := by decide +kernel
theorem ckF_3_5 : chkF 3 5 = true := by decide +kernel
theorem ckF_3_6 : chkF 3 6 = true := by decide +kernel
theorem ckF_3_7 : chkF 3 7 = true := by decide +kernel
theorem ckF_3_8 : chkF 3 8 = true := by decide +kernel
theorem ckF_3_9 : chkF 3 9 = true := by decide +kernel
theorem ckF_3_10 : chkF 3 10 = true := by decide +kernel
theorem ckF_3_11 : chkF 3 11 = true := by decide +kernel
theorem ckF_3_12 : chkF 3 12 = true := by decide +kernel
theorem ckF_3_13 : chkF 3 13 = true := by decide +kernel
theorem ckF_3_14 : chkF 3 14 = true := by decide +kernel
theorem ckF_4_0 : chkF 4 0 = true := by decide +kernel
theorem ckF_4_1 : chkF 4 1 = true := by decide +kernel
theorem ckF_4_2 : chkF 4 2 = true := by decide +kernel
theorem ckF_4_3 : chkF 4 3 = true := by decide +kernel
theorem ckF_4_4 : chkF 4 4 = true := by decide +kernel
theorem ckF_4_5 : chkF 4 5 = true := by decide +kernel
theorem ckF_4_6 : chkF 4 6 = true := by decide +kernel
theorem ckF_4_7 : chkF 4 7 = true := by decide +kernel
theorem ckF_4_8 : chkF 4 8 = true := by decide +kernel
theorem ckF_4_9 : chkF 4 9 = true := by decide +kernel
theorem ckF_4_10 : chkF 4 10 = true := by decide +kernel
theorem ckF_4_11 : chkF 4 11 = true := by decide +kernel
theorem ckF_4_12 : chkF 4 12 = true := by decide +kernel
theorem ckF_5_0 : chkF 5 0 = true := by decide +kernel
theorem ckF_5_1 : chkF 5 1 = true := by decide +kernel
theorem ckF_5_2 : chkF 5 2 = true := by decide +kernel
theorem ckF_5_3 : chkF 5 3 = true := by decide +kernel
theorem ckF_5_4 : chkF 5 4 = true := by decide +kernel
theorem ckF_5_5 : chkF 5 5 = true := by decide +kernel
theorem ckF_5_6 : chkF 5 6 = true := by decide +kernel
theorem ckF_5_7 : chkF 5 7 = true := by decide +kernel
theorem ckF_5_8 : chkF 5 8 = true := by decide +kernel
theorem ckF_5_9 : chkF 5 9 = true := by decide +kernel
theorem ckF_5_10 : chkF 5 10 = true := by decide +kernel
theorem ckF_6_0 : chkF 6 0 = true := by decide +kernel
theorem ckF_6_1 : chkF 6 1 = true := by decide +kernel
theorem ckF_6_2 : chkF 6 2 = true := by decide +kernel
theorem ckF_6_3 : chkF 6 3 = true := by decide +kernel
theorem ckF_6_4 : chkF 6 4 = true := by decide +kernel
theorem ckF_6_5 : chkF 6 5 = true := by decide +kernel
theorem ckF_6_6 : chkF 6 6 = true := by decide +kernel
theorem ckF_6_7 : chkF 6 7 = true := by decide +kernel
theorem ckF_6_8 : chkF 6 8 = true := by decide +kernel
theorem allF (g n : Nat) (d : Dm g n) : chkF g n = true := by
  have h1 := d.g6
  have h2 := d.n20
  have h3 := d.st
  have hg : g = 0 ∨ g = 1 ∨ g = 2 ∨ g = 3 ∨ g = 4 ∨ g = 5 ∨ g = 6 := by omega
  rcases hg with rfl | rfl | rfl | rfl | rfl | rfl | rfl
  · have hn : n = 3 ∨ n = 4 ∨ n = 5 ∨ n = 6 ∨ n = 7 ∨ n = 8 ∨ n = 9 ∨ n = 10 ∨ n = 11 ∨ n = 12 ∨ n = 13 ∨ n = 14 ∨ n = 15 ∨ n = 16 ∨ n = 17 ∨ n = 18 ∨ n = 19 ∨ n = 20 := by omega
    rcases hn with rfl | rfl | rfl | rfl | rfl | rfl | rfl | rfl | rfl | rfl | rfl | rfl | rfl | rfl | rfl | rfl | rfl | rfl
    · exact ckF_0_3
    · exact ckF_0_4
    · exact ckF_0_5
    · exact ckF_0_6
    · exact ckF_0_7
    · exact ckF_0_8
    · exact ckF_0_9
    · exact ckF_0_10
    · exact ckF_0_11
    · exact ckF_0_12
    · exact ckF_0_13
    · exact ckF_0_14
    · exact ckF_0_15
    · exact ckF_0_16
    · exact ckF_0_17
    · exact ckF_0_18
    · exact ckF_0_19
    · exact ckF_0_20
  · have hn : n = 1 ∨ n = 2 ∨ n = 3 ∨ n = 4 ∨ n = 5 ∨ n = 6 ∨ n = 7 ∨ n = 8 ∨ n = 9 ∨ n = 10 ∨ n = 11 ∨ n = 12 ∨ n = 13 ∨ n = 14 ∨ n = 15 ∨ n = 16 ∨ n = 17 ∨ n = 18 := by omega
    rcases hn with rfl | rfl | rfl | rfl | rfl | rfl | rfl | rfl | rfl | rfl | rfl | rfl | rfl | rfl | rfl | rfl | rfl | rfl
    · exact ckF_1_1
    · exact ckF_1_2
    · exact ckF_1_3
    · exact ckF_1_4
    · exact ckF_1_5
    · exact ckF_1_6
    · exact ckF_1_7
    · exact ckF_1_8
    · exact ckF_1_9
    · exact ckF_1_10
    · exact ckF_1_11
    · exact ckF_1_12
    · exact ckF_1_13
    · exact ckF_1_14
    · exact ckF_1_15
    · exact ckF_1_16
    · exact ckF_1_17
    · exact ckF_1_18
  · have hn : n = 0 ∨ n = 1 ∨ n = 2 ∨ n = 3 ∨ n = 4 ∨ n = 5 ∨ n = 6 ∨ n = 7 ∨ n = 8 ∨ n = 9 ∨ n = 10 ∨ n = 11 ∨ n = 12 ∨ n = 13 ∨ n = 14 ∨ n = 15 ∨ n = 16 := by omega
    rcases hn with rfl | rfl | rfl | rfl | rfl | rfl | rfl | rfl | rfl | rfl | rfl | rfl | rfl | rfl | rfl | rfl | rfl
    · exact ckF_2_0
    · exact ckF_2_1
    · exact ckF_2_2
    · exact ckF_2_3
    · exact ckF_2_4
    · exact ckF_2_5
    · exact ckF_2_6
    · exact ckF_2_7
    · exact ckF_2_8
    · exact ckF_2_9
    · exact ckF_2_10
    · exact ckF_2_11
    · exact ckF_2_12
    · exact ckF_2_13
    · exact ckF_2_14
    · exact ckF_2_15
    · exact ckF_2_16
  · have hn : n = 0 ∨ n = 1 ∨ n = 2 ∨ n = 3 ∨ n = 4 ∨ n = 5 ∨ n = 6 ∨ n = 7 ∨ n = 8 ∨ n = 9 ∨ n = 10 ∨ n = 11 ∨ n = 12 ∨ n = 13 ∨ n = 14 := by omega
    rcases hn with rfl | rfl | rfl | rfl | rfl | rfl | rfl | rfl | rfl | rfl | rfl | rfl | rfl | rfl | rfl
    · exact ckF_3_0
    · exact ckF_3_1
    · exact ckF_3_2
    · exact ckF_3_3
    · exact ckF_3_4
    · exact ckF_3_5
    · exact ckF_3_6
    · exact ckF_3_7
    · exact ckF_3_8
    · exact ckF_3_9
    · exact ckF_3_10
    · exact ckF_3_11
    · exact ckF_3_12
    · exact ckF_3_13
    · exact ckF_3_14
  · have hn : n = 0 ∨ n = 1 ∨ n = 2 ∨ n = 3 ∨ n = 4 ∨ n = 5 ∨ n = 6 ∨ n = 7 ∨ n = 8 ∨ n = 9 ∨ n = 10 ∨ n = 11 ∨ n = 12 := by omega
    rcases hn with rfl | rfl | rfl | rfl | rfl | rfl | rfl | rfl | rfl | rfl | rfl | rfl | rfl
    · exact ckF_4_0
    · exact ckF_4_1
    · exact ckF_4_2
    · exact ckF_4_3
    · exact ckF_4_4
    · exact ckF_4_5
    · exact ckF_4_6
    · exact ckF_4_7
    · exact ckF_4_8
    · exact ckF_4_9
    · exact ckF_4_10
    · exact ckF_4_11
    · exact ckF_4_12
  · have hn : n = 0 ∨ n = 1 ∨ n = 2 ∨ n = 3 ∨ n = 4 ∨ n = 5 ∨ n = 6 ∨ n = 7 ∨ n = 8 ∨ n = 9 ∨ n = 10 := by omega
    rcases hn with rfl | rfl | rfl | rfl | rfl | rfl | rfl | rfl | rfl | rfl | rfl
    · exact ckF_5_0
    · exact ckF_5_1
    · exact ckF_5_2
    · exact ckF_5_3
    · exact ckF_5_4
    · exact ckF_5_5
    · exact ckF_5_6
    · exact ckF_5_7
    · exact ckF_5_8
    · exact ckF_5_9
    · exact ckF_5_10
  · have hn : n = 0 ∨ n = 1 ∨ n = 2 ∨ n = 3 ∨ n = 4 ∨ n = 5 ∨ n = 6 ∨ n = 7 ∨ n = 8 := by omega
    rcases hn with rfl | rfl | rfl | rfl | rfl | rfl | rfl | rfl | rfl
    · exact ckF_6_0
    · exact ckF_6_1
    · exact ckF_6_2
    · exact ckF_6_3
    · exact ckF_6_4
    · exact ckF_6_5
    · exact ckF_6_6
    · exact ckF_6_7
    · exact ckF_6_8

end Cl

namespace Cl
open PySem PySem.Spec PyProof.Rows L2
def b_is_integer : CSs := (.cons (.ret (.and_ (.isin (.var 0) [.int]) (.not_ (.isin (.var 0) [.bool])))) .nil)
def d_is_integer : CDef := ⟨1, 1, b_is_integer⟩
abbrev i_is_integer : Nat := 0
def L_greatest_common_0 : CSs := (.cons (.asg (.t (.cons (.v 0) (.cons (.v 1) .nil))) (.tup (.cons (.var 1) (.cons (.bin .Mod (.var 0) (.var 1)) .nil)))) .nil)
def b_greatest_common : CSs := (.cons (.asg (.t (.cons (.v 0) (.cons (.v 1) .nil))) (.tup (.cons (.bi .abs (.cons (.var 0) .nil)) (.cons (.bi .abs (.cons (.var 1) .nil)) .nil)))) (.cons (.whl (.cmp .NotEq (.var 1) (.cst (.int 0))) L_greatest_common_0) (.cons (.ret (.var 0)) .nil)))
def d_greatest_common : CDef := ⟨2, 2, b_greatest_common⟩
abbrev i_greatest_common : Nat := 1
def L_chosen_of_0 : CSs := (.cons (.asg (.v 2) (.bin .FloorDiv (.bin .Mult (.var 2) (.bin .Sub (.var 0) (.var 3))) (.bin .Add (.var 3) (.cst (.int 1))))) .nil)
def b_chosen_of : CSs := (.cons (.ifs (.cmp .Gt (.var 1) (.var 0)) (.cons (.ret (.cst (.int 0))) .nil) .nil) (.cons (.asg (.v 2) (.cst (.int 1))) (.cons (.for_ (.v 3) (.rng1 (.var 1)) L_chosen_of_0) (.cons (.ret (.var 2)) .nil))))
def d_chosen_of : CDef := ⟨4, 2, b_chosen_of⟩
abbrev i_chosen_of : Nat := 2
def b_lowest : CSs := (.cons (.asg (.v 2) (.call 1 (.cons (.var 0) (.cons (.var 1) .nil)))) (.cons (.ifs (.cmp .Lt (.var 1) (.cst (.int 0))) (.cons (.asg (.v 2) (.neg (.var 2))) .nil) .nil) (.cons (.ret (.tup (.cons (.bin .FloorDiv (.var 0) (.var 2)) (.cons (.bin .FloorDiv (.var 1) (.var 2)) .nil)))) .nil)))
def d_lowest : CDef := ⟨3, 2, b_lowest⟩
abbrev i_lowest : Nat := 3
def b_ratio : CSs := (.cons (.ifs (.or_ (.not_ (.call 0 (.cons (.var 0) .nil))) (.or_ (.not_ (.call 0 (.cons (.var 1) .nil))) (.cmp .Eq (.var 1) (.cst (.int 0))))) (.cons (.raise 1 .absent) .nil) .nil) (.cons (.ret (.call 3 (.cons (.var 0) (.cons (.var 1) .nil)))) .nil))
def d_ratio : CDef := ⟨2, 2, b_ratio⟩
abbrev i_ratio : Nat := 4
def b_ratio_sum : CSs := (.cons (.ret (.call 3 (.cons (.bin .Add (.bin .Mult (.idx (.var 0) (.cst (.int 0))) (.idx (.var 1) (.cst (.int 1)))) (.bin .Mult (.idx (.var 1) (.cst (.int 0))) (.idx (.var 0) (.cst (.int 1))))) (.cons (.bin .Mult (.idx (.var 0) (.cst (.int 1))) (.idx (.var 1) (.cst (.int 1)))) .nil)))) .nil)
def d_ratio_sum : CDef := ⟨2, 2, b_ratio_sum⟩
abbrev i_ratio_sum : Nat := 5
def b_ratio_less : CSs := (.cons (.ret (.call 3 (.cons (.bin .Sub (.bin .Mult (.idx (.var 0) (.cst (.int 0))) (.idx (.var 1) (.cst (.int 1)))) (.bin .Mult (.idx (.var 1) (.cst (.int 0))) (.idx (.var 0) (.cst (.int 1))))) (.cons (.bin .Mult (.idx (.var 0) (.cst (.int 1))) (.idx (.var 1) (.cst (.int 1)))) .nil)))) .nil)
def d_ratio_less : CDef := ⟨2, 2, b_ratio_less⟩
abbrev i_ratio_less : Nat := 6
def b_ratio_product : CSs := (.cons (.ret (.call 3 (.cons (.bin .Mult (.idx (.var 0) (.cst (.int 0))) (.idx (.var 1) (.cst (.int 0)))) (.cons (.bin .Mult (.idx (.var 0) (.cst (.int 1))) (.idx (.var 1) (.cst (.int 1)))) .nil)))) .nil)
def d_ratio_product : CDef := ⟨2, 2, b_ratio_product⟩
abbrev i_ratio_product : Nat := 7
def b_ratio_over : CSs := (.cons (.ifs (.cmp .Eq (.idx (.var 1) (.cst (.int 0))) (.cst (.int 0))) (.cons (.raise 1 .absent) .nil) .nil) (.cons (.ret (.call 3 (.cons (.bin .Mult (.idx (.var 0) (.cst (.int 0))) (.idx (.var 1) (.cst (.int 1)))) (.cons (.bin .Mult (.idx (.var 0) (.cst (.int 1))) (.idx (.var 1) (.cst (.int 0)))) .nil)))) .nil))
def d_ratio_over : CDef := ⟨2, 2, b_ratio_over⟩
abbrev i_ratio_over : Nat := 8
def L_bernoulli_number_0 : CSs := (.cons (.asg (.v 3) (.call 6 (.cons (.var 3) (.cons (.call 7 (.cons (.tup (.cons (.call 2 (.cons (.bin .Add (.var 2) (.cst (.int 1))) (.cons (.var 4) .nil))) (.cons (.cst (.int 1)) .nil))) (.cons (.idx (.var 1) (.var 4)) .nil))) .nil)))) .nil)
def L_bernoulli_number_1 : CSs := (.cons (.asg (.v 3) (.ite (.cmp .Gt (.var 2) (.cst (.int 0))) (.tup (.cons (.cst (.int 0)) (.cons (.cst (.int 1)) .nil))) (.tup (.cons (.cst (.int 1)) (.cons (.cst (.int 1)) .nil))))) (.cons (.for_ (.v 4) (.rng1 (.var 2)) L_bernoulli_number_0) (.cons (.app (.var 1) (.ite (.cmp .Gt (.var 2) (.cst (.int 0))) (.call 8 (.cons (.var 3) (.cons (.tup (.cons (.bin .Add (.var 2) (.cst (.int 1))) (.cons (.cst (.int 1)) .nil))) .nil))) (.var 3))) (.cons (.kill [3, 4]) .nil))))
def b_bernoulli_number : CSs := (.cons (.asg (.v 1) (.cell (.lst .nil))) (.cons (.for_ (.v 2) (.rng1 (.bin .Add (.var 0) (.cst (.int 1)))) L_bernoulli_number_1) (.cons (.ret (.idx (.var 1) (.var 0))) .nil)))
def d_bernoulli_number : CDef := ⟨5, 1, b_bernoulli_number⟩
abbrev i_bernoulli_number : Nat := 9
def b_check_type : CSs := (.cons (.ifs (.or_ (.not_ (.call 0 (.cons (.var 0) .nil))) (.or_ (.not_ (.call 0 (.cons (.var 1) .nil))) (.or_ (.not_ (.chain .LtE .LtE (.cst (.int 0)) (.var 0) (.glob "MOST_GENUS" (.int 6)))) (.not_ (.chain .LtE .LtE (.cst (.int 0)) (.var 1) (.glob "MOST_LEGS" (.int 8))))))) (.cons (.raise 1 .absent) .nil) .nil) (.cons (.ifs (.cmp .Lt (.bin .Add (.bin .Sub (.bin .Mult (.cst (.int 2)) (.var 0)) (.cst (.int 2))) (.var 1)) (.cst (.int 1))) (.cons (.raise 1 .absent) .nil) .nil) .nil))
def d_check_type : CDef := ⟨2, 2, b_check_type⟩
abbrev i_check_type : Nat := 10
def L_smooth_0 : CSs := (.cons (.asg (.v 2) (.call 7 (.cons (.var 2) (.cons (.tup (.cons (.bin .Sub (.bin .Sub (.cst (.int 2)) (.bin .Mult (.cst (.int 2)) (.var 0))) (.var 4)) (.cons (.cst (.int 1)) .nil))) .nil)))) .nil)
def b_smooth : CSs := (.cons (.ifs (.cmp .Eq (.var 0) (.cst (.int 0))) (.cons (.asg (.t (.cons (.v 2) (.cons (.v 3) .nil))) (.tup (.cons (.tup (.cons (.cst (.int 1)) (.cons (.cst (.int 1)) .nil))) (.cons (.cst (.int 3)) .nil)))) .nil) (.cons (.ifs (.cmp .Eq (.var 0) (.cst (.int 1))) (.cons (.asg (.t (.cons (.v 2) (.cons (.v 3) .nil))) (.tup (.cons (.tup (.cons (.neg (.cst (.int 1))) (.cons (.cst (.int 12)) .nil))) (.cons (.cst (.int 1)) .nil)))) .nil) (.cons (.asg (.t (.cons (.v 2) (.cons (.v 3) .nil))) (.tup (.cons (.call 7 (.cons (.call 9 (.cons (.bin .Mult (.cst (.int 2)) (.var 0)) .nil)) (.cons (.call 4 (.cons (.cst (.int 1)) (.cons (.bin .Mult (.bin .Mult (.cst (.int 2)) (.var 0)) (.bin .Sub (.bin .Mult (.cst (.int 2)) (.var 0)) (.cst (.int 2)))) .nil))) .nil))) (.cons (.cst (.int 0)) .nil)))) .nil)) .nil)) (.cons (.for_ (.v 4) (.rng2 (.var 3) (.var 1)) L_smooth_0) (.cons (.ret (.var 2)) .nil)))
def d_smooth : CDef := ⟨5, 2, b_smooth⟩
abbrev i_smooth : Nat := 11
def b_smooth_number : CSs := (.cons (.expr (.call 10 (.cons (.var 0) (.cons (.var 1) .nil)))) (.cons (.ret (.call 11 (.cons (.var 0) (.cons (.var 1) .nil)))) .nil))
def d_smooth_number : CDef := ⟨2, 2, b_smooth_number⟩
abbrev i_smooth_number : Nat := 12
def L_row_product_0 : CSs := (.cons (.sput (.var 2) (.bin .Add (.var 3) (.var 4)) (.call 5 (.cons (.idx (.var 2) (.bin .Add (.var 3) (.var 4))) (.cons (.call 7 (.cons (.idx (.var 0) (.var 3)) (.cons (.idx (.var 1) (.var 4)) .nil))) .nil)))) .nil)
def L_row_product_1 : CSs := (.cons (.for_ (.v 4) (.rng1 (.bi .len (.cons (.var 1) .nil))) L_row_product_0) (.cons (.kill [4]) .nil))
def b_row_product : CSs := (.cons (.asg (.v 2) (.cell (.bin .Mult (.lst (.cons (.tup (.cons (.cst (.int 0)) (.cons (.cst (.int 1)) .nil))) .nil)) (.bin .Sub (.bin .Add (.bi .len (.cons (.var 0) .nil)) (.bi .len (.cons (.var 1) .nil))) (.cst (.int 1)))))) (.cons (.for_ (.v 3) (.rng1 (.bi .len (.cons (.var 0) .nil))) L_row_product_1) (.cons (.ret (.var 2)) .nil)))
def d_row_product : CDef := ⟨5, 2, b_row_product⟩
abbrev i_row_product : Nat := 13
def b_row_sum : CSs := (.cons (.asg (.v 3) (.bi .max2 (.cons (.bi .len (.cons (.var 0) .nil)) (.cons (.bi .len (.cons (.var 1) .nil)) .nil)))) (.cons (.asg (.t (.cons (.v 0) (.cons (.v 1) .nil))) (.tup (.cons (.bin .Add (.var 0) (.bin .Mult (.lst (.cons (.tup (.cons (.cst (.int 0)) (.cons (.cst (.int 1)) .nil))) .nil)) (.bin .Sub (.var 3) (.bi .len (.cons (.var 0) .nil))))) (.cons (.bin .Add (.var 1) (.bin .Mult (.lst (.cons (.tup (.cons (.cst (.int 0)) (.cons (.cst (.int 1)) .nil))) .nil)) (.bin .Sub (.var 3) (.bi .len (.cons (.var 1) .nil))))) .nil)))) (.cons (.ret (.comp (.call 5 (.cons (.idx (.var 0) (.var 4)) (.cons (.call 7 (.cons (.var 2) (.cons (.idx (.var 1) (.var 4)) .nil))) .nil))) (.v 4) (.rng1 (.var 3)) .absent [4])) .nil)))
def d_row_sum : CDef := ⟨5, 3, b_row_sum⟩
abbrev i_row_sum : Nat := 14
def L_cut_polynomial_0 : CSs := (.cons (.ifs (.and_ (.cmp .Gt (.bin .Add (.bin .Sub (.bin .Mult (.cst (.int 2)) (.var 4)) (.cst (.int 1))) (.var 5)) (.cst (.int 0))) (.cmp .Gt (.bin .Sub (.bin .Add (.bin .Sub (.bin .Mult (.cst (.int 2)) (.bin .Sub (.var 0) (.var 4))) (.cst (.int 1))) (.var 1)) (.var 5)) (.cst (.int 0)))) (.cons (.asg (.v 6) (.call 13 (.cons (.call 15 (.cons (.var 4) (.cons (.bin .Add (.var 5) (.cst (.int 1))) (.cons (.var 2) .nil)))) (.cons (.call 15 (.cons (.bin .Sub (.var 0) (.var 4)) (.cons (.bin .Add (.bin .Sub (.var 1) (.var 5)) (.cst (.int 1))) (.cons (.var 2) .nil)))) .nil)))) (.cons (.asg (.v 3) (.call 14 (.cons (.var 3) (.cons (.var 6) (.cons (.call 4 (.cons (.call 2 (.cons (.var 1) (.cons (.var 5) .nil))) (.cons (.cst (.int 2)) .nil))) .nil))))) .nil)) .nil) (.cons (.kill [6]) .nil))
def L_cut_polynomial_1 : CSs := (.cons (.for_ (.v 5) (.rng1 (.bin .Add (.var 1) (.cst (.int 1)))) L_cut_polynomial_0) (.cons (.kill [5, 6]) .nil))
def b_cut_polynomial : CSs := (.cons (.ifs (.cmp .NotIn (.tup (.cons (.var 0) (.cons (.var 1) .nil))) (.var 2)) (.cons (.asg (.v 3) (.lst (.cons (.tup (.cons (.cst (.int 0)) (.cons (.cst (.int 1)) .nil))) .nil))) (.cons (.ifs (.cmp .Gt (.var 0) (.cst (.int 0))) (.cons (.asg (.v 3) (.call 14 (.cons (.var 3) (.cons (.call 15 (.cons (.bin .Sub (.var 0) (.cst (.int 1))) (.cons (.bin .Add (.var 1) (.cst (.int 2))) (.cons (.var 2) .nil)))) (.cons (.tup (.cons (.cst (.int 1)) (.cons (.cst (.int 2)) .nil))) .nil))))) .nil) .nil) (.cons (.for_ (.v 4) (.rng1 (.bin .Add (.var 0) (.cst (.int 1)))) L_cut_polynomial_1) (.cons (.asg (.v 7) (.bin .Add (.lst (.cons (.call 11 (.cons (.var 0) (.cons (.var 1) .nil))) .nil)) (.comp (.call 7 (.cons (.idx (.var 3) (.var 8)) (.cons (.tup (.cons (.cst (.int 1)) (.cons (.bin .Add (.var 8) (.cst (.int 1))) .nil))) .nil))) (.v 8) (.rng1 (.bi .len (.cons (.var 3) .nil))) .absent [8]))) (.cons (.sput (.var 2) (.tup (.cons (.var 0) (.cons (.var 1) .nil))) (.var 7)) .nil))))) .nil) (.cons (.ret (.idx (.var 2) (.tup (.cons (.var 0) (.cons (.var 1) .nil))))) .nil))
def d_cut_polynomial : CDef := ⟨9, 3, b_cut_polynomial⟩
abbrev i_cut_polynomial : Nat := 15
def L_trimmed_0 : CSs := (.cons (.aug 1 .Sub (.cst (.int 1))) .nil)
def b_trimmed : CSs := (.cons (.asg (.v 1) (.bi .len (.cons (.var 0) .nil))) (.cons (.whl (.and_ (.cmp .Gt (.var 1) (.cst (.int 0))) (.cmp .Eq (.idx (.idx (.var 0) (.bin .Sub (.var 1) (.cst (.int 1)))) (.cst (.int 0))) (.cst (.int 0)))) L_trimmed_0) (.cons (.ret (.bi .tuple (.cons (.sl (.var 0) .absent (.var 1)) .nil))) .nil)))
def d_trimmed : CDef := ⟨2, 1, b_trimmed⟩
abbrev i_trimmed : Nat := 16
def b_edge_polynomial : CSs := (.cons (.expr (.call 10 (.cons (.var 0) (.cons (.var 1) .nil)))) (.cons (.ret (.call 16 (.cons (.call 15 (.cons (.var 0) (.cons (.var 1) (.cons (.dict0 true) .nil)))) .nil))) .nil))
def d_edge_polynomial : CDef := ⟨2, 2, b_edge_polynomial⟩
abbrev i_edge_polynomial : Nat := 17
def L_stable_number_0 : CSs := (.cons (.asg (.v 2) (.call 5 (.cons (.var 2) (.cons (.var 3) .nil)))) .nil)
def b_stable_number : CSs := (.cons (.asg (.v 2) (.tup (.cons (.cst (.int 0)) (.cons (.cst (.int 1)) .nil)))) (.cons (.for_ (.v 3) (.seq (.call 17 (.cons (.var 0) (.cons (.var 1) .nil)))) L_stable_number_0) (.cons (.ret (.var 2)) .nil)))
def d_stable_number : CDef := ⟨4, 2, b_stable_number⟩
abbrev i_stable_number : Nat := 18
def b__law_inner : CSs := (.cons (.ifs (.isin (.var 0) [.tuple]) (.cons (.ret (.bi .tuple (.cons (.comp (.call 19 (.cons (.var 1) .nil)) (.v 1) (.seq (.var 0)) .absent [1]) .nil))) .nil) .nil) (.cons (.ifs (.or_ (.cmp .Is (.var 0) (.cst .non)) (.or_ (.isin (.var 0) [.str]) (.and_ (.isin (.var 0) [.int]) (.not_ (.isin (.var 0) [.bool]))))) (.cons (.ret (.var 0)) .nil) .nil) (.cons (.ret (.cst (.str (Str.ofString "odd")))) .nil)))
def d__law_inner : CDef := ⟨2, 1, b__law_inner⟩
abbrev i__law_inner : Nat := 19
def b__law_plain : CSs := (.cons (.ret (.ite (.isin (.var 0) [.str]) (.cst (.str (Str.ofString "odd"))) (.call 19 (.cons (.var 0) .nil)))) .nil)
def d__law_plain : CDef := ⟨1, 1, b__law_plain⟩
abbrev i__law_plain : Nat := 20
def L__law_state_0 : CSs := (.cons (.asg (.v 1) (.bin .Add (.bin .Mult (.var 1) (.cst (.int 1000003))) (.bi .abs (.cons (.var 3) .nil)))) (.cons (.asg (.v 2) (.bin .Mod (.bi .int (.cons (.bin .Add (.bin .Mult (.var 2) (.cst (.int 48271))) (.var 3)) .nil)) (.cst (.int 2147483647)))) .nil))
def b__law_state : CSs := (.cons (.asg (.v 1) (.cst (.int 0))) (.cons (.asg (.v 2) (.cst (.int 1))) (.cons (.for_ (.v 3) (.seq (.sl (.var 0) .absent (.cst (.int 63)))) L__law_state_0) (.cons (.ret (.cell (.lst (.cons (.var 1) (.cons (.var 2) .nil))))) .nil))))
def d__law_state : CDef := ⟨4, 1, b__law_state⟩
abbrev i__law_state : Nat := 21
def b__law_take : CSs := (.cons (.ifs (.cmp .Gt (.idx (.var 0) (.cst (.int 0))) (.cst (.int 0))) (.cons (.asg (.v 2) (.bin .Mod (.bi .int (.cons (.idx (.var 0) (.cst (.int 0))) .nil)) (.var 1))) (.cons (.sput (.var 0) (.cst (.int 0)) (.bin .FloorDiv (.idx (.var 0) (.cst (.int 0))) (.var 1))) (.cons (.ret (.var 2)) .nil))) .nil) (.cons (.sput (.var 0) (.cst (.int 1)) (.bin .Mod (.bi .int (.cons (.bin .Add (.bin .Mult (.idx (.var 0) (.cst (.int 1))) (.cst (.int 48271))) (.cst (.int 11))) .nil)) (.cst (.int 2147483647)))) (.cons (.ret (.bin .Mod (.bi .int (.cons (.bin .FloorDiv (.idx (.var 0) (.cst (.int 1))) (.cst (.int 7))) .nil)) (.var 1))) .nil)))
def d__law_take : CDef := ⟨3, 2, b__law_take⟩
abbrev i__law_take : Nat := 22
def L__law_frac_0 : CSs := (.cons (.asg (.t (.cons (.v 2) (.cons (.v 3) .nil))) (.tup (.cons (.var 3) (.cons (.bin .Mod (.bi .int (.cons (.var 2) .nil)) (.var 3)) .nil)))) .nil)
def b__law_frac : CSs := (.cons (.asg (.t (.cons (.v 2) (.cons (.v 3) .nil))) (.tup (.cons (.bi .abs (.cons (.var 0) .nil)) (.cons (.bi .abs (.cons (.var 1) .nil)) .nil)))) (.cons (.whl (.cmp .NotEq (.var 3) (.cst (.int 0))) L__law_frac_0) (.cons (.ifs (.cmp .Lt (.var 1) (.cst (.int 0))) (.cons (.asg (.v 2) (.neg (.var 2))) .nil) .nil) (.cons (.ret (.tup (.cons (.bin .FloorDiv (.var 0) (.var 2)) (.cons (.bin .FloorDiv (.var 1) (.var 2)) .nil)))) .nil))))
def d__law_frac : CDef := ⟨4, 2, b__law_frac⟩
abbrev i__law_frac : Nat := 23
def b__law_over : CSs := (.cons (.ret (.call 23 (.cons (.bin .Mult (.idx (.var 0) (.cst (.int 0))) (.idx (.var 1) (.cst (.int 1)))) (.cons (.bin .Mult (.idx (.var 0) (.cst (.int 1))) (.idx (.var 1) (.cst (.int 0)))) .nil)))) .nil)
def d__law_over : CDef := ⟨2, 2, b__law_over⟩
abbrev i__law_over : Nat := 24
def b__law_add : CSs := (.cons (.ret (.call 23 (.cons (.bin .Add (.bin .Mult (.idx (.var 0) (.cst (.int 0))) (.idx (.var 1) (.cst (.int 1)))) (.bin .Mult (.idx (.var 1) (.cst (.int 0))) (.idx (.var 0) (.cst (.int 1))))) (.cons (.bin .Mult (.idx (.var 0) (.cst (.int 1))) (.idx (.var 1) (.cst (.int 1)))) .nil)))) .nil)
def d__law_add : CDef := ⟨2, 2, b__law_add⟩
abbrev i__law_add : Nat := 25
def L__law_total_0 : CSs := (.cons (.asg (.v 1) (.call 25 (.cons (.var 1) (.cons (.var 2) .nil)))) .nil)
def b__law_total : CSs := (.cons (.asg (.v 1) (.tup (.cons (.cst (.int 0)) (.cons (.cst (.int 1)) .nil)))) (.cons (.for_ (.v 2) (.seq (.var 0)) L__law_total_0) (.cons (.ret (.var 1)) .nil)))
def d__law_total : CDef := ⟨3, 1, b__law_total⟩
abbrev i__law_total : Nat := 26
def b__law_times : CSs := (.cons (.ret (.call 23 (.cons (.bin .Mult (.idx (.var 0) (.cst (.int 0))) (.idx (.var 1) (.cst (.int 0)))) (.cons (.bin .Mult (.idx (.var 0) (.cst (.int 1))) (.idx (.var 1) (.cst (.int 1)))) .nil)))) .nil)
def d__law_times : CDef := ⟨2, 2, b__law_times⟩
abbrev i__law_times : Nat := 27
def L__law_chosen_0 : CSs := (.cons (.asg (.v 2) (.bin .FloorDiv (.bin .Mult (.var 2) (.bin .Sub (.var 0) (.var 3))) (.bin .Add (.var 3) (.cst (.int 1))))) .nil)
def b__law_chosen : CSs := (.cons (.asg (.v 2) (.cst (.int 1))) (.cons (.for_ (.v 3) (.rng1 (.var 1)) L__law_chosen_0) (.cons (.ret (.var 2)) .nil)))
def d__law_chosen : CDef := ⟨4, 2, b__law_chosen⟩
abbrev i__law_chosen : Nat := 28
def b__law_less : CSs := (.cons (.ret (.call 23 (.cons (.bin .Sub (.bin .Mult (.idx (.var 0) (.cst (.int 0))) (.idx (.var 1) (.cst (.int 1)))) (.bin .Mult (.idx (.var 1) (.cst (.int 0))) (.idx (.var 0) (.cst (.int 1))))) (.cons (.bin .Mult (.idx (.var 0) (.cst (.int 1))) (.idx (.var 1) (.cst (.int 1)))) .nil)))) .nil)
def d__law_less : CDef := ⟨2, 2, b__law_less⟩
abbrev i__law_less : Nat := 29
def L__law_bernoulli_0 : CSs := (.cons (.asg (.v 3) (.call 26 (.cons (.comp (.call 27 (.cons (.tup (.cons (.call 28 (.cons (.bin .Add (.var 2) (.cst (.int 1))) (.cons (.var 4) .nil))) (.cons (.cst (.int 1)) .nil))) (.cons (.idx (.var 1) (.var 4)) .nil))) (.v 4) (.rng1 (.var 2)) .absent [4]) .nil))) (.cons (.app (.var 1) (.call 24 (.cons (.call 29 (.cons (.tup (.cons (.cst (.int 0)) (.cons (.cst (.int 1)) .nil))) (.cons (.var 3) .nil))) (.cons (.tup (.cons (.bin .Add (.var 2) (.cst (.int 1))) (.cons (.cst (.int 1)) .nil))) .nil)))) (.cons (.kill [3]) .nil)))
def b__law_bernoulli : CSs := (.cons (.asg (.v 1) (.cell (.lst (.cons (.tup (.cons (.cst (.int 1)) (.cons (.cst (.int 1)) .nil))) .nil)))) (.cons (.for_ (.v 2) (.rng2 (.cst (.int 1)) (.bin .Add (.var 0) (.cst (.int 1)))) L__law_bernoulli_0) (.cons (.ret (.var 1)) .nil)))
def d__law_bernoulli : CDef := ⟨5, 1, b__law_bernoulli⟩
abbrev i__law_bernoulli : Nat := 30
def L__law_smooth_0 : CSs := (.cons (.asg (.v 2) (.call 27 (.cons (.var 2) (.cons (.tup (.cons (.bin .Sub (.bin .Sub (.cst (.int 2)) (.bin .Mult (.cst (.int 2)) (.var 0))) (.var 4)) (.cons (.cst (.int 1)) .nil))) .nil)))) .nil)
def b__law_smooth : CSs := (.cons (.ifs (.cmp .Eq (.var 0) (.cst (.int 0))) (.cons (.asg (.t (.cons (.v 2) (.cons (.v 3) .nil))) (.tup (.cons (.tup (.cons (.cst (.int 1)) (.cons (.cst (.int 1)) .nil))) (.cons (.cst (.int 3)) .nil)))) .nil) (.cons (.ifs (.cmp .Eq (.var 0) (.cst (.int 1))) (.cons (.asg (.t (.cons (.v 2) (.cons (.v 3) .nil))) (.tup (.cons (.tup (.cons (.neg (.cst (.int 1))) (.cons (.cst (.int 12)) .nil))) (.cons (.cst (.int 1)) .nil)))) .nil) (.cons (.asg (.t (.cons (.v 2) (.cons (.v 3) .nil))) (.tup (.cons (.call 24 (.cons (.idx (.call 30 (.cons (.bin .Mult (.cst (.int 2)) (.var 0)) .nil)) (.bin .Mult (.cst (.int 2)) (.var 0))) (.cons (.tup (.cons (.bin .Mult (.bin .Mult (.cst (.int 2)) (.var 0)) (.bin .Sub (.bin .Mult (.cst (.int 2)) (.var 0)) (.cst (.int 2)))) (.cons (.cst (.int 1)) .nil))) .nil))) (.cons (.cst (.int 0)) .nil)))) .nil)) .nil)) (.cons (.for_ (.v 4) (.rng2 (.var 3) (.var 1)) L__law_smooth_0) (.cons (.ret (.var 2)) .nil)))
def d__law_smooth : CDef := ⟨5, 2, b__law_smooth⟩
abbrev i__law_smooth : Nat := 31
def L__law_trimmed_0 : CSs := (.cons (.expr (.pop (.var 1))) .nil)
def b__law_trimmed : CSs := (.cons (.asg (.v 1) (.cell (.bi .list (.cons (.var 0) .nil)))) (.cons (.whl (.and_ (.cmp .Gt (.bi .len (.cons (.var 1) .nil)) (.cst (.int 0))) (.cmp .Eq (.idx (.idx (.var 1) (.neg (.cst (.int 1)))) (.cst (.int 0))) (.cst (.int 0)))) L__law_trimmed_0) (.cons (.ret (.bi .tuple (.cons (.var 1) .nil))) .nil)))
def d__law_trimmed : CDef := ⟨2, 1, b__law_trimmed⟩
abbrev i__law_trimmed : Nat := 32
def b__law_poly_sum : CSs := (.cons (.asg (.v 3) (.bi .max2 (.cons (.bi .len (.cons (.var 0) .nil)) (.cons (.bi .len (.cons (.var 1) .nil)) .nil)))) (.cons (.asg (.t (.cons (.v 4) (.cons (.v 5) .nil))) (.tup (.cons (.bin .Add (.bi .list (.cons (.var 0) .nil)) (.bin .Mult (.lst (.cons (.tup (.cons (.cst (.int 0)) (.cons (.cst (.int 1)) .nil))) .nil)) (.bin .Sub (.var 3) (.bi .len (.cons (.var 0) .nil))))) (.cons (.bin .Add (.bi .list (.cons (.var 1) .nil)) (.bin .Mult (.lst (.cons (.tup (.cons (.cst (.int 0)) (.cons (.cst (.int 1)) .nil))) .nil)) (.bin .Sub (.var 3) (.bi .len (.cons (.var 1) .nil))))) .nil)))) (.cons (.ret (.comp (.call 25 (.cons (.idx (.var 4) (.var 6)) (.cons (.call 27 (.cons (.var 2) (.cons (.idx (.var 5) (.var 6)) .nil))) .nil))) (.v 6) (.rng1 (.var 3)) .absent [6])) .nil)))
def d__law_poly_sum : CDef := ⟨7, 3, b__law_poly_sum⟩
abbrev i__law_poly_sum : Nat := 33
def L__law_poly_times_0 : CSs := (.cons (.sput (.var 2) (.bin .Add (.var 3) (.var 4)) (.call 25 (.cons (.idx (.var 2) (.bin .Add (.var 3) (.var 4))) (.cons (.call 27 (.cons (.idx (.var 0) (.var 3)) (.cons (.idx (.var 1) (.var 4)) .nil))) .nil)))) .nil)
def L__law_poly_times_1 : CSs := (.cons (.for_ (.v 4) (.rng1 (.bi .len (.cons (.var 1) .nil))) L__law_poly_times_0) (.cons (.kill [4]) .nil))
def b__law_poly_times : CSs := (.cons (.asg (.v 2) (.cell (.comp (.tup (.cons (.cst (.int 0)) (.cons (.cst (.int 1)) .nil))) (.v 5) (.rng1 (.bin .Sub (.bin .Add (.bi .len (.cons (.var 0) .nil)) (.bi .len (.cons (.var 1) .nil))) (.cst (.int 1)))) .absent [5]))) (.cons (.for_ (.v 3) (.rng1 (.bi .len (.cons (.var 0) .nil))) L__law_poly_times_1) (.cons (.ret (.var 2)) .nil)))
def d__law_poly_times : CDef := ⟨6, 2, b__law_poly_times⟩
abbrev i__law_poly_times : Nat := 34
def L__law_edge_row_0 : CSs := (.cons (.ifs (.and_ (.cmp .Gt (.bin .Add (.bin .Sub (.bin .Mult (.cst (.int 2)) (.var 4)) (.cst (.int 1))) (.var 5)) (.cst (.int 0))) (.cmp .Gt (.bin .Sub (.bin .Add (.bin .Sub (.bin .Mult (.cst (.int 2)) (.bin .Sub (.var 0) (.var 4))) (.cst (.int 1))) (.var 1)) (.var 5)) (.cst (.int 0)))) (.cons (.asg (.v 6) (.call 34 (.cons (.call 35 (.cons (.var 4) (.cons (.bin .Add (.var 5) (.cst (.int 1))) (.cons (.var 2) .nil)))) (.cons (.call 35 (.cons (.bin .Sub (.var 0) (.var 4)) (.cons (.bin .Add (.bin .Sub (.var 1) (.var 5)) (.cst (.int 1))) (.cons (.var 2) .nil)))) .nil)))) (.cons (.asg (.v 3) (.call 33 (.cons (.var 3) (.cons (.var 6) (.cons (.call 23 (.cons (.call 28 (.cons (.var 1) (.cons (.var 5) .nil))) (.cons (.cst (.int 2)) .nil))) .nil))))) .nil)) .nil) (.cons (.kill [6]) .nil))
def L__law_edge_row_1 : CSs := (.cons (.for_ (.v 5) (.rng1 (.bin .Add (.var 1) (.cst (.int 1)))) L__law_edge_row_0) (.cons (.kill [5, 6]) .nil))
def b__law_edge_row : CSs := (.cons (.ifs (.cmp .NotIn (.tup (.cons (.var 0) (.cons (.var 1) .nil))) (.var 2)) (.cons (.asg (.v 3) (.lst (.cons (.tup (.cons (.cst (.int 0)) (.cons (.cst (.int 1)) .nil))) .nil))) (.cons (.ifs (.cmp .Gt (.var 0) (.cst (.int 0))) (.cons (.asg (.v 3) (.call 33 (.cons (.var 3) (.cons (.call 35 (.cons (.bin .Sub (.var 0) (.cst (.int 1))) (.cons (.bin .Add (.var 1) (.cst (.int 2))) (.cons (.var 2) .nil)))) (.cons (.tup (.cons (.cst (.int 1)) (.cons (.cst (.int 2)) .nil))) .nil))))) .nil) .nil) (.cons (.for_ (.v 4) (.rng1 (.bin .Add (.var 0) (.cst (.int 1)))) L__law_edge_row_1) (.cons (.sput (.var 2) (.tup (.cons (.var 0) (.cons (.var 1) .nil))) (.bin .Add (.lst (.cons (.call 31 (.cons (.var 0) (.cons (.var 1) .nil))) .nil)) (.comp (.call 24 (.cons (.idx (.var 3) (.var 7)) (.cons (.tup (.cons (.bin .Add (.var 7) (.cst (.int 1))) (.cons (.cst (.int 1)) .nil))) .nil))) (.v 7) (.rng1 (.bi .len (.cons (.var 3) .nil))) .absent [7]))) .nil)))) .nil) (.cons (.ret (.idx (.var 2) (.tup (.cons (.var 0) (.cons (.var 1) .nil))))) .nil))
def d__law_edge_row : CDef := ⟨8, 3, b__law_edge_row⟩
abbrev i__law_edge_row : Nat := 35
def b__law_told : CSs := (.cons (.try_ (.cons (.ret (.call 20 (.cons (.callv (.idx (.lst (.cons (.glob "smooth_number" (.fn 12)) (.cons (.glob "edge_polynomial" (.fn 17)) (.cons (.glob "stable_number" (.fn 18)) .nil)))) (.var 0)) [12, 17, 18] (.cons (.var 1) (.cons (.var 2) .nil))) .nil))) .nil) 1 (.cons (.ret (.cst (.str (Str.ofString "malformed")))) .nil)) .nil)
def d__law_told : CDef := ⟨3, 3, b__law_told⟩
abbrev i__law_told : Nat := 36
def L_law_0 : CSs := (.cons (.ifs (.and_ (.cmp .Gt (.bin .Add (.bin .Sub (.bin .Mult (.cst (.int 2)) (.var 3)) (.cst (.int 2))) (.var 5)) (.cst (.int 0))) (.cmp .NotEq (.call 36 (.cons (.cst (.int 0)) (.cons (.var 3) (.cons (.var 5) .nil)))) (.call 31 (.cons (.var 3) (.cons (.var 5) .nil))))) (.cons (.ret (.cst (.bl false))) .nil) .nil) .nil)
def L_law_1 : CSs := (.cons (.ifs (.cmp .NotEq (.comp (.call 36 (.cons (.var 8) (.cons (.idx (.var 7) (.cst (.int 0))) (.cons (.idx (.var 7) (.cst (.int 1))) .nil)))) (.v 8) (.rng1 (.cst (.int 3))) .absent [8]) (.bin .Mult (.lst (.cons (.cst (.str (Str.ofString "malformed"))) .nil)) (.cst (.int 3)))) (.cons (.ret (.cst (.bl false))) .nil) .nil) .nil)
def b_law : CSs := (.cons (.asg (.v 1) (.call 21 (.cons (.var 0) .nil))) (.cons (.asg (.v 2) (.idx (.lst (.cons (.cst (.int 3)) (.cons (.cst (.int 3)) (.cons (.cst (.int 6)) .nil)))) (.call 22 (.cons (.var 1) (.cons (.cst (.int 3)) .nil))))) (.cons (.asg (.t (.cons (.v 3) (.cons (.v 4) .nil))) (.tup (.cons (.call 22 (.cons (.var 1) (.cons (.bin .Add (.var 2) (.cst (.int 1))) .nil))) (.cons (.call 22 (.cons (.var 1) (.cons (.idx (.lst (.cons (.cst (.int 5)) (.cons (.cst (.int 9)) .nil))) (.call 22 (.cons (.var 1) (.cons (.cst (.int 2)) .nil)))) .nil))) .nil)))) (.cons (.ifs (.cmp .Lt (.bin .Add (.bin .Sub (.bin .Mult (.cst (.int 2)) (.var 3)) (.cst (.int 2))) (.var 4)) (.cst (.int 1))) (.cons (.ifs (.cmp .NotEq (.comp (.call 36 (.cons (.var 8) (.cons (.var 3) (.cons (.var 4) .nil)))) (.v 8) (.rng1 (.cst (.int 3))) .absent [8]) (.bin .Mult (.lst (.cons (.cst (.str (Str.ofString "malformed"))) .nil)) (.cst (.int 3)))) (.cons (.ret (.cst (.bl false))) .nil) .nil) (.cons (.asg (.t (.cons (.v 3) (.cons (.v 4) .nil))) (.tup (.cons (.bin .Add (.var 3) (.cst (.int 1))) (.cons (.bin .Add (.var 4) (.cst (.int 1))) .nil)))) .nil)) .nil) (.cons (.for_ (.v 5) (.rng1 (.bin .Add (.var 4) (.cst (.int 1)))) L_law_0) (.cons (.ifs (.or_ (.cmp .Lt (.bin .Add (.bin .Sub (.bin .Mult (.cst (.int 3)) (.var 3)) (.cst (.int 3))) (.var 4)) (.cst (.int 11))) (.cmp .Eq (.call 22 (.cons (.var 1) (.cons (.cst (.int 4)) .nil))) (.cst (.int 0)))) (.cons (.asg (.v 6) (.call 32 (.cons (.call 35 (.cons (.var 3) (.cons (.var 4) (.cons (.dict0 true) .nil)))) .nil))) (.cons (.ifs (.or_ (.cmp .NotEq (.call 36 (.cons (.cst (.int 1)) (.cons (.var 3) (.cons (.var 4) .nil)))) (.var 6)) (.cmp .NotEq (.call 36 (.cons (.cst (.int 2)) (.cons (.var 3) (.cons (.var 4) .nil)))) (.call 26 (.cons (.var 6) .nil)))) (.cons (.ret (.cst (.bl false))) .nil) .nil) .nil)) .nil) (.cons (.ifs (.or_ (.cmp .NotEq (.comp (.call 36 (.cons (.cst (.int 2)) (.cons (.cst (.int 0)) (.cons (.var 9) .nil)))) (.v 9) (.rng2 (.cst (.int 3)) (.cst (.int 8))) .absent [9]) (.lst (.cons (.tup (.cons (.cst (.int 1)) (.cons (.cst (.int 1)) .nil))) (.cons (.tup (.cons (.cst (.int 2)) (.cons (.cst (.int 1)) .nil))) (.cons (.tup (.cons (.cst (.int 7)) (.cons (.cst (.int 1)) .nil))) (.cons (.tup (.cons (.cst (.int 34)) (.cons (.cst (.int 1)) .nil))) (.cons (.tup (.cons (.cst (.int 213)) (.cons (.cst (.int 1)) .nil))) .nil))))))) (.cmp .NotEq (.call 36 (.cons (.cst (.int 2)) (.cons (.cst (.int 1)) (.cons (.cst (.int 1)) .nil)))) (.tup (.cons (.cst (.int 5)) (.cons (.cst (.int 12)) .nil))))) (.cons (.ret (.cst (.bl false))) .nil) .nil) (.cons (.ifs (.or_ (.cmp .NotEq (.call 36 (.cons (.cst (.int 0)) (.cons (.cst (.int 2)) (.cons (.cst (.int 0)) .nil)))) (.tup (.cons (.neg (.cst (.int 1))) (.cons (.cst (.int 240)) .nil)))) (.cmp .NotEq (.call 36 (.cons (.cst (.int 1)) (.cons (.cst (.int 1)) (.cons (.cst (.int 1)) .nil)))) (.tup (.cons (.tup (.cons (.neg (.cst (.int 1))) (.cons (.cst (.int 12)) .nil))) (.cons (.tup (.cons (.cst (.int 1)) (.cons (.cst (.int 2)) .nil))) .nil))))) (.cons (.ret (.cst (.bl false))) .nil) .nil) (.cons (.for_ (.v 7) (.seq (.lst (.cons (.tup (.cons (.cst (.int 0)) (.cons (.cst (.int 2)) .nil))) (.cons (.tup (.cons (.cst (.int 1)) (.cons (.cst (.int 0)) .nil))) (.cons (.tup (.cons (.neg (.cst (.int 1))) (.cons (.cst (.int 5)) .nil))) (.cons (.tup (.cons (.cst (.int 7)) (.cons (.cst (.int 1)) .nil))) (.cons (.tup (.cons (.cst (.int 0)) (.cons (.cst (.int 9)) .nil))) (.cons (.tup (.cons (.cst .non) (.cons (.cst (.int 3)) .nil))) (.cons (.tup (.cons (.cst (.int 0)) (.cons (.cst (.bl true)) .nil))) (.cons (.tup (.cons (.cst (.int 2)) (.cons (.cst (.str (Str.ofString "1"))) .nil))) (.cons (.tup (.cons (.cst (.bl true)) (.cons (.cst (.int 1)) .nil))) .nil))))))))))) L_law_1) (.cons (.ret (.cst (.bl true))) .nil))))))))))
def d_law : CDef := ⟨10, 1, b_law⟩
abbrev i_law : Nat := 37
def defs : List CDef := [d_is_integer, d_greatest_common, d_chosen_of, d_lowest, d_ratio, d_ratio_sum, d_ratio_less, d_ratio_product, d_ratio_over, d_bernoulli_number, d_check_type, d_smooth, d_smooth_number, d_row_product, d_row_sum, d_cut_polynomial, d_trimmed, d_edge_polynomial, d_stable_number, d__law_inner, d__law_plain, d__law_state, d__law_take, d__law_frac, d__law_over, d__law_add, d__law_total, d__law_times, d__law_chosen, d__law_less, d__law_bernoulli, d__law_smooth, d__law_trimmed, d__law_poly_sum, d__law_poly_times, d__law_edge_row, d__law_told, d_law]
def subT : List ((Nat × Nat) × Bool) := [((0, 0), true), ((0, 1), false), ((1, 0), true), ((1, 1), true)]
def sub (i j : Nat) : Option Bool := subT.lookup (i, j)
def P : Pg := ⟨defs, sub⟩

def top (i : Nat) : Stmt := PySem.Challenge.pw_moduliroads_k10_whole_euler_numbers.main.body.getD i (.Pass ⟨0, 0, 0, 0⟩)
def tx : List DTx := [⟨(Str.ofString "is_integer"), top 4, [(Str.ofString "value")], [(Str.ofString "value")]⟩,
  ⟨(Str.ofString "greatest_common"), top 5, [(Str.ofString "a"), (Str.ofString "b")], [(Str.ofString "a"), (Str.ofString "b")]⟩,
  ⟨(Str.ofString "chosen_of"), top 6, [(Str.ofString "n"), (Str.ofString "k"), (Str.ofString "found"), (Str.ofString "j")], [(Str.ofString "n"), (Str.ofString "k")]⟩,
  ⟨(Str.ofString "lowest"), top 7, [(Str.ofString "n"), (Str.ofString "d"), (Str.ofString "g")], [(Str.ofString "n"), (Str.ofString "d")]⟩,
  ⟨(Str.ofString "ratio"), top 8, [(Str.ofString "n"), (Str.ofString "d")], [(Str.ofString "n"), (Str.ofString "d")]⟩,
  ⟨(Str.ofString "ratio_sum"), top 9, [(Str.ofString "a"), (Str.ofString "b")], [(Str.ofString "a"), (Str.ofString "b")]⟩,
  ⟨(Str.ofString "ratio_less"), top 10, [(Str.ofString "a"), (Str.ofString "b")], [(Str.ofString "a"), (Str.ofString "b")]⟩,
  ⟨(Str.ofString "ratio_product"), top 11, [(Str.ofString "a"), (Str.ofString "b")], [(Str.ofString "a"), (Str.ofString "b")]⟩,
  ⟨(Str.ofString "ratio_over"), top 12, [(Str.ofString "a"), (Str.ofString "b")], [(Str.ofString "a"), (Str.ofString "b")]⟩,
  ⟨(Str.ofString "bernoulli_number"), top 13, [(Str.ofString "k"), (Str.ofString "found"), (Str.ofString "i"), (Str.ofString "total"), (Str.ofString "j")], [(Str.ofString "k")]⟩,
  ⟨(Str.ofString "check_type"), top 17, [(Str.ofString "g"), (Str.ofString "n")], [(Str.ofString "g"), (Str.ofString "n")]⟩,
  ⟨(Str.ofString "smooth"), top 18, [(Str.ofString "g"), (Str.ofString "n"), (Str.ofString "found"), (Str.ofString "start"), (Str.ofString "k")], [(Str.ofString "g"), (Str.ofString "n")]⟩,
  ⟨(Str.ofString "smooth_number"), top 19, [(Str.ofString "g"), (Str.ofString "n")], [(Str.ofString "g"), (Str.ofString "n")]⟩,
  ⟨(Str.ofString "row_product"), top 20, [(Str.ofString "f"), (Str.ofString "h"), (Str.ofString "found"), (Str.ofString "i"), (Str.ofString "j")], [(Str.ofString "f"), (Str.ofString "h")]⟩,
  ⟨(Str.ofString "row_sum"), top 21, [(Str.ofString "f"), (Str.ofString "h"), (Str.ofString "c"), (Str.ofString "size"), (Str.ofString "k")], [(Str.ofString "f"), (Str.ofString "h"), (Str.ofString "c")]⟩,
  ⟨(Str.ofString "cut_polynomial"), top 22, [(Str.ofString "g"), (Str.ofString "n"), (Str.ofString "known"), (Str.ofString "slope"), (Str.ofString "a"), (Str.ofString "i"), (Str.ofString "both"), (Str.ofString "row"), (Str.ofString "k")], [(Str.ofString "g"), (Str.ofString "n"), (Str.ofString "known")]⟩,
  ⟨(Str.ofString "trimmed"), top 23, [(Str.ofString "row"), (Str.ofString "size")], [(Str.ofString "row")]⟩,
  ⟨(Str.ofString "edge_polynomial"), top 24, [(Str.ofString "g"), (Str.ofString "n")], [(Str.ofString "g"), (Str.ofString "n")]⟩,
  ⟨(Str.ofString "stable_number"), top 25, [(Str.ofString "g"), (Str.ofString "n"), (Str.ofString "total"), (Str.ofString "item")], [(Str.ofString "g"), (Str.ofString "n")]⟩,
  ⟨(Str.ofString "_law_inner"), top 27, [(Str.ofString "value"), (Str.ofString "item")], [(Str.ofString "value")]⟩,
  ⟨(Str.ofString "_law_plain"), top 28, [(Str.ofString "value")], [(Str.ofString "value")]⟩,
  ⟨(Str.ofString "_law_state"), top 29, [(Str.ofString "script"), (Str.ofString "seed"), (Str.ofString "total"), (Str.ofString "cell")], [(Str.ofString "script")]⟩,
  ⟨(Str.ofString "_law_take"), top 30, [(Str.ofString "state"), (Str.ofString "m"), (Str.ofString "value")], [(Str.ofString "state"), (Str.ofString "m")]⟩,
  ⟨(Str.ofString "_law_frac"), top 31, [(Str.ofString "n"), (Str.ofString "d"), (Str.ofString "a"), (Str.ofString "b")], [(Str.ofString "n"), (Str.ofString "d")]⟩,
  ⟨(Str.ofString "_law_over"), top 32, [(Str.ofString "a"), (Str.ofString "b")], [(Str.ofString "a"), (Str.ofString "b")]⟩,
  ⟨(Str.ofString "_law_add"), top 33, [(Str.ofString "a"), (Str.ofString "b")], [(Str.ofString "a"), (Str.ofString "b")]⟩,
  ⟨(Str.ofString "_law_total"), top 34, [(Str.ofString "items"), (Str.ofString "found"), (Str.ofString "c")], [(Str.ofString "items")]⟩,
  ⟨(Str.ofString "_law_times"), top 35, [(Str.ofString "a"), (Str.ofString "b")], [(Str.ofString "a"), (Str.ofString "b")]⟩,
  ⟨(Str.ofString "_law_chosen"), top 36, [(Str.ofString "n"), (Str.ofString "k"), (Str.ofString "total"), (Str.ofString "j")], [(Str.ofString "n"), (Str.ofString "k")]⟩,
  ⟨(Str.ofString "_law_less"), top 37, [(Str.ofString "a"), (Str.ofString "b")], [(Str.ofString "a"), (Str.ofString "b")]⟩,
  ⟨(Str.ofString "_law_bernoulli"), top 38, [(Str.ofString "most"), (Str.ofString "found"), (Str.ofString "k"), (Str.ofString "total"), (Str.ofString "j")], [(Str.ofString "most")]⟩,
  ⟨(Str.ofString "_law_smooth"), top 39, [(Str.ofString "g"), (Str.ofString "n"), (Str.ofString "total"), (Str.ofString "start"), (Str.ofString "k")], [(Str.ofString "g"), (Str.ofString "n")]⟩,
  ⟨(Str.ofString "_law_trimmed"), top 40, [(Str.ofString "row"), (Str.ofString "found")], [(Str.ofString "row")]⟩,
  ⟨(Str.ofString "_law_poly_sum"), top 41, [(Str.ofString "f"), (Str.ofString "g"), (Str.ofString "c"), (Str.ofString "size"), (Str.ofString "one"), (Str.ofString "two"), (Str.ofString "k")], [(Str.ofString "f"), (Str.ofString "g"), (Str.ofString "c")]⟩,
  ⟨(Str.ofString "_law_poly_times"), top 42, [(Str.ofString "f"), (Str.ofString "g"), (Str.ofString "found"), (Str.ofString "i"), (Str.ofString "j"), (Str.ofString "k")], [(Str.ofString "f"), (Str.ofString "g")]⟩,
  ⟨(Str.ofString "_law_edge_row"), top 43, [(Str.ofString "g"), (Str.ofString "n"), (Str.ofString "known"), (Str.ofString "slope"), (Str.ofString "a"), (Str.ofString "i"), (Str.ofString "both"), (Str.ofString "k")], [(Str.ofString "g"), (Str.ofString "n"), (Str.ofString "known")]⟩,
  ⟨(Str.ofString "_law_told"), top 44, [(Str.ofString "which"), (Str.ofString "g"), (Str.ofString "n")], [(Str.ofString "which"), (Str.ofString "g"), (Str.ofString "n")]⟩,
  ⟨(Str.ofString "law"), top 45, [(Str.ofString "script"), (Str.ofString "state"), (Str.ofString "most"), (Str.ofString "g"), (Str.ofString "n"), (Str.ofString "own"), (Str.ofString "row"), (Str.ofString "bad"), (Str.ofString "which"), (Str.ofString "k")], [(Str.ofString "script")]⟩]
def sg : Sg := ⟨[(Str.ofString "is_integer"), (Str.ofString "greatest_common"), (Str.ofString "chosen_of"), (Str.ofString "lowest"), (Str.ofString "ratio"), (Str.ofString "ratio_sum"), (Str.ofString "ratio_less"), (Str.ofString "ratio_product"), (Str.ofString "ratio_over"), (Str.ofString "bernoulli_number"), (Str.ofString "check_type"), (Str.ofString "smooth"), (Str.ofString "smooth_number"), (Str.ofString "row_product"), (Str.ofString "row_sum"), (Str.ofString "cut_polynomial"), (Str.ofString "trimmed"), (Str.ofString "edge_polynomial"), (Str.ofString "stable_number"), (Str.ofString "_law_inner"), (Str.ofString "_law_plain"), (Str.ofString "_law_state"), (Str.ofString "_law_take"), (Str.ofString "_law_frac"), (Str.ofString "_law_over"), (Str.ofString "_law_add"), (Str.ofString "_law_total"), (Str.ofString "_law_times"), (Str.ofString "_law_chosen"), (Str.ofString "_law_less"), (Str.ofString "_law_bernoulli"), (Str.ofString "_law_smooth"), (Str.ofString "_law_trimmed"), (Str.ofString "_law_poly_sum"), (Str.ofString "_law_poly_times"), (Str.ofString "_law_edge_row"), (Str.ofString "_law_told"), (Str.ofString "law")], [((Str.ofString "MOST_GENUS"), .int 6), ((Str.ofString "MOST_LEGS"), .int 8)], [(Str.ofString "Fault"), (Str.ofString "Malformed")]⟩
set_option maxRecDepth 1000000 in
theorem chk : chkDs sg tx P.defs = true := by decide +kernel
set_option maxHeartbeats 0 in
theorem all_mk {w : World} {K : PySem.W.Frag} {h : Heap} {mg : Str → Option Value} {fa : Addr} {f0 f1 f2 f3 f4 f5 f6 f7 f8 f9 f10 f11 f12 f13 f14 f15 f16 f17 f18 f19 f20 f21 f22 f23 f24 f25 f26 f27 f28 f29 f30 f31 f32 f33 f34 f35 f36 f37 C0 C1 : Addr} (X : K.In h) (G : h.Ns mainGlobals mg) (hfa : mg "law" = some (.ref fa))
    {od0 an0 : Option Addr} {sl0 : Array (Option Value)} {oc0 kV0 dc0 pm0 cd0 ct0 : Value}
    {od1 an1 : Option Addr} {sl1 : Array (Option Value)} {oc1 kV1 dc1 pm1 cd1 ct1 : Value}
    {od2 an2 : Option Addr} {sl2 : Array (Option Value)} {oc2 kV2 dc2 pm2 cd2 ct2 : Value}
    {od3 an3 : Option Addr} {sl3 : Array (Option Value)} {oc3 kV3 dc3 pm3 cd3 ct3 : Value}
    {od4 an4 : Option Addr} {sl4 : Array (Option Value)} {oc4 kV4 dc4 pm4 cd4 ct4 : Value}
    {od5 an5 : Option Addr} {sl5 : Array (Option Value)} {oc5 kV5 dc5 pm5 cd5 ct5 : Value}
    {od6 an6 : Option Addr} {sl6 : Array (Option Value)} {oc6 kV6 dc6 pm6 cd6 ct6 : Value}
    {od7 an7 : Option Addr} {sl7 : Array (Option Value)} {oc7 kV7 dc7 pm7 cd7 ct7 : Value}
    {od8 an8 : Option Addr} {sl8 : Array (Option Value)} {oc8 kV8 dc8 pm8 cd8 ct8 : Value}
    {od9 an9 : Option Addr} {sl9 : Array (Option Value)} {oc9 kV9 dc9 pm9 cd9 ct9 : Value}
    {od10 an10 : Option Addr} {sl10 : Array (Option Value)} {oc10 kV10 dc10 pm10 cd10 ct10 : Value}
    {od11 an11 : Option Addr} {sl11 : Array (Option Value)} {oc11 kV11 dc11 pm11 cd11 ct11 : Value}
    {od12 an12 : Option Addr} {sl12 : Array (Option Value)} {oc12 kV12 dc12 pm12 cd12 ct12 : Value}
    {od13 an13 : Option Addr} {sl13 : Array (Option Value)} {oc13 kV13 dc13 pm13 cd13 ct13 : Value}
    {od14 an14 : Option Addr} {sl14 : Array (Option Value)} {oc14 kV14 dc14 pm14 cd14 ct14 : Value}
    {od15 an15 : Option Addr} {sl15 : Array (Option Value)} {oc15 kV15 dc15 pm15 cd15 ct15 : Value}
    {od16 an16 : Option Addr} {sl16 : Array (Option Value)} {oc16 kV16 dc16 pm16 cd16 ct16 : Value}
    {od17 an17 : Option Addr} {sl17 : Array (Option Value)} {oc17 kV17 dc17 pm17 cd17 ct17 : Value}
    {od18 an18 : Option Addr} {sl18 : Array (Option Value)} {oc18 kV18 dc18 pm18 cd18 ct18 : Value}
    {od19 an19 : Option Addr} {sl19 : Array (Option Value)} {oc19 kV19 dc19 pm19 cd19 ct19 : Value}
    {od20 an20 : Option Addr} {sl20 : Array (Option Value)} {oc20 kV20 dc20 pm20 cd20 ct20 : Value}
    {od21 an21 : Option Addr} {sl21 : Array (Option Value)} {oc21 kV21 dc21 pm21 cd21 ct21 : Value}
    {od22 an22 : Option Addr} {sl22 : Array (Option Value)} {oc22 kV22 dc22 pm22 cd22 ct22 : Value}
    {od23 an23 : Option Addr} {sl23 : Array (Option Value)} {oc23 kV23 dc23 pm23 cd23 ct23 : Value}
    {od24 an24 : Option Addr} {sl24 : Array (Option Value)} {oc24 kV24 dc24 pm24 cd24 ct24 : Value}
    {od25 an25 : Option Addr} {sl25 : Array (Option Value)} {oc25 kV25 dc25 pm25 cd25 ct25 : Value}
    {od26 an26 : Option Addr} {sl26 : Array (Option Value)} {oc26 kV26 dc26 pm26 cd26 ct26 : Value}
    {od27 an27 : Option Addr} {sl27 : Array (Option Value)} {oc27 kV27 dc27 pm27 cd27 ct27 : Value}
    {od28 an28 : Option Addr} {sl28 : Array (Option Value)} {oc28 kV28 dc28 pm28 cd28 ct28 : Value}
    {od29 an29 : Option Addr} {sl29 : Array (Option Value)} {oc29 kV29 dc29 pm29 cd29 ct29 : Value}
    {od30 an30 : Option Addr} {sl30 : Array (Option Value)} {oc30 kV30 dc30 pm30 cd30 ct30 : Value}
    {od31 an31 : Option Addr} {sl31 : Array (Option Value)} {oc31 kV31 dc31 pm31 cd31 ct31 : Value}
    {od32 an32 : Option Addr} {sl32 : Array (Option Value)} {oc32 kV32 dc32 pm32 cd32 ct32 : Value}
    {od33 an33 : Option Addr} {sl33 : Array (Option Value)} {oc33 kV33 dc33 pm33 cd33 ct33 : Value}
    {od34 an34 : Option Addr} {sl34 : Array (Option Value)} {oc34 kV34 dc34 pm34 cd34 ct34 : Value}
    {od35 an35 : Option Addr} {sl35 : Array (Option Value)} {oc35 kV35 dc35 pm35 cd35 ct35 : Value}
    {od36 an36 : Option Addr} {sl36 : Array (Option Value)} {oc36 kV36 dc36 pm36 cd36 ct36 : Value}
    {od37 an37 : Option Addr} {sl37 : Array (Option Value)} {oc37 kV37 dc37 pm37 cd37 ct37 : Value}
    (a0 : PySem.W.nsIn K mainGlobals "is_integer" = some (some (.ref f0))) (l0 : K.lookup f0 = some ⟨oc0, od0, .func (PySem.W.fnOf "is_integer" "is_integer" (L2.defArgs (top 4)) (L2.defBody (top 4)) (L2.defScope (top 4)) .none kV0 dc0 pm0 an0 cd0 ct0), sl0⟩) (c0 : PySem.W.codeIn K cd0 "is_integer" = true) (k0 : PySem.W.keepIn K (.ref f0) = true)
    (a1 : PySem.W.nsIn K mainGlobals "greatest_common" = some (some (.ref f1))) (l1 : K.lookup f1 = some ⟨oc1, od1, .func (PySem.W.fnOf "greatest_common" "greatest_common" (L2.defArgs (top 5)) (L2.defBody (top 5)) (L2.defScope (top 5)) .none kV1 dc1 pm1 an1 cd1 ct1), sl1⟩) (c1 : PySem.W.codeIn K cd1 "greatest_common" = true) (k1 : PySem.W.keepIn K (.ref f1) = true)
    (a2 : PySem.W.nsIn K mainGlobals "chosen_of" = some (some (.ref f2))) (l2 : K.lookup f2 = some ⟨oc2, od2, .func (PySem.W.fnOf "chosen_of" "chosen_of" (L2.defArgs (top 6)) (L2.defBody (top 6)) (L2.defScope (top 6)) .none kV2 dc2 pm2 an2 cd2 ct2), sl2⟩) (c2 : PySem.W.codeIn K cd2 "chosen_of" = true) (k2 : PySem.W.keepIn K (.ref f2) = true)
    (a3 : PySem.W.nsIn K mainGlobals "lowest" = some (some (.ref f3))) (l3 : K.lookup f3 = some ⟨oc3, od3, .func (PySem.W.fnOf "lowest" "lowest" (L2.defArgs (top 7)) (L2.defBody (top 7)) (L2.defScope (top 7)) .none kV3 dc3 pm3 an3 cd3 ct3), sl3⟩) (c3 : PySem.W.codeIn K cd3 "lowest" = true) (k3 : PySem.W.keepIn K (.ref f3) = true)
    (a4 : PySem.W.nsIn K mainGlobals "ratio" = some (some (.ref f4))) (l4 : K.lookup f4 = some ⟨oc4, od4, .func (PySem.W.fnOf "ratio" "ratio" (L2.defArgs (top 8)) (L2.defBody (top 8)) (L2.defScope (top 8)) .none kV4 dc4 pm4 an4 cd4 ct4), sl4⟩) (c4 : PySem.W.codeIn K cd4 "ratio" = true) (k4 : PySem.W.keepIn K (.ref f4) = true)
    (a5 : PySem.W.nsIn K mainGlobals "ratio_sum" = some (some (.ref f5))) (l5 : K.lookup f5 = some ⟨oc5, od5, .func (PySem.W.fnOf "ratio_sum" "ratio_sum" (L2.defArgs (top 9)) (L2.defBody (top 9)) (L2.defScope (top 9)) .none kV5 dc5 pm5 an5 cd5 ct5), sl5⟩) (c5 : PySem.W.codeIn K cd5 "ratio_sum" = true) (k5 : PySem.W.keepIn K (.ref f5) = true)
    (a6 : PySem.W.nsIn K mainGlobals "ratio_less" = some (some (.ref f6))) (l6 : K.lookup f6 = some ⟨oc6, od6, .func (PySem.W.fnOf "ratio_less" "ratio_less" (L2.defArgs (top 10)) (L2.defBody (top 10)) (L2.defScope (top 10)) .none kV6 dc6 pm6 an6 cd6 ct6), sl6⟩) (c6 : PySem.W.codeIn K cd6 "ratio_less" = true) (k6 : PySem.W.keepIn K (.ref f6) = true)
    (a7 : PySem.W.nsIn K mainGlobals "ratio_product" = some (some (.ref f7))) (l7 : K.lookup f7 = some ⟨oc7, od7, .func (PySem.W.fnOf "ratio_product" "ratio_product" (L2.defArgs (top 11)) (L2.defBody (top 11)) (L2.defScope (top 11)) .none kV7 dc7 pm7 an7 cd7 ct7), sl7⟩) (c7 : PySem.W.codeIn K cd7 "ratio_product" = true) (k7 : PySem.W.keepIn K (.ref f7) = true)
    (a8 : PySem.W.nsIn K mainGlobals "ratio_over" = some (some (.ref f8))) (l8 : K.lookup f8 = some ⟨oc8, od8, .func (PySem.W.fnOf "ratio_over" "ratio_over" (L2.defArgs (top 12)) (L2.defBody (top 12)) (L2.defScope (top 12)) .none kV8 dc8 pm8 an8 cd8 ct8), sl8⟩) (c8 : PySem.W.codeIn K cd8 "ratio_over" = true) (k8 : PySem.W.keepIn K (.ref f8) = true)
    (a9 : PySem.W.nsIn K mainGlobals "bernoulli_number" = some (some (.ref f9))) (l9 : K.lookup f9 = some ⟨oc9, od9, .func (PySem.W.fnOf "bernoulli_number" "bernoulli_number" (L2.defArgs (top 13)) (L2.defBody (top 13)) (L2.defScope (top 13)) .none kV9 dc9 pm9 an9 cd9 ct9), sl9⟩) (c9 : PySem.W.codeIn K cd9 "bernoulli_number" = true) (k9 : PySem.W.keepIn K (.ref f9) = true)
    (a10 : PySem.W.nsIn K mainGlobals "check_type" = some (some (.ref f10))) (l10 : K.lookup f10 = some ⟨oc10, od10, .func (PySem.W.fnOf "check_type" "check_type" (L2.defArgs (top 17)) (L2.defBody (top 17)) (L2.defScope (top 17)) .none kV10 dc10 pm10 an10 cd10 ct10), sl10⟩) (c10 : PySem.W.codeIn K cd10 "check_type" = true) (k10 : PySem.W.keepIn K (.ref f10) = true)
    (a11 : PySem.W.nsIn K mainGlobals "smooth" = some (some (.ref f11))) (l11 : K.lookup f11 = some ⟨oc11, od11, .func (PySem.W.fnOf "smooth" "smooth" (L2.defArgs (top 18)) (L2.defBody (top 18)) (L2.defScope (top 18)) .none kV11 dc11 pm11 an11 cd11 ct11), sl11⟩) (c11 : PySem.W.codeIn K cd11 "smooth" = true) (k11 : PySem.W.keepIn K (.ref f11) = true)
    (a12 : PySem.W.nsIn K mainGlobals "smooth_number" = some (some (.ref f12))) (l12 : K.lookup f12 = some ⟨oc12, od12, .func (PySem.W.fnOf "smooth_number" "smooth_number" (L2.defArgs (top 19)) (L2.defBody (top 19)) (L2.defScope (top 19)) .none kV12 dc12 pm12 an12 cd12 ct12), sl12⟩) (c12 : PySem.W.codeIn K cd12 "smooth_number" = true) (k12 : PySem.W.keepIn K (.ref f12) = true)
    (a13 : PySem.W.nsIn K mainGlobals "row_product" = some (some (.ref f13))) (l13 : K.lookup f13 = some ⟨oc13, od13, .func (PySem.W.fnOf "row_product" "row_product" (L2.defArgs (top 20)) (L2.defBody (top 20)) (L2.defScope (top 20)) .none kV13 dc13 pm13 an13 cd13 ct13), sl13⟩) (c13 : PySem.W.codeIn K cd13 "row_product" = true) (k13 : PySem.W.keepIn K (.ref f13) = true)
    (a14 : PySem.W.nsIn K mainGlobals "row_sum" = some (some (.ref f14))) (l14 : K.lookup f14 = some ⟨oc14, od14, .func (PySem.W.fnOf "row_sum" "row_sum" (L2.defArgs (top 21)) (L2.defBody (top 21)) (L2.defScope (top 21)) .none kV14 dc14 pm14 an14 cd14 ct14), sl14⟩) (c14 : PySem.W.codeIn K cd14 "row_sum" = true) (k14 : PySem.W.keepIn K (.ref f14) = true)
    (a15 : PySem.W.nsIn K mainGlobals "cut_polynomial" = some (some (.ref f15))) (l15 : K.lookup f15 = some ⟨oc15, od15, .func (PySem.W.fnOf "cut_polynomial" "cut_polynomial" (L2.defArgs (top 22)) (L2.defBody (top 22)) (L2.defScope (top 22)) .none kV15 dc15 pm15 an15 cd15 ct15), sl15⟩) (c15 : PySem.W.codeIn K cd15 "cut_polynomial" = true) (k15 : PySem.W.keepIn K (.ref f15) = true)
    (a16 : PySem.W.nsIn K mainGlobals "trimmed" = some (some (.ref f16))) (l16 : K.lookup f16 = some ⟨oc16, od16, .func (PySem.W.fnOf "trimmed" "trimmed" (L2.defArgs (top 23)) (L2.defBody (top 23)) (L2.defScope (top 23)) .none kV16 dc16 pm16 an16 cd16 ct16), sl16⟩) (c16 : PySem.W.codeIn K cd16 "trimmed" = true) (k16 : PySem.W.keepIn K (.ref f16) = true)
    (a17 : PySem.W.nsIn K mainGlobals "edge_polynomial" = some (some (.ref f17))) (l17 : K.lookup f17 = some ⟨oc17, od17, .func (PySem.W.fnOf "edge_polynomial" "edge_polynomial" (L2.defArgs (top 24)) (L2.defBody (top 24)) (L2.defScope (top 24)) .none kV17 dc17 pm17 an17 cd17 ct17), sl17⟩) (c17 : PySem.W.codeIn K cd17 "edge_polynomial" = true) (k17 : PySem.W.keepIn K (.ref f17) = true)
    (a18 : PySem.W.nsIn K mainGlobals "stable_number" = some (some (.ref f18))) (l18 : K.lookup f18 = some ⟨oc18, od18, .func (PySem.W.fnOf "stable_number" "stable_number" (L2.defArgs (top 25)) (L2.defBody (top 25)) (L2.defScope (top 25)) .none kV18 dc18 pm18 an18 cd18 ct18), sl18⟩) (c18 : PySem.W.codeIn K cd18 "stable_number" = true) (k18 : PySem.W.keepIn K (.ref f18) = true)
    (a19 : PySem.W.nsIn K mainGlobals "_law_inner" = some (some (.ref f19))) (l19 : K.lookup f19 = some ⟨oc19, od19, .func (PySem.W.fnOf "_law_inner" "_law_inner" (L2.defArgs (top 27)) (L2.defBody (top 27)) (L2.defScope (top 27)) .none kV19 dc19 pm19 an19 cd19 ct19), sl19⟩) (c19 : PySem.W.codeIn K cd19 "_law_inner" = true) (k19 : PySem.W.keepIn K (.ref f19) = true)
    (a20 : PySem.W.nsIn K mainGlobals "_law_plain" = some (some (.ref f20))) (l20 : K.lookup f20 = some ⟨oc20, od20, .func (PySem.W.fnOf "_law_plain" "_law_plain" (L2.defArgs (top 28)) (L2.defBody (top 28)) (L2.defScope (top 28)) .none kV20 dc20 pm20 an20 cd20 ct20), sl20⟩) (c20 : PySem.W.codeIn K cd20 "_law_plain" = true) (k20 : PySem.W.keepIn K (.ref f20) = true)
    (a21 : PySem.W.nsIn K mainGlobals "_law_state" = some (some (.ref f21))) (l21 : K.lookup f21 = some ⟨oc21, od21, .func (PySem.W.fnOf "_law_state" "_law_state" (L2.defArgs (top 29)) (L2.defBody (top 29)) (L2.defScope (top 29)) .none kV21 dc21 pm21 an21 cd21 ct21), sl21⟩) (c21 : PySem.W.codeIn K cd21 "_law_state" = true) (k21 : PySem.W.keepIn K (.ref f21) = true)
    (a22 : PySem.W.nsIn K mainGlobals "_law_take" = some (some (.ref f22))) (l22 : K.lookup f22 = some ⟨oc22, od22, .func (PySem.W.fnOf "_law_take" "_law_take" (L2.defArgs (top 30)) (L2.defBody (top 30)) (L2.defScope (top 30)) .none kV22 dc22 pm22 an22 cd22 ct22), sl22⟩) (c22 : PySem.W.codeIn K cd22 "_law_take" = true) (k22 : PySem.W.keepIn K (.ref f22) = true)
    (a23 : PySem.W.nsIn K mainGlobals "_law_frac" = some (some (.ref f23))) (l23 : K.lookup f23 = some ⟨oc23, od23, .func (PySem.W.fnOf "_law_frac" "_law_frac" (L2.defArgs (top 31)) (L2.defBody (top 31)) (L2.defScope (top 31)) .none kV23 dc23 pm23 an23 cd23 ct23), sl23⟩) (c23 : PySem.W.codeIn K cd23 "_law_frac" = true) (k23 : PySem.W.keepIn K (.ref f23) = true)
    (a24 : PySem.W.nsIn K mainGlobals "_law_over" = some (some (.ref f24))) (l24 : K.lookup f24 = some ⟨oc24, od24, .func (PySem.W.fnOf "_law_over" "_law_over" (L2.defArgs (top 32)) (L2.defBody (top 32)) (L2.defScope (top 32)) .none kV24 dc24 pm24 an24 cd24 ct24), sl24⟩) (c24 : PySem.W.codeIn K cd24 "_law_over" = true) (k24 : PySem.W.keepIn K (.ref f24) = true)
    (a25 : PySem.W.nsIn K mainGlobals "_law_add" = some (some (.ref f25))) (l25 : K.lookup f25 = some ⟨oc25, od25, .func (PySem.W.fnOf "_law_add" "_law_add" (L2.defArgs (top 33)) (L2.defBody (top 33)) (L2.defScope (top 33)) .none kV25 dc25 pm25 an25 cd25 ct25), sl25⟩) (c25 : PySem.W.codeIn K cd25 "_law_add" = true) (k25 : PySem.W.keepIn K (.ref f25) = true)
    (a26 : PySem.W.nsIn K mainGlobals "_law_total" = some (some (.ref f26))) (l26 : K.lookup f26 = some ⟨oc26, od26, .func (PySem.W.fnOf "_law_total" "_law_total" (L2.defArgs (top 34)) (L2.defBody (top 34)) (L2.defScope (top 34)) .none kV26 dc26 pm26 an26 cd26 ct26), sl26⟩) (c26 : PySem.W.codeIn K cd26 "_law_total" = true) (k26 : PySem.W.keepIn K (.ref f26) = true)
    (a27 : PySem.W.nsIn K mainGlobals "_law_times" = some (some (.ref f27))) (l27 : K.lookup f27 = some ⟨oc27, od27, .func (PySem.W.fnOf "_law_times" "_law_times" (L2.defArgs (top 35)) (L2.defBody (top 35)) (L2.defScope (top 35)) .none kV27 dc27 pm27 an27 cd27 ct27), sl27⟩) (c27 : PySem.W.codeIn K cd27 "_law_times" = true) (k27 : PySem.W.keepIn K (.ref f27) = true)
    (a28 : PySem.W.nsIn K mainGlobals "_law_chosen" = some (some (.ref f28))) (l28 : K.lookup f28 = some ⟨oc28, od28, .func (PySem.W.fnOf "_law_chosen" "_law_chosen" (L2.defArgs (top 36)) (L2.defBody (top 36)) (L2.defScope (top 36)) .none kV28 dc28 pm28 an28 cd28 ct28), sl28⟩) (c28 : PySem.W.codeIn K cd28 "_law_chosen" = true) (k28 : PySem.W.keepIn K (.ref f28) = true)
    (a29 : PySem.W.nsIn K mainGlobals "_law_less" = some (some (.ref f29))) (l29 : K.lookup f29 = some ⟨oc29, od29, .func (PySem.W.fnOf "_law_less" "_law_less" (L2.defArgs (top 37)) (L2.defBody (top 37)) (L2.defScope (top 37)) .none kV29 dc29 pm29 an29 cd29 ct29), sl29⟩) (c29 : PySem.W.codeIn K cd29 "_law_less" = true) (k29 : PySem.W.keepIn K (.ref f29) = true)
    (a30 : PySem.W.nsIn K mainGlobals "_law_bernoulli" = some (some (.ref f30))) (l30 : K.lookup f30 = some ⟨oc30, od30, .func (PySem.W.fnOf "_law_bernoulli" "_law_bernoulli" (L2.defArgs (top 38)) (L2.defBody (top 38)) (L2.defScope (top 38)) .none kV30 dc30 pm30 an30 cd30 ct30), sl30⟩) (c30 : PySem.W.codeIn K cd30 "_law_bernoulli" = true) (k30 : PySem.W.keepIn K (.ref f30) = true)
    (a31 : PySem.W.nsIn K mainGlobals "_law_smooth" = some (some (.ref f31))) (l31 : K.lookup f31 = some ⟨oc31, od31, .func (PySem.W.fnOf "_law_smooth" "_law_smooth" (L2.defArgs (top 39)) (L2.defBody (top 39)) (L2.defScope (top 39)) .none kV31 dc31 pm31 an31 cd31 ct31), sl31⟩) (c31 : PySem.W.codeIn K cd31 "_law_smooth" = true) (k31 : PySem.W.keepIn K (.ref f31) = true)
    (a32 : PySem.W.nsIn K mainGlobals "_law_trimmed" = some (some (.ref f32))) (l32 : K.lookup f32 = some ⟨oc32, od32, .func (PySem.W.fnOf "_law_trimmed" "_law_trimmed" (L2.defArgs (top 40)) (L2.defBody (top 40)) (L2.defScope (top 40)) .none kV32 dc32 pm32 an32 cd32 ct32), sl32⟩) (c32 : PySem.W.codeIn K cd32 "_law_trimmed" = true) (k32 : PySem.W.keepIn K (.ref f32) = true)
    (a33 : PySem.W.nsIn K mainGlobals "_law_poly_sum" = some (some (.ref f33))) (l33 : K.lookup f33 = some ⟨oc33, od33, .func (PySem.W.fnOf "_law_poly_sum" "_law_poly_sum" (L2.defArgs (top 41)) (L2.defBody (top 41)) (L2.defScope (top 41)) .none kV33 dc33 pm33 an33 cd33 ct33), sl33⟩) (c33 : PySem.W.codeIn K cd33 "_law_poly_sum" = true) (k33 : PySem.W.keepIn K (.ref f33) = true)
    (a34 : PySem.W.nsIn K mainGlobals "_law_poly_times" = some (some (.ref f34))) (l34 : K.lookup f34 = some ⟨oc34, od34, .func (PySem.W.fnOf "_law_poly_times" "_law_poly_times" (L2.defArgs (top 42)) (L2.defBody (top 42)) (L2.defScope (top 42)) .none kV34 dc34 pm34 an34 cd34 ct34), sl34⟩) (c34 : PySem.W.codeIn K cd34 "_law_poly_times" = true) (k34 : PySem.W.keepIn K (.ref f34) = true)
    (a35 : PySem.W.nsIn K mainGlobals "_law_edge_row" = some (some (.ref f35))) (l35 : K.lookup f35 = some ⟨oc35, od35, .func (PySem.W.fnOf "_law_edge_row" "_law_edge_row" (L2.defArgs (top 43)) (L2.defBody (top 43)) (L2.defScope (top 43)) .none kV35 dc35 pm35 an35 cd35 ct35), sl35⟩) (c35 : PySem.W.codeIn K cd35 "_law_edge_row" = true) (k35 : PySem.W.keepIn K (.ref f35) = true)
    (a36 : PySem.W.nsIn K mainGlobals "_law_told" = some (some (.ref f36))) (l36 : K.lookup f36 = some ⟨oc36, od36, .func (PySem.W.fnOf "_law_told" "_law_told" (L2.defArgs (top 44)) (L2.defBody (top 44)) (L2.defScope (top 44)) .none kV36 dc36 pm36 an36 cd36 ct36), sl36⟩) (c36 : PySem.W.codeIn K cd36 "_law_told" = true) (k36 : PySem.W.keepIn K (.ref f36) = true)
    (a37 : PySem.W.nsIn K mainGlobals "law" = some (some (.ref f37))) (l37 : K.lookup f37 = some ⟨oc37, od37, .func (PySem.W.fnOf "law" "law" (L2.defArgs (top 45)) (L2.defBody (top 45)) (L2.defScope (top 45)) .none kV37 dc37 pm37 an37 cd37 ct37), sl37⟩) (c37 : PySem.W.codeIn K cd37 "law" = true) (k37 : PySem.W.keepIn K (.ref f37) = true)
    (xa0 : PySem.W.nsIn K mainGlobals "Fault" = some (some (.ref C0))) (xi0 : PySem.W.excIn K C0 [.type "ValueError", .type "Exception", .type "BaseException", .type "object"] "ValueError.__new__" = true) (xk0 : PySem.W.keepIn K (.ref C0) = true) (xb0 : PySem.W.subIn K (.ref C0) (.type "BaseException") = some true) (xt0 : PySem.W.typeIn K (.ref C0) = some (.type "type")) (xc0 : PySem.W.isClsIn K C0 = true)
    (xa1 : PySem.W.nsIn K mainGlobals "Malformed" = some (some (.ref C1))) (xi1 : PySem.W.excIn K C1 [.type "ValueError", .type "Exception", .type "BaseException", .type "object"] "ValueError.__new__" = true) (xk1 : PySem.W.keepIn K (.ref C1) = true) (xb1 : PySem.W.subIn K (.ref C1) (.type "BaseException") = some true) (xt1 : PySem.W.typeIn K (.ref C1) = some (.type "type")) (xc1 : PySem.W.isClsIn K C1 = true)
    (xs0_0 : PySem.W.subIn K (.ref C0) (.ref C0) = some true)
    (xs0_1 : PySem.W.subIn K (.ref C0) (.ref C1) = some false)
    (xs1_0 : PySem.W.subIn K (.ref C1) (.ref C0) = some true)
    (xs1_1 : PySem.W.subIn K (.ref C1) (.ref C1) = some true)
    {tk0 : Tok} (m0 : PySem.W.nsIn K mainGlobals "MOST_GENUS" = some (some (.int 6 tk0)))
    {tk1 : Tok} (m1 : PySem.W.nsIn K mainGlobals "MOST_LEGS" = some (some (.int 8 tk1)))
    (z0 : PySem.W.nsIn K mainGlobals "len" = some none)
    (z1 : PySem.W.nsIn K mainGlobals "abs" = some none)
    (z2 : PySem.W.nsIn K mainGlobals "int" = some none)
    (z3 : PySem.W.nsIn K mainGlobals "tuple" = some none)
    (z4 : PySem.W.nsIn K mainGlobals "list" = some none)
    (z5 : PySem.W.nsIn K mainGlobals "sorted" = some none)
    (z6 : PySem.W.nsIn K mainGlobals "sum" = some none)
    (z7 : PySem.W.nsIn K mainGlobals "all" = some none)
    (z8 : PySem.W.nsIn K mainGlobals "any" = some none)
    (z9 : PySem.W.nsIn K mainGlobals "max" = some none)
    (z10 : PySem.W.nsIn K mainGlobals "min" = some none)
    (z11 : PySem.W.nsIn K mainGlobals "str" = some none)
    (z12 : PySem.W.nsIn K mainGlobals "set" = some none)
    (z13 : PySem.W.nsIn K mainGlobals "isinstance" = some none)
    (z14 : PySem.W.nsIn K mainGlobals "range" = some none)
    (z15 : PySem.W.nsIn K mainGlobals "enumerate" = some none)
    (z16 : PySem.W.nsIn K mainGlobals "zip" = some none)
    (z17 : PySem.W.nsIn K mainGlobals "bool" = some none)
    (z18 : PySem.W.nsIn K mainGlobals "dict" = some none)
    (z19 : PySem.W.nsIn K mainGlobals "reversed" = some none) :
    ∃ R Y, R.gt = [] ∧ TxOk sg R Y P w K mg tx ∧ R.fa 37 = fa := by
  have e := hfa.symm.trans (PySem.W.mg_of X G a37)
  cases e
  refine ⟨⟨K, fun i => ([f0, f1, f2, f3, f4, f5, f6, f7, f8, f9, f10, f11, f12, f13, f14, f15, f16, f17, f18, f19, f20, f21, f22, f23, f24, f25, f26, f27, f28, f29, f30, f31, f32, f33, f34, f35, f36, fa] : List Addr).getD i 0, []⟩, ⟨fun i => .ref (([C0, C1] : List Addr).getD i 0), fun _ => ""⟩, rfl, ⟨rfl, rfl, chk, fun i d e => ?_, fun x d e => ?_, fun x hx => ?_, fun i x e => ?_, fun i j b e => ?_⟩, rfl⟩
  · match i, e with
    | 0, e => cases e; exact ⟨_, PySem.W.mg_of X G a0, fun_mk l0 c0 k0, (fun_mk l0 c0 k0).binds (ps := ["value"]) fun _ _ _ _ _ _ us hl => match us, hl with | [_], _ => rfl⟩
    | 1, e => cases e; exact ⟨_, PySem.W.mg_of X G a1, fun_mk l1 c1 k1, (fun_mk l1 c1 k1).binds (ps := ["a", "b"]) fun _ _ _ _ _ _ us hl => match us, hl with | [_, _], _ => rfl⟩
    | 2, e => cases e; exact ⟨_, PySem.W.mg_of X G a2, fun_mk l2 c2 k2, (fun_mk l2 c2 k2).binds (ps := ["n", "k"]) fun _ _ _ _ _ _ us hl => match us, hl with | [_, _], _ => rfl⟩
    | 3, e => cases e; exact ⟨_, PySem.W.mg_of X G a3, fun_mk l3 c3 k3, (fun_mk l3 c3 k3).binds (ps := ["n", "d"]) fun _ _ _ _ _ _ us hl => match us, hl with | [_, _], _ => rfl⟩
    | 4, e => cases e; exact ⟨_, PySem.W.mg_of X G a4, fun_mk l4 c4 k4, (fun_mk l4 c4 k4).binds (ps := ["n", "d"]) fun _ _ _ _ _ _ us hl => match us, hl with | [_, _], _ => rfl⟩
    | 5, e => cases e; exact ⟨_, PySem.W.mg_of X G a5, fun_mk l5 c5 k5, (fun_mk l5 c5 k5).binds (ps := ["a", "b"]) fun _ _ _ _ _ _ us hl => match us, hl with | [_, _], _ => rfl⟩
    | 6, e => cases e; exact ⟨_, PySem.W.mg_of X G a6, fun_mk l6 c6 k6, (fun_mk l6 c6 k6).binds (ps := ["a", "b"]) fun _ _ _ _ _ _ us hl => match us, hl with | [_, _], _ => rfl⟩
    | 7, e => cases e; exact ⟨_, PySem.W.mg_of X G a7, fun_mk l7 c7 k7, (fun_mk l7 c7 k7).binds (ps := ["a", "b"]) fun _ _ _ _ _ _ us hl => match us, hl with | [_, _], _ => rfl⟩
    | 8, e => cases e; exact ⟨_, PySem.W.mg_of X G a8, fun_mk l8 c8 k8, (fun_mk l8 c8 k8).binds (ps := ["a", "b"]) fun _ _ _ _ _ _ us hl => match us, hl with | [_, _], _ => rfl⟩
    | 9, e => cases e; exact ⟨_, PySem.W.mg_of X G a9, fun_mk l9 c9 k9, (fun_mk l9 c9 k9).binds (ps := ["k"]) fun _ _ _ _ _ _ us hl => match us, hl with | [_], _ => rfl⟩
    | 10, e => cases e; exact ⟨_, PySem.W.mg_of X G a10, fun_mk l10 c10 k10, (fun_mk l10 c10 k10).binds (ps := ["g", "n"]) fun _ _ _ _ _ _ us hl => match us, hl with | [_, _], _ => rfl⟩
    | 11, e => cases e; exact ⟨_, PySem.W.mg_of X G a11, fun_mk l11 c11 k11, (fun_mk l11 c11 k11).binds (ps := ["g", "n"]) fun _ _ _ _ _ _ us hl => match us, hl with | [_, _], _ => rfl⟩
    | 12, e => cases e; exact ⟨_, PySem.W.mg_of X G a12, fun_mk l12 c12 k12, (fun_mk l12 c12 k12).binds (ps := ["g", "n"]) fun _ _ _ _ _ _ us hl => match us, hl with | [_, _], _ => rfl⟩
    | 13, e => cases e; exact ⟨_, PySem.W.mg_of X G a13, fun_mk l13 c13 k13, (fun_mk l13 c13 k13).binds (ps := ["f", "h"]) fun _ _ _ _ _ _ us hl => match us, hl with | [_, _], _ => rfl⟩
    | 14, e => cases e; exact ⟨_, PySem.W.mg_of X G a14, fun_mk l14 c14 k14, (fun_mk l14 c14 k14).binds (ps := ["f", "h", "c"]) fun _ _ _ _ _ _ us hl => match us, hl with | [_, _, _], _ => rfl⟩
    | 15, e => cases e; exact ⟨_, PySem.W.mg_of X G a15, fun_mk l15 c15 k15, (fun_mk l15 c15 k15).binds (ps := ["g", "n", "known"]) fun _ _ _ _ _ _ us hl => match us, hl with | [_, _, _], _ => rfl⟩
    | 16, e => cases e; exact ⟨_, PySem.W.mg_of X G a16, fun_mk l16 c16 k16, (fun_mk l16 c16 k16).binds (ps := ["row"]) fun _ _ _ _ _ _ us hl => match us, hl with | [_], _ => rfl⟩
    | 17, e => cases e; exact ⟨_, PySem.W.mg_of X G a17, fun_mk l17 c17 k17, (fun_mk l17 c17 k17).binds (ps := ["g", "n"]) fun _ _ _ _ _ _ us hl => match us, hl with | [_, _], _ => rfl⟩
    | 18, e => cases e; exact ⟨_, PySem.W.mg_of X G a18, fun_mk l18 c18 k18, (fun_mk l18 c18 k18).binds (ps := ["g", "n"]) fun _ _ _ _ _ _ us hl => match us, hl with | [_, _], _ => rfl⟩
    | 19, e => cases e; exact ⟨_, PySem.W.mg_of X G a19, fun_mk l19 c19 k19, (fun_mk l19 c19 k19).binds (ps := ["value"]) fun _ _ _ _ _ _ us hl => match us, hl with | [_], _ => rfl⟩
    | 20, e => cases e; exact ⟨_, PySem.W.mg_of X G a20, fun_mk l20 c20 k20, (fun_mk l20 c20 k20).binds (ps := ["value"]) fun _ _ _ _ _ _ us hl => match us, hl with | [_], _ => rfl⟩
    | 21, e => cases e; exact ⟨_, PySem.W.mg_of X G a21, fun_mk l21 c21 k21, (fun_mk l21 c21 k21).binds (ps := ["script"]) fun _ _ _ _ _ _ us hl => match us, hl with | [_], _ => rfl⟩
    | 22, e => cases e; exact ⟨_, PySem.W.mg_of X G a22, fun_mk l22 c22 k22, (fun_mk l22 c22 k22).binds (ps := ["state", "m"]) fun _ _ _ _ _ _ us hl => match us, hl with | [_, _], _ => rfl⟩
    | 23, e => cases e; exact ⟨_, PySem.W.mg_of X G a23, fun_mk l23 c23 k23, (fun_mk l23 c23 k23).binds (ps := ["n", "d"]) fun _ _ _ _ _ _ us hl => match us, hl with | [_, _], _ => rfl⟩
    | 24, e => cases e; exact ⟨_, PySem.W.mg_of X G a24, fun_mk l24 c24 k24, (fun_mk l24 c24 k24).binds (ps := ["a", "b"]) fun _ _ _ _ _ _ us hl => match us, hl with | [_, _], _ => rfl⟩
    | 25, e => cases e; exact ⟨_, PySem.W.mg_of X G a25, fun_mk l25 c25 k25, (fun_mk l25 c25 k25).binds (ps := ["a", "b"]) fun _ _ _ _ _ _ us hl => match us, hl with | [_, _], _ => rfl⟩
    | 26, e => cases e; exact ⟨_, PySem.W.mg_of X G a26, fun_mk l26 c26 k26, (fun_mk l26 c26 k26).binds (ps := ["items"]) fun _ _ _ _ _ _ us hl => match us, hl with | [_], _ => rfl⟩
    | 27, e => cases e; exact ⟨_, PySem.W.mg_of X G a27, fun_mk l27 c27 k27, (fun_mk l27 c27 k27).binds (ps := ["a", "b"]) fun _ _ _ _ _ _ us hl => match us, hl with | [_, _], _ => rfl⟩
    | 28, e => cases e; exact ⟨_, PySem.W.mg_of X G a28, fun_mk l28 c28 k28, (fun_mk l28 c28 k28).binds (ps := ["n", "k"]) fun _ _ _ _ _ _ us hl => match us, hl with | [_, _], _ => rfl⟩
    | 29, e => cases e; exact ⟨_, PySem.W.mg_of X G a29, fun_mk l29 c29 k29, (fun_mk l29 c29 k29).binds (ps := ["a", "b"]) fun _ _ _ _ _ _ us hl => match us, hl with | [_, _], _ => rfl⟩
    | 30, e => cases e; exact ⟨_, PySem.W.mg_of X G a30, fun_mk l30 c30 k30, (fun_mk l30 c30 k30).binds (ps := ["most"]) fun _ _ _ _ _ _ us hl => match us, hl with | [_], _ => rfl⟩
    | 31, e => cases e; exact ⟨_, PySem.W.mg_of X G a31, fun_mk l31 c31 k31, (fun_mk l31 c31 k31).binds (ps := ["g", "n"]) fun _ _ _ _ _ _ us hl => match us, hl with | [_, _], _ => rfl⟩
    | 32, e => cases e; exact ⟨_, PySem.W.mg_of X G a32, fun_mk l32 c32 k32, (fun_mk l32 c32 k32).binds (ps := ["row"]) fun _ _ _ _ _ _ us hl => match us, hl with | [_], _ => rfl⟩
    | 33, e => cases e; exact ⟨_, PySem.W.mg_of X G a33, fun_mk l33 c33 k33, (fun_mk l33 c33 k33).binds (ps := ["f", "g", "c"]) fun _ _ _ _ _ _ us hl => match us, hl with | [_, _, _], _ => rfl⟩
    | 34, e => cases e; exact ⟨_, PySem.W.mg_of X G a34, fun_mk l34 c34 k34, (fun_mk l34 c34 k34).binds (ps := ["f", "g"]) fun _ _ _ _ _ _ us hl => match us, hl with | [_, _], _ => rfl⟩
    | 35, e => cases e; exact ⟨_, PySem.W.mg_of X G a35, fun_mk l35 c35 k35, (fun_mk l35 c35 k35).binds (ps := ["g", "n", "known"]) fun _ _ _ _ _ _ us hl => match us, hl with | [_, _, _], _ => rfl⟩
    | 36, e => cases e; exact ⟨_, PySem.W.mg_of X G a36, fun_mk l36 c36 k36, (fun_mk l36 c36 k36).binds (ps := ["which", "g", "n"]) fun _ _ _ _ _ _ us hl => match us, hl with | [_, _, _], _ => rfl⟩
    | 37, e => cases e; exact ⟨_, PySem.W.mg_of X G a37, fun_mk l37 c37 k37, (fun_mk l37 c37 k37).binds (ps := ["script"]) fun _ _ _ _ _ _ us hl => match us, hl with | [_], _ => rfl⟩
    | n + 38, e => simp [tx] at e
  · have m := glob_mem e
    rcases m with m | ⟨i, m, rfl⟩
    · have m : (x, d) ∈ ([("MOST_GENUS", .int 6), ("MOST_LEGS", .int 8)] : List (Str × D)) := m
      simp only [List.mem_cons, Prod.mk.injEq, List.not_mem_nil, or_false] at m
      rcases m with ⟨rfl, rfl⟩ | ⟨rfl, rfl⟩
      · exact ⟨_, .int 6, PySem.W.mg_of X G m0, ⟨_, rfl⟩, rfl⟩
      · exact ⟨_, .int 8, PySem.W.mg_of X G m1, ⟨_, rfl⟩, rfl⟩
    · match i, m with
      | 0, m => cases m; exact ⟨_, .ref f0, PySem.W.mg_of X G a0, rfl, rfl⟩
      | 1, m => cases m; exact ⟨_, .ref f1, PySem.W.mg_of X G a1, rfl, rfl⟩
      | 2, m => cases m; exact ⟨_, .ref f2, PySem.W.mg_of X G a2, rfl, rfl⟩
      | 3, m => cases m; exact ⟨_, .ref f3, PySem.W.mg_of X G a3, rfl, rfl⟩
      | 4, m => cases m; exact ⟨_, .ref f4, PySem.W.mg_of X G a4, rfl, rfl⟩
      | 5, m => cases m; exact ⟨_, .ref f5, PySem.W.mg_of X G a5, rfl, rfl⟩
      | 6, m => cases m; exact ⟨_, .ref f6, PySem.W.mg_of X G a6, rfl, rfl⟩
      | 7, m => cases m; exact ⟨_, .ref f7, PySem.W.mg_of X G a7, rfl, rfl⟩
      | 8, m => cases m; exact ⟨_, .ref f8, PySem.W.mg_of X G a8, rfl, rfl⟩
      | 9, m => cases m; exact ⟨_, .ref f9, PySem.W.mg_of X G a9, rfl, rfl⟩
      | 10, m => cases m; exact ⟨_, .ref f10, PySem.W.mg_of X G a10, rfl, rfl⟩
      | 11, m => cases m; exact ⟨_, .ref f11, PySem.W.mg_of X G a11, rfl, rfl⟩
      | 12, m => cases m; exact ⟨_, .ref f12, PySem.W.mg_of X G a12, rfl, rfl⟩
      | 13, m => cases m; exact ⟨_, .ref f13, PySem.W.mg_of X G a13, rfl, rfl⟩
      | 14, m => cases m; exact ⟨_, .ref f14, PySem.W.mg_of X G a14, rfl, rfl⟩
      | 15, m => cases m; exact ⟨_, .ref f15, PySem.W.mg_of X G a15, rfl, rfl⟩
      | 16, m => cases m; exact ⟨_, .ref f16, PySem.W.mg_of X G a16, rfl, rfl⟩
      | 17, m => cases m; exact ⟨_, .ref f17, PySem.W.mg_of X G a17, rfl, rfl⟩
      | 18, m => cases m; exact ⟨_, .ref f18, PySem.W.mg_of X G a18, rfl, rfl⟩
      | 19, m => cases m; exact ⟨_, .ref f19, PySem.W.mg_of X G a19, rfl, rfl⟩
      | 20, m => cases m; exact ⟨_, .ref f20, PySem.W.mg_of X G a20, rfl, rfl⟩
      | 21, m => cases m; exact ⟨_, .ref f21, PySem.W.mg_of X G a21, rfl, rfl⟩
      | 22, m => cases m; exact ⟨_, .ref f22, PySem.W.mg_of X G a22, rfl, rfl⟩
      | 23, m => cases m; exact ⟨_, .ref f23, PySem.W.mg_of X G a23, rfl, rfl⟩
      | 24, m => cases m; exact ⟨_, .ref f24, PySem.W.mg_of X G a24, rfl, rfl⟩
      | 25, m => cases m; exact ⟨_, .ref f25, PySem.W.mg_of X G a25, rfl, rfl⟩
      | 26, m => cases m; exact ⟨_, .ref f26, PySem.W.mg_of X G a26, rfl, rfl⟩
      | 27, m => cases m; exact ⟨_, .ref f27, PySem.W.mg_of X G a27, rfl, rfl⟩
      | 28, m => cases m; exact ⟨_, .ref f28, PySem.W.mg_of X G a28, rfl, rfl⟩
      | 29, m => cases m; exact ⟨_, .ref f29, PySem.W.mg_of X G a29, rfl, rfl⟩
      | 30, m => cases m; exact ⟨_, .ref f30, PySem.W.mg_of X G a30, rfl, rfl⟩
      | 31, m => cases m; exact ⟨_, .ref f31, PySem.W.mg_of X G a31, rfl, rfl⟩
      | 32, m => cases m; exact ⟨_, .ref f32, PySem.W.mg_of X G a32, rfl, rfl⟩
      | 33, m => cases m; exact ⟨_, .ref f33, PySem.W.mg_of X G a33, rfl, rfl⟩
      | 34, m => cases m; exact ⟨_, .ref f34, PySem.W.mg_of X G a34, rfl, rfl⟩
      | 35, m => cases m; exact ⟨_, .ref f35, PySem.W.mg_of X G a35, rfl, rfl⟩
      | 36, m => cases m; exact ⟨_, .ref f36, PySem.W.mg_of X G a36, rfl, rfl⟩
      | 37, m => cases m; exact ⟨_, .ref fa, PySem.W.mg_of X G a37, rfl, rfl⟩
      | n + 38, m => simp [sg] at m
  · simp only [bltNames, List.mem_cons, List.not_mem_nil, or_false] at hx
    rcases hx with rfl | rfl | rfl | rfl | rfl | rfl | rfl | rfl | rfl | rfl | rfl | rfl | rfl | rfl | rfl | rfl | rfl | rfl | rfl | rfl
    · exact PySem.W.mg_none_of X G z0
    · exact PySem.W.mg_none_of X G z1
    · exact PySem.W.mg_none_of X G z2
    · exact PySem.W.mg_none_of X G z3
    · exact PySem.W.mg_none_of X G z4
    · exact PySem.W.mg_none_of X G z5
    · exact PySem.W.mg_none_of X G z6
    · exact PySem.W.mg_none_of X G z7
    · exact PySem.W.mg_none_of X G z8
    · exact PySem.W.mg_none_of X G z9
    · exact PySem.W.mg_none_of X G z10
    · exact PySem.W.mg_none_of X G z11
    · exact PySem.W.mg_none_of X G z12
    · exact PySem.W.mg_none_of X G z13
    · exact PySem.W.mg_none_of X G z14
    · exact PySem.W.mg_none_of X G z15
    · exact PySem.W.mg_none_of X G z16
    · exact PySem.W.mg_none_of X G z17
    · exact PySem.W.mg_none_of X G z18
    · exact PySem.W.mg_none_of X G z19
  · match i, e with
    | 0, e => cases e; exact ⟨C0, _, _, _, _, PySem.F.excBase_ValueError, xi0, PySem.W.mg_of X G xa0, xk0, fun X' hX => L2.raises_own (by rw [hX]; exact xb0) (by rw [hX]; exact xt0), rfl⟩
    | 1, e => cases e; exact ⟨C1, _, _, _, _, PySem.F.excBase_ValueError, xi1, PySem.W.mg_of X G xa1, xk1, fun X' hX => L2.raises_own (by rw [hX]; exact xb1) (by rw [hX]; exact xt1), rfl⟩
    | n + 2, e => simp [sg] at e
  · have m := lookup_in2 e
    simp only [subT, List.mem_cons, Prod.mk.injEq, List.not_mem_nil, or_false] at m
    rcases m with ⟨⟨rfl, rfl⟩, rfl⟩ | ⟨⟨rfl, rfl⟩, rfl⟩ | ⟨⟨rfl, rfl⟩, rfl⟩ | ⟨⟨rfl, rfl⟩, rfl⟩
    · exact exm_of rfl xb0 xc0 xt0 xs0_0
    · exact exm_of rfl xb1 xc1 xt1 xs0_1
    · exact exm_of rfl xb0 xc0 xt0 xs1_0
    · exact exm_of rfl xb1 xc1 xt1 xs1_1

/-! ### all the defs of this text -/
abbrev T10 (g n : Nat) : List Q2 := rowQ (TT10 g n)
theorem lowP (n : Nat) : LowC (callN P (n + 2)) 3 := lowC_low (ig := 1) rfl rfl
theorem lowL (n : Nat) : LowC (callN P (n + 1)) 23 := lowC_frac rfl
theorem sumP (n : Nat) : SumC (callN P (n + 3)) 5 := fun _ _ _ _ e => run_sum (il := 3) rfl (lowP n) e
theorem lessP (n : Nat) : LessC (callN P (n + 3)) 6 := fun _ _ _ _ e => run_less (il := 3) rfl (lowP n) e
theorem prodP (n : Nat) : ProdC (callN P (n + 3)) 7 := fun _ _ _ _ e => run_prod (il := 3) rfl (lowP n) e
theorem ovP (n : Nat) : OvC (callN P (n + 3)) 8 := fun _ _ _ _ h0 e => run_overP (ix := 1) (il := 3) rfl (lowP n) h0 e
theorem choP (n : Nat) : ChC0 (callN P (n + 1)) 2 := fun _ _ _ _ e h1 h2 => run_choP rfl h2 h1 e
theorem rtP (n : Nat) : RtC (callN P (n + 3)) 4 := fun _ _ _ _ h0 e => run_ratio (ii := 0) (ix := 1) (il := 3) rfl rfl (lowP n) h0 e
theorem bnP (n : Nat) (k : Nat) (q : Q2) (H : Hc) (hk : k < 800) (e : bernP k = some q) : callN P (n + 4) 9 [.int (k : Nat)] H = .ok (qD q) H := run_bn (il := 6) (ip := 7) (ich := 2) (io := 8) rfl (lessP n) (prodP n) (choP (n + 2)) (ovP n) hk e
theorem smoP (n : Nat) : SmC (callN P (n + 5)) 11 smP := run_smP (ip := 7) (ibn := 9) (irt := 4) rfl (prodP (n + 1)) (bnP n) (rtP (n + 1))
theorem rpP (n : Nat) : RpC (callN P (n + 4)) 13 := fun _ _ _ _ e h1 h2 h3 => run_rpP (is := 5) (ip := 7) rfl (sumP n) (prodP n) h1 h2 h3 e
theorem rsP (n : Nat) : RsC (callN P (n + 4)) 14 := fun _ _ _ _ _ _ _ e k1 k2 h1 h2 => run_rsP (is := 5) (ip := 7) rfl (sumP n) (prodP n) k1 k2 h1 h2 e
theorem hfP (n : Nat) : HfC (callN P (n + 3)) 4 := fun _ _ _ e => rtP n _ _ _ _ (by omega) e
theorem addL' (n : Nat) : SumC (callN P (n + 2)) 25 := fun _ _ _ _ e => run_sum (il := 23) rfl (lowL n) e
theorem lesL (n : Nat) : LessC (callN P (n + 2)) 29 := fun _ _ _ _ e => run_less (il := 23) rfl (lowL n) e
theorem timL (n : Nat) : ProdC (callN P (n + 2)) 27 := fun _ _ _ _ e => run_prod (il := 23) rfl (lowL n) e
theorem oveL (n : Nat) : OverC (callN P (n + 2)) 24 := fun _ _ _ _ e => run_over (il := 23) rfl (lowL n) e
theorem choL' (n : Nat) : ChC0 (callN P (n + 1)) 28 := fun _ _ _ _ e h1 h2 => run_cho rfl h2 e
theorem totL (n : Nat) : TotC (callN P (n + 3)) 26 := run_tot (is := 25) rfl (addL' n)
theorem blL (n : Nat) (k : Nat) (q : Q2) (H : Hc) (hk : k < 800) (e : bernL k = some q) : ∃ fd, callN P (n + 4) 30 [.int (k : Nat)] H = .ok (.ref H.length) (H ++ [.lst (rowD fd)]) ∧ k < fd.length ∧ fd.getD k z2 = q := run_bl (it := 26) (ip := 27) (ich := 28) (io := 24) (il := 29) rfl (totL n) (lesL (n + 1)) (timL (n + 1)) (choL' (n + 2)) (oveL (n + 1)) hk e
theorem smoL (n : Nat) : SmC (callN P (n + 5)) 31 smL := run_smL (ip := 27) (io := 24) (ibl := 30) rfl (timL (n + 2)) (oveL (n + 2)) (blL n)
theorem rpL (n : Nat) : RpC (callN P (n + 4)) 34 := fun _ _ _ _ e h1 h2 h3 => run_rpL (is := 25) (ip := 27) rfl (addL' (n + 1)) (timL (n + 1)) h1 h2 h3 e
theorem rsL (n : Nat) : RsC (callN P (n + 4)) 33 := fun _ _ _ _ _ _ _ e k1 k2 h1 h2 => run_rsL (is := 25) (ip := 27) rfl (addL' (n + 1)) (timL (n + 1)) k1 k2 h1 h2 e
theorem hfL (n : Nat) : HfC (callN P (n + 1)) 23 := fun _ _ _ e => lowL n _ _ _ _ e
section
variable (hF : ∀ g n, Dm g n → chkF g n = true)
include hF
theorem tabP : TabOk T10 smP := tab_of hF fun _ _ d => smP_ok d
theorem tabL : TabOk T10 smL := tab_of hF fun _ _ d => smL_ok d
theorem cutP (m : Nat) : CutC (callN P (10 + m + 1)) 15 T10 (m + 1) :=
  run_cutP (N := 10) (irp := 13) (irs := 14) (ihf := 4) (ich := 2) (ism := 11) (ip := 7) rfl (fun n => by rw [show 10 + n = n + 6 + 4 by omega]; exact rpP _) (fun n => by rw [show 10 + n = n + 6 + 4 by omega]; exact rsP _) (fun n => by rw [show 10 + n = n + 7 + 3 by omega]; exact hfP _) (fun n => by rw [show 10 + n = n + 9 + 1 by omega]; exact choP _) (fun n => by rw [show 10 + n = n + 5 + 5 by omega]; exact smoP _) (fun n => by rw [show 10 + n = n + 7 + 3 by omega]; exact prodP _) (tabP hF) m
theorem cutL (m : Nat) : CutC (callN P (10 + m + 1)) 35 T10 (m + 1) :=
  run_cutL (N := 10) (irp := 34) (irs := 33) (ihf := 23) (ich := 28) (ism := 31) (io := 24) rfl (fun n => by rw [show 10 + n = n + 6 + 4 by omega]; exact rpL _) (fun n => by rw [show 10 + n = n + 6 + 4 by omega]; exact rsL _) (fun n => by rw [show 10 + n = n + 9 + 1 by omega]; exact hfL _) (fun n => by rw [show 10 + n = n + 9 + 1 by omega]; exact choL' _) (fun n => by rw [show 10 + n = n + 5 + 5 by omega]; exact smoL _) (fun n => by rw [show 10 + n = n + 8 + 2 by omega]; exact oveL _) (tabL hF) m
end
/-! ### check_type -/
def typeOk : D → D → Bool
  | .int g, .int n => decide (0 ≤ g) && decide (g ≤ 6) && decide (0 ≤ n) && decide (n ≤ 8) && decide (1 ≤ 2 * g - 2 + n)
  | _, _ => false
theorem ev_chain {C : Caller} {a b c : CE} {σ : CSt} {h : Hc} {x y z : Int} (ka : evE C a σ h = .ok (.int x) h) (kb : evE C b σ h = .ok (.int y) h) (kc : evE C c σ h = .ok (.int z) h) : evE C (.chain .LtE .LtE a b c) σ h = .ok (.bl (decide (x ≤ y) && decide (y ≤ z))) h := by
  have c1 : cmpF h .LtE (.int x) (.int y) = some (decide (x ≤ y)) := by
    simp only [cmpF, ltF, Option.map_some]
    congr 1
    by_cases hh : x ≤ y
    · rw [decide_eq_true hh, decide_eq_false (by omega)]; rfl
    · rw [decide_eq_false hh, decide_eq_true (by omega)]; rfl
  have c2 : cmpF h .LtE (.int y) (.int z) = some (decide (y ≤ z)) := by
    simp only [cmpF, ltF, Option.map_some]
    congr 1
    by_cases hh : y ≤ z
    · rw [decide_eq_true hh, decide_eq_false (by omega)]; rfl
    · rw [decide_eq_false hh, decide_eq_true (by omega)]; rfl
  simp only [EV, EB, ka, kb, c1]
  by_cases hh : x ≤ y
  · rw [decide_eq_true hh]
    simp only [kc, EB, c2, Option.map_some, Bool.true_and]
  · rw [decide_eq_false hh]
    rfl
theorem ev_glob {C : Caller} {x : Str} {d : D} {σ : CSt} {h : Hc} : evE C (.glob x d) σ h = .ok d h := by simp only [EV]
theorem isint_of (n : Nat) {v : D} (hv : v.plain = true) {h : Hc} : callN P (n + 1) 0 [v] h = .ok (.bl (isInt v)) h := run_isint rfl hv
theorem run_check {n : Nat} {a b : D} {h : Hc} (ha : a.plain = true) (hb : b.plain = true) : callN P (n + 2) 10 [a, b] h = if typeOk a b then .ok .non h else .exc ⟨1, none⟩ h := by
  let σ : CSt := [some a, some b]
  have e0 : evE (callN P (n + 1)) (.not_ (.call 0 (.cons (.var 0) .nil))) σ h = .ok (.bl (!isInt a)) h := ev_not ((ev_c1 (ev_var rfl)).trans (isint_of n ha))
  have e1 : evE (callN P (n + 1)) (.not_ (.call 0 (.cons (.var 1) .nil))) σ h = .ok (.bl (!isInt b)) h := ev_not ((ev_c1 (ev_var rfl)).trans (isint_of n hb))
  have bad : ∀ (e : typeOk a b = false), (∃ σ', evSs ⟨callN P (n + 1), P.sub⟩ b_check_type σ h = .exc ⟨1, none⟩ σ' h) → callN P (n + 2) 10 [a, b] h = if typeOk a b then .ok .non h else .exc ⟨1, none⟩ h := fun e ⟨σ', hx⟩ => by
    rw [e]
    exact call_xp (d := d_check_type) (b := b_check_type) (σ := σ) rfl rfl rfl rfl hx
  by_cases ia : isInt a = true
  · by_cases ib : isInt b = true
    · cases a with
      | int g =>
        cases b with
        | int m =>
          have e2 : evE (callN P (n + 1)) (.not_ (.chain .LtE .LtE (.cst (.int 0)) (.var 0) (.glob "MOST_GENUS" (.int 6)))) σ h = .ok (.bl (!(decide (0 ≤ g) && decide (g ≤ 6)))) h := ev_not (ev_chain ev_cst (ev_var rfl) ev_glob)
          have e3 : evE (callN P (n + 1)) (.not_ (.chain .LtE .LtE (.cst (.int 0)) (.var 1) (.glob "MOST_LEGS" (.int 8)))) σ h = .ok (.bl (!(decide (0 ≤ m) && decide (m ≤ 8)))) h := ev_not (ev_chain ev_cst (ev_var rfl) ev_glob)
          have ec : evE (callN P (n + 1)) (.or_ (.not_ (.call 0 (.cons (.var 0) .nil))) (.or_ (.not_ (.call 0 (.cons (.var 1) .nil))) (.or_ (.not_ (.chain .LtE .LtE (.cst (.int 0)) (.var 0) (.glob "MOST_GENUS" (.int 6)))) (.not_ (.chain .LtE .LtE (.cst (.int 0)) (.var 1) (.glob "MOST_LEGS" (.int 8))))))) σ h = .ok (.bl (!(decide (0 ≤ g) && decide (g ≤ 6)) || !(decide (0 ≤ m) && decide (m ≤ 8)))) h := by
            rw [ev_or e0, ia, Bool.not_true, if_neg (by simp), ev_or e1, ib, Bool.not_true, if_neg (by simp), ev_or e2]
            cases !(decide (0 ≤ g) && decide (g ≤ 6)) with
            | true => rw [if_pos rfl]; rfl
            | false => rw [if_neg (by simp), e3]; rfl
          cases hc : (!(decide (0 ≤ g) && decide (g ≤ 6)) || !(decide (0 ≤ m) && decide (m ≤ 8))) with
          | true =>
            rw [hc] at ec
            refine bad ?_ ⟨σ, ?_⟩
            · cases ht : typeOk (.int g) (.int m) with
              | false => rfl
              | true =>
                exfalso
                simp only [typeOk, Bool.and_eq_true, decide_eq_true_eq] at ht
                simp only [Bool.or_eq_true, Bool.not_eq_true', Bool.and_eq_false_iff, decide_eq_false_iff_not] at hc
                omega
            · unfold b_check_type
              refine seqX ?_
              rw [ifT (P := ⟨callN P (n + 1), P.sub⟩) ec]
              exact seqX raiseN
          | false =>
            rw [hc] at ec
            have hm : g.natAbs < 2 ^ 62 := by
              rw [Bool.or_eq_false_iff, Bool.not_eq_false', Bool.not_eq_false', Bool.and_eq_true, Bool.and_eq_true, decide_eq_true_eq, decide_eq_true_eq] at hc
              omega
            have e4 : evE (callN P (n + 1)) (.cmp .Lt (.bin .Add (.bin .Sub (.bin .Mult (.cst (.int 2)) (.var 0)) (.cst (.int 2))) (.var 1)) (.cst (.int 1))) σ h = .ok (.bl (decide (2 * g - 2 + m < 1))) h := ev_cmp (ev_bin (op := .Add) (ev_bin (op := .Sub) (ev_bin (op := .Mult) ev_cst (ev_var rfl) (mul_small (by decide))) ev_cst rfl) (ev_var rfl) rfl) ev_cst rfl
            have s1 : evS ⟨callN P (n + 1), P.sub⟩ (.ifs (.or_ (.not_ (.call 0 (.cons (.var 0) .nil))) (.or_ (.not_ (.call 0 (.cons (.var 1) .nil))) (.or_ (.not_ (.chain .LtE .LtE (.cst (.int 0)) (.var 0) (.glob "MOST_GENUS" (.int 6)))) (.not_ (.chain .LtE .LtE (.cst (.int 0)) (.var 1) (.glob "MOST_LEGS" (.int 8))))))) (.cons (.raise 1 .absent) .nil) .nil) σ h = .ok (.nx σ) h := by
              rw [ifF (P := ⟨callN P (n + 1), P.sub⟩) ec]; simp only [ES]
            by_cases h4 : 2 * g - 2 + m < 1
            · rw [decide_eq_true h4] at e4
              refine bad ?_ ⟨σ, ?_⟩
              · cases ht : typeOk (.int g) (.int m) with
                | false => rfl
                | true =>
                  simp only [typeOk, Bool.and_eq_true, decide_eq_true_eq] at ht
                  omega
              · unfold b_check_type
                rw [seqN s1]
                refine seqX ?_
                rw [ifT (P := ⟨callN P (n + 1), P.sub⟩) e4]
                exact seqX raiseN
            · rw [decide_eq_false h4] at e4
              have ht : typeOk (.int g) (.int m) = true := by
                simp only [Bool.or_eq_false_iff, Bool.not_eq_false', Bool.and_eq_true, decide_eq_true_eq] at hc
                simp only [typeOk, Bool.and_eq_true, decide_eq_true_eq]
                omega
              rw [ht, if_pos rfl]
              refine call_nxp (d := d_check_type) (b := b_check_type) (σ := σ) (σ' := σ) rfl rfl rfl rfl ?_
              unfold b_check_type
              rw [seqN s1, seqN (σ' := σ) (h' := h) (by rw [ifF (P := ⟨callN P (n + 1), P.sub⟩) e4]; simp only [ES])]
              simp only [ES]
        | _ => cases ib
      | _ => cases ia
    · have ib' : isInt b = false := by cases h : isInt b with | true => exact absurd h ib | false => rfl
      refine bad ?_ ⟨σ, ?_⟩
      · cases a <;> cases b <;> first | rfl | cases ib'
      · unfold b_check_type
        refine seqX ?_
        rw [ifT (P := ⟨callN P (n + 1), P.sub⟩) (h' := h) (by rw [ev_or e0, ia, Bool.not_true, if_neg (by simp), ev_or e1, ib', Bool.not_false, if_pos rfl])]
        exact seqX raiseN
  · have ia' : isInt a = false := by cases h : isInt a with | true => exact absurd h ia | false => rfl
    refine bad ?_ ⟨σ, ?_⟩
    · cases a <;> first | rfl | cases ia'
    · unfold b_check_type
      refine seqX ?_
      rw [ifT (P := ⟨callN P (n + 1), P.sub⟩) (h' := h) (by rw [ev_or e0, ia', Bool.not_false, if_pos rfl])]
      exact seqX raiseN

theorem dm_of {g n : Nat} (h : typeOk (.int (g : Nat)) (.int (n : Nat)) = true) : Dm g n := by
  simp only [typeOk, Bool.and_eq_true, decide_eq_true_eq] at h
  exact ⟨by omega, by omega, by omega⟩
def hd10 (g n : Nat) : Q2 := ((TT10 g n).headD fz).to
/-- the sum of the row, as both say it -/
def sum10 (g n : Nat) : Option Q2 := totM (trim (T10 g n)) z2
section
variable (hF : ∀ g n, Dm g n → chkF g n = true)
include hF
theorem len10 {g n : Nat} (d : Dm g n) : (T10 g n).length ≤ 100 := (tabP hF).len g n d
/-! smooth_number -/
theorem run_12 {n g m : Nat} {h : Hc} (ht : typeOk (.int (g : Nat)) (.int (m : Nat)) = true) : callN P (n + 8) 12 [.int (g : Nat), .int (m : Nat)] h = .ok (qD (hd10 g m)) h := by
  refine call_rtp (d := d_smooth_number) (b := b_smooth_number) (σ := [some (.int (g : Nat)), some (.int (m : Nat))]) rfl rfl rfl rfl ?_
  unfold b_smooth_number
  have c := run_check (n := n + 5) (a := .int (g : Nat)) (b := .int (m : Nat)) (h := h) rfl rfl
  rw [ht, if_pos rfl] at c
  rw [seqN (exprE (P := ⟨callN P (n + 7), P.sub⟩) ((ev_c2 (ev_var rfl) (ev_var rfl)).trans c))]
  exact seqR (retE ((ev_c2 (ev_var rfl) (ev_var rfl)).trans (smoP (n + 2) g m _ h (smP_ok (dm_of ht)) (dm_of ht))))
/-! edge_polynomial -/
theorem run_17 {n g m : Nat} {h : Hc} (ht : typeOk (.int (g : Nat)) (.int (m : Nat)) = true) : callN P (n + 60) 17 [.int (g : Nat), .int (m : Nat)] h = .ok (.tup (rowD (trim (T10 g m)))) h := by
  have d := dm_of ht
  have hg := d.g6
  have hm := d.n20
  obtain ⟨ks, hk, c2⟩ := cutP hF (n + 48) g m d (by omega) (h ++ [.dT []]) h.length [] KI.nil (by simp [kd])
  rw [show 10 + (n + 48) + 1 = n + 59 by omega] at c2
  have hs : (h ++ [Cell.dT []]).set h.length (.dT (kd (fun g n => D.lst (rowD (T10 g n))) ks)) = h ++ [.dT (kd (fun g n => D.lst (rowD (T10 g n))) ks)] := by simp
  rw [hs] at c2
  refine call_rt (t := [.dT (kd (fun g n => D.lst (rowD (T10 g n))) ks)]) (d := d_edge_polynomial) (b := b_edge_polynomial) (σ := [some (.int (g : Nat)), some (.int (m : Nat))]) rfl rfl rfl rfl (low_plain (by
    rw [D.plain, plains_iff]
    intro x hx
    obtain ⟨q, _, rfl⟩ := List.mem_map.mp hx
    rfl)) ?_
  unfold b_edge_polynomial
  have c := run_check (n := n + 57) (a := .int (g : Nat)) (b := .int (m : Nat)) (h := h) rfl rfl
  rw [ht, if_pos rfl] at c
  rw [seqN (exprE (P := ⟨callN P (n + 59), P.sub⟩) ((ev_c2 (ev_var rfl) (ev_var rfl)).trans c))]
  have ed : evE (callN P (n + 59)) (.dict0 true) [some (.int (g : Nat)), some (.int (m : Nat))] h = .ok (.ref h.length) (h ++ [.dT []]) := by simp only [EV]; rfl
  have l := len10 hF d
  exact seqR (retE ((ev_c1 ((ev_c3 (ev_var rfl) (ev_var rfl) ed).trans c2)).trans (run_trP (n := n + 58) rfl (by omega))))
/-! stable_number -/
theorem run_18 {n g m : Nat} {h : Hc} {q : Q2} (ht : typeOk (.int (g : Nat)) (.int (m : Nat)) = true) (hq : sum10 g m = some q) : callN P (n + 61) 18 [.int (g : Nat), .int (m : Nat)] h = .ok (qD q) h := by
  have lp : ∀ (f : List Q2) (t t' : Q2) o3, totM f t = some t' → ∃ o3', forF (evSs ⟨callN P (n + 60), P.sub⟩ L_stable_number_0) (.v 3) [] (rowD f) [some (.int (g : Nat)), some (.int (m : Nat)), some (qD t), o3] h = .ok (.nx [some (.int (g : Nat)), some (.int (m : Nat)), some (qD t'), o3']) h := fun f => by
    induction f with
    | nil => intro t t' o3 e; cases e; exact ⟨o3, forF_nil rfl⟩
    | cons c f ih =>
      intro t t' o3 e
      simp only [totM, Option.bind_eq_some_iff] at e
      obtain ⟨t1, e1, e2⟩ := e
      obtain ⟨o3', ih⟩ := ih t1 t' (some (qD c)) e2
      have hb : evSs ⟨callN P (n + 60), P.sub⟩ L_stable_number_0 [some (.int (g : Nat)), some (.int (m : Nat)), some (qD t), some (qD c)] h = .ok (.nx [some (.int (g : Nat)), some (.int (m : Nat)), some (qD t1), some (qD c)]) h := by
        unfold L_stable_number_0
        refine (seqN (asgV (i := 2) ((ev_c2 (ev_var rfl) (ev_var rfl)).trans (sumP (n + 57) _ _ _ _ e1)))).trans ?_
        simp only [ES]; all_goals rfl
      exact ⟨o3', (forF_cons (xs := rowD f) rfl rfl hb).trans ih⟩
  obtain ⟨o3, r⟩ := lp _ _ _ none hq
  refine call_rtp (d := d_stable_number) (b := b_stable_number) (σ := [some (.int (g : Nat)), some (.int (m : Nat)), none, none]) rfl rfl rfl rfl ?_
  unfold b_stable_number
  rw [seqN (σ' := [some (.int (g : Nat)), some (.int (m : Nat)), some (qD z2), none]) (h' := h) (asgV (i := 2) (ev_t2 ev_cst ev_cst)), seqN (σ' := [some (.int (g : Nat)), some (.int (m : Nat)), some (qD q), o3]) (h' := h)]
  · exact seqR (retE (ev_var rfl))
  · rw [forS (P := ⟨callN P (n + 60), P.sub⟩) (h' := h) (d := .tup (rowD (trim (T10 g m)))) (xs := rowD (trim (T10 g m))) (g := []) ((ev_c2 (ev_var rfl) (ev_var rfl)).trans (run_17 hF ht)) rfl rfl]
    exact r
end
/-! of bad types -/
theorem bad_12 {n : Nat} {a b : D} {h : Hc} (ha : a.plain = true) (hb : b.plain = true) (ht : typeOk a b = false) : callN P (n + 3) 12 [a, b] h = .exc ⟨1, none⟩ h := by
  have c := run_check (n := n) (h := h) ha hb
  rw [ht, if_neg (by simp)] at c
  refine call_xp (d := d_smooth_number) (b := b_smooth_number) (σ := [some a, some b]) (σ' := [some a, some b]) rfl rfl rfl rfl ?_
  unfold b_smooth_number
  exact seqX (exprX (P := ⟨callN P (n + 2), P.sub⟩) ((ev_c2 (ev_var rfl) (ev_var rfl)).trans c))
theorem bad_17 {n : Nat} {a b : D} {h : Hc} (ha : a.plain = true) (hb : b.plain = true) (ht : typeOk a b = false) : callN P (n + 3) 17 [a, b] h = .exc ⟨1, none⟩ h := by
  have c := run_check (n := n) (h := h) ha hb
  rw [ht, if_neg (by simp)] at c
  refine call_xp (d := d_edge_polynomial) (b := b_edge_polynomial) (σ := [some a, some b]) (σ' := [some a, some b]) rfl rfl rfl rfl ?_
  unfold b_edge_polynomial
  exact seqX (exprX (P := ⟨callN P (n + 2), P.sub⟩) ((ev_c2 (ev_var rfl) (ev_var rfl)).trans c))
theorem forSX {P : Env2} {t : Tg} {e : CE} {body : CSs} {σ : CSt} {h h' : Hc} {x : Exc} (k : evE P.C e σ h = .exc x h') : evS P (.for_ t (.seq e) body) σ h = .exc x σ h' := by
  simp only [ES, EV, EB, k]
theorem bad_18 {n : Nat} {a b : D} {h : Hc} (ha : a.plain = true) (hb : b.plain = true) (ht : typeOk a b = false) : callN P (n + 4) 18 [a, b] h = .exc ⟨1, none⟩ h := by
  refine call_xp (d := d_stable_number) (b := b_stable_number) (σ := [some a, some b, none, none]) (σ' := [some a, some b, some (qD z2), none]) rfl rfl rfl rfl ?_
  unfold b_stable_number
  rw [seqN (σ' := [some a, some b, some (qD z2), none]) (h' := h) (asgV (i := 2) (ev_t2 ev_cst ev_cst))]
  exact seqX (forSX (P := ⟨callN P (n + 3), P.sub⟩) ((ev_c2 (ev_var rfl) (ev_var rfl)).trans (bad_17 ha hb ht)))
/-! ### _law_told -/
def mal10 : D := .str (Str.ofString "malformed")
def tl10 : CE := .idx (.lst (.cons (.glob "smooth_number" (.fn 12)) (.cons (.glob "edge_polynomial" (.fn 17)) (.cons (.glob "stable_number" (.fn 18)) .nil)))) (.var 0)
theorem ev_tl {C : Caller} {w : Nat} (hw : w < 3) {a b : D} {h : Hc} : evE C tl10 [some (.int (w : Nat)), some a, some b] h = .ok (.fn ([12, 17, 18].getD w 0)) h := by
  refine ev_idx (ev_lst (ev_cons ev_glob (ev_cons ev_glob (ev_cons ev_glob ev_nil)))) (ev_var rfl) ?_
  match w, hw with
  | 0, _ => rfl
  | 1, _ => rfl
  | 2, _ => rfl
theorem ev_callv {C : Caller} {fe : CE} {fs : List Nat} {args : CEs} {σ : CSt} {h h1 h2 : Hc} {i : Nat} {ds : List D} (k : evE C fe σ h = .ok (.fn i) h1) (hi : i ∈ fs) (ka : evEs C args σ h1 = .ok ds h2) : evE C (.callv fe fs args) σ h = C i ds h2 := by simp only [EV, EB, k, hi, if_true, ka]
theorem tryX {P : Env2} {body suite : CSs} {x : Nat} {σ σ' : CSt} {h h' h2 : Hc} {e : Exc} {f : Fl} (k : evSs P body σ h = .exc e σ' h') (hs : P.sub e.cls x = some true) (k2 : evSs P suite σ' h' = .ok f h2) : evS P (.try_ body x suite) σ h = .ok f h2 := by
  simp only [ES, k, hs, k2, noExc]
theorem tryO {P : Env2} {body suite : CSs} {x : Nat} {σ : CSt} {h h' : Hc} {f : Fl} (k : evSs P body σ h = .ok f h') : evS P (.try_ body x suite) σ h = .ok f h' := by
  simp only [ES, k]
theorem told_bad {n w : Nat} (hw : w < 3) {a b : D} {h : Hc} (ha : a.plain = true) (hb : b.plain = true) (ht : typeOk a b = false) : callN P (n + 5) 36 [.int (w : Nat), a, b] h = .ok mal10 h := by
  refine call_rtp (d := d__law_told) (b := b__law_told) (σ := [some (.int (w : Nat)), some a, some b]) rfl rfl rfl rfl ?_
  unfold b__law_told
  have e : evE (callN P (n + 4)) (.call 20 (.cons (.callv tl10 [12, 17, 18] (.cons (.var 1) (.cons (.var 2) .nil))) .nil)) [some (.int (w : Nat)), some a, some b] h = .exc ⟨1, none⟩ h := by
    have ei : evE (callN P (n + 4)) (.callv tl10 [12, 17, 18] (.cons (.var 1) (.cons (.var 2) .nil))) [some (.int (w : Nat)), some a, some b] h = .exc ⟨1, none⟩ h := by
      match w, hw with
      | 0, _ => exact (ev_callv (ev_tl (w := 0) (by omega)) (by decide) (ev_cons (ev_var rfl) (ev_cons (ev_var rfl) ev_nil))).trans (bad_12 (n := n + 1) ha hb ht)
      | 1, _ => exact (ev_callv (ev_tl (w := 1) (by omega)) (by decide) (ev_cons (ev_var rfl) (ev_cons (ev_var rfl) ev_nil))).trans (bad_17 (n := n + 1) ha hb ht)
      | 2, _ => exact (ev_callv (ev_tl (w := 2) (by omega)) (by decide) (ev_cons (ev_var rfl) (ev_cons (ev_var rfl) ev_nil))).trans (bad_18 (n := n) ha hb ht)
    simp only [EV, EB, tl10] at ei ⊢
    rw [ei]
    rfl
  have et : evSs ⟨callN P (n + 4), P.sub⟩ (.cons (.ret (.call 20 (.cons (.callv tl10 [12, 17, 18] (.cons (.var 1) (.cons (.var 2) .nil))) .nil))) .nil) [some (.int (w : Nat)), some a, some b] h = .exc ⟨1, none⟩ [some (.int (w : Nat)), some a, some b] h := by
    refine seqX ?_
    simp only [ES, EB, e]
  have es : evSs ⟨callN P (n + 4), P.sub⟩ (.cons (.ret (.cst (.str (Str.ofString "malformed")))) .nil) [some (.int (w : Nat)), some a, some b] h = .ok (.rt mal10) h := seqR (retE ev_cst)
  exact seqR (tryX et (show P.sub 1 1 = some true from rfl) es)
theorem plain10 {n : Nat} {h : Hc} {v : D} (hv : v.tt = true) (hd : v.dep ≤ 5) : callN P (n + 7) 20 [v] h = .ok v h := run_plain (ii := 19) rfl rfl hv hd
theorem told_ok {n w : Nat} (hw : w < 3) {a b v : D} {h : Hc} (hc : callN P (n + 70) ([12, 17, 18].getD w 0) [a, b] h = .ok v h) (hv : v.tt = true) (hd : v.dep ≤ 5) : callN P (n + 71) 36 [.int (w : Nat), a, b] h = .ok v h := by
  refine call_rtp (d := d__law_told) (b := b__law_told) (σ := [some (.int (w : Nat)), some a, some b]) rfl rfl rfl rfl ?_
  unfold b__law_told
  have hm : [12, 17, 18].getD w 0 ∈ ([12, 17, 18] : List Nat) := by
    match w, hw with
    | 0, _ => decide
    | 1, _ => decide
    | 2, _ => decide
  have e : evE (callN P (n + 70)) (.call 20 (.cons (.callv tl10 [12, 17, 18] (.cons (.var 1) (.cons (.var 2) .nil))) .nil)) [some (.int (w : Nat)), some a, some b] h = .ok v h :=
    (ev_c1 ((ev_callv (ev_tl hw) hm (ev_cons (ev_var rfl) (ev_cons (ev_var rfl) ev_nil))).trans hc)).trans (plain10 (n := n + 63) hv hd)
  have et : evSs ⟨callN P (n + 70), P.sub⟩ (.cons (.ret (.call 20 (.cons (.callv tl10 [12, 17, 18] (.cons (.var 1) (.cons (.var 2) .nil))) .nil))) .nil) [some (.int (w : Nat)), some a, some b] h = .ok (.rt v) h := seqR (retE e)
  exact seqR (tryO et)

theorem ne_same {h : Hc} {v : D} (hv : v.hard = true) (hd : v.dep ≤ 63) : cmpF h .NotEq v v = some false := by
  simp only [cmpF]
  rw [eqF_hard hv hv hd hd]
  exact congrArg (fun b : Bool => some (!b)) (decide_eq_true rfl)
theorem row_hards : ∀ f : List Q2, D.hards (rowD f) = true
  | [] => rfl
  | q :: f => by
    have := row_hards f
    rw [rowD] at this
    rw [rowD, List.map_cons, D.hards, this]; rfl
theorem q_hard {q : Q2} : (qD q).hard = true := rfl
theorem q_tt {q : Q2} : (qD q).tt = true := rfl
theorem q_dep {q : Q2} : (qD q).dep ≤ 5 := by simp [qD, D.dep, D.deps]
theorem r_hard {f : List Q2} : (D.tup (rowD f)).hard = true := by rw [D.hard]; exact row_hards f
theorem r_tt {f : List Q2} (h : f.length ≤ 1000) : (D.tup (rowD f)).tt = true := by
  rw [D.tt, row_tts, Bool.and_true, decide_eq_true_eq, rowD, List.length_map]; omega
theorem r_dep {f : List Q2} : (D.tup (rowD f)).dep ≤ 5 := by
  have := row_deps f
  rw [D.dep]; omega
theorem sum_ck : ((List.range 7).all fun g => (List.range 9).all fun n => !dmB g n || (sum10 g n).isSome) = true := by decide +kernel
theorem sum_ok {g n : Nat} (d : Dm g n) (hn : n ≤ 8) : ∃ q, sum10 g n = some q := by
  have h := List.all_eq_true.mp (List.all_eq_true.mp sum_ck g (List.mem_range.mpr (by have := d.g6; omega))) n (List.mem_range.mpr (by omega))
  rw [dmB_of d, Bool.not_true, Bool.false_or, Option.isSome_iff_exists] at h
  exact h
theorem known_ck : (eqO (sum10 0 3) (1, 1) && eqO (sum10 0 4) (2, 1) && eqO (sum10 0 5) (7, 1) && eqO (sum10 0 6) (34, 1) && eqO (sum10 0 7) (213, 1) && eqO (sum10 1 1) (5, 12) && eqO (some (hd10 2 0)) (-1, 240)) = true := by decide +kernel
def eqQ : List Q2 → List Q2 → Bool
  | [], [] => true
  | a :: as, b :: bs => decide (a.1 = b.1) && decide (a.2 = b.2) && eqQ as bs
  | _, _ => false
theorem eqQ_eq : ∀ {a b : List Q2}, eqQ a b = true → a = b
  | [], [], _ => rfl
  | [], b :: bs, h => by simp [eqQ] at h
  | a :: as, [], h => by simp [eqQ] at h
  | a :: as, b :: bs, h => by
    simp only [eqQ, Bool.and_eq_true, decide_eq_true_eq] at h
    rw [eqQ_eq h.2, Prod.ext h.1.1 h.1.2]
theorem tr11 : trim (T10 1 1) = [(-1, 12), (1, 2)] := eqQ_eq (by decide +kernel)
/-- three times malformed -/
theorem three {n : Nat} {a b : D} {h : Hc} {e1 e2 : CE} {σ : CSt} (he1 : ∀ x, evE (callN P (n + 5)) e1 ((cwipe σ [8]).set 8 x) h = .ok a h) (he2 : ∀ x, evE (callN P (n + 5)) e2 ((cwipe σ [8]).set 8 x) h = .ok b h) (hσ : 8 < σ.length) (ha : a.plain = true) (hb : b.plain = true) (ht : typeOk a b = false) :
    evE (callN P (n + 5)) (.cmp .NotEq (.comp (.call 36 (.cons (.var 8) (.cons e1 (.cons e2 .nil)))) (.v 8) (.rng1 (.cst (.int 3))) .absent [8]) (.bin .Mult (.lst (.cons (.cst (.str (Str.ofString "malformed"))) .nil)) (.cst (.int 3)))) σ h = .ok (.bl false) h := by
  have key : compF (evE (callN P (n + 5)) (.call 36 (.cons (.var 8) (.cons e1 (.cons e2 .nil))))) (condR true (evE (callN P (n + 5)) .absent)) (.v 8) [] (cwipe σ [8]) (natD (List.range 3)) h = .ok [mal10, mal10, mal10] h := by
    rw [compF_pure rfl (fun _ => mal10) (fun _ => true)]
    · rfl
    · intro x hx
      obtain ⟨i, hi, rfl⟩ := List.mem_map.mp hx
      rw [List.mem_range] at hi
      have h8 : ((cwipe σ [8]).set 8 (some (.int (i : Nat))))[8]? = some (some (.int (i : Nat))) := by
        simp only [cwipe, List.set_set]
        exact List.getElem?_set_self hσ
      exact ⟨_, rfl, rfl, fun _ => (ev_c3 (ev_var h8) (he1 _) (he2 _)).trans (told_bad (n := n) hi ha hb ht)⟩
  have ec := ev_comp1 (C := callN P (n + 5)) (a := .cst (.int 3)) (n := 3) (σ := σ) (h := h) ev_cst (by omega) key
  refine ev_cmp (x := .lst [mal10, mal10, mal10]) (y := .lst [mal10, mal10, mal10]) ec (ev_bin (x := .lst [mal10]) (y := .int 3) (ev_lst (ev_cons ev_cst ev_nil)) ev_cst ?_) (ne_same (by decide +kernel) (by decide +kernel))
  simp only [binF, mulF, mulL, derM]
  rw [if_pos (by decide)]
  rfl
def sW (st most g n o5 o6 o7 : Option D) : CSt := [some (.ref 0), st, most, g, n, o5, o6, o7, none, none]
section
variable (hF : ∀ g n, Dm g n → chkF g n = true)
include hF
theorem t0 {n g m : Nat} {h : Hc} (ht : typeOk (.int (g : Nat)) (.int (m : Nat)) = true) : callN P (n + 71) 36 [.int 0, .int (g : Nat), .int (m : Nat)] h = .ok (qD (hd10 g m)) h := told_ok (n := n) (w := 0) (by omega) (run_12 hF (n := n + 62) ht) q_tt q_dep
theorem t1 {n g m : Nat} {h : Hc} (ht : typeOk (.int (g : Nat)) (.int (m : Nat)) = true) : callN P (n + 71) 36 [.int 1, .int (g : Nat), .int (m : Nat)] h = .ok (.tup (rowD (trim (T10 g m)))) h := told_ok (n := n) (w := 1) (by omega) (run_17 hF (n := n + 10) ht) (r_tt (by
  have := len10 hF (dm_of ht)
  rw [trim, List.length_take]; omega)) r_dep
theorem t2 {n g m : Nat} {h : Hc} {q : Q2} (ht : typeOk (.int (g : Nat)) (.int (m : Nat)) = true) (hq : sum10 g m = some q) : callN P (n + 71) 36 [.int 2, .int (g : Nat), .int (m : Nat)] h = .ok (qD q) h := told_ok (n := n) (w := 2) (by omega) (run_18 hF (n := n + 9) ht hq) q_tt q_dep
/-- the turn over the numbers of legs -/
theorem own_turn {n g m w : Nat} {h : Hc} {st mo o6 o7 : Option D} (hg : g ≤ 6) (hw : w ≤ 8) : evSs ⟨callN P (n + 71), P.sub⟩ L_law_0 (sW st mo (some (.int (g : Nat))) (some (.int (m : Nat))) (some (.int (w : Nat))) o6 o7) h = .ok (.nx (sW st mo (some (.int (g : Nat))) (some (.int (m : Nat))) (some (.int (w : Nat))) o6 o7)) h := by
  have e1 : evE (callN P (n + 71)) (.cmp .Gt (.bin .Add (.bin .Sub (.bin .Mult (.cst (.int 2)) (.var 3)) (.cst (.int 2))) (.var 5)) (.cst (.int 0))) (sW st mo (some (.int (g : Nat))) (some (.int (m : Nat))) (some (.int (w : Nat))) o6 o7) h = .ok (.bl (decide ((0 : Int) < 2 * (g : Nat) - 2 + (w : Nat)))) h := ev_cmp (ev_bin (op := .Add) (ev_bin (op := .Sub) (ev_bin (op := .Mult) ev_cst (ev_var rfl) (mul_small (by decide))) ev_cst rfl) (ev_var rfl) rfl) ev_cst rfl
  have ec : evE (callN P (n + 71)) (.and_ (.cmp .Gt (.bin .Add (.bin .Sub (.bin .Mult (.cst (.int 2)) (.var 3)) (.cst (.int 2))) (.var 5)) (.cst (.int 0))) (.cmp .NotEq (.call 36 (.cons (.cst (.int 0)) (.cons (.var 3) (.cons (.var 5) .nil)))) (.call 31 (.cons (.var 3) (.cons (.var 5) .nil))))) (sW st mo (some (.int (g : Nat))) (some (.int (m : Nat))) (some (.int (w : Nat))) o6 o7) h = .ok (.bl false) h := by
    rw [ev_and e1]
    by_cases h0 : (0 : Int) < 2 * (g : Nat) - 2 + (w : Nat)
    · rw [decide_eq_true h0, if_pos rfl]
      have ht : typeOk (.int (g : Nat)) (.int (w : Nat)) = true := by
        simp only [typeOk, Bool.and_eq_true, decide_eq_true_eq]; omega
      exact ev_cmp ((ev_c3 ev_cst (ev_var rfl) (ev_var rfl)).trans (t0 hF ht)) ((ev_c2 (ev_var rfl) (ev_var rfl)).trans (smoL (n + 66) g w _ h (smL_ok (dm_of ht)) (dm_of ht))) (ne_same q_hard (Nat.le_trans q_dep (by decide)))
    · rw [decide_eq_false h0, if_neg (by simp)]
  unfold L_law_0
  refine (seqN (σ' := sW st mo (some (.int (g : Nat))) (some (.int (m : Nat))) (some (.int (w : Nat))) o6 o7) (h' := h) (by rw [ifF (P := ⟨callN P (n + 71), P.sub⟩) ec]; simp only [ES])).trans ?_
  simp only [ES]
/-- the turn over a bad pair -/
theorem bad_turn {n : Nat} {h : Hc} {st mo o3 o4 o5 o6 : Option D} {a b : D} (ha : a.plain = true) (hb : b.plain = true) (ht : typeOk a b = false) : evSs ⟨callN P (n + 71), P.sub⟩ L_law_1 (sW st mo o3 o4 o5 o6 (some (.tup [a, b]))) h = .ok (.nx (sW st mo o3 o4 o5 o6 (some (.tup [a, b])))) h := by
  have ec := three (n := n + 66) (a := a) (b := b) (h := h) (e1 := .idx (.var 7) (.cst (.int 0))) (e2 := .idx (.var 7) (.cst (.int 1))) (σ := sW st mo o3 o4 o5 o6 (some (.tup [a, b]))) (fun x => ev_idx (x := .tup [a, b]) (ev_var rfl) ev_cst rfl) (fun x => ev_idx (x := .tup [a, b]) (ev_var rfl) ev_cst rfl) (by show 8 < 10; omega) ha hb ht
  unfold L_law_1
  refine (seqN (σ' := sW st mo o3 o4 o5 o6 (some (.tup [a, b]))) (h' := h) (by rw [ifF (P := ⟨callN P (n + 71), P.sub⟩) ec]; simp only [ES])).trans ?_
  simp only [ES]
end

theorem typ {g n : Nat} (h1 : g ≤ 6) (h2 : n ≤ 8) (h3 : 3 ≤ 2 * g + n) : typeOk (.int (g : Nat)) (.int (n : Nat)) = true := by
  simp only [typeOk, Bool.and_eq_true, decide_eq_true_eq]; omega
theorem law_run : ∀ ns : List Int, ns.length ≤ 63 → ∃ h', callN P 200 37 [.ref 0] [.ro (ns.map D.int)] = .ok (.bl true) h' := by
  intro is hl
  obtain ⟨s, t, e1⟩ := run_state (P := P) (ia := 21) rfl (n := 198) hl
  generalize hns : is.map D.int = ns at *
  let C := callN P 199
  have hF := allF
  have hC : TakeOk C 22 ns := take_ok (P := P) (it := 22) rfl (n := 198)
  obtain ⟨most, s1, t1', hm, e2⟩ := menu (it := 22) (s := s) (t := t) (X := []) (e1 := .var 1) (σ := sW (some (.ref 1)) none none none none none none) hC [3, 3, 6] (by decide) (by decide) (fun s t X => ev_var rfl) (.cons (.cst (.int 3)) (.cons (.cst (.int 3)) (.cons (.cst (.int 6)) .nil))) (fun h => ev_cons ev_cst (ev_cons ev_cst (ev_cons ev_cst ev_nil))) 3 rfl
  have hm' : 0 < most ∧ most ≤ 6 := by
    simp only [List.mem_cons, List.not_mem_nil, or_false] at hm
    omega
  obtain ⟨g0, s2, t2', hg0, e3⟩ := take2 (it := 22) (m := (most : Int) + 1) (s := s1) (t := t1') (X := []) (e1 := .var 1) (e2 := .bin .Add (.var 2) (.cst (.int 1))) (σ := sW (some (.ref 1)) (some (.int (most : Nat))) none none none none none) hC (by omega) (by omega) (ev_var rfl) (ev_bin (op := .Add) (ev_var rfl) ev_cst rfl)
  obtain ⟨mn, s3, t3, hmn, e4⟩ := menu (it := 22) (s := s2) (t := t2') (X := []) (e1 := .var 1) (σ := sW (some (.ref 1)) (some (.int (most : Nat))) none none none none none) hC [5, 9] (by decide) (by decide) (fun s t X => ev_var rfl) (.cons (.cst (.int 5)) (.cons (.cst (.int 9)) .nil)) (fun h => ev_cons ev_cst (ev_cons ev_cst ev_nil)) 2 rfl
  have hmn' : 0 < mn ∧ mn ≤ 9 := by
    simp only [List.mem_cons, List.not_mem_nil, or_false] at hmn
    omega
  obtain ⟨n0, s4, t4, hn0, e5⟩ := hC s3 t3 mn [] (by omega) (by omega)
  let H := HX ns s4 t4 []
  have a1 : evS ⟨C, P.sub⟩ (.asg (.v 1) (.call 21 (.cons (.var 0) .nil))) (sW none none none none none none none) [.ro ns] = .ok (.nx (sW (some (.ref 1)) none none none none none none)) (HX ns s t []) :=
    asgV (i := 1) ((ev_c1 (ev_var rfl)).trans e1)
  have a2 : evS ⟨C, P.sub⟩ _ (sW (some (.ref 1)) none none none none none none) (HX ns s t []) = .ok (.nx (sW (some (.ref 1)) (some (.int (most : Nat))) none none none none none)) (HX ns s1 t1' []) := asgV (i := 2) e2
  have a3 : evS ⟨C, P.sub⟩ (.asg (.t (.cons (.v 3) (.cons (.v 4) .nil))) (.tup (.cons (.call 22 (.cons (.var 1) (.cons (.bin .Add (.var 2) (.cst (.int 1))) .nil))) (.cons (.call 22 (.cons (.var 1) (.cons (.idx (.lst (.cons (.cst (.int 5)) (.cons (.cst (.int 9)) .nil))) (.call 22 (.cons (.var 1) (.cons (.cst (.int 2)) .nil)))) .nil))) .nil)))) (sW (some (.ref 1)) (some (.int (most : Nat))) none none none none none) (HX ns s1 t1' []) = .ok (.nx (sW (some (.ref 1)) (some (.int (most : Nat))) (some (.int (g0 : Nat))) (some (.int (n0 : Nat))) none none none)) H := asgE (t := .t (.cons (.v 3) (.cons (.v 4) .nil))) (ev_t2 e3 ((ev_c2 (ev_var rfl) e4).trans e5)) rfl
  -- a stable type
  let σg := fun (g n : Nat) (o5 o6 o7 : Option D) => sW (some (.ref 1)) (some (.int (most : Nat))) (some (.int (g : Nat))) (some (.int (n : Nat))) o5 o6 o7
  have c4 : evE C (.cmp .Lt (.bin .Add (.bin .Sub (.bin .Mult (.cst (.int 2)) (.var 3)) (.cst (.int 2))) (.var 4)) (.cst (.int 1))) (σg g0 n0 none none none) H = .ok (.bl (decide (2 * (g0 : Int) - 2 + (n0 : Nat) < 1))) H := ev_cmp (ev_bin (op := .Add) (ev_bin (op := .Sub) (ev_bin (op := .Mult) ev_cst (ev_var rfl) (mul_small (by decide))) ev_cst rfl) (ev_var rfl) rfl) ev_cst rfl
  obtain ⟨g, n, hg, hn, hst, a4⟩ : ∃ g n : Nat, g ≤ 6 ∧ n ≤ 8 ∧ 3 ≤ 2 * g + n ∧ evS ⟨C, P.sub⟩ (.ifs (.cmp .Lt (.bin .Add (.bin .Sub (.bin .Mult (.cst (.int 2)) (.var 3)) (.cst (.int 2))) (.var 4)) (.cst (.int 1))) (.cons (.ifs (.cmp .NotEq (.comp (.call 36 (.cons (.var 8) (.cons (.var 3) (.cons (.var 4) .nil)))) (.v 8) (.rng1 (.cst (.int 3))) .absent [8]) (.bin .Mult (.lst (.cons (.cst (.str (Str.ofString "malformed"))) .nil)) (.cst (.int 3)))) (.cons (.ret (.cst (.bl false))) .nil) .nil) (.cons (.asg (.t (.cons (.v 3) (.cons (.v 4) .nil))) (.tup (.cons (.bin .Add (.var 3) (.cst (.int 1))) (.cons (.bin .Add (.var 4) (.cst (.int 1))) .nil)))) .nil)) .nil) (σg g0 n0 none none none) H = .ok (.nx (σg g n none none none)) H := by
    by_cases h4 : 2 * (g0 : Int) - 2 + (n0 : Nat) < 1
    · rw [decide_eq_true h4] at c4
      refine ⟨g0 + 1, n0 + 1, by omega, by omega, by omega, ?_⟩
      rw [ifT (P := ⟨C, P.sub⟩) c4]
      have ht : typeOk (.int (g0 : Nat)) (.int (n0 : Nat)) = false := by
        cases ht : typeOk (.int (g0 : Nat)) (.int (n0 : Nat)) with
        | false => rfl
        | true =>
          simp only [typeOk, Bool.and_eq_true, decide_eq_true_eq] at ht
          omega
      have ec := three (n := 194) (a := .int (g0 : Nat)) (b := .int (n0 : Nat)) (h := H) (e1 := .var 3) (e2 := .var 4) (σ := σg g0 n0 none none none) (fun x => ev_var rfl) (fun x => ev_var rfl) (by show 8 < 10; omega) rfl rfl ht
      rw [seqN (σ' := σg g0 n0 none none none) (h' := H) (by rw [ifF (P := ⟨C, P.sub⟩) ec]; simp only [ES])]
      have : evS ⟨C, P.sub⟩ (.asg (.t (.cons (.v 3) (.cons (.v 4) .nil))) (.tup (.cons (.bin .Add (.var 3) (.cst (.int 1))) (.cons (.bin .Add (.var 4) (.cst (.int 1))) .nil)))) (σg g0 n0 none none none) H = .ok (.nx (σg (g0 + 1) (n0 + 1) none none none)) H := asgE (ev_t2 (ev_bin (op := .Add) (z := .int ((g0 + 1 : Nat) : Int)) (ev_var rfl) ev_cst rfl) (ev_bin (op := .Add) (z := .int ((n0 + 1 : Nat) : Int)) (ev_var rfl) ev_cst rfl)) rfl
      rw [seqN this]
      simp only [ES]
    · rw [decide_eq_false h4] at c4
      refine ⟨g0, n0, by omega, by omega, by omega, ?_⟩
      rw [ifF (P := ⟨C, P.sub⟩) c4]
      simp only [ES]
  have ht := typ hg hn hst
  have d := dm_of ht
  -- the turns over legs
  obtain ⟨o5, a5⟩ : ∃ o5, evS ⟨C, P.sub⟩ (.for_ (.v 5) (.rng1 (.bin .Add (.var 4) (.cst (.int 1)))) L_law_0) (σg g n none none none) H = .ok (.nx (σg g n o5 none none)) H := by
    have el : evE C (.bin .Add (.var 4) (.cst (.int 1))) (σg g n none none none) H = .ok (.int ((n + 1 : Nat) : Int)) H := ev_bin (op := .Add) (ev_var rfl) ev_cst rfl
    rw [forR1 (P := ⟨C, P.sub⟩) el (smallI_nat (by omega)), Int.toNat_natCast, rngD_zero]
    obtain ⟨σ', h', e, ⟨o5, rfl⟩, rfl⟩ := forF_map (fb := evSs ⟨C, P.sub⟩ L_law_0) (t := .v 5) (g := []) (fun n : Nat => D.int (n : Nat)) (fun (_ : Unit) σ h => (∃ o5, σ = σg g n o5 none none) ∧ h = H) (fun _ _ => ()) (fun _ _ _ _ => rfl) (List.range (n + 1)) (fun _ x σ h hx R => by
      obtain ⟨⟨o5, rfl⟩, rfl⟩ := R
      rw [List.mem_range] at hx
      exact ⟨σg g n (some (.int (x : Nat))) none none, rfl, _, _, own_turn hF (n := 128) hg (by omega), ⟨some (.int (x : Nat)), rfl⟩, rfl⟩) () (σg g n none none none) H ⟨⟨none, rfl⟩, rfl⟩
    exact ⟨o5, e⟩
  -- the row
  have m3 : (3 : Int).natAbs < 2 ^ 62 := by decide
  have c6 : evE C (.cmp .Lt (.bin .Add (.bin .Sub (.bin .Mult (.cst (.int 3)) (.var 3)) (.cst (.int 3))) (.var 4)) (.cst (.int 11))) (σg g n o5 none none) H = .ok (.bl (decide (3 * (g : Int) - 3 + (n : Nat) < 11))) H := ev_cmp (ev_bin (op := .Add) (ev_bin (op := .Sub) (ev_bin (op := .Mult) ev_cst (ev_var rfl) (mul_small m3)) ev_cst rfl) (ev_var rfl) rfl) ev_cst rfl
  obtain ⟨b, s5, t5, c6'⟩ : ∃ (b : Bool) (s5 t5 : Int), evE C (.or_ (.cmp .Lt (.bin .Add (.bin .Sub (.bin .Mult (.cst (.int 3)) (.var 3)) (.cst (.int 3))) (.var 4)) (.cst (.int 11))) (.cmp .Eq (.call 22 (.cons (.var 1) (.cons (.cst (.int 4)) .nil))) (.cst (.int 0)))) (σg g n o5 none none) H = .ok (.bl b) (HX ns s5 t5 []) := by
    by_cases h6 : 3 * (g : Int) - 3 + (n : Nat) < 11
    · rw [decide_eq_true h6] at c6
      exact ⟨true, s4, t4, by rw [ev_or c6, if_pos rfl]⟩
    · rw [decide_eq_false h6] at c6
      obtain ⟨x, s5, t5, _, e6⟩ := take2 (it := 22) (m := 4) (s := s4) (t := t4) (X := []) (e1 := .var 1) (e2 := .cst (.int 4)) (σ := σg g n o5 none none) hC (by omega) (by omega) (ev_var rfl) ev_cst
      exact ⟨_, s5, t5, by rw [ev_or c6, if_neg (by simp)]; exact ev_cmp e6 ev_cst rfl⟩
  let H5 := HX ns s5 t5 []
  obtain ⟨o6, H6, a6⟩ : ∃ o6 H6, evS ⟨C, P.sub⟩ (.ifs (.or_ (.cmp .Lt (.bin .Add (.bin .Sub (.bin .Mult (.cst (.int 3)) (.var 3)) (.cst (.int 3))) (.var 4)) (.cst (.int 11))) (.cmp .Eq (.call 22 (.cons (.var 1) (.cons (.cst (.int 4)) .nil))) (.cst (.int 0)))) (.cons (.asg (.v 6) (.call 32 (.cons (.call 35 (.cons (.var 3) (.cons (.var 4) (.cons (.dict0 true) .nil)))) .nil))) (.cons (.ifs (.or_ (.cmp .NotEq (.call 36 (.cons (.cst (.int 1)) (.cons (.var 3) (.cons (.var 4) .nil)))) (.var 6)) (.cmp .NotEq (.call 36 (.cons (.cst (.int 2)) (.cons (.var 3) (.cons (.var 4) .nil)))) (.call 26 (.cons (.var 6) .nil)))) (.cons (.ret (.cst (.bl false))) .nil) .nil) .nil)) .nil) (σg g n o5 none none) H = .ok (.nx (σg g n o5 o6 none)) H6 := by
    cases b with
    | false =>
      exact ⟨none, H5, by rw [ifF (P := ⟨C, P.sub⟩) c6']; simp only [ES]; all_goals rfl⟩
    | true =>
      obtain ⟨q, hq⟩ := sum_ok d hn
      obtain ⟨ks, hk, c2⟩ := cutL hF 188 g n d (by omega) (H5 ++ [.dT []]) H5.length [] KI.nil (by simp [kd])
      have hs : (H5 ++ [Cell.dT []]).set H5.length (.dT (kd (fun g n => D.lst (rowD (T10 g n))) ks)) = H5 ++ [.dT (kd (fun g n => D.lst (rowD (T10 g n))) ks)] := by simp
      rw [hs] at c2
      let H6 := H5 ++ [.dT (kd (fun g n => D.lst (rowD (T10 g n))) ks)]
      have ed : evE C (.dict0 true) (σg g n o5 none none) H5 = .ok (.ref H5.length) (H5 ++ [.dT []]) := by simp only [EV]; rfl
      have l := len10 hF d
      have b1 : evS ⟨C, P.sub⟩ (.asg (.v 6) (.call 32 (.cons (.call 35 (.cons (.var 3) (.cons (.var 4) (.cons (.dict0 true) .nil)))) .nil))) (σg g n o5 none none) H5 = .ok (.nx (σg g n o5 (some (.tup (rowD (trim (T10 g n))))) none)) H6 :=
        asgV (i := 6) ((ev_c1 ((ev_c3 (ev_var rfl) (ev_var rfl) ed).trans c2)).trans (run_trL (P := P) (i := 32) (n := 198) rfl (by omega)))
      have c7 : evE C (.or_ (.cmp .NotEq (.call 36 (.cons (.cst (.int 1)) (.cons (.var 3) (.cons (.var 4) .nil)))) (.var 6)) (.cmp .NotEq (.call 36 (.cons (.cst (.int 2)) (.cons (.var 3) (.cons (.var 4) .nil)))) (.call 26 (.cons (.var 6) .nil)))) (σg g n o5 (some (.tup (rowD (trim (T10 g n))))) none) H6 = .ok (.bl false) H6 := by
        have f1 : evE C (.cmp .NotEq (.call 36 (.cons (.cst (.int 1)) (.cons (.var 3) (.cons (.var 4) .nil)))) (.var 6)) (σg g n o5 (some (.tup (rowD (trim (T10 g n))))) none) H6 = .ok (.bl false) H6 := ev_cmp ((ev_c3 ev_cst (ev_var rfl) (ev_var rfl)).trans (t1 hF (n := 128) ht)) (ev_var rfl) (ne_same r_hard (Nat.le_trans r_dep (by decide)))
        have f2 : evE C (.cmp .NotEq (.call 36 (.cons (.cst (.int 2)) (.cons (.var 3) (.cons (.var 4) .nil)))) (.call 26 (.cons (.var 6) .nil))) (σg g n o5 (some (.tup (rowD (trim (T10 g n))))) none) H6 = .ok (.bl false) H6 := ev_cmp ((ev_c3 ev_cst (ev_var rfl) (ev_var rfl)).trans (t2 hF (n := 128) ht hq)) ((ev_c1 (ev_var rfl)).trans ((totL 196) _ q H6 hq).2) (ne_same q_hard (Nat.le_trans q_dep (by decide)))
        rw [ev_or f1, if_neg (by simp)]
        exact f2
      refine ⟨some (.tup (rowD (trim (T10 g n)))), H6, ?_⟩
      rw [ifT (P := ⟨C, P.sub⟩) c6', seqN b1, seqN (σ' := σg g n o5 (some (.tup (rowD (trim (T10 g n))))) none) (h' := H6) (by rw [ifF (P := ⟨C, P.sub⟩) c7]; simp only [ES])]
      simp only [ES]
  -- known numbers
  have kn := known_ck
  simp only [Bool.and_eq_true] at kn
  obtain ⟨⟨⟨⟨⟨⟨k3, k4⟩, k5⟩, k6⟩, k7⟩, k11⟩, k20⟩ := kn
  have a7 : evS ⟨C, P.sub⟩ (.ifs (.or_ (.cmp .NotEq (.comp (.call 36 (.cons (.cst (.int 2)) (.cons (.cst (.int 0)) (.cons (.var 9) .nil)))) (.v 9) (.rng2 (.cst (.int 3)) (.cst (.int 8))) .absent [9]) (.lst (.cons (.tup (.cons (.cst (.int 1)) (.cons (.cst (.int 1)) .nil))) (.cons (.tup (.cons (.cst (.int 2)) (.cons (.cst (.int 1)) .nil))) (.cons (.tup (.cons (.cst (.int 7)) (.cons (.cst (.int 1)) .nil))) (.cons (.tup (.cons (.cst (.int 34)) (.cons (.cst (.int 1)) .nil))) (.cons (.tup (.cons (.cst (.int 213)) (.cons (.cst (.int 1)) .nil))) .nil))))))) (.cmp .NotEq (.call 36 (.cons (.cst (.int 2)) (.cons (.cst (.int 1)) (.cons (.cst (.int 1)) .nil)))) (.tup (.cons (.cst (.int 5)) (.cons (.cst (.int 12)) .nil))))) (.cons (.ret (.cst (.bl false))) .nil) .nil) (σg g n o5 o6 none) H6 = .ok (.nx (σg g n o5 o6 none)) H6 := by
    have key : compF (evE C (.call 36 (.cons (.cst (.int 2)) (.cons (.cst (.int 0)) (.cons (.var 9) .nil))))) (condR true (evE C .absent)) (.v 9) [] (cwipe (σg g n o5 o6 none) [9]) (natD [3, 4, 5, 6, 7]) H6 = .ok ([(1, 1), (2, 1), (7, 1), (34, 1), (213, 1)].map qD) H6 := by
      refine compF_mapM qD (fun k => sum10 0 k) [3, 4, 5, 6, 7] [(1, 1), (2, 1), (7, 1), (34, 1), (213, 1)] ?_ (fun j hj q hq => ?_)
      · simp only [mapMO, eqO_eq k3, eqO_eq k4, eqO_eq k5, eqO_eq k6, eqO_eq k7, Option.bind_some]
      · have hj' : 3 ≤ j ∧ j ≤ 7 := by
          simp only [List.mem_cons, List.not_mem_nil, or_false] at hj
          omega
        exact ⟨_, rfl, rfl, (ev_c3 ev_cst ev_cst (ev_var rfl)).trans (t2 hF (n := 128) (g := 0) (m := j) (typ (by omega) (by omega) (by omega)) hq)⟩
    have ec : evE C (.comp (.call 36 (.cons (.cst (.int 2)) (.cons (.cst (.int 0)) (.cons (.var 9) .nil)))) (.v 9) (.rng2 (.cst (.int 3)) (.cst (.int 8))) .absent [9]) (σg g n o5 o6 none) H6 = .ok (.lst ([(1, 1), (2, 1), (7, 1), (34, 1), (213, 1)].map qD)) H6 := by
      have ei : evI C (.rng2 (.cst (.int 3)) (.cst (.int 8))) (σg g n o5 o6 none) H6 = .ok ⟨natD [3, 4, 5, 6, 7], []⟩ H6 := by
        simp only [EV, EB]
        rfl
      rw [show evE C (.comp (.call 36 (.cons (.cst (.int 2)) (.cons (.cst (.int 0)) (.cons (.var 9) .nil)))) (.v 9) (.rng2 (.cst (.int 3)) (.cst (.int 8))) .absent [9]) (σg g n o5 o6 none) H6 = ((evI C (.rng2 (.cst (.int 3)) (.cst (.int 8))) (σg g n o5 o6 none) H6).bind fun d h => if d.xs.length ≤ line then lmap [] (compF (evE C (.call 36 (.cons (.cst (.int 2)) (.cons (.cst (.int 0)) (.cons (.var 9) .nil))))) (condR true (evE C .absent)) (.v 9) d.g (cwipe (σg g n o5 o6 none) [9]) d.xs h) else .stuck) from by simp only [evE]; all_goals rfl]
      rw [ei, ERes.ok_bind]
      simp only
      rw [if_pos (by decide), key]
      rfl
    have f1 : evE C (.cmp .NotEq (.comp (.call 36 (.cons (.cst (.int 2)) (.cons (.cst (.int 0)) (.cons (.var 9) .nil)))) (.v 9) (.rng2 (.cst (.int 3)) (.cst (.int 8))) .absent [9]) (.lst (.cons (.tup (.cons (.cst (.int 1)) (.cons (.cst (.int 1)) .nil))) (.cons (.tup (.cons (.cst (.int 2)) (.cons (.cst (.int 1)) .nil))) (.cons (.tup (.cons (.cst (.int 7)) (.cons (.cst (.int 1)) .nil))) (.cons (.tup (.cons (.cst (.int 34)) (.cons (.cst (.int 1)) .nil))) (.cons (.tup (.cons (.cst (.int 213)) (.cons (.cst (.int 1)) .nil))) .nil))))))) (σg g n o5 o6 none) H6 = .ok (.bl false) H6 :=
      ev_cmp ec (ev_lst (ev_cons (ev_t2 ev_cst ev_cst) (ev_cons (ev_t2 ev_cst ev_cst) (ev_cons (ev_t2 ev_cst ev_cst) (ev_cons (ev_t2 ev_cst ev_cst) (ev_cons (ev_t2 ev_cst ev_cst) ev_nil)))))) (ne_same rfl (by decide +kernel))
    have f2 : evE C (.cmp .NotEq (.call 36 (.cons (.cst (.int 2)) (.cons (.cst (.int 1)) (.cons (.cst (.int 1)) .nil)))) (.tup (.cons (.cst (.int 5)) (.cons (.cst (.int 12)) .nil)))) (σg g n o5 o6 none) H6 = .ok (.bl false) H6 :=
      ev_cmp ((ev_c3 ev_cst ev_cst ev_cst).trans (t2 hF (n := 128) (g := 1) (m := 1) rfl (eqO_eq k11))) (ev_t2 ev_cst ev_cst) (ne_same rfl (by decide +kernel))
    rw [ifF (P := ⟨C, P.sub⟩) (h' := H6) (by rw [ev_or f1, if_neg (by simp)]; exact f2)]
    simp only [ES]
  have a8 : evS ⟨C, P.sub⟩ (.ifs (.or_ (.cmp .NotEq (.call 36 (.cons (.cst (.int 0)) (.cons (.cst (.int 2)) (.cons (.cst (.int 0)) .nil)))) (.tup (.cons (.neg (.cst (.int 1))) (.cons (.cst (.int 240)) .nil)))) (.cmp .NotEq (.call 36 (.cons (.cst (.int 1)) (.cons (.cst (.int 1)) (.cons (.cst (.int 1)) .nil)))) (.tup (.cons (.tup (.cons (.neg (.cst (.int 1))) (.cons (.cst (.int 12)) .nil))) (.cons (.tup (.cons (.cst (.int 1)) (.cons (.cst (.int 2)) .nil))) .nil))))) (.cons (.ret (.cst (.bl false))) .nil) .nil) (σg g n o5 o6 none) H6 = .ok (.nx (σg g n o5 o6 none)) H6 := by
    have h20 : hd10 2 0 = (-1, 240) := Option.some.inj (eqO_eq k20)
    have f1 : evE C (.cmp .NotEq (.call 36 (.cons (.cst (.int 0)) (.cons (.cst (.int 2)) (.cons (.cst (.int 0)) .nil)))) (.tup (.cons (.neg (.cst (.int 1))) (.cons (.cst (.int 240)) .nil)))) (σg g n o5 o6 none) H6 = .ok (.bl false) H6 :=
      ev_cmp ((ev_c3 ev_cst ev_cst ev_cst).trans (t0 hF (n := 128) (g := 2) (m := 0) rfl)) (ev_t2 (ev_neg ev_cst) ev_cst) (by rw [h20]; exact ne_same rfl (by decide +kernel))
    have f2 : evE C (.cmp .NotEq (.call 36 (.cons (.cst (.int 1)) (.cons (.cst (.int 1)) (.cons (.cst (.int 1)) .nil)))) (.tup (.cons (.tup (.cons (.neg (.cst (.int 1))) (.cons (.cst (.int 12)) .nil))) (.cons (.tup (.cons (.cst (.int 1)) (.cons (.cst (.int 2)) .nil))) .nil)))) (σg g n o5 o6 none) H6 = .ok (.bl false) H6 :=
      ev_cmp ((ev_c3 ev_cst ev_cst ev_cst).trans (t1 hF (n := 128) (g := 1) (m := 1) rfl)) (ev_t2 (ev_t2 (ev_neg ev_cst) ev_cst) (ev_t2 ev_cst ev_cst)) (by rw [tr11]; exact ne_same rfl (by decide +kernel))
    rw [ifF (P := ⟨C, P.sub⟩) (h' := H6) (by rw [ev_or f1, if_neg (by simp)]; exact f2)]
    simp only [ES]
  -- bad pairs
  let bads : List (D × D) := [(.int 0, .int 2), (.int 1, .int 0), (.int (-1), .int 5), (.int 7, .int 1), (.int 0, .int 9), (.non, .int 3), (.int 0, .bl true), (.int 2, .str (Str.ofString "1")), (.bl true, .int 1)]
  have hb : ∀ p ∈ bads, p.1.plain = true ∧ p.2.plain = true ∧ typeOk p.1 p.2 = false := fun p hp => by
    simp only [bads, List.mem_cons, List.not_mem_nil, or_false] at hp
    rcases hp with rfl | rfl | rfl | rfl | rfl | rfl | rfl | rfl | rfl <;> exact ⟨rfl, rfl, by decide⟩
  obtain ⟨o7, a9⟩ : ∃ o7, evS ⟨C, P.sub⟩ (.for_ (.v 7) (.seq (.lst (.cons (.tup (.cons (.cst (.int 0)) (.cons (.cst (.int 2)) .nil))) (.cons (.tup (.cons (.cst (.int 1)) (.cons (.cst (.int 0)) .nil))) (.cons (.tup (.cons (.neg (.cst (.int 1))) (.cons (.cst (.int 5)) .nil))) (.cons (.tup (.cons (.cst (.int 7)) (.cons (.cst (.int 1)) .nil))) (.cons (.tup (.cons (.cst (.int 0)) (.cons (.cst (.int 9)) .nil))) (.cons (.tup (.cons (.cst .non) (.cons (.cst (.int 3)) .nil))) (.cons (.tup (.cons (.cst (.int 0)) (.cons (.cst (.bl true)) .nil))) (.cons (.tup (.cons (.cst (.int 2)) (.cons (.cst (.str (Str.ofString "1"))) .nil))) (.cons (.tup (.cons (.cst (.bl true)) (.cons (.cst (.int 1)) .nil))) .nil))))))))))) L_law_1) (σg g n o5 o6 none) H6 = .ok (.nx (σg g n o5 o6 o7)) H6 := by
    have el : evE C (.lst (.cons (.tup (.cons (.cst (.int 0)) (.cons (.cst (.int 2)) .nil))) (.cons (.tup (.cons (.cst (.int 1)) (.cons (.cst (.int 0)) .nil))) (.cons (.tup (.cons (.neg (.cst (.int 1))) (.cons (.cst (.int 5)) .nil))) (.cons (.tup (.cons (.cst (.int 7)) (.cons (.cst (.int 1)) .nil))) (.cons (.tup (.cons (.cst (.int 0)) (.cons (.cst (.int 9)) .nil))) (.cons (.tup (.cons (.cst .non) (.cons (.cst (.int 3)) .nil))) (.cons (.tup (.cons (.cst (.int 0)) (.cons (.cst (.bl true)) .nil))) (.cons (.tup (.cons (.cst (.int 2)) (.cons (.cst (.str (Str.ofString "1"))) .nil))) (.cons (.tup (.cons (.cst (.bl true)) (.cons (.cst (.int 1)) .nil))) .nil)))))))))) (σg g n o5 o6 none) H6 = .ok (.lst (bads.map fun p => .tup [p.1, p.2])) H6 :=
      ev_lst (ev_cons (ev_t2 ev_cst ev_cst) (ev_cons (ev_t2 ev_cst ev_cst) (ev_cons (ev_t2 (ev_neg ev_cst) ev_cst) (ev_cons (ev_t2 ev_cst ev_cst) (ev_cons (ev_t2 ev_cst ev_cst) (ev_cons (ev_t2 ev_cst ev_cst) (ev_cons (ev_t2 ev_cst ev_cst) (ev_cons (ev_t2 ev_cst ev_cst) (ev_cons (ev_t2 ev_cst ev_cst) ev_nil)))))))))
    rw [forS (P := ⟨C, P.sub⟩) (h' := H6) (d := .lst (bads.map fun p => .tup [p.1, p.2])) (xs := bads.map fun p => .tup [p.1, p.2]) (g := []) el rfl rfl]
    obtain ⟨σ', h', e, ⟨o7, rfl⟩, rfl⟩ := forF_map (fb := evSs ⟨C, P.sub⟩ L_law_1) (t := .v 7) (g := []) (fun p : D × D => D.tup [p.1, p.2]) (fun (_ : Unit) σ h => (∃ o7, σ = σg g n o5 o6 o7) ∧ h = H6) (fun _ _ => ()) (fun _ _ _ _ => rfl) bads (fun _ x σ h hx R => by
      obtain ⟨⟨o7, rfl⟩, rfl⟩ := R
      obtain ⟨p1, p2, p3⟩ := hb x hx
      exact ⟨σg g n o5 o6 (some (.tup [x.1, x.2])), rfl, _, _, bad_turn hF (n := 128) p1 p2 p3, ⟨some (.tup [x.1, x.2]), rfl⟩, rfl⟩) () (σg g n o5 o6 none) H6 ⟨⟨none, rfl⟩, rfl⟩
    exact ⟨o7, e⟩
  have hrun : evSs ⟨C, P.sub⟩ b_law (sW none none none none none none none) [.ro ns] = .ok (.rt (.bl true)) H6 := by
    unfold b_law
    rw [seqN a1, seqN a2, seqN a3, seqN a4, seqN a5, seqN a6, seqN a7, seqN a8, seqN a9]
    exact seqR (retE ev_cst)
  obtain ⟨h', e⟩ : ∃ h', finR [.ro ns] (.bl true) H6 = .ok (.bl true) h' := by
    unfold finR
    split <;> exact ⟨_, rfl⟩
  exact ⟨h', (call_rt0 (n := 199) (σ := sW none none none none none none none) (b := b_law) (h' := H6) (v := .bl true) (d := d_law) rfl rfl rfl rfl hrun).trans e⟩

end Cl
open PySem PySem.W PyProof.Rows
set_option maxRecDepth 100000 in
set_option maxHeartbeats 0 in
theorem PySem.Challenge.cw_moduliroads_k10_whole_euler_numbers_holds : PySem.Challenge.rw_moduliroads_k10_whole_euler_numbers.Holds := by
  w_on; o_law; k_head; (case hw => w_witness2)
  k_fill
  refine Cl.walk_cl (l := PySem.Challenge.rw_moduliroads_k10_whole_euler_numbers) (S := Cl.sg) (P := Cl.P) (ds := Cl.tx) (n := 200) (i := 37) (x := "script") rfl rfl ⟨rfl, by decide, by decide⟩ (fun w h Y => PySem.W.kIn_of Y) (fun w => rfl) (Cl.tx.getD 37 ⟨"", Cl.top 0, [], []⟩) rfl rfl (fun _ _ _ _ _ _ _ => rfl) ?F Cl.law_run
  case F =>
    intro w mg fa h KX G hmg
    refine' Cl.all_mk KX G hmg ?a0 ?l0 ?c0 ?k0 ?a1 ?l1 ?c1 ?k1 ?a2 ?l2 ?c2 ?k2 ?a3 ?l3 ?c3 ?k3 ?a4 ?l4 ?c4 ?k4 ?a5 ?l5 ?c5 ?k5 ?a6 ?l6 ?c6 ?k6 ?a7 ?l7 ?c7 ?k7 ?a8 ?l8 ?c8 ?k8 ?a9 ?l9 ?c9 ?k9 ?a10 ?l10 ?c10 ?k10 ?a11 ?l11 ?c11 ?k11 ?a12 ?l12 ?c12 ?k12 ?a13 ?l13 ?c13 ?k13 ?a14 ?l14 ?c14 ?k14 ?a15 ?l15 ?c15 ?k15 ?a16 ?l16 ?c16 ?k16 ?a17 ?l17 ?c17 ?k17 ?a18 ?l18 ?c18 ?k18 ?a19 ?l19 ?c19 ?k19 ?a20 ?l20 ?c20 ?k20 ?a21 ?l21 ?c21 ?k21 ?a22 ?l22 ?c22 ?k22 ?a23 ?l23 ?c23 ?k23 ?a24 ?l24 ?c24 ?k24 ?a25 ?l25 ?c25 ?k25 ?a26 ?l26 ?c26 ?k26 ?a27 ?l27 ?c27 ?k27 ?a28 ?l28 ?c28 ?k28 ?a29 ?l29 ?c29 ?k29 ?a30 ?l30 ?c30 ?k30 ?a31 ?l31 ?c31 ?k31 ?a32 ?l32 ?c32 ?k32 ?a33 ?l33 ?c33 ?k33 ?a34 ?l34 ?c34 ?k34 ?a35 ?l35 ?c35 ?k35 ?a36 ?l36 ?c36 ?k36 ?a37 ?l37 ?c37 ?k37 ?xa0 ?xi0 ?xk0 ?xb0 ?xt0 ?xc0 ?xa1 ?xi1 ?xk1 ?xb1 ?xt1 ?xc1 ?xs0_0 ?xs0_1 ?xs1_0 ?xs1_1 ?m0 ?m1 ?z0 ?z1 ?z2 ?z3 ?z4 ?z5 ?z6 ?z7 ?z8 ?z9 ?z10 ?z11 ?z12 ?z13 ?z14 ?z15 ?z16 ?z17 ?z18 ?z19
    (case a0 => k_is)
    (case l0 => k_is)
    (case c0 => k_is)
    (case k0 => k_is)
    (case a1 => k_is)
    (case l1 => k_is)
    (case c1 => k_is)
    (case k1 => k_is)
    (case a2 => k_is)
    (case l2 => k_is)
    (case c2 => k_is)
    (case k2 => k_is)
    (case a3 => k_is)
    (case l3 => k_is)
    (case c3 => k_is)
    (case k3 => k_is)
    (case a4 => k_is)
    (case l4 => k_is)
    (case c4 => k_is)
    (case k4 => k_is)
    (case a5 => k_is)
    (case l5 => k_is)
    (case c5 => k_is)
    (case k5 => k_is)
    (case a6 => k_is)
    (case l6 => k_is)
    (case c6 => k_is)
    (case k6 => k_is)
    (case a7 => k_is)
    (case l7 => k_is)
    (case c7 => k_is)
    (case k7 => k_is)
    (case a8 => k_is)
    (case l8 => k_is)
    (case c8 => k_is)
    (case k8 => k_is)
    (case a9 => k_is)
    (case l9 => k_is)
    (case c9 => k_is)
    (case k9 => k_is)
    (case a10 => k_is)
    (case l10 => k_is)
    (case c10 => k_is)
    (case k10 => k_is)
    (case a11 => k_is)
    (case l11 => k_is)
    (case c11 => k_is)
    (case k11 => k_is)
    (case a12 => k_is)
    (case l12 => k_is)
    (case c12 => k_is)
    (case k12 => k_is)
    (case a13 => k_is)
    (case l13 => k_is)
    (case c13 => k_is)
    (case k13 => k_is)
    (case a14 => k_is)
    (case l14 => k_is)
    (case c14 => k_is)
    (case k14 => k_is)
    (case a15 => k_is)
    (case l15 => k_is)
    (case c15 => k_is)
    (case k15 => k_is)
    (case a16 => k_is)
    (case l16 => k_is)
    (case c16 => k_is)
    (case k16 => k_is)
    (case a17 => k_is)
    (case l17 => k_is)
    (case c17 => k_is)
    (case k17 => k_is)
    (case a18 => k_is)
    (case l18 => k_is)
    (case c18 => k_is)
    (case k18 => k_is)
    (case a19 => k_is)
    (case l19 => k_is)
    (case c19 => k_is)
    (case k19 => k_is)
    (case a20 => k_is)
    (case l20 => k_is)
    (case c20 => k_is)
    (case k20 => k_is)
    (case a21 => k_is)
    (case l21 => k_is)
    (case c21 => k_is)
    (case k21 => k_is)
    (case a22 => k_is)
    (case l22 => k_is)
    (case c22 => k_is)
    (case k22 => k_is)
    (case a23 => k_is)
    (case l23 => k_is)
    (case c23 => k_is)
    (case k23 => k_is)
    (case a24 => k_is)
    (case l24 => k_is)
    (case c24 => k_is)
    (case k24 => k_is)
    (case a25 => k_is)
    (case l25 => k_is)
    (case c25 => k_is)
    (case k25 => k_is)
    (case a26 => k_is)
    (case l26 => k_is)
    (case c26 => k_is)
    (case k26 => k_is)
    (case a27 => k_is)
    (case l27 => k_is)
    (case c27 => k_is)
    (case k27 => k_is)
    (case a28 => k_is)
    (case l28 => k_is)
    (case c28 => k_is)
    (case k28 => k_is)
    (case a29 => k_is)
    (case l29 => k_is)
    (case c29 => k_is)
    (case k29 => k_is)
    (case a30 => k_is)
    (case l30 => k_is)
    (case c30 => k_is)
    (case k30 => k_is)
    (case a31 => k_is)
    (case l31 => k_is)
    (case c31 => k_is)
    (case k31 => k_is)
    (case a32 => k_is)
    (case l32 => k_is)
    (case c32 => k_is)
    (case k32 => k_is)
    (case a33 => k_is)
    (case l33 => k_is)
    (case c33 => k_is)
    (case k33 => k_is)
    (case a34 => k_is)
    (case l34 => k_is)
    (case c34 => k_is)
    (case k34 => k_is)
    (case a35 => k_is)
    (case l35 => k_is)
    (case c35 => k_is)
    (case k35 => k_is)
    (case a36 => k_is)
    (case l36 => k_is)
    (case c36 => k_is)
    (case k36 => k_is)
    (case a37 => k_is)
    (case l37 => k_is)
    (case c37 => k_is)
    (case k37 => k_is)
    (case xa0 => k_is)
    (case xi0 => k_exc)
    (case xk0 => k_is)
    (case xb0 => k_is)
    (case xt0 => k_is)
    (case xc0 => k_is)
    (case xa1 => k_is)
    (case xi1 => k_exc)
    (case xk1 => k_is)
    (case xb1 => k_is)
    (case xt1 => k_is)
    (case xc1 => k_is)
    (case xs0_0 => first | rfl | k_is)
    (case xs0_1 => first | rfl | k_is)
    (case xs1_0 => first | rfl | k_is)
    (case xs1_1 => first | rfl | k_is)
    (case m0 => k_is)
    (case m1 => k_is)
    (case z0 => k_is)
    (case z1 => k_is)
    (case z2 => k_is)
    (case z3 => k_is)
    (case z4 => k_is)
    (case z5 => k_is)
    (case z6 => k_is)
    (case z7 => k_is)
    (case z8 => k_is)
    (case z9 => k_is)
    (case z10 => k_is)
    (case z11 => k_is)
    (case z12 => k_is)
    (case z13 => k_is)
    (case z14 => k_is)
    (case z15 => k_is)
    (case z16 => k_is)
    (case z17 => k_is)
    (case z18 => k_is)
    (case z19 => k_is)

