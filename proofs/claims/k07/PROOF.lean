import PyProof.Rows.All
import Wide.All
import OpenK.AllK
import Wide.FinOn
import HandS.ForMost
import HandS.ForExc
import HandS.Walk
import HandS.Zip
import HandS.Deep
import HandS.TupAny
import HandS.TupMul
import HandS.Wide
import HandS.Conv
import KE.SortData
import KE.DataCmp
import HandS.WideBits
import HandS.Style
import HandS.IsInst
import HandS.SortInts
import KE.OsSortAny
import KE.DataMinMax
import HandS.Iter
import PySem.Challenge.RW_moduliroads_k07_stable_graphs_judged
set_option Elab.async false
set_option linter.all false
set_option maxRecDepth 100000
set_option maxHeartbeats 4000000
namespace Cl
open PySem PySem.Spec PyProof.Rows L2

/-! ## values -/
inductive D where
  | non | bl (b : Bool) | int (i : Int) | str (x : Str)
  | tup (xs : List D) | lst (xs : List D) | ref (n : Nat) | fn (i : Nat)
  deriving Inhabited

mutual
def D.beq : D → D → Bool
  | .non, .non => true
  | .bl a, .bl b => a == b
  | .int a, .int b => a == b
  | .str a, .str b => decide (a = b)
  | .tup a, .tup b => D.beqs a b
  | .lst a, .lst b => D.beqs a b
  | .ref a, .ref b => a == b
  | .fn a, .fn b => a == b
  | _, _ => false
def D.beqs : List D → List D → Bool
  | [], [] => true
  | a :: as, b :: bs => D.beq a b && D.beqs as bs
  | _, _ => false
end
mutual
theorem D.beq_eq : ∀ {a b : D}, D.beq a b = true → a = b
  | .non, b, h => by cases b <;> simp [D.beq] at h <;> rfl
  | .bl a, b, h => by cases b <;> simp [D.beq] at h <;> simp [h]
  | .int a, b, h => by cases b <;> simp [D.beq] at h <;> simp [h]
  | .str a, b, h => by cases b <;> simp [D.beq] at h <;> simp [h]
  | .ref a, b, h => by cases b <;> simp [D.beq] at h <;> simp [h]
  | .fn a, b, h => by cases b <;> simp [D.beq] at h <;> simp [h]
  | .tup a, b, h => by
    cases b <;> simp [D.beq] at h
    rw [D.beqs_eq h]
  | .lst a, b, h => by
    cases b <;> simp [D.beq] at h
    rw [D.beqs_eq h]
theorem D.beqs_eq : ∀ {a b : List D}, D.beqs a b = true → a = b
  | [], b, h => by cases b <;> simp [D.beqs] at h <;> rfl
  | x :: a, b, h => by
    cases b with
    | nil => simp [D.beqs] at h
    | cons y b =>
      simp only [D.beqs, Bool.and_eq_true] at h
      rw [D.beq_eq h.1, D.beqs_eq h.2]
end
mutual
theorem D.beq_refl : ∀ a : D, D.beq a a = true
  | .non => rfl
  | .bl a => by simp [D.beq]
  | .int a => by simp [D.beq]
  | .str a => by simp [D.beq]
  | .ref a => by simp [D.beq]
  | .fn a => by simp [D.beq]
  | .tup a => by rw [D.beq]; exact D.beqs_refl a
  | .lst a => by rw [D.beq]; exact D.beqs_refl a
theorem D.beqs_refl : ∀ a : List D, D.beqs a a = true
  | [] => rfl
  | x :: a => by rw [D.beqs, D.beq_refl x, D.beqs_refl a]; rfl
end
instance : DecidableEq D := fun a b => if h : D.beq a b = true then isTrue (D.beq_eq h) else isFalse fun e => h (e ▸ D.beq_refl a)

/-- no reference from n on -/
def D.low (n : Nat) : D → Bool
  | .ref k => decide (k < n)
  | .tup xs => lows n xs
  | .lst xs => lows n xs
  | _ => true
where lows (n : Nat) : List D → Bool
  | [] => true
  | x :: xs => D.low n x && lows n xs

inductive Cell where
  | lst (xs : List D) | ro (xs : List D) | dK (kvs : List (Key × D)) | dT (kvs : List (List Key × D))
  deriving DecidableEq
abbrev Hc := List Cell
def Cell.low (n : Nat) : Cell → Bool
  | .lst xs => D.low.lows n xs
  | .ro xs => D.low.lows n xs
  | .dK kvs => kvs.all fun kv => kv.2.low n
  | .dT kvs => kvs.all fun kv => kv.2.low n

/-- what stands fixed: the written part, where the defs stand, the module's tuples -/
structure RC where
  K : PySem.W.Frag
  fa : Nat → Addr
  gt : List (Addr × D)

/-- a list, a tuple that stands still: apart from the cells and from what is held back -/
def AtL (R : RC) (ρ φ : List Addr) (H : Hp) (a : Addr) (xs : List V) : Prop := H a = some (.lst xs) ∧ a ∉ ρ ∧ a ∉ φ
def AtT (R : RC) (ρ φ : List Addr) (H : Hp) (a : Addr) (xs : List V) : Prop := H a = some (.tup xs) ∧ a ∉ ρ ∧ a ∉ φ

mutual
def RD (R : RC) (ρ φ : List Addr) (H : Hp) : D → V → Prop
  | .non, v => v = .non
  | .bl b, v => v = .bl b
  | .int i, v => v = .int i
  | .str x, v => v = .str x
  | .tup ds, v => ∃ a vs, v = .ref a ∧ AtT R ρ φ H a vs ∧ RDs R ρ φ H ds vs
  | .lst ds, v => ∃ a vs, v = .ref a ∧ AtL R ρ φ H a vs ∧ RDs R ρ φ H ds vs
  | .ref n, v => ∃ a, ρ[n]? = some a ∧ v = .ref a
  | .fn i, v => v = .ref (R.fa i)
def RDs (R : RC) (ρ φ : List Addr) (H : Hp) : List D → List V → Prop
  | [], vs => vs = []
  | d :: ds, vs => ∃ v vs', vs = v :: vs' ∧ RD R ρ φ H d v ∧ RDs R ρ φ H ds vs'
end

structure Ext (ρ ρ' : List Addr) (H H' : Hp) : Prop where
  pre : ∃ t, ρ' = ρ ++ t
  new : ∀ a ∈ ρ', a ∈ ρ ∨ H a = none
  keep : ∀ a o, H a = some o → a ∉ ρ → H' a = some o
  there : ∀ a o, H a = some o → ∃ o', H' a = some o'
theorem Ext.refl {ρ : List Addr} {H : Hp} : Ext ρ ρ H H := ⟨⟨[], by simp⟩, fun _ h => .inl h, fun _ _ h _ => h, fun _ o h => ⟨o, h⟩⟩
theorem Ext.trans {ρ ρ1 ρ2 : List Addr} {H H1 H2 : Hp} (e : Ext ρ ρ1 H H1) (f : Ext ρ1 ρ2 H1 H2) : Ext ρ ρ2 H H2 := by
  obtain ⟨t, rfl⟩ := e.pre
  obtain ⟨u, rfl⟩ := f.pre
  refine ⟨⟨t ++ u, by simp⟩, fun a ha => ?_, fun a o h n => ?_, fun a o h => by obtain ⟨o1, h1⟩ := e.there a o h; exact f.there a o1 h1⟩
  · rcases f.new a ha with h | h
    · exact e.new a h
    · by_cases hr : a ∈ ρ
      · exact .inl hr
      · refine .inr ?_
        cases q : H a with
        | none => rfl
        | some o => rw [e.keep a o q hr] at h; cases h
  · refine f.keep a o (e.keep a o h n) fun hm => ?_
    rcases e.new a hm with q | q
    · exact n q
    · rw [h] at q; cases q
theorem Ext.get {ρ ρ' : List Addr} {H H' : Hp} (e : Ext ρ ρ' H H') {n : Nat} {a : Addr} (h : ρ[n]? = some a) : ρ'[n]? = some a := by
  obtain ⟨t, rfl⟩ := e.pre
  have hn : n < ρ.length := by
    rcases Nat.lt_or_ge n ρ.length with q | q
    · exact q
    · rw [List.getElem?_eq_none q] at h; cases h
  rw [List.getElem?_append_left hn]; exact h
theorem Rd.some_at {H : Hp} {a : Addr} {u : HO} (r : Rd H a u) : ∃ o, H a = some o := by
  rcases r with r | ⟨o, r⟩
  · exact ⟨_, r⟩
  · exact ⟨_, r⟩
theorem Ext.rd {ρ ρ' : List Addr} {H H' : Hp} (e : Ext ρ ρ' H H') {a : Addr} {u : HO} (r : Rd H a u) (n : a ∉ ρ) : Rd H' a u ∧ a ∉ ρ' := by
  refine ⟨?_, fun hm => ?_⟩
  · rcases r with r | ⟨o, r⟩
    · exact .inl (e.keep a _ r n)
    · exact .inr ⟨o, e.keep a _ r n⟩
  · obtain ⟨o, ho⟩ := Rd.some_at r
    rcases e.new a hm with q | q
    · exact n q
    · rw [ho] at q; cases q
theorem AtL.ext {R : RC} {ρ ρ' φ : List Addr} {H H' : Hp} {a : Addr} {xs : List V} (h : AtL R ρ φ H a xs) (e : Ext ρ ρ' H H') : AtL R ρ' φ H' a xs := by
  obtain ⟨r, n, m⟩ := h
  exact ⟨e.keep a _ r n, (e.rd (.inl r) n).2, m⟩
theorem AtT.ext {R : RC} {ρ ρ' φ : List Addr} {H H' : Hp} {a : Addr} {xs : List V} (h : AtT R ρ φ H a xs) (e : Ext ρ ρ' H H') : AtT R ρ' φ H' a xs := by
  obtain ⟨r, n, m⟩ := h
  exact ⟨e.keep a _ r n, (e.rd (.inl r) n).2, m⟩
theorem AtL.sq {R : RC} {ρ φ : List Addr} {H : Hp} {a : Addr} {xs : List V} (h : AtL R ρ φ H a xs) : SqL R.K H a xs := SqL.of h.1
theorem AtT.sq {R : RC} {ρ φ : List Addr} {H : Hp} {a : Addr} {xs : List V} (h : AtT R ρ φ H a xs) : SqT R.K H a xs := SqT.of h.1
mutual
theorem RD.ext {R : RC} {ρ ρ' φ : List Addr} {H H' : Hp} (e : Ext ρ ρ' H H') : ∀ {d : D} {v : V}, RD R ρ φ H d v → RD R ρ' φ H' d v
  | .non, _, h => h
  | .bl _, _, h => h
  | .int _, _, h => h
  | .str _, _, h => h
  | .fn _, _, h => h
  | .ref n, v, h => by
    obtain ⟨a, h1, h2⟩ := (by simpa only [RD] using h : ∃ a, ρ[n]? = some a ∧ v = .ref a)
    simp only [RD]
    exact ⟨a, e.get h1, h2⟩
  | .tup ds, v, h => by
    simp only [RD] at h ⊢
    obtain ⟨a, vs, h1, h2, h3⟩ := h
    exact ⟨a, vs, h1, h2.ext e, RDs.ext e h3⟩
  | .lst ds, v, h => by
    simp only [RD] at h ⊢
    obtain ⟨a, vs, h1, h2, h3⟩ := h
    exact ⟨a, vs, h1, h2.ext e, RDs.ext e h3⟩
theorem RDs.ext {R : RC} {ρ ρ' φ : List Addr} {H H' : Hp} (e : Ext ρ ρ' H H') : ∀ {ds : List D} {vs : List V}, RDs R ρ φ H ds vs → RDs R ρ' φ H' ds vs
  | [], _, h => h
  | d :: ds, vs, h => by
    simp only [RDs] at h ⊢
    obtain ⟨v, vs', h1, h2, h3⟩ := h
    exact ⟨v, vs', h1, RD.ext e h2, RDs.ext e h3⟩
end
end Cl

namespace Cl
open PySem PySem.Spec PyProof.Rows L2

section
variable {R : RC} {ρ φ : List Addr} {H : Hp}
theorem AtL.weak {φ' : List Addr} (w : ∀ a ∈ φ', a ∈ φ) {a : Addr} {xs : List V} (h : AtL R ρ φ H a xs) : AtL R ρ φ' H a xs := by
  obtain ⟨r, n, m⟩ := h
  exact ⟨r, n, fun q => m (w a q)⟩
theorem AtT.weak {φ' : List Addr} (w : ∀ a ∈ φ', a ∈ φ) {a : Addr} {xs : List V} (h : AtT R ρ φ H a xs) : AtT R ρ φ' H a xs := by
  obtain ⟨r, n, m⟩ := h
  exact ⟨r, n, fun q => m (w a q)⟩
/-- a change of the places where RD looks that keeps lists, tuples, references -/
structure Mv (R : RC) (ρ φ : List Addr) (H : Hp) (ρ' φ' : List Addr) (H' : Hp) (ok : D → Bool) : Prop where
  l : ∀ a xs, AtL R ρ φ H a xs → AtL R ρ' φ' H' a xs
  t : ∀ a xs, AtT R ρ φ H a xs → AtT R ρ' φ' H' a xs
  r : ∀ n a, ok (.ref n) = true → ρ[n]? = some a → ρ'[n]? = some a
mutual
theorem RD.mv {ρ' φ' : List Addr} {H' : Hp} {k : Nat} (m : Mv R ρ φ H ρ' φ' H' (D.low k)) : ∀ {d : D} {v : V}, d.low k = true → RD R ρ φ H d v → RD R ρ' φ' H' d v
  | .non, _, _, h => h
  | .bl _, _, _, h => h
  | .int _, _, _, h => h
  | .str _, _, _, h => h
  | .fn _, _, _, h => h
  | .ref n, v, hl, h => by
    simp only [RD] at h ⊢
    obtain ⟨a, h1, h2⟩ := h
    exact ⟨a, m.r n a hl h1, h2⟩
  | .tup ds, v, hl, h => by
    simp only [RD] at h ⊢
    simp only [D.low] at hl
    obtain ⟨a, vs, h1, h2, h3⟩ := h
    exact ⟨a, vs, h1, m.t a vs h2, RDs.mv m hl h3⟩
  | .lst ds, v, hl, h => by
    simp only [RD] at h ⊢
    simp only [D.low] at hl
    obtain ⟨a, vs, h1, h2, h3⟩ := h
    exact ⟨a, vs, h1, m.l a vs h2, RDs.mv m hl h3⟩
theorem RDs.mv {ρ' φ' : List Addr} {H' : Hp} {k : Nat} (m : Mv R ρ φ H ρ' φ' H' (D.low k)) : ∀ {ds : List D} {vs : List V}, D.low.lows k ds = true → RDs R ρ φ H ds vs → RDs R ρ' φ' H' ds vs
  | [], _, _, h => h
  | d :: ds, vs, hl, h => by
    simp only [RDs] at h ⊢
    simp only [D.low.lows, Bool.and_eq_true] at hl
    obtain ⟨v, vs', h1, h2, h3⟩ := h
    exact ⟨v, vs', h1, RD.mv m hl.1 h2, RDs.mv m hl.2 h3⟩
end
mutual
theorem RD.low : ∀ {d : D} {v : V}, RD R ρ φ H d v → d.low ρ.length = true
  | .non, _, _ => rfl
  | .bl _, _, _ => rfl
  | .int _, _, _ => rfl
  | .str _, _, _ => rfl
  | .fn _, _, _ => rfl
  | .ref n, v, h => by
    simp only [RD] at h
    obtain ⟨a, h1, h2⟩ := h
    simp only [D.low, decide_eq_true_eq]
    rcases Nat.lt_or_ge n ρ.length with q | q
    · exact q
    · rw [List.getElem?_eq_none q] at h1; cases h1
  | .tup ds, v, h => by
    simp only [RD] at h
    obtain ⟨a, vs, h1, h2, h3⟩ := h
    simp only [D.low]
    exact RDs.low h3
  | .lst ds, v, h => by
    simp only [RD] at h
    obtain ⟨a, vs, h1, h2, h3⟩ := h
    simp only [D.low]
    exact RDs.low h3
theorem RDs.low : ∀ {ds : List D} {vs : List V}, RDs R ρ φ H ds vs → D.low.lows ρ.length ds = true
  | [], _, _ => rfl
  | d :: ds, vs, h => by
    simp only [RDs] at h
    obtain ⟨v, vs', h1, h2, h3⟩ := h
    simp only [D.low.lows, Bool.and_eq_true]
    exact ⟨RD.low h2, RDs.low h3⟩
end
mutual
theorem D.low_mono {n m : Nat} (hnm : n ≤ m) : ∀ {d : D}, d.low n = true → d.low m = true
  | .non, _ => rfl
  | .bl _, _ => rfl
  | .int _, _ => rfl
  | .str _, _ => rfl
  | .fn _, _ => rfl
  | .ref k, h => by simp only [D.low, decide_eq_true_eq] at h ⊢; omega
  | .tup ds, h => by simp only [D.low] at h ⊢; exact D.lows_mono hnm h
  | .lst ds, h => by simp only [D.low] at h ⊢; exact D.lows_mono hnm h
theorem D.lows_mono {n m : Nat} (hnm : n ≤ m) : ∀ {ds : List D}, D.low.lows n ds = true → D.low.lows m ds = true
  | [], _ => rfl
  | d :: ds, h => by
    simp only [D.low.lows, Bool.and_eq_true] at h ⊢
    exact ⟨D.low_mono hnm h.1, D.lows_mono hnm h.2⟩
end
theorem Mv.weak {φ' : List Addr} (w : ∀ a ∈ φ', a ∈ φ) (ok : D → Bool) : Mv R ρ φ H ρ φ' H ok := ⟨fun _ _ h => h.weak w, fun _ _ h => h.weak w, fun _ _ _ h => h⟩
theorem RD.weak {φ' : List Addr} (w : ∀ a ∈ φ', a ∈ φ) {d : D} {v : V} (h : RD R ρ φ H d v) : RD R ρ φ' H d v := RD.mv (Mv.weak w _) h.low h
theorem RDs.weak {φ' : List Addr} (w : ∀ a ∈ φ', a ∈ φ) {ds : List D} {vs : List V} (h : RDs R ρ φ H ds vs) : RDs R ρ φ' H ds vs := RDs.mv (Mv.weak w _) h.low h
theorem Rd.upd {p : Addr} {o : HO} (hp : H p = none) {a : Addr} {u : HO} (h : Rd H a u) : a ≠ p ∧ Rd (upd H p o) a u := by
  have ne : a ≠ p := by
    obtain ⟨q, hq⟩ := Rd.some_at h
    rintro rfl
    rw [hp] at hq; cases hq
  exact ⟨ne, h.imp (fun q => by rw [upd_ne ne]; exact q) fun ⟨o, q⟩ => ⟨o, by rw [upd_ne ne]; exact q⟩⟩
theorem Mv.fresh {p : Addr} {o : HO} (hp : H p = none) (ok : D → Bool) : Mv R ρ φ H ρ (p :: φ) (upd H p o) ok := by
  refine ⟨fun a xs h => ?_, fun a xs h => ?_, fun _ _ _ h => h⟩
  · obtain ⟨r, n, m⟩ := h
    have ne : a ≠ p := ne_of_none r hp
    exact ⟨by rw [upd_ne ne]; exact r, n, by simp [ne, m]⟩
  · obtain ⟨r, n, m⟩ := h
    have ne : a ≠ p := ne_of_none r hp
    exact ⟨by rw [upd_ne ne]; exact r, n, by simp [ne, m]⟩
theorem RD.fresh {p : Addr} {o : HO} (hp : H p = none) {d : D} {v : V} (h : RD R ρ φ H d v) : RD R ρ (p :: φ) (upd H p o) d v := RD.mv (Mv.fresh hp _) h.low h
theorem RDs.fresh {p : Addr} {o : HO} (hp : H p = none) {ds : List D} {vs : List V} (h : RDs R ρ φ H ds vs) : RDs R ρ (p :: φ) (upd H p o) ds vs := RDs.mv (Mv.fresh hp _) h.low h
/-- p leaves the held back ones and becomes a cell -/
theorem Mv.cell {p : Addr} (ok : D → Bool) : Mv R ρ (p :: φ) H (ρ ++ [p]) φ H ok := by
  refine ⟨fun a xs h => ?_, fun a xs h => ?_, fun n a _ h => ?_⟩
  · obtain ⟨r, n, m⟩ := h
    simp only [List.mem_cons, not_or] at m
    exact ⟨r, by simp [n, m.1], m.2⟩
  · obtain ⟨r, n, m⟩ := h
    simp only [List.mem_cons, not_or] at m
    exact ⟨r, by simp [n, m.1], m.2⟩
  · have hn : n < ρ.length := by
      rcases Nat.lt_or_ge n ρ.length with q | q
      · exact q
      · rw [List.getElem?_eq_none q] at h; cases h
    rw [List.getElem?_append_left hn]; exact h
theorem RDs.len : ∀ {ds : List D} {vs : List V}, RDs R ρ φ H ds vs → ds.length = vs.length
  | [], _, h => by simp only [RDs] at h; subst h; rfl
  | d :: ds, vs, h => by
    simp only [RDs] at h
    obtain ⟨v, vs', rfl, h2, h3⟩ := h
    simp [RDs.len h3]
theorem RDs.get : ∀ {ds : List D} {vs : List V} {i : Nat} {d : D}, RDs R ρ φ H ds vs → ds[i]? = some d → ∃ v, vs[i]? = some v ∧ RD R ρ φ H d v
  | [], _, _, _, _, e => by simp at e
  | x :: ds, vs, 0, d, h, e => by
    simp only [RDs] at h
    obtain ⟨v, vs', rfl, h2, h3⟩ := h
    simp at e; subst e
    exact ⟨v, rfl, h2⟩
  | x :: ds, vs, i + 1, d, h, e => by
    simp only [RDs] at h
    obtain ⟨v, vs', rfl, h2, h3⟩ := h
    obtain ⟨w, h1, h4⟩ := RDs.get (i := i) (d := d) h3 (by simpa using e)
    exact ⟨w, by simpa using h1, h4⟩
theorem RDs.get' : ∀ {ds : List D} {vs : List V} {i : Nat} {v : V}, RDs R ρ φ H ds vs → vs[i]? = some v → ∃ d, ds[i]? = some d ∧ RD R ρ φ H d v := fun {ds vs i v} h e => by
  have hl := h.len
  cases q : ds[i]? with
  | none =>
    have := List.getElem?_eq_none_iff.mp q
    rw [List.getElem?_eq_none (by omega)] at e; cases e
  | some d =>
    obtain ⟨w, h1, h2⟩ := h.get q
    rw [e] at h1; cases h1
    exact ⟨d, rfl, h2⟩
theorem RDs.append : ∀ {ds es : List D} {vs ws : List V}, RDs R ρ φ H ds vs → RDs R ρ φ H es ws → RDs R ρ φ H (ds ++ es) (vs ++ ws)
  | [], _, _, _, h, g => by simp only [RDs] at h; subst h; exact g
  | d :: ds, es, vs, ws, h, g => by
    simp only [RDs] at h
    obtain ⟨v, vs', rfl, h2, h3⟩ := h
    simp only [List.cons_append, RDs]
    exact ⟨v, vs' ++ ws, rfl, h2, h3.append g⟩
theorem RDs.one {d : D} {v : V} (h : RD R ρ φ H d v) : RDs R ρ φ H [d] [v] := by simp only [RDs]; exact ⟨v, [], rfl, h, rfl⟩
theorem RDs.cons {d : D} {v : V} {ds : List D} {vs : List V} (h : RD R ρ φ H d v) (g : RDs R ρ φ H ds vs) : RDs R ρ φ H (d :: ds) (v :: vs) := by simp only [RDs]; exact ⟨v, vs, rfl, h, g⟩
theorem RDs.take : ∀ {ds : List D} {vs : List V} (n : Nat), RDs R ρ φ H ds vs → RDs R ρ φ H (ds.take n) (vs.take n)
  | _, _, 0, _ => by simp [RDs]
  | [], _, n + 1, h => by simp only [RDs] at h; subst h; simp [RDs]
  | d :: ds, vs, n + 1, h => by
    simp only [RDs] at h
    obtain ⟨v, vs', rfl, h2, h3⟩ := h
    simp only [List.take_succ_cons]
    exact RDs.cons h2 (RDs.take n h3)
theorem RDs.drop : ∀ {ds : List D} {vs : List V} (n : Nat), RDs R ρ φ H ds vs → RDs R ρ φ H (ds.drop n) (vs.drop n)
  | _, _, 0, h => h
  | [], _, n + 1, h => by simp only [RDs] at h; subst h; simp [RDs]
  | d :: ds, vs, n + 1, h => by
    simp only [RDs] at h
    obtain ⟨v, vs', rfl, h2, h3⟩ := h
    simp only [List.drop_succ_cons]
    exact RDs.drop n h3
theorem RDs.set {x : D} {u : V} (r : RD R ρ φ H x u) : ∀ {ds : List D} {vs : List V} (i : Nat), RDs R ρ φ H ds vs → RDs R ρ φ H (ds.set i x) (vs.set i u)
  | [], _, _, h => by simp only [RDs] at h; subst h; simp [RDs]
  | d :: ds, vs, 0, h => by
    simp only [RDs] at h
    obtain ⟨v, vs', rfl, h2, h3⟩ := h
    exact RDs.cons r h3
  | d :: ds, vs, i + 1, h => by
    simp only [RDs] at h
    obtain ⟨v, vs', rfl, h2, h3⟩ := h
    exact RDs.cons h2 (RDs.set r i h3)
theorem RDs.eraseIdx : ∀ {ds : List D} {vs : List V} (i : Nat), RDs R ρ φ H ds vs → RDs R ρ φ H (ds.eraseIdx i) (vs.eraseIdx i)
  | [], _, _, h => by simp only [RDs] at h; subst h; simp [RDs]
  | d :: ds, vs, 0, h => by
    simp only [RDs] at h
    obtain ⟨v, vs', rfl, h2, h3⟩ := h
    exact h3
  | d :: ds, vs, i + 1, h => by
    simp only [RDs] at h
    obtain ⟨v, vs', rfl, h2, h3⟩ := h
    exact RDs.cons h2 (RDs.eraseIdx i h3)
theorem RDs.reverse : ∀ {ds : List D} {vs : List V}, RDs R ρ φ H ds vs → RDs R ρ φ H ds.reverse vs.reverse
  | [], _, h => by simp only [RDs] at h; subst h; simp [RDs]
  | d :: ds, vs, h => by
    simp only [RDs] at h
    obtain ⟨v, vs', rfl, h2, h3⟩ := h
    simp only [List.reverse_cons]
    exact (RDs.reverse h3).append (RDs.one h2)
theorem RDs.rep {ds : List D} {vs : List V} (h : RDs R ρ φ H ds vs) : ∀ n : Nat, RDs R ρ φ H (List.replicate n ds).flatten (List.replicate n vs).flatten
  | 0 => by simp [RDs]
  | n + 1 => by
    simp only [List.replicate_succ, List.flatten_cons]
    exact h.append (RDs.rep h n)
theorem RDs.all : ∀ {ds : List D} {vs : List V}, RDs R ρ φ H ds vs → ∀ v ∈ vs, ∃ d ∈ ds, RD R ρ φ H d v
  | [], _, h, v, hv => by simp only [RDs] at h; subst h; simp at hv
  | d :: ds, vs, h, v, hv => by
    simp only [RDs] at h
    obtain ⟨w, vs', rfl, h2, h3⟩ := h
    rcases List.mem_cons.mp hv with rfl | hv
    · exact ⟨d, by simp, h2⟩
    · obtain ⟨d', h4, h5⟩ := RDs.all h3 v hv
      exact ⟨d', by simp [h4], h5⟩
end

/-! ## the clean heap -/
def KRD (R : RC) (ρ φ : List Addr) (H : Hp) {κ : Type} (kvs : List (κ × D)) (kws : List (κ × V)) : Prop := kvs.map (·.1) = kws.map (·.1) ∧ RDs R ρ φ H (kvs.map (·.2)) (kws.map (·.2))
def RCell (R : RC) (ρ φ : List Addr) (H : Hp) (a : Addr) : Cell → Prop
  | .lst xs => ∃ vs, H a = some (.lst vs) ∧ RDs R ρ φ H xs vs
  | .ro xs => ∃ o vs, H a = some (.frz o (.lst vs)) ∧ RDs R ρ φ H xs vs
  | .dK kvs => ∃ kws, H a = some (.dK kws) ∧ KRD R ρ φ H kvs kws
  | .dT kvs => ∃ kws, H a = some (.dT kws) ∧ KRD R ρ φ H kvs kws
structure RelH (R : RC) (ρ φ : List Addr) (H : Hp) (h : Hc) : Prop where
  len : ρ.length = h.length
  nd : ρ.Nodup
  cells : ∀ (n : Nat) (a : Addr) (c : Cell), ρ[n]? = some a → h[n]? = some c → RCell R ρ φ H a c
  phi : ∀ a ∈ φ, (∃ o, H a = some o) ∧ a ∉ ρ
  gt : ∀ p ∈ R.gt, p.2.low 0 = true ∧ RD R ρ φ H p.2 (.ref p.1)
section
variable {R : RC} {ρ φ : List Addr} {H : Hp} {h : Hc}
theorem get_lt {α : Type} {l : List α} {n : Nat} {a : α} (e : l[n]? = some a) : n < l.length := by
  rcases Nat.lt_or_ge n l.length with q | q
  · exact q
  · rw [List.getElem?_eq_none q] at e; cases e
theorem nd_ix {α : Type} : ∀ {l : List α}, l.Nodup → ∀ {i j : Nat} {a : α}, l[i]? = some a → l[j]? = some a → i = j
  | [], _, _, _, _, e, _ => by simp at e
  | x :: l, hn, 0, 0, a, e, f => rfl
  | x :: l, hn, 0, j + 1, a, e, f => by
    simp at e f; subst e
    exact absurd (List.mem_of_getElem? f) (List.nodup_cons.mp hn).1
  | x :: l, hn, i + 1, 0, a, e, f => by
    simp at e f; subst f
    exact absurd (List.mem_of_getElem? e) (List.nodup_cons.mp hn).1
  | x :: l, hn, i + 1, j + 1, a, e, f => by
    simp at e f
    rw [nd_ix (List.nodup_cons.mp hn).2 e f]
theorem RelH.at (r : RelH R ρ φ H h) {n : Nat} {c : Cell} (e : h[n]? = some c) : ∃ a, ρ[n]? = some a ∧ RCell R ρ φ H a c := by
  have := get_lt e
  have hl := r.len
  obtain ⟨a, ha⟩ : ∃ a, ρ[n]? = some a := ⟨_, List.getElem?_eq_getElem (by omega)⟩
  exact ⟨a, ha, r.cells n a c ha e⟩
theorem RCell.some_at {a : Addr} {c : Cell} (r : RCell R ρ φ H a c) : ∃ o, H a = some o := by
  cases c with
  | lst xs => obtain ⟨vs, e, _⟩ := r; exact ⟨_, e⟩
  | ro xs => obtain ⟨o, vs, e, _⟩ := r; exact ⟨_, e⟩
  | dK kvs => obtain ⟨vs, e, _⟩ := r; exact ⟨_, e⟩
  | dT kvs => obtain ⟨vs, e, _⟩ := r; exact ⟨_, e⟩
theorem RelH.some_at (r : RelH R ρ φ H h) {a : Addr} (ha : a ∈ ρ) : ∃ o, H a = some o := by
  obtain ⟨n, hn, e⟩ := List.getElem_of_mem ha
  have hl := r.len
  have := r.cells n a (h[n]'(by omega)) (by rw [List.getElem?_eq_getElem hn, e]) (List.getElem?_eq_getElem (by omega))
  exact this.some_at
/-- a cell seen from other places, its own object as it was -/
theorem RCell.mv {ρ' φ' : List Addr} {H' : Hp} {k : Nat} (m : Mv R ρ φ H ρ' φ' H' (D.low k)) {a : Addr} {c : Cell} (hc : c.low k = true) (ha : H' a = H a) (r : RCell R ρ φ H a c) : RCell R ρ' φ' H' a c := by
  have kv : ∀ {κ : Type} (kvs : List (κ × D)), (kvs.all fun kv => kv.2.low k) = true → D.low.lows k (kvs.map (·.2)) = true := fun kvs => by
    induction kvs with
    | nil => intro _; rfl
    | cons x xs ih =>
      intro q
      rw [List.all_cons, Bool.and_eq_true] at q
      rw [List.map_cons, D.low.lows, Bool.and_eq_true]
      exact ⟨q.1, ih q.2⟩
  cases c with
  | lst xs => obtain ⟨vs, e, d⟩ := r; exact ⟨vs, by rw [ha]; exact e, d.mv m hc⟩
  | ro xs => obtain ⟨o, vs, e, d⟩ := r; exact ⟨o, vs, by rw [ha]; exact e, d.mv m hc⟩
  | dK kvs => obtain ⟨vs, e, d1, d2⟩ := r; exact ⟨vs, by rw [ha]; exact e, d1, d2.mv m (kv kvs hc)⟩
  | dT kvs => obtain ⟨vs, e, d1, d2⟩ := r; exact ⟨vs, by rw [ha]; exact e, d1, d2.mv m (kv kvs hc)⟩
theorem RCell.low {a : Addr} {c : Cell} (r : RCell R ρ φ H a c) : c.low ρ.length = true := by
  have kv : ∀ {κ : Type} (kvs : List (κ × D)), D.low.lows ρ.length (kvs.map (·.2)) = true → (kvs.all fun kv => kv.2.low ρ.length) = true := fun kvs => by
    induction kvs with
    | nil => intro _; rfl
    | cons x xs ih =>
      intro q
      rw [List.map_cons, D.low.lows, Bool.and_eq_true] at q
      rw [List.all_cons, Bool.and_eq_true]
      exact ⟨q.1, ih q.2⟩
  cases c with
  | lst xs => obtain ⟨vs, e, d⟩ := r; exact d.low
  | ro xs => obtain ⟨o, vs, e, d⟩ := r; exact d.low
  | dK kvs => obtain ⟨vs, e, d1, d2⟩ := r; exact kv kvs d2.low
  | dT kvs => obtain ⟨vs, e, d1, d2⟩ := r; exact kv kvs d2.low
/-- a new object, held back -/
theorem RelH.fresh (r : RelH R ρ φ H h) {p : Addr} {o : HO} (hp : H p = none) : RelH R ρ (p :: φ) (upd H p o) h := by
  have pn : p ∉ ρ := fun q => by obtain ⟨u, e⟩ := r.some_at q; rw [hp] at e; cases e
  refine ⟨r.len, r.nd, fun n a c ea ec => ?_, fun a ha => ?_, fun q hq => ⟨(r.gt q hq).1, (r.gt q hq).2.fresh hp⟩⟩
  · have ne : a ≠ p := fun z => pn (z ▸ List.mem_of_getElem? ea)
    have rc := r.cells n a c ea ec
    exact rc.mv (Mv.fresh hp _) rc.low (upd_ne ne)
  · rcases List.mem_cons.mp ha with rfl | ha
    · exact ⟨⟨o, upd_same⟩, pn⟩
    · obtain ⟨⟨u, e⟩, n⟩ := r.phi a ha
      refine ⟨⟨u, ?_⟩, n⟩
      rw [upd_ne (ne_of_none e hp)]; exact e
theorem RelH.weak (r : RelH R ρ φ H h) {φ' : List Addr} (w : ∀ a ∈ φ', a ∈ φ) : RelH R ρ φ' H h :=
  ⟨r.len, r.nd, fun n a c ea ec => (r.cells n a c ea ec).mv (Mv.weak w _) (r.cells n a c ea ec).low rfl, fun a ha => r.phi a (w a ha), fun p hp => ⟨(r.gt p hp).1, (r.gt p hp).2.weak w⟩⟩
theorem Ext.fresh {p : Addr} {o : HO} (hp : H p = none) : Ext ρ ρ H (upd H p o) :=
  ⟨⟨[], by simp⟩, fun _ q => .inl q, fun a u e _ => by rw [upd_ne (ne_of_none e hp)]; exact e, fun a u e => ⟨u, by rw [upd_ne (ne_of_none e hp)]; exact e⟩⟩
/-- a held back list becomes a cell -/
theorem RelH.cell {p : Addr} {c : Cell} (r : RelH R ρ (p :: φ) H h) (np : p ∉ φ) (hc : RCell R ρ (p :: φ) H p c) : RelH R (ρ ++ [p]) φ H (h ++ [c]) := by
  have hl := r.len
  have pn : p ∉ ρ := (r.phi p (by simp)).2
  refine ⟨by simp [hl], ?_, fun n a c' ea ec => ?_, fun a ha => ?_, fun q hq => ⟨(r.gt q hq).1, RD.mv (Mv.cell _) (r.gt q hq).2.low (r.gt q hq).2⟩⟩
  · rw [List.nodup_append]
    refine ⟨r.nd, by simp, fun x hx y hy => ?_⟩
    rcases List.mem_singleton.mp hy with rfl
    exact fun z => pn (z ▸ hx)
  · rcases Nat.lt_or_ge n ρ.length with q | q
    · rw [List.getElem?_append_left q] at ea
      rw [List.getElem?_append_left (by omega)] at ec
      have rc := r.cells n a c' ea ec
      exact rc.mv (Mv.cell _) rc.low rfl
    · have hn : n = ρ.length := by
        have := get_lt ea
        simp at this; omega
      subst hn
      rw [List.getElem?_append_right (by omega)] at ea
      rw [List.getElem?_append_right (by omega)] at ec
      simp [hl] at ea ec
      subst ea ec
      exact hc.mv (Mv.cell _) hc.low rfl
  · obtain ⟨x, n⟩ := r.phi a (by simp [ha])
    refine ⟨x, ?_⟩
    have : a ≠ p := fun z => np (z ▸ ha)
    simp [n, this]
theorem RelH.free (r : RelH R ρ φ H h) {p : Addr} (hp : H p = none) : p ∉ φ := fun q => by
  obtain ⟨⟨u, e⟩, _⟩ := r.phi p q
  rw [hp] at e; cases e
theorem Ext.cell {p : Addr} {H0 : Hp} {ρ0 : List Addr} (e : Ext ρ0 ρ H0 H) (hp : H0 p = none) : Ext ρ0 (ρ ++ [p]) H0 H := by
  obtain ⟨t, rfl⟩ := e.pre
  refine ⟨⟨t ++ [p], by simp⟩, fun a ha => ?_, e.keep, e.there⟩
  rcases List.mem_append.mp ha with q | q
  · exact e.new a q
  · rcases List.mem_singleton.mp q with rfl
    exact .inr hp
/-- a cell is written -/
theorem Ext.write {a : Addr} {o : HO} (ha : a ∈ ρ) : Ext ρ ρ H (upd H a o) :=
  ⟨⟨[], by simp⟩, fun _ q => .inl q, fun b u e n => by
    have ne : b ≠ a := fun z => n (z ▸ ha)
    rw [upd_ne ne]; exact e, fun b u e => by
    by_cases hb : b = a
    · subst hb; exact ⟨o, upd_same⟩
    · exact ⟨u, by rw [upd_ne hb]; exact e⟩⟩
theorem Mv.write {a : Addr} {o : HO} (ha : a ∈ ρ) (ok : D → Bool) : Mv R ρ φ H ρ φ (upd H a o) ok :=
  ⟨fun _ _ q => q.ext (Ext.write ha), fun _ _ q => q.ext (Ext.write ha), fun _ _ _ q => q⟩
theorem RelH.write (r : RelH R ρ φ H h) {n : Nat} {a : Addr} {o : HO} {c : Cell} (hn : ρ[n]? = some a) (hc : RCell R ρ φ (upd H a o) a c) : RelH R ρ φ (upd H a o) (h.set n c) := by
  have hm : a ∈ ρ := List.mem_of_getElem? hn
  refine ⟨by simp [r.len], r.nd, fun m b d eb ed => ?_, fun b hb => ?_, fun q hq => ⟨(r.gt q hq).1, (r.gt q hq).2.ext (Ext.write hm)⟩⟩
  · by_cases hmn : m = n
    · subst hmn
      rw [hn] at eb; cases eb
      rw [List.getElem?_set_self (by have := get_lt hn; have := r.len; omega)] at ed
      cases ed
      exact hc
    · rw [List.getElem?_set_ne (Ne.symm hmn)] at ed
      have ne : b ≠ a := fun z => by
        subst z
        exact hmn (nd_ix r.nd eb hn)
      have rc := r.cells m b d eb ed
      exact rc.mv (Mv.write hm _) rc.low (upd_ne ne)
  · obtain ⟨⟨u, e⟩, n'⟩ := r.phi b hb
    have ne : b ≠ a := fun z => n' (z ▸ hm)
    exact ⟨⟨u, by rw [upd_ne ne]; exact e⟩, n'⟩
/-- the cells from k on are forgotten -/
theorem Mv.cut {t : List Addr} : Mv R (ρ ++ t) φ H ρ φ H (D.low ρ.length) := by
  refine ⟨fun a xs q => ?_, fun a xs q => ?_, fun n a ok q => ?_⟩
  · obtain ⟨r, n, m⟩ := q
    exact ⟨r, fun z => n (by simp [z]), m⟩
  · obtain ⟨r, n, m⟩ := q
    exact ⟨r, fun z => n (by simp [z]), m⟩
  · simp only [D.low, decide_eq_true_eq] at ok
    rw [List.getElem?_append_left ok] at q; exact q
theorem RelH.cut {t : List Addr} (r : RelH R (ρ ++ t) φ H h) (ok : ∀ c ∈ h.take ρ.length, c.low ρ.length = true) : RelH R ρ φ H (h.take ρ.length) := by
  have hl := r.len
  simp at hl
  refine ⟨by simp; omega, (List.nodup_append.mp r.nd).1, fun n a c ea ec => ?_, fun a ha => ?_, fun q hq => ⟨(r.gt q hq).1, RD.mv Mv.cut (D.low_mono (Nat.zero_le _) (r.gt q hq).1) (r.gt q hq).2⟩⟩
  · have hn := get_lt ea
    rw [List.getElem?_take] at ec
    rw [if_pos hn] at ec
    have rc := r.cells n a c (by rw [List.getElem?_append_left hn]; exact ea) ec
    refine rc.mv Mv.cut (ok c ?_) rfl
    rw [List.mem_iff_getElem?]
    exact ⟨n, by rw [List.getElem?_take, if_pos hn]; exact ec⟩
  · obtain ⟨x, n⟩ := r.phi a ha
    exact ⟨x, fun z => n (by simp [z])⟩
theorem Ext.cut {ρ' : List Addr} {H' : Hp} (e : Ext ρ ρ' H H') : Ext ρ ρ H H' := ⟨⟨[], by simp⟩, fun _ q => .inl q, e.keep, e.there⟩
end

theorem Ext.none {ρ ρ' : List Addr} {H H' : Hp} (e : Ext ρ ρ' H H') {p : Addr} (h : H' p = none) : H p = none := by
  cases q : H p with
  | none => rfl
  | some o =>
    obtain ⟨o', h'⟩ := e.there p o q
    rw [h] at h'; cases h'
/-- the states that come after one -/
structure Later (ρ φ : List Addr) (H : Hp) (ρ' φ' : List Addr) (H' : Hp) : Prop where
  ext : Ext ρ ρ' H H'
  phi : ∀ a ∈ φ', a ∈ φ ∨ H a = none
theorem Later.of {ρ φ ρ' : List Addr} {H H' : Hp} (e : Ext ρ ρ' H H') : Later ρ φ H ρ' φ H' := ⟨e, fun _ h => .inl h⟩
theorem Later.trans {ρ φ ρ1 φ1 ρ2 φ2 : List Addr} {H H1 H2 : Hp} (a : Later ρ φ H ρ1 φ1 H1) (b : Later ρ1 φ1 H1 ρ2 φ2 H2) : Later ρ φ H ρ2 φ2 H2 :=
  ⟨a.ext.trans b.ext, fun c hc => (b.phi c hc).elim (a.phi c) fun h => .inr (a.ext.none h)⟩
theorem Later.fresh {ρ φ : List Addr} {H : Hp} {p : Addr} {o : HO} (hp : H p = none) : Later ρ φ H ρ (p :: φ) (upd H p o) :=
  ⟨Ext.fresh hp, fun a ha => by rcases List.mem_cons.mp ha with rfl | h; exact .inr hp; exact .inl h⟩
theorem Later.mv {R : RC} {ρ φ ρ' φ' : List Addr} {H H' : Hp} (l : Later ρ φ H ρ' φ' H') (ok : D → Bool) : Mv R ρ φ H ρ' φ' H' ok := by
  have at_ : ∀ a o, H a = some o → a ∉ ρ → a ∉ φ → H' a = some o ∧ a ∉ ρ' ∧ a ∉ φ' := fun a o h n m => by
    refine ⟨l.ext.keep a o h n, fun z => ?_, fun z => ?_⟩
    · rcases l.ext.new a z with q | q
      · exact n q
      · rw [h] at q; cases q
    · rcases l.phi a z with q | q
      · exact m q
      · rw [h] at q; cases q
  exact ⟨fun a xs ⟨h, n, m⟩ => at_ a _ h n m, fun a xs ⟨h, n, m⟩ => at_ a _ h n m, fun n a _ h => l.ext.get h⟩
theorem RD.later {R : RC} {ρ φ ρ' φ' : List Addr} {H H' : Hp} {d : D} {v : V} (h : RD R ρ φ H d v) (l : Later ρ φ H ρ' φ' H') : RD R ρ' φ' H' d v := RD.mv (l.mv _) h.low h
theorem RDs.later {R : RC} {ρ φ ρ' φ' : List Addr} {H H' : Hp} {ds : List D} {vs : List V} (h : RDs R ρ φ H ds vs) (l : Later ρ φ H ρ' φ' H') : RDs R ρ' φ' H' ds vs := RDs.mv (l.mv _) h.low h

/-! ## slots -/
abbrev CSt := List (Option D)
structure RelS (R : RC) (ρ φ : List Addr) (H : Hp) (c : CSt) (σ : L2.St) : Prop where
  len : c.length = σ.length
  at_ : ∀ (i : Nat) (d : D), c[i]? = some (some d) → ∃ v, σ[i]? = some (some v) ∧ RD R ρ φ H d v
section
variable {R : RC} {ρ φ : List Addr} {H : Hp} {c : CSt} {σ : L2.St}
theorem RelS.ext {ρ' : List Addr} {H' : Hp} (r : RelS R ρ φ H c σ) (e : Ext ρ ρ' H H') : RelS R ρ' φ H' c σ :=
  ⟨r.len, fun i d q => by obtain ⟨v, h1, h2⟩ := r.at_ i d q; exact ⟨v, h1, h2.ext e⟩⟩
theorem RelS.set (r : RelS R ρ φ H c σ) {d : D} {v : V} (i : Nat) (h : RD R ρ φ H d v) : RelS R ρ φ H (c.set i (some d)) (σ.set i (some v)) := by
  refine ⟨by simp [r.len], fun j e q => ?_⟩
  by_cases hj : j = i
  · subst hj
    have hlt := get_lt q
    simp at hlt
    rw [List.getElem?_set_self hlt] at q
    cases q
    exact ⟨v, by rw [List.getElem?_set_self (by have := r.len; omega)], h⟩
  · rw [List.getElem?_set_ne (Ne.symm hj)] at q
    rw [List.getElem?_set_ne (Ne.symm hj)]
    exact r.at_ j e q
theorem RelS.unset (r : RelS R ρ φ H c σ) (i : Nat) : RelS R ρ φ H (c.set i none) σ := by
  refine ⟨by simp [r.len], fun j e q => ?_⟩
  by_cases hj : j = i
  · subst hj
    have hlt := get_lt q
    simp at hlt
    rw [List.getElem?_set_self hlt] at q
    cases q
  · rw [List.getElem?_set_ne (Ne.symm hj)] at q
    exact r.at_ j e q
theorem RelS.fresh {p : Addr} {o : HO} (r : RelS R ρ φ H c σ) (hp : H p = none) : RelS R ρ (p :: φ) (upd H p o) c σ :=
  ⟨r.len, fun i d q => by obtain ⟨v, h1, h2⟩ := r.at_ i d q; exact ⟨v, h1, h2.fresh hp⟩⟩
theorem RelS.weak {φ' : List Addr} (w : ∀ a ∈ φ', a ∈ φ) (r : RelS R ρ φ H c σ) : RelS R ρ φ' H c σ :=
  ⟨r.len, fun i d q => by obtain ⟨v, h1, h2⟩ := r.at_ i d q; exact ⟨v, h1, h2.weak w⟩⟩
end
end Cl

namespace Cl
open PySem PySem.Spec PyProof.Rows L2

/-! ## the small language -/
mutual
inductive Tg where
  | v (i : Nat)
  | t (ts : Tgs)
inductive Tgs where
  | nil
  | cons (t : Tg) (ts : Tgs)
end
inductive Ty where
  | int | bool | str | tuple | list | dict
  deriving DecidableEq
inductive Bi where
  | len | abs | int | tuple | list | sorted | sortedR | sum | all | any | max | min | max2 | min2 | str | lenset
  deriving DecidableEq
mutual
inductive CE where
  | var (i : Nat)
  | cst (d : D)
  | glob (x : Str) (d : D)
  | bin (op : Operator) (a b : CE)
  | neg (a : CE)
  | not_ (a : CE)
  | cmp (op : CmpOp) (a b : CE)
  | chain (op op' : CmpOp) (a b c : CE)
  | and_ (a b : CE)
  | or_ (a b : CE)
  | ite (t a b : CE)
  | call (f : Nat) (args : CEs)
  | bi (b : Bi) (args : CEs)
  | isin (a : CE) (ts : List Ty)
  | pop (o : CE)
  | idx (a i : CE)
  | sl (a lo hi : CE)
  | rev (a : CE)
  | absent
  | tup (es : CEs)
  | lst (es : CEs)
  | comp (elt : CE) (t : Tg) (it : CI) (cond : CE) (own : List Nat)
  | lrange (it : CI)
  | cell (e : CE)
  | dict0 (t : Bool)
  | dget (o k d : CE)
inductive CEs where
  | nil
  | cons (e : CE) (es : CEs)
inductive CI where
  | seq (e : CE)
  | rng1 (a : CE)
  | rng2 (a b : CE)
  | rng3 (a b c : CE)
  | enum (e : CE)
  | zip (a b : CE)
end
mutual
inductive CS where
  | asg (t : Tg) (e : CE)
  | aug (i : Nat) (op : Operator) (e : CE)
  | sput (o i e : CE)
  | saug (o i : CE) (op : Operator) (e : CE)
  | expr (e : CE)
  | app (o e : CE)
  | ifs (t : CE) (a b : CSs)
  | for_ (t : Tg) (it : CI) (body : CSs)
  | whl (t : CE) (body : CSs)
  | ret (e : CE)
  | retN
  | brk
  | pass
  | raise (x : Nat) (e : CE)
  | try_ (body : CSs) (x : Nat) (suite : CSs)
  | kill (is : List Nat)
  | scope (ss : CSs)
inductive CSs where
  | nil
  | cons (s : CS) (ss : CSs)
end
structure Exc where
  cls : Nat
  arg : Option D
inductive ERes (α : Type) where
  | ok (a : α) (h : Hc)
  | exc (x : Exc) (h : Hc)
  | stuck
inductive Fl where
  | nx (σ : CSt) | rt (d : D) | bk (σ : CSt) | ct (σ : CSt)
inductive SRes where
  | ok (f : Fl) (h : Hc)
  | exc (x : Exc) (σ : CSt) (h : Hc)
  | stuck
def ERes.bind {α β : Type} (x : ERes α) (f : α → Hc → ERes β) : ERes β :=
  match x with
  | .ok a h => f a h
  | .exc x h => .exc x h
  | .stuck => .stuck
def ofO {α : Type} (x : Option α) (h : Hc) : ERes α :=
  match x with
  | some a => .ok a h
  | none => .stuck

/-! ## what the operators do -/
mutual
def D.toPy : D → PyData
  | .non => .none
  | .bl b => .bool b
  | .int i => .int i
  | .str x => .str x
  | .tup xs => .tuple (D.toPys xs)
  | .lst xs => .list (D.toPys xs)
  | .ref _ => .none
  | .fn _ => .none
def D.toPys : List D → List PyData
  | [] => []
  | x :: xs => D.toPy x :: D.toPys xs
end
mutual
/-- plain data -/
def D.plain : D → Bool
  | .tup xs => D.plains xs
  | .lst xs => D.plains xs
  | .ref _ => false
  | .fn _ => false
  | _ => true
def D.plains : List D → Bool
  | [] => true
  | x :: xs => D.plain x && D.plains xs
end
def D.okD (d : D) : Bool := d.plain && SeqAt.shaped d.toPy
def der (h : Hc) : D → D
  | .ref n => match h[n]? with
    | some (.lst xs) => .lst xs
    | some (.ro xs) => .lst xs
    | _ => .ref n
  | d => d
/-- a list that is no locked one -/
def derM (h : Hc) : D → D
  | .ref n => match h[n]? with
    | some (.lst xs) => .lst xs
    | _ => .ref n
  | d => d
def seqD (h : Hc) : D → Option (List D)
  | .tup xs => some xs
  | .lst xs => some xs
  | .ref n => match h[n]? with
    | some (.lst xs) => some xs
    | some (.ro xs) => some xs
    | _ => none
  | _ => none
def bitsI (i : Int) : Nat := Builtin.Int.intBits i
def mulOk (i j : Int) : Bool := decide (bitsI i ≤ 64) || decide (bitsI j ≤ 64) || decide (bitsI i + bitsI j ≤ 134217728)
def divOk (j : Int) : Bool := decide (j ≠ 0) && decide (j.natAbs.log2 < 9000)
def line : Nat := 16777216
def addL (h : Hc) (a b : D) : Option D :=
  match derM h a, derM h b with
  | .lst a, .lst b => if a.length + b.length ≤ line then some (.lst (a ++ b)) else none
  | _, _ => none
def addF (h : Hc) : D → D → Option D
  | .int a, .int b => some (.int (a + b))
  | .str a, .str b => if a.length + b.length ≤ line then some (.str (a ++ b)) else none
  | .tup a, .tup b => if a.length + b.length ≤ line then some (.tup (a ++ b)) else none
  | a, b => addL h a b
def mulL (h : Hc) (a : D) (b : Int) : Option D :=
  match derM h a with
  | .lst a => if -(2 ^ 63) ≤ b ∧ b < 2 ^ 63 ∧ a.length * b.toNat ≤ line then some (.lst (List.replicate b.toNat a).flatten) else none
  | _ => none
def mulF (h : Hc) : D → D → Option D
  | .int a, .int b => if mulOk a b then some (.int (a * b)) else none
  | .tup a, .int b => if -(2 ^ 63) ≤ b ∧ b < 2 ^ 63 ∧ a.length * b.toNat ≤ line then some (.tup (List.replicate b.toNat a).flatten) else none
  | a, .int b => mulL h a b
  | _, _ => none
def int2 (f : Int → Int → Option Int) : D → D → Option D
  | .int a, .int b => (f a b).map .int
  | _, _ => none
def binF (h : Hc) : Operator → D → D → Option D
  | .Add => addF h
  | .Sub => int2 fun a b => some (a - b)
  | .Mult => mulF h
  | .FloorDiv => int2 fun a b => if divOk b then some (a.fdiv b) else none
  | .Mod => int2 fun a b => if b = 0 then none else some (a.fmod b)
  | .Pow => int2 fun a b => if 0 ≤ b ∧ b ≤ 1000000 ∧ a.natAbs < 2 ^ 64 then some (a ^ b.toNat) else none
  | .LShift => int2 fun a b => if 0 ≤ b ∧ (bitsI a : Int) + b ≤ 134217728 then some (a * 2 ^ b.toNat) else none
  | .RShift => int2 fun a b => if 0 ≤ b then some (a / 2 ^ b.toNat) else none
  | .BitAnd => int2 fun a b => some (Builtin.bitAnd a b)
  | _ => fun _ _ => none
def eqG (h : Hc) (a b : D) : Option Bool :=
  if (der h a).okD && (der h b).okD then some (PyData.eqv (der h a).toPy (der h b).toPy) else none
def eqF (h : Hc) : D → D → Option Bool
  | .int a, .int b => some (decide (a = b))
  | .non, .int _ => some false
  | .int _, .non => some false
  | a, b => eqG h a b
def D.isN : D → Bool
  | .non => true
  | _ => false
def ltG (h : Hc) (a b : D) : Option Bool :=
  if (der h a).okD && (der h b).okD && PySem.W.alike (der h a).toPy (der h b).toPy && !(der h a).isN then some (PySem.W.dataLt (der h a).toPy (der h b).toPy) else none
/-- a < b -/
def ltF (h : Hc) : D → D → Option Bool
  | .int a, .int b => some (decide (a < b))
  | a, b => ltG h a b
inductive Kd where
  | non | bool | int | str | tuple | list | dict
  deriving DecidableEq
def kdD (h : Hc) : D → Option Kd
  | .non => some .non
  | .bl _ => some .bool
  | .int _ => some .int
  | .str _ => some .str
  | .tup _ => some .tuple
  | .lst _ => some .list
  | .ref n => match h[n]? with
    | some (.lst _) => some .list
    | some (.ro _) => some .list
    | some (.dK _) => some .dict
    | some (.dT _) => some .dict
    | none => none
  | .fn _ => none
def kdTy : Kd → Ty → Bool
  | .int, .int => true
  | .bool, .int => true
  | .bool, .bool => true
  | .str, .str => true
  | .tuple, .tuple => true
  | .list, .list => true
  | .dict, .dict => true
  | _, _ => false
def isDictD (h : Hc) : D → Bool
  | .ref n => match h[n]? with
    | some (.dK _) => true
    | some (.dT _) => true
    | _ => false
  | _ => false
def isLstD (h : Hc) : D → Bool
  | .ref n => match h[n]? with
    | some (.lst _) => true
    | _ => false
  | _ => false
def isFs (h : Hc) (ts : List Ty) (d : D) : Option Bool := (kdD h d).map fun k => ts.any (kdTy k)
def ixD (n : Nat) (i : Int) : Option Nat := if 0 ≤ i then (if i < n then some i.toNat else none) else if -(n : Int) ≤ i then some (i + n).toNat else none
def atD {α : Type} (xs : List α) (i : Int) : Option α := (ixD xs.length i).bind fun j => xs[j]?
def slx (n d : Nat) : Option Int → Nat
  | none => d
  | some v => if v < 0 then (v + (n : Int)).toNat else min v.toNat n
def cutD {α : Type} (xs : List α) (lo hi : Option Int) : List α := (xs.drop (slx xs.length 0 lo)).take (slx xs.length xs.length hi - slx xs.length 0 lo)
def keyD : D → Option Key
  | .int i => some (.inl i)
  | .str x => some (.inr x)
  | _ => none
def keysD : List D → Option (List Key)
  | [] => some []
  | d :: ds => match keyD d, keysD ds with
    | some k, some ks => some (k :: ks)
    | _, _ => none
def tkeyD : D → Option (List Key)
  | .tup ds => keysD ds
  | _ => none
def valD {κ : Type} [DecidableEq κ] (kvs : List (κ × D)) (k : κ) : Option D := (kvs.find? fun kv => decide (kv.1 = k)).map (·.2)
def putD {κ : Type} [DecidableEq κ] (kvs : List (κ × D)) (k : κ) (v : D) : List (κ × D) :=
  if (kvs.any fun kv => decide (kv.1 = k)) = true then kvs.map fun kv => if kv.1 = k then (kv.1, v) else kv else kvs ++ [(k, v)]
/-- d[k]: a dict's value, if there -/
def lookD (h : Hc) (n : Nat) (k : D) : Option (Option D) :=
  match h[n]? with
  | some (.dK kvs) => (keyD k).map fun k => valD kvs k
  | some (.dT kvs) => (tkeyD k).map fun k => valD kvs k
  | _ => none
def inData (h : Hc) (x : D) (y : D) (ys : List D) : Option Bool :=
  if (der h x).okD && y.okD then some (ys.any fun z => PyData.eqv z.toPy (der h x).toPy) else none
def inF (h : Hc) (x : D) (y : D) : Option Bool :=
  match der h y with
  | .lst ys => inData h x (.lst ys) ys
  | .tup ys => inData h x (.tup ys) ys
  | .str t => match x with
    | .str s => some (!(Builtin.Str.occurrences t s 0 t.length 1).isEmpty)
    | _ => none
  | .ref n => (lookD h n x).map Option.isSome
  | _ => none
def isNon (a b : D) : Option Bool :=
  match b with
  | .non => some a.isN
  | _ => none
def cmpF (h : Hc) : CmpOp → D → D → Option Bool
  | .Eq, a, b => eqF h a b
  | .NotEq, a, b => (eqF h a b).map (!·)
  | .Lt, a, b => ltF h a b
  | .Gt, a, b => ltF h b a
  | .LtE, a, b => (ltF h b a).map (!·)
  | .GtE, a, b => (ltF h a b).map (!·)
  | .Is, a, b => isNon a b
  | .IsNot, a, b => (isNon a b).map (!·)
  | .In, a, b => inF h a b
  | .NotIn, a, b => (inF h a b).map (!·)
def idxF (h : Hc) (a i : D) : Option D :=
  match a, i with
  | .str x, .int i => if x.length ≤ line then (atD x.cps.toList i).map fun c => .str ⟨#[c]⟩ else none
  | .ref n, i => match h[n]? with
    | some (.lst xs) => match i with | .int i => atD xs i | _ => none
    | some (.ro xs) => match i with | .int i => atD xs i | _ => none
    | _ => (lookD h n i).bind id
  | .tup xs, .int i => atD xs i
  | .lst xs, .int i => atD xs i
  | _, _ => none
def putF (h : Hc) (o i v : D) : Option Hc :=
  match o with
  | .ref n => match h[n]? with
    | some (.lst xs) => match i with
      | .int i => (ixD xs.length i).map fun j => h.set n (.lst (xs.set j v))
      | _ => none
    | some (.dK kvs) => if kvs.length < line then (keyD i).map fun k => h.set n (.dK (putD kvs k v)) else none
    | some (.dT kvs) => if kvs.length < line then (tkeyD i).map fun k => h.set n (.dT (putD kvs k v)) else none
    | _ => none
  | _ => none
def sliceF (h : Hc) (a : D) (lo hi : Option Int) : Option D :=
  match der h a with
  | .tup xs => some (.tup (cutD xs lo hi))
  | .lst xs => some (.lst (cutD xs lo hi))
  | .str x => if x.length ≤ line then some (.str ⟨(cutD x.cps.toList lo hi).toArray⟩) else none
  | _ => none
def revF (h : Hc) (a : D) : Option D :=
  match der h a with
  | .tup xs => some (.tup xs.reverse)
  | .lst xs => some (.lst xs.reverse)
  | _ => none
/-- a list's items -/
def lstD (h : Hc) : D → Option (List D)
  | .lst xs => some xs
  | .ref n => match h[n]? with
    | some (.lst xs) => some xs
    | some (.ro xs) => some xs
    | _ => none
  | _ => none
/-- stable sort by a Bool order -/
def insD (le : D → D → Bool) (x : D) : List D → List D
  | [] => [x]
  | y :: ys => if le x y then x :: y :: ys else y :: insD le x ys
def sortD (le : D → D → Bool) : List D → List D
  | [] => []
  | x :: xs => insD le x (sortD le xs)
def leD (a b : D) : Bool := !PySem.W.dataLt b.toPy a.toPy
def alikes (xs : List D) : Bool := xs.all fun x => xs.all fun y => PySem.W.alike x.toPy y.toPy
def D.isTup1 : D → Bool
  | .tup (_ :: _) => true
  | _ => false
def D.isFlat : D → Bool
  | .tup _ => false
  | .non => false
  | .ref _ => false
  | .fn _ => false
  | _ => true
def sortable (xs : List D) : Bool := xs.all D.isTup1 || xs.all D.isFlat
def sumI : List D → Option Int
  | [] => some 0
  | .int i :: xs => (sumI xs).map (i + ·)
  | _ => none
def allB : List D → Option (List Bool)
  | [] => some []
  | .bl b :: xs => (allB xs).map (b :: ·)
  | _ => none
def intsD : List D → Option (List Int)
  | [] => some []
  | .int i :: xs => (intsD xs).map (i :: ·)
  | _ => none
/-- sorted(xs): also of a tuple -/
def sortF (xs : List D) : Option (List D) := if (D.lst xs).okD && alikes xs && sortable xs && decide (xs.length ≤ line) then some (sortD leD xs) else none
def lenF (h : Hc) (d : D) : Option D :=
  match d with
  | .str x => if x.length ≤ line then some (.int x.length) else none
  | d => match seqD h d with
    | some xs => some (.int xs.length)
    | none => match d with
      | .ref n => match h[n]? with
        | some (.dK kvs) => some (.int kvs.length)
        | _ => none
      | _ => none
def intF : D → Option D
  | .int i => some (.int i)
  | .bl b => some (.int (if b then 1 else 0))
  | _ => none
def biF (h : Hc) : Bi → List D → Option D
  | .len, [d] => lenF h d
  | .abs, [.int i] => some (.int (if i < 0 then -i else i))
  | .int, [d] => intF d
  | .tuple, [d] => (seqD h d).map fun xs => .tup xs
  | .list, [d] => (seqD h d).map fun xs => .lst xs
  | .sorted, [d] => ((seqD h d).bind sortF).map .lst
  | .sum, [d] => (seqD h d).bind fun xs => (sumI xs).map .int
  | .all, [d] => (lstD h d).bind fun xs => (allB xs).map fun bs => .bl (bs.all id)
  | .any, [d] => (lstD h d).bind fun xs => (allB xs).map fun bs => .bl (bs.any id)
  | .max, [d] => (seqD h d).bind fun xs => match intsD xs with | some (x :: xs) => some (.int (xs.foldl max x)) | _ => none
  | .min, [d] => (seqD h d).bind fun xs => match intsD xs with | some (x :: xs) => some (.int (xs.foldl min x)) | _ => none
  | .max2, [.int a, .int b] => some (.int (if b > a then b else a))
  | .min2, [.int a, .int b] => some (.int (if b < a then b else a))
  | .str, [.int i] => if i.natAbs.log2 < 1920 then some (.str (toString i)) else none
  | .lenset, [d] => (lstD h d).bind fun xs => (intsD xs).bind fun is => if is.length ≤ 4000 then some (.int (firstMet (fun i => is.getD i 0) is.length).length) else none
  | _, _ => none

/-! ## the runs -/
abbrev Guard := List (Nat × Cell)
def gOk (g : Guard) (h : Hc) : Bool := g.all fun p => decide (h[p.1]? = some p.2)
def cwipe (σ : CSt) : List Nat → CSt
  | [] => σ
  | v :: vs => (cwipe σ vs).set v none
mutual
def asgT : Tg → D → CSt → Option CSt
  | .v i, d, σ => some (σ.set i (some d))
  | .t ts, d, σ => match d with
    | .tup ds => asgTs ts ds σ
    | _ => none
def asgTs : Tgs → List D → CSt → Option CSt
  | .nil, [], σ => some σ
  | .cons t ts, d :: ds, σ => match asgT t d σ with
    | some σ' => asgTs ts ds σ'
    | none => none
  | _, _, _ => none
end
abbrev EvF := CSt → Hc → ERes D
def boolR (r : ERes D) : ERes Bool :=
  match r with
  | .ok (.bl b) h => .ok b h
  | .ok _ _ => .stuck
  | .exc x h => .exc x h
  | .stuck => .stuck
def compF (fe fc : EvF) (t : Tg) (g : Guard) (σ : CSt) : List D → Hc → ERes (List D)
  | [], h => if gOk g h then .ok [] h else .stuck
  | x :: xs, h => if gOk g h then
      match asgT t x σ with
      | some σ' => match boolR (fc σ' h) with
        | .ok true h1 => match fe σ' h1 with
          | .ok y h2 => match compF fe fc t g σ xs h2 with
            | .ok ys h3 => .ok (y :: ys) h3
            | _ => .stuck
          | _ => .stuck
        | .ok false h1 => compF fe fc t g σ xs h1
        | _ => .stuck
      | none => .stuck
    else .stuck
def lmap (zs : List D) (r : ERes (List D)) : ERes D :=
  match r with
  | .ok ys h => .ok (.lst (zs ++ ys)) h
  | _ => .stuck
def guardOf (h : Hc) : D → Guard
  | .ref n => match h[n]? with
    | some c => [(n, c)]
    | none => []
  | _ => []
def rngD (a : Int) (c : Int) : Nat → List D
  | 0 => []
  | n + 1 => .int a :: rngD (a + c) c n
def enumD (i : Nat) : List D → List D
  | [] => []
  | x :: xs => .tup [.int i, x] :: enumD (i + 1) xs
def zipD : List D → List D → List D
  | x :: xs, y :: ys => .tup [x, y] :: zipD xs ys
  | _, _ => []
def smallI (a : Int) : Bool := decide (-(2 ^ 62) ≤ a) && decide (a < 2 ^ 62)
def rngN (i j c : Int) : Nat := if 0 < c then ((j - i + c - 1) / c).toNat else ((i - j - c - 1) / (-c)).toNat
structure Itd where
  xs : List D
  g : Guard
def CE.isAbs : CE → Bool
  | .absent => true
  | _ => false
def optR (abs : Bool) (f : Hc → ERes D) (h : Hc) : ERes (Option Int) :=
  if abs then .ok none h else (f h).bind fun d h => match d with
    | .int i => .ok (some i) h
    | _ => .stuck
def condR (abs : Bool) (f : EvF) : EvF := fun σ h => if abs then .ok (.bl true) h else f σ h
abbrev Caller := Nat → List D → Hc → ERes D
mutual
def evE (C : Caller) : CE → CSt → Hc → ERes D
  | .var i, σ, h => match σ[i]? with
    | some (some d) => .ok d h
    | _ => .stuck
  | .cst d, _, h => .ok d h
  | .glob _ d, _, h => .ok d h
  | .bin op a b, σ, h => (evE C a σ h).bind fun x h => (evE C b σ h).bind fun y h => ofO (binF h op x y) h
  | .neg a, σ, h => (evE C a σ h).bind fun x h => match x with
    | .int i => .ok (.int (-i)) h
    | _ => .stuck
  | .not_ a, σ, h => (evE C a σ h).bind fun x h => match x with
    | .bl b => .ok (.bl (!b)) h
    | _ => .stuck
  | .cmp op a b, σ, h => (evE C a σ h).bind fun x h => (evE C b σ h).bind fun y h => ofO ((cmpF h op x y).map .bl) h
  | .chain op op' a b c, σ, h => (evE C a σ h).bind fun x h => (evE C b σ h).bind fun y h => match cmpF h op x y with
    | some true => (evE C c σ h).bind fun z h => ofO ((cmpF h op' y z).map .bl) h
    | some false => .ok (.bl false) h
    | none => .stuck
  | .and_ a b, σ, h => (evE C a σ h).bind fun x h => match x with
    | .bl true => evE C b σ h
    | .bl false => .ok (.bl false) h
    | _ => .stuck
  | .or_ a b, σ, h => (evE C a σ h).bind fun x h => match x with
    | .bl true => .ok (.bl true) h
    | .bl false => evE C b σ h
    | _ => .stuck
  | .ite t a b, σ, h => (evE C t σ h).bind fun x h => match x with
    | .bl true => evE C a σ h
    | .bl false => evE C b σ h
    | _ => .stuck
  | .call f args, σ, h => (evEs C args σ h).bind fun ds h => C f ds h
  | .bi b args, σ, h => (evEs C args σ h).bind fun ds h => ofO (biF h b ds) h
  | .isin a ts, σ, h => (evE C a σ h).bind fun x h => ofO ((isFs h ts x).map .bl) h
  | .pop o, σ, h => (evE C o σ h).bind fun x h => match x with
    | .ref n => match h[n]? with
      | some (.lst xs) => match xs[xs.length - 1]? with
        | some d => .ok d (h.set n (.lst xs.dropLast))
        | none => .stuck
      | _ => .stuck
    | _ => .stuck
  | .idx a i, σ, h => (evE C a σ h).bind fun x h => (evE C i σ h).bind fun y h => ofO (idxF h x y) h
  | .sl a lo hi, σ, h => (evE C a σ h).bind fun x h => (optR lo.isAbs (evE C lo σ) h).bind fun l h => (optR hi.isAbs (evE C hi σ) h).bind fun u h => ofO (sliceF h x l u) h
  | .rev a, σ, h => (evE C a σ h).bind fun x h => ofO (revF h x) h
  | .absent, _, _ => .stuck
  | .tup es, σ, h => (evEs C es σ h).bind fun ds h => .ok (.tup ds) h
  | .lst es, σ, h => (evEs C es σ h).bind fun ds h => .ok (.lst ds) h
  | .comp elt t it cond own, σ, h => (evI C it σ h).bind fun d h => if d.xs.length ≤ line then lmap [] (compF (evE C elt) (condR cond.isAbs (evE C cond)) t d.g (cwipe σ own) d.xs h) else .stuck
  | .lrange it, σ, h => (evI C it σ h).bind fun d h => if d.xs.length ≤ line then .ok (.lst d.xs) h else .stuck
  | .cell e, σ, h => (evE C e σ h).bind fun x h => match x with
    | .lst xs => .ok (.ref h.length) (h ++ [.lst xs])
    | _ => .stuck
  | .dict0 t, _, h => .ok (.ref h.length) (h ++ [if t then .dT [] else .dK []])
  | .dget o k d, σ, h => (evE C o σ h).bind fun x h => if isDictD h x then (evE C k σ h).bind fun y h => (evE C d σ h).bind fun z h => match x with
    | .ref n => match lookD h n y with
      | some r => .ok (r.getD z) h
      | none => .stuck
    | _ => .stuck
    else .stuck
def evEs (C : Caller) : CEs → CSt → Hc → ERes (List D)
  | .nil, _, h => .ok [] h
  | .cons e es, σ, h => (evE C e σ h).bind fun d h => (evEs C es σ h).bind fun ds h => .ok (d :: ds) h
def evI (C : Caller) : CI → CSt → Hc → ERes Itd
  | .seq e, σ, h => (evE C e σ h).bind fun d h => match seqD h d with
    | some xs => .ok ⟨xs, guardOf h d⟩ h
    | none => .stuck
  | .rng1 a, σ, h => (evE C a σ h).bind fun d h => match d with
    | .int j => if smallI j then .ok ⟨rngD 0 1 j.toNat, []⟩ h else .stuck
    | _ => .stuck
  | .rng2 a b, σ, h => (evE C a σ h).bind fun d h => (evE C b σ h).bind fun e h => match d, e with
    | .int i, .int j => if smallI i && smallI j then .ok ⟨rngD i 1 (j - i).toNat, []⟩ h else .stuck
    | _, _ => .stuck
  | .rng3 a b c, σ, h => (evE C a σ h).bind fun d h => (evE C b σ h).bind fun e h => (evE C c σ h).bind fun f h => match d, e, f with
    | .int i, .int j, .int k => if Builtin.Range.small i j k && decide (k ≠ 0) && decide (k.natAbs < 1073741824) && decide (Builtin.Range.rangeSize i j k = (rngN i j k : Nat)) then .ok ⟨rngD i k (rngN i j k), []⟩ h else .stuck
    | _, _, _ => .stuck
  | .enum e, σ, h => (evE C e σ h).bind fun d h => match seqD h d with
    | some xs => .ok ⟨enumD 0 xs, guardOf h d⟩ h
    | none => .stuck
  | .zip a b, σ, h => (evE C a σ h).bind fun d h => (evE C b σ h).bind fun e h => match seqD h d, seqD h e with
    | some xs, some ys => .ok ⟨zipD xs ys, guardOf h d ++ guardOf h e⟩ h
    | _, _ => .stuck
end

def wFuel : Nat := 1000000000
def testR (r : ERes D) : ERes Bool := boolR r
def forF (fb : CSt → Hc → SRes) (t : Tg) (g : Guard) : List D → CSt → Hc → SRes
  | [], σ, h => if gOk g h then .ok (.nx σ) h else .stuck
  | x :: xs, σ, h => if gOk g h then
      match asgT t x σ with
      | some σ' => match fb σ' h with
        | .ok (.nx σ2) h2 => forF fb t g xs σ2 h2
        | .ok (.ct σ2) h2 => forF fb t g xs σ2 h2
        | .ok (.bk σ2) h2 => .ok (.nx σ2) h2
        | .ok (.rt d) h2 => .ok (.rt d) h2
        | .exc x σ2 h2 => .exc x σ2 h2
        | .stuck => .stuck
      | none => .stuck
    else .stuck
def whF (fc : EvF) (fb : CSt → Hc → SRes) : Nat → CSt → Hc → SRes
  | 0, _, _ => .stuck
  | k + 1, σ, h => match boolR (fc σ h) with
    | .ok false h1 => .ok (.nx σ) h1
    | .ok true h1 => match fb σ h1 with
      | .ok (.nx σ2) h2 => whF fc fb k σ2 h2
      | .ok (.ct σ2) h2 => whF fc fb k σ2 h2
      | .ok (.bk σ2) h2 => .ok (.nx σ2) h2
      | .ok (.rt d) h2 => .ok (.rt d) h2
      | .exc x σ2 h2 => .exc x σ2 h2
      | .stuck => .stuck
    | .exc x h1 => .exc x σ h1
    | .stuck => .stuck
/-- an expression's result within a statement -/
def ERes.st {α : Type} (r : ERes α) (σ : CSt) (f : α → Hc → SRes) : SRes :=
  match r with
  | .ok a h => f a h
  | .exc x h => .exc x σ h
  | .stuck => .stuck
def stO {α : Type} (o : Option α) (f : α → SRes) : SRes :=
  match o with
  | some a => f a
  | none => .stuck
def ckill (σ : CSt) (is : List Nat) : CSt := cwipe σ is
def lowSt (n : Nat) (σ : CSt) : Bool := σ.all fun o => match o with | some d => d.low n | none => true
/-- may the cells from n on be forgotten -/
def cutOk (n : Nat) (h h' : Hc) : Bool := (List.zip (h'.take n) h).all fun p => p.1.low n || decide (p.1 = p.2)
def scopeR (h : Hc) (r : SRes) : SRes :=
  match r with
  | .ok (.nx σ) h' => if lowSt h.length σ && cutOk h.length h h' then .ok (.nx σ) (h'.take h.length) else .ok (.nx σ) h'
  | r => r
def refIdx (h : Hc) (x y : D) : Option D :=
  match x with
  | .ref n => idxF h (.ref n) y
  | _ => none
def noExc (r : SRes) : SRes :=
  match r with
  | .exc _ _ _ => .stuck
  | r => r
structure Env2 where
  C : Caller
  sub : Nat → Nat → Option Bool
mutual
def evS (P : Env2) : CS → CSt → Hc → SRes
  | .asg t e, σ, h => (evE P.C e σ h).st σ fun d h => stO (asgT t d σ) fun σ' => .ok (.nx σ') h
  | .aug i op e, σ, h => match σ[i]? with
    | some (some x) => (evE P.C e σ h).st σ fun y h => match x, y with
      | .int a, .int b => stO (binF h op (.int a) (.int b)) fun z => .ok (.nx (σ.set i (some z))) h
      | _, _ => .stuck
    | _ => .stuck
  | .sput o i e, σ, h => (evE P.C e σ h).st σ fun v h => (evE P.C o σ h).st σ fun x h => (evE P.C i σ h).st σ fun y h => stO (putF h x y v) fun h' => .ok (.nx σ) h'
  | .saug o i op e, σ, h => (evE P.C o σ h).st σ fun x h => (evE P.C i σ h).st σ fun y h => stO (refIdx h x y) fun u => (evE P.C e σ h).st σ fun v h =>
      match u, v with
      | .int a, .int b => stO (binF h op (.int a) (.int b)) fun w => stO (putF h x y w) fun h' => .ok (.nx σ) h'
      | _, _ => .stuck
  | .expr e, σ, h => (evE P.C e σ h).st σ fun _ h => .ok (.nx σ) h
  | .app o e, σ, h => (evE P.C o σ h).st σ fun x h => if isLstD h x = false then .stuck else (evE P.C e σ h).st σ fun v h => match x with
    | .ref n => match h[n]? with
      | some (.lst xs) => if xs.length < line then .ok (.nx σ) (h.set n (.lst (xs ++ [v]))) else .stuck
      | _ => .stuck
    | _ => .stuck
  | .ifs t a b, σ, h => (boolR (evE P.C t σ h)).st σ fun c h => if c then evSs P a σ h else evSs P b σ h
  | .for_ t it body, σ, h => (evI P.C it σ h).st σ fun d h => forF (evSs P body) t d.g d.xs σ h
  | .whl t body, σ, h => whF (evE P.C t) (evSs P body) wFuel σ h
  | .ret e, σ, h => (evE P.C e σ h).st σ fun d h => .ok (.rt d) h
  | .retN, _, h => .ok (.rt .non) h
  | .brk, σ, h => .ok (.bk σ) h
  | .pass, σ, h => .ok (.nx σ) h
  | .raise x e, σ, h => if e.isAbs then .exc ⟨x, none⟩ σ h else (evE P.C e σ h).st σ fun d h => .exc ⟨x, some d⟩ σ h
  | .try_ body x suite, σ, h => match evSs P body σ h with
    | .exc y σ' h' => match P.sub y.cls x with
      | some true => noExc (evSs P suite σ' h')
      | some false => .exc y σ' h'
      | none => .stuck
    | r => r
  | .kill is, σ, h => .ok (.nx (ckill σ is)) h
  | .scope ss, σ, h => scopeR h (evSs P ss σ h)
def evSs (P : Env2) : CSs → CSt → Hc → SRes
  | .nil, σ, h => .ok (.nx σ) h
  | .cons s ss, σ, h => match evS P s σ h with
    | .ok (.nx σ') h' => evSs P ss σ' h'
    | r => r
end
structure CDef where
  ns : Nat
  np : Nat
  body : CSs
structure Pg where
  defs : List CDef
  sub : Nat → Nat → Option Bool
def cstart (d : CDef) (args : List D) : CSt := args.map some ++ List.replicate (d.ns - args.length) none
def finR (h : Hc) (v : D) (h' : Hc) : ERes D := if v.low h.length && cutOk h.length h h' then .ok v (h'.take h.length) else .ok v h'
def Exc.low (n : Nat) (x : Exc) : Bool :=
  match x.arg with
  | some v => v.low n
  | none => true
def finX (h : Hc) (x : Exc) (h' : Hc) : ERes D := if x.low h.length && cutOk h.length h h' then .exc x (h'.take h.length) else .exc x h'
def runD (P : Env2) (d : CDef) (args : List D) (h : Hc) : ERes D :=
  if args.length = d.np then
    match evSs P d.body (cstart d args) h with
    | .ok (.rt v) h' => finR h v h'
    | .ok (.nx _) h' => finR h .non h'
    | .exc x _ h' => finX h x h'
    | _ => .stuck
  else .stuck
def callN (P : Pg) : Nat → Caller
  | 0, _, _, _ => .stuck
  | n + 1, f, args, h => match P.defs[f]? with
    | some d => runD ⟨callN P n, P.sub⟩ d args h
    | none => .stuck
end Cl

namespace Cl
open PySem PySem.Spec PyProof.Rows L2

theorem line_eq : line = sizeLine := by rw [sizeLine_eq]; rfl

/-! ## from data to Dp -/
section
variable {R : RC} {ρ φ : List Addr} {H : Hp} {h : Hc}
mutual
theorem RD.dp : ∀ {d : D} {v : V}, d.plain = true → RD R ρ φ H d v → Dp R.K H v d.toPy
  | .non, _, _, r => by simp only [RD] at r; subst r; simp only [D.toPy]; exact .non
  | .bl b, _, _, r => by simp only [RD] at r; subst r; simp only [D.toPy]; exact .bl b
  | .int b, _, _, r => by simp only [RD] at r; subst r; simp only [D.toPy]; exact .int b
  | .str b, _, _, r => by simp only [RD] at r; subst r; simp only [D.toPy]; exact .str b
  | .ref _, _, p, _ => by simp [D.plain] at p
  | .fn _, _, p, _ => by simp [D.plain] at p
  | .tup ds, _, p, r => by
    simp only [RD] at r
    obtain ⟨a, vs, rfl, h1, h2⟩ := r
    simp only [D.plain] at p
    simp only [D.toPy]
    exact .tup h1.sq (RDs.dp p h2)
  | .lst ds, _, p, r => by
    simp only [RD] at r
    obtain ⟨a, vs, rfl, h1, h2⟩ := r
    simp only [D.plain] at p
    simp only [D.toPy]
    exact .lst h1.sq (RDs.dp p h2)
theorem RDs.dp : ∀ {ds : List D} {vs : List V}, D.plains ds = true → RDs R ρ φ H ds vs → DpAll R.K H vs (D.toPys ds)
  | [], _, _, r => by simp only [RDs] at r; subst r; simp only [D.toPys]; exact .nil
  | d :: ds, _, p, r => by
    simp only [RDs] at r
    obtain ⟨v, vs', rfl, h1, h2⟩ := r
    simp only [D.plains, Bool.and_eq_true] at p
    simp only [D.toPys]
    exact .cons (RD.dp p.1 h1) (RDs.dp p.2 h2)
end
theorem okD_plain {d : D} (k : d.okD = true) : d.plain = true := (Bool.and_eq_true_iff.mp k).1
theorem okD_shaped {d : D} (k : d.okD = true) : SeqAt.shaped d.toPy = true := (Bool.and_eq_true_iff.mp k).2
/-- a value seen through its cell -/
theorem RD.der_dp (r : RelH R ρ φ H h) {d : D} {v : V} (q : RD R ρ φ H d v) (k : (der h d).plain = true) : Dp R.K H v (der h d).toPy := by
  cases d with
  | ref n =>
    simp only [RD] at q
    obtain ⟨a, e, rfl⟩ := q
    unfold der at k ⊢
    cases hc : h[n]? with
    | none => simp [hc, D.plain] at k
    | some c =>
      have rc := r.cells n a c e hc
      cases c with
      | lst xs =>
        obtain ⟨vs, e1, e2⟩ := rc
        simp only [hc, D.plain] at k
        simp only [hc, D.toPy]
        exact .lst (SqL.of e1) (e2.dp k)
      | ro xs =>
        obtain ⟨o, vs, e1, e2⟩ := rc
        simp only [hc, D.plain] at k
        simp only [hc, D.toPy]
        exact .lst (.inl (.inr ⟨o, e1⟩)) (e2.dp k)
      | dK _ => simp [hc, D.plain] at k
      | dT _ => simp [hc, D.plain] at k
  | _ => exact q.dp k
/-- what seqD reads -/
theorem RD.seq (r : RelH R ρ φ H h) {d : D} {v : V} (q : RD R ρ φ H d v) {xs : List D} (e : seqD h d = some xs) :
    ∃ a vs, v = .ref a ∧ (SqL R.K H a vs ∨ SqT R.K H a vs) ∧ RDs R ρ φ H xs vs := by
  cases d with
  | tup ds =>
    simp only [seqD, Option.some.injEq] at e; subst e
    simp only [RD] at q
    obtain ⟨a, vs, rfl, h1, h2⟩ := q
    exact ⟨a, vs, rfl, .inr h1.sq, h2⟩
  | lst ds =>
    simp only [seqD, Option.some.injEq] at e; subst e
    simp only [RD] at q
    obtain ⟨a, vs, rfl, h1, h2⟩ := q
    exact ⟨a, vs, rfl, .inl h1.sq, h2⟩
  | ref n =>
    simp only [RD] at q
    obtain ⟨a, ea, rfl⟩ := q
    unfold seqD at e
    cases hc : h[n]? with
    | none => simp [hc] at e
    | some c =>
      have rc := r.cells n a c ea hc
      cases c with
      | lst ys =>
        simp only [hc, Option.some.injEq] at e; subst e
        obtain ⟨vs, e1, e2⟩ := rc
        exact ⟨a, vs, rfl, .inl (SqL.of e1), e2⟩
      | ro ys =>
        simp only [hc, Option.some.injEq] at e; subst e
        obtain ⟨o, vs, e1, e2⟩ := rc
        exact ⟨a, vs, rfl, .inl (.inl (.inr ⟨o, e1⟩)), e2⟩
      | dK _ => simp [hc] at e
      | dT _ => simp [hc] at e
  | _ => simp [seqD] at e
/-- a list that can be read, tracked (no locked one) -/
theorem RD.der_lst (r : RelH R ρ φ H h) {d : D} {v : V} (q : RD R ρ φ H d v) {xs : List D} (e : derM h d = .lst xs) :
    ∃ a vs, v = .ref a ∧ H a = some (.lst vs) ∧ RDs R ρ φ H xs vs := by
  cases d with
  | lst ds =>
    simp only [derM, D.lst.injEq] at e; subst e
    simp only [RD] at q
    obtain ⟨a, vs, rfl, h1, h2⟩ := q
    exact ⟨a, vs, rfl, h1.1, h2⟩
  | ref n =>
    simp only [RD] at q
    obtain ⟨a, ea, rfl⟩ := q
    unfold derM at e
    cases hc : h[n]? with
    | none => simp [hc] at e
    | some c =>
      have rc := r.cells n a c ea hc
      cases c with
      | lst ys =>
        simp only [hc, D.lst.injEq] at e; subst e
        obtain ⟨vs, e1, e2⟩ := rc
        exact ⟨a, vs, rfl, e1, e2⟩
      | ro ys => simp [hc] at e
      | dK _ => simp [hc] at e
      | dT _ => simp [hc] at e
  | _ => simp [derM] at e

/-! ## results -/
/-- an exception that flies: its class, its own dict's one field -/
structure XC where
  cls : Nat → Value
  fld : Nat → Str
def RX (R : RC) (Y : XC) (ρ φ : List Addr) (H : Hp) (x : Exc) (cls : Value) (dd : Option Addr) : Prop :=
  cls = Y.cls x.cls ∧ match x.arg with
    | none => dd = none
    | some d => ∃ a v, dd = some a ∧ H a = some (.xd [(Y.fld x.cls, v)]) ∧ RD R ρ φ H d v
def Fin {α β : Type} (R : RC) (Y : XC) (W : WX) (σ : L2.St) (ρ φ : List Addr) (H : Hp) (rel : List Addr → Hp → α → β → Prop) (r : ERes α) (Q : β → Hp → Prop) : Prop :=
  match r with
  | .ok a h' => ∀ ρ' b H', Ext ρ ρ' H H' → RelH R ρ' φ H' h' → rel ρ' H' a b → Q b H'
  | .exc x h' => ∀ ρ' cls dd H', Ext ρ ρ' H H' → RelH R ρ' φ H' h' → RX R Y ρ' φ H' x cls dd → W cls dd σ H'
  | .stuck => False
theorem Fin.ext {α β : Type} {Y : XC} {W : WX} {σ : L2.St} {ρ' : List Addr} {H' : Hp} {rel : List Addr → Hp → α → β → Prop} {r : ERes α} {Q : β → Hp → Prop} (f : Fin R Y W σ ρ φ H rel r Q) (e : Ext ρ ρ' H H') :
    Fin R Y W σ ρ' φ H' rel r Q := by
  cases r with
  | ok a h' => exact fun ρ1 b H1 e1 => f ρ1 b H1 (e.trans e1)
  | exc x h' => exact fun ρ1 c d H1 e1 => f ρ1 c d H1 (e.trans e1)
  | stuck => exact f
theorem Fin.bind {α α' β β' : Type} {Y : XC} {W : WX} {σ : L2.St} {rel : List Addr → Hp → α → β → Prop} {rel' : List Addr → Hp → α' → β' → Prop} {r : ERes α} {f : α → Hc → ERes α'} {Q' : β' → Hp → Prop} {Q : β → Hp → Prop}
    (hf : Fin R Y W σ ρ φ H rel' (r.bind f) Q')
    (k : ∀ a h1 ρ1 b H1, r = .ok a h1 → Ext ρ ρ1 H H1 → RelH R ρ1 φ H1 h1 → rel ρ1 H1 a b → Fin R Y W σ ρ1 φ H1 rel' (f a h1) Q' → Q b H1) : Fin R Y W σ ρ φ H rel r Q := by
  cases r with
  | ok a h' => exact fun ρ1 b H1 e1 hH r1 => k a h' ρ1 b H1 rfl e1 hH r1 (Fin.ext (r := f a h') hf e1)
  | exc x h' => exact hf
  | stuck => exact hf
abbrev rD (R : RC) (φ : List Addr) : List Addr → Hp → D → V → Prop := fun ρ H d v => RD R ρ φ H d v
abbrev rDs (R : RC) (φ : List Addr) : List Addr → Hp → List D → List V → Prop := fun ρ H d v => RDs R ρ φ H d v
theorem Fin.ofO {β : Type} {Y : XC} {W : WX} {σ : L2.St} {α : Type} {rel : List Addr → Hp → α → β → Prop} {o : Option α} {Q : β → Hp → Prop} (f : Fin R Y W σ ρ φ H rel (ofO o h) Q) :
    ∃ a, o = some a ∧ ∀ ρ' b H', Ext ρ ρ' H H' → RelH R ρ' φ H' h → rel ρ' H' a b → Q b H' := by
  cases o with
  | none => exact f.elim
  | some a => exact ⟨a, rfl, f⟩
end
end Cl

namespace L2
open PySem PySem.Spec PyProof.Rows
theorem tuple_mul1 (l : Addr) (items : Array Value) (n : Nat) (dd : Option Addr) (sl : Array (Option Value)) (x : Int) (u : Tok) (c0 : (decide (x < -(2 ^ 63)) || decide (x ≥ 2 ^ 63)) = false) (c1 : (items.isEmpty || x == 1) = true) :
    Meets (Builtin.«tuple.__mul__» ⟨[.ref l, .int x u], []⟩) (fun _ R s => s.heap.get? l = some { cls := .type "tuple", dict := dd, data := .seq items n, slots := sl } ∧
      R (.ok (.ret (Value.ref l))) s) :=
  .of_wp fun prog w A R s h => by
    obtain ⟨hp, g, d, tk, os⟩ := s
    obtain ⟨hl, h⟩ := h
    have f1 := AutoSeq1.idx_int
    wp_walk using wpAny_loadPart' hl
    repeat (first
      | (refine wpAny_ite_false (decide_eq_false (by rw [c0]; exact Bool.false_ne_true)) ?_; wp_walk using wpAny_loadPart' hl)
      | (refine wpAny_ite_true (decide_eq_true c1) ?_; wp_walk using wpAny_loadPart' hl))
    exact ⟨_, rfl, h⟩
theorem tuple_mul0 (l : Addr) (items : Array Value) (n : Nat) (dd : Option Addr) (sl : Array (Option Value)) (x : Int) (u : Tok) (c0 : (decide (x < -(2 ^ 63)) || decide (x ≥ 2 ^ 63)) = false) (c1 : (items.isEmpty || x == 1) = false) (c2 : (decide (x ≤ 0) || items.isEmpty) = true) :
    Meets (Builtin.«tuple.__mul__» ⟨[.ref l, .int x u], []⟩) (fun _ R s => s.heap.get? l = some { cls := .type "tuple", dict := dd, data := .seq items n, slots := sl } ∧
      R (.ok (.ret (Value.ref s.heap.objs.size))) { s with heap := s.heap.push { cls := Value.type "tuple", data := Data.seq #[] }, toks := s.toks }) :=
  .of_wp fun prog w A R s h => by
    obtain ⟨hp, g, d, tk, os⟩ := s
    obtain ⟨hl, h⟩ := h
    have f1 := AutoSeq1.idx_int
    wp_walk using wpAny_loadPart' hl
    repeat (first
      | (refine wpAny_ite_false (decide_eq_false (by rw [c0]; exact Bool.false_ne_true)) ?_; wp_walk using wpAny_loadPart' hl)
      | (refine wpAny_ite_false (decide_eq_false (by rw [c1]; exact Bool.false_ne_true)) ?_; wp_walk using wpAny_loadPart' hl)
      | (refine wpAny_ite_true (decide_eq_true c2) ?_; wp_walk using wpAny_loadPart' hl))
    exact ⟨_, rfl, h⟩

def rRepA (K : PySem.W.Frag) : R2 := fun x y H Q => ∃ l k xs, x = .ref l ∧ y = .int k ∧ SqT K H l xs ∧ -(2 ^ 63) ≤ k ∧ k < 2 ^ 63 ∧ xs.length * k.toNat ≤ sizeLine ∧
  (xs = [] ∨ k = 1 → Q (.ref l) H) ∧ (¬ (xs = [] ∨ k = 1) → ∀ p, H p = none → Q (.ref p) (upd H p (.tup (List.replicate k.toNat xs).flatten)))
section
variable {X : Cx}
theorem op_repA : OpR X (binaryOp .Mult) (rRepA X.K) := by
  intro pins s σ H x y v u Q I rx ry h
  obtain ⟨l, k, xs, rfl, rfl, hT, h1, h2, hz, q1, q2⟩ := h
  cases rx
  obtain ⟨t, rfl⟩ := ry
  obtain ⟨its, r, ⟨⟨cls, dd, data, sl⟩, ho, hc, n, hd⟩, hs⟩ := I.tuple hT
  simp only at hc hd
  subst hc hd
  have hle : its.length = xs.length := r.length.symm
  have c0 : (decide (k < -(2 ^ 63)) || decide (k ≥ 2 ^ 63)) = false := by
    rw [decide_eq_false (by omega), decide_eq_false (by omega)] <;> rfl
  refine wpAny_binaryOp_repeat_ref (T := "tuple") (U := "int") (by decide) ⟨_, ho, rfl⟩ (fun s' => typeIs_int s' k t) noFill_tuple_mul F.fills_int_mul F.slot_int_rmul repeat_tuple F.slot_int_index.lookup
    (call_meets F.slot_int_rmul (typeIs_int s k t) F.entry_int_rmul (F.args_int_rmul_2 _ _) (int_rmul_tuple k t l its.toArray n dd sl)
      ⟨ho, rfl, ⟨_, ho, rfl⟩, ?_⟩)
  have emp : its.toArray.isEmpty = true ↔ xs = [] := by
    rw [List.isEmpty_toArray, List.isEmpty_iff]
    constructor
    · intro e; rw [e] at hle; exact List.eq_nil_of_length_eq_zero hle.symm
    · intro e; rw [e] at hle; exact List.eq_nil_of_length_eq_zero hle
  by_cases c1 : xs = [] ∨ k = 1
  · have c1' : (its.toArray.isEmpty || k == 1) = true := by
      rw [Bool.or_eq_true]
      rcases c1 with e | e
      · exact .inl (emp.mpr e)
      · exact .inr (by simp [e])
    refine call_meets F.slot_tuple_mul ⟨_, ho, rfl⟩ F.entry_tuple_mul (F.args_tuple_mul_2 _ _) (tuple_mul1 l its.toArray n dd sl k t c0 c1') ⟨ho, ?_⟩
    exact ⟨.ref l, H, I, rfl, q1 c1⟩
  · have hne : xs ≠ [] := fun e => c1 (.inl e)
    have hk : k ≠ 1 := fun e => c1 (.inr e)
    have hi : its.toArray.isEmpty = false := by
      cases e : its.toArray.isEmpty with
      | false => rfl
      | true => exact absurd (emp.mp e) hne
    have c1' : (its.toArray.isEmpty || k == 1) = false := by
      rw [hi, Bool.false_or]
      exact beq_eq_false_iff_ne.mpr hk
    by_cases c2 : k ≤ 0
    · have c2' : (decide (k ≤ 0) || its.toArray.isEmpty) = true := by rw [decide_eq_true c2]; rfl
      refine call_meets F.slot_tuple_mul ⟨_, ho, rfl⟩ F.entry_tuple_mul (F.args_tuple_mul_2 _ _) (tuple_mul0 l its.toArray n dd sl k t c0 c1' c2') ⟨ho, ?_⟩
      have e0 : (List.replicate k.toNat xs).flatten = [] := by rw [show k.toNat = 0 by omega]; rfl
      have q3 := q2 c1
      rw [e0] at q3
      refine ⟨.ref s.heap.objs.size, _, I.laid (t' := s.toks) (o := .tup []) (fun b ob q => Heap.get?_push_of_some _ q) (Nat.le_refl _) ?_, rfl, q3 _ (I.hok.fresh (Nat.le_refl _))⟩
      exact ⟨by simp, [], .nil, IsTup.new _ _⟩
    · have c2' : (decide (k ≤ 0) || its.toArray.isEmpty) = false := by rw [hi, Bool.or_false]; exact decide_eq_false c2
      have hsz0 : its.toArray.size = xs.length := by rw [List.size_toArray, hle]
      have hkk : ((k.toNat : Nat) : Int) = k := by omega
      have hm : ((its.toArray.size : Nat) : Int) * k ≤ (sizeLine : Nat) := by
        rw [hsz0, ← hkk]
        exact_mod_cast hz
      have hl2 : (sizeLine : Nat) = 16777216 := sizeLine_eq
      have flen : (List.replicate k.toNat its).flatten.length ≤ sizeLine := by
        rw [PyProof.Rows.lm_len_rep_flat, hle, Nat.mul_comm]
        exact hz
      have c4 : Builtin.Tuple.tupleTooMany (((its.toArray.size : Nat) : Int) * k) = false := by
        unfold Builtin.Tuple.tupleTooMany
        exact decide_eq_false (by omega)
      refine call_meets F.slot_tuple_mul ⟨_, ho, rfl⟩ F.entry_tuple_mul (F.args_tuple_mul_2 _ _) (tuple_mulW l its.toArray n dd sl k t c0 c1' c2' (by omega) c4 (by rw [size_rep, List.size_toArray]; exact flen)) ⟨ho, ?_⟩
      rw [size_rep]
      refine ⟨.ref s.heap.objs.size, _, I.laid (t' := s.toks) (o := .tup (List.replicate k.toNat xs).flatten) (fun b ob q => Heap.get?_push_of_some _ q) (Nat.le_refl _) ?_, rfl, q2 c1 _ (I.hok.fresh (Nat.le_refl _))⟩
      exact ⟨by rw [PyProof.Rows.lm_len_rep_flat, Nat.mul_comm]; exact hz, _, r.rep k.toNat, IsTup.new _ _⟩
def CDivZ (j : Int) : Prop := j ≠ 0 ∧ j.natAbs.log2 < 9000
theorem op_fdivZ : OpR X (binaryOp .FloorDiv) (rI (fun _ j => CDivZ j) fun i j => .int (i.fdiv j)) := opI fun i j _ _ _ _ _ hc q =>
  floordiv_int hc.1 q (.inl (PyProof.noPylong_of_log2 hc.2))
end
end L2
namespace Cl
open PySem PySem.Spec PyProof.Rows L2
/-- the reading of an operator whose answer is the clean one -/
def rC (R : RC) (f : Hc → D → D → Option D) : R2 := fun x y H Q => ∃ ρ φ h a b d, RelH R ρ φ H h ∧ RD R ρ φ H a x ∧ RD R ρ φ H b y ∧ f h a b = some d ∧
  ∀ ρ' v H', Ext ρ ρ' H H' → RelH R ρ' φ H' h → RD R ρ' φ H' d v → Q v H'
section
variable {R : RC} {ρ φ : List Addr} {H : Hp} {h : Hc}
/-- a new tuple, a new list -/
theorem new_tup (r : RelH R ρ φ H h) {p : Addr} (hp : H p = none) {ds : List D} {vs : List V} (q : RDs R ρ φ H ds vs) :
    Ext ρ ρ H (upd H p (.tup vs)) ∧ RelH R ρ φ (upd H p (.tup vs)) h ∧ RD R ρ φ (upd H p (.tup vs)) (.tup ds) (.ref p) := by
  have pn : p ∉ ρ := fun z => by obtain ⟨u, e⟩ := r.some_at z; rw [hp] at e; cases e
  have e : Ext ρ ρ H (upd H p (.tup vs)) := Ext.fresh hp
  refine ⟨e, (r.fresh hp).weak (fun a ha => by simp [ha]), ?_⟩
  simp only [RD]
  exact ⟨p, vs, rfl, ⟨upd_same, pn, r.free hp⟩, q.ext e⟩
theorem new_lst (r : RelH R ρ φ H h) {p : Addr} (hp : H p = none) {ds : List D} {vs : List V} (q : RDs R ρ φ H ds vs) :
    Ext ρ ρ H (upd H p (.lst vs)) ∧ RelH R ρ φ (upd H p (.lst vs)) h ∧ RD R ρ φ (upd H p (.lst vs)) (.lst ds) (.ref p) := by
  have pn : p ∉ ρ := fun z => by obtain ⟨u, e⟩ := r.some_at z; rw [hp] at e; cases e
  have e : Ext ρ ρ H (upd H p (.lst vs)) := Ext.fresh hp
  refine ⟨e, (r.fresh hp).weak (fun a ha => by simp [ha]), ?_⟩
  simp only [RD]
  exact ⟨p, vs, rfl, ⟨upd_same, pn, r.free hp⟩, q.ext e⟩
/-- the same, held back -/
theorem new_lstF (r : RelH R ρ φ H h) {p : Addr} (hp : H p = none) {ds : List D} {vs : List V} (q : RDs R ρ φ H ds vs) :
    Ext ρ ρ H (upd H p (.lst vs)) ∧ RelH R ρ (p :: φ) (upd H p (.lst vs)) h ∧ RDs R ρ (p :: φ) (upd H p (.lst vs)) ds vs :=
  ⟨Ext.fresh hp, r.fresh hp, q.fresh hp⟩
end
theorem mulOk_ok {i j : Int} (h : mulOk i j = true) : IntMulOk i j := by
  unfold mulOk at h
  simp only [Bool.or_eq_true, decide_eq_true_eq] at h
  rcases h with (h | h) | h
  · exact .of_left h
  · exact .of_right h
  · have h3 : CMulX i j := by
      unfold CMulX
      unfold bitsI at h
      omega
    exact h3.ok
section
variable {X : Cx} {R : RC} (hK : R.K = X.K)
include hK
theorem bin_add : OpR X (binaryOp .Add) (rC R addF) := by
  intro pins s σ H x y v u Q I rx ry ⟨ρ, φ, h, a, b, d, rH, ra, rb, e, k⟩
  have lists : addL h a b = some d → wpAny (model X.prog X.w) X.A (binaryOp .Add v u) (EP X pins σ Q) X.xe s := by
    intro e
    unfold addL at e
    split at e
    · rename_i xs ys ea eb
      split at e
      · rename_i hz
        cases e
        obtain ⟨l, vs, rfl, h1, h2⟩ := ra.der_lst rH ea
        obtain ⟨m, ws, rfl, h3, h4⟩ := rb.der_lst rH eb
        refine op_cat pins s σ H _ _ v u Q I rx ry ⟨l, m, vs, ws, rfl, rfl, h1, h3, ?_, fun p hp => ?_⟩
        · rw [← h2.len, ← h4.len, ← line_eq]; exact hz
        · obtain ⟨e1, e2, e3⟩ := new_lst rH hp (h2.append h4)
          exact k _ _ _ e1 e2 e3
      · cases e
    · cases e
  unfold addF at e
  split at e
  · cases e
    simp only [RD] at ra rb
    subst ra rb
    exact op_add pins s σ H _ _ v u Q I rx ry ⟨_, _, rfl, rfl, k _ _ _ Ext.refl rH (by simp only [RD])⟩
  · rename_i x y
    split at e
    · rename_i hz
      cases e
      simp only [RD] at ra rb
      subst ra rb
      exact op_add_str pins s σ H _ _ v u Q I rx ry ⟨_, _, rfl, rfl, by rw [← line_eq]; exact hz, k _ _ _ Ext.refl rH (by simp only [RD])⟩
    · cases e
  · rename_i xs ys
    split at e
    · rename_i hz
      cases e
      simp only [RD] at ra rb
      obtain ⟨l, vs, rfl, h1, h2⟩ := ra
      obtain ⟨m, ws, rfl, h3, h4⟩ := rb
      refine op_catA pins s σ H _ _ v u Q I rx ry ⟨l, m, vs, ws, rfl, rfl, hK ▸ h1.sq, hK ▸ h3.sq, ?_, fun z => ?_, fun z z2 => ?_, fun z z2 p hp => ?_⟩
      · rw [← h2.len, ← h4.len, ← line_eq]; exact hz
      · have : xs = [] := by
          have := h2.len
          rw [z] at this
          exact List.eq_nil_of_length_eq_zero this
        subst this
        refine k _ _ _ Ext.refl rH ?_
        simp only [RD, List.nil_append]
        exact ⟨m, ws, rfl, h3, h4⟩
      · have : ys = [] := by
          have := h4.len
          rw [z2] at this
          exact List.eq_nil_of_length_eq_zero this
        subst this
        refine k _ _ _ Ext.refl rH ?_
        simp only [RD, List.append_nil]
        exact ⟨l, vs, rfl, h1, h2⟩
      · obtain ⟨e1, e2, e3⟩ := new_tup rH hp (h2.append h4)
        exact k _ _ _ e1 e2 e3
    · cases e
  · exact lists e
theorem bin_mul : OpR X (binaryOp .Mult) (rC R mulF) := by
  intro pins s σ H x y v u Q I rx ry ⟨ρ, φ, h, a, b, d, rH, ra, rb, e, k⟩
  unfold mulF at e
  split at e
  · split at e
    · rename_i hz
      cases e
      simp only [RD] at ra rb
      subst ra rb
      obtain ⟨t, rfl⟩ := rx
      obtain ⟨t', rfl⟩ := ry
      exact mul_int ⟨.int _, H, I.tok _, ⟨_, rfl⟩, k _ _ _ Ext.refl rH (by simp only [RD])⟩ (mulOk_ok hz)
    · cases e
  · rename_i xs n
    split at e
    · rename_i hz
      cases e
      simp only [RD] at ra rb
      obtain ⟨l, vs, rfl, h1, h2⟩ := ra
      subst rb
      have hl := h2.len
      refine op_repA pins s σ H _ _ v u Q I rx ry ⟨l, n, vs, rfl, rfl, hK ▸ h1.sq, hz.1, hz.2.1, ?_, fun z => ?_, fun _ p hp => ?_⟩
      · rw [← hl, ← line_eq]; exact hz.2.2
      · have e2 : (List.replicate n.toNat xs).flatten = xs := by
          rcases z with z | z
          · have : xs = [] := by rw [z] at hl; exact List.eq_nil_of_length_eq_zero hl
            subst this
            simp
          · subst z
            simp
        rw [e2] at k
        refine k _ _ _ Ext.refl rH ?_
        simp only [RD]
        exact ⟨l, vs, rfl, h1, h2⟩
      · obtain ⟨e1, e2, e3⟩ := new_tup rH hp (h2.rep n.toNat)
        exact k _ _ _ e1 e2 e3
    · cases e
  · rename_i n _ _
    unfold mulL at e
    split at e
    · rename_i xs ea
      split at e
      · rename_i hz
        cases e
        obtain ⟨l, vs, rfl, h1, h2⟩ := ra.der_lst rH ea
        simp only [RD] at rb
        subst rb
        refine op_rep pins s σ H _ _ v u Q I rx ry ⟨l, n, vs, rfl, rfl, h1, hz.1, hz.2.1, ?_, fun p hp => ?_⟩
        · rw [← h2.len, ← line_eq]; exact hz.2.2
        · obtain ⟨e1, e2, e3⟩ := new_lst rH hp (h2.rep n.toNat)
          exact k _ _ _ e1 e2 e3
      · cases e
    · cases e
  · cases e
omit hK in
theorem bin_int {op : Operator} {f : Int → Int → Option Int} {C : Int → Int → Prop} {g : Int → Int → Int} (ho : OpR X (binaryOp op) (rI C fun i j => .int (g i j))) (hf : ∀ i j k, f i j = some k → C i j ∧ k = g i j) :
    OpR X (binaryOp op) (rC R fun _ => int2 f) := by
  intro pins s σ H x y v u Q I rx ry ⟨ρ, φ, h, a, b, d, rH, ra, rb, e, k⟩
  have e' : int2 f a b = some d := e
  unfold int2 at e'
  split at e'
  · rename_i i j
    cases q : f i j with
    | none => rw [q] at e'; cases e'
    | some n =>
      rw [q] at e'
      cases e'
      obtain ⟨c, rfl⟩ := hf i j n q
      simp only [RD] at ra rb
      subst ra rb
      exact ho pins s σ H _ _ v u Q I rx ry ⟨i, j, rfl, rfl, c, k _ _ _ Ext.refl rH (by simp only [RD])⟩
  · cases e'
theorem binR (op : Operator) : OpR X (binaryOp op) (rC R fun h => binF h op) := by
  cases op with
  | Add => exact bin_add hK
  | Mult => exact bin_mul hK
  | Sub => exact bin_int (C := fun _ _ => True) (g := fun i j => i - j) (opI fun i j t u s Q E _ q => sub_int q) (fun i j k q => by cases q; exact ⟨trivial, rfl⟩)
  | FloorDiv =>
    refine bin_int op_fdivZ (fun i j k q => ?_)
    split at q
    · rename_i hz
      cases q
      unfold divOk at hz
      simp only [Bool.and_eq_true, decide_eq_true_eq] at hz
      exact ⟨hz, rfl⟩
    · cases q
  | Mod =>
    refine bin_int op_modN (fun i j k q => ?_)
    split at q
    · cases q
    · rename_i hz
      cases q; exact ⟨hz, rfl⟩
  | Pow =>
    refine bin_int op_pow (fun i j k q => ?_)
    split at q
    · rename_i hz; cases q; exact ⟨hz, rfl⟩
    · cases q
  | LShift =>
    refine bin_int op_shlW (fun i j k q => ?_)
    split at q
    · rename_i hz; cases q
      refine ⟨⟨hz.1, ?_⟩, rfl⟩
      have := hz.2
      unfold bitsI at this
      have e : (2 : Int) ^ 27 = 134217728 := by decide
      rw [e]; exact this
    · cases q
  | RShift =>
    refine bin_int op_shr (fun i j k q => ?_)
    split at q
    · rename_i hz; cases q; exact ⟨hz, rfl⟩
    · cases q
  | BitAnd => exact bin_int (C := fun _ _ => True) (g := fun i j => Builtin.bitAnd i j) (fun pins s σ H x y v u Q I rx ry ⟨i, j, e1, e2, _, q⟩ => op_and pins s σ H x y v u Q I rx ry ⟨i, j, e1, e2, q⟩) (fun i j k q => by cases q; exact ⟨trivial, rfl⟩)
  | _ => exact fun pins s σ H x y v u Q I rx ry ⟨ρ, φ, h, a, b, d, rH, ra, rb, e, k⟩ => by cases e
end
end Cl

namespace Cl
open PySem PySem.Spec PyProof.Rows L2
/-! ## dicts -/
section
variable {R : RC} {ρ φ : List Addr} {H : Hp} {h : Hc}
theorem keyD_rd {d : D} {k : Key} {v : V} (e : keyD d = some k) (r : RD R ρ φ H d v) : v = kV k := by
  cases d with
  | int i => simp only [keyD, Option.some.injEq] at e; subst e; simp only [RD] at r; exact r
  | str x => simp only [keyD, Option.some.injEq] at e; subst e; simp only [RD] at r; exact r
  | _ => simp [keyD] at e
theorem keysD_rd : ∀ {ds : List D} {ks : List Key} {vs : List V}, keysD ds = some ks → RDs R ρ φ H ds vs → vs = ks.map kV
  | [], ks, vs, e, r => by
    simp only [keysD, Option.some.injEq] at e; subst e
    simp only [RDs] at r; exact r
  | d :: ds, ks, vs, e, r => by
    simp only [keysD] at e
    simp only [RDs] at r
    obtain ⟨v, vs', rfl, h1, h2⟩ := r
    split at e
    · rename_i k ks' e1 e2
      cases e
      rw [List.map_cons, ← keyD_rd e1 h1, ← keysD_rd e2 h2]
    · cases e
theorem krd_val {κ : Type} [DecidableEq κ] {kvs : List (κ × D)} {kws : List (κ × V)} (r : KRD R ρ φ H kvs kws) (k : κ) :
    (valD kvs k = none ∧ valV kws k = none) ∨ ∃ d v, valD kvs k = some d ∧ valV kws k = some v ∧ RD R ρ φ H d v := by
  obtain ⟨h1, h2⟩ := r
  induction kvs generalizing kws with
  | nil =>
    cases kws with
    | nil => exact .inl ⟨rfl, rfl⟩
    | cons b bs => simp at h1
  | cons a as ih =>
    cases kws with
    | nil => simp at h1
    | cons b bs =>
      simp only [List.map_cons, List.cons.injEq] at h1
      simp only [List.map_cons, RDs] at h2
      obtain ⟨v, vs, e, r1, r2⟩ := h2
      simp only [List.cons.injEq] at e
      obtain ⟨rfl, rfl⟩ := e
      by_cases hk : a.1 = k
      · refine .inr ⟨a.2, b.2, ?_, ?_, r1⟩
        · simp [valD, hk]
        · rw [valV_pos (by rw [← h1.1]; exact hk)]
      · have e1 : valD (a :: as) k = valD as k := by simp [valD, hk]
        have e2 : valV (b :: bs) k = valV bs k := valV_neg (by rw [← h1.1]; exact hk)
        rw [e1, e2]
        exact ih h1.2 r2
theorem krd_put {κ : Type} [DecidableEq κ] {kvs : List (κ × D)} {kws : List (κ × V)} (r : KRD R ρ φ H kvs kws) (k : κ) {d : D} {v : V} (q : RD R ρ φ H d v) : KRD R ρ φ H (putD kvs k d) (putK kws k v) := by
  have anyE : (kvs.any fun kv => decide (kv.1 = k)) = (kws.any fun kv => decide (kv.1 = k)) := by
    have h1 := r.1
    clear r
    induction kvs generalizing kws with
    | nil => cases kws with
      | nil => rfl
      | cons b bs => simp at h1
    | cons a as ih => cases kws with
      | nil => simp at h1
      | cons b bs =>
        simp only [List.map_cons, List.cons.injEq] at h1
        rw [List.any_cons, List.any_cons, ih h1.2, h1.1]
  unfold putD putK
  rw [anyE]
  split
  · obtain ⟨h1, h2⟩ := r
    clear anyE
    induction kvs generalizing kws with
    | nil => cases kws with
      | nil => exact ⟨rfl, h2⟩
      | cons b bs => simp at h1
    | cons a as ih => cases kws with
      | nil => simp at h1
      | cons b bs =>
        simp only [List.map_cons, List.cons.injEq] at h1
        simp only [List.map_cons, RDs] at h2
        obtain ⟨w, vs, e, r1, r2⟩ := h2
        simp only [List.cons.injEq] at e
        obtain ⟨rfl, rfl⟩ := e
        have ih' : KRD R ρ φ H (List.map (fun kv => if kv.1 = k then (kv.1, d) else kv) as) (List.map (fun kv => if kv.1 = k then (kv.1, v) else kv) bs) := by
          by_cases hany : (bs.any fun kv => decide (kv.1 = k)) = true
          · exact ih hany h1.2 r2
          · -- nothing to change behind
            have ne : ∀ x ∈ bs, ¬ x.1 = k := fun x hx e => hany (List.any_eq_true.mpr ⟨x, hx, by simp [e]⟩)
            have ne2 : ∀ x ∈ as, ¬ x.1 = k := fun x hx e => by
              have : x.1 ∈ as.map (·.1) := List.mem_map.mpr ⟨x, hx, rfl⟩
              rw [h1.2] at this
              obtain ⟨y, hy, ey⟩ := List.mem_map.mp this
              exact ne y hy (ey.trans e)
            have m1 : List.map (fun kv => if kv.1 = k then (kv.1, d) else kv) as = as := by
              conv => rhs; rw [← List.map_id as]
              exact List.map_congr_left fun x hx => by rw [if_neg (ne2 x hx)]; rfl
            have m2 : List.map (fun kv => if kv.1 = k then (kv.1, v) else kv) bs = bs := by
              conv => rhs; rw [← List.map_id bs]
              exact List.map_congr_left fun x hx => by rw [if_neg (ne x hx)]; rfl
            rw [m1, m2]
            exact ⟨h1.2, r2⟩
        obtain ⟨i1, i2⟩ := ih'
        by_cases hk : b.1 = k
        · have hk' : a.1 = k := by rw [h1.1]; exact hk
          refine ⟨?_, ?_⟩
          · simp only [List.map_cons, if_pos hk, if_pos hk', h1.1, i1]
          · simp only [List.map_cons, if_pos hk, if_pos hk']
            exact RDs.cons q i2
        · have hk' : ¬ a.1 = k := by rw [h1.1]; exact hk
          refine ⟨?_, ?_⟩
          · simp only [List.map_cons, if_neg hk, if_neg hk', h1.1, i1]
          · simp only [List.map_cons, if_neg hk, if_neg hk']
            exact RDs.cons r1 i2
  · obtain ⟨h1, h2⟩ := r
    refine ⟨by simp [h1], ?_⟩
    rw [List.map_append, List.map_append]
    exact h2.append (RDs.one q)
theorem look_get (r : RelH R ρ φ H h) {d : D} {y : V} (q : RD R ρ φ H d y) {n : Nat} {l : Addr} (el : ρ[n]? = some l) {o : Option D} (e : lookD h n d = some o) :
    ∃ o', DGet H l y o' ∧ ((o = none ∧ o' = none) ∨ ∃ d' v, o = some d' ∧ o' = some v ∧ RD R ρ φ H d' v) := by
  unfold lookD at e
  split at e
  · rename_i kvs hc
    obtain ⟨k, hk, rfl⟩ := Option.map_eq_some_iff.mp e
    obtain ⟨kws, h1, h2⟩ := r.cells n l _ el hc
    have := keyD_rd hk q
    subst this
    exact ⟨_, DGet.k h1, krd_val h2 k⟩
  · rename_i kvs hc
    obtain ⟨k, hk, rfl⟩ := Option.map_eq_some_iff.mp e
    obtain ⟨kws, h1, h2⟩ := r.cells n l _ el hc
    cases d with
    | tup ds =>
      simp only [RD] at q
      obtain ⟨a, vs, rfl, h3, h4⟩ := q
      have := keysD_rd (show keysD ds = some k from hk) h4
      subst this
      exact ⟨_, DGet.t h1 h3.1, krd_val h2 k⟩
    | _ => simp [tkeyD] at hk
  · cases e
end
section
variable {X : Cx} {R : RC} (hK : R.K = X.K)
/-- the reading of a comparison -/
def rB (R : RC) (f : Hc → D → D → Option Bool) : R2 := fun x y H Q => ∃ ρ φ h a b d, RelH R ρ φ H h ∧ RD R ρ φ H a x ∧ RD R ρ φ H b y ∧ f h a b = some d ∧ Q (.bl d) H
theorem der_str {h : Hc} {b : D} {t : Str} (e : der h b = .str t) : b = .str t := by
  cases b with
  | ref n =>
    exfalso
    cases hc : h[n]? with
    | none => simp [der, hc] at e
    | some c => cases c <;> simp [der, hc] at e
  | _ => simpa [der] using e
theorem der_ref {h : Hc} {b : D} {n : Nat} (e : der h b = .ref n) : b = .ref n := by
  cases b with
  | ref m =>
    cases hc : h[m]? with
    | none => simpa [der, hc] using e
    | some c => cases c <;> simp [der, hc] at e <;> rw [e]
  | _ => simp [der] at e
theorem rB_of {X : Cx} {R : RC} {op : CmpOp} {f g : Hc → D → D → Option Bool} (k : OpR X (compareOp op) (rB R f)) (e : ∀ h a b, f h a b = g h a b) : OpR X (compareOp op) (rB R g) := by
  have : f = g := by funext h a b; exact e h a b
  rw [← this]; exact k
theorem any_toPys (ys : List D) (e : PyData) : (D.toPys ys).any (fun z => PyData.eqv z e) = ys.any fun z => PyData.eqv z.toPy e := by
  induction ys with
  | nil => simp [D.toPys]
  | cons z zs ih => simp only [D.toPys, List.any_cons, ih]
theorem depth_ok {d : D} {A : Around} {e : D} (hu : A.units + 100 < cLine) (k : d.okD = true) : A.units + min d.toPy.depth e.toPy.depth < cLine := by
  have h1 := SeqAt.depth_of_shaped (okD_shaped k)
  have h2 : min d.toPy.depth e.toPy.depth ≤ d.toPy.depth := Nat.min_le_left _ _
  omega
include hK
theorem cmp_eq (hu : X.A.units + 100 < cLine) : OpR X (compareOp .Eq) (rB R eqF) := by
  intro pins s σ H x y v u Q I rx ry ⟨ρ, φ, h, a, b, d, rH, ra, rb, e, k⟩
  unfold eqF at e
  split at e
  · cases e
    simp only [RD] at ra rb
    subst ra rb
    refine op_eq pins s σ H _ _ v u Q I rx ry ⟨rfl, ?_⟩
    rename_i i j
    have : decide (V.int i = V.int j) = decide (i = j) := by simp
    rw [this]; exact k
  · cases e
    simp only [RD] at ra rb
    subst ra rb
    exact op_eq pins s σ H _ _ v u Q I rx ry ⟨rfl, by simpa using k⟩
  · cases e
    simp only [RD] at ra rb
    subst ra rb
    exact op_eq pins s σ H _ _ v u Q I rx ry ⟨rfl, by simpa using k⟩
  · unfold eqG at e
    split at e
    · rename_i hz
      cases e
      rw [Bool.and_eq_true] at hz
      exact op_eqD (by omega) pins s σ H _ _ v u Q I rx ry ⟨_, _, hK ▸ ra.der_dp rH (okD_plain hz.1), hK ▸ rb.der_dp rH (okD_plain hz.2), okD_shaped hz.1, okD_shaped hz.2, k⟩
    · cases e
theorem cmp_ne (hu : X.A.units + 100 < cLine) : OpR X (compareOp .NotEq) (rB R fun h a b => (eqF h a b).map (!·)) := by
  intro pins s σ H x y v u Q I rx ry ⟨ρ, φ, h, a, b, d, rH, ra, rb, e0, k⟩
  have e1 : (eqF h a b).map (!·) = some d := e0
  obtain ⟨c, e, hc⟩ := Option.map_eq_some_iff.mp e1
  subst hc
  unfold eqF at e
  split at e
  · cases e
    simp only [RD] at ra rb
    subst ra rb
    refine op_ne pins s σ H _ _ v u Q I rx ry ⟨rfl, ?_⟩
    rename_i i j
    have : decide (V.int i = V.int j) = decide (i = j) := by simp
    rw [this]; exact k
  · cases e
    simp only [RD] at ra rb
    subst ra rb
    exact op_ne pins s σ H _ _ v u Q I rx ry ⟨rfl, by simpa using k⟩
  · cases e
    simp only [RD] at ra rb
    subst ra rb
    exact op_ne pins s σ H _ _ v u Q I rx ry ⟨rfl, by simpa using k⟩
  · unfold eqG at e
    split at e
    · rename_i hz
      cases e
      rw [Bool.and_eq_true] at hz
      exact op_neD (by omega) pins s σ H _ _ v u Q I rx ry ⟨_, _, hK ▸ ra.der_dp rH (okD_plain hz.1), hK ▸ rb.der_dp rH (okD_plain hz.2), okD_shaped hz.1, okD_shaped hz.2, k⟩
    · cases e
/-- the four orders: by the rule for ints and the rule for data -/
theorem cmp_ord {op : CmpOp} {g : Bool → Bool} {swap : Bool} (hu : X.A.units + 100 < cLine)
    (hi : OpR X (compareOp op) (rI0 fun i j => .bl (g (decide ((if swap then j else i) < (if swap then i else j))))))
    (hd : ∀ (s : Shared) (a b : Value) (da db : PyData) (as bs : List Addr) (E : Value → Shared → Prop) (Q : Value → Shared → Prop), Reads s.heap a da as → Reads s.heap b db bs → PySem.W.alike da db = true → PySem.W.alike db da = true → da ≠ .none → db ≠ .none → X.A.units + min da.depth db.depth < cLine →
      Q (.bool (g (PySem.W.dataLt (if swap then db else da) (if swap then da else db)))) s → wpAny (model X.prog X.w) X.A (compareOp op a b) Q E s) :
    OpR X (compareOp op) (rB R fun h a b => (ltF h (if swap then b else a) (if swap then a else b)).map g) := by
  intro pins s σ H x y v u Q I rx ry ⟨ρ, φ, h, a, b, d, rH, ra, rb, e0, k⟩
  have e1 : (ltF h (if swap then b else a) (if swap then a else b)).map g = some d := e0
  obtain ⟨c, e, hc⟩ := Option.map_eq_some_iff.mp e1
  subst hc
  have hints : ∀ i j, a = .int i → b = .int j → c = decide ((if swap then j else i) < (if swap then i else j)) → wpAny (model X.prog X.w) X.A (compareOp op v u) (EP X pins σ Q) X.xe s := by
    intro i j ea eb ec
    subst ea eb ec
    simp only [RD] at ra rb
    subst ra rb
    exact hi pins s σ H _ _ v u Q I rx ry ⟨i, j, rfl, rfl, k⟩
  have data : (der h a).okD = true → (der h b).okD = true → PySem.W.alike (der h a).toPy (der h b).toPy = true → PySem.W.alike (der h b).toPy (der h a).toPy = true → (der h a).toPy ≠ .none → (der h b).toPy ≠ .none →
      c = PySem.W.dataLt (if swap then (der h b).toPy else (der h a).toPy) (if swap then (der h a).toPy else (der h b).toPy) → wpAny (model X.prog X.w) X.A (compareOp op v u) (EP X pins σ Q) X.xe s := by
    intro ka kb al al2 na nb ec
    obtain ⟨as, r1⟩ := Dp.reads I _ x v (hK ▸ ra.der_dp rH (okD_plain ka)) rx
    obtain ⟨bs, r2⟩ := Dp.reads I _ y u (hK ▸ rb.der_dp rH (okD_plain kb)) ry
    exact hd s v u _ _ as bs _ _ r1 r2 al al2 na nb (depth_ok hu ka) ⟨.bl _, H, I, rfl, by rw [← ec]; exact k⟩
  have nn : ∀ d : D, d.okD = true → (!d.isN) = true → d.toPy ≠ .none := fun d hd hn => by
    cases d with
    | non => simp [D.isN] at hn
    | ref n => simp [D.okD, D.plain] at hd
    | fn n => simp [D.okD, D.plain] at hd
    | _ => simp [D.toPy]
  have al_nn : ∀ p q : PyData, PySem.W.alike p q = true → p ≠ .none → q ≠ .none := fun p q al hp hq => by
    subst hq
    cases p <;> simp [PySem.W.alike] at al hp
  cases swap with
  | false =>
    simp only [Bool.false_eq_true, if_false] at e hints data
    unfold ltF at e
    split at e
    · cases e; exact hints _ _ rfl rfl rfl
    · unfold ltG at e
      split at e
      · rename_i hz
        cases e
        simp only [Bool.and_eq_true] at hz
        obtain ⟨⟨⟨ka, kb⟩, al⟩, hn⟩ := hz
        have na := nn _ ka hn
        exact data ka kb al (by rw [PySem.W.alike_comm]; exact al) na (al_nn _ _ al na) rfl
      · cases e
  | true =>
    simp only [if_true] at e hints data
    unfold ltF at e
    split at e
    · cases e; exact hints _ _ rfl rfl rfl
    · unfold ltG at e
      split at e
      · rename_i hz
        cases e
        simp only [Bool.and_eq_true] at hz
        obtain ⟨⟨⟨kb, ka⟩, al⟩, hn⟩ := hz
        have nb := nn _ kb hn
        exact data ka kb (by rw [PySem.W.alike_comm]; exact al) al (al_nn _ _ al nb) nb rfl
      · cases e
theorem cmp_in (neg : Bool) (hu : X.A.units + 100 < cLine) : OpR X (compareOp (if neg then .NotIn else .In)) (rB R fun h a b => (inF h a b).map fun c => if neg then !c else c) := by
  intro pins s σ H x y v u Q I rx ry ⟨ρ, φ, h, a, b, d, rH, ra, rb, e0, k⟩
  have e1 : (inF h a b).map (fun c => if neg then !c else c) = some d := e0
  obtain ⟨c, e, hc⟩ := Option.map_eq_some_iff.mp e1
  subst hc
  have fin : ∀ op, op = (if neg then CmpOp.NotIn else CmpOp.In) → (neg = false → wpAny (model X.prog X.w) X.A (compareOp .In v u) (EP X pins σ Q) X.xe s) → (neg = true → wpAny (model X.prog X.w) X.A (compareOp .NotIn v u) (EP X pins σ Q) X.xe s) → wpAny (model X.prog X.w) X.A (compareOp (if neg then .NotIn else .In) v u) (EP X pins σ Q) X.xe s := by
    intro op _ h1 h2
    cases neg with
    | false => exact h1 rfl
    | true => exact h2 rfl
  have data : ∀ ys t, der h b = t → (t = .lst ys ∨ t = .tup ys) → inData h a t ys = some c → wpAny (model X.prog X.w) X.A (compareOp (if neg then .NotIn else .In) v u) (EP X pins σ Q) X.xe s := by
    intro ys t et ht ec
    unfold inData at ec
    split at ec
    · rename_i hz
      cases ec
      rw [Bool.and_eq_true] at hz
      have kb : (der h b).okD = true := by rw [et]; exact hz.2
      obtain ⟨as, r1⟩ := Dp.reads I _ x v (hK ▸ ra.der_dp rH (okD_plain hz.1)) rx
      obtain ⟨bs, r2⟩ := Dp.reads I _ y u (hK ▸ rb.der_dp rH (okD_plain kb)) ry
      have sh := okD_shaped kb
      have hd := SeqAt.canLay_of_shaped (okD_shaped hz.1)
      have hdd := SeqAt.depth_of_shaped (okD_shaped hz.1)
      have anyE := any_toPys ys (der h a).toPy
      rw [et] at r2 sh
      rw [← anyE] at k
      rcases ht with rfl | rfl
      · simp only [D.toPy] at r2 sh
        have hx : PyData.canLayAll0 (D.toPys ys) = true := SeqAt.canLay_of_shaped sh
        have hr : X.A.units + 1 + min (PyData.depthAll (D.toPys ys)) (der h a).toPy.depth < cLine := by
          have := Nat.min_le_right (PyData.depthAll (D.toPys ys)) (der h a).toPy.depth
          omega
        exact fin _ rfl (fun z => by subst z; exact SeqAt.in_list_reads r2 r1 hx hd hr ⟨.bl _, H, I, rfl, by simpa using k⟩)
          (fun z => by subst z; exact SeqAt.notIn_list_reads r2 r1 hx hd hr ⟨.bl _, H, I, rfl, by simpa using k⟩)
      · simp only [D.toPy] at r2 sh
        have hx : PyData.canLayAll0 (D.toPys ys) = true := SeqAt.canLay_of_shaped sh
        have hr : X.A.units + 1 + min (PyData.depthAll (D.toPys ys)) (der h a).toPy.depth < cLine := by
          have := Nat.min_le_right (PyData.depthAll (D.toPys ys)) (der h a).toPy.depth
          omega
        exact fin _ rfl (fun z => by subst z; exact SeqAt.in_tuple_reads r2 r1 hx hd hr ⟨.bl _, H, I, rfl, by simpa using k⟩)
          (fun z => by subst z; exact SeqAt.notIn_tuple_reads r2 r1 hx hd hr ⟨.bl _, H, I, rfl, by simpa using k⟩)
    · cases ec
  unfold inF at e
  split at e
  · rename_i ys et
    exact data ys _ et (.inl rfl) e
  · rename_i ys et
    exact data ys _ et (.inr rfl) e
  · rename_i t et
    split at e
    · cases e
      simp only [RD] at ra
      subst ra
      have hb : b = .str t := der_str et
      subst hb
      simp only [RD] at rb
      subst rb
      exact fin _ rfl (fun z => by subst z; exact op_in_str pins s σ H _ _ v u Q I rx ry ⟨_, _, rfl, rfl, by simpa using k⟩)
        (fun z => by subst z; exact op_notin_str pins s σ H _ _ v u Q I rx ry ⟨_, _, rfl, rfl, by simpa using k⟩)
    · cases e
  · rename_i n et
    obtain ⟨o, e2, rfl⟩ := Option.map_eq_some_iff.mp e
    have hb : b = .ref n := der_ref et
    subst hb
    simp only [RD] at rb
    obtain ⟨l, el, rfl⟩ := rb
    obtain ⟨o', g, ho⟩ := look_get rH ra el e2
    have ho : o'.isSome = o.isSome := by
      rcases ho with ⟨rfl, rfl⟩ | ⟨_, _, rfl, rfl, _⟩ <;> rfl
    cases ry
    rw [← ho] at k
    exact fin _ rfl (fun z => by subst z; exact d_in (by omega) I g rx fun s' I' => ⟨.bl _, H, I', rfl, by simpa using k⟩)
      (fun z => by subst z; exact d_notIn (by omega) I g rx fun s' I' => ⟨.bl _, H, I', rfl, by simpa using k⟩)
  · cases e
theorem cmp_is (neg : Bool) : OpR X (compareOp (if neg then .IsNot else .Is)) (rB R fun h a b => (isNon a b).map fun c => if neg then !c else c) := by
  intro pins s σ H x y v u Q I rx ry ⟨ρ, φ, h, a, b, d, rH, ra, rb, e0, k⟩
  have e1 : (isNon a b).map (fun c => if neg then !c else c) = some d := e0
  obtain ⟨c, e, hc⟩ := Option.map_eq_some_iff.mp e1
  subst hc
  unfold isNon at e
  split at e
  · cases e
    have eb : y = .non := by simpa only [RD] using rb
    have ex : decide (x = .non) = a.isN := by
      cases a with
      | non => simp only [RD] at ra; subst ra; rfl
      | tup ds => simp only [RD] at ra; obtain ⟨_, _, rfl, _⟩ := ra; rfl
      | lst ds => simp only [RD] at ra; obtain ⟨_, _, rfl, _⟩ := ra; rfl
      | ref n => simp only [RD] at ra; obtain ⟨_, _, rfl⟩ := ra; rfl
      | _ => simp only [RD] at ra; subst ra; rfl
    cases neg with
    | false => exact op_isN pins s σ H _ _ v u Q I rx ry ⟨eb, by rw [ex]; exact k⟩
    | true => exact op_notN pins s σ H _ _ v u Q I rx ry ⟨eb, by rw [ex]; exact k⟩
  · cases e
theorem cmpR (op : CmpOp) (hu : X.A.units + 100 < cLine) : OpR X (compareOp op) (rB R fun h => cmpF h op) := by
  cases op with
  | Eq => exact cmp_eq hK hu
  | NotEq => exact cmp_ne hK hu
  | Lt =>
    have := cmp_ord (R := R) (op := .Lt) (g := id) (swap := false) hK hu (by simpa using op_lt) (fun s a b da db as bs E Q r1 r2 al _ n1 _ hd q => by simpa using PySem.W.lt_data r1 r2 al n1 hd (by simpa using q))
    exact rB_of this fun h a b => by simp [cmpF]
  | Gt =>
    have := cmp_ord (R := R) (op := .Gt) (g := id) (swap := true) hK hu (by simpa using op_gt) (fun s a b da db as bs E Q r1 r2 al _ n1 _ hd q => by simpa using PySem.W.gt_data r1 r2 al n1 hd (by simpa using q))
    exact rB_of this fun h a b => by simp [cmpF]
  | LtE =>
    have := cmp_ord (R := R) (op := .LtE) (g := (!·)) (swap := true) hK hu (by
      have := @op_le X
      have e : (fun i j : Int => V.bl (decide (i ≤ j))) = fun i j => V.bl (!decide (j < i)) := by
        funext i j
        congr 1
        by_cases h : i ≤ j
        · rw [decide_eq_true h, decide_eq_false (by omega)]; rfl
        · rw [decide_eq_false h, decide_eq_true (by omega)]; rfl
      rw [e] at this
      simpa using this) (fun s a b da db as bs E Q r1 r2 al _ n1 _ hd q => by simpa using PySem.W.le_data r1 r2 al n1 hd (by simpa using q))
    exact rB_of this fun h a b => by simp [cmpF]
  | GtE =>
    have := cmp_ord (R := R) (op := .GtE) (g := (!·)) (swap := false) hK hu (by
      have := @op_ge X
      have e : (fun i j : Int => V.bl (decide (j ≤ i))) = fun i j => V.bl (!decide (i < j)) := by
        funext i j
        congr 1
        by_cases h : j ≤ i
        · rw [decide_eq_true h, decide_eq_false (by omega)]; rfl
        · rw [decide_eq_false h, decide_eq_true (by omega)]; rfl
      rw [e] at this
      simpa using this) (fun s a b da db as bs E Q r1 r2 al _ n1 _ hd q => by simpa using PySem.W.ge_data r1 r2 al n1 hd (by simpa using q))
    exact rB_of this fun h a b => by simp [cmpF]
  | In => exact rB_of (cmp_in (R := R) hK false hu) fun h a b => by simp [cmpF]
  | NotIn => exact rB_of (cmp_in (R := R) hK true hu) fun h a b => by simp [cmpF]
  | Is => exact rB_of (cmp_is (R := R) hK false) fun h a b => by simp [cmpF]
  | IsNot => exact rB_of (cmp_is (R := R) hK true) fun h a b => by simp [cmpF]
end
end Cl

namespace Cl.So
open PySem PySem.Calls PyProof.Rows PySem.W
section
variable {prog : Program} {w : World} {A : Around} {E : Value → Shared → Prop} {s : Shared} {β : Type} {vs : List Value} {bs : List β} {enc : β → PyData} {R : Value → β → Prop}
/-- sorted(x), x a list or a tuple -/
theorem sorted_any {l : Addr} {T : String} {o : Obj} {n : Nat} {Q : Value → Shared → Prop} (hT : T = "list" ∨ T = "tuple") (ho : s.heap.get? l = some o) (hc : o.cls = .type T) (hd : o.data = .seq vs.toArray n)
    (e : EachIs R vs bs) (er : EachIs (fun v b => ∃ as, Reads s.heap v (enc b) as) vs bs) (hal : AllAlike (bs.map enc)) (hk : Sortable (bs.map enc)) (hL : bs.length ≤ sizeLine) (hu : ∀ b, b ∈ bs → A.units + 2 + (enc b).depth < cLine)
    (h : ∀ (h1 h' : Heap) (out : List Value) (c : Nat), (∀ b o', s.heap.get? b = some o' → h1.get? b = some o') → (∀ b o', h1.get? b = some o' → h'.get? b = some o') → h'.get? h1.objs.size = some (seqObj "list" out.toArray c) → out.length = bs.length → EachIs R out (bs.mergeSort (dataLe false enc)) → Q (.ref h1.objs.size) { s with heap := h' }) :
    wpAny (model prog w) A (call (.builtin "sorted") [.ref l]) Q E s := by
  have hlen := e.length
  refine call_function_entry_kw kind_sorted plain_sorted entry_sorted (args_sorted1 _) ?_
  unfold Builtin.«sorted»
  refine wpAny_bind (m := checkCount "sorted" 1 1 _) (wpAny_pure ?_)
  refine wpAny_bind (wpAny_collect_seq l hT ho hc hd (fun h1 k1 => ?_) (by rw [List.size_toArray, hlen]; exact hL))
  refine wpAny_bind (wpAny_newList ?_ (by show vs.toArray.toList.length ≤ _; rw [List.toList_toArray, hlen]; exact hL))
  have hat : (h1.push (seqObj "list" vs.toArray 0)).get? h1.objs.size = some (seqObj "list" vs.toArray 0) := Heap.get?_push_size _ rfl
  have k2 : ∀ b o', s.heap.get? b = some o' → (h1.push (seqObj "list" vs.toArray 0)).get? b = some o' := fun b o' q => Heap.get?_push_of_some _ (k1 b o' q)
  have ks : ∀ b o', s.heap.get? b = some o' → (sortingHeap (h1.push (seqObj "list" vs.toArray 0)) h1.objs.size vs).get? b = some o' := fun b o' q => sortingHeap_old (Nat.ne_of_lt (Heap.lt_size (k1 b o' q))) (k2 b o' q)
  have er' : EachIs (fun v b => ∃ as, Reads (sortingHeap (h1.push (seqObj "list" vs.toArray 0)) h1.objs.size vs) v (enc b) as) vs bs := er.mono fun _ _ ⟨as, r⟩ => ⟨as, PyProof.Rows.Reads.keeps ks r⟩
  show wpAny _ _ _ _ _ { s with heap := h1.push (seqObj "list" vs.toArray 0) }
  refine wpAny_bind (wpAny_holding (wpAny_call_entry_kw slot_list_sort ⟨_, hat, rfl⟩ entry_list_sort ?body (args_list_sort _)))
  case body =>
    show wpAny (model prog w) A.in1.in1 (Builtin.«list.sort» ⟨[.ref h1.objs.size], []⟩) _ _ _
    refine list_sort_vals (κ := dataKind (sortingHeap (h1.push (seqObj "list" vs.toArray 0)) h1.objs.size vs) (bs.map enc)) (s := { s with heap := h1.push (seqObj "list" vs.toArray 0) }) hat (SortsAt.data (s := { s with heap := sortingHeap (h1.push (seqObj "list" vs.toArray 0)) h1.objs.size vs }) (each_map (R := fun v d => ∃ as, Reads (sortingHeap (h1.push (seqObj "list" vs.toArray 0)) h1.objs.size vs) v d as) enc er') hal hk (bound_map hu)) (by rw [hlen]; exact hL) ?_
    obtain ⟨c, hc'⟩ : ∃ c, (sortedHeap (h1.push (seqObj "list" vs.toArray 0)) h1.objs.size vs (sortVals (dataKind (sortingHeap (h1.push (seqObj "list" vs.toArray 0)) h1.objs.size vs) (bs.map enc)) false vs vs).toArray).get? h1.objs.size = some (seqObj "list" (sortVals (dataKind (sortingHeap (h1.push (seqObj "list" vs.toArray 0)) h1.objs.size vs) (bs.map enc)) false vs vs).toArray c) := sortedHeap_at hat
    refine ⟨_, rfl, wpAny_pure ⟨_, rfl, h h1 _ _ c k1 (fun b o' q => ?_) hc' (by rw [sortVals_length false rfl]; exact hlen) (sortVals_data false e er' hal)⟩⟩
    rw [sortedHeap_old (Nat.ne_of_lt (Heap.lt_size q)) (by rw [Heap.size_push]; exact Nat.lt_succ_of_lt (Heap.lt_size q))]
    exact Heap.get?_push_of_some _ q
end
end Cl.So
namespace Cl
open PySem PySem.Spec PyProof.Rows L2

/-! ## the stable sort -/
section
variable {le : D → D → Bool} (trans : ∀ x y z, le x y = true → le y z = true → le x z = true) (total : ∀ x y, (le x y || le y x) = true)
include trans
theorem insD_filter (z x : D) : ∀ ys, (insD le x ys).filter (PySem.W.Srt.alike le z) = (x :: ys).filter (PySem.W.Srt.alike le z)
  | [] => rfl
  | y :: ys => by
    unfold insD
    split
    · rfl
    · rename_i hn
      rw [List.filter_cons, insD_filter z x ys]
      simp only [List.filter_cons]
      by_cases h1 : PySem.W.Srt.alike le z y = true
      · by_cases h2 : PySem.W.Srt.alike le z x = true
        · exfalso
          unfold PySem.W.Srt.alike at h1 h2
          simp only [Bool.and_eq_true] at h1 h2
          exact hn (trans _ _ _ h2.2 h1.1)
        · rw [if_pos h1, if_neg h2, if_neg h2, if_pos h1]
      · by_cases h2 : PySem.W.Srt.alike le z x = true
        · rw [if_neg h1, if_pos h2, if_pos h2, if_neg h1]
        · rw [if_neg h1, if_neg h2, if_neg h2, if_neg h1]
theorem sortD_filter (z : D) : ∀ xs, (sortD le xs).filter (PySem.W.Srt.alike le z) = xs.filter (PySem.W.Srt.alike le z)
  | [] => rfl
  | x :: xs => by
    unfold sortD
    rw [insD_filter trans]
    simp only [List.filter_cons, sortD_filter z xs]
theorem mem_insD {a x : D} : ∀ {ys}, a ∈ insD le x ys → a = x ∨ a ∈ ys
  | [], h => by simp [insD] at h; exact .inl h
  | y :: ys, h => by
    unfold insD at h
    split at h
    · simpa using h
    · rcases List.mem_cons.mp h with rfl | h
      · exact .inr (by simp)
      · rcases mem_insD h with h | h
        · exact .inl h
        · exact .inr (by simp [h])
include total
theorem insD_pw (x : D) : ∀ ys, ys.Pairwise (fun a b => le a b = true) → (insD le x ys).Pairwise (fun a b => le a b = true)
  | [], _ => by simp [insD]
  | y :: ys, h => by
    unfold insD
    rw [List.pairwise_cons] at h
    split
    · rename_i hy
      rw [List.pairwise_cons, List.pairwise_cons]
      refine ⟨fun b hb => ?_, h⟩
      rcases List.mem_cons.mp hb with rfl | hb
      · exact hy
      · exact trans _ _ _ hy (h.1 b hb)
    · rename_i hy
      rw [List.pairwise_cons]
      refine ⟨fun b hb => ?_, insD_pw x ys h.2⟩
      have hyx : le y x = true := by
        have := total x y
        rw [Bool.or_eq_true] at this
        rcases this with q | q
        · exact absurd q hy
        · exact q
      rcases mem_insD trans hb with rfl | hb
      · exact hyx
      · exact h.1 b hb
theorem sortD_pw : ∀ xs, (sortD le xs).Pairwise (fun a b => le a b = true)
  | [] => by simp [sortD]
  | x :: xs => insD_pw trans total x _ (sortD_pw xs)
theorem sortD_eq (xs : List D) : sortD le xs = xs.mergeSort le :=
  PySem.W.Srt.the le (fun x y z h1 h2 => trans x y z h1 h2) total (sortD_pw trans total xs) fun z => sortD_filter trans z xs
end
theorem leD_is : leD = PySem.W.dataLe false D.toPy := rfl
theorem sortD_leD (xs : List D) : sortD leD xs = xs.mergeSort (PySem.W.dataLe false D.toPy) := by
  have T := PySem.W.sortLe_total (PyProof.Rows.listOrd PyProof.Rows.itemOrd) false fun b : D => PySem.W.keyToks b.toPy
  have t : ∀ x y z, leD x y = true → leD y z = true → leD x z = true := fun x y z h1 h2 => T.trans x y z h1 h2
  have tt : ∀ x y, (leD x y || leD y x) = true := fun x y => by
    rw [Bool.or_eq_true]
    exact T.total x y
  exact sortD_eq t tt xs

/-! ## built-ins -/
section
variable {R : RC} {ρ φ : List Addr} {H : Hp} {h : Hc}
theorem RDs.each {s : Shared} {X : Cx} {pins : List (Addr × Obj)} {σ : L2.St} (I : Inv X pins σ H s) (hK : R.K = X.K) : ∀ {xs : List D} {vs : List V} {us : List Value}, D.plains xs = true → RDs R ρ φ H xs vs → Vals vs us →
    PySem.W.EachIs (fun u d => ∃ v, RelV v u ∧ RD R ρ φ H d v) us xs ∧ PySem.W.EachIs (fun u d => ∃ as, Reads s.heap u (D.toPy d) as) us xs
  | [], vs, us, _, r, q => by
    simp only [RDs] at r
    subst r
    cases q
    exact ⟨.nil, .nil⟩
  | d :: ds, vs, us, p, r, q => by
    simp only [RDs] at r
    obtain ⟨v, vs', rfl, h1, h2⟩ := r
    simp only [D.plains, Bool.and_eq_true] at p
    cases q with
    | cons q1 q2 =>
      obtain ⟨e1, e2⟩ := RDs.each I hK p.2 h2 q2
      exact ⟨.cons ⟨v, q1, h1⟩ e1, .cons (Dp.reads I _ _ _ (hK ▸ h1.dp p.1) q1) e2⟩
theorem of_each : ∀ {xs : List D} {us : List Value}, PySem.W.EachIs (fun u d => ∃ v, RelV v u ∧ RD R ρ φ H d v) us xs → ∃ vs, Vals vs us ∧ RDs R ρ φ H xs vs
  | [], _, .nil => ⟨[], .nil, by simp only [RDs]⟩
  | d :: ds, _, .cons ⟨v, r1, r2⟩ t => by
    obtain ⟨vs, h1, h2⟩ := of_each t
    exact ⟨v :: vs, .cons r1 h1, RDs.cons r2 h2⟩
theorem lst_seq (r : RelH R ρ φ H h) {d : D} {v : V} (q : RD R ρ φ H d v) {xs : List D} (e : lstD h d = some xs) : ∃ a vs, v = .ref a ∧ SqL R.K H a vs ∧ RDs R ρ φ H xs vs := by
  cases d with
  | lst ds =>
    simp only [lstD, Option.some.injEq] at e; subst e
    simp only [RD] at q
    obtain ⟨a, vs, rfl, h1, h2⟩ := q
    exact ⟨a, vs, rfl, h1.sq, h2⟩
  | ref n =>
    simp only [RD] at q
    obtain ⟨a, ea, rfl⟩ := q
    unfold lstD at e
    cases hc : h[n]? with
    | none => simp [hc] at e
    | some c =>
      have rc := r.cells n a c ea hc
      cases c with
      | lst ys =>
        simp only [hc, Option.some.injEq] at e; subst e
        obtain ⟨vs, e1, e2⟩ := rc
        exact ⟨a, vs, rfl, SqL.of e1, e2⟩
      | ro ys =>
        simp only [hc, Option.some.injEq] at e; subst e
        obtain ⟨o, vs, e1, e2⟩ := rc
        exact ⟨a, vs, rfl, .inl (.inr ⟨o, e1⟩), e2⟩
      | dK _ => simp [hc] at e
      | dT _ => simp [hc] at e
  | _ => simp [lstD] at e
theorem intsD_rd : ∀ {xs : List D} {ns : List Int} {vs : List V}, intsD xs = some ns → RDs R ρ φ H xs vs → vs = ns.map V.int ∧ xs = ns.map D.int
  | [], ns, vs, e, r => by
    simp only [intsD, Option.some.injEq] at e; subst e
    simp only [RDs] at r; subst r
    exact ⟨rfl, rfl⟩
  | d :: ds, ns, vs, e, r => by
    cases d with
    | int i =>
      simp only [intsD] at e
      obtain ⟨ms, e1, rfl⟩ := Option.map_eq_some_iff.mp e
      simp only [RDs, RD] at r
      obtain ⟨v, vs', rfl, rfl, h2⟩ := r
      obtain ⟨q1, q2⟩ := intsD_rd e1 h2
      rw [q1, q2]
      exact ⟨rfl, rfl⟩
    | _ => simp [intsD] at e
theorem sumI_ints : ∀ {xs : List D} {n : Int}, sumI xs = some n → ∃ ns, intsD xs = some ns ∧ n = ns.sum
  | [], n, e => by simp only [sumI, Option.some.injEq] at e; subst e; exact ⟨[], rfl, rfl⟩
  | d :: ds, n, e => by
    cases d with
    | int i =>
      simp only [sumI] at e
      obtain ⟨m, e1, rfl⟩ := Option.map_eq_some_iff.mp e
      obtain ⟨ns, e2, rfl⟩ := sumI_ints e1
      exact ⟨i :: ns, by simp [intsD, e2], by simp⟩
    | _ => simp [sumI] at e
theorem allB_rd : ∀ {xs : List D} {bs : List Bool} {vs : List V}, allB xs = some bs → RDs R ρ φ H xs vs → vs = bs.map V.bl
  | [], ns, vs, e, r => by
    simp only [allB, Option.some.injEq] at e; subst e
    simp only [RDs] at r; subst r
    rfl
  | d :: ds, ns, vs, e, r => by
    cases d with
    | bl i =>
      simp only [allB] at e
      obtain ⟨ms, e1, rfl⟩ := Option.map_eq_some_iff.mp e
      simp only [RDs, RD] at r
      obtain ⟨v, vs', rfl, rfl, h2⟩ := r
      rw [allB_rd e1 h2]
      rfl
    | _ => simp [allB] at e
end
def arg1 {α : Type} (f : Hc → D → Option α) (h : Hc) (ds : List D) : Option α :=
  match ds with
  | [d] => f h d
  | _ => none
theorem arg1_some {α : Type} {f : Hc → D → Option α} {h : Hc} {ds : List D} {x : α} (e : arg1 f h ds = some x) : ∃ d, ds = [d] ∧ f h d = some x := by
  match ds, e with
  | [d], e => exact ⟨d, rfl, e⟩
theorem depth_mem {b : D} : ∀ {xs : List D}, b ∈ xs → (D.toPy b).depth ≤ PyData.depthAll (D.toPys xs)
  | [], h => by simp at h
  | x :: xs, h => by
    simp only [D.toPys, PyData.depthAll]
    rcases List.mem_cons.mp h with rfl | h
    · omega
    · have := depth_mem h
      omega
/-- a built-in's reading: its answer is the clean one; the lists new -/
def rL (R : RC) (f : Hc → List D → Option (List D)) : List V → Hp → VK → Prop := fun vs H Q => ∃ ρ φ h ds xs, RelH R ρ φ H h ∧ RDs R ρ φ H ds vs ∧ f h ds = some xs ∧
  ∀ p ws, H p = none → RDs R ρ φ H xs ws → Q (.ref p) (upd H p (.lst ws))
def rV (R : RC) (f : Hc → List D → Option D) : List V → Hp → VK → Prop := fun vs H Q => ∃ ρ φ h ds d, RelH R ρ φ H h ∧ RDs R ρ φ H ds vs ∧ f h ds = some d ∧
  ∀ ρ' v H', Ext ρ ρ' H H' → RelH R ρ' φ H' h → RD R ρ' φ H' d v → Q v H'
section
variable {X : Cx} {R : RC} (hK : R.K = X.K)
include hK
theorem call_listC : CallR X (.type "list") (rL R (arg1 seqD)) := by
  intro pins s σ H vs us Q I r ⟨ρ, φ, h, ds, xs, rH, rd, e, k⟩
  obtain ⟨d, rfl, e⟩ := arg1_some e
  simp only [RDs] at rd
  obtain ⟨v, vs', rfl, h1, rfl⟩ := rd
  obtain ⟨a, ws, rfl, h2, h3⟩ := h1.seq rH e
  exact call_list_of pins s σ H _ us Q I r ⟨a, ws, rfl, hK ▸ h2, fun l hl => k l ws hl h3⟩
theorem call_sortedC (hu : X.A.units + 100 < cLine) : CallR X (.builtin "sorted") (rL R (arg1 fun h d => (seqD h d).bind sortF)) := by
  intro pins s σ H vs us Q I r ⟨ρ, φ, h, ds, ys, rH, rd, e, k⟩
  obtain ⟨d, rfl, e⟩ := arg1_some e
  simp only [RDs] at rd
  obtain ⟨v, vs', rfl, h1, rfl⟩ := rd
  obtain ⟨xs, e1, e2⟩ := Option.bind_eq_some_iff.mp e
  obtain ⟨a, ws, rfl, h2, h3⟩ := h1.seq rH e1
  unfold sortF at e2
  split at e2
  · rename_i hz
    cases e2
    simp only [Bool.and_eq_true, decide_eq_true_eq] at hz
    obtain ⟨⟨⟨k1, k2⟩, k3⟩, k4⟩ := hz
    obtain ⟨its, T, o, nn, rv, hT, hob, hcl, hda⟩ : ∃ (its : List Value) (T : String) (o : Obj) (nn : Nat), Vals ws its ∧ (T = "list" ∨ T = "tuple") ∧ s.heap.get? a = some o ∧ o.cls = .type T ∧ o.data = .seq its.toArray nn := by
      rcases h2 with h2 | h2
      · obtain ⟨its, rv, hl, hlen⟩ := I.list (hK ▸ h2 : SqL X.K H a ws)
        obtain ⟨o, ho, hc, n, hd⟩ := hl.isList
        exact ⟨its, _, o, n, rv, .inl rfl, ho, hc, hd⟩
      · obtain ⟨its, rv, hl, hlen⟩ := I.tuple (hK ▸ h2 : SqT X.K H a ws)
        obtain ⟨o, ho, hc, n, hd⟩ := hl
        exact ⟨its, _, o, n, rv, .inr rfl, ho, hc, hd⟩
    rw [Vals.ref1 r]
    have pl : D.plains xs = true := by have := okD_plain k1; simpa only [D.plain] using this
    obtain ⟨E1, E2⟩ := RDs.each I hK pl h3 rv
    have hdep : ∀ b, b ∈ xs → (D.toPy b).depth ≤ 64 := by
      have := SeqAt.depth_of_shaped (okD_shaped k1)
      simp only [D.toPy, PyData.depth] at this
      intro b hb
      have := depth_mem hb
      omega
    refine So.sorted_any (enc := D.toPy) hT hob hcl hda E1 E2 ?_ ?_ (by rw [← line_eq]; exact k4) (fun b hb => by have := hdep b hb; omega) fun g1 g2 out ep kp1 kp2 he' ho hout => ?_
    · intro d hd d' hd'
      obtain ⟨b, hb, rfl⟩ := List.mem_map.mp hd
      obtain ⟨b', hb', rfl⟩ := List.mem_map.mp hd'
      unfold alikes at k2
      exact List.all_eq_true.mp (List.all_eq_true.mp k2 b hb) b' hb'
    · unfold sortable at k3
      rw [Bool.or_eq_true] at k3
      rcases k3 with k3 | k3
      · refine .inl fun d hd => ?_
        obtain ⟨b, hb, rfl⟩ := List.mem_map.mp hd
        have := List.all_eq_true.mp k3 b hb
        match b, this with
        | .tup (x :: r), _ => exact ⟨D.toPy x, D.toPys r, by simp only [D.toPy, D.toPys]⟩
      · refine .inr fun d hd => ?_
        obtain ⟨b, hb, rfl⟩ := List.mem_map.mp hd
        have := List.all_eq_true.mp k3 b hb
        match b, this with
        | .bl x, _ => exact ⟨by simp [D.toPy], fun xs => by simp [D.toPy]⟩
        | .int x, _ => exact ⟨by simp [D.toPy], fun xs => by simp [D.toPy]⟩
        | .str x, _ => exact ⟨by simp [D.toPy], fun xs => by simp [D.toPy]⟩
        | .lst x, _ => exact ⟨by simp [D.toPy], fun xs => by simp [D.toPy]⟩
    rw [← sortD_leD] at hout
    obtain ⟨ws', r1, r2⟩ := of_each hout
    have I1 : Inv X pins σ H { s with heap := g1 } := I.kept (t' := s.toks) kp1
    refine ⟨.ref g1.objs.size, upd H g1.objs.size (.lst ws'), I1.laid (t' := s.toks) kp2 (Nat.le_refl _) ⟨?_, out, ep, r1, he'⟩, rfl, k _ ws' (I1.hok.fresh (Nat.le_refl _)) r2⟩
    rw [r1.length, ho, ← line_eq]; exact k4
  · cases e2
end
end Cl

namespace Cl
open PySem PySem.Spec PyProof.Rows L2
section
variable {prog : Program} {w : World} {A : Around} {E : Value → Shared → Prop} {s : Shared}
theorem iter_anyT {l : Addr} {items : Array Value} {Q : Value → Shared → Prop} (hl : s.heap.IsTuple l items)
    (h : ∀ s₂ : Shared, s₂ = { s with heap := s.heap.push { cls := .type "tuple_iterator", data := .fields #[.ref l, .int 0 0] } } →
      (s₂.heap.IsTupleIter s.heap.objs.size l 0 ∧ s₂.heap.IsTuple l items) → l ≠ s.heap.objs.size → (∀ b ∈ [s.heap.objs.size, l], b < s₂.heap.objs.size) → Q (.ref s.heap.objs.size) s₂) : wpAny (model prog w) A (pyIter (.ref l)) Q E s := by
  have hlt : l < s.heap.objs.size := by obtain ⟨_, e, _⟩ := hl; exact Heap.lt_size e
  refine wpAny_pyIter_tuple hl (h _ rfl ⟨⟨_, Heap.get?_push_size _ rfl, rfl, rfl⟩, hl.push _⟩ (Nat.ne_of_lt hlt) fun b hb => ?_)
  show b < (s.heap.push _).objs.size
  rw [Heap.size_push]
  rcases List.mem_cons.mp hb with rfl | hb
  · exact Nat.lt_succ_self _
  · rcases List.mem_cons.mp hb with rfl | hb
    · exact Nat.lt_succ_of_lt hlt
    · cases hb
theorem sum_tup_raw {l : Addr} {its : List Value} {ns : List Int} {Q : Value → Shared → Prop} (hh : A.handled = none) (hl : s.heap.IsTuple l its.toArray) (hi : IntsAre its ns)
    (h : ∀ h' tk t', (∀ b o, s.heap.get? b = some o → h'.get? b = some o) → Q (.int ns.sum t') { s with heap := h', toks := tk }) : wpAny (model prog w) A (call (.builtin "sum") [.ref l]) Q E s := by
  obtain ⟨xs, e⟩ := hi.allInts.items
  have hn : numsOf (intItems xs).toList = ns := by rw [← e]; exact hi.numsOf
  rw [nums_intItems] at hn
  rw [e] at hl
  refine call_sum_walkG (iter_anyT hl fun s₂ e2 st hlI hfp => ?_)
  subst e2
  refine ⟨_, _, _, _, _, _, numAt xs, rfl, Walks.tuple (A := A.in1) hh _ l hlI (intItems xs), st, hfp, (fun _ _ => intItems_at), fun h' tk t' hk => ?_⟩
  have := h h' tk t' (fun b o e => hk b o (fun hm => by
    rcases List.mem_cons.mp hm with e1 | hm
    · exact absurd (e1 ▸ Heap.lt_size e) (Nat.lt_irrefl _)
    · cases hm) (Heap.get?_push_of_some _ e))
  have e3 : preSum (numAt xs) (intItems xs).size = ns.sum := by
    have hsz : (intItems xs).size = xs.size := by simp [intItems]
    rw [hsz, preSum_eq, List.take_of_length_le (by simp), hn]
  rw [e3]
  exact this
end
/-- the value of a built-in -/
def biVal : Bi → Value
  | .len => .builtin "len" | .abs => .builtin "abs" | .int => .type "int" | .tuple => .type "tuple" | .list => .type "list"
  | .sorted => .builtin "sorted" | .sortedR => .none | .sum => .builtin "sum" | .all => .builtin "all" | .any => .builtin "any"
  | .max => .builtin "max" | .min => .builtin "min" | .max2 => .builtin "max" | .min2 => .builtin "min" | .str => .type "str" | .lenset => .none
def biName : Bi → Str
  | .len => "len" | .abs => "abs" | .int => "int" | .tuple => "tuple" | .list => "list" | .sorted => "sorted" | .sortedR => "sorted" | .sum => "sum" | .all => "all" | .any => "any"
  | .max => "max" | .min => "min" | .max2 => "max" | .min2 => "min" | .str => "str" | .lenset => "set"
section
variable {X : Cx} {R : RC} (hK : R.K = X.K)
theorem of_arg1 {α : Type} {f : Hc → D → Option α} {g : Hc → List D → Option α} {h : Hc} {ds : List D} (h0 : g h [] = none) (h1 : ∀ d, g h [d] = f h d) (h2 : ∀ a b l, g h (a :: b :: l) = none) : g h ds = arg1 f h ds := by
  match ds with
  | [] => exact h0
  | [d] => exact h1 d
  | a :: b :: l => exact h2 a b l
theorem arg1_map {α β : Type} {f : Hc → D → Option α} {k : α → β} {h : Hc} {ds : List D} : (arg1 f h ds).map k = arg1 (fun h d => (f h d).map k) h ds := by
  match ds with
  | [] => rfl
  | [d] => rfl
  | a :: b :: l => rfl
theorem rL_rV {f : Hc → List D → Option (List D)} {v : Value} (k : CallR X v (rL R f)) : CallR X v (rV R fun h ds => (f h ds).map D.lst) := by
  intro pins s σ H vs us Q I r ⟨ρ, φ, h, ds, d, rH, rd, e, q⟩
  obtain ⟨xs, e1, rfl⟩ := Option.map_eq_some_iff.mp e
  refine k pins s σ H vs us Q I r ⟨ρ, φ, h, ds, xs, rH, rd, e1, fun p ws hp hw => ?_⟩
  obtain ⟨q1, q2, q3⟩ := new_lst rH hp hw
  exact q _ _ _ q1 q2 q3
theorem rV_of {v : Value} {f g : Hc → List D → Option D} (k : CallR X v (rV R f)) (e : ∀ h ds, f h ds = g h ds) : CallR X v (rV R g) := by
  have : f = g := by funext h a; exact e h a
  rw [← this]; exact k
include hK
theorem biR (hc : X.calm = true) (hu : X.A.units + 100 < cLine) (b : Bi) (hb : b ≠ .sortedR) (hb2 : b ≠ .lenset) : CallR X (biVal b) (rV R fun h ds => biF h b ds) := by
  have one : ∀ {v : Value} {g : Hc → D → Option D}, (∀ h ds, biF h b ds = arg1 g h ds) → (∀ (pins : List (Addr × Obj)) (s : Shared) (σ : L2.St) (H : Hp) (us : List Value) (Q : VK) (ρ φ : List Addr) (h : Hc) (d d' : D) (x : V), Inv X pins σ H s → Vals [x] us → RelH R ρ φ H h → RD R ρ φ H d x → g h d = some d' →
      (∀ ρ' v H', Ext ρ ρ' H H' → RelH R ρ' φ H' h → RD R ρ' φ H' d' v → Q v H') → wpAny (model X.prog X.w) X.A (call v us) (EP X pins σ Q) X.xe s) → CallR X v (rV R fun h ds => biF h b ds) := by
    intro v g hg hk pins s σ H vs us Q I r ⟨ρ, φ, h, ds, d, rH, rd, e, q⟩
    have e' : biF h b ds = some d := e
    rw [hg] at e'
    obtain ⟨d0, rfl, e2⟩ := arg1_some e'
    simp only [RDs] at rd
    obtain ⟨x, vs', rfl, h1, rfl⟩ := rd
    exact hk pins s σ H us Q ρ φ h d0 d x I r rH h1 e2 q
  have rint : ∀ {d : D} {n : Int}, d = .int n → ∀ {R : RC} {ρ φ : List Addr} {H : Hp}, RD R ρ φ H d (.int n) := by
    intro d n e R ρ φ H
    subst e
    simp only [RD]
  cases b with
  | sortedR => exact absurd rfl hb
  | lenset => exact absurd rfl hb2
  | list => exact rV_of (rL_rV (call_listC hK)) fun h ds => ((of_arg1 (f := fun h d => (seqD h d).map D.lst) (g := fun h ds => biF h .list ds) rfl (fun d => rfl) (fun _ _ _ => rfl)).trans arg1_map.symm).symm
  | sorted => exact rV_of (rL_rV (call_sortedC hK hu)) fun h ds => ((of_arg1 (f := fun h d => ((seqD h d).bind sortF).map D.lst) (g := fun h ds => biF h .sorted ds) rfl (fun d => rfl) (fun _ _ _ => rfl)).trans arg1_map.symm).symm
  | len =>
    refine one (g := lenF) (fun h ds => ?_) fun pins s σ H us Q ρ φ h d d' x I r rH h1 e q => ?_
    · exact of_arg1 (g := fun h ds => biF h _ ds) rfl (fun d => rfl) (fun _ _ _ => rfl)
    unfold lenF at e
    split at e
    · split at e
      · rename_i hz
        cases e
        simp only [RD] at h1
        subst h1
        exact call_len_str pins s σ H _ us Q I r ⟨_, rfl, by rw [← line_eq]; exact hz, q _ _ _ Ext.refl rH (rint rfl)⟩
      · cases e
    · split at e
      · rename_i xs e1
        cases e
        obtain ⟨a, ws, rfl, h2, h3⟩ := h1.seq rH e1
        rw [h3.len] at q
        exact call_len_seq pins s σ H _ us Q I r ⟨a, ws, rfl, hK ▸ h2, q _ _ _ Ext.refl rH (rint rfl)⟩
      · split at e
        · rename_i n _ _
          simp only [RD] at h1
          obtain ⟨a, ea, rfl⟩ := h1
          split at e
          · rename_i kvs hc
            cases e
            obtain ⟨kws, h2, h3⟩ := rH.cells n a _ ea hc
            have hl : kvs.length = kws.length := by
              have := congrArg List.length h3.1
              simpa using this
            rw [hl] at q
            obtain ⟨u, rfl, ru⟩ := vals1 r
            cases ru
            exact d_len I (.inl h2) fun t s' I' => ⟨.int kws.length, H, I', ⟨_, rfl⟩, q _ _ _ Ext.refl rH (rint rfl)⟩
          · cases e
        · cases e
  | abs =>
    refine one (g := fun h d => match d with | .int i => some (.int (if i < 0 then -i else i)) | _ => none) (fun h ds => ?_) fun pins s σ H us Q ρ φ h d d' x I r rH h1 e q => ?_
    · exact of_arg1 (g := fun h ds => biF h _ ds) rfl (fun d => by cases d <;> rfl) (fun a _ _ => by cases a <;> rfl)
    cases d with
    | int i =>
      simp only [Option.some.injEq] at e
      subst e
      simp only [RD] at h1
      subst h1
      exact call_abs pins s σ H _ us Q I r ⟨i, rfl, q _ _ _ Ext.refl rH (rint rfl)⟩
    | _ => simp at e
  | int =>
    refine one (g := fun h d => intF d) (fun h ds => ?_) fun pins s σ H us Q ρ φ h d d' x I r rH h1 e q => ?_
    · exact of_arg1 (g := fun h ds => biF h _ ds) rfl (fun d => rfl) (fun _ _ _ => rfl)
    cases d with
    | int i =>
      simp only [intF, Option.some.injEq] at e
      subst e
      simp only [RD] at h1
      subst h1
      exact call_int1 pins s σ H _ us Q I r (.inl ⟨i, rfl, q _ _ _ Ext.refl rH (rint rfl)⟩)
    | bl i =>
      simp only [intF, Option.some.injEq] at e
      subst e
      simp only [RD] at h1
      subst h1
      exact call_int1 pins s σ H _ us Q I r (.inr ⟨i, rfl, q _ _ _ Ext.refl rH (rint rfl)⟩)
    | _ => simp [intF] at e
  | tuple =>
    refine one (g := fun h d => (seqD h d).map fun xs => .tup xs) (fun h ds => ?_) fun pins s σ H us Q ρ φ h d d' x I r rH h1 e q => ?_
    · exact of_arg1 (g := fun h ds => biF h _ ds) rfl (fun d => rfl) (fun _ _ _ => rfl)
    obtain ⟨xs, e1, rfl⟩ := Option.map_eq_some_iff.mp e
    cases d with
    | tup ds =>
      simp only [seqD, Option.some.injEq] at e1
      subst e1
      have h1' := h1
      simp only [RD] at h1
      obtain ⟨a, vs, rfl, h2, h3⟩ := h1
      exact call_tuple_of pins s σ H _ us Q I r ⟨a, vs, rfl, .inr ⟨hK ▸ h2.sq, q _ _ _ Ext.refl rH h1'⟩⟩
    | _ =>
      obtain ⟨a, ws, rfl, h2, h3⟩ := lst_seq rH h1 (by simpa [lstD, seqD] using e1)
      refine call_tuple_of pins s σ H _ us Q I r ⟨a, ws, rfl, .inl ⟨hK ▸ h2, fun l hl => ?_⟩⟩
      obtain ⟨q1, q2, q3⟩ := new_tup rH hl h3
      exact q _ _ _ q1 q2 q3
  | sum =>
    refine one (g := fun h d => (seqD h d).bind fun xs => (sumI xs).map .int) (fun h ds => ?_) fun pins s σ H us Q ρ φ h d d' x I r rH h1 e q => ?_
    · exact of_arg1 (g := fun h ds => biF h _ ds) rfl (fun d => rfl) (fun _ _ _ => rfl)
    obtain ⟨xs, e1, e2⟩ := Option.bind_eq_some_iff.mp e
    obtain ⟨n, e3, rfl⟩ := Option.map_eq_some_iff.mp e2
    obtain ⟨ns, e4, rfl⟩ := sumI_ints e3
    obtain ⟨a, ws, rfl, h2, h3⟩ := h1.seq rH e1
    obtain ⟨rfl, _⟩ := intsD_rd e4 h3
    rcases (hK ▸ h2 : SqL X.K H a (ns.map V.int) ∨ SqT X.K H a (ns.map V.int)) with h2 | h2
    · exact cr_sum hc pins s σ H _ us Q I r ⟨a, ns, rfl, h2, q _ _ _ Ext.refl rH (rint rfl)⟩
    · obtain ⟨its, rv, hl, _⟩ := I.tuple h2
      rw [Vals.ref1 r]
      exact sum_tup_raw (I.ok.hd hc) hl rv.ints fun h' tk t' hk => ⟨.int _, H, I.kept hk, ⟨_, rfl⟩, q _ _ _ Ext.refl rH (rint rfl)⟩
  | all =>
    refine one (g := fun h d => (lstD h d).bind fun xs => (allB xs).map fun bs => .bl (bs.all id)) (fun h ds => ?_) fun pins s σ H us Q ρ φ h d d' x I r rH h1 e q => ?_
    · exact of_arg1 (g := fun h ds => biF h _ ds) rfl (fun d => rfl) (fun _ _ _ => rfl)
    obtain ⟨xs, e1, e2⟩ := Option.bind_eq_some_iff.mp e
    obtain ⟨bs, e3, rfl⟩ := Option.map_eq_some_iff.mp e2
    obtain ⟨a, ws, rfl, h2, h3⟩ := lst_seq rH h1 e1
    have := allB_rd e3 h3
    subst this
    exact cr_all hc pins s σ H _ us Q I r ⟨a, bs, rfl, hK ▸ h2, q _ _ _ Ext.refl rH (by simp only [RD])⟩
  | any =>
    refine one (g := fun h d => (lstD h d).bind fun xs => (allB xs).map fun bs => .bl (bs.any id)) (fun h ds => ?_) fun pins s σ H us Q ρ φ h d d' x I r rH h1 e q => ?_
    · exact of_arg1 (g := fun h ds => biF h _ ds) rfl (fun d => rfl) (fun _ _ _ => rfl)
    obtain ⟨xs, e1, e2⟩ := Option.bind_eq_some_iff.mp e
    obtain ⟨bs, e3, rfl⟩ := Option.map_eq_some_iff.mp e2
    obtain ⟨a, ws, rfl, h2, h3⟩ := lst_seq rH h1 e1
    have := allB_rd e3 h3
    subst this
    exact cr_any hc pins s σ H _ us Q I r ⟨a, bs, rfl, hK ▸ h2, q _ _ _ Ext.refl rH (by simp only [RD])⟩
  | max =>
    refine one (g := fun h d => (seqD h d).bind fun xs => match intsD xs with | some (x :: xs) => some (.int (xs.foldl max x)) | _ => none) (fun h ds => ?_) fun pins s σ H us Q ρ φ h d d' x I r rH h1 e q => ?_
    · exact of_arg1 (g := fun h ds => biF h _ ds) rfl (fun d => rfl) (fun _ _ _ => rfl)
    obtain ⟨xs, e1, e2⟩ := Option.bind_eq_some_iff.mp e
    cases e3 : intsD xs with
    | none => rw [e3] at e2; cases e2
    | some ms =>
      rw [e3] at e2
      cases ms with
      | nil => cases e2
      | cons n ns =>
        cases e2
        obtain ⟨a, ws, rfl, h2, h3⟩ := h1.seq rH e1
        obtain ⟨rfl, _⟩ := intsD_rd e3 h3
        rw [Vals.ref1 r]
        have fin : ∀ {its : List Value} (i : Nat) (v : Value) (h' : Heap) (tk : Nat) (bs : List Addr), its.toArray[i]? = some v → Reads h' v (PySem.W.maxD (.int n) (ns.map .int)) bs → (∀ b o, s.heap.get? b = some o → h'.get? b = some o) → EP X pins σ Q v { s with heap := h', toks := tk } := by
          intro its i v h' tk bs _ hr hk
          rw [PySem.W.maxD_ints] at hr
          cases hr
          exact ⟨.int _, H, I.kept hk, ⟨_, rfl⟩, q _ _ _ Ext.refl rH (rint rfl)⟩
        have al : PySem.W.AlikeAll (PyData.int n :: ns.map PyData.int) := by
          have : ∀ d ∈ (PyData.int n :: ns.map PyData.int), ∃ i, d = .int i := by
            intro d hd
            rcases List.mem_cons.mp hd with rfl | hd
            · exact ⟨_, rfl⟩
            · obtain ⟨i, _, rfl⟩ := List.mem_map.mp hd
              exact ⟨_, rfl⟩
          refine ⟨fun d hd d' hd' => ?_, fun d hd => ?_⟩
          · obtain ⟨i, rfl⟩ := this d hd
            obtain ⟨j, rfl⟩ := this d' hd'
            rfl
          · obtain ⟨i, rfl⟩ := this d hd
            exact fun z => nomatch z
        have dep : X.A.units + 1 + PyData.depthAll (PyData.int n :: ns.map PyData.int) < cLine := by
          have : ∀ l : List Int, PyData.depthAll (l.map PyData.int) = 0 := by
            intro l
            induction l with
            | nil => simp [PyData.depthAll]
            | cons a l ih => simp [PyData.depthAll, PyData.depth, ih]
          have := this (n :: ns)
          rw [List.map_cons] at this
          omega
        have rds : ∀ {its : List Value}, IntsAre its (n :: ns) → ∃ as, ReadsAll s.heap its (PyData.int n :: ns.map PyData.int) as := by
          intro its hi
          have : ∀ {l : List Int} {its : List Value}, IntsAre its l → ∃ as, ReadsAll s.heap its (l.map PyData.int) as := by
            intro l
            induction l with
            | nil => intro its hi; cases hi; exact ⟨_, .nil⟩
            | cons a l ih =>
              intro its hi
              cases hi with
              | cons _ _ hi' =>
                obtain ⟨as, ha⟩ := ih hi'
                exact ⟨_, .cons (.int _ _) ha⟩
          exact this (l := n :: ns) hi
        rcases (hK ▸ h2 : SqL X.K H a ((n :: ns).map V.int) ∨ SqT X.K H a ((n :: ns).map V.int)) with h2 | h2
        · obtain ⟨its, rv, hl, _⟩ := I.list h2
          obtain ⟨as, ha⟩ := rds rv.ints
          exact PySem.W.max_list_data (I.ok.hd hc) hl.isList ha al dep fun i v h' tk bs g1 g2 g3 => fin (its := its) i v h' tk bs g1 g2 g3
        · obtain ⟨its, rv, hl, _⟩ := I.tuple h2
          obtain ⟨as, ha⟩ := rds rv.ints
          exact PySem.W.max_tuple_data (I.ok.hd hc) hl ha al dep fun i v h' tk bs g1 g2 g3 => fin (its := its) i v h' tk bs g1 g2 g3
  | min =>
    refine one (g := fun h d => (seqD h d).bind fun xs => match intsD xs with | some (x :: xs) => some (.int (xs.foldl min x)) | _ => none) (fun h ds => ?_) fun pins s σ H us Q ρ φ h d d' x I r rH h1 e q => ?_
    · exact of_arg1 (g := fun h ds => biF h _ ds) rfl (fun d => rfl) (fun _ _ _ => rfl)
    obtain ⟨xs, e1, e2⟩ := Option.bind_eq_some_iff.mp e
    cases e3 : intsD xs with
    | none => rw [e3] at e2; cases e2
    | some ms =>
      rw [e3] at e2
      cases ms with
      | nil => cases e2
      | cons n ns =>
        cases e2
        obtain ⟨a, ws, rfl, h2, h3⟩ := h1.seq rH e1
        obtain ⟨rfl, _⟩ := intsD_rd e3 h3
        rw [Vals.ref1 r]
        have fin : ∀ {its : List Value} (i : Nat) (v : Value) (h' : Heap) (tk : Nat) (bs : List Addr), its.toArray[i]? = some v → Reads h' v (PySem.W.minD (.int n) (ns.map .int)) bs → (∀ b o, s.heap.get? b = some o → h'.get? b = some o) → EP X pins σ Q v { s with heap := h', toks := tk } := by
          intro its i v h' tk bs _ hr hk
          rw [PySem.W.minD_ints] at hr
          cases hr
          exact ⟨.int _, H, I.kept hk, ⟨_, rfl⟩, q _ _ _ Ext.refl rH (rint rfl)⟩
        have al : PySem.W.AlikeAll (PyData.int n :: ns.map PyData.int) := by
          have : ∀ d ∈ (PyData.int n :: ns.map PyData.int), ∃ i, d = .int i := by
            intro d hd
            rcases List.mem_cons.mp hd with rfl | hd
            · exact ⟨_, rfl⟩
            · obtain ⟨i, _, rfl⟩ := List.mem_map.mp hd
              exact ⟨_, rfl⟩
          refine ⟨fun d hd d' hd' => ?_, fun d hd => ?_⟩
          · obtain ⟨i, rfl⟩ := this d hd
            obtain ⟨j, rfl⟩ := this d' hd'
            rfl
          · obtain ⟨i, rfl⟩ := this d hd
            exact fun z => nomatch z
        have dep : X.A.units + 1 + PyData.depthAll (PyData.int n :: ns.map PyData.int) < cLine := by
          have : ∀ l : List Int, PyData.depthAll (l.map PyData.int) = 0 := by
            intro l
            induction l with
            | nil => simp [PyData.depthAll]
            | cons a l ih => simp [PyData.depthAll, PyData.depth, ih]
          have := this (n :: ns)
          rw [List.map_cons] at this
          omega
        have rds : ∀ {its : List Value}, IntsAre its (n :: ns) → ∃ as, ReadsAll s.heap its (PyData.int n :: ns.map PyData.int) as := by
          intro its hi
          have : ∀ {l : List Int} {its : List Value}, IntsAre its l → ∃ as, ReadsAll s.heap its (l.map PyData.int) as := by
            intro l
            induction l with
            | nil => intro its hi; cases hi; exact ⟨_, .nil⟩
            | cons a l ih =>
              intro its hi
              cases hi with
              | cons _ _ hi' =>
                obtain ⟨as, ha⟩ := ih hi'
                exact ⟨_, .cons (.int _ _) ha⟩
          exact this (l := n :: ns) hi
        rcases (hK ▸ h2 : SqL X.K H a ((n :: ns).map V.int) ∨ SqT X.K H a ((n :: ns).map V.int)) with h2 | h2
        · obtain ⟨its, rv, hl, _⟩ := I.list h2
          obtain ⟨as, ha⟩ := rds rv.ints
          exact PySem.W.min_list_data (I.ok.hd hc) hl.isList ha al dep fun i v h' tk bs g1 g2 g3 => fin (its := its) i v h' tk bs g1 g2 g3
        · obtain ⟨its, rv, hl, _⟩ := I.tuple h2
          obtain ⟨as, ha⟩ := rds rv.ints
          exact PySem.W.min_tuple_data (I.ok.hd hc) hl ha al dep fun i v h' tk bs g1 g2 g3 => fin (its := its) i v h' tk bs g1 g2 g3
  | max2 =>
    intro pins s σ H vs us Q I r ⟨ρ, φ, h, ds, d, rH, rd, e, q⟩
    match ds, rd, e with
    | [.int i, .int j], rd, e =>
      simp only [biF, Option.some.injEq] at e
      subst e
      simp only [RDs, RD] at rd
      obtain ⟨_, _, rfl, rfl, _, _, rfl, rfl, rfl⟩ := rd
      exact call_max2 hc pins s σ H _ us Q I r ⟨i, j, rfl, q _ _ _ Ext.refl rH (rint rfl)⟩
  | min2 =>
    intro pins s σ H vs us Q I r ⟨ρ, φ, h, ds, d, rH, rd, e, q⟩
    match ds, rd, e with
    | [.int i, .int j], rd, e =>
      simp only [biF, Option.some.injEq] at e
      subst e
      simp only [RDs, RD] at rd
      obtain ⟨_, _, rfl, rfl, _, _, rfl, rfl, rfl⟩ := rd
      exact call_min2 hc pins s σ H _ us Q I r ⟨i, j, rfl, q _ _ _ Ext.refl rH (rint rfl)⟩
  | str =>
    refine one (g := fun h d => match d with | .int i => if i.natAbs.log2 < 1920 then some (.str (toString i)) else none | _ => none) (fun h ds => ?_) fun pins s σ H us Q ρ φ h d d' x I r rH h1 e q => ?_
    · exact of_arg1 (g := fun h ds => biF h _ ds) rfl (fun d => by cases d <;> rfl) (fun a _ _ => by cases a <;> rfl)
    cases d with
    | int i =>
      simp only at e
      split at e
      · rename_i hz
        cases e
        simp only [RD] at h1
        subst h1
        exact call_str_int pins s σ H _ us Q I r ⟨i, rfl, hz, q _ _ _ Ext.refl rH (by simp only [RD])⟩
      · cases e
    | _ => simp at e
end
end Cl

namespace Cl
open PySem PySem.Spec PyProof.Rows L2

/-! ## does a term fit its syntax -/
/-- what is known of the text: the defs' names, the module's constants, the exceptions' names -/
structure Sg where
  fns : List Str
  consts : List (Str × D)
  excs : List Str
def Sg.glob (S : Sg) (x : Str) : Option D :=
  match S.consts.lookup x with
  | some d => some d
  | none => (S.fns.findIdx? fun y => decide (y = x)).map .fn
def visK : Option NameKind → Bool
  | some .local => true
  | some .cell => true
  | some .free => true
  | _ => false
def nmOk (x : Str) : Bool := decide ((x == ("__debug__" : Str)) = false) && decide ((x == ("__classdict__" : Str)) = false) && decide ((x == ("__name__" : Str)) = false)
def isVarB (N : List Str) (sc : Scope) (i : Nat) (x : Str) : Bool := decide (N[i]? = some x) && visK (sc.names.lookup x) && nmOk x
def isGlB (sc : Scope) (x : Str) : Bool := decide (sc.names.lookup x = some .globalImplicit) && nmOk x
def chkC : D → Const → Bool
  | .non, .none => true
  | .bl a, .bool b => a == b
  | .int a, .int b => decide (a = b)
  | .str a, .str b => decide (a = b)
  | _, _ => false
def baseOk : Expr → Bool
  | .Call _ _ _ _ => false
  | _ => true
def notSet : Expr → Bool
  | .Set _ _ _ => false
  | _ => true
def tyName : Ty → Str
  | .int => "int" | .bool => "bool" | .str => "str" | .tuple => "tuple" | .list => "list" | .dict => "dict"
def chkTy (sc : Scope) : Ty → Expr → Bool
  | t, .Name x _ => decide (x = tyName t) && isGlB sc x
  | _, _ => false
def chkTys (sc : Scope) : List Ty → List Expr → Bool
  | [], [] => true
  | t :: ts, e :: es => chkTy sc t e && chkTys sc ts es
  | _, _ => false
mutual
def chkT (N : List Str) (sc : Scope) : Tg → Expr → Bool
  | .v i, .Name x _ => decide (N[i]? = some x) && (decide (sc.names.lookup x = some .local) || decide (sc.names.lookup x = some .cell)) && nmOk x
  | .t ts, .Tuple es _ _ => chkTs N sc ts es
  | _, _ => false
def chkTs (N : List Str) (sc : Scope) : Tgs → List Expr → Bool
  | .nil, [] => true
  | .cons t ts, e :: es => chkT N sc t e && chkTs N sc ts es
  | _, _ => false
end
def freshC : CE → Bool
  | .lst _ => true
  | .comp _ _ _ _ _ => true
  | .bi .list _ => true
  | .bi .sorted _ => true
  | .lrange _ => true
  | .bin .Add _ _ => true
  | .bin .Mult _ _ => true
  | .sl _ _ _ => true
  | _ => false
def isRng : CI → Bool
  | .rng1 _ => true
  | .rng2 _ _ => true
  | _ => false
mutual
/-- a target's places, all among vs -/
def tgIn (vs : List Nat) : Tg → Bool
  | .v i => decide (i ∈ vs)
  | .t ts => tgsIn vs ts
def tgsIn (vs : List Nat) : Tgs → Bool
  | .nil => true
  | .cons t ts => tgIn vs t && tgsIn vs ts
end
mutual
def chkE (S : Sg) (N : List Str) (sc : Scope) (cm : Bool) : CE → Expr → Bool
  | .var i, e => match e with
    | .Name x _ => isVarB N sc i x
    | _ => false
  | .cst d, e => match e with
    | .Constant c _ _ => chkC d c
    | _ => false
  | .glob x d, e => match e with
    | .Name y _ => decide (x = y) && isGlB sc y && decide (S.glob y = some d)
    | _ => false
  | .bin op a b, e => match e with
    | .BinOp l o r _ => decide (op = o) && chkE S N sc cm a l && chkE S N sc cm b r
    | _ => false
  | .neg a, e => match e with
    | .UnaryOp .USub l _ => chkE S N sc cm a l
    | _ => false
  | .not_ a, e => match e with
    | .UnaryOp .Not l _ => chkE S N sc cm a l
    | _ => false
  | .cmp op a b, e => match e with
    | .Compare l [o] [r] _ => decide (op = o) && notSet r && chkE S N sc cm a l && chkE S N sc cm b r
    | _ => false
  | .chain op op' a b c, e => match e with
    | .Compare l [o, o'] [r, q] _ => decide (op = o) && decide (op' = o') && notSet q && chkE S N sc cm a l && chkE S N sc cm b r && chkE S N sc cm c q
    | _ => false
  | .and_ a b, e => match e with
    | .BoolOp .And [x, y] _ => chkE S N sc cm a x && chkE S N sc cm b y
    | .BoolOp .And (x :: y :: z :: r) p => chkE S N sc cm a x && chkE S N sc cm b (.BoolOp .And (y :: z :: r) p)
    | _ => false
  | .or_ a b, e => match e with
    | .BoolOp .Or [x, y] _ => chkE S N sc cm a x && chkE S N sc cm b y
    | .BoolOp .Or (x :: y :: z :: r) p => chkE S N sc cm a x && chkE S N sc cm b (.BoolOp .Or (y :: z :: r) p)
    | _ => false
  | .ite t a b, e => match e with
    | .IfExp x y z _ => chkE S N sc cm t x && chkE S N sc cm a y && chkE S N sc cm b z
    | _ => false
  | .call f args, e => match e with
    | .Call (.Name x _) es [] _ => cm && decide (S.fns[f]? = some x) && isGlB sc x && chkEs S N sc cm args es
    | _ => false
  | .bi .lenset args, e => match e with
    | .Call (.Name x _) [.Call (.Name y _) [a] [] _] [] _ => cm && decide (x = "len") && decide (y = "set") && isGlB sc x && isGlB sc y && chkEs S N sc cm args [a]
    | _ => false
  | .bi b args, e => match e with
    | .Call (.Name x _) (a :: es) [] _ => cm && decide (x = biName b) && decide (b ≠ .sortedR) && isGlB sc x && chkEs S N sc cm args (a :: es)
    | _ => false
  | .isin a ts, e => match e with
    | .Call (.Name x _) [l, .Tuple es _ _] [] _ => cm && decide (x = "isinstance") && isGlB sc x && decide (es.length ≤ 6) && chkE S N sc cm a l && chkTys sc ts es
    | .Call (.Name x _) [l, t] [] _ => cm && decide (x = "isinstance") && isGlB sc x && chkE S N sc cm a l && chkTys sc ts [t]
    | _ => false
  | .pop o, e => match e with
    | .Call (.Attribute l m ap) [] [] cp => cm && decide (m = "pop") && baseOk l && decide (ap.endLine = cp.line) && chkE S N sc cm o l
    | _ => false
  | .idx a i, e => match e with
    | .Subscript l r _ => (match r with | .Slice _ _ _ _ => false | _ => true) && chkE S N sc cm a l && chkE S N sc cm i r
    | _ => false
  | .sl a lo hi, e => match e with
    | .Subscript l (.Slice x y none _) _ => chkE S N sc cm a l && (match x with | none => lo.isAbs | some x => !lo.isAbs && chkE S N sc cm lo x) && (match y with | none => hi.isAbs | some y => !hi.isAbs && chkE S N sc cm hi y)
    | _ => false
  | .rev a, e => match e with
    | .Subscript l (.Slice none none (some (.UnaryOp .USub (.Constant (.int 1) _ _) _)) _) _ => chkE S N sc cm a l
    | _ => false
  | .absent, _ => false
  | .tup es, e => match e with
    | .Tuple xs _ _ => decide (xs.length ≤ 4096) && chkEs S N sc cm es xs
    | _ => false
  | .lst es, e => match e with
    | .List xs _ => decide (xs.length ≤ 4096) && chkEs S N sc cm es xs
    | _ => false
  | .comp elt t it cond own, e => match e with
    | .ListComp x [⟨tg, iter, ifs, a⟩] scope _ => cm && decide (a = 0) && notSet iter && chkI S N sc cm it tg iter && blkC N sc scope (own.filterMap fun i => N[i]?.map fun x => (x, i)) && decide ((own.filterMap fun i => N[i]?.map fun x => (x, i)).map (·.2) = own)
        && chkT N scope t tg && tgIn own t && (match ifs with | [] => cond.isAbs | [c] => !cond.isAbs && chkE S N scope cm cond c | _ => false) && chkE S N scope cm elt x
    | _ => false
  | .lrange it, e => match e with
    | .Call (.Name x _) [r] [] _ => cm && decide (x = "list") && isGlB sc x && isRng it && chkI S N sc cm it (.Name x ⟨0, 0, 0, 0⟩) r
    | _ => false
  | .cell c, e => freshC c && chkE S N sc cm c e
  | .dict0 _, e => match e with
    | .Dict [] [] _ => true
    | _ => false
  | .dget o k d, e => match e with
    | .Call (.Attribute l m ap) [x, y] [] cp => cm && decide (m = "get") && baseOk l && decide (ap.endLine = cp.line) && chkE S N sc cm o l && chkE S N sc cm k x && chkE S N sc cm d y
    | _ => false
def chkEs (S : Sg) (N : List Str) (sc : Scope) (cm : Bool) : CEs → List Expr → Bool
  | .nil, [] => true
  | .cons c cs, e :: es => chkE S N sc cm c e && chkEs S N sc cm cs es
  | _, _ => false
def chkI (S : Sg) (N : List Str) (sc : Scope) (cm : Bool) : CI → Expr → Expr → Bool
  | .seq c, _, e => chkE S N sc cm c e
  | .rng1 a, _, e => match e with
    | .Call (.Name x _) [l] [] _ => decide (x = "range") && isGlB sc x && chkE S N sc cm a l
    | _ => false
  | .rng2 a b, _, e => match e with
    | .Call (.Name x _) [l, r] [] _ => decide (x = "range") && isGlB sc x && chkE S N sc cm a l && chkE S N sc cm b r
    | _ => false
  | .rng3 a b c, _, e => match e with
    | .Call (.Name x _) [l, r, q] [] _ => decide (x = "range") && isGlB sc x && chkE S N sc cm a l && chkE S N sc cm b r && chkE S N sc cm c q
    | _ => false
  | .enum _, _, _ => false
  | .zip _ _, _, _ => false
end

/-! ## where a term runs -/
structure Sees (sc sc' : Scope) : Prop where
  loc : ∀ x, sc.names.lookup x = some .local → sc'.names.lookup x = some .local
  cell : ∀ x, sc.names.lookup x = some .cell → sc'.names.lookup x = some .cell
  free : ∀ x, sc.names.lookup x = some .free → sc'.names.lookup x = some .cell ∨ sc'.names.lookup x = some .free
  gl : ∀ x, sc.names.lookup x = some .globalImplicit → sc'.names.lookup x = some .globalImplicit
theorem Sees.refl {sc : Scope} : Sees sc sc := ⟨fun _ h => h, fun _ h => h, fun _ h => .inr h, fun _ h => h⟩
theorem lookup_relabel_keep {sc' : Scope} : ∀ {names : List (Str × NameKind)} {x : Str} {k : NameKind}, names.lookup x = some k → 
    (names.map fun (n, k) => if (k == NameKind.free && sc'.kind == .function && sc'.names.lookup n == some .cell) then (n, NameKind.cell) else (n, k)).lookup x = some k ∨ (k = .free ∧ (names.map fun (n, k) => if (k == NameKind.free && sc'.kind == .function && sc'.names.lookup n == some .cell) then (n, NameKind.cell) else (n, k)).lookup x = some .cell)
  | [], _, _, h => by simp at h
  | (n, k₀) :: r, x, k, h => by
    have ih := @lookup_relabel_keep sc' r x k
    show List.lookup x ((if (k₀ == NameKind.free && sc'.kind == .function && sc'.names.lookup n == some .cell) = true then (n, NameKind.cell) else (n, k₀)) :: _) = _ ∨ _ ∧ List.lookup x ((if (k₀ == NameKind.free && sc'.kind == .function && sc'.names.lookup n == some .cell) = true then (n, NameKind.cell) else (n, k₀)) :: _) = _
    by_cases hx : x = n
    · subst hx
      simp only [List.lookup, beq_self_eq_true] at h
      cases h
      split
      · rename_i hc
        simp only [Bool.and_eq_true, beq_iff_eq] at hc
        right
        refine ⟨hc.1.1, ?_⟩
        simp [List.lookup]
      · left
        simp [List.lookup]
    · have hb : (x == n) = false := by simpa using hx
      simp only [List.lookup, hb] at h
      have ih' := ih h
      split <;> simpa [List.lookup, hb] using ih'
theorem Sees.comp {scope : Scope} {cl : List (Str × Addr)} {C : Addr} {env : Env} : Sees scope (compEnvC scope cl C env).scope := by
  have key := @lookup_relabel_keep env.scope scope.names
  refine ⟨fun x h => ?_, fun x h => ?_, fun x h => ?_, fun x h => ?_⟩
  · rcases key h with q | ⟨q, _⟩
    · exact q
    · cases q
  · rcases key h with q | ⟨q, _⟩
    · exact q
    · cases q
  · rcases key h with q | ⟨_, q⟩
    · exact .inr q
    · exact .inl q
  · rcases key h with q | ⟨q, _⟩
    · exact q
    · cases q
end Cl

namespace Cl
open PySem PySem.Spec PyProof.Rows L2

def bltNames : List Str := ["len", "abs", "int", "tuple", "list", "sorted", "sum", "all", "any", "max", "min", "str", "set", "isinstance", "range", "enumerate", "zip", "bool", "dict", "reversed"]
/-- the value of a module's constant -/
def GV (R : RC) : D → V → Prop
  | .non, v => v = .non
  | .bl b, v => v = .bl b
  | .int i, v => v = .int i
  | .str x, v => v = .str x
  | .fn i, v => v = .ref (R.fa i)
  | .tup ds, v => ∃ a, v = .ref a ∧ (a, D.tup ds) ∈ R.gt
  | _, _ => False
theorem GV.rd {R : RC} {ρ φ : List Addr} {H : Hp} {h : Hc} (r : RelH R ρ φ H h) : ∀ {d : D} {v : V}, GV R d v → RD R ρ φ H d v
  | .non, _, q => by simp only [RD]; exact q
  | .bl _, _, q => by simp only [RD]; exact q
  | .int _, _, q => by simp only [RD]; exact q
  | .str _, _, q => by simp only [RD]; exact q
  | .fn _, _, q => by simp only [RD]; exact q
  | .tup ds, _, ⟨a, e, m⟩ => by subst e; exact (r.gt _ m).2
  | .lst _, _, q => q.elim
  | .ref _, _, q => q.elim
def spC (R : RC) (Y : XC) (C : Caller) (i : Nat) : Sp := fun vs H Q E => ∃ ρ φ ds h, RelH R ρ φ H h ∧ RDs R ρ φ H ds vs ∧ Fin R Y (fun cls dd _ H => E cls dd H) [] ρ φ H (rD R φ) (C i ds h) Q
/-- a run's ground: where a term runs, all that its proof leans on -/
structure Gd (S : Sg) (R : RC) (C : Caller) (Y : XC) (n : Nat) (N : List Str) (cm : Bool) (sc : Scope) (X : Cx) (W : WX) : Prop where
  hK : R.K = X.K
  hN : X.N = N
  nd : N.Nodup
  sees : Sees sc X.env.scope
  fnc : ∀ x, sc.names.lookup x = some .cell → X.fn x = true
  calm : cm = true → X.calm = true
  tk : Takes X W
  hu : X.A.units + 100 < cLine
  glob : ∀ x d, S.glob x = some d → ∃ u v, X.mg x = some u ∧ RelV v u ∧ GV R d v
  blt : ∀ x ∈ bltNames, X.mg x = none
  room : cm = true → Room n X.A
  calls : ∀ i x, S.fns[i]? = some x → ∃ fd ps, X.mg x = some (.ref (R.fa i)) ∧ PySem.W.keepIn X.K (.ref (R.fa i)) = true ∧ Binds X.K fd ps [] ∧ FnOk X.prog X.w X.K X.mg X.base (L2.CX X.prog X.w) n (R.fa i) fd ps (spC R Y C i)
def tE (R : RC) (Y : XC) (W : WX) (f : EvF) : TE := fun σ H Q => ∃ ρ φ c h, RelS R ρ φ H c σ ∧ RelH R ρ φ H h ∧ Fin R Y W σ ρ φ H (rD R φ) (f c h) Q
def tA (R : RC) (Y : XC) (W : WX) (f : CSt → Hc → ERes (List D)) : TA := fun σ H Q => ∃ ρ φ c h, RelS R ρ φ H c σ ∧ RelH R ρ φ H h ∧ Fin R Y W σ ρ φ H (rDs R φ) (f c h) Q
abbrev rEq {α : Type} : List Addr → Hp → α → α → Prop := fun _ _ a b => a = b
def tT (R : RC) (Y : XC) (W : WX) (f : EvF) : TT := fun σ H Q => ∃ ρ φ c h, RelS R ρ φ H c σ ∧ RelH R ρ φ H h ∧ Fin R Y W σ ρ φ H rEq (boolR (f c h)) Q
/-- a new list, held back -/
def FinL (R : RC) (Y : XC) (W : WX) (σ : L2.St) (ρ φ : List Addr) (H : Hp) (r : ERes D) (Q : V → Hp → Prop) : Prop :=
  match r with
  | .ok (.lst xs) h' => ∀ ρ' p ws H', Ext ρ ρ' H H' → RelH R ρ' (p :: φ) H' h' → H p = none → p ∉ φ → H' p = some (.lst ws) → RDs R ρ' (p :: φ) H' xs ws → Q (.ref p) H'
  | .ok _ _ => True
  | .exc x h' => ∀ ρ' cls dd H', Ext ρ ρ' H H' → RelH R ρ' φ H' h' → RX R Y ρ' φ H' x cls dd → W cls dd σ H'
  | .stuck => False
def tL (R : RC) (Y : XC) (W : WX) (f : EvF) : TE := fun σ H Q => ∃ ρ φ c h, RelS R ρ φ H c σ ∧ RelH R ρ φ H h ∧ FinL R Y W σ ρ φ H (f c h) Q ∧ ∀ d h', f c h = .ok d h' → ∃ xs, d = .lst xs
section
variable {S : Sg} {R : RC} {C : Caller} {Y : XC} {n : Nat} {N : List Str} {cm : Bool} {sc : Scope} {X : Cx} {W : WX} {e : Expr}
theorem pe_imp {t t' : TE} (h : PE X e t) (k : ∀ σ H Q, t' σ H Q → t σ H Q) : PE X e t' := ⟨fun pins s σ H Q I q => h.run pins s σ H Q I (k σ H Q q)⟩
theorem pt_imp {t t' : TT} (h : PT X e t) (k : ∀ σ H Q, t' σ H Q → t σ H Q) : PT X e t' := ⟨fun pins s σ H Q I q => h.run pins s σ H Q I (k σ H Q q)⟩
theorem pw_imp {t t' : TT} (h : PW X e t) (k : ∀ σ H Q, t' σ H Q → t σ H Q) : PW X e t' := ⟨fun wh pins s σ H Q I q => h.run wh pins s σ H Q I (k σ H Q q)⟩
theorem pa_imp {es : List Expr} {t t' : TA} (h : PA X es t) (k : ∀ σ H Q, t' σ H Q → t σ H Q) : PA X es t' := ⟨fun pos pins s σ H Q I q => h.run pos pins s σ H Q I (k σ H Q q)⟩
theorem tE_of {f g : EvF} (h : PE X e (tE R Y W f)) (k : ∀ c h, f c h = g c h) : PE X e (tE R Y W g) := by
  have : f = g := by funext c h; exact k c h
  rw [← this]; exact h
theorem Sees.vis {sc' : Scope} (s : Sees sc sc') {x : Str} (h : visK (sc.names.lookup x) = true) : Vis sc' x := by
  cases q : sc.names.lookup x with
  | none => rw [q] at h; cases h
  | some k =>
    cases k with
    | «local» => exact .inl (s.loc x q)
    | cell => exact .inr (.inl (s.cell x q))
    | free => exact (s.free x q).elim (fun z => .inr (.inl z)) fun z => .inr (.inr z)
    | globalExplicit => rw [q] at h; cases h
    | globalImplicit => rw [q] at h; cases h
theorem nm_dbg {x : Str} (h : nmOk x = true) : (x == ("__debug__" : Str)) = false ∧ (x == ("__classdict__" : Str)) = false ∧ x ≠ "__name__" := by
  unfold nmOk at h
  simp only [Bool.and_eq_true, decide_eq_true_eq] at h
  refine ⟨h.1.1, h.1.2, fun e => ?_⟩
  have := h.2
  rw [e] at this
  simp at this
theorem chk_ns : ∀ {c : CE} {e : Expr}, chkE S N sc cm c e = true → ∀ (es : List Expr) (env : PySem.Env), starEach (e :: es) env = (false, eval e env) :: starEach es env := by
  intro c e h es env
  cases e with
  | Starred v p =>
    exfalso
    cases c with
    | cell c =>
      have h' : (freshC c && chkE S N sc cm c (.Starred v p)) = true := h
      rw [Bool.and_eq_true] at h'
      obtain ⟨h1, h2⟩ := h'
      cases c with
      | bi b args => cases b <;> exact Bool.noConfusion (show false = true from h2)
      | _ => first | exact Bool.noConfusion (show false = true from h2) | exact Bool.noConfusion (show false = true from h1)
    | bi b args => cases b <;> exact Bool.noConfusion (show false = true from h)
    | _ => exact Bool.noConfusion (show false = true from h)
  | _ => rfl
theorem chks_plain : ∀ {cs : CEs} {es : List Expr}, chkEs S N sc cm cs es = true → ∀ (pos : Pos) (env : PySem.Env), (backTo pos (starEach es env)).any (·.1) = false
  | .nil, [], _, _, _ => rfl
  | .nil, _ :: _, h, _, _ => by simp [chkEs] at h
  | .cons c cs, [], h, _, _ => by simp [chkEs] at h
  | .cons c cs, e :: es, h, pos, env => by
    simp only [chkEs, Bool.and_eq_true] at h
    rw [chk_ns h.1]
    show ((false, _).1 || (backTo pos (starEach es env)).any (·.1)) = false
    rw [chks_plain h.2]
    rfl
theorem attr_base {o : Expr} {m : Str} {env : PySem.Env} (h : baseOk o = true) : attributeBase o m env (eval o env) = eval o env := by
  cases o <;> first | rfl | (simp [baseOk] at h)
theorem notset_fold {e : Expr} {env : PySem.Env} (h : notSet e = true) : ∀ x, foldedSetIterable e env x = pure x := by
  intro x
  cases e <;> first | rfl | (simp [notSet] at h)
theorem notset_mark {e : Expr} {op : CmpOp} (h : notSet e = true) : behindInMarks op e = false := by
  cases e <;> first | rfl | (simp [notSet] at h)
end
end Cl

namespace Cl
open PySem PySem.Spec PyProof.Rows L2
section
variable {S : Sg} {R : RC} {C : Caller} {Y : XC} {n : Nat} {N : List Str} {cm : Bool} {sc : Scope} {X : Cx} {W : WX} (G : Gd S R C Y n N cm sc X W) {pos : Pos}
include G
theorem Gd.glb {x : Str} (h : isGlB sc x = true) : Gl X x ∧ nmOk x = true := by
  unfold isGlB at h
  simp only [Bool.and_eq_true, decide_eq_true_eq] at h
  exact ⟨G.sees.gl x h.1, h.2⟩
theorem c_var {i : Nat} {x : Str} (h : isVarB N sc i x = true) : PE X (.Name x pos) (tE R Y W (evE C (.var i))) := by
  unfold isVarB at h
  simp only [Bool.and_eq_true, decide_eq_true_eq] at h
  obtain ⟨⟨h1, h2⟩, h3⟩ := h
  obtain ⟨d1, d2, _⟩ := nm_dbg h3
  refine pe_imp (pe_var (i := i) (by rw [G.hN]; exact h1) (G.sees.vis h2) d1 d2) fun σ H Q ⟨ρ, φ, c, h, hS, hH, f⟩ => ?_
  simp only [evE] at f
  cases q : c[i]? with
  | none => rw [q] at f; exact f.elim
  | some o =>
    cases o with
    | none => rw [q] at f; exact f.elim
    | some d =>
      rw [q] at f
      obtain ⟨v, h4, h5⟩ := hS.at_ i d q
      exact ⟨v, h4, f ρ v H Ext.refl hH h5⟩
omit G in
theorem c_cst {d : D} {c : Const} {k : Nat} (h : chkC d c = true) : PE X (.Constant c k pos) (tE R Y W (evE C (.cst d))) := by
  cases d with
  | non =>
    cases c <;> simp [chkC] at h
    exact pe_imp pe_non fun σ H Q ⟨ρ, φ, c, h, hS, hH, f⟩ => f ρ _ H Ext.refl hH (by simp only [RD])
  | bl b =>
    cases c <;> simp [chkC] at h
    subst h
    exact pe_imp pe_bl fun σ H Q ⟨ρ, φ, c, h, hS, hH, f⟩ => f ρ _ H Ext.refl hH (by simp only [RD])
  | int b =>
    cases c <;> simp [chkC] at h
    subst h
    exact pe_imp pe_int fun σ H Q ⟨ρ, φ, c, h, hS, hH, f⟩ => f ρ _ H Ext.refl hH (by simp only [RD])
  | str b =>
    cases c <;> simp [chkC] at h
    subst h
    exact pe_imp pe_str fun σ H Q ⟨ρ, φ, c, h, hS, hH, f⟩ => f ρ _ H Ext.refl hH (by simp only [RD])
  | _ => cases c <;> simp [chkC] at h
theorem c_glob {x y : Str} {d : D} (h1 : isGlB sc y = true) (h2 : S.glob y = some d) : PE X (.Name y pos) (tE R Y W (evE C (.glob x d))) := by
  obtain ⟨g1, g2⟩ := G.glb h1
  obtain ⟨u, v, m1, m2, m3⟩ := G.glob y d h2
  exact pe_imp (pe_glob g1 m1 m2 (nm_dbg g2).1) fun σ H Q ⟨ρ, φ, c, h, hS, hH, f⟩ => f ρ _ H Ext.refl hH (m3.rd hH)
variable {a b c : CE} {ea eb ec : Expr}
theorem c_bin {op : Operator} (ha : PE X ea (tE R Y W (evE C a))) (hb : PE X eb (tE R Y W (evE C b))) : PE X (.BinOp ea op eb pos) (tE R Y W (evE C (.bin op a b))) :=
  pe_imp (pe_op (binR G.hK op) ha hb) fun σ H Q ⟨ρ, φ, s, h, hS, hH, f⟩ => by
    simp only [evE] at f
    refine ⟨ρ, φ, s, h, hS, hH, f.bind fun x h1 ρ1 v H1 _ e1 hH1 r1 f1 => ?_⟩
    refine ⟨ρ1, φ, s, h1, hS.ext e1, hH1, f1.bind fun y h2 ρ2 u H2 _ e2 hH2 r2 f2 => ?_⟩
    obtain ⟨d, ed, k⟩ := Fin.ofO f2
    exact ⟨ρ2, φ, h2, x, y, d, hH2, r1.ext e2, r2, ed, k⟩
omit G in
theorem c_neg (ha : PE X ea (tE R Y W (evE C a))) : PE X (.UnaryOp .USub ea pos) (tE R Y W (evE C (.neg a))) :=
  pe_imp (pe_un un_neg ha) fun σ H Q ⟨ρ, φ, s, h, hS, hH, f⟩ => by
    simp only [evE] at f
    refine ⟨ρ, φ, s, h, hS, hH, f.bind fun x h1 ρ1 v H1 _ e1 hH1 r1 f1 => ?_⟩
    cases x with
    | int i =>
      simp only [RD] at r1
      exact ⟨i, r1, f1 _ _ _ Ext.refl hH1 (by simp only [RD])⟩
    | _ => exact f1.elim
omit G in
theorem c_not (ha : PE X ea (tE R Y W (evE C a))) : PE X (.UnaryOp .Not ea pos) (tE R Y W (evE C (.not_ a))) :=
  pe_imp (pe_not ha) fun σ H Q ⟨ρ, φ, s, h, hS, hH, f⟩ => by
    simp only [evE] at f
    refine ⟨ρ, φ, s, h, hS, hH, f.bind fun x h1 ρ1 v H1 _ e1 hH1 r1 f1 => ?_⟩
    cases x with
    | bl i =>
      simp only [RD] at r1
      exact ⟨i, r1, f1 _ _ _ Ext.refl hH1 (by simp only [RD])⟩
    | _ => exact f1.elim
theorem c_cmp {op : CmpOp} (hs : notSet eb = true) (ha : PE X ea (tE R Y W (evE C a))) (hb : PE X eb (tE R Y W (evE C b))) : PE X (.Compare ea [op] [eb] pos) (tE R Y W (evE C (.cmp op a b))) :=
  pe_imp (pe_cmpR (cmpR G.hK op G.hu) ha hb (notset_mark hs)) fun σ H Q ⟨ρ, φ, s, h, hS, hH, f⟩ => by
    simp only [evE] at f
    refine ⟨ρ, φ, s, h, hS, hH, f.bind fun x h1 ρ1 v H1 _ e1 hH1 r1 f1 => ?_⟩
    refine ⟨ρ1, φ, s, h1, hS.ext e1, hH1, f1.bind fun y h2 ρ2 u H2 _ e2 hH2 r2 f2 => ?_⟩
    obtain ⟨d, ed, k⟩ := Fin.ofO f2
    obtain ⟨q, eq, rfl⟩ := Option.map_eq_some_iff.mp ed
    exact ⟨ρ2, φ, h2, x, y, q, hH2, r1.ext e2, r2, eq, k _ _ _ Ext.refl hH2 (by simp only [RD])⟩
theorem chain_read {op op' : CmpOp} {σ : L2.St} {H : Hp} {Q : VK} (q : tE R Y W (evE C (.chain op op' a b c)) σ H Q) :
    tChain (rB R fun h => cmpF h op) (rB R fun h => cmpF h op') (tE R Y W (evE C a)) (tE R Y W (evE C b)) (tE R Y W (evE C c)) σ H Q := by
  obtain ⟨ρ, φ, s, h, hS, hH, f⟩ := q
  simp only [evE] at f
  refine ⟨ρ, φ, s, h, hS, hH, f.bind fun x h1 ρ1 v H1 _ e1 hH1 r1 f1 => ?_⟩
  refine ⟨ρ1, φ, s, h1, hS.ext e1, hH1, f1.bind fun y h2 ρ2 u H2 _ e2 hH2 r2 f2 => ?_⟩
  cases eq : cmpF h2 op x y with
  | none => rw [eq] at f2; exact f2.elim
  | some k =>
    rw [eq] at f2
    refine ⟨ρ2, φ, h2, x, y, k, hH2, r1.ext e2, r2, eq, k, rfl, ?_⟩
    cases k with
    | false => exact f2 _ _ _ Ext.refl hH2 (by simp only [RD])
    | true =>
      rw [if_pos rfl]
      refine ⟨ρ2, φ, s, h2, (hS.ext e1).ext e2, hH2, f2.bind fun z h3 ρ3 w H3 _ e3 hH3 r3 f3 => ?_⟩
      obtain ⟨d, ed, k⟩ := Fin.ofO f3
      obtain ⟨q, eq, rfl⟩ := Option.map_eq_some_iff.mp ed
      exact ⟨ρ3, φ, h3, y, z, q, hH3, r2.ext e3, r3, eq, k _ _ _ Ext.refl hH3 (by simp only [RD])⟩
theorem c_chain {op op' : CmpOp} (hs : notSet ec = true) (ha : PE X ea (tE R Y W (evE C a))) (hb : PE X eb (tE R Y W (evE C b))) (hc : PE X ec (tE R Y W (evE C c))) :
    PE X (.Compare ea [op, op'] [eb, ec] pos) (tE R Y W (evE C (.chain op op' a b c))) :=
  pe_imp (pe_chain (cmpR G.hK op G.hu) (cmpR G.hK op' G.hu) ha hb hc (notset_mark hs)) fun σ H Q q => chain_read G q
omit G in
theorem and_read {ta tb : EvF} {f : EvF} (hf : ∀ s h, f s h = (ta s h).bind fun x h => match x with | .bl true => tb s h | .bl false => .ok (.bl false) h | _ => .stuck) {σ : L2.St} {H : Hp} {Q : VK} (q : tE R Y W f σ H Q) : tAndV (tE R Y W ta) (tE R Y W tb) σ H Q := by
  obtain ⟨ρ, φ, s, h, hS, hH, f⟩ := q
  rw [hf] at f
  refine ⟨ρ, φ, s, h, hS, hH, f.bind fun x h1 ρ1 v H1 _ e1 hH1 r1 f1 => ?_⟩
  cases x with
  | bl k =>
    simp only [RD] at r1
    refine ⟨k, r1, ?_⟩
    cases k with
    | true => rw [if_pos rfl]; exact ⟨ρ1, φ, s, h1, hS.ext e1, hH1, f1⟩
    | false => exact f1 _ _ _ Ext.refl hH1 (by simp only [RD])
  | _ => exact f1.elim
omit G in
theorem or_read {ta tb : EvF} {f : EvF} (hf : ∀ s h, f s h = (ta s h).bind fun x h => match x with | .bl true => .ok (.bl true) h | .bl false => tb s h | _ => .stuck) {σ : L2.St} {H : Hp} {Q : VK} (q : tE R Y W f σ H Q) : tOrV (tE R Y W ta) (tE R Y W tb) σ H Q := by
  obtain ⟨ρ, φ, s, h, hS, hH, f⟩ := q
  rw [hf] at f
  refine ⟨ρ, φ, s, h, hS, hH, f.bind fun x h1 ρ1 v H1 _ e1 hH1 r1 f1 => ?_⟩
  cases x with
  | bl k =>
    simp only [RD] at r1
    refine ⟨k, r1, ?_⟩
    cases k with
    | true => exact f1 _ _ _ Ext.refl hH1 (by simp only [RD])
    | false => rw [if_neg Bool.false_ne_true]; exact ⟨ρ1, φ, s, h1, hS.ext e1, hH1, f1⟩
  | _ => exact f1.elim
omit G in
theorem c_and {rest : List Expr} (ha : PE X ea (tE R Y W (evE C a))) (hb : PE X (.BoolOp .And (eb :: rest) pos) (tE R Y W (evE C b))) : PE X (.BoolOp .And (ea :: eb :: rest) pos) (tE R Y W (evE C (.and_ a b))) :=
  pe_imp (pe_and ha hb) fun σ H Q q => and_read (fun s h => by simp only [evE]; all_goals rfl) q
omit G in
theorem c_or {rest : List Expr} (ha : PE X ea (tE R Y W (evE C a))) (hb : PE X (.BoolOp .Or (eb :: rest) pos) (tE R Y W (evE C b))) : PE X (.BoolOp .Or (ea :: eb :: rest) pos) (tE R Y W (evE C (.or_ a b))) :=
  pe_imp (pe_or ha hb) fun σ H Q q => or_read (fun s h => by simp only [evE]; all_goals rfl) q

/-! ### tests -/
omit G in
theorem boolR_bind {α : Type} (r : ERes α) (f : α → Hc → ERes D) : boolR (r.bind f) = r.bind fun a h => boolR (f a h) := by cases r <;> rfl
omit G in
theorem t_val {e : Expr} {f : EvF} (h : PE X e (tE R Y W f)) (he : ∀ whole, isTrue e X.env whole = (do let v ← whole; standAt e.pos; holding [v] (truthy v))) : PT X e (tT R Y W f) :=
  pt_imp (pt_val h he) fun σ H Q ⟨ρ, φ, s, h, hS, hH, k⟩ => by
    refine ⟨ρ, φ, s, h, hS, hH, ?_⟩
    cases q : f s h with
    | stuck => rw [q] at k; exact k.elim
    | exc x h' => rw [q] at k; exact k
    | ok d h' =>
      rw [q] at k
      cases d with
      | bl b =>
        intro ρ' v H' e1 hH1 r1
        simp only [RD] at r1
        exact ⟨b, r1, k ρ' b H' e1 hH1 rfl⟩
      | _ => exact k.elim
omit G in
theorem t_not (ha : PT X ea (tT R Y W (evE C a))) : PT X (.UnaryOp .Not ea pos) (tT R Y W (evE C (.not_ a))) :=
  pt_imp (pt_not ha) fun σ H Q ⟨ρ, φ, s, h, hS, hH, k⟩ => by
    refine ⟨ρ, φ, s, h, hS, hH, ?_⟩
    simp only [evE] at k
    cases q : evE C a s h with
    | stuck => rw [q] at k; exact k.elim
    | exc x h' => rw [q] at k; exact k
    | ok d h' =>
      rw [q] at k
      cases d with
      | bl b => exact fun ρ' v H' e1 hH1 r1 => k ρ' _ H' e1 hH1 (by rw [r1])
      | _ => exact k.elim
theorem t_cmp {op : CmpOp} (hs : notSet eb = true) (ha : PE X ea (tE R Y W (evE C a))) (hb : PE X eb (tE R Y W (evE C b))) : PT X (.Compare ea [op] [eb] pos) (tT R Y W (evE C (.cmp op a b))) :=
  pt_imp (pt_cmpR (cmpR G.hK op G.hu) ha hb (notset_mark hs)) fun σ H Q ⟨ρ, φ, s, h, hS, hH, f⟩ => by
    simp only [evE, boolR_bind] at f
    refine ⟨ρ, φ, s, h, hS, hH, f.bind fun x h1 ρ1 v H1 _ e1 hH1 r1 f1 => ?_⟩
    refine ⟨ρ1, φ, s, h1, hS.ext e1, hH1, f1.bind fun y h2 ρ2 u H2 _ e2 hH2 r2 f2 => ?_⟩
    cases eq : cmpF h2 op x y with
    | none => rw [eq] at f2; exact f2.elim
    | some k =>
      rw [eq] at f2
      exact ⟨ρ2, φ, h2, x, y, k, hH2, r1.ext e2, r2, eq, k, rfl, f2 _ _ _ Ext.refl hH2 rfl⟩
theorem t_chain {op op' : CmpOp} (hs : notSet ec = true) (ha : PE X ea (tE R Y W (evE C a))) (hb : PE X eb (tE R Y W (evE C b))) (hc : PE X ec (tE R Y W (evE C c))) :
    PT X (.Compare ea [op, op'] [eb, ec] pos) (tT R Y W (evE C (.chain op op' a b c))) :=
  pt_imp (pt_chain (cmpR G.hK op G.hu) (cmpR G.hK op' G.hu) ha hb hc (notset_mark hs)) fun σ H Q ⟨ρ, φ, s, h, hS, hH, k⟩ => by
    refine chain_read G ⟨ρ, φ, s, h, hS, hH, ?_⟩
    cases q : evE C (.chain op op' a b c) s h with
    | stuck => rw [q] at k; exact k.elim
    | exc x h' => rw [q] at k; exact k
    | ok d h' =>
      rw [q] at k
      cases d with
      | bl b =>
        intro ρ' v H' e1 hH1 r1
        simp only [RD] at r1
        exact ⟨b, r1, k ρ' b H' e1 hH1 rfl⟩
      | _ => exact k.elim
omit G in
theorem and_readT {ta tb : EvF} {f : EvF} (hf : ∀ s h, f s h = (ta s h).bind fun x h => match x with | .bl true => tb s h | .bl false => .ok (.bl false) h | _ => .stuck) {σ : L2.St} {H : Hp} {Q : Bool → Hp → Prop} (q : tT R Y W f σ H Q) : tAnd (tT R Y W ta) (tT R Y W tb) σ H Q := by
  obtain ⟨ρ, φ, s, h, hS, hH, f⟩ := q
  rw [hf] at f
  refine ⟨ρ, φ, s, h, hS, hH, ?_⟩
  cases q : ta s h with
  | stuck => rw [q] at f; exact f.elim
  | exc x h' => rw [q] at f; exact f
  | ok d h' =>
    rw [q] at f
    cases d with
    | bl k =>
        intro ρ1 v H1 e1 hH1 r1
        subst r1
        cases k with
        | true => rw [if_pos rfl]; exact ⟨ρ1, φ, s, h', hS.ext e1, hH1, Fin.ext (r := boolR (tb s h')) f e1⟩
        | false => exact f ρ1 _ H1 e1 hH1 rfl
    | _ => exact f.elim
omit G in
theorem or_readT {ta tb : EvF} {f : EvF} (hf : ∀ s h, f s h = (ta s h).bind fun x h => match x with | .bl true => .ok (.bl true) h | .bl false => tb s h | _ => .stuck) {σ : L2.St} {H : Hp} {Q : Bool → Hp → Prop} (q : tT R Y W f σ H Q) : tOr (tT R Y W ta) (tT R Y W tb) σ H Q := by
  obtain ⟨ρ, φ, s, h, hS, hH, f⟩ := q
  rw [hf] at f
  refine ⟨ρ, φ, s, h, hS, hH, ?_⟩
  cases q : ta s h with
  | stuck => rw [q] at f; exact f.elim
  | exc x h' => rw [q] at f; exact f
  | ok d h' =>
    rw [q] at f
    cases d with
    | bl k =>
        intro ρ1 v H1 e1 hH1 r1
        subst r1
        cases k with
        | false => rw [if_neg Bool.false_ne_true]; exact ⟨ρ1, φ, s, h', hS.ext e1, hH1, Fin.ext (r := boolR (tb s h')) f e1⟩
        | true => exact f ρ1 _ H1 e1 hH1 rfl
    | _ => exact f.elim
omit G in
theorem t_and {rest : List Expr} (ha : PT X ea (tT R Y W (evE C a))) (hb : PW X (.BoolOp .And (eb :: rest) pos) (tT R Y W (evE C b))) : PW X (.BoolOp .And (ea :: eb :: rest) pos) (tT R Y W (evE C (.and_ a b))) :=
  pw_imp (pw_and ha hb) fun σ H Q q => and_readT (fun s h => by simp only [evE]; all_goals rfl) q
omit G in
theorem t_or {rest : List Expr} (ha : PT X ea (tT R Y W (evE C a))) (hb : PW X (.BoolOp .Or (eb :: rest) pos) (tT R Y W (evE C b))) : PW X (.BoolOp .Or (ea :: eb :: rest) pos) (tT R Y W (evE C (.or_ a b))) :=
  pw_imp (pw_or ha hb) fun σ H Q q => or_readT (fun s h => by simp only [evE]; all_goals rfl) q
omit G in
theorem ite_readT {tt ta tb : EvF} {Z : Type} {f : CSt → Hc → ERes Z} {g : ERes D → ERes Z} (hg0 : ∀ x h, g (.exc x h) = .exc x h) (hg1 : g .stuck = .stuck) (hf : ∀ s h, f s h = g ((tt s h).bind fun x h => match x with | .bl true => ta s h | .bl false => tb s h | _ => .stuck))
    {ρ φ : List Addr} {s : CSt} {h : Hc} {σ : L2.St} {H : Hp} {β : Type} {rel : List Addr → Hp → Z → β → Prop} {Q : β → Hp → Prop} (k : Fin R Y W σ ρ φ H rel (f s h) Q) {P : Bool → Hp → Prop}
    (kt : ∀ b ρ1 H1 h1, Ext ρ ρ1 H H1 → RelH R ρ1 φ H1 h1 → Fin R Y W σ ρ1 φ H1 rel (g (if b then ta s h1 else tb s h1)) Q → P b H1) : Fin R Y W σ ρ φ H rEq (boolR (tt s h)) P := by
  rw [hf] at k
  cases q : tt s h with
  | stuck => rw [q] at k; rw [show g (ERes.bind ERes.stuck _) = ERes.stuck from hg1] at k; exact k.elim
  | exc x h' => rw [q] at k; rw [show g (ERes.bind (ERes.exc x h') _) = ERes.exc x h' from hg0 x h'] at k; exact k
  | ok d h' =>
    rw [q] at k
    cases d with
    | bl b =>
        intro ρ1 v H1 e1 hH1 r1
        subst r1
        cases b with
        | true => exact kt true ρ1 H1 h' e1 hH1 (Fin.ext (r := g (ta s h')) k e1)
        | false => exact kt false ρ1 H1 h' e1 hH1 (Fin.ext (r := g (tb s h')) k e1)
    | _ =>
      have k' : Fin R Y W σ ρ φ H rel (g ERes.stuck) Q := k
      rw [hg1] at k'
      exact k'.elim
omit G in
theorem c_ite (ht : PT X ea (tT R Y W (evE C a))) (hb : PE X eb (tE R Y W (evE C b))) (hc : PE X ec (tE R Y W (evE C c))) : PE X (.IfExp ea eb ec pos) (tE R Y W (evE C (.ite a b c))) :=
  pe_imp (pe_ifExp ht hb hc) fun σ H Q ⟨ρ, φ, s, h, hS, hH, k⟩ => by
    refine ⟨ρ, φ, s, h, hS, hH, ite_readT (g := id) (fun _ _ => rfl) rfl (fun s h => by simp only [evE, id]; rfl) k fun b ρ1 H1 h1 e1 hH1 k1 => ?_⟩
    cases b with
    | true => rw [if_pos rfl]; exact ⟨ρ1, φ, s, h1, hS.ext e1, hH1, k1⟩
    | false => rw [if_neg Bool.false_ne_true]; exact ⟨ρ1, φ, s, h1, hS.ext e1, hH1, k1⟩
omit G in
theorem pt_ifExp {t ta tb : TT} (ht : PT X ea t) (hb : PT X eb ta) (hc : PT X ec tb) : PT X (.IfExp ea eb ec pos) (fun σ H Q => t σ H fun b H1 => if b = true then ta σ H1 Q else tb σ H1 Q) := by
  refine ⟨fun pins s σ H Q I h => ?_⟩
  show wpAny _ _ (do if ← isTrue ea X.env (eval ea X.env) then isTrue eb X.env (eval eb X.env) else isTrue ec X.env (eval ec X.env)) _ _ s
  refine wpAny_bind (thn (ht.run pins s σ H _ I h) fun d s1 ⟨H1, I1, q1⟩ => ?_)
  cases d with
  | true => exact hb.run pins s1 σ H1 Q I1 q1
  | false => exact hc.run pins s1 σ H1 Q I1 q1
omit G in
theorem t_ite (ht : PT X ea (tT R Y W (evE C a))) (hb : PT X eb (tT R Y W (evE C b))) (hc : PT X ec (tT R Y W (evE C c))) : PT X (.IfExp ea eb ec pos) (tT R Y W (evE C (.ite a b c))) :=
  pt_imp (pt_ifExp ht hb hc) fun σ H Q ⟨ρ, φ, s, h, hS, hH, k⟩ => by
    refine ⟨ρ, φ, s, h, hS, hH, ite_readT (g := boolR) (f := fun s h => boolR (evE C (.ite a b c) s h)) (fun _ _ => rfl) rfl (fun s h => by simp only [evE]; rfl) k fun b ρ1 H1 h1 e1 hH1 k1 => ?_⟩
    cases b with
    | true => rw [if_pos rfl]; exact ⟨ρ1, φ, s, h1, hS.ext e1, hH1, k1⟩
    | false => rw [if_neg Bool.false_ne_true]; exact ⟨ρ1, φ, s, h1, hS.ext e1, hH1, k1⟩
end
end Cl

namespace Cl
open PySem PySem.Spec PyProof.Rows L2
def plainIxB : Expr → Bool
  | .Slice _ _ _ _ => false
  | _ => true
theorem plainIx_of {e : Expr} (h : plainIxB e = true) : PlainIx e := by
  intro o i
  cases e <;> first | rfl | exact Bool.noConfusion (show false = true from h)
section
variable {X : Cx} {R : RC} (hK : R.K = X.K)
theorem ix_dict (hu : X.A.units + 100 < cLine) : IxR X (fun x y H Q => ∃ a v, x = .ref a ∧ DGet H a y (some v) ∧ Q v H) := by
  intro value slice pins s σ H x y v u Q I rx ry ⟨a, z, ex, g, q⟩ hs
  subst ex
  obtain rfl : v = Value.ref a := rx
  have hT := dict_typeIs I g
  unfold subscriptTail
  refine wpAny_bind ?_
  rw [getitemInPython_of_ne hT.not_modules]
  refine wpAny_bind (wpAny_specialOf hT PySem.F.slot_dict_getitem.lookup ?_)
  have fin : wpAny (model X.prog X.w) X.A (subscripted slice false (.ref a) u) (fun r s₃ => wpAny (model X.prog X.w) X.A (letTemporaryGo value (.ref a) r >>= fun _ => pure r) (EP X pins σ Q) X.xe s₃) X.xe s := by
    rw [hs]
    exact wpAny_operating (wpAny_mono (d_getItem (by omega) I g ry fun w' s3 I3 rw' => (⟨z, H, I3, rw', q⟩ : EP X pins σ Q w' s3)) (fun r s₃ h₃ => wpAny_bind (wpAny_letTemporaryGo (wpAny_pure h₃))) fun _ _ x => x)
  first
    | exact wpAny_pure (wpAny_bind fin)
    | exact wpAny_bind fin
    | exact fin
theorem atD_at {α : Type} {xs : List α} {i : Int} : atD xs i = atI xs i := rfl
theorem rds_at {ρ φ : List Addr} {H : Hp} {xs : List D} {vs : List V} {i : Int} {d : D} (r : RDs R ρ φ H xs vs) (e : atD xs i = some d) : ∃ v, atI vs i = some v ∧ RD R ρ φ H d v := by
  unfold atD at e
  obtain ⟨j, e1, e2⟩ := Option.bind_eq_some_iff.mp e
  obtain ⟨v, h1, h2⟩ := r.get e2
  refine ⟨v, ?_, h2⟩
  unfold atI
  rw [← r.len]
  exact Option.bind_eq_some_iff.mpr ⟨j, e1, h1⟩
include hK
theorem idxR (hu : X.A.units + 100 < cLine) : IxR X (rC R idxF) := by
  intro value slice pins s σ H x y v u Q I rx ry ⟨ρ, φ, h, a, b, d, rH, ra, rb, e, k⟩ hs
  have lst : ∀ {l : Addr} {vs : List V} {xs : List D} {i : Int}, x = .ref l → b = .int i → SqL X.K H l vs → RDs R ρ φ H xs vs → atD xs i = some d → wpAny (model X.prog X.w) X.A (subscriptTail value slice v u) (EP X pins σ Q) X.xe s := by
    intro l vs xs i e1 e2 h1 h2 h3
    subst e1 e2
    simp only [RD] at rb
    subst rb
    obtain ⟨z, g1, g2⟩ := rds_at h2 h3
    exact ix_list value slice pins s σ H _ _ v u Q I rx ry ⟨l, vs, i, z, rfl, rfl, h1, g1, k _ _ _ Ext.refl rH g2⟩ hs
  unfold idxF at e
  split at e
  · rename_i z i
    split at e
    · rename_i hz
      obtain ⟨c, ec, rfl⟩ := Option.map_eq_some_iff.mp e
      simp only [RD] at ra rb
      subst ra rb
      exact ix_str value slice pins s σ H _ _ v u Q I rx ry ⟨z, i, c, rfl, rfl, by rw [← line_eq]; exact hz, ec, k _ _ _ Ext.refl rH (by simp only [RD])⟩ hs
    · cases e
  · rename_i n
    have ra' := ra
    simp only [RD] at ra
    obtain ⟨l, el, rfl⟩ := ra
    split at e
    · rename_i xs hc
      obtain ⟨vs, h1, h2⟩ := rH.cells n l _ el hc
      split at e
      · exact lst rfl rfl (SqL.of h1) h2 e
      · cases e
    · rename_i xs hc
      obtain ⟨o, vs, h1, h2⟩ := rH.cells n l _ el hc
      split at e
      · exact lst rfl rfl (.inl (.inr ⟨o, h1⟩)) h2 e
      · cases e
    · obtain ⟨o, e1, e2⟩ := Option.bind_eq_some_iff.mp e
      simp only [id] at e2
      subst e2
      obtain ⟨o', g, q⟩ := look_get rH rb el e1
      rcases q with ⟨q, _⟩ | ⟨d', w, q1, q2, q3⟩
      · cases q
      · cases q1
        subst q2
        exact ix_dict hu value slice pins s σ H _ _ v u Q I rx ry ⟨l, w, rfl, g, k _ _ _ Ext.refl rH q3⟩ hs
  · simp only [RD] at ra
    obtain ⟨l, vs, rfl, h1, h2⟩ := ra
    simp only [RD] at rb
    subst rb
    obtain ⟨z, g1, g2⟩ := rds_at h2 e
    exact ix_tup value slice pins s σ H _ _ v u Q I rx ry ⟨l, vs, _, z, rfl, rfl, hK ▸ h1.sq, g1, k _ _ _ Ext.refl rH g2⟩ hs
  · simp only [RD] at ra
    obtain ⟨l, vs, rfl, h1, h2⟩ := ra
    exact lst rfl rfl (hK ▸ h1.sq) h2 e
  · cases e
end
/-! ### isinstance -/
def kdStr : Kd → String
  | .non => "NoneType" | .bool => "bool" | .int => "int" | .str => "str" | .tuple => "tuple" | .list => "list" | .dict => "dict"
def tyStr : Ty → String
  | .int => "int" | .bool => "bool" | .str => "str" | .tuple => "tuple" | .list => "list" | .dict => "dict"
theorem kit_all (k : Kd) (t : Ty) : kitB (kdStr k) (tyStr t) = some (kdTy k t) := by
  cases k <;> cases t <;> decide +kernel
theorem ty_of {R : RC} {X : Cx} {ρ φ : List Addr} {H : Hp} {h : Hc} (rH : RelH R ρ φ H h) {d : D} {v : V} (r : RD R ρ φ H d v) {k : Kd} (e : kdD h d = some k) : TyX X.K H v (.type (kdStr k)) := by
  cases d with
  | non => simp only [kdD, Option.some.injEq] at e; subst e; simp only [RD] at r; subst r; exact .base .non
  | bl b => simp only [kdD, Option.some.injEq] at e; subst e; simp only [RD] at r; subst r; exact .base (.bl b)
  | int b => simp only [kdD, Option.some.injEq] at e; subst e; simp only [RD] at r; subst r; exact .base (.int b)
  | str b => simp only [kdD, Option.some.injEq] at e; subst e; simp only [RD] at r; subst r; exact .base (.str b)
  | tup ds =>
    simp only [kdD, Option.some.injEq] at e; subst e; simp only [RD] at r
    obtain ⟨a, vs, rfl, h1, _⟩ := r
    exact .base (.tup h1.1)
  | lst ds =>
    simp only [kdD, Option.some.injEq] at e; subst e; simp only [RD] at r
    obtain ⟨a, vs, rfl, h1, _⟩ := r
    exact .base (.lst h1.1)
  | ref n =>
    simp only [RD] at r
    obtain ⟨a, ea, rfl⟩ := r
    unfold kdD at e
    cases hc : h[n]? with
    | none => simp [hc] at e
    | some c =>
      have rc := rH.cells n a c ea hc
      cases c with
      | lst ys =>
        simp only [hc, Option.some.injEq] at e; subst e
        obtain ⟨vs, e1, _⟩ := rc
        exact .base (.lst e1)
      | ro ys =>
        simp only [hc, Option.some.injEq] at e; subst e
        obtain ⟨o, vs, e1, _⟩ := rc
        exact .base (.frz e1)
      | dK ys =>
        simp only [hc, Option.some.injEq] at e; subst e
        obtain ⟨vs, e1, _⟩ := rc
        exact .base (.dK e1)
      | dT ys =>
        simp only [hc, Option.some.injEq] at e; subst e
        obtain ⟨vs, e1, _⟩ := rc
        exact .base (.dT e1)
  | fn i => simp [kdD] at e
theorem boot_ty (t : Ty) : bootBuiltins (tyName t) = some (.type (tyStr t)) := by cases t <;> decide +kernel
theorem blt_ty (t : Ty) : tyName t ∈ bltNames := by cases t <;> decide +kernel
end Cl

namespace Cl
open PySem PySem.Spec PyProof.Rows L2
section
variable {S : Sg} {R : RC} {C : Caller} {Y : XC} {n : Nat} {N : List Str} {cm : Bool} {sc : Scope} {X : Cx} {W : WX} (G : Gd S R C Y n N cm sc X W) {pos : Pos}
/-! ### arguments -/
theorem a_nil : PA X [] (tA R Y W (evEs C .nil)) := pa_imp pa_nil fun σ H Q ⟨ρ, φ, s, h, hS, hH, f⟩ => by
  simp only [evEs] at f
  exact f ρ [] H Ext.refl hH (by simp only [RDs])
theorem a_cons {c : CE} {cs : CEs} {e : Expr} {es : List Expr} (hc : PE X e (tE R Y W (evE C c))) (hcs : PA X es (tA R Y W (evEs C cs))) (hs : starEach (e :: es) X.env = (false, eval e X.env) :: starEach es X.env) :
    PA X (e :: es) (tA R Y W (evEs C (.cons c cs))) :=
  pa_imp (pa_cons hc hcs hs) fun σ H Q ⟨ρ, φ, s, h, hS, hH, f⟩ => by
    simp only [evEs] at f
    refine ⟨ρ, φ, s, h, hS, hH, f.bind fun x h1 ρ1 v H1 _ e1 hH1 r1 f1 => ?_⟩
    refine ⟨ρ1, φ, s, h1, hS.ext e1, hH1, f1.bind fun y h2 ρ2 u H2 _ e2 hH2 r2 f2 => ?_⟩
    exact f2 ρ2 _ H2 Ext.refl hH2 (RDs.cons (r1.ext e2) r2)
theorem fin_sp {σ : L2.St} {ρ φ : List Addr} {H : Hp} {r : ERes D} {Q : VK} (f : Fin R Y W σ ρ φ H (rD R φ) r Q) : Fin R Y (fun cls dd _ H => WE W σ cls dd H) [] ρ φ H (rD R φ) r Q := by
  cases r <;> exact f
include G
theorem c_call {f : Nat} {args : CEs} {x : Str} {e : Expr} {es : List Expr} {p : Pos} (hcm : cm = true) (hf : S.fns[f]? = some x) (hg : isGlB sc x = true) (ha : PA X (e :: es) (tA R Y W (evEs C args)))
    (hs : starEach (e :: es) X.env = (false, eval e X.env) :: starEach es X.env) (hp : (backTo pos (starEach es X.env)).any (·.1) = false) : PE X (.Call (.Name x p) (e :: es) [] pos) (tE R Y W (evE C (.call f args))) := by
  obtain ⟨g1, g2⟩ := G.glb hg
  obtain ⟨fd, ps, m, kp, bd, F⟩ := G.calls f x hf
  refine pe_imp (pe_callS F (G.room hcm) g1 m kp bd (fun σ => passAt G.tk σ) ha (nm_dbg g2).1 hs hp) fun σ H Q ⟨ρ, φ, s, h, hS, hH, k⟩ => ?_
  simp only [evE] at k
  refine ⟨ρ, φ, s, h, hS, hH, k.bind fun ds h1 ρ1 vs H1 _ e1 hH1 r1 f1 => ?_⟩
  exact ⟨ρ1, φ, ds, h1, hH1, r1, fin_sp f1⟩
theorem c_call0 {f : Nat} {x : Str} {p : Pos} (hcm : cm = true) (hf : S.fns[f]? = some x) (hg : isGlB sc x = true) : PE X (.Call (.Name x p) [] [] pos) (tE R Y W (evE C (.call f .nil))) := by
  obtain ⟨g1, g2⟩ := G.glb hg
  obtain ⟨fd, ps, m, kp, bd, F⟩ := G.calls f x hf
  refine ⟨fun pins s σ H Q I ⟨ρ, φ, c, h, hS, hH, k⟩ => ?_⟩
  refine wpAny_Call_Name_kw (ld_glob I g1 m ?_ (nm_dbg g2).1)
  simp only [evE, evEs] at k
  have hk : wpAny (model X.prog X.w) X.A (call (.ref (R.fa f)) []) (EP X pins σ Q) X.xe s := run_fnS F (G.room hcm) bd (passAt G.tk σ) I .nil ⟨ρ, φ, [], h, hH, by simp only [RDs], fin_sp k⟩
  exact PySem.W.callWith_K0 I.kIn kp hk
/-! ### built-ins by name -/
theorem Gd.bl {x : Str} (h : x ∈ bltNames) : X.mg x = none := G.blt x h
theorem c_biV {v : Value} {g : Hc → List D → Option D} {args : CEs} {x : Str} {e : Expr} {es : List Expr} {p : Pos} {c : CE} (hv : (∃ id, v = .builtin id) ∨ ∃ T, v = .type T) (hc : CallR X v (rV R g)) (hb : bootBuiltins x = some v) (hx : x ∈ bltNames) (hg : isGlB sc x = true)
    (ha : PA X (e :: es) (tA R Y W (evEs C args))) (hs : starEach (e :: es) X.env = (false, eval e X.env) :: starEach es X.env) (hp : (backTo pos (starEach es X.env)).any (·.1) = false)
    (hev : ∀ s h, evE C c s h = (evEs C args s h).bind fun ds h => ofO (g h ds) h) : PE X (.Call (.Name x p) (e :: es) [] pos) (tE R Y W (evE C c)) := by
  obtain ⟨g1, g2⟩ := G.glb hg
  have rd : ∀ σ H Q, tE R Y W (evE C c) σ H Q → tCB (rV R g) (tA R Y W (evEs C args)) σ H Q := fun σ H Q ⟨ρ, φ, s, h, hS, hH, k⟩ => by
    rw [hev] at k
    refine ⟨ρ, φ, s, h, hS, hH, k.bind fun ds h1 ρ1 vs H1 _ e1 hH1 r1 f1 => ?_⟩
    obtain ⟨d, ed, q⟩ := Fin.ofO f1
    exact ⟨ρ1, φ, h1, ds, d, hH1, r1, ed, q⟩
  rcases hv with ⟨id, rfl⟩ | ⟨T, rfl⟩
  · exact pe_imp (pe_callB hc g1 (G.bl hx) hb ha (nm_dbg g2).2.2 (nm_dbg g2).1 hs hp) rd
  · exact pe_imp (pe_callTy hc g1 (G.bl hx) hb ha (nm_dbg g2).2.2 (nm_dbg g2).1 hs hp) rd
omit G in
theorem bi_boot (b : Bi) (h : b ≠ .sortedR) (h2 : b ≠ .lenset) : bootBuiltins (biName b) = some (biVal b) := by
  cases b <;> first | exact absurd rfl h | exact absurd rfl h2 | decide +kernel
omit G in
theorem bi_in (b : Bi) : biName b ∈ bltNames := by cases b <;> decide +kernel
omit G in
theorem bi_val (b : Bi) (h : b ≠ .sortedR) (h2 : b ≠ .lenset) : (∃ id, biVal b = .builtin id) ∨ ∃ T, biVal b = .type T := by
  cases b <;> first | exact absurd rfl h | exact absurd rfl h2 | exact .inl ⟨_, rfl⟩ | exact .inr ⟨_, rfl⟩
theorem c_bi {b : Bi} {args : CEs} {e : Expr} {es : List Expr} {p : Pos} (hcm : cm = true) (hb : b ≠ .sortedR) (hb2 : b ≠ .lenset) (hg : isGlB sc (biName b) = true) (ha : PA X (e :: es) (tA R Y W (evEs C args)))
    (hs : starEach (e :: es) X.env = (false, eval e X.env) :: starEach es X.env) (hp : (backTo pos (starEach es X.env)).any (·.1) = false) : PE X (.Call (.Name (biName b) p) (e :: es) [] pos) (tE R Y W (evE C (.bi b args))) :=
  c_biV G (bi_val b hb hb2) (biR G.hK (G.calm hcm) G.hu b hb hb2) (bi_boot b hb hb2) (bi_in b) hg ha hs hp fun s h => by simp only [evE]
/-! ### isinstance -/
theorem c_isin1 {a : CE} {t : Ty} {e : Expr} {p p2 : Pos} (hcm : cm = true) (hg : isGlB sc "isinstance" = true) (hg2 : isGlB sc (tyName t) = true) (ha : PE X e (tE R Y W (evE C a))) (hs : starEach [e, .Name (tyName t) p2] X.env = (false, eval e X.env) :: starEach [.Name (tyName t) p2] X.env) :
    PE X (.Call (.Name "isinstance" p) [e, .Name (tyName t) p2] [] pos) (tE R Y W (evE C (.isin a [t]))) := by
  obtain ⟨g1, g2⟩ := G.glb hg
  obtain ⟨g3, g4⟩ := G.glb hg2
  have hty : PE X (.Name (tyName t) p2) (tC (.ty (tyStr t))) := pe_bltn g3 (G.bl (blt_ty t)) (boot_ty t) rfl (nm_dbg g4).2.2 (nm_dbg g4).1
  refine pe_imp (pe_callB call_isi g1 (G.bl (by decide +kernel)) (by decide +kernel) (pa_cons ha (pa_cons hty pa_nil) hs) (nm_dbg g2).2.2 (nm_dbg g2).1 hs rfl) fun σ H Q ⟨ρ, φ, s, h, hS, hH, k⟩ => ?_
  simp only [evE] at k
  refine ⟨ρ, φ, s, h, hS, hH, k.bind fun d h1 ρ1 v H1 _ e1 hH1 r1 f1 => ?_⟩
  obtain ⟨b, eb, q⟩ := Fin.ofO f1
  obtain ⟨b', eb', rfl⟩ := Option.map_eq_some_iff.mp eb
  unfold isFs at eb'
  obtain ⟨kd, ek, rfl⟩ := Option.map_eq_some_iff.mp eb'
  refine ⟨v, .ty (tyStr t), _, _, kdTy kd t, rfl, .ty _, ty_of hH1 r1 ek, kit_ty (kit_all kd t), ?_⟩
  have e2 : ([t].any (kdTy kd)) = kdTy kd t := by simp
  rw [e2] at q
  exact q _ _ _ Ext.refl hH1 (by simp only [RD])
omit G in
theorem cls_all : ∀ ts : List Ty, Paired ClsV (ts.map fun t => V.ty (tyStr t)) (ts.map fun t => Value.type (tyStr t))
  | [] => .nil
  | t :: ts => .cons (.ty _) (cls_all ts)
omit G in
theorem kit_any {K : PySem.W.Frag} (k : Kd) : ∀ ts : List Ty, PySem.W.kitAny K (.type (kdStr k)) (ts.map fun t => .type (tyStr t)) = some (ts.any (kdTy k))
  | [] => kitAny_nil
  | t :: ts => by
    rw [List.map_cons, List.any_cons]
    refine kitAny_cons (kit_ty (kit_all k t)) (fun hb => ?_) fun hb => ?_
    · rw [hb, Bool.false_or]; exact kit_any k ts
    · rw [hb, Bool.true_or]
theorem tys_pa : ∀ {ts : List Ty} {es : List Expr}, chkTys sc ts es = true → ∃ t : TA, PA X es t ∧ ∀ σ H Q, Q (ts.map fun t => V.ty (tyStr t)) H → t σ H Q
  | [], [], _ => ⟨_, pa_nil, fun σ H Q q => q⟩
  | [], _ :: _, h => by simp [chkTys] at h
  | t :: ts, [], h => by simp [chkTys] at h
  | t :: ts, e :: es, h => by
    simp only [chkTys, Bool.and_eq_true] at h
    obtain ⟨h1, h2⟩ := h
    obtain ⟨u, hu, ku⟩ := tys_pa h2
    cases e with
    | Name x p2 =>
      simp only [chkTy, Bool.and_eq_true, decide_eq_true_eq] at h1
      obtain ⟨rfl, hg2⟩ := h1
      obtain ⟨g3, g4⟩ := G.glb hg2
      have hty : PE X (.Name (tyName t) p2) (tC (.ty (tyStr t))) := pe_bltn g3 (G.bl (blt_ty t)) (boot_ty t) rfl (nm_dbg g4).2.2 (nm_dbg g4).1
      exact ⟨_, pa_cons hty hu, fun σ H Q q => ku σ H _ q⟩
    | _ => simp [chkTy] at h1
theorem c_isinT {a : CE} {ts : List Ty} {e : Expr} {es : List Expr} {p p2 : Pos} {k : Nat} (hcm : cm = true) (hg : isGlB sc "isinstance" = true) (hl : es.length ≤ 6) (ht : chkTys sc ts es = true) (ha : PE X e (tE R Y W (evE C a)))
    (hs : starEach [e, .Tuple es k p2] X.env = (false, eval e X.env) :: starEach [.Tuple es k p2] X.env) : PE X (.Call (.Name "isinstance" p) [e, .Tuple es k p2] [] pos) (tE R Y W (evE C (.isin a ts))) := by
  obtain ⟨g1, g2⟩ := G.glb hg
  obtain ⟨u, hu, ku⟩ := tys_pa G ht
  have hlen : ∀ {ts : List Ty} {es : List Expr}, chkTys sc ts es = true → ts.length = es.length := by
    intro ts
    induction ts with
    | nil => intro es h; cases es with | nil => rfl | cons _ _ => simp [chkTys] at h
    | cons t ts ih => intro es h; cases es with
      | nil => simp [chkTys] at h
      | cons e es =>
        simp only [chkTys, Bool.and_eq_true] at h
        simp [ih h.2]
  have hlen := hlen ht
  refine pe_imp (pe_callB call_isiT g1 (G.bl (by decide +kernel)) (by decide +kernel) (pa_cons ha (pa_cons (pe_tup hu) pa_nil) hs) (nm_dbg g2).2.2 (nm_dbg g2).1 hs rfl) fun σ H Q ⟨ρ, φ, s, h, hS, hH, k⟩ => ?_
  simp only [evE] at k
  refine ⟨ρ, φ, s, h, hS, hH, k.bind fun d h1 ρ1 v H1 _ e1 hH1 r1 f1 => ku _ _ _ ⟨?_, fun p hp => ?_⟩⟩
  · rw [List.length_map, hlen, ← line_eq]
    unfold line
    omega
  obtain ⟨b, eb, q⟩ := Fin.ofO f1
  obtain ⟨b', eb', rfl⟩ := Option.map_eq_some_iff.mp eb
  unfold isFs at eb'
  obtain ⟨kd, ek, rfl⟩ := Option.map_eq_some_iff.mp eb'
  have rH2 := (hH1.fresh (o := .tup (ts.map fun t => V.ty (tyStr t))) hp).weak (φ' := φ) (fun a ha => by simp [ha])
  have r2 : RD R ρ1 φ (upd H1 p (.tup (ts.map fun t => V.ty (tyStr t)))) d v := r1.ext (Ext.fresh hp)
  refine ⟨v, p, _, _, ts.map fun t => .type (tyStr t), ts.any (kdTy kd), rfl, upd_same, cls_all ts, ty_of rH2 r2 ek, kit_any kd ts, q _ _ _ (Ext.fresh hp) rH2 (by simp only [RD])⟩
/-! ### subscripts, displays -/
theorem c_idx {a b : CE} {ea eb : Expr} (hp : plainIxB eb = true) (ha : PE X ea (tE R Y W (evE C a))) (hb : PE X eb (tE R Y W (evE C b))) : PE X (.Subscript ea eb pos) (tE R Y W (evE C (.idx a b))) :=
  pe_imp (pe_ix (idxR G.hK G.hu) ha hb (plainIx_of hp)) fun σ H Q ⟨ρ, φ, s, h, hS, hH, f⟩ => by
    simp only [evE] at f
    refine ⟨ρ, φ, s, h, hS, hH, f.bind fun x h1 ρ1 v H1 _ e1 hH1 r1 f1 => ?_⟩
    refine ⟨ρ1, φ, s, h1, hS.ext e1, hH1, f1.bind fun y h2 ρ2 u H2 _ e2 hH2 r2 f2 => ?_⟩
    obtain ⟨d, ed, k⟩ := Fin.ofO f2
    exact ⟨ρ2, φ, h2, x, y, d, hH2, r1.ext e2, r2, ed, k⟩
omit G in
theorem c_tup {es : CEs} {xs : List Expr} {k : Nat} (hl : ∀ s h ds h', evEs C es s h = .ok ds h' → ds.length ≤ 4096) (ha : PA X xs (tA R Y W (evEs C es))) : PE X (.Tuple xs k pos) (tE R Y W (evE C (.tup es))) :=
  pe_imp (pe_tup ha) fun σ H Q ⟨ρ, φ, s, h, hS, hH, f⟩ => by
    simp only [evE] at f
    refine ⟨ρ, φ, s, h, hS, hH, f.bind fun ds h1 ρ1 vs H1 eq e1 hH1 r1 f1 => ⟨?_, fun p hp => ?_⟩⟩
    · have := hl _ _ _ _ eq
      rw [← r1.len, ← line_eq]
      unfold line
      omega
    · obtain ⟨q1, q2, q3⟩ := new_tup hH1 hp r1
      exact f1 _ _ _ q1 q2 q3
omit G in
theorem l_lst {es : CEs} {xs : List Expr} (hl : ∀ s h ds h', evEs C es s h = .ok ds h' → ds.length ≤ 4096) (ha : PA X xs (tA R Y W (evEs C es))) : PE X (.List xs pos) (tL R Y W (evE C (.lst es))) :=
  pe_imp (pe_lst ha) fun σ H Q ⟨ρ, φ, s, h, hS, hH, f, _⟩ => by
    simp only [evE] at f
    refine ⟨ρ, φ, s, h, hS, hH, ?_⟩
    cases q : evEs C es s h with
    | stuck => rw [q] at f; exact f.elim
    | exc x h' => rw [q] at f; exact f
    | ok ds h1 =>
      rw [q] at f
      intro ρ1 vs H1 e1 hH1 r1
      refine ⟨?_, fun p hp => ?_⟩
      · have := hl _ _ _ _ q
        rw [← r1.len, ← line_eq]
        unfold line
        omega
      · obtain ⟨q1, q2, q3⟩ := new_lstF hH1 hp r1
        exact f ρ1 p vs _ (e1.trans q1) q2 (e1.none hp) (hH1.free hp) upd_same q3
omit G in
/-- a new list as it is; as a cell -/
theorem e_of_l {f : EvF} {e : Expr} (h : PE X e (tL R Y W f)) (hl : ∀ s h d h', f s h = .ok d h' → ∃ xs, d = .lst xs) : PE X e (tE R Y W f) :=
  pe_imp h fun σ H Q ⟨ρ, φ, s, h, hS, hH, k⟩ => by
    refine ⟨ρ, φ, s, h, hS, hH, ?_, fun d h' e => hl s h d h' e⟩
    cases q : f s h with
    | stuck => rw [q] at k; exact k.elim
    | exc x h' => rw [q] at k; exact k
    | ok d h' =>
      obtain ⟨xs, rfl⟩ := hl s h d h' q
      rw [q] at k
      intro ρ' p ws H' e1 rH hp np ep rd
      refine k ρ' _ H' e1 (rH.weak fun a ha => by simp [ha]) ?_
      simp only [RD]
      exact ⟨p, ws, rfl, ⟨ep, (rH.phi p (by simp)).2, np⟩, rd.weak fun a ha => by simp [ha]⟩
omit G in
theorem c_cell {a : CE} {e : Expr} (h : PE X e (tL R Y W (evE C a))) : PE X e (tE R Y W (evE C (.cell a))) :=
  pe_imp h fun σ H Q ⟨ρ, φ, s, h, hS, hH, k⟩ => by
    simp only [evE] at k
    refine ⟨ρ, φ, s, h, hS, hH, ?_, fun d h' e => ?_⟩
    · cases q : evE C a s h with
      | stuck => rw [q] at k; exact k.elim
      | exc x h' => rw [q] at k; exact k
      | ok d h' =>
        rw [q] at k
        cases d with
        | lst xs =>
          intro ρ' p ws H' e1 rH hp np ep rd
          refine k (ρ' ++ [p]) _ H' (e1.cell hp) (rH.cell np ⟨ws, ep, rd⟩) ?_
          simp only [RD]
          exact ⟨p, by rw [← rH.len]; simp, rfl⟩
        | _ => exact k.elim
    · rw [e] at k
      cases d with
      | lst xs => exact ⟨xs, rfl⟩
      | _ => exact k.elim
omit G in
theorem c_dict0 {t : Bool} : PE X (.Dict [] [] pos) (tE R Y W (evE C (.dict0 t))) := by
  cases t with
  | false =>
    refine pe_imp pe_dnewK fun σ H Q ⟨ρ, φ, s, h, hS, hH, k⟩ p hp => ?_
    simp only [evE] at k
    have rH := hH.fresh (o := .dK []) hp
    refine k (ρ ++ [p]) _ _ ((Ext.fresh hp).cell hp) (rH.cell (hH.free hp) ⟨[], upd_same, rfl, by simp [RDs]⟩) ?_
    simp only [RD]
    exact ⟨p, by rw [← hH.len]; simp, rfl⟩
  | true =>
    refine pe_imp pe_dnewT fun σ H Q ⟨ρ, φ, s, h, hS, hH, k⟩ p hp => ?_
    simp only [evE] at k
    have rH := hH.fresh (o := .dT []) hp
    refine k (ρ ++ [p]) _ _ ((Ext.fresh hp).cell hp) (rH.cell (hH.free hp) ⟨[], upd_same, rfl, by simp [RDs]⟩) ?_
    simp only [RD]
    exact ⟨p, by rw [← hH.len]; simp, rfl⟩
end
end Cl

namespace Cl
open PySem PySem.Spec PyProof.Rows L2
/-! ### slices -/
theorem slx_eq {n d : Nat} {o : Option Int} : slx n d o = HT.sIx n d o := by cases o <;> rfl
section
variable {R : RC} {ρ φ : List Addr} {H : Hp} {h : Hc}
theorem RDs.cut {xs : List D} {vs : List V} (r : RDs R ρ φ H xs vs) (lo hi : Option Int) : RDs R ρ φ H (cutD xs lo hi) (cutV vs lo hi) := by
  unfold cutD cutV
  rw [slx_eq, slx_eq, r.len]
  exact (r.drop _).take _
theorem cutS_cutD (z : Str) (lo hi : Option Int) : cutS z lo hi = ⟨(cutD z.cps.toList lo hi).toArray⟩ := by
  unfold cutS cutD
  rw [slx_eq, slx_eq]
  simp only [Array.length_toList]
  rfl
/-- what der sees -/
theorem RD.der_lt (r : RelH R ρ φ H h) {d : D} {v : V} (q : RD R ρ φ H d v) {xs : List D} (e : der h d = .lst xs) : ∃ a vs, v = .ref a ∧ SqL R.K H a vs ∧ RDs R ρ φ H xs vs := by
  cases d with
  | lst ds =>
    simp only [der, D.lst.injEq] at e; subst e
    simp only [RD] at q
    obtain ⟨a, vs, rfl, h1, h2⟩ := q
    exact ⟨a, vs, rfl, h1.sq, h2⟩
  | ref n =>
    simp only [RD] at q
    obtain ⟨a, ea, rfl⟩ := q
    unfold der at e
    cases hc : h[n]? with
    | none => simp [hc] at e
    | some c =>
      have rc := r.cells n a c ea hc
      cases c with
      | lst ys =>
        simp only [hc, D.lst.injEq] at e; subst e
        obtain ⟨vs, e1, e2⟩ := rc
        exact ⟨a, vs, rfl, SqL.of e1, e2⟩
      | ro ys =>
        simp only [hc, D.lst.injEq] at e; subst e
        obtain ⟨o, vs, e1, e2⟩ := rc
        exact ⟨a, vs, rfl, .inl (.inr ⟨o, e1⟩), e2⟩
      | dK _ => simp [hc] at e
      | dT _ => simp [hc] at e
  | _ => simp [der] at e
theorem RD.der_tp {d : D} {v : V} (q : RD R ρ φ H d v) {xs : List D} (e : der h d = .tup xs) : ∃ a vs, v = .ref a ∧ SqT R.K H a vs ∧ RDs R ρ φ H xs vs ∧ d = .tup xs := by
  cases d with
  | tup ds =>
    simp only [der, D.tup.injEq] at e; subst e
    simp only [RD] at q
    obtain ⟨a, vs, rfl, h1, h2⟩ := q
    exact ⟨a, vs, rfl, h1.sq, h2, rfl⟩
  | ref n =>
    unfold der at e
    cases hc : h[n]? with
    | none => simp [hc] at e
    | some c => cases c <;> simp [hc] at e
  | _ => simp [der] at e
end
/-- lists are told by rFr: new, held back -/
def rSl (R : RC) : V → Option Int → Option Int → Hp → VK → Prop := fun x lo hi H Q => ∃ ρ φ h a d, RelH R ρ φ H h ∧ RD R ρ φ H a x ∧ sliceF h a lo hi = some d ∧
  (∀ p xs ws, d = .lst xs → H p = none → RDs R ρ φ H xs ws → Q (.ref p) (upd H p (.lst ws))) ∧ ((∀ xs, d ≠ .lst xs) → ∀ ρ' v H', Ext ρ ρ' H H' → RelH R ρ' φ H' h → RD R ρ' φ H' d v → Q v H')
theorem slR {X : Cx} {R : RC} (hK : R.K = X.K) : SlR X (rSl R) := by
  intro pins s σ H x v vl vu lo hi sl Q I rx hs pl pu ⟨ρ, φ, h, a, d, rH, ra, e, k1, k2⟩
  unfold sliceF at e
  split at e
  · rename_i xs he
    obtain ⟨l, vs, rfl, h1, h2, rfl⟩ := RD.der_tp ra he
    cases e
    have k := k2 (fun xs z => nomatch z)
    refine sl_tupA pins s σ H _ v vl vu lo hi sl Q I rx hs pl pu ⟨l, vs, rfl, hK ▸ h1, fun hw => ?_, fun _ p hp => ?_⟩
    · have : cutD xs lo hi = xs := by
        unfold cutD
        rw [slx_eq, slx_eq, h2.len, hw.1, hw.2, List.drop_zero, Nat.sub_zero, ← h2.len, List.take_length]
      rw [this] at k
      exact k _ _ _ Ext.refl rH ra
    · obtain ⟨q1, q2, q3⟩ := new_tup rH hp (h2.cut lo hi)
      exact k _ _ _ q1 q2 q3
  · rename_i xs he
    obtain ⟨l, vs, rfl, h1, h2⟩ := RD.der_lt rH ra he
    cases e
    exact sl_list pins s σ H _ v vl vu lo hi sl Q I rx hs pl pu ⟨l, vs, rfl, hK ▸ h1, fun p hp => k1 p _ _ rfl hp (h2.cut lo hi)⟩
  · rename_i z he
    rw [der_str he] at ra
    simp only [RD] at ra
    subst ra
    split at e
    · rename_i hz
      cases e
      exact sl_str pins s σ H _ v vl vu lo hi sl Q I rx hs pl pu ⟨z, rfl, by rw [← line_eq]; exact hz, by rw [cutS_cutD]; exact k2 (fun xs z => nomatch z) _ _ _ Ext.refl rH (by simp only [RD])⟩
    · cases e
  · cases e
/-! ### the other way round -/
section
variable {prog : Program} {w : World} {A : Around} {E : Value → Shared → Prop} {s : Shared}
theorem rev_pick (xs : Array Value) : ((List.range xs.size).filterMap fun (m : Nat) => xs[(((xs.size : Nat) : Int) - 1 + (m : Int) * (-1)).toNat]?).toArray = xs.toList.reverse.toArray := by
  congr 1
  have e : ∀ m ∈ List.range xs.size, (xs[(((xs.size : Nat) : Int) - 1 + (m : Int) * (-1)).toNat]? : Option Value) = some (xs.toList.reverse.getD m .none) := by
    intro m hm
    have hm := List.mem_range.mp hm
    have : (((xs.size : Nat) : Int) - 1 + (m : Int) * (-1)).toNat = xs.size - 1 - m := by omega
    rw [this]
    have hl : m < xs.toList.reverse.length := by simpa using hm
    rw [List.getD_eq_getElem?_getD, List.getElem?_eq_getElem hl, Option.getD_some, List.getElem_reverse]
    rw [Array.getElem?_eq_getElem (by omega)]
    simp
  have z : ∀ (l : List Nat), (∀ m ∈ l, (xs[(((xs.size : Nat) : Int) - 1 + (m : Int) * (-1)).toNat]? : Option Value) = some (xs.toList.reverse.getD m .none)) → (l.filterMap fun (m : Nat) => xs[(((xs.size : Nat) : Int) - 1 + (m : Int) * (-1)).toNat]?) = l.map fun m => xs.toList.reverse.getD m .none := by
    intro l
    induction l with
    | nil => intro _; rfl
    | cons m l ih =>
      intro q
      rw [List.filterMap_cons, q m (by simp), List.map_cons, ih fun n hn => q n (by simp [hn])]
  rw [z _ e]
  refine List.ext_getElem ?_ fun i h1 h2 => ?_
  · simp
  · have hl : i < xs.toList.reverse.length := by simpa using h2
    rw [List.getElem_map, List.getElem_range, List.getD_eq_getElem?_getD, List.getElem?_eq_getElem hl, Option.getD_some]
theorem tup_back {t sl : Addr} {xs : Array Value} {vl vu vs : Value} {Q : Value → Shared → Prop} (ht : IsTup s.heap t xs) (hs : s.heap.IsSliceOf sl vl vu vs) (pl : IsPart vl none) (pu : IsPart vu none) (ps : IsPart vs (some (-1)))
    (h : Q (.ref s.heap.objs.size) { s with heap := s.heap.push { cls := .type "tuple", data := .seq xs.toList.reverse.toArray } }) (hz : xs.size ≤ sizeLine) : wpAny (model prog w) A (getItem (.ref t) (.ref sl)) Q E s := by
  obtain ⟨os, g1, g2, g3⟩ := id hs
  have ty : s.TypeIs (.ref sl) "slice" := ⟨os, g1, g2⟩
  have htake : sizeOk (.seq xs.toList.reverse.toArray) := by
    show xs.toList.reverse.toArray.size ≤ sizeLine
    simpa using hz
  cases pl
  cases pu
  cases ps with
  | int i tk =>
  unfold getItem
  refine wpAny_holding ?_
  refine wpAny_bind (wpAny_sequenceKey ht.typeIs (by decide) ?_)
  refine wpAny_bind (wpAny_callSpecial?_slot (name := Str.ofString "__getitem__") ht.typeIs PyProof.Rows.slot_tuple_getitem
    (wpAny_call_entry PyProof.Rows.slot_tuple_getitem ht.typeIs entry_tuple_getitem ?_ (args_tuple_getitem _ _)))
  show wpAny _ _ (Builtin.Tuple.tupleItemsOf (.ref t) >>= _) _ _ s
  refine wpAny_bind (tupleItemsOf_ ht ?_)
  refine wpAny_bind (wpAny_typeOf ty ?_)
  rw [if_pos (by decide)]
  have ap : ∀ {A' : Around} {Q' : Int × Int × Nat → Shared → Prop}, Q' ((xs.size : Int) - 1, -1, xs.size) s → wpAny (model prog w) A' (Builtin.Slice.sliceApplied (.ref sl) (pure (xs.size : Int))) Q' E s := fun {A' Q'} q => by
    unfold Builtin.Slice.sliceApplied Builtin.Slice.sliceFields
    refine wpAny_bind (wpAny_bind (wpAny_field g1 g3 (x := .none) rfl (wpAny_bind (wpAny_field g1 g3 (x := .none) rfl (wpAny_bind (wpAny_field g1 g3 (x := .int (-1) tk) rfl (wpAny_pure ?_)))))))
    refine wpAny_bind (slicePart_int ?_)
    show wpAny _ _ (if ((-1 : Int) == 0) = true then _ else _) _ _ s
    rw [if_neg (by decide)]
    refine wpAny_bind (slicePart_none (wpAny_bind (slicePart_none (wpAny_bind (wpAny_pure ?_)))))
    have e1 : Builtin.Slice.sliceAdjust none none (-1) (xs.size : Int) = ((xs.size : Int) - 1, -1) := rfl
    have e2 : Builtin.Slice.slicePlaces ((xs.size : Int) - 1) (-1) (-1) = xs.size := by
      unfold Builtin.Slice.slicePlaces
      rw [if_neg (by decide), show (-(-1) : Int) = 1 from rfl, Int.ediv_one]
      split <;> omega
    show wpAny _ _ (pure (((xs.size : Int) - 1), (-1 : Int), Builtin.Slice.slicePlaces ((xs.size : Int) - 1) (-1) (-1))) _ _ s
    rw [e2]
    exact wpAny_pure q
  refine wpAny_bind (ap ?_)
  have no : ¬ (((xs.size : Int) - 1 == 0 && (-1 : Int) == 1 && xs.size == xs.size) = true) := by
    rw [show ((-1 : Int) == 1) = false from by decide, Bool.and_false, Bool.false_and]
    exact Bool.false_ne_true
  show wpAny _ _ (if ((xs.size : Int) - 1 == 0 && (-1 : Int) == 1 && xs.size == xs.size) = true then _ else _) _ _ s
  rw [if_neg no, rev_pick]
  first
    | exact wpAny_bind (m := Builtin.Tuple.tupleExact _) (wpAny_newObj_type (wpAny_pure ⟨_, rfl, wpAny_pure h⟩) htake)
    | exact wpAny_bind (m := Builtin.Tuple.tupleExact _) (wpAny_newObj_type (wpAny_bind (wpAny_pure (wpAny_pure ⟨_, rfl, wpAny_pure h⟩))) htake)
    | exact wpAny_bind (wpAny_bind (m := Builtin.Tuple.tupleExact _) (wpAny_newObj_type (wpAny_pure (wpAny_pure ⟨_, rfl, wpAny_pure h⟩)) htake))
    | exact wpAny_bind (wpAny_bind (m := Builtin.Tuple.tupleExact _) (wpAny_newObj_type (wpAny_pure ⟨_, rfl, wpAny_pure h⟩) htake))
end
def tRev2 (K : PySem.W.Frag) (te : TE) : TE := fun σ H Q => te σ H fun x H1 => ∃ a xs, x = .ref a ∧ ((SqL K H1 a xs ∧ ∀ p, H1 p = none → Q (.ref p) (upd H1 p (.lst xs.reverse))) ∨ (SqT K H1 a xs ∧ ∀ p, H1 p = none → Q (.ref p) (upd H1 p (.tup xs.reverse))))
theorem pe_rev2 {X : Cx} {e : Expr} {te : TE} {k : Nat} {p1 p2 p3 pos : Pos} (he : PE X e te) : PE X (.Subscript e (.Slice none none (some (.UnaryOp .USub (.Constant (.int 1) k p1) p2)) p3) pos) (tRev2 X.K te) := by
  refine ⟨fun pins s σ H Q I hh => ?_⟩
  refine Subscript_ (thn (he.run pins s σ H _ I hh) fun v s1 ⟨x, H1, I1, r1, a, xs, ex, q⟩ => ?_)
  subst ex
  cases r1
  have hst : PO X (some (.UnaryOp .USub (.Constant (.int 1) k p1) p2)) (tPart (tUn (rU fun i => .int (-i)) (tC (.int 1)))) := po_some (pe_un un_neg pe_int)
  refine wpAny_Slice (thn (po_none.run pins s1 σ H1 (fun o Hn => o = none ∧ Hn = H1) I1 ⟨rfl, rfl⟩) fun vl s2 ⟨l, Ha, I2, pl, el, ea⟩ => ?_)
  subst el ea
  refine thn (po_none.run pins s2 σ Ha (fun o Hn => o = none ∧ Hn = Ha) I2 ⟨rfl, rfl⟩) fun vu s3 ⟨u, Hb, I3, pu, eu, eb⟩ => ?_
  subst eu eb
  refine thn (hst.run pins s3 σ Hb (fun o Hn => o = some (-1) ∧ Hn = Hb) I3 ⟨1, rfl, -1, rfl, rfl, rfl⟩) fun vs s4 ⟨o, Hd, I4, ps, eo, ed⟩ => ?_
  subst eo ed
  have J : Inv X pins σ Hd { s4 with heap := s4.heap.push { cls := .type "slice", data := .fields #[vl, vu, vs] } } := I4.kept (t' := s4.toks) fun b ob z => Heap.get?_push_of_some _ z
  show wpAny (model X.prog X.w) X.A (subscriptTail e (.Slice none none (some (.UnaryOp .USub (.Constant (.int 1) k p1) p2)) p3) (.ref a) (.ref s4.heap.objs.size)) (EP X pins σ Q) X.xe { s4 with heap := s4.heap.push { cls := .type "slice", data := .fields #[vl, vu, vs] } }
  rcases q with ⟨hx, q⟩ | ⟨hx, q⟩
  · obtain ⟨its, r, ht, hz⟩ := J.list hx
    have hlen := r.length
    refine tail_any (ops := [.ref a, .ref s4.heap.objs.size]) ht.isList.typeIs (PySem.slot_list_getitem.lookup) ?_ (by with_unfolding_all rfl)
    refine wpAny_getItem_list_slice ht.isList (Heap.IsSliceOf.new _ vl vu vs) pl pu ps (by decide) ?_ (by rw [List.size_toArray]; omega)
    rw [PySem.W.krv_pick]
    refine ⟨.ref _, _, J.laid (t' := s4.toks) (o := .lst xs.reverse) (fun b ob z => Heap.get?_push_of_some _ z) (Nat.le_refl _) ⟨?_, _, 0, r.reverse, Heap.get?_push_size _ rfl⟩, rfl, q _ (J.hok.fresh (Nat.le_refl _))⟩
    rw [List.length_reverse]; exact hz
  · obtain ⟨its, r, ht, hz⟩ := J.tuple hx
    have hlen := r.length
    refine tail_any (ops := [.ref a, .ref s4.heap.objs.size]) ht.typeIs (PyProof.Rows.slot_tuple_getitem.lookup) ?_ (by with_unfolding_all rfl)
    refine tup_back ht (Heap.IsSliceOf.new _ vl vu vs) pl pu ps ?_ (by rw [List.size_toArray]; omega)
    refine ⟨.ref _, _, J.laid (t' := s4.toks) (o := .tup xs.reverse) (fun b ob z => Heap.get?_push_of_some _ z) (Nat.le_refl _) ⟨?_, _, r.reverse, IsTup.new _ _⟩, rfl, q _ (J.hok.fresh (Nat.le_refl _))⟩
    rw [List.length_reverse]; exact hz
section
variable {S : Sg} {R : RC} {C : Caller} {Y : XC} {n : Nat} {N : List Str} {cm : Bool} {sc : Scope} {X : Cx} {W : WX} (G : Gd S R C Y n N cm sc X W) {pos : Pos}
def tO (R : RC) (Y : XC) (W : WX) (b : Bool) (f : EvF) : TO := fun σ H Q => ∃ ρ φ c h, RelS R ρ φ H c σ ∧ RelH R ρ φ H h ∧ Fin R Y W σ ρ φ H rEq (optR b (f c) h) Q
theorem po_imp {e : Option Expr} {t u : TO} (h : PO X e t) (k : ∀ σ H Q, u σ H Q → t σ H Q) : PO X e u := ⟨fun pins s σ H Q I q => h.run pins s σ H Q I (k σ H Q q)⟩
theorem po_abs {f : EvF} : PO X none (tO R Y W true f) := po_imp po_none fun σ H Q ⟨ρ, φ, c, h, hS, hH, k⟩ => by
  unfold optR at k
  rw [if_pos rfl] at k
  exact k ρ _ H Ext.refl hH rfl
theorem po_val {f : EvF} {e : Expr} (he : PE X e (tE R Y W f)) : PO X (some e) (tO R Y W false f) := po_imp (po_some he) fun σ H Q ⟨ρ, φ, c, h, hS, hH, k⟩ => by
  unfold optR at k
  rw [if_neg Bool.false_ne_true] at k
  refine ⟨ρ, φ, c, h, hS, hH, k.bind fun x h1 ρ1 v H1 _ e1 hH1 r1 f1 => ?_⟩
  cases x with
  | int i =>
    simp only [RD] at r1
    exact ⟨i, r1, f1 ρ1 _ H1 Ext.refl hH1 rfl⟩
  | _ => exact f1.elim
include G
theorem c_slK {a lo hi : CE} {ea : Expr} {elo ehi : Option Expr} {p2 : Pos} (ha : PE X ea (tE R Y W (evE C a))) (hl : PO X elo (tO R Y W lo.isAbs (evE C lo))) (hh : PO X ehi (tO R Y W hi.isAbs (evE C hi))) :
    PE X (.Subscript ea (.Slice elo ehi none p2) pos) (fun σ H Q => ∃ ρ φ s h, RelS R ρ φ H s σ ∧ RelH R ρ φ H h ∧ Fin R Y W σ ρ φ H (rD R φ) (evE C a s h) fun x H1 => tO R Y W lo.isAbs (evE C lo) σ H1 fun l H2 => tO R Y W hi.isAbs (evE C hi) σ H2 fun u H3 => rSl R x l u H3 Q) :=
  pe_imp (pe_slice (slR G.hK) ha hl hh) fun σ H Q q => q
theorem c_sl {a lo hi : CE} {ea : Expr} {elo ehi : Option Expr} {p2 : Pos} (ha : PE X ea (tE R Y W (evE C a))) (hl : PO X elo (tO R Y W lo.isAbs (evE C lo))) (hh : PO X ehi (tO R Y W hi.isAbs (evE C hi))) :
    PE X (.Subscript ea (.Slice elo ehi none p2) pos) (tE R Y W (evE C (.sl a lo hi))) :=
  pe_imp (c_slK G ha hl hh) fun σ H Q ⟨ρ, φ, s, h, hS, hH, f⟩ => by
    simp only [evE] at f
    refine ⟨ρ, φ, s, h, hS, hH, f.bind fun x h1 ρ1 v H1 _ e1 hH1 r1 f1 => ?_⟩
    refine ⟨ρ1, φ, s, h1, hS.ext e1, hH1, f1.bind fun y h2 ρ2 u H2 _ e2 hH2 r2 f2 => ?_⟩
    refine ⟨ρ2, φ, s, h2, (hS.ext e1).ext e2, hH2, f2.bind fun z h3 ρ3 w H3 _ e3 hH3 r3 f3 => ?_⟩
    obtain ⟨d, ed, k⟩ := Fin.ofO f3
    subst r2 r3
    refine ⟨ρ3, φ, h3, x, d, hH3, (r1.ext e2).ext e3, ed, fun p xs ws ex hp rs => ?_, fun _ => k⟩
    subst ex
    obtain ⟨q1, q2, q3⟩ := new_lst hH3 hp rs
    exact k _ _ _ q1 q2 q3

omit G in
theorem finL_new {σ : L2.St} {ρ φ : List Addr} {H : Hp} {d : D} {h : Hc} {Q : VK} {ρ1 : List Addr} {H1 : Hp} (e1 : Ext ρ ρ1 H H1) (k : FinL R Y W σ ρ φ H (.ok d h) Q) {p : Addr} {xs : List D} {ws : List V} (ed : d = .lst xs) (hH : RelH R ρ1 φ H1 h) (hp : H1 p = none) (rs : RDs R ρ1 φ H1 xs ws) : Q (.ref p) (upd H1 p (.lst ws)) := by
  subst ed
  obtain ⟨q1, q2, q3⟩ := new_lstF hH hp rs
  exact k ρ1 p ws _ (e1.trans q1) q2 (e1.none hp) (hH.free hp) upd_same q3

omit G in
theorem FinL.bind {α β : Type} {σ : L2.St} {ρ φ : List Addr} {H : Hp} {rel : List Addr → Hp → α → β → Prop} {r : ERes α} {f : α → Hc → ERes D} {Q' : VK} {Q : β → Hp → Prop}
    (hf : FinL R Y W σ ρ φ H (r.bind f) Q') (k : ∀ a h1 ρ1 b H1, r = .ok a h1 → Ext ρ ρ1 H H1 → RelH R ρ1 φ H1 h1 → rel ρ1 H1 a b → FinL R Y W σ ρ1 φ H1 (f a h1) Q' → Q b H1) : Fin R Y W σ ρ φ H rel r Q := by
  have up : ∀ {r : ERes D} {ρ1 : List Addr} {H1 : Hp}, Ext ρ ρ1 H H1 → FinL R Y W σ ρ φ H r Q' → FinL R Y W σ ρ1 φ H1 r Q' := fun {r ρ1 H1} e f => by
    cases r with
    | ok d h =>
      cases d with
      | lst xs => exact fun ρ2 p ws H2 e2 rH hp => f ρ2 p ws H2 (e.trans e2) rH (e.none hp)
      | _ => exact f
    | exc x h => exact fun ρ2 cls dd H2 e2 => f ρ2 cls dd H2 (e.trans e2)
    | stuck => exact f
  cases r with
  | ok a h' => exact fun ρ1 b H1 e1 hH r1 => k a h' ρ1 b H1 rfl e1 hH r1 (up (r := f a h') e1 hf)
  | exc x h' => exact hf
  | stuck => exact hf
theorem l_sl {a lo hi : CE} {ea : Expr} {elo ehi : Option Expr} {p2 : Pos} (ha : PE X ea (tE R Y W (evE C a))) (hl : PO X elo (tO R Y W lo.isAbs (evE C lo))) (hh : PO X ehi (tO R Y W hi.isAbs (evE C hi))) :
    PE X (.Subscript ea (.Slice elo ehi none p2) pos) (tL R Y W (evE C (.sl a lo hi))) :=
  pe_imp (c_slK G ha hl hh) fun σ H Q ⟨ρ, φ, s, h, hS, hH, f, only⟩ => by
    simp only [evE] at f only
    refine ⟨ρ, φ, s, h, hS, hH, f.bind fun x h1 ρ1 v H1 eq1 e1 hH1 r1 f1 => ?_⟩
    refine ⟨ρ1, φ, s, h1, hS.ext e1, hH1, f1.bind fun y h2 ρ2 u H2 eq2 e2 hH2 r2 f2 => ?_⟩
    refine ⟨ρ2, φ, s, h2, (hS.ext e1).ext e2, hH2, f2.bind fun z h3 ρ3 w H3 eq3 e3 hH3 r3 f3 => ?_⟩
    subst r2 r3
    cases ed : sliceF h3 x y z with
    | none => rw [ed] at f3; exact f3.elim
    | some d =>
      rw [ed] at f3
      obtain ⟨xs, rfl⟩ := only d h3 (by rw [eq1]; show (ERes.bind (optR _ _ h1) _) = _; rw [eq2]; show (ERes.bind (optR _ _ h2) _) = _; rw [eq3]; show ofO (sliceF h3 x y z) h3 = _; rw [ed]; rfl)
      exact ⟨ρ3, φ, h3, x, .lst xs, hH3, (r1.ext e2).ext e3, ed, fun p ys ws ex hp rs => finL_new (d := .lst xs) Ext.refl f3 ex hH3 hp rs, fun no => absurd rfl (no xs)⟩
theorem c_rev {a : CE} {ea : Expr} {k : Nat} {p1 p2 p3 : Pos} (ha : PE X ea (tE R Y W (evE C a))) : PE X (.Subscript ea (.Slice none none (some (.UnaryOp .USub (.Constant (.int 1) k p1) p2)) p3) pos) (tE R Y W (evE C (.rev a))) :=
  pe_imp (pe_rev2 ha) fun σ H Q ⟨ρ, φ, s, h, hS, hH, f⟩ => by
    simp only [evE] at f
    refine ⟨ρ, φ, s, h, hS, hH, f.bind fun x h1 ρ1 v H1 _ e1 hH1 r1 f1 => ?_⟩
    obtain ⟨d, ed, k⟩ := Fin.ofO f1
    unfold revF at ed
    split at ed
    · rename_i xs he
      obtain ⟨l, vs, rfl, g1, g2, _⟩ := RD.der_tp r1 he
      cases ed
      refine ⟨l, vs, rfl, .inr ⟨G.hK ▸ g1, fun p hp => ?_⟩⟩
      obtain ⟨q1, q2, q3⟩ := new_tup hH1 hp g2.reverse
      exact k _ _ _ q1 q2 q3
    · rename_i xs he
      obtain ⟨l, vs, rfl, g1, g2⟩ := RD.der_lt hH1 r1 he
      cases ed
      refine ⟨l, vs, rfl, .inl ⟨G.hK ▸ g1, fun p hp => ?_⟩⟩
      obtain ⟨q1, q2, q3⟩ := new_lst hH1 hp g2.reverse
      exact k _ _ _ q1 q2 q3
    · cases ed
theorem c_pop {o : CE} {eo : Expr} {apos cpos : Pos} (hb : baseOk eo = true) (hl : apos.endLine = cpos.line) (ho : PE X eo (tE R Y W (evE C o))) : PE X (.Call (.Attribute eo "pop" apos) [] [] cpos) (tE R Y W (evE C (.pop o))) :=
  pe_imp (pe_bm0 PySem.F.plainAttrs_list PySem.F.slot_list_pop PySem.F.type_list_pop mt_pop ho (attr_base hb) (by rw [hl]; exact beq_self_eq_true _)) fun σ H Q ⟨ρ, φ, s, h, hS, hH, f⟩ => by
    simp only [evE] at f
    refine ⟨ρ, φ, s, h, hS, hH, f.bind fun x h1 ρ1 v H1 _ e1 hH1 r1 f1 => ?_⟩
    cases x with
    | ref n =>
      simp only [RD] at r1
      obtain ⟨l, el, rfl⟩ := r1
      cases hc : h1[n]? with
      | none => simp only [hc] at f1; exact f1.elim
      | some c =>
        have rc := hH1.cells n l c el hc
        cases c with
        | lst xs =>
          obtain ⟨vs, g1, g2⟩ := rc
          simp only [hc] at f1
          cases hx : xs[xs.length - 1]? with
          | none => simp only [hx] at f1; exact f1.elim
          | some d =>
            simp only [hx] at f1
            obtain ⟨w, w1, w2⟩ := g2.get hx
            have hin : l ∈ ρ1 := List.mem_of_getElem? el
            have ew : Ext ρ1 ρ1 H1 (upd H1 l (.lst vs.dropLast)) := Ext.write hin
            have dl : RDs R ρ1 φ H1 xs.dropLast vs.dropLast := by
              rw [List.dropLast_eq_take, List.dropLast_eq_take, g2.len]
              exact g2.take _
            refine ⟨.inl ⟨rfl, vs, SqL.of g1⟩, l, vs, w, rfl, rfl, g1, by rw [← g2.len]; exact w1, ?_⟩
            exact f1 ρ1 w _ ew (hH1.write el ⟨vs.dropLast, upd_same, (dl.later (Later.of (φ := φ) (Ext.refl))).mv (k := ρ1.length) (Mv.write hin _) dl.low⟩) (RD.mv (k := ρ1.length) (Mv.write hin _) w2.low w2)
        | _ => simp only [hc] at f1; exact f1.elim
    | _ => exact f1.elim
theorem c_dget {o k d : CE} {eo ek ed : Expr} {apos cpos : Pos} (hb : baseOk eo = true) (hl : apos.endLine = cpos.line) (h1 : starEach [ek, ed] X.env = (false, eval ek X.env) :: starEach [ed] X.env) (h2 : starEach [ed] X.env = (false, eval ed X.env) :: starEach [] X.env)
    (ho : PE X eo (tE R Y W (evE C o))) (hk : PE X ek (tE R Y W (evE C k))) (hd : PE X ed (tE R Y W (evE C d))) : PE X (.Call (.Attribute eo "get" apos) [ek, ed] [] cpos) (tE R Y W (evE C (.dget o k d))) := by
  have t2 : backTo cpos (starEach [ek, ed] X.env) = [(false, eval ek X.env), (false, eval ed X.env)] := by rw [h1, h2]; rfl
  have m2 : M2 X eo "get" apos ek ed cpos := ⟨attr_base hb, by rw [t2]; rfl, by rw [hl]; exact beq_self_eq_true _, t2⟩
  have hu : X.A.units + 1 < cLine := by have := G.hu; omega
  refine pe_imp (pe_dget2 hu ho hk hd m2) fun σ H Q ⟨ρ, φ, s, h, hS, hH, f⟩ => ?_
  simp only [evE] at f
  refine ⟨ρ, φ, s, h, hS, hH, f.bind fun x h1 ρ1 v H1 _ e1 hH1 r1 f1 => ?_⟩
  by_cases hx : isDictD h1 x = true
  · simp only [hx, if_true] at f1
    cases x with
    | ref n =>
      have r1' := r1
      simp only [RD] at r1
      obtain ⟨l, el, rfl⟩ := r1
      have isd : IsD H1 l := by
        unfold isDictD at hx
        cases hc : h1[n]? with
        | none => simp only [hc] at hx; cases hx
        | some c =>
          have rc := hH1.cells n l c el hc
          cases c with
          | dK kvs => obtain ⟨kws, g, _⟩ := rc; exact .inl ⟨kws, .inl g⟩
          | dT kvs => obtain ⟨kws, g, _⟩ := rc; exact .inr ⟨kws, .inl g⟩
          | _ => simp only [hc] at hx; cases hx
      refine ⟨l, rfl, isd, ρ1, φ, s, h1, hS.ext e1, hH1, f1.bind fun y h2 ρ2 u H2 _ e2 hH2 r2 f2 => ?_⟩
      refine ⟨ρ2, φ, s, h2, (hS.ext e1).ext e2, hH2, f2.bind fun z h3 ρ3 w H3 _ e3 hH3 r3 f3 => ?_⟩
      have el3 := e3.get (e2.get el)
      cases eq : lookD h3 n y with
      | none => simp only [eq] at f3; exact f3.elim
      | some r =>
        simp only [eq] at f3
        obtain ⟨o', g, q⟩ := look_get hH3 (r2.ext e3) el3 eq
        refine ⟨o', g, ?_⟩
        rcases q with ⟨rfl, rfl⟩ | ⟨d', w', rfl, rfl, q3⟩
        · exact f3 _ _ _ Ext.refl hH3 r3
        · exact f3 _ _ _ Ext.refl hH3 q3
    | _ => exact absurd hx (by simp [isDictD])
  · simp only [hx] at f1
    exact f1.elim
end
end Cl

namespace Cl
open PySem PySem.Spec PyProof.Rows L2
/-! ### new lists by operators and built-ins -/
def rCL (R : RC) (f : Hc → D → D → Option D) : R2 := fun x y H Q => ∃ ρ φ h a b xs, RelH R ρ φ H h ∧ RD R ρ φ H a x ∧ RD R ρ φ H b y ∧ f h a b = some (.lst xs) ∧
  ∀ p ws, H p = none → RDs R ρ φ H xs ws → Q (.ref p) (upd H p (.lst ws))
section
variable {X : Cx} {R : RC}
theorem binL_add : OpR X (binaryOp .Add) (rCL R addF) := by
  intro pins s σ H x y v u Q I rx ry ⟨ρ, φ, h, a, b, d, rH, ra, rb, e, k⟩
  unfold addF at e
  split at e
  · cases e
  · split at e <;> cases e
  · split at e <;> cases e
  · unfold addL at e
    split at e
    · rename_i xs ys ea eb
      split at e
      · rename_i hz
        cases e
        obtain ⟨l, vs, rfl, h1, h2⟩ := ra.der_lst rH ea
        obtain ⟨m, ws, rfl, h3, h4⟩ := rb.der_lst rH eb
        exact op_cat pins s σ H _ _ v u Q I rx ry ⟨l, m, vs, ws, rfl, rfl, h1, h3, by rw [← h2.len, ← h4.len, ← line_eq]; exact hz, fun p hp => k p _ hp (h2.append h4)⟩
      · cases e
    · cases e
theorem binL_mul : OpR X (binaryOp .Mult) (rCL R mulF) := by
  intro pins s σ H x y v u Q I rx ry ⟨ρ, φ, h, a, b, d, rH, ra, rb, e, k⟩
  unfold mulF at e
  split at e
  · split at e <;> cases e
  · split at e <;> cases e
  · rename_i m _ _
    unfold mulL at e
    split at e
    · rename_i xs ea
      split at e
      · rename_i hz
        cases e
        obtain ⟨l, vs, rfl, h1, h2⟩ := ra.der_lst rH ea
        simp only [RD] at rb
        subst rb
        exact op_rep pins s σ H _ _ v u Q I rx ry ⟨l, m, vs, rfl, rfl, h1, hz.1, hz.2.1, by rw [← h2.len, ← line_eq]; exact hz.2.2, fun p hp => k p _ hp (h2.rep _)⟩
      · cases e
    · cases e
  · cases e
end
section
variable {S : Sg} {R : RC} {C : Caller} {Y : XC} {n : Nat} {N : List Str} {cm : Bool} {sc : Scope} {X : Cx} {W : WX} (G : Gd S R C Y n N cm sc X W) {pos : Pos}
theorem l_bin {op : Operator} (hop : op = .Add ∨ op = .Mult) {a b : CE} {ea eb : Expr} (ha : PE X ea (tE R Y W (evE C a))) (hb : PE X eb (tE R Y W (evE C b))) : PE X (.BinOp ea op eb pos) (tL R Y W (evE C (.bin op a b))) := by
  have ho : OpR X (binaryOp op) (rCL R fun h => binF h op) := by
    rcases hop with rfl | rfl
    · exact binL_add
    · exact binL_mul
  refine pe_imp (pe_op ho ha hb) fun σ H Q ⟨ρ, φ, s, h, hS, hH, f, only⟩ => ?_
  simp only [evE] at f only
  refine ⟨ρ, φ, s, h, hS, hH, f.bind fun x h1 ρ1 v H1 eq1 e1 hH1 r1 f1 => ?_⟩
  refine ⟨ρ1, φ, s, h1, hS.ext e1, hH1, f1.bind fun y h2 ρ2 u H2 eq2 e2 hH2 r2 f2 => ?_⟩
  cases ed : binF h2 op x y with
  | none => rw [ed] at f2; exact f2.elim
  | some d =>
    rw [ed] at f2
    obtain ⟨xs, rfl⟩ := only d h2 (by rw [eq1]; show (ERes.bind (evE C b s h1) _) = _; rw [eq2]; show ofO (binF h2 op x y) h2 = _; rw [ed]; rfl)
    exact ⟨ρ2, φ, h2, x, y, xs, hH2, r1.ext e2, r2, ed, fun p ws hp rs => finL_new (d := .lst xs) Ext.refl f2 rfl hH2 hp rs⟩
include G
theorem l_biV {v : Value} {g : Hc → List D → Option (List D)} {args : CEs} {x : Str} {e : Expr} {es : List Expr} {p : Pos} {c : CE} (hv : (∃ id, v = .builtin id) ∨ ∃ T, v = .type T) (hc : CallR X v (rL R g)) (hb : bootBuiltins x = some v) (hx : x ∈ bltNames) (hg : isGlB sc x = true)
    (ha : PA X (e :: es) (tA R Y W (evEs C args))) (hs : starEach (e :: es) X.env = (false, eval e X.env) :: starEach es X.env) (hp : (backTo pos (starEach es X.env)).any (·.1) = false)
    (hev : ∀ s h, evE C c s h = (evEs C args s h).bind fun ds h => ofO ((g h ds).map D.lst) h) : PE X (.Call (.Name x p) (e :: es) [] pos) (tL R Y W (evE C c)) := by
  obtain ⟨g1, g2⟩ := G.glb hg
  have rd : ∀ σ H Q, tL R Y W (evE C c) σ H Q → tCB (rL R g) (tA R Y W (evEs C args)) σ H Q := fun σ H Q ⟨ρ, φ, s, h, hS, hH, k, _⟩ => by
    rw [hev] at k
    refine ⟨ρ, φ, s, h, hS, hH, k.bind fun ds h1 ρ1 vs H1 _ e1 hH1 r1 f1 => ?_⟩
    cases ed : g h1 ds with
    | none => rw [ed] at f1; exact f1.elim
    | some xs =>
      rw [ed] at f1
      exact ⟨ρ1, φ, h1, ds, xs, hH1, r1, ed, fun p ws hp rs => finL_new (d := .lst xs) Ext.refl f1 rfl hH1 hp rs⟩
  rcases hv with ⟨id, rfl⟩ | ⟨T, rfl⟩
  · exact pe_imp (pe_callB hc g1 (G.bl hx) hb ha (nm_dbg g2).2.2 (nm_dbg g2).1 hs hp) rd
  · exact pe_imp (pe_callTy hc g1 (G.bl hx) hb ha (nm_dbg g2).2.2 (nm_dbg g2).1 hs hp) rd
omit G in
theorem bi_list_arg {h : Hc} {ds : List D} : biF h .list ds = (arg1 seqD h ds).map D.lst := by
  rcases ds with _ | ⟨d, _ | ⟨e, l⟩⟩ <;> rfl
omit G in
theorem bi_sorted_arg {h : Hc} {ds : List D} : biF h .sorted ds = (arg1 (fun h d => (seqD h d).bind sortF) h ds).map D.lst := by
  rcases ds with _ | ⟨d, _ | ⟨e, l⟩⟩ <;> rfl
theorem l_list {args : CEs} {e : Expr} {es : List Expr} {p : Pos} (hg : isGlB sc "list" = true) (ha : PA X (e :: es) (tA R Y W (evEs C args)))
    (hs : starEach (e :: es) X.env = (false, eval e X.env) :: starEach es X.env) (hp : (backTo pos (starEach es X.env)).any (·.1) = false) : PE X (.Call (.Name "list" p) (e :: es) [] pos) (tL R Y W (evE C (.bi .list args))) :=
  l_biV G (.inr ⟨_, rfl⟩) (call_listC G.hK) (by decide +kernel) (by decide +kernel) hg ha hs hp fun s h => by simp only [evE, bi_list_arg]
theorem l_sorted {args : CEs} {e : Expr} {es : List Expr} {p : Pos} (hg : isGlB sc "sorted" = true) (ha : PA X (e :: es) (tA R Y W (evEs C args)))
    (hs : starEach (e :: es) X.env = (false, eval e X.env) :: starEach es X.env) (hp : (backTo pos (starEach es X.env)).any (·.1) = false) : PE X (.Call (.Name "sorted" p) (e :: es) [] pos) (tL R Y W (evE C (.bi .sorted args))) :=
  l_biV G (.inl ⟨_, rfl⟩) (call_sortedC G.hK G.hu) (by decide +kernel) (by decide +kernel) hg ha hs hp fun s h => by simp only [evE, bi_sorted_arg]
theorem c_lenset {args : CEs} {a : Expr} {p p2 q : Pos} (hcm : cm = true) (hg : isGlB sc "len" = true) (hg2 : isGlB sc "set" = true) (ha : PA X [a] (tA R Y W (evEs C args))) (hs : starEach [a] X.env = (false, eval a X.env) :: starEach [] X.env) :
    PE X (.Call (.Name "len" p) [.Call (.Name "set" p2) [a] [] q] [] pos) (tE R Y W (evE C (.bi .lenset args))) := by
  obtain ⟨g1, g2⟩ := G.glb hg
  obtain ⟨g3, g4⟩ := G.glb hg2
  refine ⟨fun pins s σ H Q I ⟨ρ, φ, cs, h, hS, hH, f⟩ => ?_⟩
  simp only [evE] at f
  refine Call_ (ld_blt I g1 (G.bl (by decide +kernel)) boot_len ?_)
  refine PyProof.Rows.callWith_builtin1 (PyProof.Rows.args_cons ?_ rfl) rfl rfl
  refine Call_ (ld_blt I g3 (G.bl (by decide +kernel)) boot_set ?_)
  have f' : tA R Y W (evEs C args) σ H (fun vs H1 => ∃ (l : Addr) (ns : List Int), vs = [.ref l] ∧ SqL X.K H1 l (ns.map V.int) ∧ ns.length ≤ 4000 ∧ Q (.int (firstMet (fun i => ns.getD i 0) ns.length).length) H1) := by
    refine ⟨ρ, φ, cs, h, hS, hH, f.bind fun ds h1 ρ1 vs H1 _ e1 hH1 r1 f1 => ?_⟩
    obtain ⟨d, ed, k⟩ := Fin.ofO f1
    rcases ds with _ | ⟨d0, _ | ⟨d1, l⟩⟩
    · cases ed
    · simp only [RDs] at r1
      obtain ⟨v, vs', rfl, h1', rfl⟩ := r1
      have ed' : ((lstD h1 d0).bind fun xs => (intsD xs).bind fun is => if is.length ≤ 4000 then some (.int (firstMet (fun i => is.getD i 0) is.length).length) else none) = some d := ed
      obtain ⟨xs, x1, ed'⟩ := Option.bind_eq_some_iff.mp ed'
      obtain ⟨ns, x2, ed'⟩ := Option.bind_eq_some_iff.mp ed'
      split at ed'
      · rename_i hz
        cases ed'
        obtain ⟨a, ws, rfl, y1, y2⟩ := lst_seq hH1 h1' x1
        obtain ⟨z1, z2⟩ := intsD_rd x2 y2
        subst z1
        exact ⟨a, ns, rfl, G.hK ▸ y1, hz, k _ _ _ Ext.refl hH1 (by simp only [RD])⟩
      · cases ed'
    · cases ed
  refine PyProof.Rows.callWith_type1 (thn (ha.run q pins s σ H _ I f') fun us s1 ⟨vs, H1, I1, r1, l, ns, e1, hq, hl, k⟩ => ?_) hs rfl
  subst e1
  cases r1 with
  | cons r rr =>
  cases rr
  cases r
  obtain ⟨its, r, pl, hz⟩ := I1.list hq
  have hlen : its.toArray.size = ns.length := by rw [List.size_toArray, ← r.length, List.length_map]
  refine call_set_list (I1.ok.hd (G.calm hcm)) pl.isList (by simpa using RZ.intsAre_vals r) (by rw [hlen]; unfold scanBound; omega) fun h' tk hS hk => ?_
  refine PyProof.Rows.args_nil ?_
  rw [hlen] at hS
  obtain ⟨o, es, ep, t, ho, hex, hd, _, _, _, hf, hn⟩ := hS
  have I2 : Inv X pins σ H1 { s1 with heap := h', toks := tk } := I1.kept fun b o e => hk b o (Heap.lt_size e) e
  have hle := PyProof.Rows.firstMet_length_le (fun i => ns.getD i 0) ns.length
  exact call_len_set ho hex hd hf (by rw [hn]; omega) ⟨.int (firstMet (fun i => ns.getD i 0) ns.length).length, H1, I2.tok _, ⟨_, by rw [hn]⟩, k⟩
end
end Cl

namespace Cl
open PySem PySem.Spec PyProof.Rows L2
/-! ### what is walked -/
structure JOk (R : RC) (J : It) (xs : List D) (g : Guard) (ρ φ : List Addr) (H : Hp) : Prop where
  go : ∀ (i : Nat) (ρ' φ' : List Addr) (H' : Hp) (h' : Hc), Later ρ φ H ρ' φ' H' → RelH R ρ' φ' H' h' → gOk g h' = true → ∀ d, xs[i]? = some d →
    J.go i H' ∧ ∀ x H2, J.yld i H' x H2 → Ext ρ' ρ' H' H2 ∧ Later ρ' φ' H' ρ' φ' H2 ∧ RelH R ρ' φ' H2 h' ∧ RD R ρ' φ' H2 d x
  stop : ∀ (ρ' φ' : List Addr) (H' : Hp) (h' : Hc), Later ρ φ H ρ' φ' H' → RelH R ρ' φ' H' h' → gOk g h' = true → J.stop xs.length H'
def tI (R : RC) (Y : XC) (W : WX) (f : CSt → Hc → ERes Itd) : TI := fun σ H Q => ∃ ρ φ c h, RelS R ρ φ H c σ ∧ RelH R ρ φ H h ∧ Fin R Y W σ ρ φ H (fun ρ' H' d J => JOk R J d.xs d.g ρ' φ H') (f c h) Q
theorem pi_imp {X : Cx} {tg e : Expr} {t u : TI} (h : PI X tg e t) (k : ∀ σ H Q, u σ H Q → t σ H Q) : PI X tg e u := ⟨fun pins s σ H Q I q => h.run pins s σ H Q I (k σ H Q q)⟩
def iSeq (K : PySem.W.Frag) (tl : TE) : TI := fun σ H Q => tl σ H fun x H1 => ∃ a, x = .ref a ∧ (((∃ xs, SqL K H1 a xs) ∧ Q (Itl K a) H1) ∨ ((∃ xs, SqT K H1 a xs) ∧ Q (Itt K a) H1))
theorem pi_seq {X : Cx} {tg l : Expr} {tl : TE} (hl : PE X l tl) : PI X tg l (iSeq X.K tl) := by
  refine ⟨fun pins s σ H Q I h => thn (hl.run pins s σ H _ I h) fun v s1 ⟨x, H1, I1, r1, a, e, q1⟩ => ?_⟩
  subst e
  cases r1
  have fo : ∀ b ∈ [s1.heap.objs.size], FpOk X pins H1 b := fun b hb => by
    have e : b = s1.heap.objs.size := by simpa using hb
    subst e
    exact I1.fpOk (Nat.le_refl _) (I1.hok.fresh (Nat.le_refl _))
  rcases q1 with ⟨⟨xs, hq⟩, q⟩ | ⟨⟨xs, hq⟩, q⟩
  · obtain ⟨its, rv, p, hz⟩ := I1.list hq
    refine wpAny_pyIter_list p.isList ?_
    exact ⟨s1.heap.objs.size, [s1.heap.objs.size], _, _, H1, rfl, I1.kept (t' := s1.toks) fun b o e => Heap.get?_push_of_some _ e, turn_list a _, ⟨_, Heap.get?_push_size _ rfl, rfl, rfl⟩, fo, q⟩
  · obtain ⟨its, rv, p, hz⟩ := I1.tuple hq
    refine wpAny_pyIter_tuple (show s1.heap.IsTuple a its.toArray from p) ?_
    exact ⟨s1.heap.objs.size, [s1.heap.objs.size], _, _, H1, rfl, I1.kept (t' := s1.toks) fun b o e => Heap.get?_push_of_some _ e, turn_tuple a _, ⟨_, Heap.get?_push_size _ rfl, rfl, rfl⟩, fo, q⟩
section
variable {R : RC} {ρ φ : List Addr} {H : Hp} {h : Hc}
theorem Later.refl : Later ρ φ H ρ φ H := Later.of Ext.refl
theorem gOk_at {g : Guard} {h : Hc} {n : Nat} {c : Cell} (k : gOk g h = true) (m : (n, c) ∈ g) : h[n]? = some c := by
  unfold gOk at k
  have := List.all_eq_true.mp k _ m
  simpa using this
/-- a list that stays, as walked -/
theorem jok_list {a : Addr} {xs : List D} {g : Guard} (k : ∀ (ρ' φ' : List Addr) (H' : Hp) (h' : Hc), Later ρ φ H ρ' φ' H' → RelH R ρ' φ' H' h' → gOk g h' = true → ∃ vs, SqL R.K H' a vs ∧ RDs R ρ' φ' H' xs vs) : JOk R (Itl R.K a) xs g ρ φ H := by
  refine ⟨fun i ρ' φ' H' h' l rH gg d hd => ?_, fun ρ' φ' H' h' l rH gg => ?_⟩
  · obtain ⟨vs, h1, h2⟩ := k ρ' φ' H' h' l rH gg
    obtain ⟨v, h3, h4⟩ := h2.get hd
    refine ⟨⟨vs, v, h1, h3⟩, fun x H2 ⟨e, y⟩ => ?_⟩
    subst e
    have := y vs h1
    rw [h3] at this
    cases this
    exact ⟨Ext.refl, Later.refl, rH, h4⟩
  · obtain ⟨vs, h1, h2⟩ := k ρ' φ' H' h' l rH gg
    exact ⟨vs, h1, by rw [h2.len]; exact Nat.le_refl _⟩
theorem jok_tup {a : Addr} {xs : List D} {g : Guard} (k : ∀ (ρ' φ' : List Addr) (H' : Hp) (h' : Hc), Later ρ φ H ρ' φ' H' → RelH R ρ' φ' H' h' → gOk g h' = true → ∃ vs, SqT R.K H' a vs ∧ RDs R ρ' φ' H' xs vs) : JOk R (Itt R.K a) xs g ρ φ H := by
  refine ⟨fun i ρ' φ' H' h' l rH gg d hd => ?_, fun ρ' φ' H' h' l rH gg => ?_⟩
  · obtain ⟨vs, h1, h2⟩ := k ρ' φ' H' h' l rH gg
    obtain ⟨v, h3, h4⟩ := h2.get hd
    refine ⟨⟨vs, v, h1, h3⟩, fun x H2 ⟨e, y⟩ => ?_⟩
    subst e
    have := y vs h1
    rw [h3] at this
    cases this
    exact ⟨Ext.refl, Later.refl, rH, h4⟩
  · obtain ⟨vs, h1, h2⟩ := k ρ' φ' H' h' l rH gg
    exact ⟨vs, h1, by rw [h2.len]; exact Nat.le_refl _⟩
theorem rng_get {c : Int} : ∀ {n i : Nat} {a : Int} {d : D}, (rngD a c n)[i]? = some d → i < n ∧ d = .int (a + (i : Nat) * c)
  | 0, i, a, d, e => by simp [rngD] at e
  | n + 1, 0, a, d, e => by
    simp only [rngD, List.getElem?_cons_zero, Option.some.injEq] at e
    refine ⟨Nat.succ_pos _, ?_⟩
    rw [← e]
    simp
  | n + 1, i + 1, a, d, e => by
    simp only [rngD, List.getElem?_cons_succ] at e
    obtain ⟨h1, h2⟩ := rng_get e
    refine ⟨Nat.succ_lt_succ h1, ?_⟩
    rw [h2]
    congr 1
    have : ((i + 1 : Nat) : Int) * c = (i : Nat) * c + c := by rw [Int.natCast_succ, Int.add_mul, Int.one_mul]
    omega
theorem rng_len {c : Int} : ∀ {n : Nat} {a : Int}, (rngD a c n).length = n
  | 0, a => rfl
  | n + 1, a => by rw [rngD, List.length_cons, rng_len]
theorem jok_rng {lo : Int} {n : Nat} : JOk R (Itr lo n) (rngD lo 1 n) [] ρ φ H := by
  refine ⟨fun i ρ' φ' H' h' l rH gg d hd => ?_, fun ρ' φ' H' h' l rH gg => ?_⟩
  · obtain ⟨h1, h2⟩ := rng_get hd
    refine ⟨h1, fun x H2 ⟨e, y⟩ => ?_⟩
    subst e
    refine ⟨Ext.refl, Later.refl, rH, ?_⟩
    rw [h2, Int.mul_one]
    simp only [RD]
    exact y
  · show n ≤ _
    rw [rng_len]
    exact Nat.le_refl _
theorem jok_rngC {lo c : Int} {n : Nat} : JOk R (Itc lo c n) (rngD lo c n) [] ρ φ H := by
  refine ⟨fun i ρ' φ' H' h' l rH gg d hd => ?_, fun ρ' φ' H' h' l rH gg => ?_⟩
  · obtain ⟨h1, h2⟩ := rng_get hd
    refine ⟨h1, fun x H2 ⟨e, y⟩ => ?_⟩
    subst e
    refine ⟨Ext.refl, Later.refl, rH, ?_⟩
    rw [h2]
    simp only [RD]
    exact y
  · show n ≤ _
    rw [rng_len]
    exact Nat.le_refl _
end
section
variable {S : Sg} {R : RC} {C : Caller} {Y : XC} {n : Nat} {N : List Str} {cm : Bool} {sc : Scope} {X : Cx} {W : WX} (G : Gd S R C Y n N cm sc X W) {pos : Pos} {tg : Expr}
include G
theorem i_seq {a : CE} {e : Expr} (ha : PE X e (tE R Y W (evE C a))) : PI X tg e (tI R Y W (evI C (.seq a))) :=
  pi_imp (pi_seq ha) fun σ H Q ⟨ρ, φ, s, h, hS, hH, f⟩ => by
    simp only [evI] at f
    refine ⟨ρ, φ, s, h, hS, hH, f.bind fun x h1 ρ1 v H1 _ e1 hH1 r1 f1 => ?_⟩
    cases ex : seqD h1 x with
    | none => simp only [ex] at f1; exact f1.elim
    | some xs =>
      simp only [ex] at f1
      have r1' := r1
      cases x with
      | tup ds =>
        simp only [seqD, Option.some.injEq] at ex; subst ex
        simp only [RD] at r1
        obtain ⟨a, vs, rfl, g1, g2⟩ := r1
        refine ⟨a, rfl, .inr ⟨⟨vs, G.hK ▸ g1.sq⟩, ?_⟩⟩
        rw [← G.hK]
        refine f1 ρ1 _ H1 Ext.refl hH1 (jok_tup fun ρ' φ' H' h' l rH gg => ?_)
        have q := r1'.later l
        simp only [RD] at q
        obtain ⟨a', vs', e', q1, q2⟩ := q
        cases e'
        exact ⟨vs', q1.sq, q2⟩
      | lst ds =>
        simp only [seqD, Option.some.injEq] at ex; subst ex
        simp only [RD] at r1
        obtain ⟨a, vs, rfl, g1, g2⟩ := r1
        refine ⟨a, rfl, .inl ⟨⟨vs, G.hK ▸ g1.sq⟩, ?_⟩⟩
        rw [← G.hK]
        refine f1 ρ1 _ H1 Ext.refl hH1 (jok_list fun ρ' φ' H' h' l rH gg => ?_)
        have q := r1'.later l
        simp only [RD] at q
        obtain ⟨a', vs', e', q1, q2⟩ := q
        cases e'
        exact ⟨vs', q1.sq, q2⟩
      | ref m =>
        simp only [RD] at r1
        obtain ⟨a, ea, rfl⟩ := r1
        unfold seqD at ex
        cases hc : h1[m]? with
        | none => simp [hc] at ex
        | some c =>
          have gu : guardOf h1 (.ref m) = [(m, c)] := by simp only [guardOf, hc]
          rw [gu] at f1
          have rc := hH1.cells m a c ea hc
          cases c with
          | lst ys =>
            simp only [hc, Option.some.injEq] at ex; subst ex
            obtain ⟨vs, q1, q2⟩ := rc
            refine ⟨a, rfl, .inl ⟨⟨vs, SqL.of q1⟩, ?_⟩⟩
            rw [← G.hK]
            refine f1 ρ1 _ H1 Ext.refl hH1 (jok_list fun ρ' φ' H' h' l rH gg => ?_)
            obtain ⟨ws, w1, w2⟩ := rH.cells m a (.lst ys) (l.ext.get ea) (gOk_at (c := .lst ys) gg (by simp))
            exact ⟨ws, SqL.of w1, w2⟩
          | ro ys =>
            simp only [hc, Option.some.injEq] at ex; subst ex
            obtain ⟨o, vs, q1, q2⟩ := rc
            refine ⟨a, rfl, .inl ⟨⟨vs, .inl (.inr ⟨o, q1⟩)⟩, ?_⟩⟩
            rw [← G.hK]
            refine f1 ρ1 _ H1 Ext.refl hH1 (jok_list fun ρ' φ' H' h' l rH gg => ?_)
            obtain ⟨o', ws, w1, w2⟩ := rH.cells m a (.ro ys) (l.ext.get ea) (gOk_at (c := .ro ys) gg (by simp))
            exact ⟨ws, .inl (.inr ⟨o', w1⟩), w2⟩
          | dK _ => simp [hc] at ex
          | dT _ => simp [hc] at ex
      | _ => simp [seqD] at ex
omit G in
theorem small_of {i : Int} (h : smallI i = true) : -(2 ^ 62) ≤ i ∧ i < 2 ^ 62 := by
  unfold smallI at h
  simpa using h
theorem i_rng1 {a : CE} {e : Expr} {p : Pos} (hg : isGlB sc "range" = true) (ha : PE X e (tE R Y W (evE C a))) (hs : starEach [e] X.env = (false, eval e X.env) :: starEach [] X.env) : PI X tg (.Call (.Name "range" p) [e] [] pos) (tI R Y W (evI C (.rng1 a))) := by
  obtain ⟨g1, g2⟩ := G.glb hg
  refine pi_imp (pi_range1 g1 (G.bl (by decide +kernel)) (pa_cons ha pa_nil hs) (by rw [hs]; rfl)) fun σ H Q ⟨ρ, φ, s, h, hS, hH, f⟩ => ?_
  simp only [evI] at f
  refine ⟨ρ, φ, s, h, hS, hH, f.bind fun x h1 ρ1 v H1 _ e1 hH1 r1 f1 => ?_⟩
  cases x with
  | int j =>
    simp only [RD] at r1
    subst r1
    by_cases hj : smallI j = true
    · simp only [hj, if_true] at f1
      obtain ⟨j1, j2⟩ := small_of hj
      exact ⟨j, rfl, j1, j2, f1 ρ1 _ H1 Ext.refl hH1 jok_rng⟩
    · simp only [hj] at f1
      exact f1.elim
  | _ => exact f1.elim
theorem i_rng2 {a b : CE} {e e2 : Expr} {p : Pos} (hg : isGlB sc "range" = true) (ha : PE X e (tE R Y W (evE C a))) (hb : PE X e2 (tE R Y W (evE C b))) (hs : starEach [e, e2] X.env = (false, eval e X.env) :: starEach [e2] X.env) (hs2 : starEach [e2] X.env = (false, eval e2 X.env) :: starEach [] X.env) :
    PI X tg (.Call (.Name "range" p) [e, e2] [] pos) (tI R Y W (evI C (.rng2 a b))) := by
  obtain ⟨g1, g2⟩ := G.glb hg
  refine pi_imp (pi_range2 g1 (G.bl (by decide +kernel)) (pa_cons ha (pa_cons hb pa_nil hs2) hs) (by rw [hs, hs2]; rfl) (by rw [hs2]; rfl)) fun σ H Q ⟨ρ, φ, s, h, hS, hH, f⟩ => ?_
  simp only [evI] at f
  refine ⟨ρ, φ, s, h, hS, hH, f.bind fun x h1 ρ1 v H1 _ e1 hH1 r1 f1 => ?_⟩
  refine ⟨ρ1, φ, s, h1, hS.ext e1, hH1, f1.bind fun y h2 ρ2 u H2 _ e2 hH2 r2 f2 => ?_⟩
  have r1 := r1.ext e2
  cases x with
  | int i =>
    cases y with
    | int j =>
      simp only [RD] at r1 r2
      subst r1 r2
      by_cases hj : (smallI i && smallI j) = true
      · simp only [hj, if_true] at f2
        rw [Bool.and_eq_true] at hj
        obtain ⟨j1, j2⟩ := small_of hj.1
        obtain ⟨j3, j4⟩ := small_of hj.2
        exact ⟨i, j, rfl, ⟨j1, j2, j3, j4⟩, f2 ρ2 _ H2 Ext.refl hH2 jok_rng⟩
      · simp only [hj] at f2
        exact f2.elim
    | _ => exact f2.elim
  | _ => exact f2.elim
theorem i_rng3 {a b c : CE} {e e2 e3 : Expr} {p : Pos} (hg : isGlB sc "range" = true) (ha : PE X e (tE R Y W (evE C a))) (hb : PE X e2 (tE R Y W (evE C b))) (hc : PE X e3 (tE R Y W (evE C c))) (hs : starEach [e, e2, e3] X.env = (false, eval e X.env) :: starEach [e2, e3] X.env)
    (hs2 : starEach [e2, e3] X.env = (false, eval e2 X.env) :: starEach [e3] X.env) (hs3 : starEach [e3] X.env = (false, eval e3 X.env) :: starEach [] X.env) :
    PI X tg (.Call (.Name "range" p) [e, e2, e3] [] pos) (tI R Y W (evI C (.rng3 a b c))) := by
  obtain ⟨g1, g2⟩ := G.glb hg
  refine pi_imp (pi_range3 g1 (G.bl (by decide +kernel)) (pa_cons ha (pa_cons hb (pa_cons hc pa_nil hs3) hs2) hs) hs (by rw [hs2, hs3]; rfl)) fun σ H Q ⟨ρ, φ, s, h, hS, hH, f⟩ => ?_
  simp only [evI] at f
  refine ⟨ρ, φ, s, h, hS, hH, f.bind fun x h1 ρ1 v H1 _ e1 hH1 r1 f1 => ?_⟩
  refine ⟨ρ1, φ, s, h1, hS.ext e1, hH1, f1.bind fun y h2 ρ2 u H2 _ e2 hH2 r2 f2 => ?_⟩
  refine ⟨ρ2, φ, s, h2, (hS.ext e1).ext e2, hH2, f2.bind fun z h3 ρ3 w H3 _ e3 hH3 r3 f3 => ?_⟩
  have r1 := (r1.ext e2).ext e3
  have r2 := r2.ext e3
  cases x with
  | int i =>
    cases y with
    | int j =>
      cases z with
      | int k =>
        simp only [RD] at r1 r2 r3
        subst r1 r2 r3
        by_cases hj : (Builtin.Range.small i j k && decide (k ≠ 0) && decide (k.natAbs < 1073741824) && decide (Builtin.Range.rangeSize i j k = (rngN i j k : Nat))) = true
        · simp only [hj, if_true] at f3
          simp only [Bool.and_eq_true, decide_eq_true_eq] at hj
          obtain ⟨⟨⟨j1, j2⟩, j3⟩, j4⟩ := hj
          exact ⟨i, j, k, rngN i j k, rfl, ⟨j2, j3, j1, j4⟩, f3 ρ3 _ H3 Ext.refl hH3 jok_rngC⟩
        · simp only [hj] at f3
          exact f3.elim
      | _ => exact f3.elim
    | _ => exact f3.elim
  | _ => exact f3.elim
end

/-! ### targets -/
mutual
def tgIx : Tg → List Nat
  | .v i => [i]
  | .t ts => tgsIx ts
def tgsIx : Tgs → List Nat
  | .nil => []
  | .cons t ts => tgIx t ++ tgsIx ts
end
/-- as before but at the target's places -/
def Same (is : List Nat) (σ σ' : L2.St) : Prop := σ'.length = σ.length ∧ ∀ i, i ∉ is → σ'[i]? = σ[i]?
theorem Same.refl {is : List Nat} {σ : L2.St} : Same is σ σ := ⟨rfl, fun _ _ => rfl⟩
theorem Same.trans {is js : List Nat} {σ σ1 σ2 : L2.St} (a : Same is σ σ1) (b : Same js σ1 σ2) : Same (is ++ js) σ σ2 :=
  ⟨b.1.trans a.1, fun i hi => by
    rw [List.mem_append, not_or] at hi
    rw [b.2 i hi.2, a.2 i hi.1]⟩
def tG (R : RC) (t : Tg) : TG := fun v σ H Q => ∃ ρ φ c h d c', RelS R ρ φ H c σ ∧ RelH R ρ φ H h ∧ RD R ρ φ H d v ∧ asgT t d c = some c' ∧ ∀ σ', RelS R ρ φ H c' σ' → Same (tgIx t) σ σ' → Q σ' H
def tGs (R : RC) (ts : Tgs) : TGs := fun vs σ H Q => ∃ ρ φ c h ds c', RelS R ρ φ H c σ ∧ RelH R ρ φ H h ∧ RDs R ρ φ H ds vs ∧ asgTs ts ds c = some c' ∧ ∀ σ', RelS R ρ φ H c' σ' → Same (tgsIx ts) σ σ' → Q σ' H
theorem pg_imp {X : Cx} {e : Expr} {t u : TG} (h : PG X e t) (k : ∀ v σ H Q, u v σ H Q → t v σ H Q) : PG X e u := ⟨fun pins s σ H v w Q I r q => h.run pins s σ H v w Q I r (k v σ H Q q)⟩
theorem pgs_imp {X : Cx} {e : List Expr} {t u : TGs} (h : PGs X e t) (k : ∀ v σ H Q, u v σ H Q → t v σ H Q) : PGs X e u := ⟨fun pins s σ H v w Q I r q => h.run pins s σ H v w Q I r (k v σ H Q q)⟩
theorem chkT_plain {N : List Str} {sc : Scope} : ∀ {t : Tg} {e : Expr}, chkT N sc t e = true → ∀ (es : List Expr) (env : PySem.Env), assignEach (e :: es) env = (false, assign e env) :: assignEach es env := by
  intro t e h es env
  cases e with
  | Starred v p => cases t <;> simp [chkT] at h
  | _ => rfl
def tgsLen : Tgs → Nat
  | .nil => 0
  | .cons _ ts => tgsLen ts + 1
theorem chkTs_len {N : List Str} {sc : Scope} : ∀ {ts : Tgs} {es : List Expr} {env : PySem.Env}, chkTs N sc ts es = true → (assignEach es env).length = tgsLen ts ∧ (assignEach es env).findIdx? (·.1) = none
  | .nil, [], _, _ => ⟨rfl, rfl⟩
  | .nil, _ :: _, _, h => by simp [chkTs] at h
  | .cons _ _, [], _, h => by simp [chkTs] at h
  | .cons t ts, e :: es, env, h => by
    simp only [chkTs, Bool.and_eq_true] at h
    obtain ⟨h1, h2⟩ := @chkTs_len N sc ts es env h.2
    rw [chkT_plain h.1 es env]
    refine ⟨by rw [List.length_cons, h1]; rfl, ?_⟩
    rw [List.findIdx?_cons, h2]
    rfl
theorem asgTs_len : ∀ {ts : Tgs} {ds : List D} {c c' : CSt}, asgTs ts ds c = some c' → ds.length = tgsLen ts
  | .nil, [], _, _, _ => rfl
  | .nil, _ :: _, _, _, h => by simp [asgTs] at h
  | .cons _ _, [], _, _, h => by simp [asgTs] at h
  | .cons t ts, d :: ds, c, c', h => by
    simp only [asgTs] at h
    cases q : asgT t d c with
    | none => simp [q] at h
    | some c1 =>
      simp only [q] at h
      rw [List.length_cons, asgTs_len h]
      rfl
section
variable {S : Sg} {R : RC} {C : Caller} {Y : XC} {n : Nat} {N : List Str} {cm : Bool} {sc : Scope} {X : Cx} {W : WX} (G : Gd S R C Y n N cm sc X W)
include G
mutual
theorem g_tg (hcm : X.calm = true) : ∀ {t : Tg} {e : Expr}, chkT N sc t e = true → PG X e (tG R t)
  | .v i, e, h => by
    cases e with
    | Name x p =>
      simp only [chkT, Bool.and_eq_true, Bool.or_eq_true, decide_eq_true_eq] at h
      obtain ⟨⟨h1, h2⟩, h3⟩ := h
      have hl : Loc X.env.scope x := h2.elim (fun z => .inl (G.sees.loc x z)) fun z => .inr (G.sees.cell x z)
      have hf : X.fn x = true ∨ X.env.scope.names.lookup x = some .local := h2.elim (fun z => .inr (G.sees.loc x z)) fun z => .inl (G.fnc x z)
      refine pg_imp (pg_name (i := i) (by rw [G.hN]; exact G.nd) (by rw [G.hN]; exact h1) hl hf) fun v σ H Q ⟨ρ, φ, c, h, d, c', hS, hH, r, ea, k⟩ => ?_
      simp only [asgT, Option.some.injEq] at ea
      subst ea
      refine k _ (hS.set i r) ⟨by rw [List.length_set], fun j hj => ?_⟩
      rw [List.getElem?_set_ne]
      intro z
      exact hj (by simp [tgIx, z])
    | _ => simp [chkT] at h
  | .t ts, e, h => by
    cases e with
    | Tuple es k p =>
      simp only [chkT] at h
      obtain ⟨l1, l2⟩ := @chkTs_len N sc ts es X.env h
      refine pg_imp (pg_tup hcm (g_tgs hcm h) l1 l2) fun v σ H Q ⟨ρ, φ, c, hh, d, c', hS, hH, r, ea, k⟩ => ?_
      simp only [asgT] at ea
      cases d with
      | tup ds =>
        have r' := r
        simp only [RD] at r
        obtain ⟨a, vs, rfl, g1, g2⟩ := r
        exact ⟨a, vs, rfl, G.hK ▸ g1.sq, by rw [← g2.len]; exact asgTs_len ea, ρ, φ, c, hh, ds, c', hS, hH, g2, ea, k⟩
      | _ => cases ea
    | _ => simp [chkT] at h
theorem g_tgs (hcm : X.calm = true) : ∀ {ts : Tgs} {es : List Expr}, chkTs N sc ts es = true → PGs X es (tGs R ts)
  | .nil, [], _ => pgs_imp pgs_nil fun vs σ H Q ⟨ρ, φ, c, hh, ds, c', hS, hH, r, ea, k⟩ => by
    cases ds with
    | nil =>
      simp only [asgTs, Option.some.injEq] at ea
      subst ea
      simp only [RDs] at r
      exact ⟨r, k σ hS Same.refl⟩
    | cons _ _ => simp [asgTs] at ea
  | .nil, _ :: _, h => by simp [chkTs] at h
  | .cons _ _, [], h => by simp [chkTs] at h
  | .cons t ts, e :: es, h => by
    simp only [chkTs, Bool.and_eq_true] at h
    refine pgs_imp (pgs_cons (g_tg hcm h.1) (g_tgs hcm h.2) (by rw [chkT_plain h.1]; rfl)) fun vs σ H Q ⟨ρ, φ, c, hh, ds, c', hS, hH, r, ea, k⟩ => ?_
    cases ds with
    | nil => simp [asgTs] at ea
    | cons d ds =>
      simp only [RDs] at r
      obtain ⟨v, vs', rfl, r1, r2⟩ := r
      simp only [asgTs] at ea
      cases q : asgT t d c with
      | none => simp [q] at ea
      | some c1 =>
        simp only [q] at ea
        exact ⟨v, vs', rfl, ρ, φ, c, hh, d, c1, hS, hH, r1, q, fun σ1 hS1 s1 => ⟨ρ, φ, c1, hh, ds, c', hS1, hH, r2, ea, fun σ2 hS2 s2 => k σ2 hS2 (s1.trans s2)⟩⟩
end
end
end Cl

namespace Cl
open PySem PySem.Spec PyProof.Rows L2
section
variable {R : RC} {ρ φ : List Addr} {H : Hp} {h : Hc} {c : CSt} {σ : L2.St}
/-! ### writing at what is held back -/
theorem Mv.held {p : Addr} {o : HO} (hp : p ∈ φ) (ok : D → Bool) : Mv R ρ φ H ρ φ (upd H p o) ok :=
  ⟨fun a xs ⟨r, k, m⟩ => ⟨by rw [upd_ne (show a ≠ p from fun z => m (by rw [z]; exact hp))]; exact r, k, m⟩, fun a xs ⟨r, k, m⟩ => ⟨by rw [upd_ne (show a ≠ p from fun z => m (by rw [z]; exact hp))]; exact r, k, m⟩, fun _ _ _ q => q⟩
theorem RelH.held (r : RelH R ρ φ H h) {p : Addr} {o : HO} (hp : p ∈ φ) : RelH R ρ φ (upd H p o) h := by
  have pn := (r.phi p hp).2
  refine ⟨r.len, r.nd, fun i a c ea ec => ?_, fun a ha => ⟨?_, (r.phi a ha).2⟩, fun q hq => ⟨(r.gt q hq).1, RD.mv (Mv.held hp _) (r.gt q hq).2.low (r.gt q hq).2⟩⟩
  · have ne : a ≠ p := fun z => pn (z ▸ List.mem_of_getElem? ea)
    have rc := r.cells i a c ea ec
    exact rc.mv (Mv.held hp _) rc.low (upd_ne ne)
  · by_cases z : a = p
    · subst z; exact ⟨o, upd_same⟩
    · obtain ⟨u, e⟩ := (r.phi a ha).1
      exact ⟨u, by rw [upd_ne z]; exact e⟩
theorem Ext.writeNew {p : Addr} {o : HO} {ρ0 : List Addr} {H0 : Hp} (e : Ext ρ0 ρ H0 H) (hp : H0 p = Option.none) : Ext ρ0 ρ H0 (upd H p o) :=
  ⟨e.pre, e.new, fun a u q m => by rw [upd_ne (ne_of_none q hp)]; exact e.keep a u q m, fun a u q => by
    obtain ⟨u', q'⟩ := e.there a u q
    exact ⟨u', by rw [upd_ne (ne_of_none q hp)]; exact q'⟩⟩
theorem RelS.later {ρ' φ' : List Addr} {H' : Hp} (r : RelS R ρ φ H c σ) (l : Later ρ φ H ρ' φ' H') : RelS R ρ' φ' H' c σ :=
  ⟨r.len, fun i d q => by obtain ⟨v, h1, h2⟩ := r.at_ i d q; exact ⟨v, h1, h2.later l⟩⟩
theorem RelS.wipe (r : RelS R ρ φ H c σ) : ∀ vs : List Nat, RelS R ρ φ H (cwipe c vs) (wipe σ vs)
  | [] => r
  | v :: vs => by
    have ih := RelS.wipe r vs
    refine ⟨by simp [cwipe, L2.wipe, ih.len], fun i d q => ?_⟩
    by_cases hi : i = v
    · subst hi
      simp only [cwipe] at q
      have hlt := get_lt q
      simp at hlt
      rw [List.getElem?_set_self hlt] at q
      cases q
    · simp only [cwipe] at q
      rw [List.getElem?_set_ne (Ne.symm hi)] at q
      obtain ⟨w, w1, w2⟩ := ih.at_ i d q
      refine ⟨w, ?_, w2⟩
      simp only [L2.wipe]
      rw [List.getElem?_set_ne (Ne.symm hi)]
      exact w1
end
theorem wipe_in {σ : L2.St} {i : Nat} : ∀ {vs : List Nat}, i ∈ vs → i < σ.length → (wipe σ vs)[i]? = some none
  | [], h, _ => by simp at h
  | v :: vs, h, hl => by
    unfold wipe
    by_cases hi : v = i
    · subst hi
      exact List.getElem?_set_self (by rw [wipe_length]; exact hl)
    · rw [List.getElem?_set_ne hi]
      exact wipe_in ((List.mem_cons.mp h).resolve_left fun z => hi z.symm) hl
theorem wipe_same {σ σ' : L2.St} {vs is : List Nat} (hi : ∀ i ∈ is, i ∈ vs) (s : Same is (wipe σ vs) σ') : wipe σ' vs = wipe σ vs := by
  have hl : σ'.length = σ.length := by rw [s.1, wipe_length]
  refine List.ext_getElem? fun j => ?_
  by_cases hj : j ∈ vs
  · by_cases hlt : j < σ.length
    · rw [wipe_in hj hlt, wipe_in hj (by rw [hl]; exact hlt)]
    · rw [List.getElem?_eq_none (by rw [wipe_length, hl]; omega), List.getElem?_eq_none (by rw [wipe_length]; omega)]
  · have e1 : (wipe σ' vs)[j]? = σ'[j]? := wipe_out hj
    rw [e1, s.2 j fun z => hj (hi j z)]
mutual
theorem tgIn_ix {vs : List Nat} : ∀ {t : Tg}, tgIn vs t = true → ∀ i ∈ tgIx t, i ∈ vs
  | .v i, h, j, hj => by
    simp only [tgIn, decide_eq_true_eq] at h
    simp only [tgIx, List.mem_singleton] at hj
    subst hj; exact h
  | .t ts, h, j, hj => tgsIn_ix (by simpa only [tgIn] using h) j (by simpa only [tgIx] using hj)
theorem tgsIn_ix {vs : List Nat} : ∀ {ts : Tgs}, tgsIn vs ts = true → ∀ i ∈ tgsIx ts, i ∈ vs
  | .nil, _, j, hj => by simp [tgsIx] at hj
  | .cons t ts, h, j, hj => by
    simp only [tgsIn, Bool.and_eq_true] at h
    simp only [tgsIx, List.mem_append] at hj
    exact hj.elim (tgIn_ix h.1 j) (tgsIn_ix h.2 j)
end
abbrev W0 : WX := fun _ _ _ _ => False
section
variable {S : Sg} {R : RC} {C : Caller} {Y : XC} {n : Nat} {N : List Str} {cm : Bool} {sc : Scope} {X : Cx} {W : WX}
theorem pts_imp {ifs : List Expr} {t u : TT} (h : PTs X ifs t) (k : ∀ σ H Q, u σ H Q → t σ H Q) : PTs X ifs u := ⟨fun pins s σ H Q I q => h.run pins s σ H Q I (k σ H Q q)⟩
theorem ts_nil {f : EvF} : PTs X [] (tT R Y W (condR true f)) := pts_imp pts_nil fun σ H Q ⟨ρ, φ, c, h, hS, hH, k⟩ => k ρ true H Ext.refl hH rfl
theorem ts_one {f : EvF} {e : Expr} (h : PT X e (tT R Y W f)) : PTs X [e] (tT R Y W (condR false f)) := pts_imp (pts_one h) fun σ H Q q => q
theorem lc_read {fi : CSt → Hc → ERes Itd} {fe fc : EvF} {t : Tg} {own : List Nat} (ho : tgIn own t = true) {σ : L2.St} {H : Hp} {Q : VK}
    (q : tL R Y W (fun c h => (fi c h).bind fun d h => if d.xs.length ≤ line then lmap [] (compF fe fc t d.g (cwipe c own) d.xs h) else .stuck) σ H Q) : tLc (tI R Y W fi) (tG R t) (tT R Y W0 fc) (tE R Y W0 fe) own σ H Q := by
  obtain ⟨ρ, φ, c, h, hS, hH, f, _⟩ := q
  refine ⟨ρ, φ, c, h, hS, hH, f.bind fun d h1 ρ1 J H1 _ e1 hH1 jk f1 => ?_⟩
  by_cases hz : d.xs.length ≤ line
  · rw [if_pos hz] at f1
    intro Da hD
    have hS1 := hS.ext e1
    refine ⟨fun i m H2 => ∃ ρ2 h2 ws ys, m = d.xs.length - i ∧ i ≤ d.xs.length ∧ ws.length ≤ i ∧ Ext ρ1 ρ2 H1 H2 ∧ RelH R ρ2 (Da :: φ) H2 h2 ∧ H2 Da = some (.lst ws) ∧ RDs R ρ2 (Da :: φ) H2 ys ws ∧
      FinL R Y W σ ρ1 φ H1 (lmap ys (compF fe fc t d.g (cwipe c own) (d.xs.drop i) h2)) Q, ⟨d.xs.length, ρ1, h1, [], [], rfl, Nat.zero_le _, Nat.le_refl _, Ext.fresh hD, hH1.fresh hD, upd_same, by simp only [RDs], by simpa using f1⟩, ?_⟩
    rintro i m H2 ⟨ρ2, h2, ws, ys, rfl, hi, hw, e2, hH2, eD, rs, k⟩
    have la : Later ρ1 φ H1 ρ2 (Da :: φ) H2 := ⟨e2, fun a ha => (List.mem_cons.mp ha).elim (fun z => .inr (z ▸ hD)) .inl⟩
    have hg : gOk d.g h2 = true := by
      cases hd : d.xs.drop i with
      | nil =>
        rw [hd] at k
        unfold compF at k
        split at k
        · assumption
        · exact k.elim
      | cons x xs =>
        rw [hd] at k
        unfold compF at k
        split at k
        · assumption
        · exact k.elim
    by_cases hlt : i < d.xs.length
    · right
      rw [List.drop_eq_getElem_cons hlt] at k
      unfold compF at k
      rw [if_pos hg] at k
      obtain ⟨go, yl⟩ := jk.go i ρ2 (Da :: φ) H2 h2 la hH2 hg _ (List.getElem?_eq_getElem hlt)
      refine ⟨go, _, fun H' p' => ⟨d.xs.length - (i + 1), by omega, p'⟩, fun x H3 y => ?_⟩
      obtain ⟨e3, l3, hH3, rx⟩ := yl x H3 y
      cases ea : asgT t d.xs[i] (cwipe c own) with
      | none => simp only [ea] at k; exact k.elim
      | some c1 =>
        simp only [ea] at k
        have eD3 : H3 Da = some (.lst ws) := e3.keep Da _ eD (hH2.phi Da (by simp)).2
        have e13 := e2.trans e3
        have rs3 := rs.ext e3
        refine ⟨ρ2, Da :: φ, cwipe c own, h2, _, c1, (hS1.later (la.trans l3)).wipe own, hH3, rx, ea, fun σ2 hS2 sm => ⟨wipe_same (tgIn_ix ho) sm, ρ2, Da :: φ, c1, h2, hS2, hH3, ?_⟩⟩
        cases eb : boolR (fc c1 h2) with
        | stuck => simp only [eb] at k; exact k.elim
        | exc x h' => simp only [eb] at k; exact k.elim
        | ok b h3 =>
          simp only [eb] at k
          intro ρ4 b' H4 e4 hH4 hb
          subst hb
          have eD4 : H4 Da = some (.lst ws) := e4.keep Da _ eD3 (hH3.phi Da (by simp)).2
          cases b with
          | false =>
            rw [if_neg Bool.false_ne_true]
            exact ⟨ρ4, h3, ws, ys, rfl, hlt, by omega, e13.trans e4, hH4, eD4, rs3.ext e4, k⟩
          | true =>
            rw [if_pos rfl]
            refine ⟨ρ4, Da :: φ, c1, h3, hS2.ext e4, hH4, ?_⟩
            cases ev : fe c1 h3 with
            | stuck => simp only [ev] at k; exact k.elim
            | exc x h' => simp only [ev] at k; exact k.elim
            | ok z h4 =>
              simp only [ev] at k
              intro ρ5 v H5 e5 hH5 rv
              have eD5 : H5 Da = some (.lst ws) := e5.keep Da _ eD4 (hH4.phi Da (by simp)).2
              have inn : Da ∈ (Da :: φ) := by simp
              have rs5 := ((rs3.ext e4).ext e5).append (RDs.one rv)
              refine ⟨ws, eD5, by rw [← line_eq]; omega, ρ5, h4, ws ++ [v], ys ++ [z], rfl, hlt, by rw [List.length_append, List.length_singleton]; omega, ((e13.trans e4).trans e5).writeNew hD, hH5.held inn, upd_same, RDs.mv (Mv.held inn _) rs5.low rs5, ?_⟩
              cases er : compF fe fc t d.g (cwipe c own) (d.xs.drop (i + 1)) h4 with
              | ok zs h5 =>
                rw [er] at k
                show FinL R Y W σ ρ1 φ H1 (.ok (.lst (ys ++ [z] ++ zs)) h5) Q
                rw [List.append_assoc]
                exact k
              | exc x h' => rw [er] at k; exact k.elim
              | stuck => rw [er] at k; exact k.elim
    · left
      have hie : i = d.xs.length := by omega
      subst hie
      refine ⟨jk.stop ρ2 (Da :: φ) H2 h2 la hH2 hg, ?_⟩
      rw [List.drop_length] at k
      unfold compF at k
      rw [if_pos hg] at k
      have k' : FinL R Y W σ ρ1 φ H1 (.ok (.lst (ys ++ [])) h2) Q := k
      rw [List.append_nil] at k'
      exact k' ρ2 Da ws H2 e2 hH2 hD (hH1.free hD) eD rs
  · rw [if_neg hz] at f1
    exact f1.elim
theorem Gd.blk (G : Gd S R C Y n N cm sc X W) {scope : Scope} (s : Shared) (H : Hp) (Ca : Addr) (cl : List (Str × Addr)) (fp : List Addr) : Gd S R C Y n N cm scope (X.blk s H scope (compEnvC scope cl Ca X.env) fp) W0 :=
  ⟨G.hK, G.hN, G.nd, Sees.comp, fun x hx => by show (scope.names.lookup x == some .cell) = true; rw [hx]; rfl, G.calm, takes0, G.hu, G.glob, G.blt, G.room, G.calls⟩
theorem l_comp (G : Gd S R C Y n N cm sc X W) {elt cond : CE} {t : Tg} {it : CI} {own : List (Str × Nat)} {ee tg iter : Expr} {ifs : List Expr} {scope : Scope} {pos : Pos} (hcm : cm = true) (hi : PI X tg iter (tI R Y W (evI C it))) (hb : blkC N sc scope own = true) (ho : tgIn (own.map (·.2)) t = true) (hns : notSet iter = true)
    (hg : chkT N scope t tg = true)
    (ht : ∀ (s : Shared) (H : Hp) (Ca : Addr) (cl : List (Str × Addr)) (fp : List Addr), PTs (X.blk s H scope (compEnvC scope cl Ca X.env) fp) ifs (tT R Y W0 (condR cond.isAbs (evE C cond))))
    (he : ∀ (s : Shared) (H : Hp) (Ca : Addr) (cl : List (Str × Addr)) (fp : List Addr), PE (X.blk s H scope (compEnvC scope cl Ca X.env) fp) ee (tE R Y W0 (evE C elt))) :
    PE X (.ListComp ee [⟨tg, iter, ifs, 0⟩] scope pos) (tL R Y W (evE C (.comp elt t it cond (own.map (·.2))))) := by
  have b0 := blkOk_by hb
  have ok : BlkOk X.N X.env.scope scope own := ⟨b0.kind, b0.uniq, by rw [G.hN]; exact b0.ix, fun y hy e => by
    rcases b0.free y hy e with q | q
    · exact .inl (G.sees.cell _ q)
    · exact G.sees.free _ q, by rw [G.hN]; exact b0.own⟩
  refine pe_imp (pe_lc (G.calm hcm) (by rw [G.hN]; exact G.nd) hi ok (fun s H Ca cl fp => g_tg (G.blk s H Ca cl fp) (G.calm hcm) hg) ht he (notset_fold hns)) fun σ H Q q => lc_read ho ?_
  have : (fun c h => (evI C it c h).bind fun d h => if d.xs.length ≤ line then lmap [] (compF (evE C elt) (condR cond.isAbs (evE C cond)) t d.g (cwipe c (own.map (·.2))) d.xs h) else .stuck) = evE C (.comp elt t it cond (own.map (·.2))) := by
    funext c h
    simp only [evE]
  rw [this]
  exact q
end
end Cl

namespace Cl
open PySem PySem.Spec PyProof.Rows L2
/-! ### all expressions -/
def plainT : Expr → Bool
  | .UnaryOp .Not _ _ => false
  | .BoolOp _ _ _ => false
  | .IfExp _ _ _ _ => false
  | .Compare _ _ _ _ => false
  | _ => true
theorem plainT_of {e : Expr} (h : plainT e = true) (env : PySem.Env) (whole : Sem Value) : isTrue e env whole = (do let v ← whole; standAt e.pos; holding [v] (truthy v)) := by
  cases e with
  | UnaryOp op x p => cases op <;> first | rfl | exact Bool.noConfusion (show false = true from h)
  | _ => first | rfl | exact Bool.noConfusion (show false = true from h)
def isTst : CE → Bool
  | .not_ _ => true
  | .cmp _ _ _ => true
  | .chain _ _ _ _ _ => true
  | .and_ _ _ => true
  | .or_ _ _ => true
  | .ite _ _ _ => true
  | .cell _ => true
  | _ => false
section
variable {S : Sg} {R : RC} {C : Caller} {Y : XC} {n : Nat}
theorem chk_plain {N : List Str} {sc : Scope} {cm : Bool} : ∀ {c : CE} {e : Expr}, isTst c = false → chkE S N sc cm c e = true → plainT e = true := by
  intro c e hc h
  cases c with
  | bi b args => cases b <;> cases e <;> first | rfl | exact Bool.noConfusion (show false = true from h)
  | neg a =>
    cases e with
    | UnaryOp op x p => cases op <;> first | rfl | exact Bool.noConfusion (show false = true from h)
    | _ => first | rfl | exact Bool.noConfusion (show false = true from h)
  | _ => first
    | exact Bool.noConfusion (show true = false from hc)
    | (cases e <;> first | rfl | exact Bool.noConfusion (show false = true from h))
theorem chk_plainL {N : List Str} {sc : Scope} {cm : Bool} : ∀ {c : CE} {e : Expr}, freshC c = true → chkE S N sc cm c e = true → plainT e = true := by
  intro c e hc h
  refine chk_plain ?_ h
  cases c <;> first | rfl | exact Bool.noConfusion (show false = true from hc)
theorem chk_bool {N : List Str} {sc : Scope} {cm : Bool} {c : CE} {op : BoolOp} {es : List Expr} {p : Pos} (h : chkE S N sc cm c (.BoolOp op es p) = true) : (∃ a b, c = .and_ a b ∧ op = .And) ∨ (∃ a b, c = .or_ a b ∧ op = .Or) := by
  cases c with
  | and_ a b => cases op with
    | And => exact .inl ⟨a, b, rfl, rfl⟩
    | Or => exact Bool.noConfusion (show false = true from h)
  | or_ a b => cases op with
    | Or => exact .inr ⟨a, b, rfl, rfl⟩
    | And => exact Bool.noConfusion (show false = true from h)
  | bi b args => cases b <;> exact Bool.noConfusion (show false = true from h)
  | cell c =>
    exfalso
    have h' : (freshC c && chkE S N sc cm c (.BoolOp op es p)) = true := h
    rw [Bool.and_eq_true] at h'
    exact Bool.noConfusion (show false = true from chk_plainL h'.1 h'.2)
  | _ => exact Bool.noConfusion (show false = true from h)
structure Snd (S : Sg) (R : RC) (C : Caller) (Y : XC) (n : Nat) (c : CE) : Prop where
  e : ∀ {N cm sc X W e}, Gd S R C Y n N cm sc X W → chkE S N sc cm c e = true → PE X e (tE R Y W (evE C c))
  l : ∀ {N cm sc X W e}, Gd S R C Y n N cm sc X W → chkE S N sc cm c e = true → freshC c = true → PE X e (tL R Y W (evE C c))
  t : ∀ {N cm sc X W e}, Gd S R C Y n N cm sc X W → chkE S N sc cm c e = true → PT X e (tT R Y W (evE C c))
  w : ∀ {N cm sc X W op es p}, Gd S R C Y n N cm sc X W → chkE S N sc cm c (.BoolOp op es p) = true → PW X (.BoolOp op es p) (tT R Y W (evE C c))
theorem noW {c : CE} (hc : isTst c = false) {N : List Str} {sc : Scope} {cm : Bool} {op : BoolOp} {es : List Expr} {p : Pos} (h : chkE S N sc cm c (.BoolOp op es p) = true) : False :=
  Bool.noConfusion (show false = true from chk_plain hc h)
theorem Snd.val {c : CE} (hf : freshC c = false) (ht : isTst c = false) (he : ∀ {N cm sc X W e}, Gd S R C Y n N cm sc X W → chkE S N sc cm c e = true → PE X e (tE R Y W (evE C c))) : Snd S R C Y n c :=
  ⟨he, fun _ _ h => Bool.noConfusion (hf.symm.trans h), fun G h => t_val (he G h) (plainT_of (chk_plain ht h) _), fun G h => (noW ht h).elim⟩
theorem Snd.new {c : CE} (ht : isTst c = false) (he : ∀ {N cm sc X W e}, Gd S R C Y n N cm sc X W → chkE S N sc cm c e = true → PE X e (tE R Y W (evE C c)))
    (hl : ∀ {N cm sc X W e}, Gd S R C Y n N cm sc X W → chkE S N sc cm c e = true → freshC c = true → PE X e (tL R Y W (evE C c))) : Snd S R C Y n c :=
  ⟨he, hl, fun G h => t_val (he G h) (plainT_of (chk_plain ht h) _), fun G h => (noW ht h).elim⟩
/-- arguments -/
structure SndA (S : Sg) (R : RC) (C : Caller) (Y : XC) (n : Nat) (cs : CEs) : Prop where
  a : ∀ {N cm sc X W es}, Gd S R C Y n N cm sc X W → chkEs S N sc cm cs es = true → PA X es (tA R Y W (evEs C cs))
  z : ∀ {σ h ds h'}, evEs C cs σ h = .ok ds h' → ∀ {N : List Str} {cm : Bool} {sc : Scope} {es : List Expr}, chkEs S N sc cm cs es = true → ds.length = es.length
structure SndI (S : Sg) (R : RC) (C : Caller) (Y : XC) (n : Nat) (it : CI) : Prop where
  i : ∀ {N cm sc X W tg e}, Gd S R C Y n N cm sc X W → chkI S N sc cm it tg e = true → PI X tg e (tI R Y W (evI C it))
theorem chk_len {N : List Str} {cm : Bool} {sc : Scope} : ∀ {cs : CEs} {es : List Expr}, chkEs S N sc cm cs es = true → ∀ {σ h ds h'}, evEs C cs σ h = .ok ds h' → ds.length = es.length
  | .nil, [], _, σ, h, ds, h', e => by simp only [evEs, ERes.ok.injEq] at e; rw [← e.1]; rfl
  | .nil, _ :: _, q, _, _, _, _, _ => by simp [chkEs] at q
  | .cons _ _, [], q, _, _, _, _, _ => by simp [chkEs] at q
  | .cons c cs, x :: es, q, σ, h, ds, h', e => by
    simp only [chkEs, Bool.and_eq_true] at q
    simp only [evEs] at e
    cases e1 : evE C c σ h with
    | stuck => rw [e1] at e; cases e
    | exc y k => rw [e1] at e; cases e
    | ok d h1 =>
      rw [e1] at e
      cases e2 : evEs C cs σ h1 with
      | stuck => simp only [ERes.bind, e2] at e; cases e
      | exc y k => simp only [ERes.bind, e2] at e; cases e
      | ok ds2 h2 =>
        simp only [ERes.bind, e2, ERes.ok.injEq] at e
        rw [← e.1, List.length_cons, List.length_cons, chk_len q.2 e2]
/-! the constructors -/
theorem snd_var {i : Nat} : Snd S R C Y n (.var i) := .val rfl rfl fun {N cm sc X W e} G h => by
  cases e with
  | Name x p => exact c_var G h
  | _ => exact Bool.noConfusion (show false = true from h)
theorem snd_cst {d : D} : Snd S R C Y n (.cst d) := .val rfl rfl fun {N cm sc X W e} G h => by
  cases e with
  | Constant c k p => exact c_cst h
  | _ => exact Bool.noConfusion (show false = true from h)
theorem snd_glob {x : Str} {d : D} : Snd S R C Y n (.glob x d) := .val rfl rfl fun {N cm sc X W e} G h => by
  cases e with
  | Name y p =>
    simp only [chkE, Bool.and_eq_true, decide_eq_true_eq] at h
    exact c_glob G h.1.2 h.2
  | _ => exact Bool.noConfusion (show false = true from h)
theorem snd_bin {op : Operator} {a b : CE} (ha : Snd S R C Y n a) (hb : Snd S R C Y n b) : Snd S R C Y n (.bin op a b) := .new rfl (fun {N cm sc X W e} G h => by
  cases e with
  | BinOp l o r p =>
    simp only [chkE, Bool.and_eq_true, decide_eq_true_eq] at h
    obtain ⟨⟨rfl, h1⟩, h2⟩ := h
    exact c_bin G (ha.e G h1) (hb.e G h2)
  | _ => exact Bool.noConfusion (show false = true from h)) fun {N cm sc X W e} G h hf => by
  cases e with
  | BinOp l o r p =>
    simp only [chkE, Bool.and_eq_true, decide_eq_true_eq] at h
    obtain ⟨⟨rfl, h1⟩, h2⟩ := h
    refine l_bin ?_ (ha.e G h1) (hb.e G h2)
    cases op <;> first | exact .inl rfl | exact .inr rfl | exact Bool.noConfusion (show false = true from hf)
  | _ => exact Bool.noConfusion (show false = true from h)
theorem snd_neg {a : CE} (ha : Snd S R C Y n a) : Snd S R C Y n (.neg a) := .val rfl rfl fun {N cm sc X W e} G h => by
  cases e with
  | UnaryOp op x p => cases op with
    | USub => exact c_neg (ha.e G h)
    | _ => exact Bool.noConfusion (show false = true from h)
  | _ => exact Bool.noConfusion (show false = true from h)
theorem snd_not {a : CE} (ha : Snd S R C Y n a) : Snd S R C Y n (.not_ a) := ⟨fun {N cm sc X W e} G h => by
  cases e with
  | UnaryOp op x p => cases op with
    | Not => exact c_not (ha.e G h)
    | _ => exact Bool.noConfusion (show false = true from h)
  | _ => exact Bool.noConfusion (show false = true from h), fun _ _ h => Bool.noConfusion (show false = true from h), fun {N cm sc X W e} G h => by
  cases e with
  | UnaryOp op x p => cases op with
    | Not => exact t_not (ha.t G h)
    | _ => exact Bool.noConfusion (show false = true from h)
  | _ => exact Bool.noConfusion (show false = true from h), fun _ h => Bool.noConfusion (show false = true from h)⟩
theorem snd_cmp {op : CmpOp} {a b : CE} (ha : Snd S R C Y n a) (hb : Snd S R C Y n b) : Snd S R C Y n (.cmp op a b) := by
  have key : ∀ {N : List Str} {cm : Bool} {sc : Scope} {e : Expr}, chkE S N sc cm (.cmp op a b) e = true → ∃ l r p, e = .Compare l [op] [r] p ∧ notSet r = true ∧ chkE S N sc cm a l = true ∧ chkE S N sc cm b r = true := by
    intro N cm sc e h
    cases e with
    | Compare l ops rs p =>
      rcases ops with _ | ⟨o, _ | ⟨o2, ops⟩⟩
      · exact Bool.noConfusion (show false = true from h)
      · rcases rs with _ | ⟨r, _ | ⟨r2, rs⟩⟩
        · exact Bool.noConfusion (show false = true from h)
        · simp only [chkE, Bool.and_eq_true, decide_eq_true_eq] at h
          obtain ⟨⟨⟨rfl, h1⟩, h2⟩, h3⟩ := h
          exact ⟨l, r, p, rfl, h1, h2, h3⟩
        · exact Bool.noConfusion (show false = true from h)
      · exact Bool.noConfusion (show false = true from h)
    | _ => exact Bool.noConfusion (show false = true from h)
  exact ⟨fun G h => by obtain ⟨l, r, p, rfl, h1, h2, h3⟩ := key h; exact c_cmp G h1 (ha.e G h2) (hb.e G h3), fun _ _ h => Bool.noConfusion (show false = true from h),
    fun G h => by obtain ⟨l, r, p, rfl, h1, h2, h3⟩ := key h; exact t_cmp G h1 (ha.e G h2) (hb.e G h3), fun _ h => Bool.noConfusion (show false = true from h)⟩
theorem snd_chain {op op' : CmpOp} {a b c : CE} (ha : Snd S R C Y n a) (hb : Snd S R C Y n b) (hc : Snd S R C Y n c) : Snd S R C Y n (.chain op op' a b c) := by
  have key : ∀ {N : List Str} {cm : Bool} {sc : Scope} {e : Expr}, chkE S N sc cm (.chain op op' a b c) e = true → ∃ l r q p, e = .Compare l [op, op'] [r, q] p ∧ notSet q = true ∧ chkE S N sc cm a l = true ∧ chkE S N sc cm b r = true ∧ chkE S N sc cm c q = true := by
    intro N cm sc e h
    cases e with
    | Compare l ops rs p =>
      rcases ops with _ | ⟨o, _ | ⟨o2, _ | ⟨o3, ops⟩⟩⟩
      · exact Bool.noConfusion (show false = true from h)
      · exact Bool.noConfusion (show false = true from h)
      · rcases rs with _ | ⟨r, _ | ⟨r2, _ | ⟨r3, rs⟩⟩⟩
        · exact Bool.noConfusion (show false = true from h)
        · exact Bool.noConfusion (show false = true from h)
        · simp only [chkE, Bool.and_eq_true, decide_eq_true_eq] at h
          obtain ⟨⟨⟨⟨⟨rfl, rfl⟩, h1⟩, h2⟩, h3⟩, h4⟩ := h
          exact ⟨l, r, r2, p, rfl, h1, h2, h3, h4⟩
        · exact Bool.noConfusion (show false = true from h)
      · exact Bool.noConfusion (show false = true from h)
    | _ => exact Bool.noConfusion (show false = true from h)
  exact ⟨fun G h => by obtain ⟨l, r, q, p, rfl, h1, h2, h3, h4⟩ := key h; exact c_chain G h1 (ha.e G h2) (hb.e G h3) (hc.e G h4), fun _ _ h => Bool.noConfusion (show false = true from h),
    fun G h => by obtain ⟨l, r, q, p, rfl, h1, h2, h3, h4⟩ := key h; exact t_chain G h1 (ha.e G h2) (hb.e G h3) (hc.e G h4), fun _ h => Bool.noConfusion (show false = true from h)⟩
theorem snd_and {a b : CE} (ha : Snd S R C Y n a) (hb : Snd S R C Y n b) : Snd S R C Y n (.and_ a b) := by
  have key : ∀ {N : List Str} {cm : Bool} {sc : Scope} {e : Expr}, chkE S N sc cm (.and_ a b) e = true → ∃ x y r p, e = .BoolOp .And (x :: y :: r) p ∧ chkE S N sc cm a x = true ∧ ((r = [] ∧ chkE S N sc cm b y = true) ∨ chkE S N sc cm b (.BoolOp .And (y :: r) p) = true) := by
    intro N cm sc e h
    cases e with
    | BoolOp op es p =>
      cases op with
      | And =>
        rcases es with _ | ⟨x, _ | ⟨y, _ | ⟨z, r⟩⟩⟩
        · exact Bool.noConfusion (show false = true from h)
        · exact Bool.noConfusion (show false = true from h)
        · simp only [chkE, Bool.and_eq_true] at h
          exact ⟨x, y, [], p, rfl, h.1, .inl ⟨rfl, h.2⟩⟩
        · simp only [chkE, Bool.and_eq_true] at h
          exact ⟨x, y, z :: r, p, rfl, h.1, .inr h.2⟩
      | Or => exact Bool.noConfusion (show false = true from h)
    | _ => exact Bool.noConfusion (show false = true from h)
  have w : ∀ {N cm sc X W e}, Gd S R C Y n N cm sc X W → chkE S N sc cm (.and_ a b) e = true → PW X e (tT R Y W (evE C (.and_ a b))) := fun G h => by
    obtain ⟨x, y, r, p, rfl, h1, h2⟩ := key h
    rcases h2 with ⟨rfl, h2⟩ | h2
    · exact t_and (ha.t G h1) (pw_and1 (hb.t G h2))
    · exact t_and (ha.t G h1) (hb.w G h2)
  refine ⟨fun G h => ?_, fun _ _ h => Bool.noConfusion (show false = true from h), fun G h => (w G h).pt, fun G h => w G h⟩
  obtain ⟨x, y, r, p, rfl, h1, h2⟩ := key h
  rcases h2 with ⟨rfl, h2⟩ | h2
  · exact c_and (ha.e G h1) (pe_one (hb.e G h2))
  · exact c_and (ha.e G h1) (hb.e G h2)
theorem snd_or {a b : CE} (ha : Snd S R C Y n a) (hb : Snd S R C Y n b) : Snd S R C Y n (.or_ a b) := by
  have key : ∀ {N : List Str} {cm : Bool} {sc : Scope} {e : Expr}, chkE S N sc cm (.or_ a b) e = true → ∃ x y r p, e = .BoolOp .Or (x :: y :: r) p ∧ chkE S N sc cm a x = true ∧ ((r = [] ∧ chkE S N sc cm b y = true) ∨ chkE S N sc cm b (.BoolOp .Or (y :: r) p) = true) := by
    intro N cm sc e h
    cases e with
    | BoolOp op es p =>
      cases op with
      | Or =>
        rcases es with _ | ⟨x, _ | ⟨y, _ | ⟨z, r⟩⟩⟩
        · exact Bool.noConfusion (show false = true from h)
        · exact Bool.noConfusion (show false = true from h)
        · simp only [chkE, Bool.and_eq_true] at h
          exact ⟨x, y, [], p, rfl, h.1, .inl ⟨rfl, h.2⟩⟩
        · simp only [chkE, Bool.and_eq_true] at h
          exact ⟨x, y, z :: r, p, rfl, h.1, .inr h.2⟩
      | And => exact Bool.noConfusion (show false = true from h)
    | _ => exact Bool.noConfusion (show false = true from h)
  have w : ∀ {N cm sc X W e}, Gd S R C Y n N cm sc X W → chkE S N sc cm (.or_ a b) e = true → PW X e (tT R Y W (evE C (.or_ a b))) := fun G h => by
    obtain ⟨x, y, r, p, rfl, h1, h2⟩ := key h
    rcases h2 with ⟨rfl, h2⟩ | h2
    · exact t_or (ha.t G h1) (pw_or1 (hb.t G h2))
    · exact t_or (ha.t G h1) (hb.w G h2)
  refine ⟨fun G h => ?_, fun _ _ h => Bool.noConfusion (show false = true from h), fun G h => (w G h).pt, fun G h => w G h⟩
  obtain ⟨x, y, r, p, rfl, h1, h2⟩ := key h
  rcases h2 with ⟨rfl, h2⟩ | h2
  · exact c_or (ha.e G h1) (pe_one (hb.e G h2))
  · exact c_or (ha.e G h1) (hb.e G h2)
theorem snd_ite {t a b : CE} (ht : Snd S R C Y n t) (ha : Snd S R C Y n a) (hb : Snd S R C Y n b) : Snd S R C Y n (.ite t a b) := ⟨fun {N cm sc X W e} G h => by
  cases e with
  | IfExp x y z p =>
    simp only [chkE, Bool.and_eq_true] at h
    exact c_ite (ht.t G h.1.1) (ha.e G h.1.2) (hb.e G h.2)
  | _ => exact Bool.noConfusion (show false = true from h), fun _ _ h => Bool.noConfusion (show false = true from h), fun {N cm sc X W e} G h => by
  cases e with
  | IfExp x y z p =>
    simp only [chkE, Bool.and_eq_true] at h
    exact t_ite (ht.t G h.1.1) (ha.t G h.1.2) (hb.t G h.2)
  | _ => exact Bool.noConfusion (show false = true from h), fun _ h => Bool.noConfusion (show false = true from h)⟩
theorem snd_call {f : Nat} {args : CEs} (ha : SndA S R C Y n args) : Snd S R C Y n (.call f args) := .val rfl rfl fun {N cm sc X W e} G h => by
  cases e with
  | Call fn es kw p => cases fn with
    | Name x p2 => cases kw with
      | nil =>
        simp only [chkE, Bool.and_eq_true, decide_eq_true_eq] at h
        obtain ⟨⟨⟨h1, h2⟩, h3⟩, h4⟩ := h
        cases es with
        | nil =>
          cases args with
          | nil => exact c_call0 G h1 h2 h3
          | cons _ _ => simp [chkEs] at h4
        | cons y es =>
          have pl := chks_plain h4 p X.env
          cases args with
          | nil => simp [chkEs] at h4
          | cons c cs =>
            have q := h4
            simp only [chkEs, Bool.and_eq_true] at q
            exact c_call G h1 h2 h3 (ha.a G h4) (chk_ns q.1 es X.env) (chks_plain q.2 p X.env)
      | cons _ _ => exact Bool.noConfusion (show false = true from h)
    | _ => exact Bool.noConfusion (show false = true from h)
  | _ => exact Bool.noConfusion (show false = true from h)
end
end Cl

namespace Cl
open PySem PySem.Spec PyProof.Rows L2
section
variable {S : Sg} {R : RC} {C : Caller} {Y : XC} {n : Nat}
theorem snd_bi {b : Bi} {args : CEs} (ha : SndA S R C Y n args) : Snd S R C Y n (.bi b args) := by
  have one : ∀ {N : List Str} {cm : Bool} {sc : Scope} {e : Expr}, b ≠ .lenset → chkE S N sc cm (.bi b args) e = true → ∃ p a es q c cs, e = .Call (.Name (biName b) p) (a :: es) [] q ∧ cm = true ∧ b ≠ .sortedR ∧ isGlB sc (biName b) = true ∧ chkEs S N sc cm args (a :: es) = true ∧ args = .cons c cs := by
    intro N cm sc e hb h
    have go : (∃ x p a es q, e = .Call (.Name x p) (a :: es) [] q ∧ (cm && decide (x = biName b) && decide (b ≠ .sortedR) && isGlB sc x && chkEs S N sc cm args (a :: es)) = true) := by
      cases b <;> first
        | exact absurd rfl hb
        | (unfold chkE at h
           split at h
           · exact ⟨_, _, _, _, _, rfl, h⟩
           · cases h)
    obtain ⟨x, p, a, es, q, rfl, h'⟩ := go
    simp only [Bool.and_eq_true, decide_eq_true_eq] at h'
    obtain ⟨⟨⟨⟨h1, rfl⟩, h3⟩, h4⟩, h5⟩ := h'
    cases args with
    | nil => simp [chkEs] at h5
    | cons c cs => exact ⟨p, a, es, q, c, cs, rfl, h1, h3, h4, h5, rfl⟩
  refine .new rfl (fun {N cm sc X W e} G h => ?_) fun {N cm sc X W e} G h hf => ?_
  · by_cases hb : b = .lenset
    · subst hb
      unfold chkE at h
      split at h
      · simp only [Bool.and_eq_true, decide_eq_true_eq] at h
        obtain ⟨⟨⟨⟨⟨h1, rfl⟩, rfl⟩, h3⟩, h4⟩, h5⟩ := h
        cases args with
        | nil => simp [chkEs] at h5
        | cons c cs =>
          have q := h5
          simp only [chkEs, Bool.and_eq_true] at q
          exact c_lenset G h1 h3 h4 (ha.a G h5) (chk_ns q.1 [] X.env)
      · cases h
    · obtain ⟨p, a, es, q, c, cs, rfl, h1, h3, h4, h5, rfl⟩ := one hb h
      have z := h5
      simp only [chkEs, Bool.and_eq_true] at z
      exact c_bi G h1 h3 hb h4 (ha.a G h5) (chk_ns z.1 es X.env) (chks_plain z.2 q X.env)
  · have hb : b ≠ .lenset := fun z => by subst z; exact Bool.noConfusion (show false = true from hf)
    obtain ⟨p, a, es, q, c, cs, rfl, h1, h3, h4, h5, rfl⟩ := one hb h
    have z := h5
    simp only [chkEs, Bool.and_eq_true] at z
    cases b with
    | list => exact l_list G h4 (ha.a G h5) (chk_ns z.1 es X.env) (chks_plain z.2 q X.env)
    | sorted => exact l_sorted G h4 (ha.a G h5) (chk_ns z.1 es X.env) (chks_plain z.2 q X.env)
    | _ => exact Bool.noConfusion (show false = true from hf)
theorem snd_isin {a : CE} {ts : List Ty} (ha : Snd S R C Y n a) : Snd S R C Y n (.isin a ts) := .val rfl rfl fun {N cm sc X W e} G h => by
  unfold chkE at h
  split at h
  · simp only [Bool.and_eq_true, decide_eq_true_eq] at h
    obtain ⟨⟨⟨⟨⟨h1, rfl⟩, h3⟩, h4⟩, h5⟩, h6⟩ := h
    exact c_isinT G h1 h3 h4 h6 (ha.e G h5) (chk_ns h5 _ X.env)
  · simp only [Bool.and_eq_true, decide_eq_true_eq] at h
    obtain ⟨⟨⟨⟨h1, rfl⟩, h3⟩, h5⟩, h6⟩ := h
    rename_i l t q _
    rcases ts with _ | ⟨t0, _ | ⟨u, ts⟩⟩
    · simp [chkTys] at h6
    · simp only [chkTys, Bool.and_true] at h6
      cases t with
      | Name y p2 =>
        simp only [chkTy, Bool.and_eq_true, decide_eq_true_eq] at h6
        obtain ⟨rfl, h7⟩ := h6
        exact c_isin1 G h1 h3 h7 (ha.e G h5) (chk_ns h5 _ X.env)
      | _ => simp [chkTy] at h6
    · simp [chkTys] at h6
  · cases h
theorem snd_pop {o : CE} (ho : Snd S R C Y n o) : Snd S R C Y n (.pop o) := .val rfl rfl fun {N cm sc X W e} G h => by
  cases e with
  | Call f es kw q => cases f with
    | Attribute l m ap => cases es with
      | nil => cases kw with
        | nil =>
          simp only [chkE, Bool.and_eq_true, decide_eq_true_eq] at h
          obtain ⟨⟨⟨⟨h1, rfl⟩, h3⟩, h4⟩, h5⟩ := h
          exact c_pop G h3 h4 (ho.e G h5)
        | cons _ _ => exact Bool.noConfusion (show false = true from h)
      | cons _ _ => exact Bool.noConfusion (show false = true from h)
    | _ => exact Bool.noConfusion (show false = true from h)
  | _ => exact Bool.noConfusion (show false = true from h)
theorem snd_idx {a i : CE} (ha : Snd S R C Y n a) (hi : Snd S R C Y n i) : Snd S R C Y n (.idx a i) := .val rfl rfl fun {N cm sc X W e} G h => by
  cases e with
  | Subscript l r p =>
    simp only [chkE, Bool.and_eq_true] at h
    refine c_idx G ?_ (ha.e G h.1.2) (hi.e G h.2)
    have := h.1.1
    cases r <;> first | rfl | exact Bool.noConfusion (show false = true from this)
  | _ => exact Bool.noConfusion (show false = true from h)
theorem snd_sl {a lo hi : CE} (ha : Snd S R C Y n a) (hl : Snd S R C Y n lo) (hh : Snd S R C Y n hi) : Snd S R C Y n (.sl a lo hi) := by
  have key : ∀ {N : List Str} {cm : Bool} {sc : Scope} {e : Expr} {X : Cx} {W : WX} , Gd S R C Y n N cm sc X W → chkE S N sc cm (.sl a lo hi) e = true → ∃ l x y p2 p, e = .Subscript l (.Slice x y none p2) p ∧ chkE S N sc cm a l = true ∧ PO X x (tO R Y W lo.isAbs (evE C lo)) ∧ PO X y (tO R Y W hi.isAbs (evE C hi)) := by
    intro N cm sc e X W G h
    have po : ∀ {c : CE} (hc : Snd S R C Y n c) {x : Option Expr}, (match x with | none => c.isAbs | some x => !c.isAbs && chkE S N sc cm c x) = true → PO X x (tO R Y W c.isAbs (evE C c)) := by
      intro c hc x h
      cases x with
      | none =>
        have h : c.isAbs = true := h
        rw [h]; exact po_abs
      | some x =>
        have h : (!c.isAbs && chkE S N sc cm c x) = true := h
        rw [Bool.and_eq_true, Bool.not_eq_true'] at h
        rw [h.1]; exact po_val (hc.e G h.2)
    cases e with
    | Subscript l r p => cases r with
      | Slice x y st p2 => cases st with
        | none =>
          simp only [chkE, Bool.and_eq_true] at h
          exact ⟨l, x, y, p2, p, rfl, h.1.1, po hl h.1.2, po hh h.2⟩
        | some _ => exact Bool.noConfusion (show false = true from h)
      | _ => exact Bool.noConfusion (show false = true from h)
    | _ => exact Bool.noConfusion (show false = true from h)
  refine .new rfl (fun G h => ?_) fun G h _ => ?_
  · obtain ⟨l, x, y, p2, p, rfl, h1, h2, h3⟩ := key G h
    exact c_sl G (ha.e G h1) h2 h3
  · obtain ⟨l, x, y, p2, p, rfl, h1, h2, h3⟩ := key G h
    exact l_sl G (ha.e G h1) h2 h3
theorem snd_rev {a : CE} (ha : Snd S R C Y n a) : Snd S R C Y n (.rev a) := .val rfl rfl fun {N cm sc X W e} G h => by
  unfold chkE at h
  split at h
  · exact c_rev G (ha.e G h)
  · cases h
theorem snd_absent : Snd S R C Y n .absent := .val rfl rfl fun {N cm sc X W e} G h => by
  exact Bool.noConfusion (show false = true from h)
theorem snd_tup {es : CEs} (ha : SndA S R C Y n es) : Snd S R C Y n (.tup es) := .val rfl rfl fun {N cm sc X W e} G h => by
  cases e with
  | Tuple xs k p =>
    simp only [chkE, Bool.and_eq_true, decide_eq_true_eq] at h
    exact c_tup (fun s hh ds h' q => by rw [ha.z q h.2]; exact h.1) (ha.a G h.2)
  | _ => exact Bool.noConfusion (show false = true from h)
theorem snd_lst {es : CEs} (ha : SndA S R C Y n es) : Snd S R C Y n (.lst es) := by
  have key : ∀ {N cm sc X W e}, Gd S R C Y n N cm sc X W → chkE S N sc cm (.lst es) e = true → PE X e (tL R Y W (evE C (.lst es))) := by
    intro N cm sc X W e G h
    cases e with
    | List xs p =>
      simp only [chkE, Bool.and_eq_true, decide_eq_true_eq] at h
      exact l_lst (fun s hh ds h' q => by rw [ha.z q h.2]; exact h.1) (ha.a G h.2)
    | _ => exact Bool.noConfusion (show false = true from h)
  refine .new rfl (fun G h => e_of_l (key G h) fun s hh d h' q => ?_) fun G h _ => key G h
  simp only [evE] at q
  cases z : evEs C es s hh with
  | ok ds h1 => rw [z] at q; simp only [ERes.bind, ERes.ok.injEq] at q; exact ⟨ds, q.1.symm⟩
  | exc _ _ => rw [z] at q; cases q
  | stuck => rw [z] at q; cases q
theorem own_ok {N : List Str} {own : List Nat} {l : List (Str × Nat)} (h : l.map (·.2) = own) {P : List Nat → Prop} (k : P (l.map (·.2))) : P own := by rw [← h]; exact k
theorem snd_comp {elt cond : CE} {t : Tg} {it : CI} {own : List Nat} (he : Snd S R C Y n elt) (hi : SndI S R C Y n it) (hc : Snd S R C Y n cond) : Snd S R C Y n (.comp elt t it cond own) := by
  have key : ∀ {N cm sc X W e}, Gd S R C Y n N cm sc X W → chkE S N sc cm (.comp elt t it cond own) e = true → PE X e (tL R Y W (evE C (.comp elt t it cond own))) := by
    intro N cm sc X W e G h
    unfold chkE at h
    split at h
    · rename_i x tg iter ifs a scope p
      simp only [Bool.and_eq_true, decide_eq_true_eq] at h
      obtain ⟨⟨⟨⟨⟨⟨⟨⟨⟨h1, rfl⟩, h2⟩, h3⟩, h4⟩, h5⟩, h6⟩, h6b⟩, h7⟩, h8⟩ := h
      rw [← h5] at h6b ⊢
      refine l_comp G h1 (hi.i G h3) h4 h6b h2 h6 (fun s H Ca cl fp => ?_) fun s H Ca cl fp => he.e (G.blk s H Ca cl fp) h8
      split at h7
      · rw [h7]; exact ts_nil
      · rw [Bool.and_eq_true, Bool.not_eq_true'] at h7
        rw [h7.1]; exact ts_one (hc.t (G.blk s H Ca cl fp) h7.2)
      · cases h7
    · cases h
  refine .new rfl (fun G h => e_of_l (key G h) fun s hh d h' q => ?_) fun G h _ => key G h
  simp only [evE] at q
  cases z : evI C it s hh with
  | ok ds h1 =>
    rw [z] at q
    simp only [ERes.bind] at q
    split at q
    · cases z2 : compF (evE C elt) (condR cond.isAbs (evE C cond)) t ds.g (cwipe s own) ds.xs h1 with
      | ok ys h2 => rw [z2] at q; simp only [lmap, ERes.ok.injEq] at q; exact ⟨_, q.1.symm⟩
      | exc _ _ => rw [z2] at q; cases q
      | stuck => rw [z2] at q; cases q
    · cases q
  | exc _ _ => rw [z] at q; cases q
  | stuck => rw [z] at q; cases q
theorem rds_rg {R : RC} {ρ φ : List Addr} {H : Hp} : ∀ (n : Nat) (a : Int), RDs R ρ φ H (rngD a 1 n) ((List.range n).map fun i => V.int (a + (i : Nat)))
  | 0, a => by simp [rngD, RDs]
  | n + 1, a => by
    rw [List.range_succ_eq_map, List.map_cons, List.map_map]
    refine RDs.cons (by simp only [RD]; simp) ?_
    have e : ((fun i : Nat => V.int (a + (i : Nat))) ∘ Nat.succ) = fun i : Nat => V.int (a + 1 + (i : Nat)) := by
      funext i
      simp only [Function.comp, Nat.succ_eq_add_one]
      congr 1
      omega
    rw [e]
    exact rds_rg n (a + 1)
theorem bind_bind {α β γ : Type} (x : ERes α) (f : α → Hc → ERes β) (g : β → Hc → ERes γ) : (x.bind f).bind g = x.bind fun a h => (f a h).bind g := by cases x <;> rfl
theorem lrange_lst {it : CI} : ∀ s h d h', evE C (.lrange it) s h = .ok d h' → ∃ xs, d = .lst xs := by
  intro s hh d h' q
  simp only [evE] at q
  cases z : evI C it s hh with
  | ok ds h1 =>
    rw [z] at q
    simp only [ERes.bind] at q
    split at q
    · cases q; exact ⟨_, rfl⟩
    · cases q
  | exc _ _ => rw [z] at q; cases q
  | stuck => rw [z] at q; cases q
theorem l_lrange1 {N : List Str} {cm : Bool} {sc : Scope} {X : Cx} {W : WX} (G : Gd S R C Y n N cm sc X W) {pos p p2 q : Pos} {a : CE} {e : Expr} (hcm : cm = true) (hg : isGlB sc "list" = true) (hg2 : isGlB sc "range" = true) (ha : PE X e (tE R Y W (evE C a))) (hs : starEach [e] X.env = (false, eval e X.env) :: starEach [] X.env) :
    PE X (.Call (.Name "list" p) [.Call (.Name "range" p2) [e] [] q] [] pos) (tL R Y W (evE C (.lrange (.rng1 a)))) := by
  obtain ⟨g1, g2⟩ := G.glb hg
  obtain ⟨g3, g4⟩ := G.glb hg2
  refine pe_imp (pe_listRg (G.calm hcm) g1 (G.bl (by decide +kernel)) (prg_1 g3 (G.bl (by decide +kernel)) ha hs) rfl) fun σ H Q ⟨ρ, φ, s, h, hS, hH, f, _⟩ => ?_
  simp only [evE, evI, bind_bind] at f
  refine ⟨ρ, φ, s, h, hS, hH, f.bind fun x h1 ρ1 v H1 _ e1 hH1 r1 f1 => ?_⟩
  cases x with
  | int j =>
    simp only [RD] at r1
    subst r1
    by_cases hj : smallI j = true
    · simp only [hj, if_true, ERes.bind] at f1
      obtain ⟨j1, j2⟩ := small_of hj
      by_cases hz : (rngD 0 1 j.toNat).length ≤ line
      · rw [if_pos hz] at f1
        rw [rng_len] at hz
        refine ⟨j, rfl, ⟨by omega, by omega, j1, j2, by unfold line at hz; omega⟩, fun p hp => ?_⟩
        refine finL_new (d := .lst (rngD 0 1 j.toNat)) Ext.refl f1 rfl hH1 hp ?_
        unfold rgV
        rw [show (j - 0).toNat = j.toNat from by rw [Int.sub_zero]]
        exact rds_rg _ _
      · rw [if_neg hz] at f1; exact f1.elim
    · simp only [hj] at f1
      exact f1.elim
  | _ => exact f1.elim
theorem l_lrange2 {N : List Str} {cm : Bool} {sc : Scope} {X : Cx} {W : WX} (G : Gd S R C Y n N cm sc X W) {pos p p2 q : Pos} {a b : CE} {e e' : Expr} (hcm : cm = true) (hg : isGlB sc "list" = true) (hg2 : isGlB sc "range" = true) (ha : PE X e (tE R Y W (evE C a))) (hb : PE X e' (tE R Y W (evE C b)))
    (hs : starEach [e, e'] X.env = (false, eval e X.env) :: starEach [e'] X.env) (hs2 : starEach [e'] X.env = (false, eval e' X.env) :: starEach [] X.env) :
    PE X (.Call (.Name "list" p) [.Call (.Name "range" p2) [e, e'] [] q] [] pos) (tL R Y W (evE C (.lrange (.rng2 a b)))) := by
  obtain ⟨g1, g2⟩ := G.glb hg
  obtain ⟨g3, g4⟩ := G.glb hg2
  refine pe_imp (pe_listRg (G.calm hcm) g1 (G.bl (by decide +kernel)) (prg_2 g3 (G.bl (by decide +kernel)) ha hb hs hs2 (by rw [hs2]; rfl)) rfl) fun σ H Q ⟨ρ, φ, s, h, hS, hH, f, _⟩ => ?_
  simp only [evE, evI, bind_bind] at f
  refine ⟨ρ, φ, s, h, hS, hH, f.bind fun x h1 ρ1 v H1 _ e1 hH1 r1 f1 => ?_⟩
  refine ⟨ρ1, φ, s, h1, hS.ext e1, hH1, f1.bind fun y h2 ρ2 u H2 _ e2 hH2 r2 f2 => ?_⟩
  have r1 := r1.ext e2
  cases x with
  | int i =>
    cases y with
    | int j =>
      simp only [RD] at r1 r2
      subst r1 r2
      by_cases hj : (smallI i && smallI j) = true
      · simp only [hj, if_true, ERes.bind] at f2
        rw [Bool.and_eq_true] at hj
        obtain ⟨j1, j2⟩ := small_of hj.1
        obtain ⟨j3, j4⟩ := small_of hj.2
        by_cases hz : (rngD i 1 (j - i).toNat).length ≤ line
        · rw [if_pos hz] at f2
          rw [rng_len] at hz
          refine ⟨i, j, rfl, rfl, ⟨j1, j2, j3, j4, by unfold line at hz; omega⟩, fun p hp => ?_⟩
          refine finL_new (d := .lst (rngD i 1 (j - i).toNat)) Ext.refl f2 rfl hH2 hp ?_
          unfold rgV
          exact rds_rg _ _
        · rw [if_neg hz] at f2; exact f2.elim
      · simp only [hj] at f2
        exact f2.elim
    | _ => exact f2.elim
  | _ => exact f2.elim
theorem snd_lrange {it : CI} (h1 : ∀ a, it = .rng1 a → Snd S R C Y n a) (h2 : ∀ a b, it = .rng2 a b → Snd S R C Y n a ∧ Snd S R C Y n b) : Snd S R C Y n (.lrange it) := by
  have key : ∀ {N cm sc X W e}, Gd S R C Y n N cm sc X W → chkE S N sc cm (.lrange it) e = true → PE X e (tL R Y W (evE C (.lrange it))) := by
    intro N cm sc X W e G h
    unfold chkE at h
    split at h
    · simp only [Bool.and_eq_true, decide_eq_true_eq] at h
      obtain ⟨⟨⟨⟨k1, rfl⟩, k3⟩, k4⟩, k5⟩ := h
      cases it with
      | rng1 a =>
        unfold chkI at k5
        split at k5
        · simp only [Bool.and_eq_true, decide_eq_true_eq] at k5
          obtain ⟨⟨rfl, m2⟩, m3⟩ := k5
          exact l_lrange1 G k1 k3 m2 ((h1 a rfl).e G m3) (chk_ns m3 _ X.env)
        · cases k5
      | rng2 a b =>
        unfold chkI at k5
        split at k5
        · simp only [Bool.and_eq_true, decide_eq_true_eq] at k5
          obtain ⟨⟨⟨rfl, m2⟩, m3⟩, m4⟩ := k5
          exact l_lrange2 G k1 k3 m2 ((h2 a b rfl).1.e G m3) ((h2 a b rfl).2.e G m4) (chk_ns m3 _ X.env) (chk_ns m4 _ X.env)
        · cases k5
      | _ => exact Bool.noConfusion (show false = true from k4)
    · cases h
  exact .new rfl (fun G h => e_of_l (key G h) lrange_lst) fun G h _ => key G h
theorem snd_cell {c : CE} (hc : Snd S R C Y n c) : Snd S R C Y n (.cell c) := by
  have key : ∀ {N cm sc X W e}, Gd S R C Y n N cm sc X W → chkE S N sc cm (.cell c) e = true → PE X e (tE R Y W (evE C (.cell c))) ∧ plainT e = true := by
    intro N cm sc X W e G h
    have h' : (freshC c && chkE S N sc cm c e) = true := by
      cases c with
      | bi b args => cases b <;> exact h
      | _ => exact h
    rw [Bool.and_eq_true] at h'
    exact ⟨c_cell (hc.l G h'.2 h'.1), chk_plainL h'.1 h'.2⟩
  exact ⟨fun G h => (key G h).1, fun _ _ h => Bool.noConfusion (show false = true from h), fun G h => t_val (key G h).1 (plainT_of (key G h).2 _), fun G h => Bool.noConfusion (show false = true from (key G h).2)⟩
theorem snd_dict0 {t : Bool} : Snd S R C Y n (.dict0 t) := .val rfl rfl fun {N cm sc X W e} G h => by
  cases e with
  | Dict ks vs p => cases ks with
    | nil => cases vs with
      | nil => exact c_dict0
      | cons _ _ => exact Bool.noConfusion (show false = true from h)
    | cons _ _ => exact Bool.noConfusion (show false = true from h)
  | _ => exact Bool.noConfusion (show false = true from h)
theorem snd_dget {o k d : CE} (ho : Snd S R C Y n o) (hk : Snd S R C Y n k) (hd : Snd S R C Y n d) : Snd S R C Y n (.dget o k d) := .val rfl rfl fun {N cm sc X W e} G h => by
  unfold chkE at h
  split at h
  · simp only [Bool.and_eq_true, decide_eq_true_eq] at h
    obtain ⟨⟨⟨⟨⟨⟨h1, rfl⟩, h3⟩, h4⟩, h5⟩, h6⟩, h7⟩ := h
    exact c_dget G h3 h4 (chk_ns h6 _ X.env) (chk_ns h7 _ X.env) (ho.e G h5) (hk.e G h6) (hd.e G h7)
  · cases h
theorem snda_nil : SndA S R C Y n .nil := ⟨fun {N cm sc X W es} G h => by
  cases es with
  | nil => exact a_nil
  | cons _ _ => simp [chkEs] at h, fun e _ _ _ _ h => chk_len h e⟩
theorem snda_cons {c : CE} {cs : CEs} (hc : Snd S R C Y n c) (hcs : SndA S R C Y n cs) : SndA S R C Y n (.cons c cs) := ⟨fun {N cm sc X W es} G h => by
  cases es with
  | nil => simp [chkEs] at h
  | cons e es =>
    simp only [chkEs, Bool.and_eq_true] at h
    exact a_cons (hc.e G h.1) (hcs.a G h.2) (chk_ns h.1 es X.env), fun e _ _ _ _ h => chk_len h e⟩
theorem sndi_seq {a : CE} (ha : Snd S R C Y n a) : SndI S R C Y n (.seq a) := ⟨fun {N cm sc X W tg e} G h => i_seq G (ha.e G (by simpa only [chkI] using h))⟩
theorem sndi_r1 {a : CE} (ha : Snd S R C Y n a) : SndI S R C Y n (.rng1 a) := ⟨fun {N cm sc X W tg e} G h => by
  unfold chkI at h
  split at h
  · simp only [Bool.and_eq_true, decide_eq_true_eq] at h
    obtain ⟨⟨rfl, h2⟩, h3⟩ := h
    exact i_rng1 G h2 (ha.e G h3) (chk_ns h3 _ X.env)
  · cases h⟩
theorem sndi_r2 {a b : CE} (ha : Snd S R C Y n a) (hb : Snd S R C Y n b) : SndI S R C Y n (.rng2 a b) := ⟨fun {N cm sc X W tg e} G h => by
  unfold chkI at h
  split at h
  · simp only [Bool.and_eq_true, decide_eq_true_eq] at h
    obtain ⟨⟨⟨rfl, h2⟩, h3⟩, h4⟩ := h
    exact i_rng2 G h2 (ha.e G h3) (hb.e G h4) (chk_ns h3 _ X.env) (chk_ns h4 _ X.env)
  · cases h⟩
theorem sndi_r3 {a b c : CE} (ha : Snd S R C Y n a) (hb : Snd S R C Y n b) (hc : Snd S R C Y n c) : SndI S R C Y n (.rng3 a b c) := ⟨fun {N cm sc X W tg e} G h => by
  unfold chkI at h
  split at h
  · simp only [Bool.and_eq_true, decide_eq_true_eq] at h
    obtain ⟨⟨⟨⟨rfl, h2⟩, h3⟩, h4⟩, h5⟩ := h
    exact i_rng3 G h2 (ha.e G h3) (hb.e G h4) (hc.e G h5) (chk_ns h3 _ X.env) (chk_ns h4 _ X.env) (chk_ns h5 _ X.env)
  · cases h⟩
mutual
theorem snd : ∀ c : CE, Snd S R C Y n c
  | .var _ => snd_var
  | .cst _ => snd_cst
  | .glob _ _ => snd_glob
  | .bin _ a b => snd_bin (snd a) (snd b)
  | .neg a => snd_neg (snd a)
  | .not_ a => snd_not (snd a)
  | .cmp _ a b => snd_cmp (snd a) (snd b)
  | .chain _ _ a b c => snd_chain (snd a) (snd b) (snd c)
  | .and_ a b => snd_and (snd a) (snd b)
  | .or_ a b => snd_or (snd a) (snd b)
  | .ite t a b => snd_ite (snd t) (snd a) (snd b)
  | .call _ args => snd_call (snda args)
  | .bi _ args => snd_bi (snda args)
  | .isin a _ => snd_isin (snd a)
  | .pop o => snd_pop (snd o)
  | .idx a i => snd_idx (snd a) (snd i)
  | .sl a lo hi => snd_sl (snd a) (snd lo) (snd hi)
  | .rev a => snd_rev (snd a)
  | .absent => snd_absent
  | .tup es => snd_tup (snda es)
  | .lst es => snd_lst (snda es)
  | .comp elt _ it cond _ => snd_comp (snd elt) (sndi it) (snd cond)
  | .lrange it => match it with
    | .rng1 a => snd_lrange (fun b e => by cases e; exact snd a) fun b c e => by cases e
    | .rng2 a b => snd_lrange (fun c e => by cases e) fun c d e => by cases e; exact ⟨snd a, snd b⟩
    | .seq _ => snd_lrange (fun b e => by cases e) fun b c e => by cases e
    | .rng3 _ _ _ => snd_lrange (fun b e => by cases e) fun b c e => by cases e
    | .enum _ => snd_lrange (fun b e => by cases e) fun b c e => by cases e
    | .zip _ _ => snd_lrange (fun b e => by cases e) fun b c e => by cases e
  | .cell c => snd_cell (snd c)
  | .dict0 _ => snd_dict0
  | .dget o k d => snd_dget (snd o) (snd k) (snd d)
theorem snda : ∀ cs : CEs, SndA S R C Y n cs
  | .nil => snda_nil
  | .cons c cs => snda_cons (snd c) (snda cs)
theorem sndi : ∀ it : CI, SndI S R C Y n it
  | .seq a => sndi_seq (snd a)
  | .rng1 a => sndi_r1 (snd a)
  | .rng2 a b => sndi_r2 (snd a) (snd b)
  | .rng3 a b c => sndi_r3 (snd a) (snd b) (snd c)
  | .enum _ => ⟨fun {N cm sc X W tg e} G h => Bool.noConfusion (show false = true from h)⟩
  | .zip _ _ => ⟨fun {N cm sc X W tg e} G h => Bool.noConfusion (show false = true from h)⟩
end
end
end Cl

namespace Cl
open PySem PySem.Spec PyProof.Rows L2
/-! ### statements: their readings -/
def FinS (R : RC) (Y : XC) (W : WX) (D : Ends) (ρ φ : List Addr) (H : Hp) (r : SRes) : Prop :=
  match r with
  | .ok (.nx c') h' => ∀ ρ' σ' H', Ext ρ ρ' H H' → RelS R ρ' φ H' c' σ' → RelH R ρ' φ H' h' → D.nx σ' H'
  | .ok (.bk c') h' => ∀ ρ' σ' H', Ext ρ ρ' H H' → RelS R ρ' φ H' c' σ' → RelH R ρ' φ H' h' → D.bk σ' H'
  | .ok (.ct c') h' => ∀ ρ' σ' H', Ext ρ ρ' H H' → RelS R ρ' φ H' c' σ' → RelH R ρ' φ H' h' → D.ct σ' H'
  | .ok (.rt d) h' => ∀ ρ' v H', Ext ρ ρ' H H' → RelH R ρ' φ H' h' → RD R ρ' φ H' d v → D.rt v H'
  | .exc x c' h' => ∀ ρ' cls dd σ' H', Ext ρ ρ' H H' → RelS R ρ' φ H' c' σ' → RelH R ρ' φ H' h' → RX R Y ρ' φ H' x cls dd → W cls dd σ' H'
  | .stuck => False
def tS (R : RC) (Y : XC) (W : WX) (f : CSt → Hc → SRes) : TS := fun D σ H => ∃ ρ φ c h, RelS R ρ φ H c σ ∧ RelH R ρ φ H h ∧ FinS R Y W D ρ φ H (f c h)
section
variable {R : RC} {Y : XC} {W : WX} {D : Ends} {ρ φ : List Addr} {H : Hp}
theorem FinS.ext {ρ' : List Addr} {H' : Hp} {r : SRes} (f : FinS R Y W D ρ φ H r) (e : Ext ρ ρ' H H') : FinS R Y W D ρ' φ H' r := by
  cases r with
  | ok k h => cases k with
    | nx c => exact fun ρ1 σ1 H1 e1 => f ρ1 σ1 H1 (e.trans e1)
    | bk c => exact fun ρ1 σ1 H1 e1 => f ρ1 σ1 H1 (e.trans e1)
    | ct c => exact fun ρ1 σ1 H1 e1 => f ρ1 σ1 H1 (e.trans e1)
    | rt d => exact fun ρ1 v H1 e1 => f ρ1 v H1 (e.trans e1)
  | exc x c h => exact fun ρ1 cls dd σ1 H1 e1 => f ρ1 cls dd σ1 H1 (e.trans e1)
  | stuck => exact f
/-- other ends that take what these take -/
theorem FinS.ends {D' : Ends} {r : SRes} (f : FinS R Y W D ρ φ H r) (h1 : ∀ c σ' ρ' H' h', Ext ρ ρ' H H' → RelS R ρ' φ H' c σ' → RelH R ρ' φ H' h' → r = .ok (.nx c) h' → D.nx σ' H' → D'.nx σ' H') (h2 : ∀ σ' H', D.bk σ' H' → D'.bk σ' H') (h3 : ∀ σ' H', D.ct σ' H' → D'.ct σ' H') (h4 : ∀ v H', D.rt v H' → D'.rt v H') : FinS R Y W D' ρ φ H r := by
  cases r with
  | ok k h => cases k with
    | nx c => exact fun ρ1 σ1 H1 e1 s1 r1 => h1 c σ1 ρ1 H1 h e1 s1 r1 rfl (f ρ1 σ1 H1 e1 s1 r1)
    | bk c => exact fun ρ1 σ1 H1 e1 s1 r1 => h2 _ _ (f ρ1 σ1 H1 e1 s1 r1)
    | ct c => exact fun ρ1 σ1 H1 e1 s1 r1 => h3 _ _ (f ρ1 σ1 H1 e1 s1 r1)
    | rt d => exact fun ρ1 v H1 e1 s1 r1 => h4 _ _ (f ρ1 v H1 e1 s1 r1)
  | exc x c h => exact f
  | stuck => exact f
/-- through an expression -/
theorem FinS.st {α β : Type} {σ : L2.St} {c : CSt} {h : Hc} {rel : List Addr → Hp → α → β → Prop} {r : ERes α} {f : α → Hc → SRes} {Q : β → Hp → Prop} (hS : RelS R ρ φ H c σ)
    (hf : FinS R Y W D ρ φ H (r.st c f)) (k : ∀ a h1 ρ1 b H1, r = .ok a h1 → Ext ρ ρ1 H H1 → RelH R ρ1 φ H1 h1 → RelS R ρ1 φ H1 c σ → rel ρ1 H1 a b → FinS R Y W D ρ1 φ H1 (f a h1) → Q b H1) : Fin R Y W σ ρ φ H rel r Q := by
  cases r with
  | ok a h' => exact fun ρ1 b H1 e1 hH r1 => k a h' ρ1 b H1 rfl e1 hH (hS.ext e1) r1 (FinS.ext (r := f a h') hf e1)
  | exc x h' => exact fun ρ1 cls dd H1 e1 hH rx => hf ρ1 cls dd σ H1 e1 (hS.ext e1) hH rx
  | stuck => exact hf
theorem FinS.stO {α : Type} {o : Option α} {f : α → SRes} (hf : FinS R Y W D ρ φ H (stO o f)) : ∃ a, o = some a ∧ FinS R Y W D ρ φ H (f a) := by
  cases o with
  | none => exact hf.elim
  | some a => exact ⟨a, rfl, hf⟩
theorem RelS.unsets {c : CSt} {σ : L2.St} (r : RelS R ρ φ H c σ) : ∀ is : List Nat, RelS R ρ φ H (cwipe c is) σ
  | [] => r
  | i :: is => (r.unsets is).unset i
end
/-- the ground of statements -/
structure Gs (S : Sg) (R : RC) (P : Env2) (Y : XC) (n : Nat) (N : List Str) (cm : Bool) (sc : Scope) (X : Cx) (W : WX) : Prop where
  g : Gd S R P.C Y n N cm sc X W
  hsc : X.env.scope = sc
  hfn : sc.kind = .function
  po : cm = true → PassesOwn (model X.prog X.w) X.A X.env X.xe
  stk : X.stack = X.env :: X.outer
  frm : X.env.frame = some X.env.locals
  exc : ∀ i x, S.excs[i]? = some x → ∃ Ca B nid iid bmB, ExcBaseFacts B nid iid bmB ∧ PySem.W.excIn X.K Ca bmB nid = true ∧ X.mg x = some (.ref Ca) ∧ PySem.W.keepIn X.K (.ref Ca) = true ∧ (∀ X' : Cx, X'.K = X.K → Raises X' (.ref Ca)) ∧ Y.cls i = .ref Ca
  sub : ∀ i j b, P.sub i j = some b → PySem.W.exmOne X.K (Y.cls i) (Y.cls j) = some b
section
variable {S : Sg} {R : RC} {P : Env2} {Y : XC} {n : Nat} {N : List Str} {cm : Bool} {sc : Scope} {X : Cx} {W : WX} {pos : Pos} {st : Stmt}
theorem ps_imp {t u : TS} (h : PS X st t) (k : ∀ D σ H, u D σ H → t D σ H) : PS X st u := ⟨fun pins s σ H D I q => h.run pins s σ H D I (k D σ H q)⟩
theorem pss_imp {sts : List Stmt} {t u : TS} (h : PSs X sts t) (k : ∀ D σ H, u D σ H → t D σ H) : PSs X sts u := ⟨fun pins s σ H D I q => h.run pins s σ H D I (k D σ H q)⟩
/-! small statements -/
theorem s_ret {c : CE} {e : Expr} (he : PE X e (tE R Y W (evE P.C c))) : PS X (.Return (some e) pos) (tS R Y W (evS P (.ret c))) :=
  ps_imp (ps_ret he) fun D σ H ⟨ρ, φ, s, h, hS, hH, f⟩ => by
    simp only [evS] at f
    exact ⟨ρ, φ, s, h, hS, hH, FinS.st (h := h) hS f fun d h1 ρ1 v H1 _ e1 hH1 hS1 r1 f1 => f1 ρ1 v H1 Ext.refl hH1 r1⟩
theorem s_retN : PS X (.Return none pos) (tS R Y W (evS P .retN)) := ps_imp ps_retN fun D σ H ⟨ρ, φ, s, h, hS, hH, f⟩ => by
  simp only [evS] at f
  exact f ρ _ H Ext.refl hH (by simp only [RD])
theorem s_brk : PS X (.Break pos) (tS R Y W (evS P .brk)) := ps_imp ps_break fun D σ H ⟨ρ, φ, s, h, hS, hH, f⟩ => by
  simp only [evS] at f
  exact f ρ σ H Ext.refl hS hH
theorem s_pass : PS X (.Pass pos) (tS R Y W (evS P .pass)) := ps_imp ps_pass fun D σ H ⟨ρ, φ, s, h, hS, hH, f⟩ => by
  simp only [evS] at f
  exact f ρ σ H Ext.refl hS hH
theorem s_expr {c : CE} {e : Expr} (he : PE X e (tE R Y W (evE P.C c))) (hs : swapsWith e none pos.line X.env = pure false) : PS X (.Expr e pos) (tS R Y W (evS P (.expr c))) :=
  ps_imp (ps_expr he hs) fun D σ H ⟨ρ, φ, s, h, hS, hH, f⟩ => by
    simp only [evS] at f
    exact ⟨ρ, φ, s, h, hS, hH, FinS.st (h := h) hS f fun d h1 ρ1 v H1 _ e1 hH1 hS1 r1 f1 => f1 ρ1 σ H1 Ext.refl hS1 hH1⟩
theorem boolR_st {r : ERes D} {c : CSt} {f : Bool → Hc → SRes} {D : Ends} {ρ φ : List Addr} {H : Hp} {σ : L2.St} {Q : Bool → Hp → Prop} (hS : RelS R ρ φ H c σ) (hf : FinS R Y W D ρ φ H ((boolR r).st c f))
    (k : ∀ a h1 ρ1 H1, Ext ρ ρ1 H H1 → RelH R ρ1 φ H1 h1 → RelS R ρ1 φ H1 c σ → FinS R Y W D ρ1 φ H1 (f a h1) → Q a H1) : Fin R Y W σ ρ φ H rEq (boolR r) Q :=
  FinS.st (h := []) hS hf fun a h1 ρ1 b H1 _ e1 hH1 hS1 r1 f1 => by
    subst r1
    exact k a h1 ρ1 H1 e1 hH1 hS1 f1
theorem s_ifs {t : CE} {a b : CSs} {e : Expr} {xs ys : List Stmt} (ht : PT X e (tT R Y W (evE P.C t))) (ha : PSs X xs (tS R Y W (evSs P a))) (hb : PSs X ys (tS R Y W (evSs P b))) : PS X (.If e xs ys pos) (tS R Y W (evS P (.ifs t a b))) :=
  ps_imp (ps_if ht ha hb) fun D σ H ⟨ρ, φ, s, h, hS, hH, f⟩ => by
    simp only [evS] at f
    refine ⟨ρ, φ, s, h, hS, hH, boolR_st hS f fun c h1 ρ1 H1 e1 hH1 hS1 f1 => ?_⟩
    cases c with
    | true => rw [if_pos rfl]; exact ⟨ρ1, φ, s, h1, hS1, hH1, f1⟩
    | false => rw [if_neg Bool.false_ne_true]; exact ⟨ρ1, φ, s, h1, hS1, hH1, f1⟩
/-! blocks -/
theorem ss_nil : PSs X [] (tS R Y W (evSs P .nil)) := pss_imp pss_nil fun D σ H ⟨ρ, φ, s, h, hS, hH, f⟩ => by
  simp only [evSs] at f
  exact f ρ σ H Ext.refl hS hH
theorem ss_cons {c : CS} {cs : CSs} {sts : List Stmt} (h1 : PS X st (tS R Y W (evS P c))) (h2 : PSs X sts (tS R Y W (evSs P cs))) : PSs X (st :: sts) (tS R Y W (evSs P (.cons c cs))) :=
  pss_imp (pss_cons h1 h2) fun D σ H ⟨ρ, φ, s, h, hS, hH, f⟩ => by
    simp only [evSs] at f
    refine ⟨ρ, φ, s, h, hS, hH, ?_⟩
    cases q : evS P c s h with
    | ok k h' => cases k with
      | nx c' =>
        rw [q] at f
        intro ρ1 σ1 H1 e1 hS1 hH1
        exact ⟨ρ1, φ, c', h', hS1, hH1, FinS.ext f e1⟩
      | bk c' => rw [q] at f; exact f
      | ct c' => rw [q] at f; exact f
      | rt d => rw [q] at f; exact f
    | exc x c' h' => rw [q] at f; exact f
    | stuck => rw [q] at f; exact f
theorem ss_kill {is : List Nat} {cs : CSs} {sts : List Stmt} (h2 : PSs X sts (tS R Y W (evSs P cs))) : PSs X sts (tS R Y W (evSs P (.cons (.kill is) cs))) :=
  pss_imp h2 fun D σ H ⟨ρ, φ, s, h, hS, hH, f⟩ => by
    simp only [evSs, evS] at f
    exact ⟨ρ, φ, cwipe s is, h, hS.unsets is, hH, f⟩
/-- the cells from n on forgotten -/
theorem cut_rel {ρ φ : List Addr} {H H' : Hp} {h h' : Hc} {t : List Addr} (hH : RelH R ρ φ H h) (hH' : RelH R (ρ ++ t) φ H' h') (hc : cutOk h.length h h' = true) : RelH R ρ φ H' (h'.take h.length) := by
  rw [← hH.len]
  refine hH'.cut fun c hm => ?_
  unfold cutOk at hc
  rw [← hH.len] at hc
  obtain ⟨i, hi⟩ := List.mem_iff_getElem?.mp hm
  have hil : i < ρ.length := by
    rcases Nat.lt_or_ge i ρ.length with q | q
    · exact q
    · rw [List.getElem?_take_eq_none q] at hi; cases hi
  obtain ⟨c0, hc0⟩ : ∃ c0, h[i]? = some c0 := ⟨_, List.getElem?_eq_getElem (by rw [← hH.len]; exact hil)⟩
  have hz : (List.zip (h'.take ρ.length) h)[i]? = some (c, c0) := by
    rw [List.getElem?_zip_eq_some]
    exact ⟨hi, hc0⟩
  have := List.all_eq_true.mp hc _ (List.mem_of_getElem? hz)
  simp only [Bool.or_eq_true, decide_eq_true_eq] at this
  rcases this with q | q
  · exact q
  · subst q
    obtain ⟨a, _, rc⟩ := hH.at hc0
    exact rc.low
theorem low_rel {ρ φ : List Addr} {H' : Hp} {c : CSt} {σ : L2.St} {t : List Addr} (hS : RelS R (ρ ++ t) φ H' c σ) (hl : lowSt ρ.length c = true) : RelS R ρ φ H' c σ :=
  ⟨hS.len, fun i d q => by
    obtain ⟨v, h1, h2⟩ := hS.at_ i d q
    refine ⟨v, h1, RD.mv (Mv.cut) ?_ h2⟩
    have := List.all_eq_true.mp hl _ (List.mem_of_getElem? q)
    exact this⟩
theorem ss_scope {cs : CSs} {sts : List Stmt} (h2 : PSs X sts (tS R Y W (evSs P cs))) : PSs X sts (tS R Y W (evSs P (.cons (.scope cs) .nil))) :=
  pss_imp h2 fun D σ H ⟨ρ, φ, s, h, hS, hH, f⟩ => by
    simp only [evSs, evS] at f
    refine ⟨ρ, φ, s, h, hS, hH, ?_⟩
    cases q : evSs P cs s h with
    | ok k h' => cases k with
      | nx c' =>
        rw [q] at f
        unfold scopeR at f
        by_cases z : (lowSt h.length c' && cutOk h.length h h') = true
        · simp only [z, if_true] at f
          rw [Bool.and_eq_true] at z
          intro ρ1 σ1 H1 e1 hS1 hH1
          obtain ⟨t, rfl⟩ := e1.pre
          exact f ρ σ1 H1 e1.cut (low_rel hS1 (by rw [hH.len]; exact z.1)) (cut_rel hH hH1 z.2)
        · simp only [z] at f
          exact f
      | bk c' => rw [q] at f; exact f
      | ct c' => rw [q] at f; exact f
      | rt d => rw [q] at f; exact f
    | exc x c' h' => rw [q] at f; exact f
    | stuck => rw [q] at f; exact f
/-! loops -/
theorem s_whl (hp : PassesOwn (model X.prog X.w) X.A X.env X.xe) {t : CE} {a : CSs} {e : Expr} {xs : List Stmt} (ht : PT X e (tT R Y W (evE P.C t))) (ha : PSs X xs (tS R Y W (evSs P a))) : PS X (.While e xs [] pos) (tS R Y W (evS P (.whl t a))) :=
  ps_imp (ps_while hp ht ha) fun D σ H ⟨ρ, φ, s, h, hS, hH, f⟩ => by
    simp only [evS] at f
    refine ⟨fun m σ1 H1 => ∃ ρ1 c1 h1, RelS R ρ1 φ H1 c1 σ1 ∧ RelH R ρ1 φ H1 h1 ∧ Ext ρ ρ1 H H1 ∧ FinS R Y W D ρ1 φ H1 (whF (evE P.C t) (evSs P a) m c1 h1), ⟨wFuel, ρ, s, h, hS, hH, Ext.refl, f⟩, ?_⟩
    rintro m σ1 H1 ⟨ρ1, c1, h1, hS1, hH1, e1, f1⟩
    cases m with
    | zero => exact f1.elim
    | succ m =>
      unfold whF at f1
      refine ⟨ρ1, φ, c1, h1, hS1, hH1, ?_⟩
      cases q : boolR (evE P.C t c1 h1) with
      | stuck => rw [q] at f1; exact f1.elim
      | exc x h' => rw [q] at f1; exact fun ρ2 cls dd H2 e2 hH2 rx => f1 ρ2 cls dd σ1 H2 e2 (hS1.ext e2) hH2 rx
      | ok b h2 =>
        rw [q] at f1
        intro ρ2 b' H2 e2 hH2 eb
        subst eb
        cases b with
        | false =>
          rw [if_neg Bool.false_ne_true]
          exact f1 ρ2 σ1 H2 e2 (hS1.ext e2) hH2
        | true =>
          rw [if_pos rfl]
          refine ⟨_, fun σ' H' w => ⟨m, Nat.lt_succ_self m, w⟩, ρ2, φ, c1, h2, hS1.ext e2, hH2, ?_⟩
          have e12 := e1.trans e2
          cases r : evSs P a c1 h2 with
          | ok k h3 => cases k with
            | nx c2 =>
              simp only [r] at f1
              exact fun ρ3 σ3 H3 e3 hS3 hH3 => ⟨ρ3, c2, h3, hS3, hH3, e12.trans e3, FinS.ext f1 (e2.trans e3)⟩
            | ct c2 =>
              simp only [r] at f1
              exact fun ρ3 σ3 H3 e3 hS3 hH3 => ⟨ρ3, c2, h3, hS3, hH3, e12.trans e3, FinS.ext f1 (e2.trans e3)⟩
            | bk c2 =>
              simp only [r] at f1
              exact fun ρ3 σ3 H3 e3 hS3 hH3 => f1 ρ3 σ3 H3 (e2.trans e3) hS3 hH3
            | rt d =>
              simp only [r] at f1
              exact fun ρ3 σ3 H3 e3 hS3 hH3 => f1 ρ3 σ3 H3 (e2.trans e3) hS3 hH3
          | exc x c2 h3 =>
            simp only [r] at f1
            exact fun ρ3 cls dd σ3 H3 e3 hS3 hH3 rx => f1 ρ3 cls dd σ3 H3 (e2.trans e3) hS3 hH3 rx
          | stuck => simp only [r] at f1; exact f1.elim
theorem s_for (hp : PassesOwn (model X.prog X.w) X.A X.env X.xe) (hc : X.calm = true) {t : Tg} {it : CI} {a : CSs} {tg e : Expr} {xs : List Stmt} (hi : PI X tg e (tI R Y W (evI P.C it))) (hg : PG X tg (tG R t)) (ha : PSs X xs (tS R Y W (evSs P a))) (hn : notSet e = true) :
    PS X (.For tg e xs [] pos) (tS R Y W (evS P (.for_ t it a))) :=
  ps_imp (ps_for hp hc hi hg ha (notset_fold hn)) fun D σ H ⟨ρ, φ, s, h, hS, hH, f⟩ => by
    simp only [evS] at f
    refine ⟨ρ, φ, s, h, hS, hH, FinS.st (h := h) hS f fun d h1 ρ1 J H1 _ e1 hH1 hS1 jk f1 => ?_⟩
    refine ⟨fun i m σ2 H2 => ∃ ρ2 c2 h2, m = d.xs.length - i ∧ i ≤ d.xs.length ∧ RelS R ρ2 φ H2 c2 σ2 ∧ RelH R ρ2 φ H2 h2 ∧ Ext ρ1 ρ2 H1 H2 ∧ FinS R Y W D ρ2 φ H2 (forF (evSs P a) t d.g (d.xs.drop i) c2 h2), ⟨d.xs.length, ρ1, s, h1, rfl, Nat.zero_le _, hS1, hH1, Ext.refl, by rw [List.drop_zero]; exact f1⟩, ?_⟩
    rintro i m σ2 H2 ⟨ρ2, c2, h2, rfl, hi', hS2, hH2, e2, f2⟩
    have la : Later ρ1 φ H1 ρ2 φ H2 := Later.of e2
    have hgd : gOk d.g h2 = true := by
      cases hd : d.xs.drop i with
      | nil =>
        rw [hd] at f2
        unfold forF at f2
        split at f2
        · assumption
        · exact f2.elim
      | cons x xs =>
        rw [hd] at f2
        unfold forF at f2
        split at f2
        · assumption
        · exact f2.elim
    by_cases hlt : i < d.xs.length
    · right
      rw [List.drop_eq_getElem_cons hlt] at f2
      unfold forF at f2
      rw [if_pos hgd] at f2
      obtain ⟨go, yl⟩ := jk.go i ρ2 φ H2 h2 la hH2 hgd _ (List.getElem?_eq_getElem hlt)
      refine ⟨go, _, fun σ' H' p' => ⟨d.xs.length - (i + 1), by omega, p'⟩, fun x H3 y => ?_⟩
      obtain ⟨e3, l3, hH3, rx⟩ := yl x H3 y
      cases ea : asgT t d.xs[i] c2 with
      | none => simp only [ea] at f2; exact f2.elim
      | some c3 =>
        simp only [ea] at f2
        refine ⟨ρ2, φ, c2, h2, _, c3, hS2.later l3, hH3, rx, ea, fun σ3 hS3 _ => ⟨ρ2, φ, c3, h2, hS3, hH3, ?_⟩⟩
        have e23 := e2.trans e3
        cases r : evSs P a c3 h2 with
        | ok k h3 => cases k with
          | nx c4 =>
            simp only [r] at f2
            exact fun ρ4 σ4 H4 e4 hS4 hH4 => ⟨ρ4, c4, h3, rfl, hlt, hS4, hH4, e23.trans e4, FinS.ext f2 (e3.trans e4)⟩
          | ct c4 =>
            simp only [r] at f2
            exact fun ρ4 σ4 H4 e4 hS4 hH4 => ⟨ρ4, c4, h3, rfl, hlt, hS4, hH4, e23.trans e4, FinS.ext f2 (e3.trans e4)⟩
          | bk c4 =>
            simp only [r] at f2
            exact fun ρ4 σ4 H4 e4 hS4 hH4 => f2 ρ4 σ4 H4 (e3.trans e4) hS4 hH4
          | rt d =>
            simp only [r] at f2
            exact fun ρ4 σ4 H4 e4 hS4 hH4 => f2 ρ4 σ4 H4 (e3.trans e4) hS4 hH4
        | exc x c4 h3 =>
          simp only [r] at f2
          exact fun ρ4 cls dd σ4 H4 e4 hS4 hH4 rx => f2 ρ4 cls dd σ4 H4 (e3.trans e4) hS4 hH4 rx
        | stuck => simp only [r] at f2; exact f2.elim
    · left
      have hie : i = d.xs.length := by omega
      subst hie
      refine ⟨jk.stop ρ2 φ H2 h2 la hH2 hgd, ?_⟩
      rw [List.drop_length] at f2
      unfold forF at f2
      rw [if_pos hgd] at f2
      exact f2 ρ2 σ2 H2 Ext.refl hS2 hH2
end
end Cl

namespace Cl
open PySem PySem.Spec PyProof.Rows L2
section
variable {R : RC} {ρ φ : List Addr} {H : Hp} {h : Hc}
theorem KRD.write {κ : Type} {kvs : List (κ × D)} {kws : List (κ × V)} (r : KRD R ρ φ H kvs kws) {a : Addr} {o : HO} (ha : a ∈ ρ) : KRD R ρ φ (upd H a o) kvs kws :=
  ⟨r.1, RDs.mv (k := ρ.length) (Mv.write ha _) r.2.low r.2⟩
theorem RDs.write {ds : List D} {vs : List V} (r : RDs R ρ φ H ds vs) {a : Addr} {o : HO} (ha : a ∈ ρ) : RDs R ρ φ (upd H a o) ds vs := RDs.mv (k := ρ.length) (Mv.write ha _) r.low r
theorem RD.write {d : D} {v : V} (r : RD R ρ φ H d v) {a : Addr} {o : HO} (ha : a ∈ ρ) : RD R ρ φ (upd H a o) d v := RD.mv (k := ρ.length) (Mv.write ha _) r.low r
theorem ixD_ixN {n : Nat} {i : Int} {j : Nat} (e : ixD n i = some j) : ixN n i = some j := e
/-- o[i] = v: what it does -/
def Put (X : Cx) (x y v : V) (H H' : Hp) : Prop := rSetL x y v H (fun H2 => H2 = H') ∨ ∃ a, x = .ref a ∧ DPut H a y v H'
theorem put_rel (rH : RelH R ρ φ H h) {x y v : D} {xv yv vv : V} (rx : RD R ρ φ H x xv) (ry : RD R ρ φ H y yv) (rv : RD R ρ φ H v vv) {h' : Hc} (e : putF h x y v = some h') (X : Cx) : ∃ H', Put X xv yv vv H H' ∧ Ext ρ ρ H H' ∧ RelH R ρ φ H' h' := by
  cases x with
  | ref n =>
    simp only [RD] at rx
    obtain ⟨a, ea, rfl⟩ := rx
    have ha : a ∈ ρ := List.mem_of_getElem? ea
    unfold putF at e
    cases hc : h[n]? with
    | none => simp [hc] at e
    | some c =>
      have rc := rH.cells n a c ea hc
      simp only [hc] at e
      cases c with
      | ro xs => cases e
      | lst xs =>
        obtain ⟨vs, h1, h2⟩ := rc
        cases y with
        | int i =>
          simp only [RD] at ry
          subst ry
          obtain ⟨j, ej, rfl⟩ := Option.map_eq_some_iff.mp e
          rw [h2.len] at ej
          exact ⟨_, .inl ⟨a, vs, i, j, rfl, rfl, h1, ej, rfl⟩, Ext.write ha, rH.write ea ⟨_, upd_same, (RDs.set rv j h2).write ha⟩⟩
        | _ => cases e
      | dK kvs =>
        obtain ⟨kws, h1, h2⟩ := rc
        have hl : kvs.length = kws.length := by have := congrArg List.length h2.1; simpa using this
        have e : (if kvs.length < line then (keyD y).map fun k => h.set n (.dK (putD kvs k v)) else none) = some h' := e
        by_cases hz : kvs.length < line
        · rw [if_pos hz] at e
          obtain ⟨k, ek, rfl⟩ := Option.map_eq_some_iff.mp e
          exact ⟨_, .inr ⟨a, rfl, .inl ⟨kws, k, h1, keyD_rd ek ry, by rw [← hl, ← line_eq]; exact hz, rfl⟩⟩, Ext.write ha, rH.write ea ⟨_, upd_same, (krd_put h2 k rv).write ha⟩⟩
        · rw [if_neg hz] at e; cases e
      | dT kvs =>
        obtain ⟨kws, h1, h2⟩ := rc
        have hl : kvs.length = kws.length := by have := congrArg List.length h2.1; simpa using this
        have e : (if kvs.length < line then (tkeyD y).map fun k => h.set n (.dT (putD kvs k v)) else none) = some h' := e
        by_cases hz : kvs.length < line
        · rw [if_pos hz] at e
          obtain ⟨k, ek, rfl⟩ := Option.map_eq_some_iff.mp e
          cases y with
          | tup ds =>
            have ek : keysD ds = some k := ek
            simp only [RD] at ry
            obtain ⟨b, ws, rfl, g1, g2⟩ := ry
            have eb := keysD_rd ek g2
            subst eb
            exact ⟨_, .inr ⟨a, rfl, .inr ⟨kws, k, b, h1, rfl, g1.1, by rw [← hl, ← line_eq]; exact hz, rfl⟩⟩, Ext.write ha, rH.write ea ⟨_, upd_same, (krd_put h2 k rv).write ha⟩⟩
          | _ => cases ek
        · rw [if_neg hz] at e; cases e
  | _ => cases e
end
section
variable {X : Cx} {R : RC}
theorem set_put (hu : X.A.units + 100 < cLine) : PSet X (fun o i v H Q => ∃ H', Put X o i v H H' ∧ Q H') := by
  intro pins s σ H o i v ov iv u Q I ro ri rv ⟨H', p, q⟩
  rcases p with p | ⟨a, rfl, p⟩
  · refine set_list pins s σ H o i v ov iv u Q I ro ri rv ?_
    obtain ⟨l, xs, k, j, e1, e2, e3, e4, e5⟩ := p
    exact ⟨l, xs, k, j, e1, e2, e3, e4, by rw [e5]; exact q⟩
  · obtain rfl : ov = Value.ref a := ro
    exact d_setItem (by omega) I p ri rv fun s1 I1 => ⟨H', I1, q⟩
def Got (K : PySem.W.Frag) (x y z : V) (H : Hp) : Prop := (∃ p xs i, x = .ref p ∧ y = .int i ∧ SqL K H p xs ∧ atI xs i = some z) ∨ ∃ a, x = .ref a ∧ DGet H a y (some z)
theorem get_got (hu : X.A.units + 100 < cLine) : PGet X (fun o i H Q => ∃ z, Got X.K o i z H ∧ Q z H) := by
  intro pins s σ H o i ov iv Q I ro ri ⟨z, g, q⟩
  rcases g with ⟨p, xs, k, rfl, rfl, hq, he⟩ | ⟨a, rfl, g⟩
  · cases ro
    obtain ⟨t, rfl⟩ := ri
    obtain ⟨its, r, pl, hz⟩ := I.list hq
    obtain ⟨j, h1, h2, h3, h4, h5⟩ := atI_get he
    obtain ⟨w, ew, rw'⟩ := r.get h2
    have hl := r.length
    have hn := line63
    have fin : EP X pins σ Q w s := ⟨z, H, I, rw', q⟩
    by_cases h0 : 0 ≤ k
    · have hj : k.toNat = j := by
        rw [seqIndex_of h0 h5] at h1
        exact Option.some.inj h1
      exact wpAny_getItem_list pl.isList h0 (by omega) (by rw [hj]; simpa using ew) fin
    · have hj : (k + (its.toArray.size : Int)).toNat = j := by
        rw [seqIndex_neg (by omega) h4] at h1
        rw [List.size_toArray, ← hl]
        exact Option.some.inj h1
      exact wpAny_getItem_list_neg pl.isList (by omega) (by rw [List.size_toArray]; omega) (by omega) (by rw [hj]; simpa using ew) fin
  · obtain rfl : ov = Value.ref a := ro
    exact d_getItem (by omega) I g ri fun w' s3 I3 rw' => ⟨z, H, I3, rw', q⟩
def lstIx (xs : List D) : D → Option D
  | .int i => atD xs i
  | _ => none
theorem got_rel {ρ φ : List Addr} {H : Hp} {h : Hc} (rH : RelH R ρ φ H h) {n : Nat} {y : D} {xv yv : V} (rx : RD R ρ φ H (.ref n) xv) (ry : RD R ρ φ H y yv) {d : D} (e : idxF h (.ref n) y = some d) : ∃ z, Got R.K xv yv z H ∧ RD R ρ φ H d z := by
  have rx' := rx
  simp only [RD] at rx
  obtain ⟨a, ea, rfl⟩ := rx
  have lk : lookD h n y = some (some d) → ∃ z, Got R.K (.ref a) yv z H ∧ RD R ρ φ H d z := fun q => by
    obtain ⟨o', g, q'⟩ := look_get rH ry ea q
    rcases q' with ⟨q1, _⟩ | ⟨d', w, q1, q2, q3⟩
    · cases q1
    · cases q1
      subst q2
      exact ⟨w, .inr ⟨a, rfl, g⟩, q3⟩
  unfold idxF at e
  have fin : ∀ {xs : List D} {vs : List V}, SqL R.K H a vs → RDs R ρ φ H xs vs → lstIx xs y = some d → ∃ z, Got R.K (.ref a) yv z H ∧ RD R ρ φ H d z := by
    intro xs vs h1 h2 e
    cases y with
    | int i =>
      simp only [RD] at ry
      subst ry
      obtain ⟨v, g1, g2⟩ := rds_at h2 e
      exact ⟨v, .inl ⟨a, vs, i, rfl, rfl, h1, g1⟩, g2⟩
    | _ => cases e
  cases hc : h[n]? with
  | none =>
    simp only [hc] at e
    obtain ⟨o, e1, e2⟩ := Option.bind_eq_some_iff.mp e
    simp only [id] at e2; subst e2
    exact lk e1
  | some c =>
    have rc := rH.cells n a c ea hc
    simp only [hc] at e
    cases c with
    | lst xs => obtain ⟨vs, h1, h2⟩ := rc; exact fin (SqL.of h1) h2 (by cases y <;> exact e)
    | ro xs => obtain ⟨o, vs, h1, h2⟩ := rc; exact fin (.inl (.inr ⟨o, h1⟩)) h2 (by cases y <;> exact e)
    | dK kvs =>
      obtain ⟨o, e1, e2⟩ := Option.bind_eq_some_iff.mp e
      simp only [id] at e2; subst e2
      exact lk e1
    | dT kvs =>
      obtain ⟨o, e1, e2⟩ := Option.bind_eq_some_iff.mp e
      simp only [id] at e2; subst e2
      exact lk e1
def augOp : Operator → Bool
  | .Add => true
  | .Sub => true
  | .Mult => true
  | .FloorDiv => true
  | _ => false
theorem ip_int {op : Operator} (h : augOp op = true) : PIp X op (fun x y H Q => ∃ i j k, x = .int i ∧ y = .int j ∧ binF [] op (.int i) (.int j) = some (.int k) ∧ Q (.int k) H) := by
  intro pins s σ H x y v u Q I r1 r2 ⟨i, j, k, e1, e2, e3, q⟩
  subst e1 e2
  obtain ⟨t, rfl⟩ := r1
  obtain ⟨t', rfl⟩ := r2
  have fin : ∀ {m : Int}, k = m → ∀ tk : Tok, EP X pins σ Q (.int m tk) { s with toks := s.toks + 1 } := fun {m} e tk => by subst e; exact ⟨.int _, H, I.tok _, ⟨_, rfl⟩, q⟩
  cases op with
  | Add =>
    have e3 : some (Cl.D.int (i + j)) = some (.int k) := e3
    cases e3
    exact iadd_int (fin rfl _)
  | Sub =>
    have e3 : some (Cl.D.int (i - j)) = some (.int k) := e3
    cases e3
    exact isub_int (fin rfl _)
  | Mult =>
    have e3 : (if mulOk i j then some (Cl.D.int (i * j)) else none) = some (.int k) := e3
    split at e3
    · rename_i hz
      cases e3
      exact PyProof.Rows.imul_int (fin rfl _) (mulOk_ok hz)
    · cases e3
  | FloorDiv =>
    have e3 : (if divOk j then some (i.fdiv j) else none).map Cl.D.int = some (.int k) := e3
    split at e3
    · rename_i hz
      cases e3
      unfold divOk at hz
      rw [Bool.and_eq_true, decide_eq_true_eq, decide_eq_true_eq] at hz
      exact ifloordiv_int hz.1 (fin rfl _) (.inl (PyProof.noPylong_of_log2 hz.2))
    · cases e3
  | _ => exact Bool.noConfusion (show false = true from h)
end
section
variable {S : Sg} {R : RC} {P : Env2} {Y : XC} {n : Nat} {N : List Str} {cm : Bool} {sc : Scope} {X : Cx} {W : WX} {pos : Pos} (G : Gs S R P Y n N cm sc X W)
include G
theorem s_aug {i : Nat} {x : Str} {op : Operator} {c : CE} {e : Expr} {p : Pos} (h1 : N[i]? = some x) (h2 : sc.names.lookup x = some .local ∨ sc.names.lookup x = some .cell) (ho : augOp op = true) (he : PE X e (tE R Y W (evE P.C c))) : PS X (.AugAssign (.Name x p) op e pos) (tS R Y W (evS P (.aug i op c))) := by
  have hl : Loc X.env.scope x := h2.elim (fun z => .inl (G.g.sees.loc x z)) fun z => .inr (G.g.sees.cell x z)
  have hf : X.fn x = true ∨ X.env.scope.names.lookup x = some .local := h2.elim (fun z => .inr (G.g.sees.loc x z)) fun z => .inl (G.g.fnc x z)
  refine ps_imp (ps_aug (by rw [G.g.hN]; exact G.g.nd) (by rw [G.g.hN]; exact h1) hl he (ip_int ho) hf) fun D σ H ⟨ρ, φ, s, h, hS, hH, f⟩ => ?_
  simp only [evS] at f
  cases q : s[i]? with
  | none => simp only [q] at f; exact f.elim
  | some o =>
    cases o with
    | none => simp only [q] at f; exact f.elim
    | some d =>
      simp only [q] at f
      obtain ⟨v, e1, r1⟩ := hS.at_ i d q
      refine ⟨v, e1, ρ, φ, s, h, hS, hH, FinS.st (h := h) hS f fun y h1 ρ1 u H1 _ e1 hH1 hS1 r2 f1 => ?_⟩
      have r1 := r1.ext e1
      cases d with
      | int a =>
        cases y with
        | int b =>
          obtain ⟨z, ez, f2⟩ := FinS.stO f1
          simp only [RD] at r1 r2
          have ez' : binF [] op (.int a) (.int b) = some z := by
            rw [← ez]
            clear ez
            cases op <;> first | rfl | exact Bool.noConfusion (show false = true from ho)
          obtain ⟨k, rfl⟩ : ∃ k, z = .int k := by
            cases op with
            | Add => cases ez'; exact ⟨_, rfl⟩
            | Sub => cases ez'; exact ⟨_, rfl⟩
            | Mult =>
              have ez' : (if mulOk a b then some (Cl.D.int (a * b)) else none) = some z := ez'
              split at ez' <;> cases ez'
              exact ⟨_, rfl⟩
            | FloorDiv =>
              have ez' : (if divOk b then some (a.fdiv b) else none).map Cl.D.int = some z := ez'
              split at ez' <;> cases ez'
              exact ⟨_, rfl⟩
            | _ => exact Bool.noConfusion (show false = true from ho)
          exact ⟨a, b, k, r1, r2, ez', f2 ρ1 _ H1 Ext.refl (hS1.set i (by simp only [RD])) hH1⟩
        | _ => exact f1.elim
      | _ => exact f1.elim
omit G in
theorem sub_asg {o i : Expr} {p : Pos} {env : PySem.Env} (h : plainIxB i = true) : ∀ v, assign (.Subscript o i p) env v = (do
      let ov ← holding [v] (eval o env)
      let iv ← holding [v, ov] (eval i env)
      standAt p
      holding [v, ov, iv] (setItem ov iv v)
      release [v, ov, iv] []) := by
  intro v
  cases i <;> first | rfl | exact Bool.noConfusion (show false = true from h)
theorem s_sput {o i c : CE} {eo ei e : Expr} {p : Pos} (hp : plainIxB ei = true) (ho : PE X eo (tE R Y W (evE P.C o))) (hi : PE X ei (tE R Y W (evE P.C i))) (he : PE X e (tE R Y W (evE P.C c))) : PS X (.Assign [.Subscript eo ei p] e pos) (tS R Y W (evS P (.sput o i c))) := by
  have hs : swapsWithSole [.Subscript eo ei p] e pos.line X.env = pure false := by cases e <;> rfl
  have hw : swappedStores [.Subscript eo ei p] e X.env = pure none := by cases e <;> rfl
  refine ps_imp (ps_asg he (pg_sub ho hi (set_put G.g.hu) (sub_asg hp)) hs hw) fun D σ H ⟨ρ, φ, s, h, hS, hH, f⟩ => ?_
  simp only [evS] at f
  refine ⟨ρ, φ, s, h, hS, hH, FinS.st (h := h) hS f fun v h1 ρ1 u H1 _ e1 hH1 hS1 r1 f1 => ?_⟩
  refine ⟨ρ1, φ, s, h1, hS1, hH1, FinS.st (h := h) hS1 f1 fun x h2 ρ2 w H2 _ e2 hH2 hS2 r2 f2 => ?_⟩
  refine ⟨ρ2, φ, s, h2, hS2, hH2, FinS.st (h := h) hS2 f2 fun y h3 ρ3 z H3 _ e3 hH3 hS3 r3 f3 => ?_⟩
  obtain ⟨h4, e4, f4⟩ := FinS.stO f3
  obtain ⟨H4, pt, ex, hH4⟩ := put_rel hH3 (r2.ext e3) r3 ((r1.ext e2).ext e3) e4 X
  exact ⟨H4, pt, f4 ρ3 σ H4 ex (hS3.ext ex) hH4⟩
theorem s_saug {o i c : CE} {op : Operator} {eo ei e : Expr} {p : Pos} (hp : plainIxB ei = true) (hop : augOp op = true) (ho : PE X eo (tE R Y W (evE P.C o))) (hi : PE X ei (tE R Y W (evE P.C i))) (he : PE X e (tE R Y W (evE P.C c))) : PS X (.AugAssign (.Subscript eo ei p) op e pos) (tS R Y W (evS P (.saug o i op c))) := by
  have hst : ∀ ov iv new, augStore ei ov iv new = (do holding [new, ov, iv] (setItem ov iv new); release [new, ov, iv] []; pure .next) := by
    intro ov iv new
    cases ei <;> first | rfl | exact Bool.noConfusion (show false = true from hp)
  refine ps_imp (ps_augS ho hi (get_got G.g.hu) he (ip_int hop) (set_put G.g.hu) hst) fun D σ H ⟨ρ, φ, s, h, hS, hH, f⟩ => ?_
  simp only [evS] at f
  refine ⟨ρ, φ, s, h, hS, hH, FinS.st (h := h) hS f fun x h1 ρ1 w H1 _ e1 hH1 hS1 r1 f1 => ?_⟩
  refine ⟨ρ1, φ, s, h1, hS1, hH1, FinS.st (h := h) hS1 f1 fun y h2 ρ2 z H2 _ e2 hH2 hS2 r2 f2 => ?_⟩
  obtain ⟨u, eu, f2⟩ := FinS.stO f2
  have r1 := r1.ext e2
  cases x with
  | ref m =>
    obtain ⟨zv, gt, rz⟩ := got_rel hH2 r1 r2 eu
    refine ⟨zv, G.g.hK ▸ gt, ρ2, φ, s, h2, hS2, hH2, FinS.st (h := h) hS2 f2 fun v h3 ρ3 vv H3 _ e3 hH3 hS3 r3 f3 => ?_⟩
    cases u with
    | int a =>
      cases v with
      | int b =>
        have rz := rz.ext e3
        simp only [RD] at rz r3
        obtain ⟨w, ew, f3⟩ := FinS.stO f3
        obtain ⟨h4, e4, f4⟩ := FinS.stO f3
        have ew' : binF [] op (.int a) (.int b) = some w := by
          rw [← ew]
          cases op <;> first | rfl | exact Bool.noConfusion (show false = true from hop)
        obtain ⟨k, rfl⟩ : ∃ k, w = .int k := by
          cases op with
          | Add => cases ew'; exact ⟨_, rfl⟩
          | Sub => cases ew'; exact ⟨_, rfl⟩
          | Mult =>
            have ew' : (if mulOk a b then some (Cl.D.int (a * b)) else none) = some w := ew'
            split at ew' <;> cases ew'
            exact ⟨_, rfl⟩
          | FloorDiv =>
            have ew' : (if divOk b then some (a.fdiv b) else none).map Cl.D.int = some w := ew'
            split at ew' <;> cases ew'
            exact ⟨_, rfl⟩
          | _ => exact Bool.noConfusion (show false = true from hop)
        obtain ⟨H4, pt, ex, hH4⟩ := put_rel hH3 (r1.ext e3) (r2.ext e3) (show RD R ρ3 φ H3 (.int k) (.int k) from by simp only [RD]) e4 X
        exact ⟨a, b, k, rz, r3, ew', H4, pt, f4 ρ3 σ H4 ex (hS3.ext ex) hH4⟩
      | _ => exact f3.elim
    | _ => exact f3.elim
  | _ => cases eu
end
end Cl

namespace Cl
open PySem PySem.Spec PyProof.Rows L2
section
variable {S : Sg} {R : RC} {P : Env2} {Y : XC} {n : Nat} {N : List Str} {cm : Bool} {sc : Scope} {X : Cx} {W : WX} {pos : Pos} (G : Gs S R P Y n N cm sc X W)
include G
theorem s_app {o c : CE} {eo e : Expr} {apos cpos : Pos} (hb : baseOk eo = true) (hl : apos.endLine = cpos.line) (h1 : starEach [e] X.env = (false, eval e X.env) :: starEach [] X.env) (ho : PE X eo (tE R Y W (evE P.C o))) (he : PE X e (tE R Y W (evE P.C c))) :
    PS X (.Expr (.Call (.Attribute eo "append" apos) [e] [] cpos) pos) (tS R Y W (evS P (.app o c))) := by
  have t1 : backTo cpos (starEach [e] X.env) = [(false, eval e X.env)] := by rw [h1]; rfl
  have mt : MtR X "list.append" rAppend := mt_append
  refine ps_imp (ps_expr (pe_bm PySem.F.plainAttrs_list PySem.F.slot_list_append PySem.F.type_list_append mt ho (pa_cons he pa_nil h1) (attr_base hb) (by rw [t1]; rfl) (by rw [hl]; exact beq_self_eq_true _) h1 rfl)) fun D σ H ⟨ρ, φ, s, h, hS, hH, f⟩ => ?_
  simp only [evS] at f
  refine ⟨ρ, φ, s, h, hS, hH, FinS.st (h := h) hS f fun x h1 ρ1 w H1 _ e1 hH1 hS1 r1 f1 => ?_⟩
  by_cases hx : isLstD h1 x = false
  · rw [if_pos hx] at f1; exact f1.elim
  · rw [if_neg hx] at f1
    cases x with
    | ref m =>
      have r1' := r1
      simp only [RD] at r1
      obtain ⟨a, ea, rfl⟩ := r1
      have ty : tyV X.K "list" (.ref a) H1 := by
        unfold isLstD at hx
        cases hc : h1[m]? with
        | none => simp [hc] at hx
        | some cc =>
          have rc := hH1.cells m a cc ea hc
          cases cc with
          | lst xs => obtain ⟨vs, g1, g2⟩ := rc; exact .inl ⟨rfl, vs, SqL.of g1⟩
          | _ => simp [hc] at hx
      refine ⟨ty, ρ1, φ, s, h1, hS1, hH1, FinS.st (h := h) hS1 f1 fun v h2 ρ2 u H2 _ e2 hH2 hS2 r2 f2 => ?_⟩
      have ea2 := e2.get ea
      cases hc : h2[m]? with
      | none => simp only [hc] at f2; exact f2.elim
      | some cc =>
        have rc := hH2.cells m a cc ea2 hc
        cases cc with
        | lst xs =>
          obtain ⟨vs, g1, g2⟩ := rc
          simp only [hc] at f2
          by_cases hz : xs.length < line
          · rw [if_pos hz] at f2
            have ha : a ∈ ρ2 := List.mem_of_getElem? ea2
            have ex : Ext ρ2 ρ2 H2 (upd H2 a (.lst (vs ++ [u]))) := Ext.write ha
            exact ⟨a, vs, u, rfl, rfl, g1, by rw [← g2.len, ← line_eq]; exact hz, f2 ρ2 σ _ ex (hS2.ext ex) (hH2.write ea2 ⟨_, upd_same, (g2.append (RDs.one r2)).write ha⟩)⟩
          · rw [if_neg hz] at f2; exact f2.elim
        | _ => simp only [hc] at f2; exact f2.elim
    | _ => simp [isLstD] at hx
theorem s_raise {i : Nat} {c : CE} {x m : Str} {j : Nat} {p p2 p3 : Pos} (hcm : cm = true) (hx : S.excs[i]? = some x) (hg : isGlB sc x = true) (ha : c.isAbs = true) : PS X (.Raise (some (.Call (.Name x p) [.Constant (.str m) j p2] [] p3)) none pos) (tS R Y W (evS P (.raise i c))) := by
  obtain ⟨g1, g2⟩ := G.g.glb hg
  obtain ⟨Ca, B, nid, iid, bmB, F, q, gC, kC, rs, ey⟩ := G.exc i x hx
  refine ps_imp (ps_raise (G.g.calm hcm) G.g.tk (pmk_own F q gC kC (rs X rfl) g1 (nm_dbg g2).1)) fun D σ H ⟨ρ, φ, s, h, hS, hH, f⟩ => ?_
  simp only [evS, ha, if_true] at f
  exact f ρ _ _ σ H Ext.refl hS hH ⟨ey.symm, rfl⟩
/-! ### try -/
theorem Gs.tr {W' : WX} (pn : List (Addr × Obj)) (xe : Value → Shared → Prop) (tk : Takes (X.tr pn xe) W') (po : PassesOwn (model X.prog X.w) X.A X.env xe) : Gs S R P Y n N cm sc (X.tr pn xe) W' :=
  ⟨⟨G.g.hK, G.g.hN, G.g.nd, G.g.sees, G.g.fnc, G.g.calm, tk, G.g.hu, G.g.glob, G.g.blt, G.g.room, G.g.calls⟩, G.hsc, G.hfn, fun _ => po, G.stk, G.frm, G.exc, G.sub⟩
theorem Gs.suite (a : Addr) (pn : List (Addr × Obj)) : Gs S R P Y n N false sc (X.suite a pn) W0 :=
  ⟨⟨G.g.hK, G.g.hN, G.g.nd, G.g.sees, G.g.fnc, fun z => Bool.noConfusion z, takes0, G.g.hu, G.g.glob, G.g.blt, fun z => Bool.noConfusion z, G.g.calls⟩, G.hsc, G.hfn, fun z => Bool.noConfusion z, G.stk, G.frm, G.exc, G.sub⟩
theorem s_try {body suite : CSs} {i : Nat} {x : Str} {xs : List Stmt} {y0 : Stmt} {ys : List Stmt} {np p2 : Pos} (hx : S.excs[i]? = some x) (hg : isGlB sc x = true)
    (hb : ∀ {X' W'}, Gs S R P Y n N cm sc X' W' → PSs X' xs (tS R Y W' (evSs P body))) (hs : ∀ {X' W'}, Gs S R P Y n N false sc X' W' → PSs X' (y0 :: ys) (tS R Y W' (evSs P suite))) :
    PS X (.Try xs [.ExceptHandler (some (.Name x np)) none (y0 :: ys) p2] [] [] pos) (tS R Y W (evS P (.try_ body i suite))) := by
  obtain ⟨g1, g2⟩ := G.g.glb hg
  obtain ⟨Ca, B, nid, iid, bmB, F, q, gC, kC, rs, ey⟩ := G.exc i x hx
  refine ps_imp (ps_try_only (c := .ref Ca) (Wout := W) (tb := fun W' => tS R Y W' (evSs P body)) (ts := fun _ _ _ => tS R Y W0 (evSs P suite)) G.stk G.frm ⟨g1, (nm_dbg g2).1, .inl gC⟩ G.g.tk (fun W' pn xe tk po => hb (G.tr pn xe tk po)) fun a oe cls d pn _ _ => hs (G.suite a _)) fun D σ H ⟨ρ, φ, s, h, hS, hH, f⟩ => ?_
  simp only [evS] at f
  refine ⟨ρ, φ, s, h, hS, hH, ?_⟩
  cases r : evSs P body s h with
  | ok k h' => rw [r] at f; cases k <;> exact f
  | stuck => rw [r] at f; exact f
  | exc y c' h' =>
    rw [r] at f
    intro ρ1 cls dd σ1 H1 e1 hS1 hH1 rx
    have ecls : cls = Y.cls y.cls := rx.1
    cases sb : P.sub y.cls i with
    | none => simp only [sb] at f; exact f.elim
    | some b =>
      refine ⟨b, by rw [ecls, ← ey]; exact G.sub _ _ _ sb, fun hb1 a na => ?_, fun hb1 => ?_⟩
      · subst hb1
        simp only [sb] at f
        refine ⟨ρ1, φ, c', h', hS1, hH1, ?_⟩
        cases r2 : evSs P suite c' h' with
        | ok k h2 => rw [r2] at f; cases k <;> exact FinS.ext (r := SRes.ok _ h2) f e1
        | stuck => rw [r2] at f; exact f
        | exc _ _ _ => rw [r2] at f; exact f.elim
      · subst hb1
        simp only [sb] at f
        exact f ρ1 cls dd σ1 H1 e1 hS1 hH1 rx
/-! ### assignments -/
omit G in
theorem sw_none {e : Expr} {l : Nat} {env : PySem.Env} (h : (match e with | .ListComp _ _ _ _ => false | .SetComp _ _ _ _ => false | .DictComp _ _ _ _ _ => false | _ => true) = true) (t : Option Expr) : swapsWith e t l env = pure false := by
  cases e <;> first | rfl | exact Bool.noConfusion (show false = true from h)
theorem s_setP {i : Nat} {x : Str} {c : CE} {e : Expr} {p : Pos} (h : chkT N sc (.v i) (.Name x p) = true) (he : PE X e (tE R Y W (evE P.C c))) (hs : swapsWith e (some (.Name x p)) pos.line X.env = pure false) : PS X (.Assign [.Name x p] e pos) (tS R Y W (evS P (.asg (.v i) c))) := by
  simp only [chkT, Bool.and_eq_true, Bool.or_eq_true, decide_eq_true_eq] at h
  obtain ⟨⟨h1, h2⟩, h3⟩ := h
  have hl : Loc X.env.scope x := h2.elim (fun z => .inl (G.g.sees.loc x z)) fun z => .inr (G.g.sees.cell x z)
  have hf : X.fn x = true ∨ X.env.scope.names.lookup x = some .local := h2.elim (fun z => .inr (G.g.sees.loc x z)) fun z => .inl (G.g.fnc x z)
  refine ps_imp (ps_set (by rw [G.g.hN]; exact G.g.nd) (by rw [G.g.hN]; exact h1) hl he hs hf) fun D σ H ⟨ρ, φ, s, h, hS, hH, f⟩ => ?_
  simp only [evS] at f
  refine ⟨ρ, φ, s, h, hS, hH, FinS.st (h := h) hS f fun d h1 ρ1 v H1 _ e1 hH1 hS1 r1 f1 => ?_⟩
  obtain ⟨c', ec, f2⟩ := FinS.stO f1
  simp only [asgT, Option.some.injEq] at ec
  subst ec
  exact f2 ρ1 _ H1 Ext.refl (hS1.set i r1) hH1
/-! readings of new lists -/
omit G in
theorem rd_lst {f : EvF} (hl : ∀ s h d h', f s h = .ok d h' → ∃ xs, d = .lst xs) {σ : L2.St} {H : Hp} {Q : VK} (q : tE R Y W f σ H Q) : tL R Y W f σ H Q := by
  obtain ⟨ρ, φ, s, h, hS, hH, k⟩ := q
  refine ⟨ρ, φ, s, h, hS, hH, ?_, fun d h' e => hl s h d h' e⟩
  cases q : f s h with
  | stuck => rw [q] at k; exact k.elim
  | exc x h' => rw [q] at k; exact k
  | ok d h' =>
    obtain ⟨xs, rfl⟩ := hl s h d h' q
    rw [q] at k
    intro ρ' p ws H' e1 rH hp np ep rd
    refine k ρ' _ H' e1 (rH.weak fun a ha => by simp [ha]) ?_
    simp only [RD]
    exact ⟨p, ws, rfl, ⟨ep, (rH.phi p (by simp)).2, np⟩, rd.weak fun a ha => by simp [ha]⟩
omit G in
theorem rd_cell {C : Caller} {a : CE} {σ : L2.St} {H : Hp} {Q : VK} (q : tE R Y W (evE C (.cell a)) σ H Q) : tL R Y W (evE C a) σ H Q := by
  obtain ⟨ρ, φ, s, h, hS, hH, k⟩ := q
  simp only [evE] at k
  refine ⟨ρ, φ, s, h, hS, hH, ?_, fun d h' e => ?_⟩
  · cases q : evE C a s h with
    | stuck => rw [q] at k; exact k.elim
    | exc x h' => rw [q] at k; exact k
    | ok d h' =>
      rw [q] at k
      cases d with
      | lst xs =>
        intro ρ' p ws H' e1 rH hp np ep rd
        refine k (ρ' ++ [p]) _ H' (e1.cell hp) (rH.cell np ⟨ws, ep, rd⟩) ?_
        simp only [RD]
        exact ⟨p, by rw [← rH.len]; simp, rfl⟩
      | _ => exact k.elim
  · rw [e] at k
    cases d with
    | lst xs => exact ⟨xs, rfl⟩
    | _ => exact k.elim
omit G in
theorem comp_lst {C : Caller} {elt cond : CE} {t : Tg} {it : CI} {own : List Nat} : ∀ s h d h', evE C (.comp elt t it cond own) s h = .ok d h' → ∃ xs, d = .lst xs := by
  intro s hh d h' q
  simp only [evE] at q
  cases z : evI C it s hh with
  | ok ds h1 =>
    rw [z] at q
    simp only [ERes.bind] at q
    split at q
    · cases z2 : compF (evE C elt) (condR cond.isAbs (evE C cond)) t ds.g (cwipe s own) ds.xs h1 with
      | ok ys h2 => rw [z2] at q; simp only [lmap, ERes.ok.injEq] at q; exact ⟨_, q.1.symm⟩
      | exc _ _ => rw [z2] at q; cases q
      | stuck => rw [z2] at q; cases q
    · cases q
  | exc _ _ => rw [z] at q; cases q
  | stuck => rw [z] at q; cases q
/-- x = [..] on one line -/
theorem s_setC {i : Nat} {x : Str} {c : CE} {elt cond : CE} {t : Tg} {it : CI} {own : List Nat} {e : Expr} {p : Pos} (h1 : N[i]? = some x) (h2 : sc.names.lookup x = some .local) (hc : chkE S N sc cm (.comp elt t it cond own) e = true)
    (hs : swapsWith e (some (.Name x p)) pos.line X.env = pure true) (hr : ∀ σ H Q, tE R Y W (evE P.C c) σ H Q → tL R Y W (evE P.C (.comp elt t it cond own)) σ H Q) : PS X (.Assign [.Name x p] e pos) (tS R Y W (evS P (.asg (.v i) c))) := by
  unfold chkE at hc
  split at hc
  · rename_i y tg iter ifs a scope p2
    simp only [Bool.and_eq_true, decide_eq_true_eq] at hc
    obtain ⟨⟨⟨⟨⟨⟨⟨⟨⟨k1, rfl⟩, k2⟩, k3⟩, k4⟩, k5⟩, k6⟩, k6b⟩, k7⟩, k8⟩ := hc
    have b0 := blkOk_by k4
    have ok : BlkOk X.N X.env.scope scope (own.filterMap fun i => N[i]?.map fun x => (x, i)) := ⟨b0.kind, b0.uniq, by rw [G.g.hN]; exact b0.ix, fun y hy e => by
      rcases b0.free y hy e with q | q
      · exact .inl (G.g.sees.cell _ q)
      · exact G.g.sees.free _ q, by rw [G.g.hN]; exact b0.own⟩
    have ht : ∀ (s : Shared) (H : Hp) (Ca : Addr) (cl : List (Str × Addr)) (fp : List Addr), PTs (X.blk s H scope (compEnvC scope cl Ca X.env) fp) ifs (tT R Y W0 (condR cond.isAbs (evE P.C cond))) := fun s H Ca cl fp => by
      split at k7
      · rw [k7]; exact ts_nil
      · rw [Bool.and_eq_true, Bool.not_eq_true'] at k7
        rw [k7.1]; exact ts_one ((snd cond).t (G.g.blk s H Ca cl fp) k7.2)
      · cases k7
    refine ps_imp (ps_setLc (i := i) (G.g.calm k1) (by rw [G.g.hN]; exact G.g.nd) (by rw [G.g.hN]; exact h1) (G.g.sees.loc x h2) hs ((sndi it).i G.g k3) ok (fun s H Ca cl fp => g_tg (G.g.blk s H Ca cl fp) (G.g.calm k1) k6) ht (fun s H Ca cl fp => (snd elt).e (G.g.blk s H Ca cl fp) k8) (notset_fold k2)) fun D σ H ⟨ρ, φ, s, h, hS, hH, f⟩ => ?_
    simp only [evS] at f
    rw [k5]
    refine lc_read k6b ?_
    have : (fun c h => (evI P.C it c h).bind fun d h => if d.xs.length ≤ line then lmap [] (compF (evE P.C elt) (condR cond.isAbs (evE P.C cond)) t d.g (cwipe c own) d.xs h) else .stuck) = evE P.C (.comp elt t it cond own) := by
      funext c h
      simp only [evE]
    rw [this]
    refine hr σ H _ ⟨ρ, φ, s, h, hS, hH, FinS.st (h := h) hS f fun d h1 ρ1 v H1 _ e1 hH1 hS1 r1 f1 => ?_⟩
    obtain ⟨c', ec, f2⟩ := FinS.stO f1
    simp only [asgT, Option.some.injEq] at ec
    subst ec
    exact f2 ρ1 _ H1 Ext.refl (hS1.set i r1) hH1
  · cases hc
theorem s_setT {ts : Tgs} {c : CE} {es : List Expr} {e : Expr} {k : Nat} {p : Pos} (hcm : cm = true) (h : chkTs N sc ts es = true) (he : PE X e (tE R Y W (evE P.C c))) (hw : swappedStores [.Tuple es k p] e X.env = pure none) : PS X (.Assign [.Tuple es k p] e pos) (tS R Y W (evS P (.asg (.t ts) c))) := by
  have hs : swapsWithSole [.Tuple es k p] e pos.line X.env = pure false := by cases e <;> rfl
  refine ps_imp (ps_asg he (g_tg G.g (G.g.calm hcm) (t := .t ts) (by simpa only [chkT] using h)) hs hw) fun D σ H ⟨ρ, φ, s, h, hS, hH, f⟩ => ?_
  simp only [evS] at f
  refine ⟨ρ, φ, s, h, hS, hH, FinS.st (h := h) hS f fun d h1 ρ1 v H1 _ e1 hH1 hS1 r1 f1 => ?_⟩
  obtain ⟨c', ec, f2⟩ := FinS.stO f1
  exact ⟨ρ1, φ, s, h1, d, c', hS1, hH1, r1, ec, fun σ' hS' _ => f2 ρ1 σ' H1 Ext.refl hS' hH1⟩
theorem s_par2 {i j : Nat} {es : CEs} {x y : Str} {a b : Expr} {px py pt p2 : Pos} {kt k2 : Nat} (hcm : cm = true) (h1 : N[i]? = some x) (h2 : N[j]? = some y) (hij : i ≠ j) (hx : sc.names.lookup x = some .local) (hy : sc.names.lookup y = some .local) (ha : PA X [a, b] (tA R Y W (evEs P.C es)))
    (hw : swappedStores [.Tuple [.Name x px, .Name y py] kt pt] (.Tuple [a, b] k2 p2) X.env = pure (some [x, y])) : PS X (.Assign [.Tuple [.Name x px, .Name y py] kt pt] (.Tuple [a, b] k2 p2) pos) (tS R Y W (evS P (.asg (.t (.cons (.v i) (.cons (.v j) .nil))) (.tup es)))) := by
  refine ps_imp (ps_par (G.g.calm hcm) (by rw [G.g.hN]; exact G.g.nd) (by rw [G.g.hN]; exact h1) (by rw [G.g.hN]; exact h2) hij (G.g.sees.loc x hx) (G.g.sees.loc y hy) ha hw) fun D σ H ⟨ρ, φ, s, h, hS, hH, f⟩ => ?_
  simp only [evS, evE] at f
  have f' : FinS R Y W D ρ φ H ((evEs P.C es s h).st s fun ds h => stO (asgT (.t (.cons (.v i) (.cons (.v j) .nil))) (.tup ds) s) fun σ' => .ok (.nx σ') h) := by
    cases q : evEs P.C es s h <;> (rw [q] at f; exact f)
  refine ⟨ρ, φ, s, h, hS, hH, FinS.st (h := h) hS f' fun ds h1 ρ1 vs H1 _ e1 hH1 hS1 r1 f1 => ?_⟩
  obtain ⟨c', ec, f2⟩ := FinS.stO f1
  rcases ds with _ | ⟨d1, _ | ⟨d2, _ | ⟨d3, ds⟩⟩⟩
  · simp [asgT, asgTs] at ec
  · simp [asgT, asgTs] at ec
  · simp only [asgT, asgTs, Option.some.injEq] at ec
    subst ec
    simp only [RDs] at r1
    obtain ⟨v1, vs1, rfl, q1, v2, vs2, rfl, q2, rfl⟩ := r1
    exact ⟨v1, v2, rfl, f2 ρ1 _ H1 Ext.refl ((hS1.set i q1).set j q2) hH1⟩
  · simp [asgT, asgTs] at ec
theorem s_par3 {i j l : Nat} {es : CEs} {x y z : Str} {a b c : Expr} {px py pz pt p2 : Pos} {kt k2 : Nat} (hcm : cm = true) (h1 : N[i]? = some x) (h2 : N[j]? = some y) (h3 : N[l]? = some z) (hij : i ≠ j) (hil : i ≠ l) (hjl : j ≠ l) (hx : sc.names.lookup x = some .local) (hy : sc.names.lookup y = some .local) (hz : sc.names.lookup z = some .local)
    (ha : PA X [a, b, c] (tA R Y W (evEs P.C es)))
    (hw : swappedStores [.Tuple [.Name x px, .Name y py, .Name z pz] kt pt] (.Tuple [a, b, c] k2 p2) X.env = pure (some [x, y, z])) : PS X (.Assign [.Tuple [.Name x px, .Name y py, .Name z pz] kt pt] (.Tuple [a, b, c] k2 p2) pos) (tS R Y W (evS P (.asg (.t (.cons (.v i) (.cons (.v j) (.cons (.v l) .nil)))) (.tup es)))) := by
  refine ps_imp (ps_par3 (G.g.calm hcm) (by rw [G.g.hN]; exact G.g.nd) (by rw [G.g.hN]; exact h1) (by rw [G.g.hN]; exact h2) (by rw [G.g.hN]; exact h3) hij hil hjl (G.g.sees.loc x hx) (G.g.sees.loc y hy) (G.g.sees.loc z hz) ha hw) fun D σ H ⟨ρ, φ, s, h, hS, hH, f⟩ => ?_
  simp only [evS, evE] at f
  have f' : FinS R Y W D ρ φ H ((evEs P.C es s h).st s fun ds h => stO (asgT (.t (.cons (.v i) (.cons (.v j) (.cons (.v l) .nil)))) (.tup ds) s) fun σ' => .ok (.nx σ') h) := by
    cases q : evEs P.C es s h <;> (rw [q] at f; exact f)
  refine ⟨ρ, φ, s, h, hS, hH, FinS.st (h := h) hS f' fun ds h1 ρ1 vs H1 _ e1 hH1 hS1 r1 f1 => ?_⟩
  obtain ⟨c', ec, f2⟩ := FinS.stO f1
  rcases ds with _ | ⟨d1, _ | ⟨d2, _ | ⟨d3, _ | ⟨d4, ds⟩⟩⟩⟩
  · simp [asgT, asgTs] at ec
  · simp [asgT, asgTs] at ec
  · simp [asgT, asgTs] at ec
  · simp only [asgT, asgTs, Option.some.injEq] at ec
    subst ec
    simp only [RDs] at r1
    obtain ⟨v1, vs1, rfl, q1, v2, vs2, rfl, q2, v3, vs3, rfl, q3, rfl⟩ := r1
    exact ⟨v1, v2, v3, rfl, f2 ρ1 _ H1 Ext.refl (((hS1.set i q1).set j q2).set l q3) hH1⟩
  · simp [asgT, asgTs] at ec
end
end Cl

namespace Cl
open PySem PySem.Spec PyProof.Rows L2
/-! ### do the statements fit -/
/-- is a comprehension stored while its frame still stands (0: no comprehension; 1: yes; 2: no; 3: not served) -/
def lcMode (sc : Scope) (x : Str) (p : Pos) : Expr → Nat
  | .ListComp _ _ s q => if decide (sc.names.lookup x = some .local) && (p.line == q.line) && !(s.names.any fun (n, k) => n == x && (k == .local || k == .cell)) then 1 else 2
  | .SetComp _ _ _ _ => 3
  | .DictComp _ _ _ _ _ => 3
  | _ => 0
def notStar : Expr → Bool
  | .Starred _ _ => false
  | _ => true
/-- a, b = x, y: 0 as a tuple, 2 and 3 stored from the right, 9 not served -/
def parMode (sc : Scope) : List Expr → Expr → Nat
  | [.Name x px, .Name y py], .Tuple [a, b] _ _ =>
    if notStar a && notStar b then
      if decide (sc.names.lookup x = some .local) && decide (sc.names.lookup y = some .local) && (py.line == px.line) && decide (x ≠ y) then
        if foldedForSure 8 a && foldedForSure 8 b then 0 else if constantsAlone 8 a && constantsAlone 8 b then 9 else 2
      else if !decide (sc.names.lookup x = some .local) || !decide (sc.names.lookup y = some .local) then 0 else 9
    else 9
  | [.Name x px, .Name y py, .Name z pz], .Tuple [a, b, c] _ _ =>
    if notStar a && notStar b && notStar c then
      if decide (sc.names.lookup x = some .local) && decide (sc.names.lookup y = some .local) && decide (sc.names.lookup z = some .local) && (py.line == px.line) && (pz.line == px.line) && decide (x ≠ y) && decide (x ≠ z) && decide (y ≠ z) then
        if foldedForSure 8 a && foldedForSure 8 b && foldedForSure 8 c then 0 else if constantsAlone 8 a && constantsAlone 8 b && constantsAlone 8 c then 9 else 3
      else if !decide (sc.names.lookup x = some .local) || !decide (sc.names.lookup y = some .local) || !decide (sc.names.lookup z = some .local) then 0 else 9
    else 9
  | es, .Tuple vs _ _ => if !(es.length == 2 || es.length == 3) || vs.length != es.length then 0 else 9
  | _, _ => 0
theorem star_no {a : Expr} : notStar a = true → (match a with | .Starred _ _ => true | _ => false) = false := by
  intro h
  cases a <;> first | rfl | exact Bool.noConfusion (show false = true from h)
theorem ne_beq {x y : Str} (h : x ≠ y) : (y == x) = false := by simpa using Ne.symm h
theorem par0 {sc : Scope} {es : List Expr} {e : Expr} {k : Nat} {p : Pos} {env : PySem.Env} (hsc : env.scope = sc) (hk : sc.kind = .function) (h : parMode sc es e = 0) : swappedStores [.Tuple es k p] e env = pure none := by
  have bk : env.blockKind = .function := by unfold Env.blockKind; rw [hsc, hk]; rfl
  have kn : ∀ x, env.kindOf x = sc.names.lookup x := fun x => by unfold Env.kindOf; rw [hsc]
  unfold parMode at h
  split at h
  · rename_i x px y py a b k2 p2
    split at h
    · rename_i hs
      split at h
      · rename_i hc
        split at h
        · rename_i hf
          simp only [Bool.and_eq_true, decide_eq_true_eq, beq_iff_eq] at hc hf hs
          obtain ⟨⟨⟨c1, c2⟩, c3⟩, c4⟩ := hc
          have s1 := star_no hs.1
          have s2 := star_no hs.2
          unfold swappedStores
          simp [bk, kn, c1, c2, c3, Ne.symm c4, c4, ne_beq c4, hf.1, hf.2, Expr.pos, s1, s2, List.eraseDups, List.eraseDupsBy, List.eraseDupsBy.loop]
        · split at h <;> cases h
      · split at h
        · rename_i hn
          simp only [Bool.and_eq_true] at hs
          have s1 := star_no hs.1
          have s2 := star_no hs.2
          unfold swappedStores
          rw [Bool.or_eq_true, Bool.not_eq_true', Bool.not_eq_true', decide_eq_false_iff_not, decide_eq_false_iff_not] at hn
          by_cases hx : sc.names.lookup x = some .local
          · have hy : ¬ sc.names.lookup y = some .local := hn.resolve_left fun z => z hx
            simp [bk, kn, hx, hy, Expr.pos, s1, s2, List.filterMap_cons]
          · by_cases hy : sc.names.lookup y = some .local ∧ py.line = px.line
            · simp [bk, kn, hx, hy.1, hy.2, Expr.pos, s1, s2, List.filterMap_cons]
            · simp [bk, kn, hx, hy, Expr.pos, s1, s2, List.filterMap_cons]
        · cases h
    · cases h
  · rename_i x px y py z pz a b c k2 p2
    split at h
    · rename_i hs
      split at h
      · rename_i hc
        split at h
        · rename_i hf
          simp only [Bool.and_eq_true, decide_eq_true_eq, beq_iff_eq] at hc hf hs
          obtain ⟨⟨⟨⟨⟨⟨⟨c1, c2⟩, c3⟩, c4⟩, c5⟩, c6⟩, c7⟩, c8⟩ := hc
          have s1 := star_no hs.1.1
          have s2 := star_no hs.1.2
          have s3 := star_no hs.2
          unfold swappedStores
          simp [bk, kn, c1, c2, c3, c4, c5, c6, c7, c8, Ne.symm c6, Ne.symm c7, Ne.symm c8, ne_beq c6, ne_beq c7, ne_beq c8, hf.1.1, hf.1.2, hf.2, Expr.pos, s1, s2, s3, List.eraseDups, List.eraseDupsBy, List.eraseDupsBy.loop]
        · split at h <;> cases h
      · split at h
        · rename_i hn
          simp only [Bool.and_eq_true] at hs
          have s1 := star_no hs.1.1
          have s2 := star_no hs.1.2
          have s3 := star_no hs.2
          unfold swappedStores
          simp only [Bool.or_eq_true, Bool.not_eq_true', decide_eq_false_iff_not] at hn
          by_cases hx : sc.names.lookup x = some .local <;> by_cases hy : sc.names.lookup y = some .local ∧ py.line = px.line <;> by_cases hz : sc.names.lookup z = some .local ∧ pz.line = px.line <;>
            first
              | (exfalso; exact hn.elim (fun q => q.elim (fun q => q hx) fun q => q hy.1) fun q => q hz.1)
              | simp [bk, kn, hx, hy, hz, Expr.pos, s1, s2, s3, List.filterMap_cons]
        · cases h
    · cases h
  · rename_i vs k2 p2 _ _
    split at h
    · rename_i hc
      unfold swappedStores
      have hc' : (!(es.length == 2 || es.length == 3) || vs.length != es.length || env.blockKind != .function) = true := by rw [hc]; rfl
      simp only [hc', if_true]
    · cases h
  · rename_i hn1 hn2 hn
    cases e <;> first | rfl | exact absurd rfl (hn _ _ _) | exact absurd rfl (hn2 _ _ _) | exact absurd rfl (hn1 _ _ _)
theorem par2 {sc : Scope} {es : List Expr} {e : Expr} {k : Nat} {p : Pos} {env : PySem.Env} (hsc : env.scope = sc) (hk : sc.kind = .function) (h : parMode sc es e = 2) :
    ∃ x px y py a b k2 p2, es = [.Name x px, .Name y py] ∧ e = .Tuple [a, b] k2 p2 ∧ sc.names.lookup x = some .local ∧ sc.names.lookup y = some .local ∧ x ≠ y ∧ swappedStores [.Tuple es k p] e env = pure (some [x, y]) := by
  have bk : env.blockKind = .function := by unfold Env.blockKind; rw [hsc, hk]; rfl
  have kn : ∀ x, env.kindOf x = sc.names.lookup x := fun x => by unfold Env.kindOf; rw [hsc]
  unfold parMode at h
  split at h
  · rename_i x px y py a b k2 p2
    split at h
    · rename_i hs
      split at h
      · rename_i hc
        split at h
        · cases h
        · rename_i hf
          split at h
          · cases h
          · rename_i hg
            simp only [Bool.and_eq_true, decide_eq_true_eq, beq_iff_eq] at hc hf hs hg
            obtain ⟨⟨⟨c1, c2⟩, c3⟩, c4⟩ := hc
            have s1 := star_no hs.1
            have s2 := star_no hs.2
            refine ⟨x, px, y, py, a, b, k2, p2, rfl, rfl, c1, c2, c4, ?_⟩
            unfold swappedStores
            simp [bk, kn, c1, c2, c3, Ne.symm c4, c4, ne_beq c4, hf, hg, Expr.pos, s1, s2, List.eraseDups, List.eraseDupsBy, List.eraseDupsBy.loop]
            intro q
            exfalso
            rcases q with q | q
            · cases a <;> first | exact Bool.noConfusion (show false = true from q) | exact Bool.noConfusion (show false = true from hs.1)
            · cases b <;> first | exact Bool.noConfusion (show false = true from q) | exact Bool.noConfusion (show false = true from hs.2)
      · split at h <;> cases h
    · cases h
  · split at h
    · split at h
      · split at h
        · cases h
        · split at h <;> cases h
      · split at h <;> cases h
    · cases h
  · split at h <;> cases h
  · cases h
theorem par3 {sc : Scope} {es : List Expr} {e : Expr} {k : Nat} {p : Pos} {env : PySem.Env} (hsc : env.scope = sc) (hk : sc.kind = .function) (h : parMode sc es e = 3) :
    ∃ x px y py z pz a b c k2 p2, es = [.Name x px, .Name y py, .Name z pz] ∧ e = .Tuple [a, b, c] k2 p2 ∧ sc.names.lookup x = some .local ∧ sc.names.lookup y = some .local ∧ sc.names.lookup z = some .local ∧ x ≠ y ∧ x ≠ z ∧ y ≠ z ∧ swappedStores [.Tuple es k p] e env = pure (some [x, y, z]) := by
  have bk : env.blockKind = .function := by unfold Env.blockKind; rw [hsc, hk]; rfl
  have kn : ∀ x, env.kindOf x = sc.names.lookup x := fun x => by unfold Env.kindOf; rw [hsc]
  unfold parMode at h
  split at h
  · split at h
    · split at h
      · split at h
        · cases h
        · split at h <;> cases h
      · split at h <;> cases h
    · cases h
  · rename_i x px y py z pz a b c k2 p2
    split at h
    · rename_i hs
      split at h
      · rename_i hc
        split at h
        · cases h
        · rename_i hf
          split at h
          · cases h
          · rename_i hg
            simp only [Bool.and_eq_true, decide_eq_true_eq, beq_iff_eq] at hc hf hs hg
            obtain ⟨⟨⟨⟨⟨⟨⟨c1, c2⟩, c3⟩, c4⟩, c5⟩, c6⟩, c7⟩, c8⟩ := hc
            have s1 := star_no hs.1.1
            have s2 := star_no hs.1.2
            have s3 := star_no hs.2
            refine ⟨x, px, y, py, z, pz, a, b, c, k2, p2, rfl, rfl, c1, c2, c3, c6, c7, c8, ?_⟩
            have hf' : foldedForSure 8 a = true → foldedForSure 8 b = true → foldedForSure 8 c = false := fun q1 q2 => by
              cases q3 : foldedForSure 8 c with
              | false => rfl
              | true => exact absurd ⟨⟨q1, q2⟩, q3⟩ hf
            have hg' : constantsAlone 8 a = true → constantsAlone 8 b = true → constantsAlone 8 c = false := fun q1 q2 => by
              cases q3 : constantsAlone 8 c with
              | false => rfl
              | true => exact absurd ⟨⟨q1, q2⟩, q3⟩ hg
            unfold swappedStores
            have e1 : (foldedForSure 8 a && (foldedForSure 8 b && foldedForSure 8 c)) = false := by
              cases q1 : foldedForSure 8 a <;> cases q2 : foldedForSure 8 b <;> simp_all
            have e2 : (constantsAlone 8 a && (constantsAlone 8 b && constantsAlone 8 c)) = false := by
              cases q1 : constantsAlone 8 a <;> cases q2 : constantsAlone 8 b <;> simp_all
            simp [bk, kn, c1, c2, c3, c4, c5, c6, c7, c8, Ne.symm c6, Ne.symm c7, Ne.symm c8, ne_beq c6, ne_beq c7, ne_beq c8, Expr.pos, s1, s2, s3, List.eraseDups, List.eraseDupsBy, List.eraseDupsBy.loop, -Bool.and_eq_true, e1, e2]
            intro q
            exfalso
            rcases q with q | q | q
            · cases a <;> first | exact Bool.noConfusion (show false = true from q) | exact Bool.noConfusion (show false = true from hs.1.1)
            · cases b <;> first | exact Bool.noConfusion (show false = true from q) | exact Bool.noConfusion (show false = true from hs.1.2)
            · cases c <;> first | exact Bool.noConfusion (show false = true from q) | exact Bool.noConfusion (show false = true from hs.2)
      · split at h <;> cases h
    · cases h
  · split at h <;> cases h
  · cases h
end Cl

namespace Cl
open PySem PySem.Spec PyProof.Rows L2
def compOf : CE → CE
  | .cell c => c
  | c => c
def isCompB : CE → Bool
  | .comp _ _ _ _ _ => true
  | _ => false
mutual
def chkS (S : Sg) (N : List Str) (sc : Scope) : Bool → CS → Stmt → Bool
  | cm, .asg t c, st => match st with
    | .Assign [.Name x p] e _ => (match t with | .v _ => true | _ => false) && chkT N sc t (.Name x p) && (match lcMode sc x p e with
      | 0 => chkE S N sc cm c e
      | 1 => isCompB (compOf c) && chkE S N sc cm (compOf c) e
      | 2 => chkE S N sc cm c e
      | _ => false)
    | .Assign [.Tuple es _ _] e _ => cm && (match t with | .t ts => chkTs N sc ts es | _ => false) && chkE S N sc cm c e && (match parMode sc es e with | 0 => true | 2 => true | 3 => true | _ => false)
    | _ => false
  | cm, .aug i op c, st => match st with
    | .AugAssign (.Name x _) o e _ => decide (op = o) && decide (N[i]? = some x) && (decide (sc.names.lookup x = some .local) || decide (sc.names.lookup x = some .cell)) && augOp op && chkE S N sc cm c e
    | _ => false
  | cm, .sput o i c, st => match st with
    | .Assign [.Subscript eo ei _] e _ => plainIxB ei && chkE S N sc cm o eo && chkE S N sc cm i ei && chkE S N sc cm c e
    | _ => false
  | cm, .saug o i op c, st => match st with
    | .AugAssign (.Subscript eo ei _) q e _ => decide (op = q) && plainIxB ei && augOp op && chkE S N sc cm o eo && chkE S N sc cm i ei && chkE S N sc cm c e
    | _ => false
  | cm, .expr c, st => match st with
    | .Expr e _ => (match e with | .ListComp _ _ _ _ => false | .SetComp _ _ _ _ => false | .DictComp _ _ _ _ _ => false | _ => true) && chkE S N sc cm c e
    | _ => false
  | cm, .app o c, st => match st with
    | .Expr (.Call (.Attribute eo m ap) [e] [] cp) _ => decide (m = "append") && baseOk eo && decide (ap.endLine = cp.line) && chkE S N sc cm o eo && chkE S N sc cm c e
    | _ => false
  | cm, .ifs t a b, st => match st with
    | .If e xs ys _ => chkE S N sc cm t e && chkSs S N sc cm a xs && chkSs S N sc cm b ys
    | _ => false
  | cm, .for_ t it a, st => match st with
    | .For tg e xs [] _ => cm && chkT N sc t tg && notSet e && chkI S N sc cm it tg e && chkSs S N sc cm a xs
    | _ => false
  | cm, .whl t a, st => match st with
    | .While e xs [] _ => cm && chkE S N sc cm t e && chkSs S N sc cm a xs
    | _ => false
  | cm, .ret c, st => match st with
    | .Return (some e) _ => chkE S N sc cm c e
    | _ => false
  | _, .retN, st => match st with
    | .Return none _ => true
    | _ => false
  | _, .brk, st => match st with
    | .Break _ => true
    | _ => false
  | _, .pass, st => match st with
    | .Pass _ => true
    | _ => false
  | cm, .raise i c, st => match st with
    | .Raise (some (.Call (.Name x _) [.Constant (.str _) _ _] [] _)) none _ => cm && decide (S.excs[i]? = some x) && isGlB sc x && c.isAbs
    | _ => false
  | cm, .try_ body i suite, st => match st with
    | .Try xs [.ExceptHandler (some (.Name x _)) none (y0 :: ys) _] [] [] _ => decide (S.excs[i]? = some x) && isGlB sc x && chkSs S N sc cm body xs && chkSs S N sc false suite (y0 :: ys)
    | _ => false
  | _, .kill _, _ => false
  | _, .scope _, _ => false
def chkSs (S : Sg) (N : List Str) (sc : Scope) : Bool → CSs → List Stmt → Bool
  | _, .nil, sts => match sts with
    | [] => true
    | _ => false
  | cm, .cons c cs, sts => (match c with | .kill _ => chkSs S N sc cm cs sts | _ => false) || (match cs with | .nil => chkSc S N sc cm c sts | _ => false) || (match sts with
    | st :: sts => chkS S N sc cm c st && chkSs S N sc cm cs sts
    | [] => false)
def chkSc (S : Sg) (N : List Str) (sc : Scope) : Bool → CS → List Stmt → Bool
  | cm, .scope ss, sts => chkSs S N sc cm ss sts
  | _, _, _ => false
end
section
variable {S : Sg} {R : RC} {P : Env2} {Y : XC} {n : Nat}
theorem chk_tup {N : List Str} {sc : Scope} {cm : Bool} {c : CE} {es : List Expr} {k : Nat} {p : Pos} (h : chkE S N sc cm c (.Tuple es k p) = true) : ∃ cs, c = .tup cs ∧ chkEs S N sc cm cs es = true := by
  cases c with
  | tup cs =>
    simp only [chkE, Bool.and_eq_true, decide_eq_true_eq] at h
    exact ⟨cs, rfl, h.2⟩
  | bi b args => cases b <;> exact Bool.noConfusion (show false = true from h)
  | cell c =>
    exfalso
    have h' : (freshC c && chkE S N sc cm c (.Tuple es k p)) = true := h
    rw [Bool.and_eq_true] at h'
    cases c with
    | bi b args => cases b <;> exact Bool.noConfusion (show false = true from h'.2)
    | _ => first | exact Bool.noConfusion (show false = true from h'.2) | exact Bool.noConfusion (show false = true from h'.1)
  | _ => exact Bool.noConfusion (show false = true from h)
structure SndS (S : Sg) (R : RC) (P : Env2) (Y : XC) (n : Nat) (c : CS) : Prop where
  s : ∀ {N cm sc X W st}, Gs S R P Y n N cm sc X W → chkS S N sc cm c st = true → PS X st (tS R Y W (evS P c))
  sc : ∀ ss, c = .scope ss → ∀ {N cm sc X W sts}, Gs S R P Y n N cm sc X W → chkSs S N sc cm ss sts = true → PSs X sts (tS R Y W (evSs P ss))
structure SndSs (S : Sg) (R : RC) (P : Env2) (Y : XC) (n : Nat) (cs : CSs) : Prop where
  s : ∀ {N cm sc X W sts}, Gs S R P Y n N cm sc X W → chkSs S N sc cm cs sts = true → PSs X sts (tS R Y W (evSs P cs))
theorem lc_swap {N : List Str} {cm : Bool} {sc : Scope} {X : Cx} {W : WX} (G : Gs S R P Y n N cm sc X W) {x : Str} {p : Pos} {e : Expr} (l : Nat) :
    (lcMode sc x p e = 0 → swapsWith e (some (.Name x p)) l X.env = pure false) ∧ (lcMode sc x p e = 2 → swapsWith e (some (.Name x p)) l X.env = pure false) ∧ (lcMode sc x p e = 1 → sc.names.lookup x = some .local ∧ swapsWith e (some (.Name x p)) l X.env = pure true) := by
  have bk : X.env.blockKind = .function := by unfold Env.blockKind; rw [G.hsc, G.hfn]; rfl
  have kn : X.env.kindOf x = sc.names.lookup x := by unfold Env.kindOf; rw [G.hsc]
  cases e with
  | ListComp a gs s q =>
    have e0 : swapsWith (.ListComp a gs s q) (some (.Name x p)) l X.env = pure (X.env.blockKind == .function && X.env.kindOf x == some .local && p.line == q.line && !(s.names.any fun (n, k) => n == x && (k == .local || k == .cell))) := rfl
    rw [e0, bk, kn]
    have e1 : lcMode sc x p (.ListComp a gs s q) = if (decide (sc.names.lookup x = some .local) && (p.line == q.line) && !(s.names.any fun (n, k) => n == x && (k == .local || k == .cell))) = true then 1 else 2 := rfl
    rw [e1]
    by_cases hc : (decide (sc.names.lookup x = some .local) && (p.line == q.line) && !(s.names.any fun (n, k) => n == x && (k == .local || k == .cell))) = true
    · rw [if_pos hc]
      refine ⟨fun z => (by cases z), fun z => (by cases z), fun _ => ?_⟩
      simp only [Bool.and_eq_true, decide_eq_true_eq] at hc
      refine ⟨hc.1.1, ?_⟩
      rw [hc.1.1, hc.1.2, hc.2]
      rfl
    · rw [if_neg hc]
      refine ⟨fun z => (by cases z), fun _ => ?_, fun z => (by cases z)⟩
      congr 1
      cases h1 : (p.line == q.line) with
      | false => simp
      | true =>
        cases h2 : (s.names.any fun (n, k) => n == x && (k == .local || k == .cell)) with
        | true => simp
        | false =>
          simp only [h1, h2, Bool.and_true, Bool.not_false, decide_eq_true_eq] at hc
          simp only [Bool.and_true, Bool.not_false]
          simp [hc]
  | SetComp _ _ _ _ => exact ⟨fun z => absurd (show (3 : Nat) = 0 from z) (by decide), fun z => absurd (show (3 : Nat) = 2 from z) (by decide), fun z => absurd (show (3 : Nat) = 1 from z) (by decide)⟩
  | DictComp _ _ _ _ _ => exact ⟨fun z => absurd (show (3 : Nat) = 0 from z) (by decide), fun z => absurd (show (3 : Nat) = 2 from z) (by decide), fun z => absurd (show (3 : Nat) = 1 from z) (by decide)⟩
  | _ => exact ⟨fun _ => rfl, fun z => absurd (show (0 : Nat) = 2 from z) (by decide), fun z => absurd (show (0 : Nat) = 1 from z) (by decide)⟩
theorem snds_asg {t : Tg} {c : CE} : SndS S R P Y n (.asg t c) := ⟨fun {N cm sc X W st} G h => by
  unfold chkS at h
  split at h
  · rename_i x p e pos
    rw [Bool.and_eq_true, Bool.and_eq_true] at h
    obtain ⟨⟨h1, h2⟩, h3⟩ := h
    cases t with
    | v i =>
      obtain ⟨w0, w2, w1⟩ := lc_swap G (x := x) (p := p) (e := e) pos.line
      split at h3
      · rename_i hm
        exact s_setP G h2 ((snd c).e G.g h3) (w0 hm)
      · rename_i hm
        obtain ⟨hl, hs⟩ := w1 hm
        rw [Bool.and_eq_true] at h3
        simp only [chkT, Bool.and_eq_true, decide_eq_true_eq] at h2
        cases c with
        | comp a t2 it d own => exact s_setC G h2.1.1 hl h3.2 hs fun σ H Q q => rd_lst comp_lst q
        | cell c2 =>
          cases c2 with
          | comp a t2 it d own => exact s_setC G h2.1.1 hl h3.2 hs fun σ H Q q => rd_cell q
          | _ => exact Bool.noConfusion (show false = true from h3.1)
        | _ => exact Bool.noConfusion (show false = true from h3.1)
      · rename_i hm
        exact s_setP G h2 ((snd c).e G.g h3) (w2 hm)
      · cases h3
    | t ts => exact Bool.noConfusion (show false = true from h1)
  · rename_i es k p e pos
    simp only [Bool.and_eq_true] at h
    obtain ⟨⟨⟨h1, h2⟩, h3⟩, h4⟩ := h
    cases t with
    | v i => exact Bool.noConfusion (show false = true from h2)
    | t ts =>
      have h2 : chkTs N sc ts es = true := h2
      split at h4
      · rename_i hm
        exact s_setT G h1 h2 ((snd c).e G.g h3) (par0 G.hsc G.hfn hm)
      · rename_i hm
        obtain ⟨x, px, y, py, a, b, k2, p2, rfl, rfl, l1, l2, hxy, hw⟩ := par2 (k := k) (p := p) G.hsc G.hfn hm
        obtain ⟨cs, rfl, h5⟩ := chk_tup h3
        rcases ts with _ | ⟨t1, _ | ⟨t2, _ | ⟨t3, ts⟩⟩⟩
        · simp [chkTs] at h2
        · simp [chkTs] at h2
        · simp only [chkTs, Bool.and_eq_true] at h2
          cases t1 with
          | v i =>
            cases t2 with
            | v j =>
              simp only [chkT, Bool.and_eq_true, decide_eq_true_eq] at h2
              obtain ⟨⟨⟨h21, _⟩, _⟩, ⟨⟨h22, _⟩, _⟩, _⟩ := h2
              refine s_par2 G h1 h21 h22 (fun z => hxy ?_) l1 l2 ((snda cs).a G.g h5) hw
              rw [z, h22] at h21
              exact (Option.some.inj h21).symm
            | t _ => simp [chkT] at h2
          | t _ => simp [chkT] at h2
        · simp [chkTs] at h2
      · rename_i hm
        obtain ⟨x, px, y, py, z, pz, a, b, d, k2, p2, rfl, rfl, l1, l2, l3, hxy, hxz, hyz, hw⟩ := par3 (k := k) (p := p) G.hsc G.hfn hm
        obtain ⟨cs, rfl, h5⟩ := chk_tup h3
        rcases ts with _ | ⟨t1, _ | ⟨t2, _ | ⟨t3, _ | ⟨t4, ts⟩⟩⟩⟩
        · simp [chkTs] at h2
        · simp [chkTs] at h2
        · simp [chkTs] at h2
        · simp only [chkTs, Bool.and_eq_true] at h2
          cases t1 with
          | v i =>
            cases t2 with
            | v j =>
              cases t3 with
              | v l =>
                simp only [chkT, Bool.and_eq_true, decide_eq_true_eq] at h2
                obtain ⟨⟨⟨h21, _⟩, _⟩, ⟨⟨h22, _⟩, _⟩, ⟨⟨h23, _⟩, _⟩, _⟩ := h2
                refine s_par3 G h1 h21 h22 h23 (fun q => hxy ?_) (fun q => hxz ?_) (fun q => hyz ?_) l1 l2 l3 ((snda cs).a G.g h5) hw
                · rw [q, h22] at h21
                  exact (Option.some.inj h21).symm
                · rw [q, h23] at h21
                  exact (Option.some.inj h21).symm
                · rw [q, h23] at h22
                  exact (Option.some.inj h22).symm
              | t _ => simp [chkT] at h2
            | t _ => simp [chkT] at h2
          | t _ => simp [chkT] at h2
        · simp [chkTs] at h2
      · cases h4
  · exact Bool.noConfusion h, fun ss z => (by cases z)⟩
theorem snds_aug {i : Nat} {op : Operator} {c : CE} : SndS S R P Y n (.aug i op c) := ⟨fun {N cm sc X W st} G h => by
  unfold chkS at h
  split at h
  · simp only [Bool.and_eq_true, Bool.or_eq_true, decide_eq_true_eq] at h
    obtain ⟨⟨⟨⟨rfl, h1⟩, h2⟩, h3⟩, h4⟩ := h
    exact s_aug G h1 h2 h3 ((snd c).e G.g h4)
  · exact Bool.noConfusion h, fun ss z => (by cases z)⟩
theorem snds_sput {o i c : CE} : SndS S R P Y n (.sput o i c) := ⟨fun {N cm sc X W st} G h => by
  unfold chkS at h
  split at h
  · simp only [Bool.and_eq_true] at h
    obtain ⟨⟨⟨h1, h2⟩, h3⟩, h4⟩ := h
    exact s_sput G h1 ((snd o).e G.g h2) ((snd i).e G.g h3) ((snd c).e G.g h4)
  · exact Bool.noConfusion h, fun ss z => (by cases z)⟩
theorem snds_saug {o i c : CE} {op : Operator} : SndS S R P Y n (.saug o i op c) := ⟨fun {N cm sc X W st} G h => by
  unfold chkS at h
  split at h
  · simp only [Bool.and_eq_true, decide_eq_true_eq] at h
    obtain ⟨⟨⟨⟨⟨rfl, h1⟩, h2⟩, h3⟩, h4⟩, h5⟩ := h
    exact s_saug G h1 h2 ((snd o).e G.g h3) ((snd i).e G.g h4) ((snd c).e G.g h5)
  · exact Bool.noConfusion h, fun ss z => (by cases z)⟩
theorem snds_expr {c : CE} : SndS S R P Y n (.expr c) := ⟨fun {N cm sc X W st} G h => by
  unfold chkS at h
  split at h
  · rw [Bool.and_eq_true] at h
    exact s_expr ((snd c).e G.g h.2) (sw_none h.1 none)
  · exact Bool.noConfusion h, fun ss z => (by cases z)⟩
theorem snds_app {o c : CE} : SndS S R P Y n (.app o c) := ⟨fun {N cm sc X W st} G h => by
  unfold chkS at h
  split at h
  · simp only [Bool.and_eq_true, decide_eq_true_eq] at h
    obtain ⟨⟨⟨⟨rfl, h1⟩, h2⟩, h3⟩, h4⟩ := h
    exact s_app G h1 h2 (chk_ns h4 _ X.env) ((snd o).e G.g h3) ((snd c).e G.g h4)
  · exact Bool.noConfusion h, fun ss z => (by cases z)⟩
theorem snds_raise {i : Nat} {c : CE} : SndS S R P Y n (.raise i c) := ⟨fun {N cm sc X W st} G h => by
  unfold chkS at h
  split at h
  · simp only [Bool.and_eq_true, decide_eq_true_eq] at h
    obtain ⟨⟨⟨h1, h2⟩, h3⟩, h4⟩ := h
    exact s_raise G h1 h2 h3 h4
  · exact Bool.noConfusion h, fun ss z => (by cases z)⟩
theorem snds_ret {c : CE} : SndS S R P Y n (.ret c) := ⟨fun {N cm sc X W st} G h => by
  unfold chkS at h
  split at h
  · exact s_ret ((snd c).e G.g h)
  · exact Bool.noConfusion h, fun ss z => (by cases z)⟩
theorem snds_if {t : CE} {a b : CSs} (ha : SndSs S R P Y n a) (hb : SndSs S R P Y n b) : SndS S R P Y n (.ifs t a b) := ⟨fun {N cm sc X W st} G h => by
  unfold chkS at h
  split at h
  · simp only [Bool.and_eq_true] at h
    exact s_ifs ((snd t).t G.g h.1.1) (ha.s G h.1.2) (hb.s G h.2)
  · exact Bool.noConfusion h, fun ss z => (by cases z)⟩
theorem snds_for {t : Tg} {it : CI} {a : CSs} (ha : SndSs S R P Y n a) : SndS S R P Y n (.for_ t it a) := ⟨fun {N cm sc X W st} G h => by
  unfold chkS at h
  split at h
  · simp only [Bool.and_eq_true] at h
    obtain ⟨⟨⟨⟨h1, h2⟩, h3⟩, h4⟩, h5⟩ := h
    exact s_for (G.po h1) (G.g.calm h1) ((sndi it).i G.g h4) (g_tg G.g (G.g.calm h1) h2) (ha.s G h5) h3
  · exact Bool.noConfusion h, fun ss z => (by cases z)⟩
theorem snds_whl {t : CE} {a : CSs} (ha : SndSs S R P Y n a) : SndS S R P Y n (.whl t a) := ⟨fun {N cm sc X W st} G h => by
  unfold chkS at h
  split at h
  · simp only [Bool.and_eq_true] at h
    obtain ⟨⟨h1, h2⟩, h3⟩ := h
    exact s_whl (G.po h1) ((snd t).t G.g h2) (ha.s G h3)
  · exact Bool.noConfusion h, fun ss z => (by cases z)⟩
theorem snds_try {body suite : CSs} {i : Nat} (ha : SndSs S R P Y n body) (hb : SndSs S R P Y n suite) : SndS S R P Y n (.try_ body i suite) := ⟨fun {N cm sc X W st} G h => by
  unfold chkS at h
  split at h
  · simp only [Bool.and_eq_true, decide_eq_true_eq] at h
    obtain ⟨⟨⟨h1, h2⟩, h3⟩, h4⟩ := h
    exact s_try G h1 h2 (fun G' => ha.s G' h3) (fun G' => hb.s G' h4)
  · exact Bool.noConfusion h, fun ss z => (by cases z)⟩
theorem sndss_cons {c : CS} {cs : CSs} (hc : SndS S R P Y n c) (hcs : SndSs S R P Y n cs) : SndSs S R P Y n (.cons c cs) := ⟨fun {N cm sc X W sts} G h => by
  unfold chkSs at h
  rw [Bool.or_eq_true, Bool.or_eq_true] at h
  rcases h with (h | h) | h
  · cases c with
    | kill is => exact ss_kill (hcs.s G h)
    | _ => exact Bool.noConfusion (show false = true from h)
  · cases cs with
    | nil =>
      have h : chkSc S N sc cm c sts = true := h
      unfold chkSc at h
      split at h
      · exact ss_scope (hc.sc _ rfl G h)
      · cases h
    | cons _ _ => exact Bool.noConfusion (show false = true from h)
  · split at h
    · rw [Bool.and_eq_true] at h
      exact ss_cons (hc.s G h.1) (hcs.s G h.2)
    · cases h⟩
theorem sndss_nil : SndSs S R P Y n .nil := ⟨fun {N cm sc X W sts} G h => by
  unfold chkSs at h
  split at h
  · exact ss_nil
  · cases h⟩
mutual
theorem snds : ∀ c : CS, SndS S R P Y n c
  | .asg _ _ => snds_asg
  | .aug _ _ _ => snds_aug
  | .sput _ _ _ => snds_sput
  | .saug _ _ _ _ => snds_saug
  | .expr _ => snds_expr
  | .app _ _ => snds_app
  | .ifs _ a b => snds_if (sndss a) (sndss b)
  | .for_ _ _ a => snds_for (sndss a)
  | .whl _ a => snds_whl (sndss a)
  | .ret _ => snds_ret
  | .retN => ⟨fun {N cm sc X W st} G h => by
    unfold chkS at h
    split at h
    · exact s_retN
    · exact Bool.noConfusion h, fun ss z => (by cases z)⟩
  | .brk => ⟨fun {N cm sc X W st} G h => by
    unfold chkS at h
    split at h
    · exact s_brk
    · exact Bool.noConfusion h, fun ss z => (by cases z)⟩
  | .pass => ⟨fun {N cm sc X W st} G h => by
    unfold chkS at h
    split at h
    · exact s_pass
    · exact Bool.noConfusion h, fun ss z => (by cases z)⟩
  | .raise _ _ => snds_raise
  | .try_ a _ b => snds_try (sndss a) (sndss b)
  | .kill _ => ⟨fun {N cm sc X W st} G h => by unfold chkS at h; exact Bool.noConfusion h, fun ss z => (by cases z)⟩
  | .scope ss => ⟨fun {N cm sc X W st} G h => by unfold chkS at h; exact Bool.noConfusion h, fun ss' z => by cases z; exact fun G h => (sndss ss).s G h⟩
theorem sndss : ∀ cs : CSs, SndSs S R P Y n cs
  | .nil => sndss_nil
  | .cons c cs => sndss_cons (snds c) (sndss cs)
end
end
end Cl

namespace Cl
open PySem PySem.Spec PyProof.Rows L2
/-! ### defs -/
structure DTx where
  name : Str
  st : Stmt
  N : List Str
  ps : List Str
def fnScB (N ps : List Str) (sc : Scope) : Bool :=
  (match sc.kind with | .function => true | _ => false) && !sc.isCoroutine && !sc.isGenerator && decide N.Nodup && decide (N.take ps.length = ps) && (ps.all fun x => decide (sc.names.lookup x = some .local) || decide (sc.names.lookup x = some .cell)) && (sc.names.all fun y => match y.2 with | .free => false | _ => true)
theorem fnSc_of {N ps : List Str} {sc : Scope} (h : fnScB N ps sc = true) : FnScope N ps sc := by
  unfold fnScB at h
  simp only [Bool.and_eq_true, Bool.not_eq_true', decide_eq_true_eq] at h
  obtain ⟨⟨⟨⟨⟨⟨h1, h2⟩, h3⟩, h4⟩, h5⟩, h6⟩, h7⟩ := h
  refine ⟨?_, h2, h3, h4, h5, fun x hx => ?_, fun y hy e => ?_⟩
  · split at h1
    · assumption
    · cases h1
  · have := List.all_eq_true.mp h6 x hx
    simpa only [Bool.or_eq_true, decide_eq_true_eq] using this
  · have := List.all_eq_true.mp h7 y hy
    rw [e] at this
    cases this
def chkD (S : Sg) (d : DTx) (c : CDef) : Bool := decide (d.N.length = c.ns) && decide (d.ps.length = c.np) && fnScB d.N d.ps (L2.defScope d.st) && chkSs S d.N (L2.defScope d.st) true c.body (L2.defBody d.st)
def chkDs (S : Sg) : List DTx → List CDef → Bool
  | [], [] => true
  | d :: ds, c :: cs => chkD S d c && chkDs S ds cs
  | _, _ => false
theorem chkDs_at {S : Sg} : ∀ {ds : List DTx} {cs : List CDef} {i : Nat} {d : DTx}, chkDs S ds cs = true → ds[i]? = some d → ∃ c, cs[i]? = some c ∧ chkD S d c = true
  | [], _, _, _, _, e => by simp at e
  | d :: ds, [], _, _, h, _ => by simp [chkDs] at h
  | d :: ds, c :: cs, 0, d', h, e => by
    simp only [chkDs, Bool.and_eq_true] at h
    simp only [List.getElem?_cons_zero, Option.some.injEq] at e
    subst e
    exact ⟨c, rfl, h.1⟩
  | d :: ds, c :: cs, i + 1, d', h, e => by
    simp only [chkDs, Bool.and_eq_true] at h
    rw [List.getElem?_cons_succ] at e ⊢
    exact chkDs_at h.2 e
/-- what the text's top has written -/
structure TxOk (S : Sg) (R : RC) (Y : XC) (P : Pg) (w : World) (K : PySem.W.Frag) (mg : Str → Option Value) (ds : List DTx) : Prop where
  hK : R.K = K
  fns : S.fns = ds.map (·.name)
  chk : chkDs S ds P.defs = true
  defs : ∀ (i : Nat) (d : DTx), ds[i]? = some d → ∃ fd, mg d.name = some (.ref (R.fa i)) ∧ Fun K d.name d.name d.st (R.fa i) fd ∧ Binds K fd d.ps []
  glob : ∀ x d, S.glob x = some d → ∃ u v, mg x = some u ∧ RelV v u ∧ GV R d v
  blt : ∀ x ∈ bltNames, mg x = none
  exc : ∀ i x, S.excs[i]? = some x → ∃ Ca B nid iid bmB, ExcBaseFacts B nid iid bmB ∧ PySem.W.excIn K Ca bmB nid = true ∧ mg x = some (.ref Ca) ∧ PySem.W.keepIn K (.ref Ca) = true ∧ (∀ X' : Cx, X'.K = K → Raises X' (.ref Ca)) ∧ Y.cls i = .ref Ca
  sub : ∀ i j b, P.sub i j = some b → PySem.W.exmOne K (Y.cls i) (Y.cls j) = some b
theorem start_rel {R : RC} {ρ φ : List Addr} {H : Hp} {N : List Str} {vs : List V} {ds : List D} {c : CDef} (r : RDs R ρ φ H ds vs) (hN : N.length = c.ns) : RelS R ρ φ H (cstart c ds) (L2.start N vs) := by
  have hl := r.len
  refine ⟨?_, fun i d e => ?_⟩
  · unfold cstart L2.start
    rw [List.length_append, List.length_map, List.length_replicate, List.length_append, List.length_map, List.length_replicate, hN, hl]
  · unfold cstart at e
    by_cases hi : i < ds.length
    · rw [List.getElem?_append_left (by rw [List.length_map]; exact hi), List.getElem?_map] at e
      cases q : ds[i]? with
      | none => rw [q] at e; cases e
      | some d' =>
        rw [q] at e
        cases e
        obtain ⟨v, g1, g2⟩ := r.get q
        refine ⟨v, ?_, g2⟩
        unfold L2.start
        rw [List.getElem?_append_left (by rw [List.length_map, ← hl]; exact hi), List.getElem?_map, g1]
        rfl
    · rw [List.getElem?_append_right (by rw [List.length_map]; omega), List.getElem?_replicate] at e
      split at e <;> cases e
section
variable {R : RC} {Y : XC} {E : XK} {ρ φ : List Addr} {H : Hp} {h : Hc} {Q : VK} {P2 : Env2}
theorem fin_cut {d : D} {h' : Hc} (hH : RelH R ρ φ H h) (f : Fin R Y (fun cls dd _ H => E cls dd H) [] ρ φ H (rD R φ) (finR h d h') Q) {ρ' : List Addr} {v : V} {H' : Hp} (e : Ext ρ ρ' H H') (hH' : RelH R ρ' φ H' h') (r : RD R ρ' φ H' d v) : Q v H' := by
  unfold finR at f
  by_cases z : (d.low h.length && cutOk h.length h h') = true
  · rw [if_pos z] at f
    rw [Bool.and_eq_true] at z
    obtain ⟨t, rfl⟩ := e.pre
    exact f ρ v H' e.cut (cut_rel hH hH' z.2) (RD.mv Mv.cut (by rw [hH.len]; exact z.1) r)
  · rw [if_neg z] at f
    exact f ρ' v H' e hH' r
theorem finX_cut {x : Exc} {h' : Hc} (hH : RelH R ρ φ H h) (f : Fin R Y (fun cls dd _ H => E cls dd H) [] ρ φ H (rD R φ) (finX h x h') Q) {ρ' : List Addr} {cls : Value} {dd : Option Addr} {H' : Hp} (e : Ext ρ ρ' H H') (hH' : RelH R ρ' φ H' h') (r : RX R Y ρ' φ H' x cls dd) : E cls dd H' := by
  unfold finX at f
  by_cases z : (x.low h.length && cutOk h.length h h') = true
  · rw [if_pos z] at f
    rw [Bool.and_eq_true] at z
    obtain ⟨t, rfl⟩ := e.pre
    refine f ρ cls dd H' e.cut (cut_rel hH hH' z.2) ⟨r.1, ?_⟩
    have r2 := r.2
    have z1 := z.1
    unfold Exc.low at z1
    cases q : x.arg with
    | none => rw [q] at r2; exact r2
    | some d =>
      rw [q] at r2 z1
      obtain ⟨a, v, g1, g2, g3⟩ := r2
      exact ⟨a, v, g1, g2, RD.mv Mv.cut (by rw [hH.len]; exact z1) g3⟩
  · rw [if_neg z] at f
    exact f ρ' cls dd H' e hH' r
theorem body_read {c : CDef} {ds : List D} {vs : List V} {N : List Str} (hN : N.length = c.ns) (hH : RelH R ρ φ H h) (r : RDs R ρ φ H ds vs) (f : Fin R Y (fun cls dd _ H => E cls dd H) [] ρ φ H (rD R φ) (runD P2 c ds h) Q) :
    tS R Y (fun cls dd _ H => E cls dd H) (evSs P2 c.body) { nx := fun _ H' => Q .non H', rt := Q } (L2.start N vs) H := by
  refine ⟨ρ, φ, cstart c ds, h, start_rel r hN, hH, ?_⟩
  unfold runD at f
  by_cases hl : ds.length = c.np
  · rw [if_pos hl] at f
    cases q : evSs P2 c.body (cstart c ds) h with
    | ok k h' =>
      rw [q] at f
      cases k with
      | nx σ => exact fun ρ' σ' H' e hS' hH' => fin_cut hH f e hH' (by simp only [RD])
      | rt d => exact fun ρ' v H' e hH' r' => fin_cut hH f e hH' r'
      | bk σ => exact f.elim
      | ct σ => exact f.elim
    | exc x σ h' =>
      rw [q] at f
      exact fun ρ' cls dd σ' H' e hS' hH' rx => finX_cut hH f e hH' rx
    | stuck => rw [q] at f; exact f.elim
  · rw [if_neg hl] at f
    exact f.elim
end
section
variable {S : Sg} {R : RC} {Y : XC} {P : Pg} {prog : Program} {w : World} {K : PySem.W.Frag} {mg : Str → Option Value} {ds : List DTx} {base : Heap}
theorem sp_len {n i : Nat} {c : CDef} (hc : P.defs[i]? = some c) {vs : List V} {H : Hp} {Q : VK} {E : XK} (h : spC R Y (callN P (n + 1)) i vs H Q E) : vs.length = c.np := by
  obtain ⟨ρ, φ, ds, hh, hH, r, f⟩ := h
  have f : Fin R Y _ [] ρ φ H (rD R φ) (match P.defs[i]? with | some d => runD ⟨callN P n, P.sub⟩ d ds hh | none => .stuck) Q := f
  rw [hc] at f
  have f : Fin R Y _ [] ρ φ H (rD R φ) (runD ⟨callN P n, P.sub⟩ c ds hh) Q := f
  rw [← r.len]
  unfold runD at f
  by_cases hl : ds.length = c.np
  · exact hl
  · rw [if_neg hl] at f
    exact f.elim
theorem all_ok (T : TxOk S R Y P w K mg ds) : ∀ (n i : Nat) (d : DTx), ds[i]? = some d → ∀ fd, Fun K d.name d.name d.st (R.fa i) fd → FnOk prog w K mg base (L2.CX prog w) n (R.fa i) fd d.ps (spC R Y (callN P n) i) := by
  intro n
  induction n with
  | zero =>
    intro i d hd fd F
    exact ⟨fun vs H Q E ⟨ρ, φ, dd, hh, hH, r, f⟩ => f.elim, fun A outer s H args us vs Q E _ _ _ _ ⟨ρ, φ, dd, hh, hH, r, f⟩ => f.elim⟩
  | succ n ih =>
    intro i d hd fd F
    obtain ⟨c, hc, k⟩ := chkDs_at T.chk hd
    unfold chkD at k
    simp only [Bool.and_eq_true, decide_eq_true_eq] at k
    obtain ⟨⟨⟨k1, k2⟩, k3⟩, k4⟩ := k
    have SC := fnSc_of k3
    refine F.okX SC (fun vs H Q E h => by rw [k2]; exact sp_len hc h) fun cdv A outer s H vs Q E hr h => ?_
    refine ⟨tS R Y (fun cls dd _ H => E cls dd H) (evSs ⟨callN P n, P.sub⟩ c.body), ?_, ?_⟩
    · refine (sndss (P := ⟨callN P n, P.sub⟩) (n := n) c.body).s (S := S) ⟨⟨T.hK, rfl, SC.nd, Sees.refl, fun _ _ => rfl, fun _ => rfl, takes_of rfl rfl rfl rfl, ?_, T.glob, T.blt, fun _ => hr, fun j x hx => ?_⟩, rfl, SC.kind, fun _ => passes_of rfl, rfl, rfl, T.exc, T.sub⟩ k4
      · have := hr.un
        show (A.deeper _).units + 100 < cLine
        omega
      · rw [T.fns, List.getElem?_map] at hx
        cases q : ds[j]? with
        | none => rw [q] at hx; cases hx
        | some d' =>
          rw [q] at hx
          cases hx
          obtain ⟨fd', m', F', b'⟩ := T.defs j d' q
          exact ⟨fd', d'.ps, m', F'.kp, b', ih j d' q fd' F'⟩
    · obtain ⟨ρ, φ, dd, hh, hH, r, f⟩ := h
      have f : Fin R Y (fun cls dd _ H => E cls dd H) [] ρ φ H (rD R φ) (match P.defs[i]? with | some d => runD ⟨callN P n, P.sub⟩ d dd hh | none => .stuck) Q := f
      rw [hc] at f
      exact body_read k1 hH r f
/-! ### the end -/
theorem exm_of {cls c : Value} {C : Addr} {b : Bool} (hc : c = .ref C) (h1 : PySem.W.subIn K c (.type "BaseException") = some true) (h2 : PySem.W.isClsIn K C = true) (h3 : PySem.W.typeIn K c = some (.type "type")) (h4 : PySem.W.subIn K cls c = some b) : PySem.W.exmOne K cls c = some b := by
  subst hc
  have e2 : ((PySem.W.clsIn K C).isSome && PySem.W.typeIn K (.ref C) == some (.type "type")) = true := by
    rw [show (PySem.W.clsIn K C).isSome = true from h2, h3]; rfl
  show (if (PySem.W.subIn K (.ref C) (.type "BaseException") == some true) = true then (if ((PySem.W.clsIn K C).isSome && PySem.W.typeIn K (.ref C) == some (.type "type")) = true then PySem.W.subIn K cls (.ref C) else none) else none) = some b
  rw [if_pos (by rw [h1]; rfl), if_pos e2]
  exact h4

def noLists (K : PySem.W.Frag) : Bool := K.all fun p => match p.2.cls with | .type t => !decide (t = "list") | _ => true
theorem lookup_in {α : Type} : ∀ {l : List (Addr × α)} {a : Addr} {o : α}, l.lookup a = some o → (a, o) ∈ l
  | [], _, _, e => by simp at e
  | (b, u) :: l, a, o, e => by
    rw [List.lookup_cons] at e
    cases q : (a == b) with
    | true =>
      rw [q] at e
      cases e
      rw [eq_of_beq q]
      exact List.mem_cons_self
    | false =>
      rw [q] at e
      exact List.mem_cons_of_mem _ (lookup_in e)
theorem noLists_of (h : noLists K = true) {a : Addr} {o : Obj} (e : K.lookup a = some o) : o.cls ≠ .type "list" := fun z => by
  have := List.all_eq_true.mp h _ (lookup_in e)
  simp only [z] at this
  simp at this
theorem ints_rds {ρ φ : List Addr} {H : Hp} : ∀ ns : List Int, RDs R ρ φ H (ns.map D.int) (ns.map V.int)
  | [] => by simp [RDs]
  | n :: ns => by
    rw [List.map_cons, List.map_cons]
    exact RDs.cons (by simp only [RD]) (ints_rds ns)
/-- the law's promise -/
theorem law_sp {n i : Nat} {a : Addr} {H : Hp} {ns : List Int} (hg : R.gt = []) (nl : noLists K = true) (hS : SqL K H a (ns.map V.int)) {h' : Hc} (run : callN P n i [.ref 0] [.ro (ns.map D.int)] = .ok (.bl true) h') (hO : Only H) {Q : VK} {E : XK} (k : ∀ H', Q (.bl true) H') :
    spC R Y (callN P n) i [.ref a] H Q E := by
  have hf : ∃ o, H a = some (.frz o (.lst (ns.map V.int))) := by
    rcases hS with (h | ⟨o, h⟩) | ⟨o, its, m, h1, h2, _⟩
    · rcases hO a with q | ⟨o, ys, q⟩ <;> (rw [h] at q; cases q)
    · exact ⟨o, h⟩
    · exact absurd h2 (noLists_of nl h1)
  obtain ⟨o, hf⟩ := hf
  refine ⟨[a], [], [.ref 0], [.ro (ns.map D.int)], ⟨rfl, by simp, fun j b c e1 e2 => ?_, fun b hb => (by simp at hb), fun p hp => (by rw [hg] at hp; simp at hp)⟩, RDs.one (by simp only [RD]; exact ⟨a, rfl, rfl⟩), ?_⟩
  · cases j with
    | zero =>
      simp only [List.getElem?_cons_zero, Option.some.injEq] at e1 e2
      subst e1 e2
      exact ⟨o, _, hf, ints_rds ns⟩
    | succ j => simp at e1
  · rw [run]
    intro ρ' v H' _ _ r
    simp only [RD] at r
    subst r
    exact k H'
end
/-- the goal that k_head leaves, from the facts and the run -/
theorem walk_cl {S : Sg} {P : Pg} {ds : List DTx} {l : PySem.W.OpenLaw} {q : Program} {loose : List Str} {XP : (Str → Option Value) → Heap → Prop} {YP : World → Heap → Prop} {d : DefRec} {K : Params → PySem.W.Frag} {x : Str} {n i : Nat}
    (hn : l.most = some 63) (hdf : d.params.defaults = []) (hr : Room n callerA) (hY : ∀ (w : World) (h : Heap), YP w h → (K w.params).In h) (nl : ∀ w : World, noLists (K w.params) = true)
    (dx : DTx) (hdx : ds[i]? = some dx) (hps : dx.ps = [x])
    (hba : ∀ (kV doc pm : Value) (an : Option Addr) (cdv ct u : Value), bindArgs (PySem.W.fnOf dx.name dx.name (L2.defArgs dx.st) (L2.defBody dx.st) (L2.defScope dx.st) .none kV doc pm an cdv ct) ⟨[u], []⟩ = pure [(x, u)])
    (F : ∀ (w : World) (mg : Str → Option Value) (fa : Addr) (h : Heap), (K w.params).In h → h.Ns mainGlobals mg → mg d.name = some (.ref fa) → ∃ R Y, R.gt = [] ∧ TxOk S R Y P w (K w.params) mg ds ∧ R.fa i = fa)
    (run : ∀ ns : List Int, ns.length ≤ 63 → ∃ h', callN P n i [.ref 0] [.ro (ns.map D.int)] = .ok (.bl true) h') :
    PySem.W.WalkO q loose XP YP l.row.toRowW d [] (fun f vs => PySem.call f vs) := by
  refine L2.walk_of (n := 63) (k := n) (x := x) (CX := fun w => L2.CX l.prog w) (K := K) (sp := fun w vs H Q E => ∃ (a : Addr) (ns : List Int), vs = [.ref a] ∧ ns.length ≤ 63 ∧ Only H ∧ SqL (K w.params) H a (ns.map V.int) ∧ ∀ H', Q (.bl true) H') hn (by rw [sizeLine_eq]; omega) hdf hr hY ?_ ?_ ?_
  · intro w mg fa h X G hfa
    obtain ⟨R, Y, hg, T, rfl⟩ := F w mg fa h X G hfa
    obtain ⟨fd, m, Fn, B⟩ := T.defs i dx hdx
    refine ⟨fd, fun s u => ?_, fun base hb hns => ?_⟩
    · obtain ⟨oc, od, kV, doc, pm, an, cdv, ct, osl, rfl, lk, hcd⟩ := Fn.ex
      exact .of_eq (hba kV doc pm an cdv ct u)
    · have A := all_ok (prog := l.prog) (w := w) (base := base) T n i dx hdx fd Fn
      rw [hps] at A
      refine FnOk.imp A fun vs H Q E ⟨a, ns, e, hl, hO, hS, k⟩ => ?_
      subst e
      obtain ⟨h', e⟩ := run ns hl
      exact law_sp hg (nl w) hS e hO k
  · intro w H a ns hl hO hS
    exact ⟨a, ns, rfl, hl, hO, hS, fun _ => rfl⟩
  · intro w H s e s' ⟨_, _, _, _, _, _, _, _, _, _, _, _, z⟩
    exact z
theorem lookup_in2 {α : Type} : ∀ {l : List ((Nat × Nat) × α)} {a : Nat × Nat} {o : α}, l.lookup a = some o → (a, o) ∈ l
  | [], _, _, e => by simp at e
  | (b, u) :: l, a, o, e => by
    rw [List.lookup_cons] at e
    cases q : (a == b) with
    | true =>
      rw [q] at e
      cases e
      rw [eq_of_beq q]
      exact List.mem_cons_self
    | false =>
      rw [q] at e
      exact List.mem_cons_of_mem _ (lookup_in2 e)
theorem glob_mem {S : Sg} {x : Str} {d : D} (e : S.glob x = some d) : (x, d) ∈ S.consts ∨ ∃ i, S.fns[i]? = some x ∧ d = .fn i := by
  unfold Sg.glob at e
  cases q : S.consts.lookup x with
  | some v =>
    rw [q] at e
    cases e
    exact .inl (PySem.mem_of_lookup q)
  | none =>
    rw [q] at e
    obtain ⟨i, h1, h2⟩ := Option.map_eq_some_iff.mp e
    refine .inr ⟨i, ?_, h2.symm⟩
    obtain ⟨h3, h4, _⟩ := List.findIdx?_eq_some_iff_getElem.mp h1
    rw [List.getElem?_eq_getElem h3]
    simp only [decide_eq_true_eq] at h4
    rw [h4]
end Cl

namespace Cl
open PySem PySem.Spec PyProof.Rows L2
/-! ### reckoning with the clean runs -/
theorem ERes.ok_bind {α β : Type} {a : α} {h : Hc} {f : α → Hc → ERes β} : (ERes.ok a h).bind f = f a h := rfl
theorem ERes.exc_bind {α β : Type} {x : Exc} {h : Hc} {f : α → Hc → ERes β} : (ERes.exc x h : ERes α).bind f = .exc x h := rfl
theorem st_ok {α : Type} {a : α} {h : Hc} {σ : CSt} {f : α → Hc → SRes} : (ERes.ok a h).st σ f = f a h := rfl
theorem st_exc {α : Type} {x : Exc} {h : Hc} {σ : CSt} {f : α → Hc → SRes} : (ERes.exc x h : ERes α).st σ f = .exc x σ h := rfl
theorem ofO_some {α : Type} {a : α} {h : Hc} : ofO (some a) h = .ok a h := rfl
theorem stO_some {α : Type} {a : α} {f : α → SRes} : stO (some a) f = f a := rfl
theorem boolR_bl {b : Bool} {h : Hc} : boolR (.ok (.bl b) h) = .ok b h := rfl
theorem cutOk_app {h t : Hc} : cutOk h.length h (h ++ t) = true := by
  unfold cutOk
  rw [List.take_left']
  · rw [List.all_eq_true]
    intro p hp
    obtain ⟨i, hi⟩ := List.mem_iff_getElem?.mp hp
    rw [List.getElem?_zip_eq_some] at hi
    have : p.1 = p.2 := by
      have := hi.1.symm.trans hi.2
      exact Option.some.inj this
    simp [this]
  · rfl
theorem cutOk_self {h : Hc} : cutOk h.length h h = true := by
  have := @cutOk_app h []
  rwa [List.append_nil] at this
mutual
theorem low_plain {n : Nat} : ∀ {d : D}, d.plain = true → d.low n = true
  | .non, _ => rfl
  | .bl _, _ => rfl
  | .int _, _ => rfl
  | .str _, _ => rfl
  | .ref _, h => by simp [D.plain] at h
  | .fn _, h => by simp [D.plain] at h
  | .tup xs, h => by
    simp only [D.plain] at h
    simp only [D.low]
    exact lows_plain h
  | .lst xs, h => by
    simp only [D.plain] at h
    simp only [D.low]
    exact lows_plain h
theorem lows_plain {n : Nat} : ∀ {ds : List D}, D.plains ds = true → D.low.lows n ds = true
  | [], _ => rfl
  | d :: ds, h => by
    simp only [D.plains, Bool.and_eq_true] at h
    simp only [D.low.lows, Bool.and_eq_true]
    exact ⟨low_plain h.1, lows_plain h.2⟩
end
/-- back from a def that leaves no new cell reachable -/
theorem finR_app {h t : Hc} {d : D} (hd : d.low h.length = true) : finR h d (h ++ t) = .ok d h := by
  unfold finR
  rw [hd, cutOk_app, Bool.true_and, if_pos rfl, List.take_left' rfl]
theorem finR_self {h : Hc} {d : D} : finR h d h = .ok d h := by
  unfold finR
  split
  · rw [List.take_length]
  · rfl
theorem finX_self {h : Hc} {x : Exc} : finX h x h = .exc x h := by
  unfold finX
  split
  · rw [List.take_length]
  · rfl
/-- a call, by its def -/
theorem call_eq {P : Pg} {n i : Nat} {d : CDef} {args : List D} {h : Hc} (hd : P.defs[i]? = some d) (hl : args.length = d.np) : callN P (n + 1) i args h = match evSs ⟨callN P n, P.sub⟩ d.body (cstart d args) h with
    | .ok (.rt v) h' => finR h v h'
    | .ok (.nx _) h' => finR h .non h'
    | .exc x _ h' => finX h x h'
    | _ => .stuck := by
  show (match P.defs[i]? with | some d => runD ⟨callN P n, P.sub⟩ d args h | none => .stuck) = _
  rw [hd]
  show runD _ d args h = _
  unfold runD
  rw [if_pos hl]
  all_goals rfl
/-- a comprehension without effects -/
theorem compF_pure {fe fc : EvF} {t : Tg} {g : Guard} {σ : CSt} {h : Hc} (hg : gOk g h = true) (f : D → D) (p : D → Bool) : ∀ {xs : List D}, (∀ x ∈ xs, ∃ σ1, asgT t x σ = some σ1 ∧ boolR (fc σ1 h) = .ok (p x) h ∧ (p x = true → fe σ1 h = .ok (f x) h)) →
    compF fe fc t g σ xs h = .ok ((xs.filter p).map f) h
  | [], _ => by unfold compF; rw [if_pos hg]; rfl
  | x :: xs, k => by
    obtain ⟨σ1, e1, e2, e3⟩ := k x (by simp)
    have ih := compF_pure hg f p (xs := xs) fun y hy => k y (by simp [hy])
    unfold compF
    rw [if_pos hg, e1]
    simp only [e2]
    cases q : p x with
    | true =>
      simp only [e3 q, ih]
      rw [List.filter_cons_of_pos q, List.map_cons]
    | false =>
      simp only [ih]
      rw [List.filter_cons_of_neg (by simp [q])]
/-- .. with a state that goes through -/
theorem compF_thru {fe fc : EvF} {t : Tg} {g : Guard} {σ : CSt} {S : Type} (enc : S → Hc) (hg : ∀ s, gOk g (enc s) = true) (f : S → D → D) (nx : S → D → S) : ∀ {xs : List D} (s : S), (∀ s, ∀ x ∈ xs, ∃ σ1, asgT t x σ = some σ1 ∧ boolR (fc σ1 (enc s)) = .ok true (enc s) ∧ fe σ1 (enc s) = .ok (f s x) (enc (nx s x))) →
    ∃ ys, compF fe fc t g σ xs (enc s) = .ok ys (enc (xs.foldl nx s)) ∧ ys.length = xs.length ∧ ∀ y ∈ ys, ∃ s x, x ∈ xs ∧ y = f s x
  | [], s, _ => ⟨[], by unfold compF; rw [if_pos (hg s)]; rfl, rfl, fun y hy => by simp at hy⟩
  | x :: xs, s, k => by
    obtain ⟨σ1, e1, e2, e3⟩ := k s x (by simp)
    obtain ⟨ys, i1, i2, i3⟩ := compF_thru enc hg f nx (xs := xs) (nx s x) fun s y hy => k s y (by simp [hy])
    refine ⟨f s x :: ys, ?_, by simp [i2], fun y hy => ?_⟩
    · unfold compF
      rw [if_pos (hg s), e1]
      simp only [e2, e3, i1]
      rfl
    · rcases List.mem_cons.mp hy with rfl | hy
      · exact ⟨s, x, by simp, rfl⟩
      · obtain ⟨s', x', h1, h2⟩ := i3 y hy
        exact ⟨s', x', by simp [h1], h2⟩
/-- a loop whose body goes on -/
theorem forF_fold {fb : CSt → Hc → SRes} {t : Tg} {g : Guard} {S : Type} (eσ : S → CSt) (eh : S → Hc) (nx : S → D → S) (I : S → Prop) (hg : ∀ s, I s → gOk g (eh s) = true) : ∀ {xs : List D} (s : S), I s →
    (∀ s, I s → ∀ x ∈ xs, I (nx s x) ∧ ∃ σ1, asgT t x (eσ s) = some σ1 ∧ fb σ1 (eh s) = .ok (.nx (eσ (nx s x))) (eh (nx s x))) → forF fb t g xs (eσ s) (eh s) = .ok (.nx (eσ (xs.foldl nx s))) (eh (xs.foldl nx s)) ∧ I (xs.foldl nx s)
  | [], s, hI, _ => ⟨by unfold forF; rw [if_pos (hg s hI)]; rfl, hI⟩
  | x :: xs, s, hI, k => by
    obtain ⟨i1, σ1, e1, e2⟩ := k s hI x (by simp)
    have ih := forF_fold eσ eh nx I hg (xs := xs) (nx s x) i1 fun s hs y hy => k s hs y (by simp [hy])
    refine ⟨?_, ih.2⟩
    unfold forF
    rw [if_pos (hg s hI), e1]
    simp only [e2]
    exact ih.1
/-- a loop with an invariant on what has been walked; it may leave -/
theorem forF_inv {fb : CSt → Hc → SRes} {t : Tg} {g : Guard} {xs : List D} (I : Nat → CSt → Hc → Prop) (B : SRes → Prop) (hg : ∀ i σ h, I i σ h → gOk g h = true) (hend : ∀ σ h, I xs.length σ h → B (.ok (.nx σ) h))
    (hs : ∀ (i : Nat) (x : D) (σ : CSt) (h : Hc), xs[i]? = some x → I i σ h → ∃ σ1, asgT t x σ = some σ1 ∧ ((∃ σ2 h2, fb σ1 h = .ok (.nx σ2) h2 ∧ I (i + 1) σ2 h2) ∨ (∃ σ2 h2, fb σ1 h = .ok (.bk σ2) h2 ∧ B (.ok (.nx σ2) h2)) ∨ (∃ d h2, fb σ1 h = .ok (.rt d) h2 ∧ B (.ok (.rt d) h2)))) :
    ∀ (i : Nat) (σ : CSt) (h : Hc), i ≤ xs.length → I i σ h → B (forF fb t g (xs.drop i) σ h) := by
  suffices key : ∀ (m i : Nat) (σ : CSt) (h : Hc), xs.length - i = m → i ≤ xs.length → I i σ h → B (forF fb t g (xs.drop i) σ h) from fun i σ h hi hI => key _ i σ h rfl hi hI
  intro m
  induction m with
  | zero =>
    intro i σ h hm hi hI
    have : i = xs.length := by omega
    subst this
    rw [List.drop_length]
    unfold forF
    rw [if_pos (hg _ _ _ hI)]
    exact hend σ h hI
  | succ m ih =>
    intro i σ h hm hi hI
    have hlt : i < xs.length := by omega
    rw [List.drop_eq_getElem_cons hlt]
    unfold forF
    rw [if_pos (hg _ _ _ hI)]
    obtain ⟨σ1, e1, k⟩ := hs i xs[i] σ h (List.getElem?_eq_getElem hlt) hI
    rw [e1]
    rcases k with ⟨σ2, h2, e2, k⟩ | ⟨σ2, h2, e2, k⟩ | ⟨d, h2, e2, k⟩
    · simp only [e2]
      exact ih (i + 1) σ2 h2 (by omega) hlt k
    · simp only [e2]; exact k
    · simp only [e2]; exact k
end Cl

namespace Cl
open PySem PySem.Spec PyProof.Rows L2
/-! ### the clauses of the runs, each with all its arguments -/
theorem EV {C : Caller} : (∀ (i : Nat) (σ : CSt) (h : Hc), evE C (.var i) σ h = (match σ[i]? with
    | some (some d) => .ok d h
    | _ => .stuck))
  ∧ (∀ (d : D) (σ : CSt) (h : Hc), evE C (.cst d) σ h = (.ok d h))
  ∧ (∀ (u0 : Str) (d : D) (σ : CSt) (h : Hc), evE C (.glob u0 d) σ h = (.ok d h))
  ∧ (∀ (op : Operator) (a : CE) (b : CE) (σ : CSt) (h : Hc), evE C (.bin op a b) σ h = ((evE C a σ h).bind fun x h => (evE C b σ h).bind fun y h => ofO (binF h op x y) h))
  ∧ (∀ (a : CE) (σ : CSt) (h : Hc), evE C (.neg a) σ h = ((evE C a σ h).bind fun x h => match x with
    | .int i => .ok (.int (-i)) h
    | _ => .stuck))
  ∧ (∀ (a : CE) (σ : CSt) (h : Hc), evE C (.not_ a) σ h = ((evE C a σ h).bind fun x h => match x with
    | .bl b => .ok (.bl (!b)) h
    | _ => .stuck))
  ∧ (∀ (op : CmpOp) (a : CE) (b : CE) (σ : CSt) (h : Hc), evE C (.cmp op a b) σ h = ((evE C a σ h).bind fun x h => (evE C b σ h).bind fun y h => ofO ((cmpF h op x y).map .bl) h))
  ∧ (∀ (op : CmpOp) (op' : CmpOp) (a : CE) (b : CE) (c : CE) (σ : CSt) (h : Hc), evE C (.chain op op' a b c) σ h = ((evE C a σ h).bind fun x h => (evE C b σ h).bind fun y h => match cmpF h op x y with
    | some true => (evE C c σ h).bind fun z h => ofO ((cmpF h op' y z).map .bl) h
    | some false => .ok (.bl false) h
    | none => .stuck))
  ∧ (∀ (a : CE) (b : CE) (σ : CSt) (h : Hc), evE C (.and_ a b) σ h = ((evE C a σ h).bind fun x h => match x with
    | .bl true => evE C b σ h
    | .bl false => .ok (.bl false) h
    | _ => .stuck))
  ∧ (∀ (a : CE) (b : CE) (σ : CSt) (h : Hc), evE C (.or_ a b) σ h = ((evE C a σ h).bind fun x h => match x with
    | .bl true => .ok (.bl true) h
    | .bl false => evE C b σ h
    | _ => .stuck))
  ∧ (∀ (t : CE) (a : CE) (b : CE) (σ : CSt) (h : Hc), evE C (.ite t a b) σ h = ((evE C t σ h).bind fun x h => match x with
    | .bl true => evE C a σ h
    | .bl false => evE C b σ h
    | _ => .stuck))
  ∧ (∀ (f : Nat) (args : CEs) (σ : CSt) (h : Hc), evE C (.call f args) σ h = ((evEs C args σ h).bind fun ds h => C f ds h))
  ∧ (∀ (b : Bi) (args : CEs) (σ : CSt) (h : Hc), evE C (.bi b args) σ h = ((evEs C args σ h).bind fun ds h => ofO (biF h b ds) h))
  ∧ (∀ (a : CE) (ts : List Ty) (σ : CSt) (h : Hc), evE C (.isin a ts) σ h = ((evE C a σ h).bind fun x h => ofO ((isFs h ts x).map .bl) h))
  ∧ (∀ (o : CE) (σ : CSt) (h : Hc), evE C (.pop o) σ h = ((evE C o σ h).bind fun x h => match x with
    | .ref n => match h[n]? with
      | some (.lst xs) => match xs[xs.length - 1]? with
        | some d => .ok d (h.set n (.lst xs.dropLast))
        | none => .stuck
      | _ => .stuck
    | _ => .stuck))
  ∧ (∀ (a : CE) (i : CE) (σ : CSt) (h : Hc), evE C (.idx a i) σ h = ((evE C a σ h).bind fun x h => (evE C i σ h).bind fun y h => ofO (idxF h x y) h))
  ∧ (∀ (a : CE) (lo : CE) (hi : CE) (σ : CSt) (h : Hc), evE C (.sl a lo hi) σ h = ((evE C a σ h).bind fun x h => (optR lo.isAbs (evE C lo σ) h).bind fun l h => (optR hi.isAbs (evE C hi σ) h).bind fun u h => ofO (sliceF h x l u) h))
  ∧ (∀ (a : CE) (σ : CSt) (h : Hc), evE C (.rev a) σ h = ((evE C a σ h).bind fun x h => ofO (revF h x) h))
  ∧ (∀  (σ : CSt) (h : Hc), evE C (.absent) σ h = (.stuck))
  ∧ (∀ (es : CEs) (σ : CSt) (h : Hc), evE C (.tup es) σ h = ((evEs C es σ h).bind fun ds h => .ok (.tup ds) h))
  ∧ (∀ (es : CEs) (σ : CSt) (h : Hc), evE C (.lst es) σ h = ((evEs C es σ h).bind fun ds h => .ok (.lst ds) h))
  ∧ (∀ (elt : CE) (t : Tg) (it : CI) (cond : CE) (own : List Nat) (σ : CSt) (h : Hc), evE C (.comp elt t it cond own) σ h = ((evI C it σ h).bind fun d h => if d.xs.length ≤ line then lmap [] (compF (evE C elt) (condR cond.isAbs (evE C cond)) t d.g (cwipe σ own) d.xs h) else .stuck))
  ∧ (∀ (it : CI) (σ : CSt) (h : Hc), evE C (.lrange it) σ h = ((evI C it σ h).bind fun d h => if d.xs.length ≤ line then .ok (.lst d.xs) h else .stuck))
  ∧ (∀ (e : CE) (σ : CSt) (h : Hc), evE C (.cell e) σ h = ((evE C e σ h).bind fun x h => match x with
    | .lst xs => .ok (.ref h.length) (h ++ [.lst xs])
    | _ => .stuck))
  ∧ (∀ (t : Bool) (σ : CSt) (h : Hc), evE C (.dict0 t) σ h = (.ok (.ref h.length) (h ++ [if t then .dT [] else .dK []])))
  ∧ (∀ (o : CE) (k : CE) (d : CE) (σ : CSt) (h : Hc), evE C (.dget o k d) σ h = ((evE C o σ h).bind fun x h => if isDictD h x then (evE C k σ h).bind fun y h => (evE C d σ h).bind fun z h => match x with
    | .ref n => match lookD h n y with
      | some r => .ok (r.getD z) h
      | none => .stuck
    | _ => .stuck
    else .stuck))
  ∧ (∀ (σ : CSt) (h : Hc), evEs C .nil σ h = .ok [] h) ∧ (∀ (e : CE) (es : CEs) (σ : CSt) (h : Hc), evEs C (.cons e es) σ h = (evE C e σ h).bind fun d h => (evEs C es σ h).bind fun ds h => .ok (d :: ds) h)
  ∧ (∀ (e : CE) (σ : CSt) (h : Hc), evI C (.seq e) σ h = ((evE C e σ h).bind fun d h => match seqD h d with
    | some xs => .ok ⟨xs, guardOf h d⟩ h
    | none => .stuck))
  ∧ (∀ (a : CE) (σ : CSt) (h : Hc), evI C (.rng1 a) σ h = ((evE C a σ h).bind fun d h => match d with
    | .int j => if smallI j then .ok ⟨rngD 0 1 j.toNat, []⟩ h else .stuck
    | _ => .stuck))
  ∧ (∀ (a : CE) (b : CE) (σ : CSt) (h : Hc), evI C (.rng2 a b) σ h = ((evE C a σ h).bind fun d h => (evE C b σ h).bind fun e h => match d, e with
    | .int i, .int j => if smallI i && smallI j then .ok ⟨rngD i 1 (j - i).toNat, []⟩ h else .stuck
    | _, _ => .stuck))
  ∧ (∀ (a : CE) (b : CE) (c : CE) (σ : CSt) (h : Hc), evI C (.rng3 a b c) σ h = ((evE C a σ h).bind fun d h => (evE C b σ h).bind fun e h => (evE C c σ h).bind fun f h => match d, e, f with
    | .int i, .int j, .int k => if Builtin.Range.small i j k && decide (k ≠ 0) && decide (k.natAbs < 1073741824) && decide (Builtin.Range.rangeSize i j k = (rngN i j k : Nat)) then .ok ⟨rngD i k (rngN i j k), []⟩ h else .stuck
    | _, _, _ => .stuck))
  ∧ (∀ (e : CE) (σ : CSt) (h : Hc), evI C (.enum e) σ h = ((evE C e σ h).bind fun d h => match seqD h d with
    | some xs => .ok ⟨enumD 0 xs, guardOf h d⟩ h
    | none => .stuck))
  ∧ (∀ (a : CE) (b : CE) (σ : CSt) (h : Hc), evI C (.zip a b) σ h = ((evE C a σ h).bind fun d h => (evE C b σ h).bind fun e h => match seqD h d, seqD h e with
    | some xs, some ys => .ok ⟨zipD xs ys, guardOf h d ++ guardOf h e⟩ h
    | _, _ => .stuck)) := by
  refine ⟨?_, ?_, ?_, ?_, ?_, ?_, ?_, ?_, ?_, ?_, ?_, ?_, ?_, ?_, ?_, ?_, ?_, ?_, ?_, ?_, ?_, ?_, ?_, ?_, ?_, ?_, ?_, ?_, ?_, ?_, ?_, ?_, ?_, ?_⟩ <;> intros <;> simp only [evE, evEs, evI] <;> rfl
theorem EB : (∀ (α β : Type) (a : α) (h : Hc) (f : α → Hc → ERes β), (ERes.ok a h).bind f = f a h) ∧ (∀ (α β : Type) (x : Exc) (h : Hc) (f : α → Hc → ERes β), (ERes.exc x h : ERes α).bind f = .exc x h) ∧
  (∀ (α : Type) (a : α) (h : Hc) (σ : CSt) (f : α → Hc → SRes), (ERes.ok a h).st σ f = f a h) ∧ (∀ (α : Type) (x : Exc) (h : Hc) (σ : CSt) (f : α → Hc → SRes), (ERes.exc x h : ERes α).st σ f = .exc x σ h) ∧
  (∀ (α : Type) (a : α) (h : Hc), ofO (some a) h = .ok a h) ∧ (∀ (α : Type) (a : α) (f : α → SRes), stO (some a) f = f a) ∧ (∀ (b : Bool) (h : Hc), boolR (.ok (.bl b) h) = .ok b h) ∧ (∀ (h : Hc) (d : D), finR h d h = .ok d h) ∧ (∀ (h : Hc) (x : Exc), finX h x h = .exc x h) :=
  ⟨fun _ _ _ _ _ => rfl, fun _ _ _ _ _ => rfl, fun _ _ _ _ _ => rfl, fun _ _ _ _ _ => rfl, fun _ _ _ => rfl, fun _ _ _ => rfl, fun _ _ => rfl, fun _ _ => finR_self, fun _ _ => finX_self⟩
theorem ES {P : Env2} : (∀ (t : Tg) (e : CE) (σ : CSt) (h : Hc), evS P (.asg t e) σ h = ((evE P.C e σ h).st σ fun d h => stO (asgT t d σ) fun σ' => .ok (.nx σ') h))
  ∧ (∀ (i : Nat) (op : Operator) (e : CE) (σ : CSt) (h : Hc), evS P (.aug i op e) σ h = (match σ[i]? with
    | some (some x) => (evE P.C e σ h).st σ fun y h => match x, y with
      | .int a, .int b => stO (binF h op (.int a) (.int b)) fun z => .ok (.nx (σ.set i (some z))) h
      | _, _ => .stuck
    | _ => .stuck))
  ∧ (∀ (o : CE) (i : CE) (e : CE) (σ : CSt) (h : Hc), evS P (.sput o i e) σ h = ((evE P.C e σ h).st σ fun v h => (evE P.C o σ h).st σ fun x h => (evE P.C i σ h).st σ fun y h => stO (putF h x y v) fun h' => .ok (.nx σ) h'))
  ∧ (∀ (o : CE) (i : CE) (op : Operator) (e : CE) (σ : CSt) (h : Hc), evS P (.saug o i op e) σ h = ((evE P.C o σ h).st σ fun x h => (evE P.C i σ h).st σ fun y h => stO (refIdx h x y) fun u => (evE P.C e σ h).st σ fun v h =>
      match u, v with
      | .int a, .int b => stO (binF h op (.int a) (.int b)) fun w => stO (putF h x y w) fun h' => .ok (.nx σ) h'
      | _, _ => .stuck))
  ∧ (∀ (e : CE) (σ : CSt) (h : Hc), evS P (.expr e) σ h = ((evE P.C e σ h).st σ fun _ h => .ok (.nx σ) h))
  ∧ (∀ (o : CE) (e : CE) (σ : CSt) (h : Hc), evS P (.app o e) σ h = ((evE P.C o σ h).st σ fun x h => if isLstD h x = false then .stuck else (evE P.C e σ h).st σ fun v h => match x with
    | .ref n => match h[n]? with
      | some (.lst xs) => if xs.length < line then .ok (.nx σ) (h.set n (.lst (xs ++ [v]))) else .stuck
      | _ => .stuck
    | _ => .stuck))
  ∧ (∀ (t : CE) (a : CSs) (b : CSs) (σ : CSt) (h : Hc), evS P (.ifs t a b) σ h = ((boolR (evE P.C t σ h)).st σ fun c h => if c then evSs P a σ h else evSs P b σ h))
  ∧ (∀ (t : Tg) (it : CI) (body : CSs) (σ : CSt) (h : Hc), evS P (.for_ t it body) σ h = ((evI P.C it σ h).st σ fun d h => forF (evSs P body) t d.g d.xs σ h))
  ∧ (∀ (t : CE) (body : CSs) (σ : CSt) (h : Hc), evS P (.whl t body) σ h = (whF (evE P.C t) (evSs P body) wFuel σ h))
  ∧ (∀ (e : CE) (σ : CSt) (h : Hc), evS P (.ret e) σ h = ((evE P.C e σ h).st σ fun d h => .ok (.rt d) h))
  ∧ (∀  (σ : CSt) (h : Hc), evS P (.retN) σ h = (.ok (.rt .non) h))
  ∧ (∀  (σ : CSt) (h : Hc), evS P (.brk) σ h = (.ok (.bk σ) h))
  ∧ (∀  (σ : CSt) (h : Hc), evS P (.pass) σ h = (.ok (.nx σ) h))
  ∧ (∀ (x : Nat) (e : CE) (σ : CSt) (h : Hc), evS P (.raise x e) σ h = (if e.isAbs then .exc ⟨x, none⟩ σ h else (evE P.C e σ h).st σ fun d h => .exc ⟨x, some d⟩ σ h))
  ∧ (∀ (body : CSs) (x : Nat) (suite : CSs) (σ : CSt) (h : Hc), evS P (.try_ body x suite) σ h = (match evSs P body σ h with
    | .exc y σ' h' => match P.sub y.cls x with
      | some true => noExc (evSs P suite σ' h')
      | some false => .exc y σ' h'
      | none => .stuck
    | r => r))
  ∧ (∀ (is : List Nat) (σ : CSt) (h : Hc), evS P (.kill is) σ h = (.ok (.nx (ckill σ is)) h))
  ∧ (∀ (ss : CSs) (σ : CSt) (h : Hc), evS P (.scope ss) σ h = (scopeR h (evSs P ss σ h)))
  ∧ (∀ (σ : CSt) (h : Hc), evSs P .nil σ h = .ok (.nx σ) h) ∧ (∀ (s : CS) (ss : CSs) (σ : CSt) (h : Hc), evSs P (.cons s ss) σ h = (match evS P s σ h with
    | .ok (.nx σ') h' => evSs P ss σ' h'
    | r => r)) := by
  refine ⟨?_, ?_, ?_, ?_, ?_, ?_, ?_, ?_, ?_, ?_, ?_, ?_, ?_, ?_, ?_, ?_, ?_, ?_, ?_⟩ <;> intros <;> simp only [evS, evSs] <;> rfl
end Cl

namespace Cl
open PySem PySem.Spec PyProof.Rows L2
/-! ### calls by their body's run -/
theorem call_rt {P : Pg} {n i : Nat} {d : CDef} {b : CSs} {σ : CSt} {args : List D} {h t : Hc} {v : D} (hd : P.defs[i]? = some d) (hl : args.length = d.np) (hb : d.body = b) (hσ : cstart d args = σ) (hv : v.low h.length = true) (e : evSs ⟨callN P n, P.sub⟩ b σ h = .ok (.rt v) (h ++ t)) : callN P (n + 1) i args h = .ok v h := by
  subst hb hσ
  rw [call_eq hd hl, e]
  exact finR_app hv
theorem call_rt0 {P : Pg} {n i : Nat} {d : CDef} {b : CSs} {σ : CSt} {args : List D} {h h' : Hc} {v : D} (hd : P.defs[i]? = some d) (hl : args.length = d.np) (hb : d.body = b) (hσ : cstart d args = σ) (e : evSs ⟨callN P n, P.sub⟩ b σ h = .ok (.rt v) h') : callN P (n + 1) i args h = finR h v h' := by
  subst hb hσ
  rw [call_eq hd hl, e]
theorem call_rtp {P : Pg} {n i : Nat} {d : CDef} {b : CSs} {σ : CSt} {args : List D} {h : Hc} {v : D} (hd : P.defs[i]? = some d) (hl : args.length = d.np) (hb : d.body = b) (hσ : cstart d args = σ) (e : evSs ⟨callN P n, P.sub⟩ b σ h = .ok (.rt v) h) : callN P (n + 1) i args h = .ok v h := by
  subst hb hσ
  rw [call_eq hd hl, e]
  exact finR_self
theorem call_nxp {P : Pg} {n i : Nat} {d : CDef} {b : CSs} {σ σ' : CSt} {args : List D} {h : Hc} (hd : P.defs[i]? = some d) (hl : args.length = d.np) (hb : d.body = b) (hσ : cstart d args = σ) (e : evSs ⟨callN P n, P.sub⟩ b σ h = .ok (.nx σ') h) : callN P (n + 1) i args h = .ok .non h := by
  subst hb hσ
  rw [call_eq hd hl, e]
  exact finR_self
theorem call_xp {P : Pg} {n i : Nat} {d : CDef} {b : CSs} {σ σ' : CSt} {args : List D} {h : Hc} {x : Exc} (hd : P.defs[i]? = some d) (hl : args.length = d.np) (hb : d.body = b) (hσ : cstart d args = σ) (e : evSs ⟨callN P n, P.sub⟩ b σ h = .exc x σ' h) : callN P (n + 1) i args h = .exc x h := by
  subst hb hσ
  rw [call_eq hd hl, e]
  exact finX_self
/-! ### statements in a row -/
theorem seqN {P : Env2} {s : CS} {ss : CSs} {σ σ' : CSt} {h h' : Hc} (e : evS P s σ h = .ok (.nx σ') h') : evSs P (.cons s ss) σ h = evSs P ss σ' h' := by simp only [evSs, e]
theorem seqR {P : Env2} {s : CS} {ss : CSs} {σ : CSt} {h h' : Hc} {d : D} (e : evS P s σ h = .ok (.rt d) h') : evSs P (.cons s ss) σ h = .ok (.rt d) h' := by simp only [evSs, e]
theorem seqX {P : Env2} {s : CS} {ss : CSs} {σ σ' : CSt} {h h' : Hc} {x : Exc} (e : evS P s σ h = .exc x σ' h') : evSs P (.cons s ss) σ h = .exc x σ' h' := by simp only [evSs, e]
theorem asgV {P : Env2} {i : Nat} {e : CE} {σ : CSt} {h h' : Hc} {d : D} (k : evE P.C e σ h = .ok d h') : evS P (.asg (.v i) e) σ h = .ok (.nx (σ.set i (some d))) h' := by simp only [ES, EB, k, asgT]
theorem retE {P : Env2} {e : CE} {σ : CSt} {h h' : Hc} {d : D} (k : evE P.C e σ h = .ok d h') : evS P (.ret e) σ h = .ok (.rt d) h' := by simp only [ES, EB, k]
theorem ifT {P : Env2} {t : CE} {a b : CSs} {σ : CSt} {h h' : Hc} (k : evE P.C t σ h = .ok (.bl true) h') : evS P (.ifs t a b) σ h = evSs P a σ h' := by simp only [ES, EB, k, if_true]
theorem ifF {P : Env2} {t : CE} {a b : CSs} {σ : CSt} {h h' : Hc} (k : evE P.C t σ h = .ok (.bl false) h') : evS P (.ifs t a b) σ h = evSs P b σ h' := by simp only [ES, EB, k]; rfl
theorem ifB {P : Env2} {t : CE} {a b : CSs} {σ : CSt} {h h' : Hc} {c : Bool} (k : evE P.C t σ h = .ok (.bl c) h') : evS P (.ifs t a b) σ h = if c then evSs P a σ h' else evSs P b σ h' := by simp only [ES, EB, k]
theorem forS {P : Env2} {t : Tg} {e : CE} {body : CSs} {σ : CSt} {h h' : Hc} {d : D} {xs : List D} {g : Guard} (k : evE P.C e σ h = .ok d h') (k2 : seqD h' d = some xs) (k3 : guardOf h' d = g) : evS P (.for_ t (.seq e) body) σ h = forF (evSs P body) t g xs σ h' := by
  simp only [ES, EV, EB, k, k2, k3]
theorem forR1 {P : Env2} {t : Tg} {a : CE} {body : CSs} {σ : CSt} {h h' : Hc} {j : Int} (k : evE P.C a σ h = .ok (.int j) h') (k2 : smallI j = true) : evS P (.for_ t (.rng1 a) body) σ h = forF (evSs P body) t [] (rngD 0 1 j.toNat) σ h' := by
  simp only [ES, EV, EB, k, k2, if_true]
theorem forR2 {P : Env2} {t : Tg} {a b : CE} {body : CSs} {σ : CSt} {h h' h'' : Hc} {i j : Int} (k : evE P.C a σ h = .ok (.int i) h') (k1 : evE P.C b σ h' = .ok (.int j) h'') (k2 : smallI i = true) (k3 : smallI j = true) : evS P (.for_ t (.rng2 a b) body) σ h = forF (evSs P body) t [] (rngD i 1 (j - i).toNat) σ h'' := by
  simp only [ES, EV, EB, k, k1, k2, k3, Bool.and_self, if_true]
theorem raiseN {P : Env2} {x : Nat} {σ : CSt} {h : Hc} : evS P (.raise x .absent) σ h = .exc ⟨x, none⟩ σ h := by simp only [ES, CE.isAbs, if_true]
/-! ### loops -/
/-- a loop over made items whose body goes on -/
theorem forF_map {α S : Type} {fb : CSt → Hc → SRes} {t : Tg} {g : Guard} (enc : α → D) (R : S → CSt → Hc → Prop) (f : S → α → S) (hg : ∀ s σ h, R s σ h → gOk g h = true) : ∀ (xs : List α), (∀ s x σ h, x ∈ xs → R s σ h → ∃ σ1, asgT t (enc x) σ = some σ1 ∧ ∃ σ2 h2, fb σ1 h = .ok (.nx σ2) h2 ∧ R (f s x) σ2 h2) →
    ∀ (s : S) (σ : CSt) (h : Hc), R s σ h → ∃ σ' h', forF fb t g (xs.map enc) σ h = .ok (.nx σ') h' ∧ R (xs.foldl f s) σ' h'
  | [], _, s, σ, h, r => ⟨σ, h, by rw [List.map_nil, forF, if_pos (hg _ _ _ r)], r⟩
  | x :: xs, k, s, σ, h, r => by
    obtain ⟨σ1, e1, σ2, h2, e2, r2⟩ := k s x σ h (by simp) r
    obtain ⟨σ', h', e3, r3⟩ := forF_map enc R f hg xs (fun s y σ h hy => k s y σ h (by simp [hy])) (f s x) σ2 h2 r2
    refine ⟨σ', h', ?_, r3⟩
    rw [List.map_cons, forF, if_pos (hg _ _ _ r), e1]
    simp only [e2]
    exact e3
/-- .. with an exact state -/
theorem forF_mapE {α S : Type} {fb : CSt → Hc → SRes} {t : Tg} {g : Guard} (enc : α → D) (eσ : S → CSt) (eh : S → Hc) (f : S → α → S) (I : S → Prop) (hg : ∀ s, I s → gOk g (eh s) = true) (xs : List α) (k : ∀ s x, x ∈ xs → I s → I (f s x) ∧ ∃ σ1, asgT t (enc x) (eσ s) = some σ1 ∧ fb σ1 (eh s) = .ok (.nx (eσ (f s x))) (eh (f s x))) (s : S) (hI : I s) :
    forF fb t g (xs.map enc) (eσ s) (eh s) = .ok (.nx (eσ (xs.foldl f s))) (eh (xs.foldl f s)) ∧ I (xs.foldl f s) := by
  obtain ⟨σ', h', e, rfl, rfl, r⟩ := forF_map (fb := fb) (t := t) (g := g) enc (fun s σ h => σ = eσ s ∧ h = eh s ∧ I s) f (fun s σ h r => by obtain ⟨_, rfl, r⟩ := r; exact hg s r) xs (fun s x σ h hx r => by
    obtain ⟨rfl, rfl, r⟩ := r
    obtain ⟨i, σ1, e1, e2⟩ := k s x hx r
    exact ⟨σ1, e1, _, _, e2, rfl, rfl, i⟩) s (eσ s) (eh s) ⟨rfl, rfl, hI⟩
  exact ⟨e, r⟩
/-- a loop over made items that may leave with a value -/
theorem forF_ret {α : Type} {fb : CSt → Hc → SRes} {t : Tg} {g : Guard} (enc : α → D) (R : CSt → Hc → Prop) (B : SRes → Prop) (hg : ∀ σ h, R σ h → gOk g h = true) (hend : ∀ σ h, R σ h → B (.ok (.nx σ) h)) : ∀ (xs : List α), (∀ x σ h, x ∈ xs → R σ h → ∃ σ1, asgT t (enc x) σ = some σ1 ∧ ((∃ σ2 h2, fb σ1 h = .ok (.nx σ2) h2 ∧ R σ2 h2) ∨ (∃ d h2, fb σ1 h = .ok (.rt d) h2 ∧ B (.ok (.rt d) h2)))) →
    ∀ (σ : CSt) (h : Hc), R σ h → B (forF fb t g (xs.map enc) σ h)
  | [], _, σ, h, r => by rw [List.map_nil, forF, if_pos (hg _ _ r)]; exact hend σ h r
  | x :: xs, k, σ, h, r => by
    obtain ⟨σ1, e1, q⟩ := k x σ h (by simp) r
    rw [List.map_cons, forF, if_pos (hg _ _ r), e1]
    rcases q with ⟨σ2, h2, e2, r2⟩ | ⟨d, h2, e2, b⟩
    · simp only [e2]
      exact forF_ret enc R B hg hend xs (fun y σ h hy => k y σ h (by simp [hy])) σ2 h2 r2
    · simp only [e2]; exact b
/-- while: a size that falls -/
theorem whF_meas {fc : EvF} {fb : CSt → Hc → SRes} (I : Nat → CSt → Hc → Prop) (B : SRes → Prop) (k : ∀ m σ h, I m σ h → (∃ h', boolR (fc σ h) = .ok false h' ∧ B (.ok (.nx σ) h')) ∨ (∃ h1 σ2 h2, boolR (fc σ h) = .ok true h1 ∧ fb σ h1 = .ok (.nx σ2) h2 ∧ ∃ m', m' < m ∧ I m' σ2 h2)) :
    ∀ (n m : Nat) (σ : CSt) (h : Hc), m < n → I m σ h → B (whF fc fb n σ h) := by
  intro n
  induction n with
  | zero => intro m σ h hm; omega
  | succ n ih =>
    intro m σ h hm hI
    rw [whF]
    rcases k m σ h hI with ⟨h', e, b⟩ | ⟨h1, σ2, h2, e1, e2, m', hm', hI'⟩
    · simp only [e]; exact b
    · simp only [e1, e2]
      exact ih m' σ2 h2 (by omega) hI'
/-- while, as a statement -/
theorem whS {P : Env2} {t : CE} {body : CSs} {σ : CSt} {h : Hc} (I : Nat → CSt → Hc → Prop) (B : SRes → Prop) (k : ∀ m σ h, I m σ h → (∃ h', boolR (evE P.C t σ h) = .ok false h' ∧ B (.ok (.nx σ) h')) ∨ (∃ h1 σ2 h2, boolR (evE P.C t σ h) = .ok true h1 ∧ evSs P body σ h1 = .ok (.nx σ2) h2 ∧ ∃ m', m' < m ∧ I m' σ2 h2)) (m : Nat) (hm : m < 1000000000) (hI : I m σ h) : B (evS P (.whl t body) σ h) := by
  simp only [ES]
  exact whF_meas I B k wFuel m σ h hm hI

/-! ### plain data -/
mutual
/-- how deep -/
def D.dep : D → Nat
  | .tup xs => D.deps xs + 1
  | .lst xs => D.deps xs + 1
  | _ => 0
def D.deps : List D → Nat
  | [] => 0
  | x :: xs => max (D.dep x) (D.deps xs)
end
mutual
theorem depth_dep : ∀ (d : D), PyData.depth d.toPy ≤ d.dep + 1
  | .non => by simp [D.toPy, PyData.depth]
  | .bl _ => by simp [D.toPy, PyData.depth]
  | .int _ => by simp [D.toPy, PyData.depth]
  | .str _ => by simp [D.toPy, PyData.depth]
  | .ref _ => by simp [D.toPy, PyData.depth]
  | .fn _ => by simp [D.toPy, PyData.depth]
  | .tup xs => by
    have := depths_dep xs
    simp only [D.toPy, PyData.depth, D.dep]
    omega
  | .lst xs => by
    have := depths_dep xs
    simp only [D.toPy, PyData.depth, D.dep]
    omega
theorem depths_dep : ∀ (ds : List D), PyData.depthAll (D.toPys ds) ≤ D.deps ds + 1
  | [] => by simp [D.toPys, PyData.depthAll]
  | d :: ds => by
    have h1 := depth_dep d
    have h2 := depths_dep ds
    simp only [D.toPys, PyData.depthAll, D.deps]
    omega
end
mutual
/-- ints, texts, None, tuples and lists of these: Python's == is equality -/
def D.hard : D → Bool
  | .non => true
  | .int _ => true
  | .str x => PyData.strOk x
  | .tup xs => D.hards xs
  | .lst xs => D.hards xs
  | _ => false
def D.hards : List D → Bool
  | [] => true
  | x :: xs => D.hard x && D.hards xs
end
mutual
theorem hard_plain : ∀ {d : D}, d.hard = true → d.plain = true
  | .non, _ => rfl
  | .int _, _ => rfl
  | .str _, _ => rfl
  | .bl _, h => by simp [D.hard] at h
  | .ref _, h => by simp [D.hard] at h
  | .fn _, h => by simp [D.hard] at h
  | .tup xs, h => by
    simp only [D.hard] at h
    simp only [D.plain]
    exact hards_plain h
  | .lst xs, h => by
    simp only [D.hard] at h
    simp only [D.plain]
    exact hards_plain h
theorem hards_plain : ∀ {ds : List D}, D.hards ds = true → D.plains ds = true
  | [], _ => rfl
  | d :: ds, h => by
    simp only [D.hards, Bool.and_eq_true] at h
    simp only [D.plains, Bool.and_eq_true]
    exact ⟨hard_plain h.1, hards_plain h.2⟩
end
mutual
theorem canLay_hard : ∀ {d : D}, d.hard = true → PyData.canLay0 d.toPy = true
  | .non, _ => rfl
  | .bl _, h => by simp [D.hard] at h
  | .int _, _ => by simp [D.toPy, PyData.canLay0]
  | .str _, h => by simpa [D.toPy, PyData.canLay0, D.hard] using h
  | .ref _, h => by simp [D.hard] at h
  | .fn _, h => by simp [D.hard] at h
  | .tup xs, h => by
    simp only [D.hard] at h
    simp only [D.toPy, PyData.canLay0]
    exact canLays_hard h
  | .lst xs, h => by
    simp only [D.hard] at h
    simp only [D.toPy, PyData.canLay0]
    exact canLays_hard h
theorem canLays_hard : ∀ {ds : List D}, D.hards ds = true → PyData.canLayAll0 (D.toPys ds) = true
  | [], _ => rfl
  | d :: ds, h => by
    simp only [D.hards, Bool.and_eq_true] at h
    simp only [D.toPys, PyData.canLayAll0, Bool.and_eq_true]
    exact ⟨canLay_hard h.1, canLays_hard h.2⟩
end
theorem okD_of {d : D} (h : d.hard = true) (k : d.dep ≤ 63) : d.okD = true := by
  unfold D.okD SeqAt.shaped
  rw [hard_plain h, canLay_hard h, Bool.true_and, Bool.true_and, decide_eq_true_eq]
  have := depth_dep d
  omega
mutual
theorem eqv_hard : ∀ {a b : D}, a.hard = true → b.hard = true → PyData.eqv a.toPy b.toPy = decide (a = b)
  | .non, b, _, hb => by cases b <;> simp [D.hard] at hb <;> simp [D.toPy, PyData.eqv]
  | .int i, b, _, hb => by cases b <;> simp [D.hard] at hb <;> simp [D.toPy, PyData.eqv, Bool.beq_eq_decide_eq]
  | .str x, b, _, hb => by cases b <;> simp [D.hard] at hb <;> (simp [D.toPy, PyData.eqv]; try rw [Bool.eq_iff_iff]; try simp)
  | .bl _, _, h, _ => by simp [D.hard] at h
  | .ref _, _, h, _ => by simp [D.hard] at h
  | .fn _, _, h, _ => by simp [D.hard] at h
  | .tup xs, b, ha, hb => by
    cases b <;> simp [D.hard] at hb <;> simp [D.toPy, PyData.eqv]
    rw [eqvs_hard (by simpa [D.hard] using ha) hb]
  | .lst xs, b, ha, hb => by
    cases b <;> simp [D.hard] at hb <;> simp [D.toPy, PyData.eqv]
    rw [eqvs_hard (by simpa [D.hard] using ha) hb]
theorem eqvs_hard : ∀ {as bs : List D}, D.hards as = true → D.hards bs = true → PyData.eqvAll (D.toPys as) (D.toPys bs) = decide (as = bs)
  | [], bs, _, _ => by cases bs <;> simp [D.toPys, PyData.eqvAll]
  | a :: as, bs, ha, hb => by
    cases bs with
    | nil => simp [D.toPys, PyData.eqvAll]
    | cons b bs =>
      simp only [D.hards, Bool.and_eq_true] at ha hb
      simp only [D.toPys, PyData.eqvAll, eqv_hard ha.1 hb.1, eqvs_hard ha.2 hb.2, List.cons.injEq, Bool.decide_and]
end
theorem eqF_hard {h : Hc} {a b : D} (ha : a.hard = true) (hb : b.hard = true) (da : a.dep ≤ 63) (db : b.dep ≤ 63) : eqF h a b = some (decide (a = b)) := by
  have key : eqG h a b = some (decide (a = b)) := by
    unfold eqG
    have h1 : der h a = a := by cases a <;> first | rfl | simp [D.hard] at ha
    have h2 : der h b = b := by cases b <;> first | rfl | simp [D.hard] at hb
    rw [h1, h2, okD_of ha da, okD_of hb db, eqv_hard ha hb]
    rfl
  unfold eqF
  split
  · simp
  · simp
  · simp
  · exact key
abbrev natD (f : List Nat) : List D := f.map fun n => D.int (n : Nat)
theorem hards_natD : ∀ (l : List Nat), D.hards (natD l) = true
  | [] => rfl
  | a :: l => by
    rw [natD, List.map_cons, D.hards, D.hard, Bool.true_and]
    exact hards_natD l
theorem deps_natD : ∀ (l : List Nat), D.deps (natD l) = 0
  | [] => rfl
  | a :: l => by
    have := deps_natD l
    simp only [natD] at this
    simp [D.deps, D.dep, this]
theorem plains_natD (l : List Nat) : D.plains (natD l) = true := hards_plain (hards_natD l)
theorem any_natD {a : Nat} : ∀ (l : List Nat), ((natD l).any fun z => PyData.eqv z.toPy (D.int (a : Nat)).toPy) = decide (a ∈ l)
  | [] => rfl
  | b :: l => by
    rw [natD, List.map_cons, List.any_cons]
    have := any_natD (a := a) l
    rw [natD] at this
    rw [this]
    rw [Bool.eq_iff_iff]
    simp only [D.toPy, PyData.eqv, Bool.or_eq_true, decide_eq_true_eq, beq_iff_eq, List.mem_cons, Int.natCast_inj]
    exact ⟨fun h => h.imp Eq.symm id, fun h => h.imp Eq.symm id⟩
theorem cell_at {h : Hc} {c : Cell} : (h ++ [c])[h.length]? = some c := by simp
theorem cell_set {h : Hc} {c c' : Cell} : (h ++ [c]).set h.length c' = h ++ [c'] := by simp
theorem inF_nat {H : Hc} {a n : Nat} {l : List Nat} (e : H[n]? = some (.lst (natD l))) : inF H (.int (a : Nat)) (.ref n) = some (decide (a ∈ l)) := by
  have k1 : der H (.ref n) = .lst (natD l) := by simp only [der, e]
  have k2 : der H (.int (a : Nat)) = .int (a : Nat) := rfl
  have k3 : (D.int (a : Nat)).okD = true := okD_of rfl (Nat.zero_le _)
  have k4 : (D.lst (natD l)).okD = true := okD_of (by rw [D.hard]; exact hards_natD l) (by rw [D.dep, deps_natD]; omega)
  have k5 : inData H (.int (a : Nat)) (.lst (natD l)) (natD l) = some (decide (a ∈ l)) := by
    unfold inData
    simp only [k2, k3, k4, any_natD, Bool.and_self, if_true]
  unfold inF
  rw [k1]
  exact k5
theorem atD_nat {l : List Nat} {i : Nat} {v : Nat} (e : l[i]? = some v) : atD (natD l) (i : Int) = some (.int (v : Nat)) := by
  have hlt := (List.getElem?_eq_some_iff.mp e).1
  unfold atD ixD
  rw [if_pos (by omega), if_pos (by rw [natD, List.length_map]; omega)]
  simp [natD, e]
theorem atD_of {α : Type} {l : List α} {i : Nat} {v : α} (e : l[i]? = some v) : atD l (i : Int) = some v := by
  have hlt := (List.getElem?_eq_some_iff.mp e).1
  unfold atD ixD
  rw [if_pos (by omega), if_pos (by omega)]
  simp [e]
end Cl

namespace Cl
open PySem PySem.Spec PyProof.Rows L2
def b_is_integer : CSs := (.cons (.ret (.and_ (.isin (.var 0) [.int]) (.not_ (.isin (.var 0) [.bool])))) .nil)
def d_is_integer : CDef := ⟨1, 1, b_is_integer⟩
abbrev i_is_integer : Nat := 0
def b_is_row : CSs := (.cons (.ifs (.or_ (.not_ (.isin (.var 0) [.tuple])) (.cmp .Gt (.bi .len (.cons (.var 0) .nil)) (.var 1))) (.cons (.ret (.cst (.bl false))) .nil) .nil) (.cons (.ret (.bi .all (.cons (.comp (.and_ (.call 0 (.cons (.var 3) .nil)) (.chain .LtE .LtE (.cst (.int 0)) (.var 3) (.var 2))) (.v 3) (.seq (.var 0)) .absent [3]) .nil))) .nil))
def d_is_row : CDef := ⟨4, 3, b_is_row⟩
abbrev i_is_row : Nat := 1
def b_has_form : CSs := (.cons (.ifs (.or_ (.not_ (.isin (.var 0) [.tuple])) (.cmp .NotEq (.bi .len (.cons (.var 0) .nil)) (.cst (.int 3)))) (.cons (.ret (.cst (.bl false))) .nil) .nil) (.cons (.asg (.t (.cons (.v 1) (.cons (.v 2) (.cons (.v 3) .nil)))) (.var 0)) (.cons (.ifs (.or_ (.not_ (.call 1 (.cons (.var 1) (.cons (.glob "MOST_POINTS" (.int 7)) (.cons (.glob "MOST_GENUS" (.int 6)) .nil))))) (.or_ (.cmp .Lt (.bi .len (.cons (.var 1) .nil)) (.cst (.int 1))) (.not_ (.call 1 (.cons (.var 3) (.cons (.glob "MOST_LEGS" (.int 8)) (.cons (.bin .Sub (.bi .len (.cons (.var 1) .nil)) (.cst (.int 1))) .nil))))))) (.cons (.ret (.cst (.bl false))) .nil) .nil) (.cons (.ifs (.or_ (.not_ (.isin (.var 2) [.tuple])) (.cmp .Gt (.bi .len (.cons (.var 2) .nil)) (.glob "MOST_EDGES" (.int 20)))) (.cons (.ret (.cst (.bl false))) .nil) .nil) (.cons (.ifs (.not_ (.bi .all (.cons (.comp (.and_ (.call 1 (.cons (.var 4) (.cons (.cst (.int 2)) (.cons (.bin .Sub (.bi .len (.cons (.var 1) .nil)) (.cst (.int 1))) .nil)))) (.and_ (.cmp .Eq (.bi .len (.cons (.var 4) .nil)) (.cst (.int 2))) (.cmp .LtE (.idx (.var 4) (.cst (.int 0))) (.idx (.var 4) (.cst (.int 1)))))) (.v 4) (.seq (.var 2)) .absent [4]) .nil))) (.cons (.ret (.cst (.bl false))) .nil) .nil) (.cons (.ret (.cmp .Eq (.bi .list (.cons (.var 2) .nil)) (.bi .sorted (.cons (.var 2) .nil)))) .nil))))))
def d_has_form : CDef := ⟨5, 1, b_has_form⟩
abbrev i_has_form : Nat := 2
def L_valences_of_0 : CSs := (.cons (.saug (.var 1) (.var 2) .Add (.cst (.int 1))) (.cons (.saug (.var 1) (.var 3) .Add (.cst (.int 1))) .nil))
def L_valences_of_1 : CSs := (.cons (.saug (.var 1) (.var 3) .Add (.cst (.int 1))) .nil)
def b_valences_of : CSs := (.cons (.asg (.v 1) (.cell (.bin .Mult (.lst (.cons (.cst (.int 0)) .nil)) (.bi .len (.cons (.idx (.var 0) (.cst (.int 0))) .nil))))) (.cons (.for_ (.t (.cons (.v 2) (.cons (.v 3) .nil))) (.seq (.idx (.var 0) (.cst (.int 1)))) L_valences_of_0) (.cons (.for_ (.v 3) (.seq (.idx (.var 0) (.cst (.int 2)))) L_valences_of_1) (.cons (.ret (.bi .tuple (.cons (.var 1) .nil))) .nil))))
def d_valences_of : CDef := ⟨4, 1, b_valences_of⟩
abbrev i_valences_of : Nat := 3
def L_is_joined_0 : CSs := (.cons (.ifs (.and_ (.cmp .Eq (.var 5) (.idx (.var 1) (.var 2))) (.cmp .NotIn (.var 6) (.var 1))) (.cons (.app (.var 1) (.var 6)) .nil) .nil) .nil)
def L_is_joined_1 : CSs := (.cons (.for_ (.t (.cons (.v 5) (.cons (.v 6) .nil))) (.seq (.tup (.cons (.tup (.cons (.var 3) (.cons (.var 4) .nil))) (.cons (.tup (.cons (.var 4) (.cons (.var 3) .nil))) .nil)))) L_is_joined_0) (.cons (.kill [5, 6]) .nil))
def L_is_joined_2 : CSs := (.cons (.for_ (.t (.cons (.v 3) (.cons (.v 4) .nil))) (.seq (.idx (.var 0) (.cst (.int 1)))) L_is_joined_1) (.cons (.aug 2 .Add (.cst (.int 1))) (.cons (.kill [3, 4, 5, 6]) .nil)))
def b_is_joined : CSs := (.cons (.asg (.v 1) (.cell (.lst (.cons (.cst (.int 0)) .nil)))) (.cons (.asg (.v 2) (.cst (.int 0))) (.cons (.whl (.cmp .Lt (.var 2) (.bi .len (.cons (.var 1) .nil))) L_is_joined_2) (.cons (.ret (.cmp .Eq (.bi .len (.cons (.var 1) .nil)) (.bi .len (.cons (.idx (.var 0) (.cst (.int 0))) .nil)))) .nil))))
def d_is_joined : CDef := ⟨7, 1, b_is_joined⟩
abbrev i_is_joined : Nat := 4
def b_is_stable_graph : CSs := (.cons (.ifs (.not_ (.call 2 (.cons (.var 0) .nil))) (.cons (.ret (.cst (.bl false))) .nil) .nil) (.cons (.asg (.v 1) (.call 3 (.cons (.var 0) .nil))) (.cons (.ifs (.bi .any (.cons (.comp (.cmp .Lt (.bin .Add (.bin .Mult (.cst (.int 2)) (.idx (.idx (.var 0) (.cst (.int 0))) (.var 2))) (.idx (.var 1) (.var 2))) (.cst (.int 3))) (.v 2) (.rng1 (.bi .len (.cons (.var 1) .nil))) .absent [2]) .nil)) (.cons (.ret (.cst (.bl false))) .nil) .nil) (.cons (.ret (.call 4 (.cons (.var 0) .nil))) .nil))))
def d_is_stable_graph : CDef := ⟨3, 1, b_is_stable_graph⟩
abbrev i_is_stable_graph : Nat := 5
def b_check_graph : CSs := (.cons (.ifs (.not_ (.call 5 (.cons (.var 0) .nil))) (.cons (.raise 1 .absent) .nil) .nil) .nil)
def d_check_graph : CDef := ⟨1, 1, b_check_graph⟩
abbrev i_check_graph : Nat := 6
def b_graph_type : CSs := (.cons (.expr (.call 6 (.cons (.var 0) .nil))) (.cons (.ret (.tup (.cons (.bin .Add (.bin .Sub (.bin .Add (.bi .sum (.cons (.idx (.var 0) (.cst (.int 0))) .nil)) (.bi .len (.cons (.idx (.var 0) (.cst (.int 1))) .nil))) (.bi .len (.cons (.idx (.var 0) (.cst (.int 0))) .nil))) (.cst (.int 1))) (.cons (.bi .len (.cons (.idx (.var 0) (.cst (.int 2))) .nil)) .nil)))) .nil))
def d_graph_type : CDef := ⟨1, 1, b_graph_type⟩
abbrev i_graph_type : Nat := 7
def b_graph_valences : CSs := (.cons (.expr (.call 6 (.cons (.var 0) .nil))) (.cons (.ret (.call 3 (.cons (.var 0) .nil))) .nil))
def d_graph_valences : CDef := ⟨1, 1, b_graph_valences⟩
abbrev i_graph_valences : Nat := 8
def b__law_inner : CSs := (.cons (.ifs (.isin (.var 0) [.tuple]) (.cons (.ret (.bi .tuple (.cons (.comp (.call 9 (.cons (.var 1) .nil)) (.v 1) (.seq (.var 0)) .absent [1]) .nil))) .nil) .nil) (.cons (.ifs (.or_ (.cmp .Is (.var 0) (.cst .non)) (.or_ (.isin (.var 0) [.str]) (.and_ (.isin (.var 0) [.int]) (.not_ (.isin (.var 0) [.bool]))))) (.cons (.ret (.var 0)) .nil) .nil) (.cons (.ret (.cst (.str (Str.ofString "odd")))) .nil)))
def d__law_inner : CDef := ⟨2, 1, b__law_inner⟩
abbrev i__law_inner : Nat := 9
def b__law_plain : CSs := (.cons (.ret (.ite (.isin (.var 0) [.str]) (.cst (.str (Str.ofString "odd"))) (.call 9 (.cons (.var 0) .nil)))) .nil)
def d__law_plain : CDef := ⟨1, 1, b__law_plain⟩
abbrev i__law_plain : Nat := 10
def L__law_state_0 : CSs := (.cons (.asg (.v 1) (.bin .Add (.bin .Mult (.var 1) (.cst (.int 1000003))) (.bi .abs (.cons (.var 3) .nil)))) (.cons (.asg (.v 2) (.bin .Mod (.bi .int (.cons (.bin .Add (.bin .Mult (.var 2) (.cst (.int 48271))) (.var 3)) .nil)) (.cst (.int 2147483647)))) .nil))
def b__law_state : CSs := (.cons (.asg (.v 1) (.cst (.int 0))) (.cons (.asg (.v 2) (.cst (.int 1))) (.cons (.for_ (.v 3) (.seq (.sl (.var 0) .absent (.cst (.int 63)))) L__law_state_0) (.cons (.ret (.cell (.lst (.cons (.var 1) (.cons (.var 2) .nil))))) .nil))))
def d__law_state : CDef := ⟨4, 1, b__law_state⟩
abbrev i__law_state : Nat := 11
def b__law_take : CSs := (.cons (.ifs (.cmp .Gt (.idx (.var 0) (.cst (.int 0))) (.cst (.int 0))) (.cons (.asg (.v 2) (.bin .Mod (.bi .int (.cons (.idx (.var 0) (.cst (.int 0))) .nil)) (.var 1))) (.cons (.sput (.var 0) (.cst (.int 0)) (.bin .FloorDiv (.idx (.var 0) (.cst (.int 0))) (.var 1))) (.cons (.ret (.var 2)) .nil))) .nil) (.cons (.sput (.var 0) (.cst (.int 1)) (.bin .Mod (.bi .int (.cons (.bin .Add (.bin .Mult (.idx (.var 0) (.cst (.int 1))) (.cst (.int 48271))) (.cst (.int 11))) .nil)) (.cst (.int 2147483647)))) (.cons (.ret (.bin .Mod (.bi .int (.cons (.bin .FloorDiv (.idx (.var 0) (.cst (.int 1))) (.cst (.int 7))) .nil)) (.var 1))) .nil)))
def d__law_take : CDef := ⟨3, 2, b__law_take⟩
abbrev i__law_take : Nat := 12
def b__law_is_whole : CSs := (.cons (.ret (.and_ (.isin (.var 0) [.int]) (.not_ (.isin (.var 0) [.bool])))) .nil)
def d__law_is_whole : CDef := ⟨1, 1, b__law_is_whole⟩
abbrev i__law_is_whole : Nat := 13
def L__law_joined_0 : CSs := (.cons (.asg (.t (.cons (.v 5) (.cons (.v 6) .nil))) (.tup (.cons (.idx (.var 2) (.var 3)) (.cons (.idx (.var 2) (.var 4)) .nil)))) (.cons (.asg (.v 2) (.comp (.ite (.cmp .Eq (.var 7) (.var 6)) (.var 5) (.var 7)) (.v 7) (.seq (.var 2)) .absent [7])) (.cons (.kill [5, 6]) .nil)))
def b__law_joined : CSs := (.cons (.asg (.v 2) (.lrange (.rng1 (.var 0)))) (.cons (.for_ (.t (.cons (.v 3) (.cons (.v 4) .nil))) (.seq (.var 1)) L__law_joined_0) (.cons (.ret (.var 2)) .nil)))
def d__law_joined : CDef := ⟨8, 2, b__law_joined⟩
abbrev i__law_joined : Nat := 14
def L__law_valences_0 : CSs := (.cons (.sput (.var 1) (.var 2) (.bin .Add (.idx (.var 1) (.var 2)) (.cst (.int 1)))) (.cons (.sput (.var 1) (.var 3) (.bin .Add (.idx (.var 1) (.var 3)) (.cst (.int 1)))) .nil))
def L__law_valences_1 : CSs := (.cons (.sput (.var 1) (.var 3) (.bin .Add (.idx (.var 1) (.var 3)) (.cst (.int 1)))) .nil)
def b__law_valences : CSs := (.cons (.asg (.v 1) (.cell (.comp (.cst (.int 0)) (.v 3) (.seq (.idx (.var 0) (.cst (.int 0)))) .absent [3]))) (.cons (.for_ (.t (.cons (.v 2) (.cons (.v 3) .nil))) (.seq (.idx (.var 0) (.cst (.int 1)))) L__law_valences_0) (.cons (.for_ (.v 3) (.seq (.idx (.var 0) (.cst (.int 2)))) L__law_valences_1) (.cons (.ret (.bi .tuple (.cons (.var 1) .nil))) .nil))))
def d__law_valences : CDef := ⟨4, 1, b__law_valences⟩
abbrev i__law_valences : Nat := 15
def L__law_drawn_graph_0 : CSs := (.cons (.app (.var 3) (.tup (.cons (.call 12 (.cons (.var 0) (.cons (.var 4) .nil))) (.cons (.var 4) .nil)))) .nil)
def L__law_drawn_graph_1 : CSs := (.cons (.asg (.t (.cons (.v 6) (.cons (.v 4) .nil))) (.tup (.cons (.call 12 (.cons (.var 0) (.cons (.var 2) .nil))) (.cons (.call 12 (.cons (.var 0) (.cons (.var 2) .nil))) .nil)))) (.cons (.app (.var 3) (.tup (.cons (.bi .min2 (.cons (.var 6) (.cons (.var 4) .nil))) (.cons (.bi .max2 (.cons (.var 6) (.cons (.var 4) .nil))) .nil)))) (.cons (.kill [5, 6]) .nil)))
def L__law_drawn_graph_2 : CSs := (.cons (.ifs (.cmp .Lt (.bin .Add (.bin .Mult (.cst (.int 2)) (.idx (.var 10) (.var 4))) (.idx (.var 9) (.var 4))) (.cst (.int 3))) (.cons (.sput (.var 10) (.var 4) (.ite (.cmp .Gt (.idx (.var 9) (.var 4)) (.cst (.int 0))) (.cst (.int 1)) (.cst (.int 2)))) .nil) .nil) .nil)
def b__law_drawn_graph : CSs := (.cons (.asg (.v 2) (.bin .Add (.cst (.int 1)) (.call 12 (.cons (.var 0) (.cons (.var 1) .nil))))) (.cons (.asg (.v 3) (.cell (.lst .nil))) (.cons (.for_ (.v 4) (.rng2 (.cst (.int 1)) (.var 2)) L__law_drawn_graph_0) (.cons (.for_ (.v 5) (.rng1 (.call 12 (.cons (.var 0) (.cons (.idx (.lst (.cons (.cst (.int 4)) (.cons (.cst (.int 4)) (.cons (.cst (.int 14)) .nil)))) (.call 12 (.cons (.var 0) (.cons (.cst (.int 3)) .nil)))) .nil)))) L__law_drawn_graph_1) (.cons (.asg (.v 7) (.comp (.call 12 (.cons (.var 0) (.cons (.var 2) .nil))) (.v 5) (.rng1 (.call 12 (.cons (.var 0) (.cons (.idx (.lst (.cons (.cst (.int 4)) (.cons (.cst (.int 9)) .nil))) (.call 12 (.cons (.var 0) (.cons (.cst (.int 2)) .nil)))) .nil)))) .absent [5])) (.cons (.asg (.v 8) (.tup (.cons (.bi .tuple (.cons (.comp (.call 12 (.cons (.var 0) (.cons (.idx (.lst (.cons (.cst (.int 3)) (.cons (.cst (.int 7)) .nil))) (.call 12 (.cons (.var 0) (.cons (.cst (.int 2)) .nil)))) .nil))) (.v 4) (.rng1 (.var 2)) .absent [4]) .nil)) (.cons (.bi .tuple (.cons (.bi .sorted (.cons (.var 3) .nil)) .nil)) (.cons (.bi .tuple (.cons (.var 7) .nil)) .nil))))) (.cons (.asg (.v 9) (.call 15 (.cons (.var 8) .nil))) (.cons (.asg (.v 10) (.cell (.bi .list (.cons (.idx (.var 8) (.cst (.int 0))) .nil)))) (.cons (.for_ (.v 4) (.rng1 (.var 2)) L__law_drawn_graph_2) (.cons (.ret (.tup (.cons (.bi .tuple (.cons (.var 10) .nil)) (.cons (.idx (.var 8) (.cst (.int 1))) (.cons (.idx (.var 8) (.cst (.int 2))) .nil))))) .nil))))))))))
def d__law_drawn_graph : CDef := ⟨11, 2, b__law_drawn_graph⟩
abbrev i__law_drawn_graph : Nat := 16
def b__law_is_number : CSs := (.cons (.ret (.and_ (.isin (.var 0) [.int]) (.not_ (.isin (.var 0) [.bool])))) .nil)
def d__law_is_number : CDef := ⟨1, 1, b__law_is_number⟩
abbrev i__law_is_number : Nat := 17
def b__law_bent : CSs := (.cons (.ifs (.and_ (.isin (.var 1) [.tuple]) (.and_ (.cmp .Gt (.bi .len (.cons (.var 1) .nil)) (.cst (.int 0))) (.or_ (.cmp .Eq (.var 2) (.cst (.int 0))) (.cmp .Gt (.call 12 (.cons (.var 0) (.cons (.cst (.int 5)) .nil))) (.cst (.int 0)))))) (.cons (.asg (.v 3) (.call 12 (.cons (.var 0) (.cons (.bi .len (.cons (.var 1) .nil)) .nil)))) (.cons (.ret (.bin .Add (.bin .Add (.sl (.var 1) .absent (.var 3)) (.tup (.cons (.call 18 (.cons (.var 0) (.cons (.idx (.var 1) (.var 3)) (.cons (.bin .Add (.var 2) (.cst (.int 1))) .nil)))) .nil))) (.sl (.var 1) (.bin .Add (.var 3) (.cst (.int 1))) .absent))) .nil)) .nil) (.cons (.ifs (.call 17 (.cons (.var 1) .nil)) (.cons (.ret (.idx (.lst (.cons (.bin .Add (.var 1) (.cst (.int 1))) (.cons (.bin .Sub (.var 1) (.cst (.int 1))) (.cons (.neg (.var 1)) (.cons (.cst .non) (.cons (.cst (.bl true)) (.cons (.bi .str (.cons (.var 1) .nil)) (.cons (.tup (.cons (.var 1) .nil)) .nil)))))))) (.call 12 (.cons (.var 0) (.cons (.cst (.int 7)) .nil))))) .nil) .nil) (.cons (.ifs (.isin (.var 1) [.tuple]) (.cons (.ret (.idx (.lst (.cons (.bin .Add (.var 1) (.tup (.cons (.cst (.int 0)) .nil))) (.cons (.bi .list (.cons (.var 1) .nil)) (.cons (.cst .non) (.cons (.sl (.var 1) .absent (.neg (.cst (.int 1)))) (.cons (.bin .Add (.var 1) (.var 1)) (.cons (.bin .Add (.tup (.cons (.tup .nil) .nil)) (.var 1)) .nil))))))) (.call 12 (.cons (.var 0) (.cons (.cst (.int 6)) .nil))))) .nil) .nil) (.cons (.ret (.idx (.lst (.cons (.cst .non) (.cons (.cst (.str (Str.ofString ""))) (.cons (.cst (.str (Str.ofString "a"))) (.cons (.cst (.int 0)) (.cons (.tup (.cons (.cst (.str (Str.ofString "over"))) .nil)) .nil)))))) (.call 12 (.cons (.var 0) (.cons (.cst (.int 5)) .nil))))) .nil))))
def d__law_bent : CDef := ⟨4, 3, b__law_bent⟩
abbrev i__law_bent : Nat := 18
def b__law_says : CSs := (.cons (.ret (.and_ (.isin (.var 0) [.bool]) (.cmp .Eq (.var 0) (.var 1)))) .nil)
def d__law_says : CDef := ⟨2, 2, b__law_says⟩
abbrev i__law_says : Nat := 19
def b__law_told : CSs := (.cons (.try_ (.cons (.ret (.call 10 (.cons (.ite (.cmp .Eq (.var 0) (.cst (.int 0))) (.call 7 (.cons (.var 1) .nil)) (.call 8 (.cons (.var 1) .nil))) .nil))) .nil) 1 (.cons (.ret (.cst (.str (Str.ofString "malformed")))) .nil)) .nil)
def d__law_told : CDef := ⟨2, 2, b__law_told⟩
abbrev i__law_told : Nat := 20
def b__law_numbers : CSs := (.cons (.ifs (.or_ (.not_ (.isin (.var 0) [.tuple])) (.cmp .Gt (.bi .len (.cons (.var 0) .nil)) (.var 1))) (.cons (.ret (.cst (.bl false))) .nil) .nil) (.cons (.ret (.bi .all (.cons (.comp (.and_ (.call 13 (.cons (.var 3) .nil)) (.chain .LtE .LtE (.cst (.int 0)) (.var 3) (.var 2))) (.v 3) (.seq (.var 0)) .absent [3]) .nil))) .nil))
def d__law_numbers : CDef := ⟨4, 3, b__law_numbers⟩
abbrev i__law_numbers : Nat := 21
def b__law_is_stable : CSs := (.cons (.ifs (.or_ (.not_ (.isin (.var 0) [.tuple])) (.cmp .NotEq (.bi .len (.cons (.var 0) .nil)) (.cst (.int 3)))) (.cons (.ret (.cst (.bl false))) .nil) .nil) (.cons (.asg (.t (.cons (.v 1) (.cons (.v 2) (.cons (.v 3) .nil)))) (.var 0)) (.cons (.ifs (.or_ (.not_ (.call 21 (.cons (.var 1) (.cons (.cst (.int 7)) (.cons (.cst (.int 6)) .nil))))) (.or_ (.cmp .Eq (.bi .len (.cons (.var 1) .nil)) (.cst (.int 0))) (.not_ (.call 21 (.cons (.var 3) (.cons (.cst (.int 8)) (.cons (.bin .Sub (.bi .len (.cons (.var 1) .nil)) (.cst (.int 1))) .nil))))))) (.cons (.ret (.cst (.bl false))) .nil) .nil) (.cons (.ifs (.or_ (.not_ (.isin (.var 2) [.tuple])) (.cmp .Gt (.bi .len (.cons (.var 2) .nil)) (.cst (.int 20)))) (.cons (.ret (.cst (.bl false))) .nil) .nil) (.cons (.ifs (.not_ (.bi .all (.cons (.comp (.and_ (.call 21 (.cons (.var 5) (.cons (.cst (.int 2)) (.cons (.bin .Sub (.bi .len (.cons (.var 1) .nil)) (.cst (.int 1))) .nil)))) (.and_ (.cmp .Eq (.bi .len (.cons (.var 5) .nil)) (.cst (.int 2))) (.cmp .LtE (.idx (.var 5) (.cst (.int 0))) (.idx (.var 5) (.cst (.int 1)))))) (.v 5) (.seq (.var 2)) .absent [5]) .nil))) (.cons (.ret (.cst (.bl false))) .nil) .nil) (.cons (.ifs (.or_ (.cmp .NotEq (.bi .list (.cons (.var 2) .nil)) (.bi .sorted (.cons (.var 2) .nil))) (.cmp .NotEq (.bi .lenset (.cons (.call 14 (.cons (.bi .len (.cons (.var 1) .nil)) (.cons (.var 2) .nil))) .nil)) (.cst (.int 1)))) (.cons (.ret (.cst (.bl false))) .nil) .nil) (.cons (.asg (.v 4) (.call 15 (.cons (.var 0) .nil))) (.cons (.ret (.bi .all (.cons (.comp (.cmp .Gt (.bin .Add (.bin .Mult (.cst (.int 2)) (.idx (.var 1) (.var 6))) (.idx (.var 4) (.var 6))) (.cst (.int 2))) (.v 6) (.rng1 (.bi .len (.cons (.var 1) .nil))) .absent [6]) .nil))) .nil))))))))
def d__law_is_stable : CDef := ⟨7, 1, b__law_is_stable⟩
abbrev i__law_is_stable : Nat := 22
def L_law_0 : CSs := (.cons (.asg (.v 8) (.call 22 (.cons (.var 7) .nil))) (.cons (.ifs (.not_ (.call 19 (.cons (.call 5 (.cons (.var 7) .nil)) (.cons (.var 8) .nil)))) (.cons (.ret (.cst (.bl false))) .nil) .nil) (.cons (.ifs (.var 8) (.cons (.asg (.v 9) (.bin .Add (.bin .Sub (.bin .Add (.bi .sum (.cons (.idx (.var 7) (.cst (.int 0))) .nil)) (.bi .len (.cons (.idx (.var 7) (.cst (.int 1))) .nil))) (.bi .len (.cons (.idx (.var 7) (.cst (.int 0))) .nil))) (.cst (.int 1)))) (.cons (.ifs (.or_ (.cmp .NotEq (.call 20 (.cons (.cst (.int 0)) (.cons (.var 7) .nil))) (.tup (.cons (.var 9) (.cons (.bi .len (.cons (.idx (.var 7) (.cst (.int 2))) .nil)) .nil)))) (.cmp .NotEq (.call 20 (.cons (.cst (.int 1)) (.cons (.var 7) .nil))) (.call 15 (.cons (.var 7) .nil)))) (.cons (.ret (.cst (.bl false))) .nil) .nil) .nil)) (.cons (.ifs (.cmp .NotEq (.comp (.call 20 (.cons (.var 12) (.cons (.var 7) .nil))) (.v 12) (.seq (.tup (.cons (.cst (.int 0)) (.cons (.cst (.int 1)) .nil)))) .absent [12]) (.bin .Mult (.lst (.cons (.cst (.str (Str.ofString "malformed"))) .nil)) (.cst (.int 2)))) (.cons (.ret (.cst (.bl false))) .nil) .nil) .nil)) (.cons (.kill [8, 9]) .nil))))
def b_law : CSs := (.cons (.asg (.v 1) (.call 11 (.cons (.var 0) .nil))) (.cons (.asg (.v 2) (.call 16 (.cons (.var 1) (.cons (.idx (.lst (.cons (.cst (.int 5)) (.cons (.cst (.int 7)) .nil))) (.call 12 (.cons (.var 1) (.cons (.cst (.int 2)) .nil)))) .nil)))) (.cons (.asg (.t (.cons (.v 3) (.cons (.v 4) (.cons (.v 5) .nil)))) (.var 2)) (.cons (.asg (.v 6) (.lst (.cons (.var 2) (.cons (.bi .list (.cons (.var 2) .nil)) (.cons (.tup (.cons (.var 3) (.cons (.var 4) .nil))) (.cons (.tup (.cons (.bi .list (.cons (.var 3) .nil)) (.cons (.var 4) (.cons (.var 5) .nil)))) (.cons (.tup (.cons (.var 3) (.cons (.bi .list (.cons (.var 4) .nil)) (.cons (.var 5) .nil)))) (.cons (.tup (.cons (.var 3) (.cons (.var 4) (.cons (.bi .list (.cons (.var 5) .nil)) .nil)))) .nil)))))))) (.cons (.asg (.v 6) (.bin .Add (.var 6) (.lst (.cons (.tup (.cons (.bin .Add (.var 3) (.tup (.cons (.cst (.int 1)) .nil))) (.cons (.var 4) (.cons (.var 5) .nil)))) (.cons (.tup (.cons (.var 3) (.cons (.rev (.var 4)) (.cons (.var 5) .nil)))) (.cons (.tup (.cons (.var 3) (.cons (.bin .Add (.var 4) (.tup (.cons (.tup (.cons (.cst (.int 0)) (.cons (.bi .len (.cons (.var 3) .nil)) .nil))) .nil))) (.cons (.var 5) .nil)))) .nil)))))) (.cons (.asg (.v 6) (.bin .Add (.var 6) (.lst (.cons (.tup (.cons (.bin .Mult (.tup (.cons (.cst (.int 0)) .nil)) (.bi .len (.cons (.var 3) .nil))) (.cons (.var 4) (.cons (.var 5) .nil)))) (.cons (.tup (.cons (.var 3) (.cons (.sl (.var 4) (.cst (.int 1)) .absent) (.cons (.var 5) .nil)))) (.cons (.tup (.cons (.var 3) (.cons (.var 4) (.cons (.bin .Add (.var 5) (.tup (.cons (.neg (.cst (.int 1))) .nil))) .nil)))) (.cons (.tup (.cons (.var 3) (.cons (.var 4) (.cons (.bin .Add (.var 5) (.bin .Mult (.tup (.cons (.cst (.int 0)) .nil)) (.cst (.int 9)))) .nil)))) .nil))))))) (.cons (.asg (.v 6) (.bin .Add (.var 6) (.lst (.cons (.tup (.cons (.tup (.cons (.cst (.int 7)) .nil)) (.cons (.tup .nil) (.cons (.tup .nil) .nil)))) (.cons (.tup (.cons (.tup (.cons (.cst (.int 2)) .nil)) (.cons (.tup .nil) (.cons (.tup .nil) .nil)))) (.cons (.tup (.cons (.tup (.cons (.cst (.int 1)) .nil)) (.cons (.tup .nil) (.cons (.tup .nil) .nil)))) (.cons (.tup (.cons (.tup (.cons (.cst (.int 1)) .nil)) (.cons (.tup .nil) (.cons (.tup (.cons (.cst (.int 0)) .nil)) .nil)))) (.cons (.tup (.cons (.tup (.cons (.cst (.int 0)) .nil)) (.cons (.tup (.cons (.tup (.cons (.cst (.int 0)) (.cons (.cst (.int 0)) .nil))) .nil)) (.cons (.tup (.cons (.cst (.int 0)) .nil)) .nil)))) (.cons (.tup (.cons (.tup .nil) (.cons (.tup .nil) (.cons (.tup .nil) .nil)))) (.cons (.tup (.cons (.tup (.cons (.cst (.int 0)) .nil)) (.cons (.tup .nil) (.cons (.tup (.cons (.cst (.int 0)) (.cons (.cst (.int 0)) (.cons (.cst (.int 0)) .nil)))) .nil)))) .nil)))))))))) (.cons (.asg (.v 6) (.bin .Add (.var 6) (.lst (.cons (.tup (.cons (.tup (.cons (.cst (.bl true)) .nil)) (.cons (.tup .nil) (.cons (.tup (.cons (.cst (.int 0)) .nil)) .nil)))) (.cons (.tup (.cons (.tup (.cons (.cst (.int 0)) .nil)) (.cons (.bin .Mult (.tup (.cons (.tup (.cons (.cst (.int 0)) (.cons (.cst (.int 0)) .nil))) .nil)) (.cst (.int 20))) (.cons (.tup .nil) .nil)))) (.cons (.tup (.cons (.tup (.cons (.cst (.int 0)) .nil)) (.cons (.bin .Mult (.tup (.cons (.tup (.cons (.cst (.int 0)) (.cons (.cst (.int 0)) .nil))) .nil)) (.cst (.int 21))) (.cons (.tup .nil) .nil)))) (.cons (.cst .non) (.cons (.cst (.int 5)) (.cons (.cst (.str (Str.ofString "G"))) (.cons (.tup (.cons (.cst (.int 1)) (.cons (.cst (.int 2)) (.cons (.cst (.int 3)) .nil)))) .nil)))))))))) (.cons (.asg (.v 6) (.bin .Add (.var 6) (.lst (.cons (.tup (.cons (.bin .Mult (.tup (.cons (.cst (.int 1)) .nil)) (.cst (.int 7))) (.cons (.bi .tuple (.cons (.comp (.tup (.cons (.var 10) (.cons (.bin .Add (.var 10) (.cst (.int 1))) .nil))) (.v 10) (.rng1 (.cst (.int 6))) .absent [10]) .nil)) (.cons (.tup .nil) .nil)))) (.cons (.tup (.cons (.bin .Mult (.tup (.cons (.cst (.int 1)) .nil)) (.cst (.int 8))) (.cons (.bi .tuple (.cons (.comp (.tup (.cons (.var 10) (.cons (.bin .Add (.var 10) (.cst (.int 1))) .nil))) (.v 10) (.rng1 (.cst (.int 7))) .absent [10]) .nil)) (.cons (.tup .nil) .nil)))) .nil))))) (.cons (.asg (.v 6) (.bin .Add (.var 6) (.comp (.call 18 (.cons (.var 1) (.cons (.var 2) (.cons (.cst (.int 0)) .nil)))) (.v 11) (.rng1 (.cst (.int 8))) .absent [11]))) (.cons (.for_ (.v 7) (.seq (.var 6)) L_law_0) (.cons (.ret (.cst (.bl true))) .nil))))))))))))
def d_law : CDef := ⟨13, 1, b_law⟩
abbrev i_law : Nat := 23
def defs : List CDef := [d_is_integer, d_is_row, d_has_form, d_valences_of, d_is_joined, d_is_stable_graph, d_check_graph, d_graph_type, d_graph_valences, d__law_inner, d__law_plain, d__law_state, d__law_take, d__law_is_whole, d__law_joined, d__law_valences, d__law_drawn_graph, d__law_is_number, d__law_bent, d__law_says, d__law_told, d__law_numbers, d__law_is_stable, d_law]
def subT : List ((Nat × Nat) × Bool) := [((0, 0), true), ((0, 1), false), ((1, 0), true), ((1, 1), true)]
def sub (i j : Nat) : Option Bool := subT.lookup (i, j)
def P : Pg := ⟨defs, sub⟩

def top (i : Nat) : Stmt := PySem.Challenge.pw_moduliroads_k07_stable_graphs_judged.main.body.getD i (.Pass ⟨0, 0, 0, 0⟩)
def tx : List DTx := [⟨"is_integer", top 4, ["value"], ["value"]⟩,
  ⟨"is_row", top 10, ["value", "most", "top", "item"], ["value", "most", "top"]⟩,
  ⟨"has_form", top 11, ["value", "genera", "edges", "legs", "edge"], ["value"]⟩,
  ⟨"valences_of", top 12, ["G", "found", "u", "v"], ["G"]⟩,
  ⟨"is_joined", top 13, ["G", "reached", "at", "u", "v", "one", "two"], ["G"]⟩,
  ⟨"is_stable_graph", top 14, ["value", "valences", "v"], ["value"]⟩,
  ⟨"check_graph", top 15, ["G"], ["G"]⟩,
  ⟨"graph_type", top 16, ["G"], ["G"]⟩,
  ⟨"graph_valences", top 17, ["G"], ["G"]⟩,
  ⟨"_law_inner", top 19, ["value", "item"], ["value"]⟩,
  ⟨"_law_plain", top 20, ["value"], ["value"]⟩,
  ⟨"_law_state", top 21, ["script", "seed", "total", "cell"], ["script"]⟩,
  ⟨"_law_take", top 22, ["state", "m", "value"], ["state", "m"]⟩,
  ⟨"_law_is_whole", top 23, ["value"], ["value"]⟩,
  ⟨"_law_joined", top 24, ["n", "pairs", "names", "a", "b", "one", "two", "c"], ["n", "pairs"]⟩,
  ⟨"_law_valences", top 25, ["G", "found", "u", "v"], ["G"]⟩,
  ⟨"_law_drawn_graph", top 26, ["state", "most", "k", "edges", "v", "turn", "u", "legs", "G", "valences", "genera"], ["state", "most"]⟩,
  ⟨"_law_is_number", top 27, ["value"], ["value"]⟩,
  ⟨"_law_bent", top 28, ["state", "value", "deep", "k"], ["state", "value", "deep"]⟩,
  ⟨"_law_says", top 29, ["value", "due"], ["value", "due"]⟩,
  ⟨"_law_told", top 30, ["which", "G"], ["which", "G"]⟩,
  ⟨"_law_numbers", top 31, ["value", "most", "top", "c"], ["value", "most", "top"]⟩,
  ⟨"_law_is_stable", top 32, ["value", "genera", "edges", "legs", "valences", "edge", "v"], ["value"]⟩,
  ⟨"law", top 33, ["script", "state", "G", "genera", "edges", "legs", "values", "value", "good", "genus", "v", "turn", "which"], ["script"]⟩]
def sg : Sg := ⟨["is_integer", "is_row", "has_form", "valences_of", "is_joined", "is_stable_graph", "check_graph", "graph_type", "graph_valences", "_law_inner", "_law_plain", "_law_state", "_law_take", "_law_is_whole", "_law_joined", "_law_valences", "_law_drawn_graph", "_law_is_number", "_law_bent", "_law_says", "_law_told", "_law_numbers", "_law_is_stable", "law"], [("MOST_POINTS", .int 7), ("MOST_GENUS", .int 6), ("MOST_EDGES", .int 20), ("MOST_LEGS", .int 8)], ["Fault", "Malformed"]⟩
set_option maxRecDepth 1000000 in
theorem chk : chkDs sg tx P.defs = true := by decide +kernel
set_option maxHeartbeats 0 in
theorem all_mk {w : World} {K : PySem.W.Frag} {h : Heap} {mg : Str → Option Value} {fa : Addr} {f0 f1 f2 f3 f4 f5 f6 f7 f8 f9 f10 f11 f12 f13 f14 f15 f16 f17 f18 f19 f20 f21 f22 f23 C0 C1 : Addr} (X : K.In h) (G : h.Ns mainGlobals mg) (hfa : mg "law" = some (.ref fa))
    {od0 an0 : Option Addr} {sl0 : Array (Option Value)} {oc0 kV0 dc0 pm0 cd0 ct0 : Value}
    {od1 an1 : Option Addr} {sl1 : Array (Option Value)} {oc1 kV1 dc1 pm1 cd1 ct1 : Value}
    {od2 an2 : Option Addr} {sl2 : Array (Option Value)} {oc2 kV2 dc2 pm2 cd2 ct2 : Value}
    {od3 an3 : Option Addr} {sl3 : Array (Option Value)} {oc3 kV3 dc3 pm3 cd3 ct3 : Value}
    {od4 an4 : Option Addr} {sl4 : Array (Option Value)} {oc4 kV4 dc4 pm4 cd4 ct4 : Value}
    {od5 an5 : Option Addr} {sl5 : Array (Option Value)} {oc5 kV5 dc5 pm5 cd5 ct5 : Value}
    {od6 an6 : Option Addr} {sl6 : Array (Option Value)} {oc6 kV6 dc6 pm6 cd6 ct6 : Value}
    {od7 an7 : Option Addr} {sl7 : Array (Option Value)} {oc7 kV7 dc7 pm7 cd7 ct7 : Value}
    {od8 an8 : Option Addr} {sl8 : Array (Option Value)} {oc8 kV8 dc8 pm8 cd8 ct8 : Value}
    {od9 an9 : Option Addr} {sl9 : Array (Option Value)} {oc9 kV9 dc9 pm9 cd9 ct9 : Value}
    {od10 an10 : Option Addr} {sl10 : Array (Option Value)} {oc10 kV10 dc10 pm10 cd10 ct10 : Value}
    {od11 an11 : Option Addr} {sl11 : Array (Option Value)} {oc11 kV11 dc11 pm11 cd11 ct11 : Value}
    {od12 an12 : Option Addr} {sl12 : Array (Option Value)} {oc12 kV12 dc12 pm12 cd12 ct12 : Value}
    {od13 an13 : Option Addr} {sl13 : Array (Option Value)} {oc13 kV13 dc13 pm13 cd13 ct13 : Value}
    {od14 an14 : Option Addr} {sl14 : Array (Option Value)} {oc14 kV14 dc14 pm14 cd14 ct14 : Value}
    {od15 an15 : Option Addr} {sl15 : Array (Option Value)} {oc15 kV15 dc15 pm15 cd15 ct15 : Value}
    {od16 an16 : Option Addr} {sl16 : Array (Option Value)} {oc16 kV16 dc16 pm16 cd16 ct16 : Value}
    {od17 an17 : Option Addr} {sl17 : Array (Option Value)} {oc17 kV17 dc17 pm17 cd17 ct17 : Value}
    {od18 an18 : Option Addr} {sl18 : Array (Option Value)} {oc18 kV18 dc18 pm18 cd18 ct18 : Value}
    {od19 an19 : Option Addr} {sl19 : Array (Option Value)} {oc19 kV19 dc19 pm19 cd19 ct19 : Value}
    {od20 an20 : Option Addr} {sl20 : Array (Option Value)} {oc20 kV20 dc20 pm20 cd20 ct20 : Value}
    {od21 an21 : Option Addr} {sl21 : Array (Option Value)} {oc21 kV21 dc21 pm21 cd21 ct21 : Value}
    {od22 an22 : Option Addr} {sl22 : Array (Option Value)} {oc22 kV22 dc22 pm22 cd22 ct22 : Value}
    {od23 an23 : Option Addr} {sl23 : Array (Option Value)} {oc23 kV23 dc23 pm23 cd23 ct23 : Value}
    (a0 : PySem.W.nsIn K mainGlobals "is_integer" = some (some (.ref f0))) (l0 : K.lookup f0 = some ⟨oc0, od0, .func (PySem.W.fnOf "is_integer" "is_integer" (L2.defArgs (top 4)) (L2.defBody (top 4)) (L2.defScope (top 4)) .none kV0 dc0 pm0 an0 cd0 ct0), sl0⟩) (c0 : PySem.W.codeIn K cd0 "is_integer" = true) (k0 : PySem.W.keepIn K (.ref f0) = true)
    (a1 : PySem.W.nsIn K mainGlobals "is_row" = some (some (.ref f1))) (l1 : K.lookup f1 = some ⟨oc1, od1, .func (PySem.W.fnOf "is_row" "is_row" (L2.defArgs (top 10)) (L2.defBody (top 10)) (L2.defScope (top 10)) .none kV1 dc1 pm1 an1 cd1 ct1), sl1⟩) (c1 : PySem.W.codeIn K cd1 "is_row" = true) (k1 : PySem.W.keepIn K (.ref f1) = true)
    (a2 : PySem.W.nsIn K mainGlobals "has_form" = some (some (.ref f2))) (l2 : K.lookup f2 = some ⟨oc2, od2, .func (PySem.W.fnOf "has_form" "has_form" (L2.defArgs (top 11)) (L2.defBody (top 11)) (L2.defScope (top 11)) .none kV2 dc2 pm2 an2 cd2 ct2), sl2⟩) (c2 : PySem.W.codeIn K cd2 "has_form" = true) (k2 : PySem.W.keepIn K (.ref f2) = true)
    (a3 : PySem.W.nsIn K mainGlobals "valences_of" = some (some (.ref f3))) (l3 : K.lookup f3 = some ⟨oc3, od3, .func (PySem.W.fnOf "valences_of" "valences_of" (L2.defArgs (top 12)) (L2.defBody (top 12)) (L2.defScope (top 12)) .none kV3 dc3 pm3 an3 cd3 ct3), sl3⟩) (c3 : PySem.W.codeIn K cd3 "valences_of" = true) (k3 : PySem.W.keepIn K (.ref f3) = true)
    (a4 : PySem.W.nsIn K mainGlobals "is_joined" = some (some (.ref f4))) (l4 : K.lookup f4 = some ⟨oc4, od4, .func (PySem.W.fnOf "is_joined" "is_joined" (L2.defArgs (top 13)) (L2.defBody (top 13)) (L2.defScope (top 13)) .none kV4 dc4 pm4 an4 cd4 ct4), sl4⟩) (c4 : PySem.W.codeIn K cd4 "is_joined" = true) (k4 : PySem.W.keepIn K (.ref f4) = true)
    (a5 : PySem.W.nsIn K mainGlobals "is_stable_graph" = some (some (.ref f5))) (l5 : K.lookup f5 = some ⟨oc5, od5, .func (PySem.W.fnOf "is_stable_graph" "is_stable_graph" (L2.defArgs (top 14)) (L2.defBody (top 14)) (L2.defScope (top 14)) .none kV5 dc5 pm5 an5 cd5 ct5), sl5⟩) (c5 : PySem.W.codeIn K cd5 "is_stable_graph" = true) (k5 : PySem.W.keepIn K (.ref f5) = true)
    (a6 : PySem.W.nsIn K mainGlobals "check_graph" = some (some (.ref f6))) (l6 : K.lookup f6 = some ⟨oc6, od6, .func (PySem.W.fnOf "check_graph" "check_graph" (L2.defArgs (top 15)) (L2.defBody (top 15)) (L2.defScope (top 15)) .none kV6 dc6 pm6 an6 cd6 ct6), sl6⟩) (c6 : PySem.W.codeIn K cd6 "check_graph" = true) (k6 : PySem.W.keepIn K (.ref f6) = true)
    (a7 : PySem.W.nsIn K mainGlobals "graph_type" = some (some (.ref f7))) (l7 : K.lookup f7 = some ⟨oc7, od7, .func (PySem.W.fnOf "graph_type" "graph_type" (L2.defArgs (top 16)) (L2.defBody (top 16)) (L2.defScope (top 16)) .none kV7 dc7 pm7 an7 cd7 ct7), sl7⟩) (c7 : PySem.W.codeIn K cd7 "graph_type" = true) (k7 : PySem.W.keepIn K (.ref f7) = true)
    (a8 : PySem.W.nsIn K mainGlobals "graph_valences" = some (some (.ref f8))) (l8 : K.lookup f8 = some ⟨oc8, od8, .func (PySem.W.fnOf "graph_valences" "graph_valences" (L2.defArgs (top 17)) (L2.defBody (top 17)) (L2.defScope (top 17)) .none kV8 dc8 pm8 an8 cd8 ct8), sl8⟩) (c8 : PySem.W.codeIn K cd8 "graph_valences" = true) (k8 : PySem.W.keepIn K (.ref f8) = true)
    (a9 : PySem.W.nsIn K mainGlobals "_law_inner" = some (some (.ref f9))) (l9 : K.lookup f9 = some ⟨oc9, od9, .func (PySem.W.fnOf "_law_inner" "_law_inner" (L2.defArgs (top 19)) (L2.defBody (top 19)) (L2.defScope (top 19)) .none kV9 dc9 pm9 an9 cd9 ct9), sl9⟩) (c9 : PySem.W.codeIn K cd9 "_law_inner" = true) (k9 : PySem.W.keepIn K (.ref f9) = true)
    (a10 : PySem.W.nsIn K mainGlobals "_law_plain" = some (some (.ref f10))) (l10 : K.lookup f10 = some ⟨oc10, od10, .func (PySem.W.fnOf "_law_plain" "_law_plain" (L2.defArgs (top 20)) (L2.defBody (top 20)) (L2.defScope (top 20)) .none kV10 dc10 pm10 an10 cd10 ct10), sl10⟩) (c10 : PySem.W.codeIn K cd10 "_law_plain" = true) (k10 : PySem.W.keepIn K (.ref f10) = true)
    (a11 : PySem.W.nsIn K mainGlobals "_law_state" = some (some (.ref f11))) (l11 : K.lookup f11 = some ⟨oc11, od11, .func (PySem.W.fnOf "_law_state" "_law_state" (L2.defArgs (top 21)) (L2.defBody (top 21)) (L2.defScope (top 21)) .none kV11 dc11 pm11 an11 cd11 ct11), sl11⟩) (c11 : PySem.W.codeIn K cd11 "_law_state" = true) (k11 : PySem.W.keepIn K (.ref f11) = true)
    (a12 : PySem.W.nsIn K mainGlobals "_law_take" = some (some (.ref f12))) (l12 : K.lookup f12 = some ⟨oc12, od12, .func (PySem.W.fnOf "_law_take" "_law_take" (L2.defArgs (top 22)) (L2.defBody (top 22)) (L2.defScope (top 22)) .none kV12 dc12 pm12 an12 cd12 ct12), sl12⟩) (c12 : PySem.W.codeIn K cd12 "_law_take" = true) (k12 : PySem.W.keepIn K (.ref f12) = true)
    (a13 : PySem.W.nsIn K mainGlobals "_law_is_whole" = some (some (.ref f13))) (l13 : K.lookup f13 = some ⟨oc13, od13, .func (PySem.W.fnOf "_law_is_whole" "_law_is_whole" (L2.defArgs (top 23)) (L2.defBody (top 23)) (L2.defScope (top 23)) .none kV13 dc13 pm13 an13 cd13 ct13), sl13⟩) (c13 : PySem.W.codeIn K cd13 "_law_is_whole" = true) (k13 : PySem.W.keepIn K (.ref f13) = true)
    (a14 : PySem.W.nsIn K mainGlobals "_law_joined" = some (some (.ref f14))) (l14 : K.lookup f14 = some ⟨oc14, od14, .func (PySem.W.fnOf "_law_joined" "_law_joined" (L2.defArgs (top 24)) (L2.defBody (top 24)) (L2.defScope (top 24)) .none kV14 dc14 pm14 an14 cd14 ct14), sl14⟩) (c14 : PySem.W.codeIn K cd14 "_law_joined" = true) (k14 : PySem.W.keepIn K (.ref f14) = true)
    (a15 : PySem.W.nsIn K mainGlobals "_law_valences" = some (some (.ref f15))) (l15 : K.lookup f15 = some ⟨oc15, od15, .func (PySem.W.fnOf "_law_valences" "_law_valences" (L2.defArgs (top 25)) (L2.defBody (top 25)) (L2.defScope (top 25)) .none kV15 dc15 pm15 an15 cd15 ct15), sl15⟩) (c15 : PySem.W.codeIn K cd15 "_law_valences" = true) (k15 : PySem.W.keepIn K (.ref f15) = true)
    (a16 : PySem.W.nsIn K mainGlobals "_law_drawn_graph" = some (some (.ref f16))) (l16 : K.lookup f16 = some ⟨oc16, od16, .func (PySem.W.fnOf "_law_drawn_graph" "_law_drawn_graph" (L2.defArgs (top 26)) (L2.defBody (top 26)) (L2.defScope (top 26)) .none kV16 dc16 pm16 an16 cd16 ct16), sl16⟩) (c16 : PySem.W.codeIn K cd16 "_law_drawn_graph" = true) (k16 : PySem.W.keepIn K (.ref f16) = true)
    (a17 : PySem.W.nsIn K mainGlobals "_law_is_number" = some (some (.ref f17))) (l17 : K.lookup f17 = some ⟨oc17, od17, .func (PySem.W.fnOf "_law_is_number" "_law_is_number" (L2.defArgs (top 27)) (L2.defBody (top 27)) (L2.defScope (top 27)) .none kV17 dc17 pm17 an17 cd17 ct17), sl17⟩) (c17 : PySem.W.codeIn K cd17 "_law_is_number" = true) (k17 : PySem.W.keepIn K (.ref f17) = true)
    (a18 : PySem.W.nsIn K mainGlobals "_law_bent" = some (some (.ref f18))) (l18 : K.lookup f18 = some ⟨oc18, od18, .func (PySem.W.fnOf "_law_bent" "_law_bent" (L2.defArgs (top 28)) (L2.defBody (top 28)) (L2.defScope (top 28)) .none kV18 dc18 pm18 an18 cd18 ct18), sl18⟩) (c18 : PySem.W.codeIn K cd18 "_law_bent" = true) (k18 : PySem.W.keepIn K (.ref f18) = true)
    (a19 : PySem.W.nsIn K mainGlobals "_law_says" = some (some (.ref f19))) (l19 : K.lookup f19 = some ⟨oc19, od19, .func (PySem.W.fnOf "_law_says" "_law_says" (L2.defArgs (top 29)) (L2.defBody (top 29)) (L2.defScope (top 29)) .none kV19 dc19 pm19 an19 cd19 ct19), sl19⟩) (c19 : PySem.W.codeIn K cd19 "_law_says" = true) (k19 : PySem.W.keepIn K (.ref f19) = true)
    (a20 : PySem.W.nsIn K mainGlobals "_law_told" = some (some (.ref f20))) (l20 : K.lookup f20 = some ⟨oc20, od20, .func (PySem.W.fnOf "_law_told" "_law_told" (L2.defArgs (top 30)) (L2.defBody (top 30)) (L2.defScope (top 30)) .none kV20 dc20 pm20 an20 cd20 ct20), sl20⟩) (c20 : PySem.W.codeIn K cd20 "_law_told" = true) (k20 : PySem.W.keepIn K (.ref f20) = true)
    (a21 : PySem.W.nsIn K mainGlobals "_law_numbers" = some (some (.ref f21))) (l21 : K.lookup f21 = some ⟨oc21, od21, .func (PySem.W.fnOf "_law_numbers" "_law_numbers" (L2.defArgs (top 31)) (L2.defBody (top 31)) (L2.defScope (top 31)) .none kV21 dc21 pm21 an21 cd21 ct21), sl21⟩) (c21 : PySem.W.codeIn K cd21 "_law_numbers" = true) (k21 : PySem.W.keepIn K (.ref f21) = true)
    (a22 : PySem.W.nsIn K mainGlobals "_law_is_stable" = some (some (.ref f22))) (l22 : K.lookup f22 = some ⟨oc22, od22, .func (PySem.W.fnOf "_law_is_stable" "_law_is_stable" (L2.defArgs (top 32)) (L2.defBody (top 32)) (L2.defScope (top 32)) .none kV22 dc22 pm22 an22 cd22 ct22), sl22⟩) (c22 : PySem.W.codeIn K cd22 "_law_is_stable" = true) (k22 : PySem.W.keepIn K (.ref f22) = true)
    (a23 : PySem.W.nsIn K mainGlobals "law" = some (some (.ref f23))) (l23 : K.lookup f23 = some ⟨oc23, od23, .func (PySem.W.fnOf "law" "law" (L2.defArgs (top 33)) (L2.defBody (top 33)) (L2.defScope (top 33)) .none kV23 dc23 pm23 an23 cd23 ct23), sl23⟩) (c23 : PySem.W.codeIn K cd23 "law" = true) (k23 : PySem.W.keepIn K (.ref f23) = true)
    (xa0 : PySem.W.nsIn K mainGlobals "Fault" = some (some (.ref C0))) (xi0 : PySem.W.excIn K C0 [.type "ValueError", .type "Exception", .type "BaseException", .type "object"] "ValueError.__new__" = true) (xk0 : PySem.W.keepIn K (.ref C0) = true) (xb0 : PySem.W.subIn K (.ref C0) (.type "BaseException") = some true) (xt0 : PySem.W.typeIn K (.ref C0) = some (.type "type")) (xc0 : PySem.W.isClsIn K C0 = true)
    (xa1 : PySem.W.nsIn K mainGlobals "Malformed" = some (some (.ref C1))) (xi1 : PySem.W.excIn K C1 [.type "ValueError", .type "Exception", .type "BaseException", .type "object"] "ValueError.__new__" = true) (xk1 : PySem.W.keepIn K (.ref C1) = true) (xb1 : PySem.W.subIn K (.ref C1) (.type "BaseException") = some true) (xt1 : PySem.W.typeIn K (.ref C1) = some (.type "type")) (xc1 : PySem.W.isClsIn K C1 = true)
    (xs0_0 : PySem.W.subIn K (.ref C0) (.ref C0) = some true)
    (xs0_1 : PySem.W.subIn K (.ref C0) (.ref C1) = some false)
    (xs1_0 : PySem.W.subIn K (.ref C1) (.ref C0) = some true)
    (xs1_1 : PySem.W.subIn K (.ref C1) (.ref C1) = some true)
    {tk0 : Tok} (m0 : PySem.W.nsIn K mainGlobals "MOST_POINTS" = some (some (.int 7 tk0)))
    {tk1 : Tok} (m1 : PySem.W.nsIn K mainGlobals "MOST_GENUS" = some (some (.int 6 tk1)))
    {tk2 : Tok} (m2 : PySem.W.nsIn K mainGlobals "MOST_EDGES" = some (some (.int 20 tk2)))
    {tk3 : Tok} (m3 : PySem.W.nsIn K mainGlobals "MOST_LEGS" = some (some (.int 8 tk3)))
    (z0 : PySem.W.nsIn K mainGlobals "len" = some none)
    (z1 : PySem.W.nsIn K mainGlobals "abs" = some none)
    (z2 : PySem.W.nsIn K mainGlobals "int" = some none)
    (z3 : PySem.W.nsIn K mainGlobals "tuple" = some none)
    (z4 : PySem.W.nsIn K mainGlobals "list" = some none)
    (z5 : PySem.W.nsIn K mainGlobals "sorted" = some none)
    (z6 : PySem.W.nsIn K mainGlobals "sum" = some none)
    (z7 : PySem.W.nsIn K mainGlobals "all" = some none)
    (z8 : PySem.W.nsIn K mainGlobals "any" = some none)
    (z9 : PySem.W.nsIn K mainGlobals "max" = some none)
    (z10 : PySem.W.nsIn K mainGlobals "min" = some none)
    (z11 : PySem.W.nsIn K mainGlobals "str" = some none)
    (z12 : PySem.W.nsIn K mainGlobals "set" = some none)
    (z13 : PySem.W.nsIn K mainGlobals "isinstance" = some none)
    (z14 : PySem.W.nsIn K mainGlobals "range" = some none)
    (z15 : PySem.W.nsIn K mainGlobals "enumerate" = some none)
    (z16 : PySem.W.nsIn K mainGlobals "zip" = some none)
    (z17 : PySem.W.nsIn K mainGlobals "bool" = some none)
    (z18 : PySem.W.nsIn K mainGlobals "dict" = some none)
    (z19 : PySem.W.nsIn K mainGlobals "reversed" = some none) :
    ∃ R Y, R.gt = [] ∧ TxOk sg R Y P w K mg tx ∧ R.fa 23 = fa := by
  have e := hfa.symm.trans (PySem.W.mg_of X G a23)
  cases e
  refine ⟨⟨K, fun i => ([f0, f1, f2, f3, f4, f5, f6, f7, f8, f9, f10, f11, f12, f13, f14, f15, f16, f17, f18, f19, f20, f21, f22, fa] : List Addr).getD i 0, []⟩, ⟨fun i => .ref (([C0, C1] : List Addr).getD i 0), fun _ => ""⟩, rfl, ⟨rfl, rfl, chk, fun i d e => ?_, fun x d e => ?_, fun x hx => ?_, fun i x e => ?_, fun i j b e => ?_⟩, rfl⟩
  · match i, e with
    | 0, e => cases e; exact ⟨_, PySem.W.mg_of X G a0, fun_mk l0 c0 k0, (fun_mk l0 c0 k0).binds (ps := ["value"]) fun _ _ _ _ _ _ us hl => match us, hl with | [_], _ => rfl⟩
    | 1, e => cases e; exact ⟨_, PySem.W.mg_of X G a1, fun_mk l1 c1 k1, (fun_mk l1 c1 k1).binds (ps := ["value", "most", "top"]) fun _ _ _ _ _ _ us hl => match us, hl with | [_, _, _], _ => rfl⟩
    | 2, e => cases e; exact ⟨_, PySem.W.mg_of X G a2, fun_mk l2 c2 k2, (fun_mk l2 c2 k2).binds (ps := ["value"]) fun _ _ _ _ _ _ us hl => match us, hl with | [_], _ => rfl⟩
    | 3, e => cases e; exact ⟨_, PySem.W.mg_of X G a3, fun_mk l3 c3 k3, (fun_mk l3 c3 k3).binds (ps := ["G"]) fun _ _ _ _ _ _ us hl => match us, hl with | [_], _ => rfl⟩
    | 4, e => cases e; exact ⟨_, PySem.W.mg_of X G a4, fun_mk l4 c4 k4, (fun_mk l4 c4 k4).binds (ps := ["G"]) fun _ _ _ _ _ _ us hl => match us, hl with | [_], _ => rfl⟩
    | 5, e => cases e; exact ⟨_, PySem.W.mg_of X G a5, fun_mk l5 c5 k5, (fun_mk l5 c5 k5).binds (ps := ["value"]) fun _ _ _ _ _ _ us hl => match us, hl with | [_], _ => rfl⟩
    | 6, e => cases e; exact ⟨_, PySem.W.mg_of X G a6, fun_mk l6 c6 k6, (fun_mk l6 c6 k6).binds (ps := ["G"]) fun _ _ _ _ _ _ us hl => match us, hl with | [_], _ => rfl⟩
    | 7, e => cases e; exact ⟨_, PySem.W.mg_of X G a7, fun_mk l7 c7 k7, (fun_mk l7 c7 k7).binds (ps := ["G"]) fun _ _ _ _ _ _ us hl => match us, hl with | [_], _ => rfl⟩
    | 8, e => cases e; exact ⟨_, PySem.W.mg_of X G a8, fun_mk l8 c8 k8, (fun_mk l8 c8 k8).binds (ps := ["G"]) fun _ _ _ _ _ _ us hl => match us, hl with | [_], _ => rfl⟩
    | 9, e => cases e; exact ⟨_, PySem.W.mg_of X G a9, fun_mk l9 c9 k9, (fun_mk l9 c9 k9).binds (ps := ["value"]) fun _ _ _ _ _ _ us hl => match us, hl with | [_], _ => rfl⟩
    | 10, e => cases e; exact ⟨_, PySem.W.mg_of X G a10, fun_mk l10 c10 k10, (fun_mk l10 c10 k10).binds (ps := ["value"]) fun _ _ _ _ _ _ us hl => match us, hl with | [_], _ => rfl⟩
    | 11, e => cases e; exact ⟨_, PySem.W.mg_of X G a11, fun_mk l11 c11 k11, (fun_mk l11 c11 k11).binds (ps := ["script"]) fun _ _ _ _ _ _ us hl => match us, hl with | [_], _ => rfl⟩
    | 12, e => cases e; exact ⟨_, PySem.W.mg_of X G a12, fun_mk l12 c12 k12, (fun_mk l12 c12 k12).binds (ps := ["state", "m"]) fun _ _ _ _ _ _ us hl => match us, hl with | [_, _], _ => rfl⟩
    | 13, e => cases e; exact ⟨_, PySem.W.mg_of X G a13, fun_mk l13 c13 k13, (fun_mk l13 c13 k13).binds (ps := ["value"]) fun _ _ _ _ _ _ us hl => match us, hl with | [_], _ => rfl⟩
    | 14, e => cases e; exact ⟨_, PySem.W.mg_of X G a14, fun_mk l14 c14 k14, (fun_mk l14 c14 k14).binds (ps := ["n", "pairs"]) fun _ _ _ _ _ _ us hl => match us, hl with | [_, _], _ => rfl⟩
    | 15, e => cases e; exact ⟨_, PySem.W.mg_of X G a15, fun_mk l15 c15 k15, (fun_mk l15 c15 k15).binds (ps := ["G"]) fun _ _ _ _ _ _ us hl => match us, hl with | [_], _ => rfl⟩
    | 16, e => cases e; exact ⟨_, PySem.W.mg_of X G a16, fun_mk l16 c16 k16, (fun_mk l16 c16 k16).binds (ps := ["state", "most"]) fun _ _ _ _ _ _ us hl => match us, hl with | [_, _], _ => rfl⟩
    | 17, e => cases e; exact ⟨_, PySem.W.mg_of X G a17, fun_mk l17 c17 k17, (fun_mk l17 c17 k17).binds (ps := ["value"]) fun _ _ _ _ _ _ us hl => match us, hl with | [_], _ => rfl⟩
    | 18, e => cases e; exact ⟨_, PySem.W.mg_of X G a18, fun_mk l18 c18 k18, (fun_mk l18 c18 k18).binds (ps := ["state", "value", "deep"]) fun _ _ _ _ _ _ us hl => match us, hl with | [_, _, _], _ => rfl⟩
    | 19, e => cases e; exact ⟨_, PySem.W.mg_of X G a19, fun_mk l19 c19 k19, (fun_mk l19 c19 k19).binds (ps := ["value", "due"]) fun _ _ _ _ _ _ us hl => match us, hl with | [_, _], _ => rfl⟩
    | 20, e => cases e; exact ⟨_, PySem.W.mg_of X G a20, fun_mk l20 c20 k20, (fun_mk l20 c20 k20).binds (ps := ["which", "G"]) fun _ _ _ _ _ _ us hl => match us, hl with | [_, _], _ => rfl⟩
    | 21, e => cases e; exact ⟨_, PySem.W.mg_of X G a21, fun_mk l21 c21 k21, (fun_mk l21 c21 k21).binds (ps := ["value", "most", "top"]) fun _ _ _ _ _ _ us hl => match us, hl with | [_, _, _], _ => rfl⟩
    | 22, e => cases e; exact ⟨_, PySem.W.mg_of X G a22, fun_mk l22 c22 k22, (fun_mk l22 c22 k22).binds (ps := ["value"]) fun _ _ _ _ _ _ us hl => match us, hl with | [_], _ => rfl⟩
    | 23, e => cases e; exact ⟨_, PySem.W.mg_of X G a23, fun_mk l23 c23 k23, (fun_mk l23 c23 k23).binds (ps := ["script"]) fun _ _ _ _ _ _ us hl => match us, hl with | [_], _ => rfl⟩
    | n + 24, e => simp [tx] at e
  · have m := glob_mem e
    rcases m with m | ⟨i, m, rfl⟩
    · have m : (x, d) ∈ ([("MOST_POINTS", .int 7), ("MOST_GENUS", .int 6), ("MOST_EDGES", .int 20), ("MOST_LEGS", .int 8)] : List (Str × D)) := m
      simp only [List.mem_cons, Prod.mk.injEq, List.not_mem_nil, or_false] at m
      rcases m with ⟨rfl, rfl⟩ | ⟨rfl, rfl⟩ | ⟨rfl, rfl⟩ | ⟨rfl, rfl⟩
      · exact ⟨_, .int 7, PySem.W.mg_of X G m0, ⟨_, rfl⟩, rfl⟩
      · exact ⟨_, .int 6, PySem.W.mg_of X G m1, ⟨_, rfl⟩, rfl⟩
      · exact ⟨_, .int 20, PySem.W.mg_of X G m2, ⟨_, rfl⟩, rfl⟩
      · exact ⟨_, .int 8, PySem.W.mg_of X G m3, ⟨_, rfl⟩, rfl⟩
    · match i, m with
      | 0, m => cases m; exact ⟨_, .ref f0, PySem.W.mg_of X G a0, rfl, rfl⟩
      | 1, m => cases m; exact ⟨_, .ref f1, PySem.W.mg_of X G a1, rfl, rfl⟩
      | 2, m => cases m; exact ⟨_, .ref f2, PySem.W.mg_of X G a2, rfl, rfl⟩
      | 3, m => cases m; exact ⟨_, .ref f3, PySem.W.mg_of X G a3, rfl, rfl⟩
      | 4, m => cases m; exact ⟨_, .ref f4, PySem.W.mg_of X G a4, rfl, rfl⟩
      | 5, m => cases m; exact ⟨_, .ref f5, PySem.W.mg_of X G a5, rfl, rfl⟩
      | 6, m => cases m; exact ⟨_, .ref f6, PySem.W.mg_of X G a6, rfl, rfl⟩
      | 7, m => cases m; exact ⟨_, .ref f7, PySem.W.mg_of X G a7, rfl, rfl⟩
      | 8, m => cases m; exact ⟨_, .ref f8, PySem.W.mg_of X G a8, rfl, rfl⟩
      | 9, m => cases m; exact ⟨_, .ref f9, PySem.W.mg_of X G a9, rfl, rfl⟩
      | 10, m => cases m; exact ⟨_, .ref f10, PySem.W.mg_of X G a10, rfl, rfl⟩
      | 11, m => cases m; exact ⟨_, .ref f11, PySem.W.mg_of X G a11, rfl, rfl⟩
      | 12, m => cases m; exact ⟨_, .ref f12, PySem.W.mg_of X G a12, rfl, rfl⟩
      | 13, m => cases m; exact ⟨_, .ref f13, PySem.W.mg_of X G a13, rfl, rfl⟩
      | 14, m => cases m; exact ⟨_, .ref f14, PySem.W.mg_of X G a14, rfl, rfl⟩
      | 15, m => cases m; exact ⟨_, .ref f15, PySem.W.mg_of X G a15, rfl, rfl⟩
      | 16, m => cases m; exact ⟨_, .ref f16, PySem.W.mg_of X G a16, rfl, rfl⟩
      | 17, m => cases m; exact ⟨_, .ref f17, PySem.W.mg_of X G a17, rfl, rfl⟩
      | 18, m => cases m; exact ⟨_, .ref f18, PySem.W.mg_of X G a18, rfl, rfl⟩
      | 19, m => cases m; exact ⟨_, .ref f19, PySem.W.mg_of X G a19, rfl, rfl⟩
      | 20, m => cases m; exact ⟨_, .ref f20, PySem.W.mg_of X G a20, rfl, rfl⟩
      | 21, m => cases m; exact ⟨_, .ref f21, PySem.W.mg_of X G a21, rfl, rfl⟩
      | 22, m => cases m; exact ⟨_, .ref f22, PySem.W.mg_of X G a22, rfl, rfl⟩
      | 23, m => cases m; exact ⟨_, .ref fa, PySem.W.mg_of X G a23, rfl, rfl⟩
      | n + 24, m => simp [sg] at m
  · simp only [bltNames, List.mem_cons, List.not_mem_nil, or_false] at hx
    rcases hx with rfl | rfl | rfl | rfl | rfl | rfl | rfl | rfl | rfl | rfl | rfl | rfl | rfl | rfl | rfl | rfl | rfl | rfl | rfl | rfl
    · exact PySem.W.mg_none_of X G z0
    · exact PySem.W.mg_none_of X G z1
    · exact PySem.W.mg_none_of X G z2
    · exact PySem.W.mg_none_of X G z3
    · exact PySem.W.mg_none_of X G z4
    · exact PySem.W.mg_none_of X G z5
    · exact PySem.W.mg_none_of X G z6
    · exact PySem.W.mg_none_of X G z7
    · exact PySem.W.mg_none_of X G z8
    · exact PySem.W.mg_none_of X G z9
    · exact PySem.W.mg_none_of X G z10
    · exact PySem.W.mg_none_of X G z11
    · exact PySem.W.mg_none_of X G z12
    · exact PySem.W.mg_none_of X G z13
    · exact PySem.W.mg_none_of X G z14
    · exact PySem.W.mg_none_of X G z15
    · exact PySem.W.mg_none_of X G z16
    · exact PySem.W.mg_none_of X G z17
    · exact PySem.W.mg_none_of X G z18
    · exact PySem.W.mg_none_of X G z19
  · match i, e with
    | 0, e => cases e; exact ⟨C0, _, _, _, _, PySem.F.excBase_ValueError, xi0, PySem.W.mg_of X G xa0, xk0, fun X' hX => L2.raises_own (by rw [hX]; exact xb0) (by rw [hX]; exact xt0), rfl⟩
    | 1, e => cases e; exact ⟨C1, _, _, _, _, PySem.F.excBase_ValueError, xi1, PySem.W.mg_of X G xa1, xk1, fun X' hX => L2.raises_own (by rw [hX]; exact xb1) (by rw [hX]; exact xt1), rfl⟩
    | n + 2, e => simp [sg] at e
  · have m := lookup_in2 e
    simp only [subT, List.mem_cons, Prod.mk.injEq, List.not_mem_nil, or_false] at m
    rcases m with ⟨⟨rfl, rfl⟩, rfl⟩ | ⟨⟨rfl, rfl⟩, rfl⟩ | ⟨⟨rfl, rfl⟩, rfl⟩ | ⟨⟨rfl, rfl⟩, rfl⟩
    · exact exm_of rfl xb0 xc0 xt0 xs0_0
    · exact exm_of rfl xb1 xc1 xt1 xs0_1
    · exact exm_of rfl xb0 xc0 xt0 xs1_0
    · exact exm_of rfl xb1 xc1 xt1 xs1_1

def isInt : D → Bool
  | .int _ => true
  | _ => false
theorem run_is_integer {n : Nat} {h : Hc} {v : D} (hv : v.plain = true) : callN P (n + 1) 0 [v] h = .ok (.bl (isInt v)) h := by
  rw [call_eq (d := d_is_integer) rfl rfl]
  cases v <;> first
    | (simp [D.plain] at hv; done)
    | (simp [d_is_integer, b_is_integer, evSs, evS, evE, cstart, isFs, kdD, kdTy, isInt, ERes.bind, ERes.st, ofO, finR_self])
theorem run_law_is_whole {n : Nat} {h : Hc} {v : D} (hv : v.plain = true) : callN P (n + 1) 13 [v] h = .ok (.bl (isInt v)) h := by
  rw [call_eq (d := d__law_is_whole) rfl rfl]
  cases v <;> first
    | (simp [D.plain] at hv; done)
    | (simp [d__law_is_whole, b__law_is_whole, evSs, evS, evE, cstart, isFs, kdD, kdTy, isInt, ERes.bind, ERes.st, ofO, finR_self])
theorem run_law_is_number {n : Nat} {h : Hc} {v : D} (hv : v.plain = true) : callN P (n + 1) 17 [v] h = .ok (.bl (isInt v)) h := by
  rw [call_eq (d := d__law_is_number) rfl rfl]
  cases v <;> first
    | (simp [D.plain] at hv; done)
    | (simp [d__law_is_number, b__law_is_number, evSs, evS, evE, cstart, isFs, kdD, kdTy, isInt, ERes.bind, ERes.st, ofO, finR_self])
theorem allB_map {α : Type} (p : α → Bool) : ∀ xs : List α, allB (xs.map fun x => D.bl (p x)) = some (xs.map p)
  | [] => rfl
  | x :: xs => by simp [allB, allB_map p xs]
theorem plains_all {xs : List D} (h : D.plains xs = true) : ∀ x ∈ xs, x.plain = true := by
  induction xs with
  | nil => intro x hx; simp at hx
  | cons y ys ih =>
    simp only [D.plains, Bool.and_eq_true] at h
    intro x hx
    rcases List.mem_cons.mp hx with rfl | hx
    · exact h.1
    · exact ih h.2 x hx
def within (t : Int) : D → Bool
  | .int i => decide (0 ≤ i) && decide (i ≤ t)
  | _ => false
def isRow (v : D) (m : Nat) (t : Int) : Bool :=
  match v with
  | .tup xs => decide (xs.length ≤ m) && xs.all (within t)
  | _ => false
theorem row_elt {C : Caller} {i j : Nat} {σ : CSt} {h : Hc} {f : Nat} {x : D} {t : Int} (hx : x.plain = true) (hf : ∀ v : D, v.plain = true → C f [v] h = .ok (.bl (isInt v)) h) (e1 : σ[i]? = some (some x)) (e2 : σ[j]? = some (some (.int t))) :
    evE C (.and_ (.call f (.cons (.var i) .nil)) (.chain .LtE .LtE (.cst (.int 0)) (.var i) (.var j))) σ h = .ok (.bl (within t x)) h := by
  simp only [EV, EB, e1, e2, hf x hx]
  cases x with
  | int a =>
    by_cases h0 : a < 0
    · simp [isInt, within, cmpF, ltF, EB, h0]
      omega
    · by_cases h1 : t < a
      · simp [isInt, within, cmpF, ltF, EB, h0, h1]
      · simp [isInt, within, cmpF, ltF, EB, h0, h1]
        omega
  | _ => simp [isInt, within]
theorem run_is_row {n : Nat} {h : Hc} {v : D} {m : Nat} {t : Int} (hv : v.plain = true) (hm : m ≤ line) : callN P (n + 2) 1 [v, .int m, .int t] h = .ok (.bl (isRow v m t)) h := by
  rw [call_eq (d := d_is_row) rfl rfl]
  show (match evSs _ b_is_row [some v, some (.int m), some (.int t), none] h with
    | .ok (.rt v) h' => finR h v h'
    | .ok (.nx _) h' => finR h .non h'
    | .exc x _ h' => finX h x h'
    | _ => .stuck) = _
  unfold b_is_row
  cases v with
  | tup xs =>
    have hp := plains_all (by simpa only [D.plain] using hv)
    have key : compF (evE (callN P (n + 1)) (.and_ (.call 0 (.cons (.var 3) .nil)) (.chain .LtE .LtE (.cst (.int 0)) (.var 3) (.var 2)))) (condR true (evE (callN P (n + 1)) .absent)) (.v 3) [] (cwipe [some (.tup xs), some (.int m), some (.int t), none] [3]) xs h = .ok (xs.map fun x => .bl (within t x)) h := by
      rw [compF_pure rfl (fun x => .bl (within t x)) (fun _ => true)]
      · congr 1
        rw [List.filter_eq_self.mpr (by simp)]
      · intro x hx
        exact ⟨_, rfl, rfl, fun _ => row_elt (hp x hx) (fun v hv => run_is_integer hv) (by simp [cwipe]) (by simp [cwipe])⟩
    by_cases hl : xs.length ≤ m
    · have h1 : ¬ (m : Int) < xs.length := by omega
      have h2 : xs.length ≤ line := by omega
      simp [ES, EV, EB, isFs, kdD, kdTy, biF, lenF, seqD, cmpF, ltF, h1, h2, CE.isAbs, guardOf, key, lmap, lstD, allB_map, isRow, hl]
    · have h1 : (m : Int) < xs.length := by omega
      simp [ES, EV, EB, isFs, kdD, kdTy, biF, lenF, seqD, cmpF, ltF, h1, isRow, hl]
  | ref _ => simp [D.plain] at hv
  | fn _ => simp [D.plain] at hv
  | _ => simp [ES, EV, EB, isFs, kdD, kdTy, isRow]

def isPair : D → Bool
  | .tup [.int _, .int _] => true
  | _ => false
theorem isPair_eq {d : D} (h : isPair d = true) : ∃ a b, d = .tup [.int a, .int b] := by
  unfold isPair at h
  split at h
  · exact ⟨_, _, rfl⟩
  · cases h
theorem pairs_plain : ∀ {xs : List D}, (∀ x ∈ xs, isPair x = true) → D.plains xs = true
  | [], _ => rfl
  | x :: xs, h => by
    obtain ⟨a, b, rfl⟩ := isPair_eq (h x (by simp))
    simp only [D.plains, D.plain, Bool.and_true, Bool.true_and]
    exact pairs_plain fun y hy => h y (by simp [hy])
theorem pairs_shape : ∀ {xs : List D}, (∀ x ∈ xs, isPair x = true) → PyData.canLayAll0 (D.toPys xs) = true ∧ PyData.depthAll (D.toPys xs) ≤ 2
  | [], _ => ⟨rfl, by simp [D.toPys, PyData.depthAll]⟩
  | x :: xs, h => by
    obtain ⟨a, b, rfl⟩ := isPair_eq (h x (by simp))
    obtain ⟨h1, h2⟩ := pairs_shape (xs := xs) fun y hy => h y (by simp [hy])
    simp [D.toPys, D.toPy, PyData.canLayAll0, PyData.canLay0, PyData.depthAll, PyData.depth, h1]
    exact Nat.max_le.mpr ⟨by omega, h2⟩
theorem pairs_ok {xs : List D} (h : ∀ x ∈ xs, isPair x = true) : (D.lst xs).okD = true := by
  obtain ⟨h1, h2⟩ := pairs_shape h
  unfold D.okD SeqAt.shaped
  simp only [D.plain, pairs_plain h, D.toPy, PyData.canLay0, PyData.depth, h1, Bool.true_and, decide_eq_true_eq]
  omega
theorem mem_insD2 {le : D → D → Bool} {a x : D} : ∀ {ys : List D}, a ∈ insD le x ys → a = x ∨ a ∈ ys
  | [], h => by simp only [insD, List.mem_singleton] at h; exact .inl h
  | y :: ys, h => by
    unfold insD at h
    split at h
    · exact List.mem_cons.mp h
    · rcases List.mem_cons.mp h with rfl | h
      · exact .inr (by simp)
      · rcases mem_insD2 h with h | h
        · exact .inl h
        · exact .inr (List.mem_cons_of_mem _ h)
theorem mem_sortD {le : D → D → Bool} {a : D} : ∀ {xs : List D}, a ∈ sortD le xs → a ∈ xs
  | [], h => h
  | x :: xs, h => by
    unfold sortD at h
    rcases mem_insD2 h with rfl | h
    · simp
    · exact List.mem_cons_of_mem _ (mem_sortD h)
theorem pairs_sort {xs : List D} (h : ∀ x ∈ xs, isPair x = true) (hl : xs.length ≤ line) : sortF xs = some (sortD leD xs) := by
  unfold sortF
  rw [if_pos]
  rw [pairs_ok h, Bool.true_and, Bool.and_eq_true, Bool.and_eq_true]
  refine ⟨⟨?_, ?_⟩, by simpa using hl⟩
  · unfold alikes
    rw [List.all_eq_true]
    intro x hx
    rw [List.all_eq_true]
    intro y hy
    obtain ⟨a, b, rfl⟩ := isPair_eq (h x hx)
    obtain ⟨c, d, rfl⟩ := isPair_eq (h y hy)
    simp [D.toPy, D.toPys, PySem.W.alike, PySem.W.alikeAll]
  · unfold sortable
    rw [Bool.or_eq_true]
    left
    rw [List.all_eq_true]
    intro x hx
    obtain ⟨a, b, rfl⟩ := isPair_eq (h x hx)
    rfl
/-- is the list as it is sorted -/
def asSorted (xs : List D) : Bool := PyData.eqv (D.lst xs).toPy (D.lst (sortD leD xs)).toPy
theorem eqF_int {h : Hc} {a b : Int} : eqF h (.int a) (.int b) = some (decide (a = b)) := rfl
theorem eq_sorted {h : Hc} {xs : List D} (hp : ∀ x ∈ xs, isPair x = true) : eqF h (.lst xs) (.lst (sortD leD xs)) = some (asSorted xs) := by
  show eqG h _ _ = _
  unfold eqG
  have h1 := pairs_ok hp
  have h2 := pairs_ok (xs := sortD leD xs) fun x hx => hp x (mem_sortD hx)
  simp only [der, h1, h2, Bool.and_self, if_true]
  rfl

/-! ### has_form -/
def edgeOk (k : Int) (e : D) : Bool := isRow e 2 k && (match e with | .tup [.int a, .int b] => decide (a ≤ b) | _ => false)
theorem edge_pair {k : Int} {e : D} (h : edgeOk k e = true) : isPair e = true := by
  unfold edgeOk at h
  rw [Bool.and_eq_true] at h
  have h2 := h.2
  split at h2
  · rfl
  · cases h2
/-- all but the order of the edges, whether the graph is one piece and stable -/
def formOk : D → Bool
  | .tup [.tup gs, .tup es, .tup ls] => isRow (.tup gs) 7 6 && !decide (gs.length = 0) && isRow (.tup ls) 8 (gs.length - 1 : Int) && decide (es.length ≤ 20) && es.all (edgeOk (gs.length - 1 : Int)) && asSorted es
  | _ => false
theorem edge_elt {C : Caller} {i j f : Nat} {σ : CSt} {h : Hc} {gs : List D} {x : D} (hx : x.plain = true) (hf : ∀ (v : D) (t : Int), v.plain = true → C f [v, .int 2, .int t] h = .ok (.bl (isRow v 2 t)) h) (e1 : σ[i]? = some (some x)) (e2 : σ[j]? = some (some (.tup gs))) :
    evE C (.and_ (.call f (.cons (.var i) (.cons (.cst (.int 2)) (.cons (.bin .Sub (.bi .len (.cons (.var j) .nil)) (.cst (.int 1))) .nil)))) (.and_ (.cmp .Eq (.bi .len (.cons (.var i) .nil)) (.cst (.int 2))) (.cmp .LtE (.idx (.var i) (.cst (.int 0))) (.idx (.var i) (.cst (.int 1)))))) σ h = .ok (.bl (edgeOk (gs.length - 1 : Int) x)) h := by
  simp only [EV, EB, e1, e2, biF, lenF, seqD, binF, int2, Option.map_some, hf x _ hx]
  unfold edgeOk
  cases x with
  | tup xs =>
    cases hr : isRow (.tup xs) 2 (gs.length - 1 : Int) with
    | false => simp
    | true =>
      rcases xs with _ | ⟨a, _ | ⟨b, _ | ⟨c, r⟩⟩⟩
      · simp [EB, cmpF, eqF]
      · simp [EB, cmpF, eqF]
      · simp only [isRow, Bool.and_eq_true, List.all_cons, List.all_nil] at hr
        cases a with
        | int a =>
          cases b with
          | int b =>
            simp [EV, EB, e1, cmpF, eqF, ltF, idxF, atD, ixD]
            by_cases hab : b < a
            · simp [hab]
            · simp [hab]; omega
          | _ => simp [within] at hr
        | _ => simp [within] at hr
      · simp [isRow] at hr
  | _ => simp [isRow]

theorem edges_comp {C : Caller} {i j f : Nat} {σ : CSt} {h : Hc} {gs es : List D} (hes : ∀ x ∈ es, x.plain = true) (hf : ∀ (v : D) (t : Int), v.plain = true → C f [v, .int 2, .int t] h = .ok (.bl (isRow v 2 t)) h) (hij : i ≠ j) (hi : i < σ.length) (e2 : σ[j]? = some (some (.tup gs))) :
    compF (evE C (.and_ (.call f (.cons (.var i) (.cons (.cst (.int 2)) (.cons (.bin .Sub (.bi .len (.cons (.var j) .nil)) (.cst (.int 1))) .nil)))) (.and_ (.cmp .Eq (.bi .len (.cons (.var i) .nil)) (.cst (.int 2))) (.cmp .LtE (.idx (.var i) (.cst (.int 0))) (.idx (.var i) (.cst (.int 1))))))) (condR true (evE C .absent)) (.v i) [] (cwipe σ [i]) es h = .ok (es.map fun x => .bl (edgeOk (gs.length - 1 : Int) x)) h := by
  rw [compF_pure rfl (fun x => .bl (edgeOk (gs.length - 1 : Int) x)) (fun _ => true)]
  · congr 1
    rw [List.filter_eq_self.mpr (by simp)]
  · intro x hx
    refine ⟨_, rfl, rfl, fun _ => edge_elt (hes x hx) hf ?_ ?_⟩
    · simp only [cwipe, List.set_set]
      exact List.getElem?_set_self hi
    · simp only [cwipe, List.set_set]
      rw [List.getElem?_set_ne hij]
      exact e2
theorem run_has_form {n : Nat} {h : Hc} {v : D} (hv : v.plain = true) : callN P (n + 3) 2 [v] h = .ok (.bl (formOk v)) h := by
  rw [call_eq (d := d_has_form) rfl rfl]
  show (match evSs _ b_has_form [some v, none, none, none, none] h with
    | .ok (.rt v) h' => finR h v h'
    | .ok (.nx _) h' => finR h .non h'
    | .exc x _ h' => finX h x h'
    | _ => .stuck) = _
  unfold b_has_form
  cases v with
  | ref _ => simp [D.plain] at hv
  | fn _ => simp [D.plain] at hv
  | tup xs =>
    have hp := plains_all (by simpa only [D.plain] using hv)
    rcases xs with _ | ⟨g, _ | ⟨es, _ | ⟨l, _ | ⟨z, r⟩⟩⟩⟩
    · simp [ES, EV, EB, isFs, kdD, kdTy, biF, lenF, seqD, cmpF, eqF, formOk]
    · simp [ES, EV, EB, isFs, kdD, kdTy, biF, lenF, seqD, cmpF, eqF, formOk]
    · simp [ES, EV, EB, isFs, kdD, kdTy, biF, lenF, seqD, cmpF, eqF, formOk]
    · have hg := hp g (by simp)
      have he := hp es (by simp)
      have hl := hp l (by simp)
      have q1 : callN P (n + 2) 1 [g, .int 7, .int 6] h = .ok (.bl (isRow g 7 6)) h := run_is_row (m := 7) hg (by decide)
      have q2 : ∀ t : Int, callN P (n + 2) 1 [l, .int 8, .int t] h = .ok (.bl (isRow l 8 t)) h := fun t => run_is_row (m := 8) hl (by decide)
      have q3 : ∀ (v : D) (t : Int), v.plain = true → callN P (n + 2) 1 [v, .int 2, .int t] h = .ok (.bl (isRow v 2 t)) h := fun v t hv => run_is_row (m := 2) hv (by decide)
      cases hr : isRow g 7 6 with
      | false =>
        have : formOk (.tup [g, es, l]) = false := by
          cases g <;> first | rfl | (cases es <;> cases l <;> simp [formOk, hr])
        simp [ES, EV, EB, isFs, kdD, kdTy, biF, lenF, seqD, cmpF, eqF, ltF, asgT, asgTs, q1, hr, this]
      | true =>
        cases g with
        | tup gs =>
          by_cases h0 : gs.length = 0
          · have : formOk (.tup [.tup gs, es, l]) = false := by cases es <;> cases l <;> simp [formOk, h0]
            simp [ES, EV, EB, isFs, kdD, kdTy, biF, lenF, seqD, cmpF, eqF, ltF, asgT, asgTs, q1, hr, this, h0]
          · have h1 : ¬ ((gs.length : Int) < 1) := by omega
            cases hl8 : isRow l 8 (gs.length - 1 : Int) with
            | false =>
              have : formOk (.tup [.tup gs, es, l]) = false := by cases es <;> cases l <;> first | rfl | simp [formOk, hl8] | simp [formOk]
              simp [ES, EV, EB, isFs, kdD, kdTy, biF, lenF, seqD, cmpF, eqF, ltF, asgT, asgTs, q1, q2, hr, h1, binF, int2, hl8, this]
            | true =>
              cases l with
              | tup ls =>
                cases es with
                | tup es =>
                  by_cases h20 : es.length ≤ 20
                  · have h21 : ¬ ((20 : Int) < es.length) := by omega
                    have hep := plains_all (by simpa only [D.plain] using he)
                    have key := edges_comp (C := callN P (n + 2)) (i := 4) (j := 1) (f := 1) (σ := [some (.tup [.tup gs, .tup es, .tup ls]), some (.tup gs), some (.tup es), some (.tup ls), none]) (h := h) hep q3 (by decide) (by simp) rfl
                    have hln : es.length ≤ line := Nat.le_trans h20 (by decide)
                    cases ha : es.all (edgeOk (gs.length - 1 : Int)) with
                    | false =>
                      have hb : (List.map (edgeOk (gs.length - 1 : Int)) es).all id = false := by rw [List.all_map]; exact ha
                      simp [ES, EV, EB, isFs, kdD, kdTy, biF, lenF, seqD, cmpF, eqF, ltF, asgT, asgTs, q1, q2, hr, h1, binF, int2, hl8, h21, CE.isAbs, guardOf, key, hln, lmap, lstD, allB_map, hb, formOk, ha]
                    | true =>
                      have hb : (List.map (edgeOk (gs.length - 1 : Int)) es).all id = true := by rw [List.all_map]; exact ha
                      have hpr : ∀ x ∈ es, isPair x = true := fun x hx => edge_pair (List.all_eq_true.mp ha x hx)
                      simp [ES, EV, EB, isFs, kdD, kdTy, biF, lenF, seqD, cmpF, ltF, asgT, asgTs, q1, q2, hr, h1, binF, int2, hl8, h21, CE.isAbs, guardOf, key, hln, lmap, lstD, seqD, allB_map, hb, formOk, ha, pairs_sort hpr hln, eq_sorted hpr, eqF_int, h20, h0]
                  · have h21 : (20 : Int) < es.length := by omega
                    simp [ES, EV, EB, isFs, kdD, kdTy, biF, lenF, seqD, cmpF, eqF, ltF, asgT, asgTs, q1, q2, hr, h1, binF, int2, hl8, h21, formOk, h20]
                | ref _ => simp [D.plain] at he
                | fn _ => simp [D.plain] at he
                | _ => simp [ES, EV, EB, isFs, kdD, kdTy, biF, lenF, seqD, cmpF, eqF, ltF, asgT, asgTs, q1, q2, hr, h1, binF, int2, hl8, formOk]
              | _ => simp [isRow] at hl8
        | _ => simp [isRow] at hr
    · have : ¬ ((r.length : Int) + 1 + 1 + 1 + 1 = 3) := by omega
      simp [ES, EV, EB, isFs, kdD, kdTy, biF, lenF, seqD, cmpF, eqF, formOk, this]
  | _ => simp [ES, EV, EB, isFs, kdD, kdTy, formOk]

theorem run_law_numbers {n : Nat} {h : Hc} {v : D} {m : Nat} {t : Int} (hv : v.plain = true) (hm : m ≤ line) : callN P (n + 2) 21 [v, .int m, .int t] h = .ok (.bl (isRow v m t)) h := by
  rw [call_eq (d := d__law_numbers) rfl rfl]
  show (match evSs _ b__law_numbers [some v, some (.int m), some (.int t), none] h with
    | .ok (.rt v) h' => finR h v h'
    | .ok (.nx _) h' => finR h .non h'
    | .exc x _ h' => finX h x h'
    | _ => .stuck) = _
  unfold b__law_numbers
  cases v with
  | tup xs =>
    have hp := plains_all (by simpa only [D.plain] using hv)
    have key : compF (evE (callN P (n + 1)) (.and_ (.call 13 (.cons (.var 3) .nil)) (.chain .LtE .LtE (.cst (.int 0)) (.var 3) (.var 2)))) (condR true (evE (callN P (n + 1)) .absent)) (.v 3) [] (cwipe [some (.tup xs), some (.int m), some (.int t), none] [3]) xs h = .ok (xs.map fun x => .bl (within t x)) h := by
      rw [compF_pure rfl (fun x => .bl (within t x)) (fun _ => true)]
      · congr 1
        rw [List.filter_eq_self.mpr (by simp)]
      · intro x hx
        exact ⟨_, rfl, rfl, fun _ => row_elt (hp x hx) (fun v hv => run_law_is_whole hv) (by simp [cwipe]) (by simp [cwipe])⟩
    by_cases hl : xs.length ≤ m
    · have h1 : ¬ (m : Int) < xs.length := by omega
      have h2 : xs.length ≤ line := by omega
      simp [ES, EV, EB, isFs, kdD, kdTy, biF, lenF, seqD, cmpF, ltF, h1, h2, CE.isAbs, guardOf, key, lmap, lstD, allB_map, isRow, hl]
    · have h1 : (m : Int) < xs.length := by omega
      simp [ES, EV, EB, isFs, kdD, kdTy, biF, lenF, seqD, cmpF, ltF, h1, isRow, hl]
  | ref _ => simp [D.plain] at hv
  | fn _ => simp [D.plain] at hv
  | _ => simp [ES, EV, EB, isFs, kdD, kdTy, isRow]
/-! ### graphs as plain lists -/
abbrev Ed := Nat × Nat
def eP (p : Ed) : D := .tup [.int p.1, .int p.2]
def encG (gs : List Nat) (ps : List Ed) (ls : List Nat) : D := .tup [.tup (gs.map fun g => .int (g : Nat)), .tup (ps.map eP), .tup (ls.map fun l => .int (l : Nat))]
structure OkG (gs : List Nat) (ps : List Ed) (ls : List Nat) : Prop where
  pos : 0 < gs.length
  n7 : gs.length ≤ 7
  g6 : ∀ g ∈ gs, g ≤ 6
  e20 : ps.length ≤ 20
  ed : ∀ p ∈ ps, p.1 ≤ p.2 ∧ p.2 < gs.length
  l8 : ls.length ≤ 8
  lg : ∀ l ∈ ls, l < gs.length
theorem within_nats {t : Int} : ∀ {xs : List D}, xs.all (within t) = true → ∃ ns : List Nat, xs = ns.map (fun n => D.int (n : Nat)) ∧ ∀ n ∈ ns, (n : Int) ≤ t
  | [], _ => ⟨[], rfl, fun n hn => by simp at hn⟩
  | x :: xs, h => by
    rw [List.all_cons, Bool.and_eq_true] at h
    obtain ⟨ns, h1, h2⟩ := within_nats h.2
    have hx := h.1
    cases x with
    | int i =>
      simp only [within, Bool.and_eq_true, decide_eq_true_eq] at hx
      refine ⟨i.toNat :: ns, ?_, fun n hn => ?_⟩
      · rw [List.map_cons, h1, Int.toNat_of_nonneg hx.1]
      · rcases List.mem_cons.mp hn with rfl | hn
        · rw [Int.toNat_of_nonneg hx.1]; exact hx.2
        · exact h2 n hn
    | _ => cases hx
theorem edges_nats {t : Int} : ∀ {xs : List D}, xs.all (edgeOk t) = true → ∃ ps : List Ed, xs = ps.map eP ∧ ∀ p ∈ ps, p.1 ≤ p.2 ∧ (p.2 : Int) ≤ t
  | [], _ => ⟨[], rfl, fun n hn => by simp at hn⟩
  | x :: xs, h => by
    rw [List.all_cons, Bool.and_eq_true] at h
    obtain ⟨ps, h1, h2⟩ := edges_nats h.2
    have hx := h.1
    obtain ⟨a, b, rfl⟩ := isPair_eq (edge_pair hx)
    unfold edgeOk isRow at hx
    simp only [List.all_cons, List.all_nil, Bool.and_true, within, Bool.and_eq_true, decide_eq_true_eq] at hx
    obtain ⟨⟨_, ⟨a0, a1⟩, b0, b1⟩, ab⟩ := hx
    refine ⟨(a.toNat, b.toNat) :: ps, ?_, fun p hp => ?_⟩
    · rw [List.map_cons, h1, eP, Int.toNat_of_nonneg a0, Int.toNat_of_nonneg b0]
    · rcases List.mem_cons.mp hp with rfl | hp
      · simp only
        omega
      · exact h2 p hp
theorem formOk_enc {v : D} (h : formOk v = true) : ∃ gs ps ls, OkG gs ps ls ∧ v = encG gs ps ls ∧ asSorted (ps.map eP) = true := by
  unfold formOk at h
  split at h
  · rename_i gs es ls
    simp only [isRow, Bool.and_eq_true, decide_eq_true_eq, Bool.not_eq_true', decide_eq_false_iff_not] at h
    obtain ⟨⟨⟨⟨⟨⟨h1, h2⟩, h3⟩, h4, h5⟩, h6⟩, h7⟩, h8⟩ := h
    obtain ⟨gn, rfl, g2⟩ := within_nats h2
    obtain ⟨ln, rfl, l2⟩ := within_nats h5
    obtain ⟨ps, rfl, p2⟩ := edges_nats h7
    rw [List.length_map] at *
    refine ⟨gn, ps, ln, ⟨by omega, h1, fun g hg => by have := g2 g hg; omega, h6, fun p hp => ?_, h4, fun l hl => ?_⟩, rfl, h8⟩
    · have := p2 p hp
      omega
    · have := l2 l hl
      omega
  · cases h
theorem encG_form {gs : List Nat} {ps : List Ed} {ls : List Nat} (k : OkG gs ps ls) (hs : asSorted (ps.map eP) = true) : formOk (encG gs ps ls) = true := by
  unfold formOk encG
  simp only [isRow, List.length_map, Bool.and_eq_true, decide_eq_true_eq, Bool.not_eq_true', decide_eq_false_iff_not, List.all_eq_true]
  have := k.pos
  refine ⟨⟨⟨⟨⟨⟨k.n7, fun x hx => ?_⟩, by omega⟩, k.l8, fun x hx => ?_⟩, k.e20⟩, fun x hx => ?_⟩, hs⟩
  · obtain ⟨g, hg, rfl⟩ := List.mem_map.mp hx
    have := k.g6 g hg
    simp [within]; omega
  · obtain ⟨g, hg, rfl⟩ := List.mem_map.mp hx
    have := k.lg g hg
    simp [within]; omega
  · obtain ⟨p, hp, rfl⟩ := List.mem_map.mp hx
    have := k.ed p hp
    simp [edgeOk, eP, isRow, within]; omega
/-! ### valences -/
def bump (f : List Nat) (i : Nat) : List Nat := f.modify i (· + 1)
def vals (n : Nat) (ps : List Ed) (ls : List Nat) : List Nat := ls.foldl bump (ps.foldl (fun f p => bump (bump f p.1) p.2) (List.replicate n 0))
theorem bump_set {f : List Nat} {i : Nat} {a : Nat} (e : f[i]? = some a) : natD (bump f i) = (natD f).set i (.int ((a : Int) + 1)) := by
  unfold bump natD
  refine List.ext_getElem? fun j => ?_
  rw [List.getElem?_map, List.getElem?_modify, List.getElem?_set, List.getElem?_map]
  by_cases hj : i = j
  · subst hj
    obtain ⟨hlt, rfl⟩ := List.getElem?_eq_some_iff.mp e
    simp [hlt]
  · simp [hj]
theorem bump_len {f : List Nat} {i : Nat} : (bump f i).length = f.length := by simp [bump]

/-- bumping a counter that is a cell -/
theorem saug_bump {Pe : Env2} {i j : Nat} {σ : CSt} {h : Hc} {f : List Nat} {v : Nat} (e1 : σ[i]? = some (some (.ref h.length))) (e2 : σ[j]? = some (some (.int (v : Nat)))) (hv : v < f.length) :
    evS Pe (.saug (.var i) (.var j) .Add (.cst (.int 1))) σ (h ++ [.lst (natD f)]) = .ok (.nx σ) (h ++ [.lst (natD (bump f v))]) := by
  have hf : f[v]? = some f[v] := List.getElem?_eq_getElem hv
  rw [bump_set hf]
  have h1 : ixD (natD f).length (v : Int) = some v := by
    unfold ixD
    rw [if_pos (by omega), if_pos (by simp; omega)]
    simp
  have h2 : (natD f)[v]? = some (.int (f[v] : Nat)) := by simp [natD, hf]
  simp only [ES, EV, EB, e1, e2, refIdx, idxF, cell_at, atD, h1, Option.bind_some, h2, binF, addF, putF, Option.map_some, cell_set]
def sEd (G : D) (n : Nat) (s : List Nat × Option D × Option D) : CSt := [some G, some (.ref n), s.2.1, s.2.2]
def nEd (s : List Nat × Option D × Option D) (x : D) : List Nat × Option D × Option D :=
  match x with
  | .tup [.int a, .int b] => (bump (bump s.1 a.toNat) b.toNat, some (.int a), some (.int b))
  | _ => s
def nLg (s : List Nat × Option D × Option D) (x : D) : List Nat × Option D × Option D :=
  match x with
  | .int a => (bump s.1 a.toNat, s.2.1, some (.int a))
  | _ => s
theorem fold_ed {ps : List Ed} : ∀ {s : List Nat × Option D × Option D}, ((ps.map eP).foldl nEd s).1 = ps.foldl (fun f p => bump (bump f p.1) p.2) s.1 := by
  induction ps with
  | nil => intro s; rfl
  | cons p ps ih =>
    intro s
    rw [List.map_cons, List.foldl_cons, List.foldl_cons, ih]
    simp [nEd, eP]
theorem fold_lg {ls : List Nat} : ∀ {s : List Nat × Option D × Option D}, ((natD ls).foldl nLg s).1 = ls.foldl bump s.1 := by
  induction ls with
  | nil => intro s; rfl
  | cons p ps ih =>
    intro s
    rw [natD, List.map_cons, List.foldl_cons, List.foldl_cons, ← natD, ih]
    simp [nLg]
theorem loop_ed {Pe : Env2} {G : D} {h : Hc} {n : Nat} {ps : List Ed} (hp : ∀ p ∈ ps, p.1 < n ∧ p.2 < n) (s : List Nat × Option D × Option D) (hs : s.1.length = n) :
    forF (evSs Pe (.cons (.saug (.var 1) (.var 2) .Add (.cst (.int 1))) (.cons (.saug (.var 1) (.var 3) .Add (.cst (.int 1))) .nil))) (.t (.cons (.v 2) (.cons (.v 3) .nil))) [] (ps.map eP) (sEd G h.length s) (h ++ [.lst (natD s.1)])
      = .ok (.nx (sEd G h.length ((ps.map eP).foldl nEd s))) (h ++ [.lst (natD ((ps.map eP).foldl nEd s).1)]) ∧ ((ps.map eP).foldl nEd s).1.length = n := by
  refine forF_fold (sEd G h.length) (fun s => h ++ [.lst (natD s.1)]) nEd (fun s => s.1.length = n) (fun _ _ => (show gOk [] _ = true from rfl)) s hs fun s hs x hx => ?_
  obtain ⟨p, hpp, rfl⟩ := List.mem_map.mp hx
  obtain ⟨h1, h2⟩ := hp p hpp
  refine ⟨by simp [nEd, eP, bump_len, hs], [some G, some (.ref h.length), some (.int (p.1 : Nat)), some (.int (p.2 : Nat))], by simp [asgT, asgTs, eP, sEd], ?_⟩
  simp only [evSs]
  rw [saug_bump (v := p.1) rfl rfl (by omega)]
  simp only
  rw [saug_bump (v := p.2) rfl rfl (by rw [bump_len]; omega)]
  simp [nEd, eP, sEd]
theorem loop_lg {Pe : Env2} {G : D} {h : Hc} {n : Nat} {ls : List Nat} (hp : ∀ p ∈ ls, p < n) (s : List Nat × Option D × Option D) (hs : s.1.length = n) :
    forF (evSs Pe (.cons (.saug (.var 1) (.var 3) .Add (.cst (.int 1))) .nil)) (.v 3) [] (natD ls) (sEd G h.length s) (h ++ [.lst (natD s.1)])
      = .ok (.nx (sEd G h.length ((natD ls).foldl nLg s))) (h ++ [.lst (natD ((natD ls).foldl nLg s).1)]) ∧ ((natD ls).foldl nLg s).1.length = n := by
  refine forF_fold (sEd G h.length) (fun s => h ++ [.lst (natD s.1)]) nLg (fun s => s.1.length = n) (fun _ _ => (show gOk [] _ = true from rfl)) s hs fun s hs x hx => ?_
  obtain ⟨p, hpp, rfl⟩ := List.mem_map.mp hx
  have h1 := hp p hpp
  refine ⟨by simp [nLg, bump_len, hs], [some G, some (.ref h.length), s.2.1, some (.int (p : Nat))], by simp [asgT, sEd], ?_⟩
  simp only [evSs]
  rw [saug_bump (v := p) rfl rfl (by omega)]
  simp [nLg, sEd]
theorem rep_zero {n : Nat} : (List.replicate n [D.int 0]).flatten = natD (List.replicate n 0) := by
  induction n with
  | zero => rfl
  | succ n ih => rw [List.replicate_succ, List.flatten_cons, ih]; rfl
theorem small63 {n : Nat} (h : n ≤ 7) : (n : Int) < 2 ^ 63 ∧ -(2 ^ 63) ≤ (n : Int) := by
  constructor <;> omega

theorem hb1 {h : Hc} {gs : List Nat} (k : gs.length ≤ 7) : binF h .Mult (.lst [.int 0]) (.int (gs.length : Nat)) = some (.lst (natD (List.replicate gs.length 0))) := by
  have hl : gs.length ≤ line := Nat.le_trans k (by decide)
  obtain ⟨hn, hm⟩ := small63 k
  simp only [binF, mulF, mulL, derM]
  rw [if_pos ⟨hm, hn, by simpa using hl⟩, Int.toNat_natCast, rep_zero]
theorem vea {Pe : Env2} {gs ps ls h} (k : OkG gs ps ls) : evS Pe (.asg (.v 1) (.cell (.bin .Mult (.lst (.cons (.cst (.int 0)) .nil)) (.bi .len (.cons (.idx (.var 0) (.cst (.int 0))) .nil))))) [some (encG gs ps ls), none, none, none] h = .ok (.nx (sEd (encG gs ps ls) h.length (List.replicate gs.length 0, none, none))) (h ++ [.lst (natD (List.replicate gs.length 0))]) := by
    have hb := hb1 (h := h) k.n7
    simp only [ES, EV, EB, List.getElem?_cons_zero, encG, idxF, atD, ixD, List.length_cons, List.length_nil]
    simp [biF, lenF, seqD, EB, hb, asgT, sEd, encG]
theorem veb {Pe : Env2} {gs ps ls h} (k : OkG gs ps ls) : evS Pe (.for_ (.t (.cons (.v 2) (.cons (.v 3) .nil))) (.seq (.idx (.var 0) (.cst (.int 1)))) L_valences_of_0) (sEd (encG gs ps ls) h.length (List.replicate gs.length 0, none, none)) (h ++ [.lst (natD (List.replicate gs.length 0))]) = .ok (.nx (sEd (encG gs ps ls) h.length ((ps.map eP).foldl nEd (List.replicate gs.length 0, none, none)))) (h ++ [.lst (natD (ps.foldl (fun f p => bump (bump f p.1) p.2) (List.replicate gs.length 0)))]) := by
    unfold L_valences_of_0
    obtain ⟨a1, a2⟩ := loop_ed (Pe := Pe) (G := encG gs ps ls) (h := h) (n := gs.length) (ps := ps) (fun p hp => by have := k.ed p hp; omega) (List.replicate gs.length 0, none, none) (by simp)
    rw [fold_ed] at a1
    refine Eq.trans ?_ a1
    simp only [ES, EV, EB, sEd, List.getElem?_cons_zero, encG, idxF, atD, ixD]
    simp [seqD, EB, guardOf]
theorem vec {Pe : Env2} {gs ps ls h} (k : OkG gs ps ls) : evS Pe (.for_ (.v 3) (.seq (.idx (.var 0) (.cst (.int 2)))) L_valences_of_1) (sEd (encG gs ps ls) h.length ((ps.map eP).foldl nEd (List.replicate gs.length 0, none, none))) (h ++ [.lst (natD (ps.foldl (fun f p => bump (bump f p.1) p.2) (List.replicate gs.length 0)))]) = .ok (.nx (sEd (encG gs ps ls) h.length ((natD ls).foldl nLg ((ps.map eP).foldl nEd (List.replicate gs.length 0, none, none))))) (h ++ [.lst (natD (vals gs.length ps ls))]) := by
    unfold L_valences_of_1
    obtain ⟨a1, a2⟩ := loop_ed (Pe := Pe) (G := encG gs ps ls) (h := h) (n := gs.length) (ps := ps) (fun p hp => by have := k.ed p hp; omega) (List.replicate gs.length 0, none, none) (by simp)
    obtain ⟨b1, b2⟩ := loop_lg (Pe := Pe) (G := encG gs ps ls) (h := h) (n := gs.length) (ls := ls) k.lg ((ps.map eP).foldl nEd (List.replicate gs.length 0, none, none)) a2
    rw [fold_lg, fold_ed] at b1
    refine Eq.trans ?_ b1
    simp only [ES, EV, EB, sEd, List.getElem?_cons_zero, encG, idxF, atD, ixD]
    simp [seqD, EB, guardOf, natD]
theorem run_valences {n : Nat} {h : Hc} {gs : List Nat} {ps : List Ed} {ls : List Nat} (k : OkG gs ps ls) : callN P (n + 1) 3 [encG gs ps ls] h = .ok (.tup (natD (vals gs.length ps ls))) h := by
  refine call_rt (t := [.lst (natD (vals gs.length ps ls))]) rfl rfl rfl rfl (low_plain (by simp only [D.plain]; exact plains_natD _)) ?_
  show evSs _ b_valences_of [some (encG gs ps ls), none, none, none] h = _
  unfold b_valences_of
  rw [seqN (vea k), seqN (veb k), seqN (vec k)]
  simp only [ES, EV, EB, sEd, List.getElem?_cons_succ, List.getElem?_cons_zero]
  simp only [biF, seqD, cell_at, Option.map_some, EB]

/-! ### the search -/
def stP (x : Nat) (r : List Nat) (p : Ed) : List Nat := if p.1 = x ∧ p.2 ∉ r then r ++ [p.2] else r
def stE (x : Nat) (r : List Nat) (p : Ed) : List Nat := [p, (p.2, p.1)].foldl (stP x) r
def stR (ps : List Ed) (x : Nat) (r : List Nat) : List Nat := ps.foldl (stE x) r
/-- the state of the search -/
def sJ (G : D) (k : Nat) (a : Nat) (o3 o4 o5 o6 : Option D) : CSt := [some G, some (.ref k), some (.int (a : Nat)), o3, o4, o5, o6]
theorem j0 {Pe : Env2} {G : D} {h : Hc} {a x u v : Nat} {r : List Nat} {o3 o4 : Option D} (hx : r[a]? = some x) (hl : r.length < line) :
    evSs Pe L_is_joined_0 (sJ G h.length a o3 o4 (some (.int (u : Nat))) (some (.int (v : Nat)))) (h ++ [.lst (natD r)]) = .ok (.nx (sJ G h.length a o3 o4 (some (.int (u : Nat))) (some (.int (v : Nat))))) (h ++ [.lst (natD (stP x r (u, v)))]) := by
  unfold L_is_joined_0 stP
  have e1 : idxF (h ++ [.lst (natD r)]) (.ref h.length) (.int (a : Nat)) = some (.int (x : Nat)) := by
    simp only [idxF, cell_at, atD_nat hx]
  have e2 : cmpF (h ++ [.lst (natD r)]) .NotIn (.int (v : Nat)) (.ref h.length) = some (!decide (v ∈ r)) := by
    simp only [cmpF, inF_nat cell_at, Option.map_some]
  have hd : evE Pe.C (.and_ (.cmp .Eq (.var 5) (.idx (.var 1) (.var 2))) (.cmp .NotIn (.var 6) (.var 1))) (sJ G h.length a o3 o4 (some (.int (u : Nat))) (some (.int (v : Nat)))) (h ++ [.lst (natD r)]) = .ok (.bl (decide (u = x ∧ v ∉ r))) (h ++ [.lst (natD r)]) := by
    have e0 : cmpF (h ++ [.lst (natD r)]) .Eq (.int (u : Nat)) (.int (x : Nat)) = some (decide (u = x)) := by
      show some (decide ((u : Int) = x)) = _
      congr 1
      rw [decide_eq_decide]; omega
    simp only [EV, EB, sJ, List.getElem?_cons_succ, List.getElem?_cons_zero, e0, e1, e2, Option.map_some]
    by_cases hu : u = x
    · simp [hu]
    · simp [hu]
  by_cases c : u = x ∧ v ∉ r
  · have hd' := hd
    rw [decide_eq_true c] at hd'
    rw [seqN (σ' := sJ G h.length a o3 o4 (some (.int (u : Nat))) (some (.int (v : Nat)))) (h' := h ++ [.lst (natD (r ++ [v]))])]
    · rw [if_pos c]; simp only [ES]
    · rw [ifT hd']
      simp only [ES, EV, EB, sJ, List.getElem?_cons_succ, List.getElem?_cons_zero, isLstD, cell_at]
      simp [hl]
  · have hd' := hd
    rw [decide_eq_false c] at hd'
    rw [seqN (σ' := sJ G h.length a o3 o4 (some (.int (u : Nat))) (some (.int (v : Nat)))) (h' := h ++ [.lst (natD r)])]
    · rw [if_neg c]; simp only [ES]
    · rw [ifF hd']; simp only [ES]
theorem stP_len {x : Nat} {r : List Nat} {p : Ed} : (stP x r p).length ≤ r.length + 1 := by
  unfold stP; split <;> simp
theorem stP_pre {x : Nat} {r : List Nat} {p : Ed} : ∃ t, stP x r p = r ++ t := by
  unfold stP; split
  · exact ⟨[p.2], rfl⟩
  · exact ⟨[], by simp⟩
structure JI (n : Nat) (r : List Nat) : Prop where
  nd : r.Nodup
  lt : ∀ y ∈ r, y < n
theorem nodup_len : ∀ {n : Nat} {r : List Nat}, r.Nodup → (∀ y ∈ r, y < n) → r.length ≤ n := by
  intro n
  induction n with
  | zero => intro r h1 h2; cases r with
    | nil => simp
    | cons a r => exact absurd (h2 a (by simp)) (by omega)
  | succ n ih =>
    intro r h1 h2
    have h3 := ih (r := r.filter (fun y => decide (y ≠ n))) (h1.filter _) (fun y hy => by
      rw [List.mem_filter] at hy
      have := h2 y hy.1
      have := of_decide_eq_true hy.2
      omega)
    by_cases hn : n ∈ r
    · have : (r.filter (fun y => decide (y ≠ n))).length + 1 = r.length := by
        have e : r.filter (fun y => decide (y ≠ n)) = r.erase n := by
          rw [h1.erase_eq_filter]
          congr 1
          funext y
          by_cases hy : y = n <;> simp [hy]
        rw [e, List.length_erase_of_mem hn]
        have := List.length_pos_of_mem hn
        omega
      omega
    · have : r.filter (fun y => decide (y ≠ n)) = r := List.filter_eq_self.mpr fun y hy => decide_eq_true fun e => hn (e ▸ hy)
      rw [this] at h3
      omega
theorem stP_ji {n x : Nat} {r : List Nat} {p : Ed} (h : JI n r) (hp : p.2 < n) : JI n (stP x r p) := by
  unfold stP
  split
  · rename_i c
    refine ⟨?_, fun y hy => ?_⟩
    · rw [List.nodup_append]
      refine ⟨h.nd, by simp, fun a ha b hb => ?_⟩
      rw [List.mem_singleton] at hb
      subst hb
      intro e; subst e; exact c.2 ha
    · rcases List.mem_append.mp hy with hy | hy
      · exact h.lt y hy
      · rw [List.mem_singleton] at hy; omega
  · exact h
theorem pre_get {r t : List Nat} {a x : Nat} (h : r[a]? = some x) : (r ++ t)[a]? = some x := by
  rw [List.getElem?_append_left]
  · exact h
  · exact (List.getElem?_eq_some_iff.mp h).1
/-- one edge, both ways -/
theorem j1 {Pe : Env2} {G : D} {h : Hc} {n a x : Nat} {r : List Nat} {o5 o6 : Option D} {p : Ed} (hn : n ≤ 7) (hx : r[a]? = some x) (hr : JI n r) (hp : p.1 < n ∧ p.2 < n) :
    evSs Pe L_is_joined_1 (sJ G h.length a (some (.int (p.1 : Nat))) (some (.int (p.2 : Nat))) o5 o6) (h ++ [.lst (natD r)]) = .ok (.nx (sJ G h.length a (some (.int (p.1 : Nat))) (some (.int (p.2 : Nat))) none none)) (h ++ [.lst (natD (stE x r p))]) ∧ JI n (stE x r p) ∧ (stE x r p)[a]? = some x := by
  unfold L_is_joined_1
  have key := forF_map (fb := evSs Pe L_is_joined_0) (t := .t (.cons (.v 5) (.cons (.v 6) .nil))) (g := []) eP (fun r σ H => (∃ o5 o6, σ = sJ G h.length a (some (.int (p.1 : Nat))) (some (.int (p.2 : Nat))) o5 o6) ∧ H = h ++ [.lst (natD r)] ∧ JI n r ∧ r[a]? = some x) (stP x) (fun _ _ _ _ => rfl) [p, (p.2, p.1)] (fun r q σ H hq R => by
    obtain ⟨⟨o5, o6, rfl⟩, rfl, r1, r2⟩ := R
    have hq2 : q.2 < n := by
      simp only [List.mem_cons, List.not_mem_nil, or_false] at hq
      rcases hq with rfl | rfl
      · exact hp.2
      · exact hp.1
    refine ⟨sJ G h.length a (some (.int (p.1 : Nat))) (some (.int (p.2 : Nat))) (some (.int (q.1 : Nat))) (some (.int (q.2 : Nat))), rfl, _, _, j0 r2 (Nat.lt_of_le_of_lt (nodup_len r1.nd r1.lt) (by unfold line; omega)), ⟨_, _, rfl⟩, rfl, stP_ji r1 hq2, ?_⟩
    obtain ⟨t, e⟩ := stP_pre (x := x) (r := r) (p := (q.1, q.2))
    rw [show stP x r q = r ++ t from e]
    exact pre_get r2) r (sJ G h.length a (some (.int (p.1 : Nat))) (some (.int (p.2 : Nat))) o5 o6) (h ++ [.lst (natD r)]) ⟨⟨_, _, rfl⟩, rfl, hr, hx⟩
  obtain ⟨σ', H', e, ⟨o5', o6', rfl⟩, rfl, r1, r2⟩ := key
  refine ⟨?_, r1, r2⟩
  rw [seqN (σ' := sJ G h.length a (some (.int (p.1 : Nat))) (some (.int (p.2 : Nat))) o5' o6') (h' := h ++ [.lst (natD (stE x r p))])]
  · simp only [ES]; rfl
  · rw [forS (d := .tup [.tup [.int (p.1 : Nat), .int (p.2 : Nat)], .tup [.int (p.2 : Nat), .int (p.1 : Nat)]]) (h' := h ++ [.lst (natD r)]) (xs := [p, (p.2, p.1)].map eP) (g := [])]
    · exact e
    · simp only [EV, EB, sJ, List.getElem?_cons_succ, List.getElem?_cons_zero]
    · rfl
    · rfl
/-- all edges once -/
theorem j2 {Pe : Env2} {gs : List Nat} {ps : List Ed} {ls : List Nat} {h : Hc} {a x : Nat} {r : List Nat} (k : OkG gs ps ls) (hx : r[a]? = some x) (hr : JI gs.length r) :
    evSs Pe L_is_joined_2 (sJ (encG gs ps ls) h.length a none none none none) (h ++ [.lst (natD r)]) = .ok (.nx (sJ (encG gs ps ls) h.length (a + 1) none none none none)) (h ++ [.lst (natD (stR ps x r))]) ∧ JI gs.length (stR ps x r) := by
  unfold L_is_joined_2
  have key := forF_map (fb := evSs Pe L_is_joined_1) (t := .t (.cons (.v 3) (.cons (.v 4) .nil))) (g := []) eP (fun r σ H => (∃ o3 o4, σ = sJ (encG gs ps ls) h.length a o3 o4 none none) ∧ H = h ++ [.lst (natD r)] ∧ JI gs.length r ∧ r[a]? = some x) (stE x) (fun _ _ _ _ => rfl) ps (fun r q σ H hq R => by
    obtain ⟨⟨o3, o4, rfl⟩, rfl, r1, r2⟩ := R
    have := k.ed q hq
    obtain ⟨e1, e2, e3⟩ := j1 (Pe := Pe) (G := encG gs ps ls) (h := h) (o5 := none) (o6 := none) (p := q) k.n7 r2 r1 (by omega)
    exact ⟨_, rfl, _, _, e1, ⟨_, _, rfl⟩, rfl, e2, e3⟩) r (sJ (encG gs ps ls) h.length a none none none none) (h ++ [.lst (natD r)]) ⟨⟨_, _, rfl⟩, rfl, hr, hx⟩
  obtain ⟨σ', H', e, ⟨o3, o4, rfl⟩, rfl, r1, r2⟩ := key
  refine ⟨?_, r1⟩
  rw [seqN (σ' := sJ (encG gs ps ls) h.length a o3 o4 none none) (h' := h ++ [.lst (natD (stR ps x r))])]
  · simp only [ES, EV, EB, sJ, List.getElem?_cons_succ, List.getElem?_cons_zero]
    rfl
  · rw [forS (d := .tup (ps.map eP)) (h' := h ++ [.lst (natD r)]) (xs := ps.map eP) (g := [])]
    · exact e
    · simp only [EV, EB, sJ, List.getElem?_cons_succ, List.getElem?_cons_zero, encG]; rfl
    · rfl
    · rfl

def Adj (ps : List Ed) (u v : Nat) : Prop := (u, v) ∈ ps ∨ (v, u) ∈ ps
inductive Reach (ps : List Ed) (u : Nat) : Nat → Prop
  | refl : Reach ps u u
  | step {v w : Nat} : Reach ps u v → Adj ps v w → Reach ps u w
theorem Reach.trans {ps : List Ed} {u v w : Nat} (h : Reach ps u v) (k : Reach ps v w) : Reach ps u w := by
  induction k with
  | refl => exact h
  | step _ a ih => exact ih.step a
theorem Adj.symm {ps : List Ed} {u v : Nat} (h : Adj ps u v) : Adj ps v u := h.elim .inr .inl
theorem Reach.symm {ps : List Ed} {u v : Nat} (h : Reach ps u v) : Reach ps v u := by
  induction h with
  | refl => exact .refl
  | step _ a ih => exact (Reach.refl.step a.symm).trans ih
def Conn (n : Nat) (ps : List Ed) : Prop := ∀ v, v < n → Reach ps 0 v
theorem all_len : ∀ {n : Nat} {r : List Nat}, (∀ v, v < n → v ∈ r) → n ≤ r.length := by
  intro n
  induction n with
  | zero => intro r _; omega
  | succ n ih =>
    intro r h
    have h1 := ih (r := r.erase n) fun v hv => (List.mem_erase_of_ne (by omega)).mpr (h v (by omega))
    have h2 := h n (by omega)
    rw [List.length_erase_of_mem h2] at h1
    have := List.length_pos_of_mem h2
    omega
theorem stP_mem {x : Nat} {r : List Nat} {p : Ed} {y : Nat} (h : y ∈ stP x r p) : y ∈ r ∨ (p.1 = x ∧ p.2 = y) := by
  unfold stP at h
  split at h
  · rename_i c
    rcases List.mem_append.mp h with h | h
    · exact .inl h
    · rw [List.mem_singleton] at h; exact .inr ⟨c.1, h.symm⟩
  · exact .inl h
theorem stP_has {x : Nat} {r : List Nat} {p : Ed} (h : p.1 = x) : p.2 ∈ stP x r p := by
  unfold stP
  split
  · simp
  · rename_i c
    by_cases hm : p.2 ∈ r
    · exact hm
    · exact absurd ⟨h, hm⟩ c
theorem stP_keep {x : Nat} {r : List Nat} {p : Ed} {y : Nat} (h : y ∈ r) : y ∈ stP x r p := by
  obtain ⟨t, e⟩ := stP_pre (x := x) (r := r) (p := p)
  rw [e]; exact List.mem_append_left _ h
theorem stE_keep {x : Nat} {r : List Nat} {p : Ed} {y : Nat} (h : y ∈ r) : y ∈ stE x r p := stP_keep (stP_keep h)
theorem stE_pre {x : Nat} {r : List Nat} {p : Ed} : ∃ t, stE x r p = r ++ t := by
  obtain ⟨t, e⟩ := stP_pre (x := x) (r := r) (p := p)
  obtain ⟨u, e2⟩ := stP_pre (x := x) (r := r ++ t) (p := (p.2, p.1))
  refine ⟨t ++ u, ?_⟩
  show stP x (stP x r p) (p.2, p.1) = _
  rw [e, e2, List.append_assoc]
theorem stR_pre {x : Nat} : ∀ {ps : List Ed} {r : List Nat}, ∃ t, stR ps x r = r ++ t
  | [], r => ⟨[], by simp [stR]⟩
  | p :: ps, r => by
    obtain ⟨t, e⟩ := stE_pre (x := x) (r := r) (p := p)
    obtain ⟨u, e2⟩ := stR_pre (x := x) (ps := ps) (r := stE x r p)
    refine ⟨t ++ u, ?_⟩
    show stR ps x (stE x r p) = _
    rw [e2, e, List.append_assoc]
theorem stR_mem {x y : Nat} : ∀ {ps : List Ed} {r : List Nat}, y ∈ stR ps x r → y ∈ r ∨ Adj ps x y
  | [], r, h => .inl h
  | p :: ps, r, h => by
    rcases stR_mem (ps := ps) (r := stE x r p) h with h | h
    · rcases stP_mem h with h | ⟨h1, h2⟩
      · rcases stP_mem h with h | ⟨h1, h2⟩
        · exact .inl h
        · subst h1 h2; exact .inr (.inl (by simp))
      · simp only at h1 h2
        subst h1 h2; exact .inr (.inr (by simp))
    · exact .inr (h.imp (List.mem_cons_of_mem _) (List.mem_cons_of_mem _))
theorem stR_has {x y : Nat} : ∀ {ps : List Ed} {r : List Nat}, Adj ps x y → y ∈ stR ps x r
  | [], r, h => by rcases h with h | h <;> simp at h
  | p :: ps, r, h => by
    have keep : y ∈ stE x r p → y ∈ stR (p :: ps) x r := fun hy => by
      obtain ⟨u, e⟩ := stR_pre (x := x) (ps := ps) (r := stE x r p)
      show y ∈ stR ps x (stE x r p)
      rw [e]; exact List.mem_append_left _ hy
    rcases h with h | h
    · rcases List.mem_cons.mp h with e | h
      · exact keep (stP_keep (by rw [← e]; exact stP_has (p := (x, y)) rfl))
      · exact stR_has (ps := ps) (r := stE x r p) (.inl h)
    · rcases List.mem_cons.mp h with e | h
      · exact keep (by rw [← e]; exact stP_has (p := (x, y)) rfl)
      · exact stR_has (ps := ps) (r := stE x r p) (.inr h)
structure JB (n : Nat) (ps : List Ed) (r : List Nat) (a : Nat) : Prop where
  ji : JI n r
  z : 0 ∈ r
  le : a ≤ r.length
  re : ∀ y ∈ r, Reach ps 0 y
  cl : ∀ i y, i < a → r[i]? = some y → ∀ v, Adj ps y v → v ∈ r
theorem JB.next {n : Nat} {ps : List Ed} {r : List Nat} {a x : Nat} (h : JB n ps r a) (hx : r[a]? = some x) (hj : JI n (stR ps x r)) : JB n ps (stR ps x r) (a + 1) := by
  obtain ⟨t, e⟩ := stR_pre (x := x) (ps := ps) (r := r)
  have hlt := (List.getElem?_eq_some_iff.mp hx).1
  refine ⟨hj, by rw [e]; exact List.mem_append_left _ h.z, by rw [e, List.length_append]; omega, fun y hy => ?_, fun i y hi hy v hv => ?_⟩
  · rcases stR_mem hy with hy | hy
    · exact h.re y hy
    · exact (h.re x (List.mem_of_getElem? hx)).step hy
  · rw [e, List.getElem?_append_left (by omega)] at hy
    by_cases hia : i < a
    · rw [e]; exact List.mem_append_left _ (h.cl i y hia hy v hv)
    · have : i = a := by omega
      subst this
      rw [hx] at hy
      cases hy
      exact stR_has hv
theorem JB.done {n : Nat} {ps : List Ed} {r : List Nat} {a : Nat} (h : JB n ps r a) (hn : 0 < n) (ha : ¬ a < r.length) : r.length = n ↔ Conn n ps := by
  have hcl : ∀ y ∈ r, ∀ v, Adj ps y v → v ∈ r := fun y hy v hv => by
    obtain ⟨i, hi⟩ := List.mem_iff_getElem?.mp hy
    have := (List.getElem?_eq_some_iff.mp hi).1
    exact h.cl i y (by omega) hi v hv
  have hre : ∀ v, Reach ps 0 v → v ∈ r := fun v hv => by
    induction hv with
    | refl => exact h.z
    | step _ a ih => exact hcl _ ih _ a
  have hle := nodup_len h.ji.nd h.ji.lt
  constructor
  · intro e v hv
    refine h.re v ?_
    by_cases hm : v ∈ r
    · exact hm
    · have := nodup_len (n := n) (r := v :: r) (List.nodup_cons.mpr ⟨hm, h.ji.nd⟩) (fun y hy => by
        rcases List.mem_cons.mp hy with rfl | hy
        · exact hv
        · exact h.ji.lt y hy)
      simp only [List.length_cons] at this
      omega
  · intro hc
    have := all_len (n := n) (r := r) fun v hv => hre v (hc v hv)
    omega
open Classical in
theorem run_joined {n : Nat} {h : Hc} {gs : List Nat} {ps : List Ed} {ls : List Nat} (k : OkG gs ps ls) : callN P (n + 1) 4 [encG gs ps ls] h = .ok (.bl (decide (Conn gs.length ps))) h := by
  obtain ⟨r, e⟩ : ∃ r : List Nat, evSs ⟨callN P n, P.sub⟩ b_is_joined [some (encG gs ps ls), none, none, none, none, none, none] h = .ok (.rt (.bl (decide (Conn gs.length ps)))) (h ++ [.lst (natD r)]) := by
    have key := whS (P := ⟨callN P n, P.sub⟩) (t := .cmp .Lt (.var 2) (.bi .len (.cons (.var 1) .nil))) (body := L_is_joined_2) (σ := sJ (encG gs ps ls) h.length 0 none none none none) (h := h ++ [.lst (natD [0])])
      (fun m σ H => ∃ r a, σ = sJ (encG gs ps ls) h.length a none none none none ∧ H = h ++ [.lst (natD r)] ∧ JB gs.length ps r a ∧ m = gs.length - a)
      (fun res => ∃ r a, res = .ok (.nx (sJ (encG gs ps ls) h.length a none none none none)) (h ++ [.lst (natD r)]) ∧ (r.length = gs.length ↔ Conn gs.length ps))
      (fun m σ H I => by
        obtain ⟨r, a, rfl, rfl, jb, rfl⟩ := I
        have ev : evE (callN P n) (.cmp .Lt (.var 2) (.bi .len (.cons (.var 1) .nil))) (sJ (encG gs ps ls) h.length a none none none none) (h ++ [.lst (natD r)]) = .ok (.bl (decide (a < r.length))) (h ++ [.lst (natD r)]) := by
          simp only [EV, EB, sJ, List.getElem?_cons_succ, List.getElem?_cons_zero, biF, lenF, seqD, cell_at, cmpF, ltF, Option.map_some]
          rw [natD, List.length_map]
          congr 2
          rw [decide_eq_decide]; omega
        by_cases ha : a < r.length
        · have hx : r[a]? = some r[a] := List.getElem?_eq_getElem ha
          obtain ⟨s1, s2⟩ := j2 (Pe := ⟨callN P n, P.sub⟩) (h := h) k hx jb.ji
          rw [decide_eq_true ha] at ev
          have hle := nodup_len jb.ji.nd jb.ji.lt
          exact .inr ⟨_, _, _, by rw [ev]; rfl, s1, gs.length - (a + 1), by omega, _, _, rfl, rfl, jb.next hx s2, rfl⟩
        · rw [decide_eq_false ha] at ev
          exact .inl ⟨_, by rw [ev]; rfl, r, a, rfl, jb.done k.pos ha⟩)
      gs.length (by have := k.n7; omega) ⟨[0], 0, rfl, rfl, ⟨⟨by simp, fun y hy => by have := k.pos; simp at hy; omega⟩, by simp, by simp, fun y hy => by
        rw [List.mem_singleton] at hy; subst hy; exact .refl, fun i y hi => by omega⟩, by omega⟩
    obtain ⟨r, a, e, hr⟩ := key
    refine ⟨r, ?_⟩
    unfold b_is_joined
    rw [seqN (σ' := [some (encG gs ps ls), some (.ref h.length), none, none, none, none, none]) (h' := h ++ [.lst (natD [0])]), seqN (σ' := sJ (encG gs ps ls) h.length 0 none none none none) (h' := h ++ [.lst (natD [0])]), seqN e]
    · refine seqR (retE ?_)
      simp only [EV, EB, sJ, List.getElem?_cons_succ, List.getElem?_cons_zero, biF, lenF, seqD, cell_at, encG, idxF, atD, ixD]
      simp only [List.length_cons, List.length_nil]
      simp [lenF, seqD, EB, cmpF, eqF]
      rw [← hr]
      omega
    · exact asgV (by simp only [EV]; rfl)
    · exact asgV (by simp only [EV, EB]; rfl)
  exact call_rt rfl rfl rfl rfl rfl e

/-! ### is_stable_graph -/
def stab (gs : List Nat) (ps : List Ed) (ls : List Nat) : Bool := (List.range gs.length).all fun v => decide (2 < 2 * gs.getD v 0 + (vals gs.length ps ls).getD v 0)
open Classical in
/-- the law's sense of a stable graph -/
noncomputable def good (v : D) : Bool := decide (∃ gs ps ls, OkG gs ps ls ∧ v = encG gs ps ls ∧ asSorted (ps.map eP) = true ∧ Conn gs.length ps ∧ stab gs ps ls = true)
theorem natD_inj : ∀ {a b : List Nat}, natD a = natD b → a = b
  | [], [], _ => rfl
  | [], b :: bs, h => by simp [natD] at h
  | a :: as, [], h => by simp [natD] at h
  | a :: as, b :: bs, h => by
    simp only [natD, List.map_cons, List.cons.injEq, D.int.injEq] at h
    rw [natD_inj h.2, show a = b by omega]
theorem eP_inj : ∀ {a b : List Ed}, a.map eP = b.map eP → a = b
  | [], [], _ => rfl
  | [], b :: bs, h => by simp at h
  | a :: as, [], h => by simp at h
  | a :: as, b :: bs, h => by
    simp only [List.map_cons, List.cons.injEq, eP, D.tup.injEq, D.int.injEq, and_true] at h
    rw [eP_inj h.2, show a = b from Prod.ext (by omega) (by omega)]
theorem encG_inj {gs gs' : List Nat} {ps ps' : List Ed} {ls ls' : List Nat} (h : encG gs ps ls = encG gs' ps' ls') : gs = gs' ∧ ps = ps' ∧ ls = ls' := by
  simp only [encG, D.tup.injEq, List.cons.injEq, and_true] at h
  exact ⟨natD_inj h.1, eP_inj h.2.1, natD_inj h.2.2⟩
open Classical in
theorem good_enc {gs : List Nat} {ps : List Ed} {ls : List Nat} (k : OkG gs ps ls) (hs : asSorted (ps.map eP) = true) : good (encG gs ps ls) = (decide (Conn gs.length ps) && stab gs ps ls) := by
  unfold good
  rw [Bool.eq_iff_iff, Bool.and_eq_true, decide_eq_true_eq, decide_eq_true_eq]
  constructor
  · rintro ⟨gs', ps', ls', k', e, s, c, t⟩
    obtain ⟨rfl, rfl, rfl⟩ := encG_inj e
    exact ⟨c, t⟩
  · rintro ⟨c, t⟩
    exact ⟨gs, ps, ls, k, rfl, hs, c, t⟩
open Classical in
theorem good_bad {v : D} (h : formOk v = false) : good v = false := by
  unfold good
  rw [decide_eq_false_iff_not]
  rintro ⟨gs, ps, ls, k, rfl, hs, _⟩
  rw [encG_form k hs] at h
  cases h
theorem rngD_nat : ∀ (n i : Nat), rngD (i : Int) 1 n = natD (List.range' i n)
  | 0, i => rfl
  | n + 1, i => by
    rw [rngD, List.range'_succ, natD, List.map_cons]
    have := rngD_nat n (i + 1)
    rw [natD] at this
    rw [← this]
    rfl
theorem rngD_zero (n : Nat) : rngD 0 1 n = natD (List.range n) := by
  rw [List.range_eq_range']; exact rngD_nat n 0
theorem vals_len {n : Nat} {ps : List Ed} {ls : List Nat} : (vals n ps ls).length = n := by
  unfold vals
  have h1 : ∀ (l : List Nat) (f : List Nat), (l.foldl bump f).length = f.length := fun l => by
    induction l with
    | nil => intro f; rfl
    | cons a l ih => intro f; rw [List.foldl_cons, ih, bump_len]
  have h2 : ∀ (l : List Ed) (f : List Nat), (l.foldl (fun f p => bump (bump f p.1) p.2) f).length = f.length := fun l => by
    induction l with
    | nil => intro f; rfl
    | cons a l ih => intro f; rw [List.foldl_cons, ih, bump_len, bump_len]
  rw [h1, h2, List.length_replicate]
theorem atD_natG {l : List Nat} {i : Nat} (h : i < l.length) : atD (natD l) (i : Int) = some (.int (l.getD i 0 : Nat)) := by
  refine atD_nat ?_
  rw [List.getElem?_eq_getElem h, List.getD_eq_getElem?_getD, List.getElem?_eq_getElem h]
  rfl
theorem natD_plain_tup {l : List Nat} : (D.tup (natD l)).plain = true := by rw [D.plain]; exact plains_natD l
theorem encG_plain {gs : List Nat} {ps : List Ed} {ls : List Nat} : (encG gs ps ls).plain = true := by
  have : ∀ l : List Ed, D.plains (l.map eP) = true := fun l => by
    induction l with
    | nil => rfl
    | cons a l ih => simp [D.plains, D.plain, eP, ih]
  simp only [encG, D.plain, D.plains, Bool.and_true, Bool.and_eq_true]
  exact ⟨plains_natD gs, this ps, plains_natD ls⟩
theorem stab_elt (gs : List Nat) (ps : List Ed) (ls : List Nat) : (!((List.range gs.length).map fun v => decide (2 * gs.getD v 0 + (vals gs.length ps ls).getD v 0 < 3)).any id) = stab gs ps ls := by
  unfold stab
  rw [List.any_map, List.not_any_eq_all_not]
  congr 1
  funext v
  simp only [Function.comp, id]
  rw [Bool.eq_iff_iff]
  simp
  omega
theorem run_stable {n : Nat} {h : Hc} {v : D} (hv : v.plain = true) : callN P (n + 4) 5 [v] h = .ok (.bl (good v)) h := by
  refine call_rtp rfl rfl rfl rfl ?_
  show evSs _ b_is_stable_graph [some v, none, none] h = _
  unfold b_is_stable_graph
  have q : callN P (n + 3) 2 [v] h = .ok (.bl (formOk v)) h := run_has_form hv
  have c0 : evE (callN P (n + 3)) (.not_ (.call 2 (.cons (.var 0) .nil))) [some v, none, none] h = .ok (.bl (!formOk v)) h := by
    simp only [EV, EB, List.getElem?_cons_zero, q]
  cases hf : formOk v with
  | false =>
    rw [hf] at c0
    rw [good_bad hf]
    refine seqR ?_
    rw [ifT c0]
    exact seqR (retE (by simp only [EV]))
  | true =>
    rw [hf] at c0
    obtain ⟨gs, ps, ls, k, rfl, hs⟩ := formOk_enc hf
    rw [good_enc k hs]
    have hl7 := k.n7
    rw [seqN (σ' := [some (encG gs ps ls), none, none]) (h' := h) (by rw [ifF c0]; simp only [ES]), seqN (σ' := [some (encG gs ps ls), some (.tup (natD (vals gs.length ps ls))), none]) (h' := h) (asgV (by simp only [EV, EB, List.getElem?_cons_zero]; exact run_valences k))]
    have key : compF (evE (callN P (n + 3)) (.cmp .Lt (.bin .Add (.bin .Mult (.cst (.int 2)) (.idx (.idx (.var 0) (.cst (.int 0))) (.var 2))) (.idx (.var 1) (.var 2))) (.cst (.int 3)))) (condR true (evE (callN P (n + 3)) .absent)) (.v 2) [] (cwipe [some (encG gs ps ls), some (.tup (natD (vals gs.length ps ls))), none] [2]) (natD (List.range gs.length)) h = .ok ((List.range gs.length).map fun v => .bl (decide (2 * gs.getD v 0 + (vals gs.length ps ls).getD v 0 < 3))) h := by
      rw [compF_pure rfl (fun x => match x with | .int i => .bl (decide (2 * gs.getD i.toNat 0 + (vals gs.length ps ls).getD i.toNat 0 < 3)) | _ => .non) (fun _ => true)]
      · rw [List.filter_eq_self.mpr (by simp), natD, List.map_map]
        rfl
      · intro x hx
        rw [natD] at hx
        obtain ⟨i, hi, rfl⟩ := List.mem_map.mp hx
        rw [List.mem_range] at hi
        refine ⟨_, rfl, rfl, fun _ => ?_⟩
        simp only [EV, EB, cwipe, List.set_cons_succ, List.set_cons_zero, List.getElem?_cons_zero, List.getElem?_cons_succ, encG, idxF]
        have a1 : atD [D.tup (natD gs), D.tup (ps.map eP), D.tup (natD ls)] 0 = some (D.tup (natD gs)) := rfl
        have a2 := atD_natG (l := gs) hi
        have a3 := atD_natG (l := vals gs.length ps ls) (i := i) (by rw [vals_len]; exact hi)
        rw [show (List.map (fun g => D.int (g : Nat)) gs) = natD gs from rfl, show (List.map (fun g => D.int (g : Nat)) ls) = natD ls from rfl, a1]
        simp only [EB, a2, a3, idxF]
        simp only [binF, mulF]
        rw [if_pos (show mulOk 2 _ = true by unfold mulOk; rw [show decide (bitsI 2 ≤ 64) = true from by decide]; rfl)]
        simp only [EB, addF, cmpF, ltF, Option.map_some, Int.toNat_natCast]
        congr 2
        rw [decide_eq_decide]
        omega
    have ec : evE (callN P (n + 3)) (.bi .any (.cons (.comp (.cmp .Lt (.bin .Add (.bin .Mult (.cst (.int 2)) (.idx (.idx (.var 0) (.cst (.int 0))) (.var 2))) (.idx (.var 1) (.var 2))) (.cst (.int 3))) (.v 2) (.rng1 (.bi .len (.cons (.var 1) .nil))) .absent [2]) .nil)) [some (encG gs ps ls), some (.tup (natD (vals gs.length ps ls))), none] h = .ok (.bl (!stab gs ps ls)) h := by
      have hsm : smallI (gs.length : Nat) = true := by
        unfold smallI; simp; omega
      simp only [EV, EB, List.getElem?_cons_zero, List.getElem?_cons_succ, biF, lenF, seqD]
      rw [natD, List.length_map, vals_len, hsm]
      simp only [if_true, EB]
      rw [if_pos (by rw [Int.toNat_natCast, rngD_zero, natD, List.length_map, List.length_range]; unfold line; omega), Int.toNat_natCast, rngD_zero]
      simp only [CE.isAbs]
      have key' := key
      rw [natD] at key'
      rw [key']
      simp only [lmap, List.nil_append, EB, lstD, Option.bind_some]
      rw [allB_map]
      simp only [Option.map_some, EB]
      rw [← stab_elt, Bool.not_not]
    cases hst : stab gs ps ls with
    | false =>
      rw [hst] at ec
      rw [Bool.and_false]
      refine seqR ?_
      rw [ifT (P := ⟨callN P (n + 3), P.sub⟩) ec]
      exact seqR (retE (by simp only [EV]))
    | true =>
      rw [hst] at ec
      rw [Bool.and_true]
      rw [seqN (σ' := [some (encG gs ps ls), some (.tup (natD (vals gs.length ps ls))), none]) (h' := h) (by rw [ifF (P := ⟨callN P (n + 3), P.sub⟩) ec]; simp only [ES])]
      exact seqR (retE (by simp only [EV, EB, List.getElem?_cons_zero]; exact run_joined k))
open Classical in
theorem good_form {v : D} (h : good v = true) : ∃ gs ps ls, OkG gs ps ls ∧ v = encG gs ps ls ∧ asSorted (ps.map eP) = true := by
  unfold good at h
  obtain ⟨gs, ps, ls, k, e, s, _⟩ := of_decide_eq_true h
  exact ⟨gs, ps, ls, k, e, s⟩
/-! ### what asks for it -/
theorem run_check {n : Nat} {h : Hc} {v : D} (hv : v.plain = true) : callN P (n + 5) 6 [v] h = if good v then .ok .non h else .exc ⟨1, none⟩ h := by
  have q : callN P (n + 4) 5 [v] h = .ok (.bl (good v)) h := run_stable hv
  have c0 : evE (callN P (n + 4)) (.not_ (.call 5 (.cons (.var 0) .nil))) [some v] h = .ok (.bl (!good v)) h := by
    simp only [EV, EB, List.getElem?_cons_zero, q]
  cases hg : good v with
  | true =>
    rw [hg] at c0
    refine call_nxp (σ' := [some v]) rfl rfl rfl rfl ?_
    show evSs _ b_check_graph [some v] h = _
    unfold b_check_graph
    rw [seqN (σ' := [some v]) (h' := h) (by rw [ifF c0]; simp only [ES])]
    simp only [ES]
  | false =>
    rw [hg] at c0
    refine call_xp (σ' := [some v]) rfl rfl rfl rfl ?_
    show evSs _ b_check_graph [some v] h = _
    unfold b_check_graph
    refine seqX ?_
    rw [ifT c0]
    exact seqX raiseN

theorem mulOk_l {a b : Int} (h : bitsI a ≤ 64) : mulOk a b = true := by unfold mulOk; rw [decide_eq_true h]; rfl
/-! ### graph_type, graph_valences -/
theorem sumI_nat : ∀ l : List Nat, sumI (natD l) = some ((l.sum : Nat) : Int)
  | [] => rfl
  | a :: l => by
    rw [natD, List.map_cons, sumI, List.sum_cons]
    have := sumI_nat l
    rw [natD] at this
    rw [this]
    simp
def typeG (gs : List Nat) (ps : List Ed) (ls : List Nat) : D := .tup [.int ((gs.sum : Int) + ps.length - gs.length + 1), .int (ls.length : Nat)]
theorem ev_sum0 {C : Caller} {i : Nat} {σ : CSt} {h : Hc} {gs : List Nat} {ps : List Ed} {ls : List Nat} (e : σ[i]? = some (some (encG gs ps ls))) :
    evE C (.bin .Add (.bin .Sub (.bin .Add (.bi .sum (.cons (.idx (.var i) (.cst (.int 0))) .nil)) (.bi .len (.cons (.idx (.var i) (.cst (.int 1))) .nil))) (.bi .len (.cons (.idx (.var i) (.cst (.int 0))) .nil))) (.cst (.int 1))) σ h = .ok (.int ((gs.sum : Int) + ps.length - gs.length + 1)) h := by
  have a0 : atD [D.tup (natD gs), D.tup (ps.map eP), D.tup (natD ls)] 0 = some (D.tup (natD gs)) := rfl
  have a1 : atD [D.tup (natD gs), D.tup (ps.map eP), D.tup (natD ls)] 1 = some (D.tup (ps.map eP)) := rfl
  simp only [EV, EB, e, encG, idxF]
  rw [show (List.map (fun g => D.int (g : Nat)) gs) = natD gs from rfl, show (List.map (fun g => D.int (g : Nat)) ls) = natD ls from rfl]
  simp only [a0, a1, EB, biF, lenF, seqD, Option.bind_some, sumI_nat, Option.map_some, binF, addF, int2]
  rw [natD, List.length_map, List.length_map]
theorem ev_len2 {C : Caller} {i : Nat} {σ : CSt} {h : Hc} {gs : List Nat} {ps : List Ed} {ls : List Nat} (e : σ[i]? = some (some (encG gs ps ls))) :
    evE C (.bi .len (.cons (.idx (.var i) (.cst (.int 2))) .nil)) σ h = .ok (.int (ls.length : Nat)) h := by
  have a2 : atD [D.tup (natD gs), D.tup (ps.map eP), D.tup (natD ls)] 2 = some (D.tup (natD ls)) := rfl
  simp only [EV, EB, e, encG, idxF]
  rw [show (List.map (fun g => D.int (g : Nat)) gs) = natD gs from rfl, show (List.map (fun g => D.int (g : Nat)) ls) = natD ls from rfl]
  simp only [a2, EB, biF, lenF, seqD]
  rw [natD, List.length_map]
theorem exprE {P : Env2} {e : CE} {σ : CSt} {h h' : Hc} {d : D} (k : evE P.C e σ h = .ok d h') : evS P (.expr e) σ h = .ok (.nx σ) h' := by simp only [ES, EB, k]
theorem exprX {P : Env2} {e : CE} {σ : CSt} {h h' : Hc} {x : Exc} (k : evE P.C e σ h = .exc x h') : evS P (.expr e) σ h = .exc x σ h' := by simp only [ES, EB, k]
theorem ev_call1 {C : Caller} {f i : Nat} {σ : CSt} {h : Hc} {d : D} {r : ERes D} (e : σ[i]? = some (some d)) (k : C f [d] h = r) : evE C (.call f (.cons (.var i) .nil)) σ h = r := by
  simp only [EV, EB, e, k]
theorem run_type {n : Nat} {h : Hc} {v : D} (hv : v.plain = true) : callN P (n + 6) 7 [v] h = if good v then .ok (match v with | .tup [.tup gs, .tup ps, .tup ls] => .tup [.int ((sumI gs).getD 0 + ps.length - gs.length + 1), .int ls.length] | _ => .non) h else .exc ⟨1, none⟩ h := by
  have q : callN P (n + 5) 6 [v] h = _ := run_check hv
  cases hg : good v with
  | true =>
    obtain ⟨gs, ps, ls, k, rfl, hs⟩ := good_form hg
    rw [hg] at q
    simp only [if_true]
    refine call_rtp rfl rfl rfl rfl ?_
    show evSs _ b_graph_type [some (encG gs ps ls)] h = _
    unfold b_graph_type
    rw [seqN (exprE (P := ⟨callN P (n + 5), P.sub⟩) (d := .non) (h' := h) (ev_call1 rfl (q.trans (if_pos rfl))))]
    refine seqR (retE ?_)
    simp only [EV, EB]
    have e1 := ev_sum0 (C := callN P (n + 5)) (i := 0) (σ := [some (encG gs ps ls)]) (h := h) (gs := gs) (ps := ps) (ls := ls) rfl
    have e2 := ev_len2 (C := callN P (n + 5)) (i := 0) (σ := [some (encG gs ps ls)]) (h := h) (gs := gs) (ps := ps) (ls := ls) rfl
    simp only [EV, EB] at e1 e2
    rw [e1]
    simp only [EB]
    rw [e2]
    simp only [EB, encG]
    rw [sumI_nat, List.length_map, List.length_map, List.length_map]
    rfl
  | false =>
    rw [hg] at q
    refine call_xp (σ' := [some v]) rfl rfl rfl rfl ?_
    show evSs _ b_graph_type [some v] h = _
    unfold b_graph_type
    exact seqX (exprX (P := ⟨callN P (n + 5), P.sub⟩) (ev_call1 rfl (q.trans (if_neg (by simp)))))
theorem run_gvals {n : Nat} {h : Hc} {v : D} (hv : v.plain = true) (hg : good v = false) : callN P (n + 6) 8 [v] h = .exc ⟨1, none⟩ h := by
  have q : callN P (n + 5) 6 [v] h = _ := run_check hv
  rw [hg] at q
  refine call_xp (σ' := [some v]) rfl rfl rfl rfl ?_
  show evSs _ b_graph_valences [some v] h = _
  unfold b_graph_valences
  exact seqX (exprX (P := ⟨callN P (n + 5), P.sub⟩) (ev_call1 rfl (q.trans (if_neg (by simp)))))
theorem run_gvalsT {n : Nat} {h : Hc} {gs : List Nat} {ps : List Ed} {ls : List Nat} (k : OkG gs ps ls) (hg : good (encG gs ps ls) = true) : callN P (n + 6) 8 [encG gs ps ls] h = .ok (.tup (natD (vals gs.length ps ls))) h := by
  have q : callN P (n + 5) 6 [encG gs ps ls] h = _ := run_check encG_plain
  rw [hg] at q
  refine call_rtp rfl rfl rfl rfl ?_
  show evSs _ b_graph_valences [some (encG gs ps ls)] h = _
  unfold b_graph_valences
  rw [seqN (exprE (P := ⟨callN P (n + 5), P.sub⟩) (d := .non) (h' := h) (ev_call1 rfl (q.trans (if_pos rfl))))]
  exact seqR (retE (P := ⟨callN P (n + 5), P.sub⟩) (ev_call1 (C := callN P (n + 5)) rfl (run_valences (n := n + 4) k)))
theorem run_typeT {n : Nat} {h : Hc} {gs : List Nat} {ps : List Ed} {ls : List Nat} (k : OkG gs ps ls) (hg : good (encG gs ps ls) = true) : callN P (n + 6) 7 [encG gs ps ls] h = .ok (typeG gs ps ls) h := by
  rw [run_type encG_plain, hg]
  simp only [if_true, encG]
  rw [sumI_nat, List.length_map, List.length_map, List.length_map]
  rfl
/-! ### _law_inner of rows of ints -/
theorem run_inner_int {n : Nat} {h : Hc} {i : Int} : callN P (n + 1) 9 [.int i] h = .ok (.int i) h := by
  refine call_rtp rfl rfl rfl rfl ?_
  show evSs _ b__law_inner [some (.int i), none] h = _
  unfold b__law_inner
  simp [ES, EV, EB, isFs, kdD, kdTy, cmpF, isNon, D.isN]
theorem run_inner_ints {n : Nat} {h : Hc} {is : List Int} (hl : is.length ≤ line) : callN P (n + 2) 9 [.tup (is.map .int)] h = .ok (.tup (is.map .int)) h := by
  refine call_rtp rfl rfl rfl rfl ?_
  show evSs _ b__law_inner [some (.tup (is.map .int)), none] h = _
  unfold b__law_inner
  refine seqR ?_
  rw [ifT (P := ⟨callN P (n + 1), P.sub⟩) (h' := h) (by simp [EV, EB, isFs, kdD, kdTy])]
  refine seqR (retE ?_)
  have key : compF (evE (callN P (n + 1)) (.call 9 (.cons (.var 1) .nil))) (condR true (evE (callN P (n + 1)) .absent)) (.v 1) [] (cwipe [some (.tup (is.map .int)), none] [1]) (is.map .int) h = .ok (is.map .int) h := by
    rw [compF_pure rfl (fun x => x) (fun _ => true)]
    · rw [List.filter_eq_self.mpr (by simp), List.map_id']
    · intro x hx
      obtain ⟨i, hi, rfl⟩ := List.mem_map.mp hx
      exact ⟨_, rfl, rfl, fun _ => ev_call1 rfl run_inner_int⟩
  simp only [EV, EB, List.getElem?_cons_zero, seqD, guardOf, CE.isAbs]
  rw [List.length_map, if_pos hl, key]
  simp [lmap, EB, biF, seqD]
theorem run_plain_ints {n : Nat} {h : Hc} {is : List Int} (hl : is.length ≤ line) : callN P (n + 3) 10 [.tup (is.map .int)] h = .ok (.tup (is.map .int)) h := by
  refine call_rtp rfl rfl rfl rfl ?_
  show evSs _ b__law_plain [some (.tup (is.map .int))] h = _
  unfold b__law_plain
  refine seqR (retE ?_)
  have q : callN P (n + 2) 9 [.tup (is.map .int)] h = _ := run_inner_ints hl
  simp [EV, EB, isFs, kdD, kdTy, q]
/-! ### _law_told -/
theorem str_mal : D.str (Str.ofString "malformed") = .str (Str.ofString "malformed") := rfl
def mal : D := .str (Str.ofString "malformed")
theorem natD_ints (l : List Nat) : natD l = (l.map fun n : Nat => (n : Int)).map .int := by rw [List.map_map]; rfl
theorem sub11 : P.sub 1 1 = some true := rfl
theorem run_told_bad {n : Nat} {h : Hc} {v : D} {w : Int} (hv : v.plain = true) (hg : good v = false) : callN P (n + 7) 20 [.int w, v] h = .ok mal h := by
  have q7 : callN P (n + 6) 7 [v] h = _ := run_type hv
  have q8 : callN P (n + 6) 8 [v] h = _ := run_gvals hv hg
  rw [hg] at q7
  refine call_rtp rfl rfl rfl rfl ?_
  show evSs _ b__law_told [some (.int w), some v] h = _
  unfold b__law_told
  have e : evE (callN P (n + 6)) (.call 10 (.cons (.ite (.cmp .Eq (.var 0) (.cst (.int 0))) (.call 7 (.cons (.var 1) .nil)) (.call 8 (.cons (.var 1) .nil))) .nil)) [some (.int w), some v] h = .exc ⟨1, none⟩ h := by
    by_cases hw : w = 0
    · simp [EV, EB, cmpF, eqF, hw, q7]
    · simp [EV, EB, cmpF, eqF, hw, q8]
  simp only [ES, EB, e, sub11, EV, noExc]
  rfl
theorem run_told_type {n : Nat} {h : Hc} {gs : List Nat} {ps : List Ed} {ls : List Nat} (k : OkG gs ps ls) (hg : good (encG gs ps ls) = true) : callN P (n + 7) 20 [.int 0, encG gs ps ls] h = .ok (typeG gs ps ls) h := by
  have q7 : callN P (n + 6) 7 [encG gs ps ls] h = _ := run_typeT k hg
  have q10 : callN P (n + 6) 10 [typeG gs ps ls] h = .ok (typeG gs ps ls) h := run_plain_ints (n := n + 3) (is := [(gs.sum : Int) + ps.length - gs.length + 1, (ls.length : Nat)]) (show 2 ≤ line by decide)
  refine call_rtp rfl rfl rfl rfl ?_
  show evSs _ b__law_told [some (.int 0), some (encG gs ps ls)] h = _
  unfold b__law_told
  simp [ES, EV, EB, cmpF, eqF, q7, q10]
theorem run_told_vals {n : Nat} {h : Hc} {gs : List Nat} {ps : List Ed} {ls : List Nat} (k : OkG gs ps ls) (hg : good (encG gs ps ls) = true) : callN P (n + 7) 20 [.int 1, encG gs ps ls] h = .ok (.tup (natD (vals gs.length ps ls))) h := by
  have q8 : callN P (n + 6) 8 [encG gs ps ls] h = _ := run_gvalsT k hg
  have q10 : callN P (n + 6) 10 [.tup (natD (vals gs.length ps ls))] h = .ok (.tup (natD (vals gs.length ps ls))) h := by
    rw [natD_ints]
    exact run_plain_ints (n := n + 3) (by rw [List.length_map, vals_len]; have := k.n7; unfold line; omega)
  refine call_rtp rfl rfl rfl rfl ?_
  show evSs _ b__law_told [some (.int 1), some (encG gs ps ls)] h = _
  unfold b__law_told
  simp [ES, EV, EB, cmpF, eqF, q8, q10]

/-! ### _law_valences -/
theorem sput_bump {Pe : Env2} {i j : Nat} {σ : CSt} {h : Hc} {f : List Nat} {v : Nat} (e1 : σ[i]? = some (some (.ref h.length))) (e2 : σ[j]? = some (some (.int (v : Nat)))) (hv : v < f.length) :
    evS Pe (.sput (.var i) (.var j) (.bin .Add (.idx (.var i) (.var j)) (.cst (.int 1)))) σ (h ++ [.lst (natD f)]) = .ok (.nx σ) (h ++ [.lst (natD (bump f v))]) := by
  have hf : f[v]? = some f[v] := List.getElem?_eq_getElem hv
  rw [bump_set hf]
  have h1 : ixD (natD f).length (v : Int) = some v := by
    unfold ixD
    rw [if_pos (by omega), if_pos (by simp; omega)]
    simp
  simp only [ES, EV, EB, e1, e2, idxF, cell_at, atD_nat hf, binF, addF, putF, h1, Option.map_some, cell_set]
def sLv (G : D) (k : Nat) (o2 o3 : Option D) : CSt := [some G, some (.ref k), o2, o3]
theorem lv0 {Pe : Env2} {G : D} {h : Hc} {n : Nat} {ps : List Ed} {o2 o3 : Option D} {f : List Nat} (hp : ∀ p ∈ ps, p.1 < n ∧ p.2 < n) (hf : f.length = n) :
    ∃ o2' o3', forF (evSs Pe L__law_valences_0) (.t (.cons (.v 2) (.cons (.v 3) .nil))) [] (ps.map eP) (sLv G h.length o2 o3) (h ++ [.lst (natD f)]) = .ok (.nx (sLv G h.length o2' o3')) (h ++ [.lst (natD (ps.foldl (fun f p => bump (bump f p.1) p.2) f))]) ∧ (ps.foldl (fun f p => bump (bump f p.1) p.2) f).length = n := by
  obtain ⟨σ', H', e, ⟨o2', o3', rfl⟩, rfl, r⟩ := forF_map (fb := evSs Pe L__law_valences_0) (t := .t (.cons (.v 2) (.cons (.v 3) .nil))) (g := []) eP (fun f σ H => (∃ o2 o3, σ = sLv G h.length o2 o3) ∧ H = h ++ [.lst (natD f)] ∧ f.length = n) (fun f p => bump (bump f p.1) p.2) (fun _ _ _ _ => rfl) ps (fun f p σ H hm R => by
    obtain ⟨⟨o2, o3, rfl⟩, rfl, r⟩ := R
    obtain ⟨h1, h2⟩ := hp p hm
    refine ⟨sLv G h.length (some (.int (p.1 : Nat))) (some (.int (p.2 : Nat))), rfl, _, _, ?_, ⟨some (.int (p.1 : Nat)), some (.int (p.2 : Nat)), rfl⟩, rfl, by rw [bump_len, bump_len]; exact r⟩
    unfold L__law_valences_0
    rw [seqN (sput_bump (v := p.1) rfl rfl (by omega)), seqN (sput_bump (v := p.2) rfl rfl (by rw [bump_len]; omega))]
    simp only [ES]) f (sLv G h.length o2 o3) (h ++ [.lst (natD f)]) ⟨⟨_, _, rfl⟩, rfl, hf⟩
  exact ⟨o2', o3', e, r⟩
theorem lv1 {Pe : Env2} {G : D} {h : Hc} {n : Nat} {ls : List Nat} {o2 o3 : Option D} {f : List Nat} (hp : ∀ p ∈ ls, p < n) (hf : f.length = n) :
    ∃ o2' o3', forF (evSs Pe L__law_valences_1) (.v 3) [] (natD ls) (sLv G h.length o2 o3) (h ++ [.lst (natD f)]) = .ok (.nx (sLv G h.length o2' o3')) (h ++ [.lst (natD (ls.foldl bump f))]) := by
  obtain ⟨σ', H', e, ⟨o2', o3', rfl⟩, rfl, r⟩ := forF_map (fb := evSs Pe L__law_valences_1) (t := .v 3) (g := []) (fun n : Nat => D.int (n : Nat)) (fun f σ H => (∃ o2 o3, σ = sLv G h.length o2 o3) ∧ H = h ++ [.lst (natD f)] ∧ f.length = n) bump (fun _ _ _ _ => rfl) ls (fun f p σ H hm R => by
    obtain ⟨⟨o2, o3, rfl⟩, rfl, r⟩ := R
    have h1 := hp p hm
    refine ⟨sLv G h.length o2 (some (.int (p : Nat))), rfl, _, _, ?_, ⟨o2, some (.int (p : Nat)), rfl⟩, rfl, by rw [bump_len]; exact r⟩
    unfold L__law_valences_1
    rw [seqN (sput_bump (v := p) rfl rfl (by omega))]
    simp only [ES]) f (sLv G h.length o2 o3) (h ++ [.lst (natD f)]) ⟨⟨_, _, rfl⟩, rfl, hf⟩
  exact ⟨o2', o3', e⟩
theorem run_lvals {n : Nat} {h : Hc} {gs : List Nat} {ps : List Ed} {ls : List Nat} (hn : gs.length ≤ line) (hp : ∀ p ∈ ps, p.1 < gs.length ∧ p.2 < gs.length) (hl : ∀ l ∈ ls, l < gs.length) : callN P (n + 1) 15 [encG gs ps ls] h = .ok (.tup (natD (vals gs.length ps ls))) h := by
  refine call_rt (t := [.lst (natD (vals gs.length ps ls))]) rfl rfl rfl rfl (low_plain natD_plain_tup) ?_
  show evSs _ b__law_valences [some (encG gs ps ls), none, none, none] h = _
  unfold b__law_valences
  obtain ⟨o2, o3, e1, l1⟩ := lv0 (Pe := ⟨callN P n, P.sub⟩) (G := encG gs ps ls) (h := h) (n := gs.length) (o2 := none) (o3 := none) (f := List.replicate gs.length 0) hp (by simp)
  obtain ⟨o4, o5, e2⟩ := lv1 (Pe := ⟨callN P n, P.sub⟩) (G := encG gs ps ls) (h := h) (o2 := o2) (o3 := o3) hl l1
  have a0 : atD [D.tup (natD gs), D.tup (ps.map eP), D.tup (natD ls)] 0 = some (D.tup (natD gs)) := rfl
  have a1 : atD [D.tup (natD gs), D.tup (ps.map eP), D.tup (natD ls)] 1 = some (D.tup (ps.map eP)) := rfl
  have a2 : atD [D.tup (natD gs), D.tup (ps.map eP), D.tup (natD ls)] 2 = some (D.tup (natD ls)) := rfl
  have key : compF (evE (callN P n) (.cst (.int 0))) (condR true (evE (callN P n) .absent)) (.v 3) [] (cwipe [some (encG gs ps ls), none, none, none] [3]) (natD gs) h = .ok (natD (List.replicate gs.length 0)) h := by
    rw [compF_pure rfl (fun x => .int 0) (fun _ => true)]
    · rw [List.filter_eq_self.mpr (by simp), natD, List.map_map]
      congr 1
      have : ∀ l : List Nat, l.map ((fun _ => D.int 0) ∘ fun n => D.int (n : Nat)) = natD (List.replicate l.length 0) := fun l => by
        induction l with
        | nil => rfl
        | cons a l ih => rw [List.map_cons, ih]; rfl
      exact this gs
    · intro x hx
      exact ⟨_, rfl, rfl, fun _ => by simp only [EV]⟩
  rw [seqN (σ' := sLv (encG gs ps ls) h.length none none) (h' := h ++ [.lst (natD (List.replicate gs.length 0))]), seqN (σ' := sLv (encG gs ps ls) h.length o2 o3) (h' := h ++ [.lst (natD (ps.foldl (fun f p => bump (bump f p.1) p.2) (List.replicate gs.length 0)))]), seqN (σ' := sLv (encG gs ps ls) h.length o4 o5) (h' := h ++ [.lst (natD (vals gs.length ps ls))])]
  · refine seqR (retE ?_)
    simp only [EV, EB, sLv, List.getElem?_cons_succ, List.getElem?_cons_zero]
    simp only [biF, seqD, cell_at, Option.map_some, EB]
  · rw [forS (P := ⟨callN P n, P.sub⟩) (d := .tup (natD ls)) (xs := natD ls) (g := []) _ rfl rfl]
    · exact e2
    · simp only [EV, EB, sLv, List.getElem?_cons_zero, encG, idxF]; rw [show (List.map (fun g => D.int (g : Nat)) gs) = natD gs from rfl, show (List.map (fun g => D.int (g : Nat)) ls) = natD ls from rfl, a2]; rfl
  · rw [forS (P := ⟨callN P n, P.sub⟩) (d := .tup (ps.map eP)) (xs := ps.map eP) (g := []) _ rfl rfl]
    · exact e1
    · simp only [EV, EB, sLv, List.getElem?_cons_zero, encG, idxF]; rw [show (List.map (fun g => D.int (g : Nat)) gs) = natD gs from rfl, show (List.map (fun g => D.int (g : Nat)) ls) = natD ls from rfl, a1]; rfl
  · refine asgV ?_
    simp only [EV, EB, List.getElem?_cons_zero, encG, idxF]
    rw [show (List.map (fun g => D.int (g : Nat)) gs) = natD gs from rfl, show (List.map (fun g => D.int (g : Nat)) ls) = natD ls from rfl, a0]
    simp only [EB, seqD, guardOf, CE.isAbs]
    rw [natD, List.length_map, if_pos hn]
    rw [encG] at key
    rw [key]
    simp only [lmap, List.nil_append, EB]
/-! ### _law_joined -/
def relab (L : List Nat) (p : Ed) : List Nat := L.map fun c => if c = L.getD p.2 0 then L.getD p.1 0 else c
def labs (n : Nat) (ps : List Ed) : List Nat := ps.foldl relab (List.range n)
def sLj (n : Nat) (Ps : D) (L : List Nat) (o3 o4 : Option D) : CSt := [some (.int (n : Nat)), some Ps, some (.lst (natD L)), o3, o4, none, none, none]
theorem lj0 {Pe : Env2} {n : Nat} {Ps : D} {h : Hc} {L : List Nat} {p : Ed} (h1 : p.1 < L.length) (h2 : p.2 < L.length) (hl : L.length ≤ line) :
    evSs Pe L__law_joined_0 (sLj n Ps L (some (.int (p.1 : Nat))) (some (.int (p.2 : Nat)))) h = .ok (.nx (sLj n Ps (relab L p) (some (.int (p.1 : Nat))) (some (.int (p.2 : Nat))))) h := by
  unfold L__law_joined_0
  rw [seqN (σ' := [some (.int (n : Nat)), some Ps, some (.lst (natD L)), some (.int (p.1 : Nat)), some (.int (p.2 : Nat)), some (.int (L.getD p.1 0 : Nat)), some (.int (L.getD p.2 0 : Nat)), none]) (h' := h)]
  · have key : compF (evE Pe.C (.ite (.cmp .Eq (.var 7) (.var 6)) (.var 5) (.var 7))) (condR true (evE Pe.C .absent)) (.v 7) [] (cwipe [some (.int (n : Nat)), some Ps, some (.lst (natD L)), some (.int (p.1 : Nat)), some (.int (p.2 : Nat)), some (.int (L.getD p.1 0 : Nat)), some (.int (L.getD p.2 0 : Nat)), none] [7]) (natD L) h = .ok (natD (relab L p)) h := by
      rw [compF_pure rfl (fun x => match x with | .int c => .int (if c = (L.getD p.2 0 : Nat) then (L.getD p.1 0 : Nat) else c) | _ => .non) (fun _ => true)]
      · rw [List.filter_eq_self.mpr (by simp), natD, List.map_map, relab, natD, List.map_map]
        congr 1
        refine List.map_congr_left fun c _ => ?_
        simp only [Function.comp]
        congr 1
        by_cases hc : c = L.getD p.2 0
        · simp only [hc, if_true]
        · rw [if_neg hc, if_neg (by omega)]
      · intro x hx
        obtain ⟨c, hc, rfl⟩ := List.mem_map.mp hx
        refine ⟨_, rfl, rfl, fun _ => ?_⟩
        simp only [EV, EB, cwipe, List.set_cons_succ, List.set_cons_zero, List.getElem?_cons_zero, List.getElem?_cons_succ, cmpF, eqF, Option.map_some]
        by_cases hc : (c : Int) = (L.getD p.2 0 : Nat)
        · rw [decide_eq_true hc, if_pos hc]
        · rw [decide_eq_false hc, if_neg hc]
    rw [seqN (σ' := [some (.int (n : Nat)), some Ps, some (.lst (natD (relab L p))), some (.int (p.1 : Nat)), some (.int (p.2 : Nat)), some (.int (L.getD p.1 0 : Nat)), some (.int (L.getD p.2 0 : Nat)), none]) (h' := h)]
    · simp only [ES]; rfl
    · refine asgV ?_
      simp only [EV, EB, List.getElem?_cons_zero, List.getElem?_cons_succ, seqD, guardOf, CE.isAbs]
      rw [natD, List.length_map, if_pos hl]
      rw [natD] at key
      rw [key]
      simp only [lmap, List.nil_append]
  · have a1 := atD_natG h1
    have a2 := atD_natG h2
    simp only [ES, EV, EB, sLj, List.getElem?_cons_zero, List.getElem?_cons_succ, idxF, a1, a2, asgT, asgTs]
    rfl
theorem relab_len {L : List Nat} {p : Ed} : (relab L p).length = L.length := by simp [relab]
theorem run_lj {n m : Nat} {h : Hc} {ps : List Ed} (hm : m ≤ 7) (hp : ∀ p ∈ ps, p.1 < m ∧ p.2 < m) : callN P (n + 1) 14 [.int (m : Nat), .tup (ps.map eP)] h = .ok (.lst (natD (labs m ps))) h := by
  refine call_rtp rfl rfl rfl rfl ?_
  show evSs _ b__law_joined [some (.int (m : Nat)), some (.tup (ps.map eP)), none, none, none, none, none, none] h = _
  unfold b__law_joined
  obtain ⟨σ', H', e, ⟨o3, o4, rfl⟩, hH, r⟩ := forF_map (fb := evSs ⟨callN P n, P.sub⟩ L__law_joined_0) (t := .t (.cons (.v 3) (.cons (.v 4) .nil))) (g := []) eP (fun L σ H => (∃ o3 o4, σ = sLj m (.tup (ps.map eP)) L o3 o4) ∧ H = h ∧ L.length = m) relab (fun _ _ _ _ => rfl) ps (fun L p σ H hm' R => by
    obtain ⟨⟨o3, o4, rfl⟩, rfl, r⟩ := R
    obtain ⟨h1, h2⟩ := hp p hm'
    exact ⟨sLj m (.tup (ps.map eP)) L (some (.int (p.1 : Nat))) (some (.int (p.2 : Nat))), rfl, _, _, lj0 (by omega) (by omega) (by unfold line; omega), ⟨_, _, rfl⟩, rfl, by rw [relab_len]; exact r⟩) (List.range m) (sLj m (.tup (ps.map eP)) (List.range m) none none) h ⟨⟨_, _, rfl⟩, rfl, by simp⟩
  rw [hH] at e
  rw [seqN (σ' := sLj m (.tup (ps.map eP)) (List.range m) none none) (h' := h), seqN (σ' := sLj m (.tup (ps.map eP)) (labs m ps) o3 o4) (h' := h)]
  · refine seqR (retE ?_)
    simp only [EV, sLj, List.getElem?_cons_zero, List.getElem?_cons_succ]
  · rw [forS (P := ⟨callN P n, P.sub⟩) (h' := h) (d := .tup (ps.map eP)) (xs := ps.map eP) (g := []) _ rfl rfl]
    · exact e
    · simp only [EV, sLj, List.getElem?_cons_zero, List.getElem?_cons_succ]
  · refine asgV ?_
    have hsm : smallI (m : Nat) = true := by unfold smallI; simp; omega
    simp only [EV, EB, List.getElem?_cons_zero, hsm, if_true]
    rw [Int.toNat_natCast, rngD_zero, natD, List.length_map, List.length_range, if_pos (by unfold line; omega)]
/-! ### labels and connections -/
structure LI (n : Nat) (ps : List Ed) (L : List Nat) : Prop where
  len : L.length = n
  iff : ∀ i j, i < n → j < n → (L.getD i 0 = L.getD j 0 ↔ Reach ps i j)
theorem reach_mono {ps qs : List Ed} {u v : Nat} (h : Reach ps u v) (k : ∀ p ∈ ps, p ∈ qs) : Reach qs u v := by
  induction h with
  | refl => exact .refl
  | step _ a ih => exact ih.step (a.imp (k _) (k _))
theorem reach_add {ps : List Ed} {p : Ed} {i j : Nat} : Reach (ps ++ [p]) i j ↔ Reach ps i j ∨ (Reach ps i p.1 ∧ Reach ps p.2 j) ∨ (Reach ps i p.2 ∧ Reach ps p.1 j) := by
  have hm : ∀ q ∈ ps, q ∈ ps ++ [p] := fun q hq => List.mem_append_left _ hq
  constructor
  · intro h
    induction h with
    | refl => exact .inl .refl
    | @step v w _ a ih =>
      have ha : Adj ps v w ∨ (v = p.1 ∧ w = p.2) ∨ (v = p.2 ∧ w = p.1) := by
        rcases a with a | a
        · rcases List.mem_append.mp a with a | a
          · exact .inl (.inl a)
          · rw [List.mem_singleton] at a; subst a; exact .inr (.inl ⟨rfl, rfl⟩)
        · rcases List.mem_append.mp a with a | a
          · exact .inl (.inr a)
          · rw [List.mem_singleton] at a; subst a; exact .inr (.inr ⟨rfl, rfl⟩)
      rcases ha with ha | ⟨rfl, rfl⟩ | ⟨rfl, rfl⟩
      · rcases ih with ih | ⟨i1, i2⟩ | ⟨i1, i2⟩
        · exact .inl (ih.step ha)
        · exact .inr (.inl ⟨i1, i2.step ha⟩)
        · exact .inr (.inr ⟨i1, i2.step ha⟩)
      · rcases ih with ih | ⟨i1, i2⟩ | ⟨i1, i2⟩
        · exact .inr (.inl ⟨ih, .refl⟩)
        · exact .inr (.inl ⟨i1, .refl⟩)
        · exact .inl i1
      · rcases ih with ih | ⟨i1, i2⟩ | ⟨i1, i2⟩
        · exact .inr (.inr ⟨ih, .refl⟩)
        · exact .inl i1
        · exact .inr (.inr ⟨i1, .refl⟩)
  · rintro (h | ⟨h1, h2⟩ | ⟨h1, h2⟩)
    · exact reach_mono h hm
    · exact ((reach_mono h1 hm).step (.inl (by simp))).trans (reach_mono h2 hm)
    · exact ((reach_mono h1 hm).step (.inr (by simp))).trans (reach_mono h2 hm)
theorem LI.next {n : Nat} {ps : List Ed} {L : List Nat} {p : Ed} (h : LI n ps L) (h1 : p.1 < n) (h2 : p.2 < n) : LI n (ps ++ [p]) (relab L p) := by
  have hg : ∀ i, i < n → (relab L p).getD i 0 = if L.getD i 0 = L.getD p.2 0 then L.getD p.1 0 else L.getD i 0 := fun i hi => by
    unfold relab
    rw [List.getD_eq_getElem?_getD, List.getElem?_map, List.getElem?_eq_getElem (by rw [h.len]; exact hi)]
    simp only [Option.map_some, Option.getD_some]
    rw [show L.getD i 0 = L[i]'(by rw [h.len]; exact hi) from by rw [List.getD_eq_getElem?_getD, List.getElem?_eq_getElem (by rw [h.len]; exact hi)]; rfl]
  refine ⟨by rw [relab_len]; exact h.len, fun i j hi hj => ?_⟩
  rw [hg i hi, hg j hj, reach_add]
  have ij := h.iff i j hi hj
  have i2 := h.iff i p.2 hi h2
  have j2 := h.iff j p.2 hj h2
  have i1 := h.iff i p.1 hi h1
  have j1 := h.iff j p.1 hj h1
  have i2' : Reach ps p.2 i ↔ Reach ps i p.2 := ⟨Reach.symm, Reach.symm⟩
  have j2' : Reach ps p.2 j ↔ Reach ps j p.2 := ⟨Reach.symm, Reach.symm⟩
  have j1' : Reach ps p.1 j ↔ Reach ps j p.1 := ⟨Reach.symm, Reach.symm⟩
  rw [j2', j1', ← ij, ← i1, ← i2, ← j1, ← j2]
  generalize L.getD i 0 = a at *
  generalize L.getD j 0 = b at *
  generalize L.getD p.1 0 = c at *
  generalize L.getD p.2 0 = d at *
  clear ij i2 j2 i1 j1 i2' j2' j1'
  by_cases ha : a = d
  · by_cases hb : b = d
    · simp [ha, hb]
    · rw [if_pos ha, if_neg hb]
      constructor
      · intro e; exact .inr (.inr ⟨ha, e.symm⟩)
      · rintro (e | ⟨_, e⟩ | ⟨_, e⟩)
        · exact absurd (e.symm.trans ha) hb
        · exact absurd e hb
        · exact e.symm
  · by_cases hb : b = d
    · rw [if_neg ha, if_pos hb]
      constructor
      · intro e; exact .inr (.inl ⟨e, hb⟩)
      · rintro (e | ⟨e, _⟩ | ⟨e, _⟩)
        · exact absurd (e.trans hb) ha
        · exact e
        · exact absurd e ha
    · rw [if_neg ha, if_neg hb]
      constructor
      · intro e; exact .inl e
      · rintro (e | ⟨_, e⟩ | ⟨e, _⟩)
        · exact e
        · exact absurd e hb
        · exact absurd e ha
theorem LI.all {n : Nat} : ∀ (qs ps : List Ed) (L : List Nat), LI n ps L → (∀ p ∈ qs, p.1 < n ∧ p.2 < n) → LI n (ps ++ qs) (qs.foldl relab L)
  | [], ps, L, h, _ => by rw [List.append_nil]; exact h
  | q :: qs, ps, L, h, k => by
    have := LI.all qs (ps ++ [q]) (relab L q) (h.next (k q (by simp)).1 (k q (by simp)).2) fun p hp => k p (by simp [hp])
    rw [List.append_assoc] at this
    exact this
theorem LI.start {n : Nat} : LI n [] (List.range n) := by
  refine ⟨by simp, fun i j hi hj => ?_⟩
  have e : ∀ i, i < n → (List.range n).getD i 0 = i := fun i hi => by
    rw [List.getD_eq_getElem?_getD, List.getElem?_eq_getElem (by simpa using hi)]; simp
  rw [e i hi, e j hj]
  constructor
  · rintro rfl; exact .refl
  · intro h
    induction h with
    | refl => rfl
    | step _ a _ => rcases a with a | a <;> simp at a
theorem labs_li {n : Nat} {ps : List Ed} (k : ∀ p ∈ ps, p.1 < n ∧ p.2 < n) : LI n ps (labs n ps) := by
  have := LI.all ps [] (List.range n) .start k
  rwa [List.nil_append] at this
theorem labs_conn {n : Nat} {ps : List Ed} (hn : 0 < n) (k : ∀ p ∈ ps, p.1 < n ∧ p.2 < n) : (∀ i, i < n → (labs n ps).getD i 0 = (labs n ps).getD 0 0) ↔ Conn n ps := by
  have li := labs_li k
  constructor
  · intro h v hv
    exact (li.iff 0 v hn hv).mp (h v hv).symm
  · intro h i hi
    exact ((li.iff 0 i hn hi).mpr (h i hi)).symm

/-! ### _law_is_stable -/
def R22 : CSs := (.cons (.ifs (.or_ (.cmp .NotEq (.bi .list (.cons (.var 2) .nil)) (.bi .sorted (.cons (.var 2) .nil))) (.cmp .NotEq (.bi .lenset (.cons (.call 14 (.cons (.bi .len (.cons (.var 1) .nil)) (.cons (.var 2) .nil))) .nil)) (.cst (.int 1)))) (.cons (.ret (.cst (.bl false))) .nil) .nil) (.cons (.asg (.v 4) (.call 15 (.cons (.var 0) .nil))) (.cons (.ret (.bi .all (.cons (.comp (.cmp .Gt (.bin .Add (.bin .Mult (.cst (.int 2)) (.idx (.var 1) (.var 6))) (.idx (.var 4) (.var 6))) (.cst (.int 2))) (.v 6) (.rng1 (.bi .len (.cons (.var 1) .nil))) .absent [6]) .nil))) .nil)))
theorem b22 : b__law_is_stable = (.cons (.ifs (.or_ (.not_ (.isin (.var 0) [.tuple])) (.cmp .NotEq (.bi .len (.cons (.var 0) .nil)) (.cst (.int 3)))) (.cons (.ret (.cst (.bl false))) .nil) .nil) (.cons (.asg (.t (.cons (.v 1) (.cons (.v 2) (.cons (.v 3) .nil)))) (.var 0)) (.cons (.ifs (.or_ (.not_ (.call 21 (.cons (.var 1) (.cons (.cst (.int 7)) (.cons (.cst (.int 6)) .nil))))) (.or_ (.cmp .Eq (.bi .len (.cons (.var 1) .nil)) (.cst (.int 0))) (.not_ (.call 21 (.cons (.var 3) (.cons (.cst (.int 8)) (.cons (.bin .Sub (.bi .len (.cons (.var 1) .nil)) (.cst (.int 1))) .nil))))))) (.cons (.ret (.cst (.bl false))) .nil) .nil) (.cons (.ifs (.or_ (.not_ (.isin (.var 2) [.tuple])) (.cmp .Gt (.bi .len (.cons (.var 2) .nil)) (.cst (.int 20)))) (.cons (.ret (.cst (.bl false))) .nil) .nil) (.cons (.ifs (.not_ (.bi .all (.cons (.comp (.and_ (.call 21 (.cons (.var 5) (.cons (.cst (.int 2)) (.cons (.bin .Sub (.bi .len (.cons (.var 1) .nil)) (.cst (.int 1))) .nil)))) (.and_ (.cmp .Eq (.bi .len (.cons (.var 5) .nil)) (.cst (.int 2))) (.cmp .LtE (.idx (.var 5) (.cst (.int 0))) (.idx (.var 5) (.cst (.int 1)))))) (.v 5) (.seq (.var 2)) .absent [5]) .nil))) (.cons (.ret (.cst (.bl false))) .nil) .nil) R22))))) := rfl
def preOk : D → Bool
  | .tup [.tup gs, .tup es, .tup ls] => isRow (.tup gs) 7 6 && !decide (gs.length = 0) && isRow (.tup ls) 8 (gs.length - 1 : Int) && decide (es.length ≤ 20) && es.all (edgeOk (gs.length - 1 : Int))
  | _ => false
theorem pre_enc {v : D} (h : preOk v = true) : ∃ gs ps ls, OkG gs ps ls ∧ v = encG gs ps ls := by
  unfold preOk at h
  split at h
  · rename_i gs es ls
    simp only [isRow, Bool.and_eq_true, decide_eq_true_eq, Bool.not_eq_true', decide_eq_false_iff_not] at h
    obtain ⟨⟨⟨⟨⟨h1, h2⟩, h3⟩, h4, h5⟩, h6⟩, h7⟩ := h
    obtain ⟨gn, rfl, g2⟩ := within_nats h2
    obtain ⟨ln, rfl, l2⟩ := within_nats h5
    obtain ⟨ps, rfl, p2⟩ := edges_nats h7
    rw [List.length_map] at *
    refine ⟨gn, ps, ln, ⟨by omega, h1, fun g hg => by have := g2 g hg; omega, h6, fun p hp => ?_, h4, fun l hl => ?_⟩, rfl⟩
    · have := p2 p hp
      omega
    · have := l2 l hl
      omega
  · cases h
theorem form_pre {v : D} (h : preOk v = false) : formOk v = false := by
  unfold preOk at h
  split at h
  · unfold formOk; simp only [h, Bool.false_and]
  · rename_i q
    unfold formOk
    split
    · rename_i gs es ls
      exact absurd rfl (q gs es ls)
    · rfl
theorem enc_pre {gs : List Nat} {ps : List Ed} {ls : List Nat} (k : OkG gs ps ls) : preOk (encG gs ps ls) = true := by
  unfold preOk encG
  simp only [isRow, List.length_map, Bool.and_eq_true, decide_eq_true_eq, Bool.not_eq_true', decide_eq_false_iff_not, List.all_eq_true]
  have := k.pos
  refine ⟨⟨⟨⟨⟨k.n7, fun x hx => ?_⟩, by omega⟩, k.l8, fun x hx => ?_⟩, k.e20⟩, fun x hx => ?_⟩
  · obtain ⟨g, hg, rfl⟩ := List.mem_map.mp hx
    have := k.g6 g hg
    simp [within]; omega
  · obtain ⟨g, hg, rfl⟩ := List.mem_map.mp hx
    have := k.lg g hg
    simp [within]; omega
  · obtain ⟨p, hp, rfl⟩ := List.mem_map.mp hx
    have := k.ed p hp
    simp [edgeOk, eP, isRow, within]; omega
theorem form_enc {gs : List Nat} {ps : List Ed} {ls : List Nat} (k : OkG gs ps ls) : formOk (encG gs ps ls) = asSorted (ps.map eP) := by
  have := enc_pre k
  unfold preOk encG at this
  unfold formOk encG
  simp only [this, Bool.true_and]
theorem head22 {n : Nat} {h : Hc} {v : D} (hv : v.plain = true) : evSs ⟨callN P (n + 2), P.sub⟩ b__law_is_stable [some v, none, none, none, none, none, none] h = if preOk v then evSs ⟨callN P (n + 2), P.sub⟩ R22 (match v with | .tup [a, b, c] => [some v, some a, some b, some c, none, none, none] | _ => []) h else .ok (.rt (.bl false)) h := by
  rw [b22]
  cases v with
  | ref _ => simp [D.plain] at hv
  | fn _ => simp [D.plain] at hv
  | tup xs =>
    have hp := plains_all (by simpa only [D.plain] using hv)
    rcases xs with _ | ⟨g, _ | ⟨es, _ | ⟨l, _ | ⟨z, r⟩⟩⟩⟩
    · simp [ES, EV, EB, isFs, kdD, kdTy, biF, lenF, seqD, cmpF, eqF, preOk]
    · simp [ES, EV, EB, isFs, kdD, kdTy, biF, lenF, seqD, cmpF, eqF, preOk]
    · simp [ES, EV, EB, isFs, kdD, kdTy, biF, lenF, seqD, cmpF, eqF, preOk]
    · have hg := hp g (by simp)
      have he := hp es (by simp)
      have hl := hp l (by simp)
      have q1 : callN P (n + 2) 21 [g, .int 7, .int 6] h = .ok (.bl (isRow g 7 6)) h := run_law_numbers (m := 7) hg (by decide)
      have q2 : ∀ t : Int, callN P (n + 2) 21 [l, .int 8, .int t] h = .ok (.bl (isRow l 8 t)) h := fun t => run_law_numbers (m := 8) hl (by decide)
      have q3 : ∀ (v : D) (t : Int), v.plain = true → callN P (n + 2) 21 [v, .int 2, .int t] h = .ok (.bl (isRow v 2 t)) h := fun v t hv => run_law_numbers (m := 2) hv (by decide)
      cases hr : isRow g 7 6 with
      | false =>
        have : preOk (.tup [g, es, l]) = false := by
          cases g <;> first | rfl | (cases es <;> cases l <;> simp [preOk, hr])
        simp [ES, EV, EB, isFs, kdD, kdTy, biF, lenF, seqD, cmpF, eqF, ltF, asgT, asgTs, q1, hr, this]
      | true =>
        cases g with
        | tup gs =>
          by_cases h0 : gs.length = 0
          · have : preOk (.tup [.tup gs, es, l]) = false := by cases es <;> cases l <;> simp [preOk, h0]
            simp [ES, EV, EB, isFs, kdD, kdTy, biF, lenF, seqD, cmpF, eqF, ltF, asgT, asgTs, q1, hr, this, h0]
          · have h1 : ¬ ((gs.length : Int) < 1) := by omega
            have h0' : ¬ gs = [] := fun e => h0 (by rw [e]; rfl)
            cases hl8 : isRow l 8 (gs.length - 1 : Int) with
            | false =>
              have : preOk (.tup [.tup gs, es, l]) = false := by cases es <;> cases l <;> first | rfl | simp [preOk, hl8] | simp [preOk]
              simp [ES, EV, EB, isFs, kdD, kdTy, biF, lenF, seqD, cmpF, eqF, ltF, asgT, asgTs, q1, q2, hr, h1, h0', binF, int2, hl8, this]
            | true =>
              cases l with
              | tup ls =>
                cases es with
                | tup es =>
                  by_cases h20 : es.length ≤ 20
                  · have h21 : ¬ ((20 : Int) < es.length) := by omega
                    have hep := plains_all (by simpa only [D.plain] using he)
                    have key := edges_comp (C := callN P (n + 2)) (i := 5) (j := 1) (f := 21) (σ := [some (.tup [.tup gs, .tup es, .tup ls]), some (.tup gs), some (.tup es), some (.tup ls), none, none, none]) (h := h) hep q3 (by decide) (by simp) rfl
                    have hln : es.length ≤ line := Nat.le_trans h20 (by decide)
                    cases ha : es.all (edgeOk (gs.length - 1 : Int)) with
                    | false =>
                      have hb : (List.map (edgeOk (gs.length - 1 : Int)) es).all id = false := by rw [List.all_map]; exact ha
                      simp [ES, EV, EB, isFs, kdD, kdTy, biF, lenF, seqD, cmpF, eqF, ltF, asgT, asgTs, q1, q2, hr, h1, h0', binF, int2, hl8, h21, CE.isAbs, guardOf, key, hln, lmap, lstD, allB_map, hb, preOk, ha]
                    | true =>
                      have hb : (List.map (edgeOk (gs.length - 1 : Int)) es).all id = true := by rw [List.all_map]; exact ha
                      have hpr : ∀ x ∈ es, isPair x = true := fun x hx => edge_pair (List.all_eq_true.mp ha x hx)
                      simp [ES, EV, EB, isFs, kdD, kdTy, biF, lenF, seqD, cmpF, ltF, asgT, asgTs, q1, q2, hr, h1, h0', binF, int2, hl8, h21, CE.isAbs, guardOf, key, hln, lmap, lstD, seqD, allB_map, hb, preOk, ha, eqF_int, h20, h0, h0', R22]
                  · have h21 : (20 : Int) < es.length := by omega
                    simp [ES, EV, EB, isFs, kdD, kdTy, biF, lenF, seqD, cmpF, eqF, ltF, asgT, asgTs, q1, q2, hr, h1, h0', binF, int2, hl8, h21, preOk, h20]
                | ref _ => simp [D.plain] at he
                | fn _ => simp [D.plain] at he
                | _ => simp [ES, EV, EB, isFs, kdD, kdTy, biF, lenF, seqD, cmpF, eqF, ltF, asgT, asgTs, q1, q2, hr, h1, h0', binF, int2, hl8, preOk]
              | _ => simp [isRow] at hl8
        | _ => simp [isRow] at hr
    · have : ¬ ((r.length : Int) + 1 + 1 + 1 + 1 = 3) := by omega
      simp [ES, EV, EB, isFs, kdD, kdTy, biF, lenF, seqD, cmpF, eqF, preOk, this]
  | _ => simp [ES, EV, EB, isFs, kdD, kdTy, preOk]

theorem met_one {is : List Int} (hn : 0 < is.length) : (firstMet (fun i => is.getD i 0) is.length).length = 1 ↔ ∀ i, i < is.length → is.getD i 0 = is.getD 0 0 := by
  have key : ∀ i, i < is.length → (firstMet (fun i => is.getD i 0) is.length).any (· == is.getD i 0) = true := fun i hi => by
    rw [firstMet_any, List.any_eq_true]
    exact ⟨is.getD i 0, List.mem_map.mpr ⟨i, List.mem_range.mpr hi, rfl⟩, by simp⟩
  constructor
  · intro h i hi
    match e : firstMet (fun i => is.getD i 0) is.length, h with
    | [c], _ =>
      have h1 := key i hi
      have h2 := key 0 hn
      rw [e] at h1 h2
      simp only [List.any_cons, List.any_nil, Bool.or_false, beq_iff_eq] at h1 h2
      rw [← h1, ← h2]
  · intro h
    have : ∀ m, m < is.length → firstMet (fun i => is.getD i 0) (m + 1) = [is.getD 0 0] := by
      intro m
      induction m with
      | zero => intro _; rfl
      | succ m ih =>
        intro hm
        rw [firstMet_succ, ih (by omega)]
        unfold step_dedup
        have := h (m + 1) hm
        rw [this]
        simp
    have e := this (is.length - 1) (by omega)
    rw [show is.length - 1 + 1 = is.length by omega] at e
    rw [e]; rfl
theorem intsD_nat : ∀ L : List Nat, intsD (natD L) = some (L.map fun n : Nat => (n : Int))
  | [] => rfl
  | a :: L => by
    rw [natD, List.map_cons, intsD]
    have := intsD_nat L
    rw [natD] at this
    rw [this]; rfl
open Classical in
theorem lenset_conn {h : Hc} {n : Nat} {ps : List Ed} (hn : 0 < n) (h7 : n ≤ 7) (k : ∀ p ∈ ps, p.1 < n ∧ p.2 < n) : ∃ m : Nat, biF h .lenset [.lst (natD (labs n ps))] = some (.int (m : Nat)) ∧ (m = 1 ↔ Conn n ps) := by
  have hl : (labs n ps).length = n := (labs_li k).len
  refine ⟨(firstMet (fun i => ((labs n ps).map fun n : Nat => (n : Int)).getD i 0) ((labs n ps).map fun n : Nat => (n : Int)).length).length, ?_, ?_⟩
  · simp only [biF, lstD, Option.bind_some, intsD_nat]
    rw [if_pos (by rw [List.length_map, hl]; omega)]
  · rw [met_one (by rw [List.length_map, hl]; exact hn), List.length_map, hl, ← labs_conn hn k]
    have e : ∀ i, i < n → ((labs n ps).map fun n : Nat => (n : Int)).getD i 0 = ((labs n ps).getD i 0 : Nat) := fun i hi => by
      rw [List.getD_eq_getElem?_getD, List.getD_eq_getElem?_getD, List.getElem?_map]
      cases (labs n ps)[i]? <;> rfl
    constructor
    · intro q i hi
      have := q i hi
      rw [e i hi, e 0 hn] at this
      omega
    · intro q i hi
      have := q i hi
      rw [e i hi, e 0 hn]
      omega
open Classical in
theorem run_lstable {n : Nat} {h : Hc} {v : D} (hv : v.plain = true) : callN P (n + 3) 22 [v] h = .ok (.bl (good v)) h := by
  refine call_rtp rfl rfl rfl rfl ?_
  show evSs _ b__law_is_stable [some v, none, none, none, none, none, none] h = _
  rw [head22 hv]
  cases hp : preOk v with
  | false => rw [good_bad (form_pre hp)]; rfl
  | true =>
    obtain ⟨gs, ps, ls, k, rfl⟩ := pre_enc hp
    rw [if_pos rfl]
    show evSs _ R22 [some (encG gs ps ls), some (.tup (natD gs)), some (.tup (ps.map eP)), some (.tup (natD ls)), none, none, none] h = _
    have hln : (ps.map eP).length ≤ line := by rw [List.length_map]; exact Nat.le_trans k.e20 (by decide)
    have hpr : ∀ x ∈ ps.map eP, isPair x = true := fun x hx => by
      obtain ⟨p, _, rfl⟩ := List.mem_map.mp hx
      rfl
    have hed : ∀ p ∈ ps, p.1 < gs.length ∧ p.2 < gs.length := fun p hp => by have := k.ed p hp; omega
    have hlj : callN P (n + 2) 14 [.int (gs.length : Nat), .tup (ps.map eP)] h = _ := run_lj k.n7 hed
    obtain ⟨m, em, hm⟩ := lenset_conn (h := h) k.pos k.n7 hed
    have ec : evE (callN P (n + 2)) (.or_ (.cmp .NotEq (.bi .list (.cons (.var 2) .nil)) (.bi .sorted (.cons (.var 2) .nil))) (.cmp .NotEq (.bi .lenset (.cons (.call 14 (.cons (.bi .len (.cons (.var 1) .nil)) (.cons (.var 2) .nil))) .nil)) (.cst (.int 1)))) [some (encG gs ps ls), some (.tup (natD gs)), some (.tup (ps.map eP)), some (.tup (natD ls)), none, none, none] h = .ok (.bl (!(asSorted (ps.map eP) && decide (Conn gs.length ps)))) h := by
      simp only [EV, EB, List.getElem?_cons_zero, List.getElem?_cons_succ]
      simp only [biF, seqD, Option.map_some, EB, Option.bind_some, pairs_sort hpr hln, cmpF, eq_sorted hpr]
      cases hs : asSorted (ps.map eP) with
      | false => rfl
      | true =>
        simp only [Bool.not_true]
        have hlen : lenF h (.tup (natD gs)) = some (.int (gs.length : Nat)) := by
          simp only [lenF, seqD]; rw [natD, List.length_map]
        rw [hlen]
        simp only [EB]
        rw [hlj]
        simp only [EB]
        have em' := em
        simp only [biF] at em'
        rw [em']
        simp only [EB, eqF, Option.map_some]
        by_cases hc : Conn gs.length ps
        · have := hm.mpr hc
          subst this
          rw [decide_eq_true hc]
          rfl
        · have : ¬ m = 1 := fun e => hc (hm.mp e)
          have h2 : ¬ (m : Int) = 1 := by omega
          rw [decide_eq_false hc, decide_eq_false h2]
          rfl
    unfold R22
    have hg : good (encG gs ps ls) = (asSorted (ps.map eP) && decide (Conn gs.length ps) && stab gs ps ls) := by
      cases hs : asSorted (ps.map eP) with
      | true => rw [good_enc k hs]; rfl
      | false => rw [good_bad (by rw [form_enc k, hs])]; rfl
    rw [hg]
    cases hc : (asSorted (ps.map eP) && decide (Conn gs.length ps)) with
    | false =>
      rw [hc] at ec
      refine seqR ?_
      rw [ifT (P := ⟨callN P (n + 2), P.sub⟩) ec]
      exact seqR (retE (by simp only [EV]; rfl))
    | true =>
      rw [hc] at ec
      rw [seqN (σ' := [some (encG gs ps ls), some (.tup (natD gs)), some (.tup (ps.map eP)), some (.tup (natD ls)), none, none, none]) (h' := h) (by rw [ifF (P := ⟨callN P (n + 2), P.sub⟩) ec]; simp only [ES])]
      have hl15 : callN P (n + 2) 15 [encG gs ps ls] h = _ := run_lvals (Nat.le_trans k.n7 (by decide)) hed k.lg
      rw [seqN (σ' := [some (encG gs ps ls), some (.tup (natD gs)), some (.tup (ps.map eP)), some (.tup (natD ls)), some (.tup (natD (vals gs.length ps ls))), none, none]) (h' := h) (asgV (P := ⟨callN P (n + 2), P.sub⟩) (ev_call1 (C := callN P (n + 2)) rfl hl15))]
      refine seqR (retE ?_)
      have hl7 := k.n7
      have key : compF (evE (callN P (n + 2)) (.cmp .Gt (.bin .Add (.bin .Mult (.cst (.int 2)) (.idx (.var 1) (.var 6))) (.idx (.var 4) (.var 6))) (.cst (.int 2)))) (condR true (evE (callN P (n + 2)) .absent)) (.v 6) [] (cwipe [some (encG gs ps ls), some (.tup (natD gs)), some (.tup (ps.map eP)), some (.tup (natD ls)), some (.tup (natD (vals gs.length ps ls))), none, none] [6]) (natD (List.range gs.length)) h = .ok ((List.range gs.length).map fun v => .bl (decide (2 < 2 * gs.getD v 0 + (vals gs.length ps ls).getD v 0))) h := by
        rw [compF_pure rfl (fun x => match x with | .int i => .bl (decide (2 < 2 * gs.getD i.toNat 0 + (vals gs.length ps ls).getD i.toNat 0)) | _ => .non) (fun _ => true)]
        · rw [List.filter_eq_self.mpr (by simp), natD, List.map_map]
          rfl
        · intro x hx
          rw [natD] at hx
          obtain ⟨i, hi, rfl⟩ := List.mem_map.mp hx
          rw [List.mem_range] at hi
          refine ⟨_, rfl, rfl, fun _ => ?_⟩
          have a2 := atD_natG (l := gs) hi
          have a3 := atD_natG (l := vals gs.length ps ls) (i := i) (by rw [vals_len]; exact hi)
          simp only [EV, EB, cwipe, List.set_cons_succ, List.set_cons_zero, List.getElem?_cons_zero, List.getElem?_cons_succ, idxF, a2, a3]
          simp only [binF, mulF]
          rw [if_pos (show mulOk 2 _ = true by unfold mulOk; rw [show decide (bitsI 2 ≤ 64) = true from by decide]; rfl)]
          simp only [EB, addF, cmpF, ltF, Option.map_some, Int.toNat_natCast]
          refine congrArg (fun b => ERes.ok (D.bl b) h) ?_
          rw [decide_eq_decide]
          omega
      have hsm : smallI (gs.length : Nat) = true := by
        unfold smallI; simp; omega
      simp only [EV, EB, List.getElem?_cons_zero, List.getElem?_cons_succ, biF, lenF, seqD]
      rw [natD, List.length_map, hsm]
      simp only [if_true, EB]
      rw [if_pos (by rw [Int.toNat_natCast, rngD_zero, natD, List.length_map, List.length_range]; unfold line; omega), Int.toNat_natCast, rngD_zero]
      simp only [CE.isAbs]
      have key' := key
      rw [natD] at key'
      rw [key']
      simp only [lmap, List.nil_append, EB, lstD, Option.bind_some]
      rw [allB_map]
      simp only [Option.map_some, EB]
      unfold stab
      rw [List.all_map, Bool.true_and]
      rfl
/-! ### _law_says -/
theorem run_says {n : Nat} {h : Hc} {a b : Bool} : callN P (n + 1) 19 [.bl a, .bl b] h = .ok (.bl (a == b)) h := by
  refine call_rtp rfl rfl rfl rfl ?_
  show evSs _ b__law_says [some (.bl a), some (.bl b)] h = _
  unfold b__law_says
  refine seqR (retE ?_)
  have : eqF h (.bl a) (.bl b) = some (a == b) := by
    cases a <;> cases b <;> rfl
  simp [EV, EB, isFs, kdD, kdTy, cmpF, this]

/-! ### the law's turn over one value -/
def sB (s0 s1 s2 s3 s4 s5 s6 : Option D) (v : D) (o8 o9 o10 o11 : Option D) : CSt := [s0, s1, s2, s3, s4, s5, s6, some v, o8, o9, o10, o11, none]
theorem typeG_hard {gs : List Nat} {ps : List Ed} {ls : List Nat} : (typeG gs ps ls).hard = true := rfl
theorem valsD_hard {l : List Nat} : (D.tup (natD l)).hard = true := by rw [D.hard]; exact hards_natD l
theorem valsD_dep {l : List Nat} : (D.tup (natD l)).dep ≤ 63 := by rw [D.dep, deps_natD]; omega
theorem turn {n : Nat} {h : Hc} {s0 s1 s2 s3 s4 s5 s6 o10 o11 : Option D} {v : D} (hv : v.plain = true) :
    evSs ⟨callN P (n + 8), P.sub⟩ L_law_0 (sB s0 s1 s2 s3 s4 s5 s6 v none none o10 o11) h = .ok (.nx (sB s0 s1 s2 s3 s4 s5 s6 v none none o10 o11)) h := by
  unfold L_law_0
  have q22 : callN P (n + 8) 22 [v] h = .ok (.bl (good v)) h := run_lstable hv
  have q5 : callN P (n + 8) 5 [v] h = .ok (.bl (good v)) h := run_stable hv
  have q19 : ∀ a b : Bool, callN P (n + 8) 19 [.bl a, .bl b] h = .ok (.bl (a == b)) h := fun a b => run_says
  rw [seqN (σ' := sB s0 s1 s2 s3 s4 s5 s6 v (some (.bl (good v))) none o10 o11) (h' := h) (asgV (P := ⟨callN P (n + 8), P.sub⟩) (ev_call1 (C := callN P (n + 8)) rfl q22))]
  have e1 : evE (callN P (n + 8)) (.not_ (.call 19 (.cons (.call 5 (.cons (.var 7) .nil)) (.cons (.var 8) .nil)))) (sB s0 s1 s2 s3 s4 s5 s6 v (some (.bl (good v))) none o10 o11) h = .ok (.bl false) h := by
    simp only [EV, EB, sB, List.getElem?_cons_zero, List.getElem?_cons_succ, q5, q19]
    simp
  rw [seqN (σ' := sB s0 s1 s2 s3 s4 s5 s6 v (some (.bl (good v))) none o10 o11) (h' := h) (by rw [ifF (P := ⟨callN P (n + 8), P.sub⟩) e1]; simp only [ES])]
  have e2 : evE (callN P (n + 8)) (.var 8) (sB s0 s1 s2 s3 s4 s5 s6 v (some (.bl (good v))) none o10 o11) h = .ok (.bl (good v)) h := by
    simp only [EV, sB, List.getElem?_cons_zero, List.getElem?_cons_succ]
  cases hg : good v with
  | false =>
    rw [hg] at e2
    have qm : ∀ w : Int, callN P (n + 8) 20 [.int w, v] h = .ok mal h := fun w => run_told_bad hv hg
    have key : compF (evE (callN P (n + 8)) (.call 20 (.cons (.var 12) (.cons (.var 7) .nil)))) (condR true (evE (callN P (n + 8)) .absent)) (.v 12) [] (cwipe (sB s0 s1 s2 s3 s4 s5 s6 v (some (.bl false)) none o10 o11) [12]) [.int 0, .int 1] h = .ok [mal, mal] h := by
      rw [compF_pure rfl (fun _ => mal) (fun _ => true)]
      · rfl
      · intro x hx
        simp only [List.mem_cons, List.not_mem_nil, or_false] at hx
        rcases hx with rfl | rfl
        · exact ⟨_, rfl, rfl, fun _ => by simp only [EV, EB, sB, cwipe, List.set_cons_succ, List.set_cons_zero, List.getElem?_cons_zero, List.getElem?_cons_succ, qm]⟩
        · exact ⟨_, rfl, rfl, fun _ => by simp only [EV, EB, sB, cwipe, List.set_cons_succ, List.set_cons_zero, List.getElem?_cons_zero, List.getElem?_cons_succ, qm]⟩
    have e3 : evE (callN P (n + 8)) (.cmp .NotEq (.comp (.call 20 (.cons (.var 12) (.cons (.var 7) .nil))) (.v 12) (.seq (.tup (.cons (.cst (.int 0)) (.cons (.cst (.int 1)) .nil)))) .absent [12]) (.bin .Mult (.lst (.cons (.cst (.str (Str.ofString "malformed"))) .nil)) (.cst (.int 2)))) (sB s0 s1 s2 s3 s4 s5 s6 v (some (.bl false)) none o10 o11) h = .ok (.bl false) h := by
      have q : eqF h (.lst [mal, mal]) (.lst [mal, mal]) = some true := by
        rw [eqF_hard (by decide +kernel) (by decide +kernel) (by decide +kernel) (by decide +kernel), decide_eq_true rfl]
      have qb : binF h .Mult (.lst [.str (Str.ofString "malformed")]) (.int 2) = some (.lst [mal, mal]) := by
        simp only [binF, mulF, mulL, derM]
        rw [if_pos (by decide)]
        rfl
      simp only [EV, EB, seqD, guardOf, CE.isAbs]
      rw [if_pos (show [D.int 0, D.int 1].length ≤ line by decide)]
      rw [key]
      simp only [lmap, List.nil_append, EB, qb, cmpF, q]
      rfl
    rw [seqN (σ' := sB s0 s1 s2 s3 s4 s5 s6 v (some (.bl false)) none o10 o11) (h' := h) (by
      rw [ifF (P := ⟨callN P (n + 8), P.sub⟩) e2, seqN (σ' := sB s0 s1 s2 s3 s4 s5 s6 v (some (.bl false)) none o10 o11) (h' := h) (by rw [ifF (P := ⟨callN P (n + 8), P.sub⟩) e3]; simp only [ES])]
      simp only [ES])]
    simp only [ES]; rfl
  | true =>
    rw [hg] at e2
    obtain ⟨gs, ps, ls, k, rfl, hs⟩ := good_form hg
    have t0 : callN P (n + 8) 20 [.int 0, encG gs ps ls] h = _ := run_told_type (n := n + 1) k hg
    have t1 : callN P (n + 8) 20 [.int 1, encG gs ps ls] h = _ := run_told_vals (n := n + 1) k hg
    have l15 : callN P (n + 8) 15 [encG gs ps ls] h = _ := run_lvals (n := n + 7) (Nat.le_trans k.n7 (by decide)) (fun p hp => by have := k.ed p hp; omega) k.lg
    have s1' := ev_sum0 (C := callN P (n + 8)) (i := 7) (σ := sB s0 s1 s2 s3 s4 s5 s6 (encG gs ps ls) (some (.bl true)) none o10 o11) (h := h) (gs := gs) (ps := ps) (ls := ls) rfl
    have s2' := ev_len2 (C := callN P (n + 8)) (i := 7) (σ := sB s0 s1 s2 s3 s4 s5 s6 (encG gs ps ls) (some (.bl true)) (some (.int ((gs.sum : Int) + ps.length - gs.length + 1))) o10 o11) (h := h) (gs := gs) (ps := ps) (ls := ls) rfl
    have e3 : evE (callN P (n + 8)) (.or_ (.cmp .NotEq (.call 20 (.cons (.cst (.int 0)) (.cons (.var 7) .nil))) (.tup (.cons (.var 9) (.cons (.bi .len (.cons (.idx (.var 7) (.cst (.int 2))) .nil)) .nil)))) (.cmp .NotEq (.call 20 (.cons (.cst (.int 1)) (.cons (.var 7) .nil))) (.call 15 (.cons (.var 7) .nil)))) (sB s0 s1 s2 s3 s4 s5 s6 (encG gs ps ls) (some (.bl true)) (some (.int ((gs.sum : Int) + ps.length - gs.length + 1))) o10 o11) h = .ok (.bl false) h := by
      have q0 : cmpF h .NotEq (typeG gs ps ls) (.tup [.int ((gs.sum : Int) + ps.length - gs.length + 1), .int (ls.length : Nat)]) = some false := by
        simp only [cmpF]
        rw [eqF_hard typeG_hard rfl (by simp [typeG, D.dep, D.deps]) (by simp [D.dep, D.deps])]
        exact congrArg (fun b : Bool => some (!b)) (decide_eq_true (show typeG gs ps ls = _ from rfl))
      have q1 : cmpF h .NotEq (.tup (natD (vals gs.length ps ls))) (.tup (natD (vals gs.length ps ls))) = some false := by
        simp only [cmpF]
        rw [eqF_hard valsD_hard valsD_hard valsD_dep valsD_dep, decide_eq_true rfl]
        rfl
      have a1 : evE (callN P (n + 8)) (.call 20 (.cons (.cst (.int 0)) (.cons (.var 7) .nil))) (sB s0 s1 s2 s3 s4 s5 s6 (encG gs ps ls) (some (.bl true)) (some (.int ((gs.sum : Int) + ps.length - gs.length + 1))) o10 o11) h = .ok (typeG gs ps ls) h := by
        simp only [EV, EB, sB, List.getElem?_cons_zero, List.getElem?_cons_succ, t0]
      have a2 : evE (callN P (n + 8)) (.call 20 (.cons (.cst (.int 1)) (.cons (.var 7) .nil))) (sB s0 s1 s2 s3 s4 s5 s6 (encG gs ps ls) (some (.bl true)) (some (.int ((gs.sum : Int) + ps.length - gs.length + 1))) o10 o11) h = .ok (.tup (natD (vals gs.length ps ls))) h := by
        simp only [EV, EB, sB, List.getElem?_cons_zero, List.getElem?_cons_succ, t1]
      have a3 : evE (callN P (n + 8)) (.call 15 (.cons (.var 7) .nil)) (sB s0 s1 s2 s3 s4 s5 s6 (encG gs ps ls) (some (.bl true)) (some (.int ((gs.sum : Int) + ps.length - gs.length + 1))) o10 o11) h = .ok (.tup (natD (vals gs.length ps ls))) h := ev_call1 (C := callN P (n + 8)) rfl l15
      have a4 : evE (callN P (n + 8)) (.tup (.cons (.var 9) (.cons (.bi .len (.cons (.idx (.var 7) (.cst (.int 2))) .nil)) .nil))) (sB s0 s1 s2 s3 s4 s5 s6 (encG gs ps ls) (some (.bl true)) (some (.int ((gs.sum : Int) + ps.length - gs.length + 1))) o10 o11) h = .ok (.tup [.int ((gs.sum : Int) + ps.length - gs.length + 1), .int (ls.length : Nat)]) h := by
        have : evE (callN P (n + 8)) (.var 9) (sB s0 s1 s2 s3 s4 s5 s6 (encG gs ps ls) (some (.bl true)) (some (.int ((gs.sum : Int) + ps.length - gs.length + 1))) o10 o11) h = .ok (.int ((gs.sum : Int) + ps.length - gs.length + 1)) h := by
          simp only [EV, sB, List.getElem?_cons_zero, List.getElem?_cons_succ]
        rw [EV.2.2.2.2.2.2.2.2.2.2.2.2.2.2.2.2.2.2.2.1]
        rw [show evEs (callN P (n + 8)) (.cons (.var 9) (.cons (.bi .len (.cons (.idx (.var 7) (.cst (.int 2))) .nil)) .nil)) (sB s0 s1 s2 s3 s4 s5 s6 (encG gs ps ls) (some (.bl true)) (some (.int ((gs.sum : Int) + ps.length - gs.length + 1))) o10 o11) h = .ok [.int ((gs.sum : Int) + ps.length - gs.length + 1), .int (ls.length : Nat)] h from by
          rw [evEs, this, ERes.ok_bind, evEs, s2', ERes.ok_bind, evEs]; rfl]
        rfl
      rw [show ∀ (a b c d : CE) σ, evE (callN P (n + 8)) (.or_ (.cmp .NotEq a b) (.cmp .NotEq c d)) σ h = ((evE (callN P (n + 8)) (.cmp .NotEq a b) σ h).bind fun x h => match x with
        | .bl true => .ok (.bl true) h
        | .bl false => evE (callN P (n + 8)) (.cmp .NotEq c d) σ h
        | _ => .stuck) from fun a b c d σ => by simp only [evE]; all_goals rfl]
      rw [show ∀ (a b : CE) σ, evE (callN P (n + 8)) (.cmp .NotEq a b) σ h = ((evE (callN P (n + 8)) a σ h).bind fun x h => (evE (callN P (n + 8)) b σ h).bind fun y h => ofO ((cmpF h .NotEq x y).map .bl) h) from fun a b σ => by simp only [evE]]
      rw [a1, ERes.ok_bind, a4, ERes.ok_bind, q0]
      simp only [Option.map_some, EB]
      rw [show ∀ (a b : CE) σ, evE (callN P (n + 8)) (.cmp .NotEq a b) σ h = ((evE (callN P (n + 8)) a σ h).bind fun x h => (evE (callN P (n + 8)) b σ h).bind fun y h => ofO ((cmpF h .NotEq x y).map .bl) h) from fun a b σ => by simp only [evE]]
      rw [a2, ERes.ok_bind, a3, ERes.ok_bind, q1]
      rfl
    rw [seqN (σ' := sB s0 s1 s2 s3 s4 s5 s6 (encG gs ps ls) (some (.bl true)) (some (.int ((gs.sum : Int) + ps.length - gs.length + 1))) o10 o11) (h' := h) (by
      rw [ifT (P := ⟨callN P (n + 8), P.sub⟩) e2, seqN (σ' := sB s0 s1 s2 s3 s4 s5 s6 (encG gs ps ls) (some (.bl true)) (some (.int ((gs.sum : Int) + ps.length - gs.length + 1))) o10 o11) (h' := h) (asgV (P := ⟨callN P (n + 8), P.sub⟩) s1'), seqN (σ' := sB s0 s1 s2 s3 s4 s5 s6 (encG gs ps ls) (some (.bl true)) (some (.int ((gs.sum : Int) + ps.length - gs.length + 1))) o10 o11) (h' := h) (by rw [ifF (P := ⟨callN P (n + 8), P.sub⟩) e3]; simp only [ES])]
      simp only [ES])]
    simp only [ES]; rfl

/-! ### the drawn numbers -/
def HX (ns : List D) (s t : Int) (X : Hc) : Hc := .ro ns :: .lst [.int s, .int t] :: X
theorem mulOk_r {a b : Int} (h : bitsI b ≤ 64) : mulOk a b = true := by unfold mulOk; rw [decide_eq_true h, Bool.or_true]; rfl
theorem divOk_s {m : Int} (h0 : 0 < m) (h : m < 2 ^ 62) : divOk m = true := by
  unfold divOk
  rw [decide_eq_true (by omega), Bool.true_and, decide_eq_true_eq]
  have : m.natAbs < 2 ^ 62 := by omega
  have := (Nat.log2_lt (by omega : m.natAbs ≠ 0)).mpr this
  omega
theorem finR_len {h h' : Hc} {v : D} (e : h'.length = h.length) : finR h v h' = .ok v h' := by
  unfold finR
  split
  · rw [← e, List.take_length]
  · rfl
theorem run_take {n : Nat} {ns : List D} {s t m : Int} {X : Hc} (h0 : 0 < m) (h1 : m < 2 ^ 62) :
    ∃ (v : Nat) (s' t' : Int), (v : Int) < m ∧ callN P (n + 1) 12 [.ref 1, .int m] (HX ns s t X) = .ok (.int (v : Nat)) (HX ns s' t' X) := by
  have d7 : divOk 7 = true := by decide
  have dm := divOk_s h0 h1
  have m0 : ¬ m = 0 := by omega
  by_cases hs : 0 < s
  · have hr : 0 ≤ s.fmod m := Int.fmod_nonneg_of_pos _ h0
    have hlt : s.fmod m < m := Int.fmod_lt_of_pos _ h0
    refine ⟨(s.fmod m).toNat, s.fdiv m, t, by omega, ?_⟩
    rw [Int.toNat_of_nonneg hr]
    rw [call_rt0 (σ := [some (.ref 1), some (.int m), none]) (b := b__law_take) (h' := HX ns (s.fdiv m) t X) (v := .int (s.fmod m)) rfl rfl rfl rfl]
    · exact finR_len rfl
    · unfold b__law_take HX
      simp [ES, EV, EB, asgT, idxF, atD, ixD, cmpF, ltF, hs, biF, intF, binF, int2, m0, dm, putF]
  · have hr : ∀ x : Int, 0 ≤ x.fmod m := fun x => Int.fmod_nonneg_of_pos _ h0
    have hlt : ∀ x : Int, x.fmod m < m := fun x => Int.fmod_lt_of_pos _ h0
    have km : mulOk t 48271 = true := mulOk_r (by decide)
    refine ⟨((((t * 48271 + 11).fmod 2147483647).fdiv 7).fmod m).toNat, s, (t * 48271 + 11).fmod 2147483647, by have := hr (((t * 48271 + 11).fmod 2147483647).fdiv 7); have := hlt (((t * 48271 + 11).fmod 2147483647).fdiv 7); omega, ?_⟩
    rw [Int.toNat_of_nonneg (hr _)]
    rw [call_rt0 (σ := [some (.ref 1), some (.int m), none]) (b := b__law_take) (h' := HX ns s ((t * 48271 + 11).fmod 2147483647) X) (v := .int ((((t * 48271 + 11).fmod 2147483647).fdiv 7).fmod m)) rfl rfl rfl rfl]
    · exact finR_len rfl
    · unfold b__law_take HX
      simp [ES, EV, EB, idxF, atD, ixD, cmpF, ltF, hs, biF, intF, binF, int2, addF, mulF, km, m0, dm, d7, putF]
theorem run_state {n : Nat} {ns : List Int} (hl : ns.length ≤ 63) : ∃ s t : Int, callN P (n + 1) 11 [.ref 0] [.ro (ns.map D.int)] = .ok (.ref 1) (HX (ns.map D.int) s t []) := by
  obtain ⟨σ', H', e, ⟨s, t, o3, rfl⟩, hH⟩ := forF_map (fb := evSs ⟨callN P n, P.sub⟩ L__law_state_0) (t := .v 3) (g := []) D.int (fun (_ : Unit) σ H => (∃ s t o3, σ = [some (.ref 0), some (.int s), some (.int t), o3]) ∧ H = [.ro (ns.map D.int)]) (fun _ _ => ()) (fun _ _ _ _ => rfl) ns (fun _ c σ H hm R => by
    obtain ⟨⟨s, t, o3, rfl⟩, rfl⟩ := R
    have k1 : mulOk s 1000003 = true := mulOk_r (by decide)
    have k2 : mulOk t 48271 = true := mulOk_r (by decide)
    refine ⟨_, rfl, [some (.ref 0), some (.int (s * 1000003 + if c < 0 then -c else c)), some (.int ((t * 48271 + c).fmod 2147483647)), some (.int c)], [.ro (ns.map D.int)], ?_, ⟨_, _, _, rfl⟩, rfl⟩
    unfold L__law_state_0
    simp [ES, EV, EB, asgT, binF, addF, mulF, k1, k2, biF, intF, int2]) () [some (.ref 0), some (.int 0), some (.int 1), none] [.ro (ns.map D.int)] ⟨⟨_, _, _, rfl⟩, rfl⟩
  rw [hH] at e
  refine ⟨s, t, ?_⟩
  rw [call_rt0 (σ := [some (.ref 0), none, none, none]) (b := b__law_state) (h' := HX (ns.map D.int) s t []) (v := .ref 1) rfl rfl rfl rfl]
  · rfl
  · unfold b__law_state
    rw [seqN (σ' := [some (.ref 0), some (.int 0), none, none]) (h' := [.ro (ns.map D.int)]) (asgV (by simp only [EV])), seqN (σ' := [some (.ref 0), some (.int 0), some (.int 1), none]) (h' := [.ro (ns.map D.int)]) (asgV (by simp only [EV]))]
    rw [seqN (σ' := [some (.ref 0), some (.int s), some (.int t), o3]) (h' := [.ro (ns.map D.int)])]
    · refine seqR (retE ?_)
      simp only [EV, EB, List.getElem?_cons_zero, List.getElem?_cons_succ]
      rfl
    · rw [forS (P := ⟨callN P n, P.sub⟩) (h' := [.ro (ns.map D.int)]) (d := .lst (ns.map D.int)) (xs := ns.map D.int) (g := []) _ rfl rfl]
      · exact e
      · simp only [EV, EB, List.getElem?_cons_zero, CE.isAbs, optR, sliceF, der]
        simp only [if_true, EB]
        rw [if_neg (by simp)]
        simp only [EB, cutD, slx]
        simp [EB]
        rw [List.take_of_length_le (by rw [List.length_map]; omega)]

/-! ### the drawn graph -/
theorem forF_cntA {α : Type} {fb : CSt → Hc → SRes} {t : Tg} {g : Guard} (enc : α → D) (R : Nat → CSt → Hc → Prop) (hg : ∀ i σ h, R i σ h → gOk g h = true) : ∀ (xs : List α) (j : Nat), (∀ i x σ h, i < j + xs.length → x ∈ xs → R i σ h → ∃ σ1, asgT t (enc x) σ = some σ1 ∧ ∃ σ2 h2, fb σ1 h = .ok (.nx σ2) h2 ∧ R (i + 1) σ2 h2) → ∀ (σ : CSt) (h : Hc), R j σ h →
    ∃ σ' h', forF fb t g (xs.map enc) σ h = .ok (.nx σ') h' ∧ R (j + xs.length) σ' h'
  | [], j, _, σ, h, r => ⟨σ, h, by rw [List.map_nil, forF, if_pos (hg _ _ _ r)], r⟩
  | x :: xs, j, k, σ, h, r => by
    obtain ⟨σ1, e1, σ2, h2, e2, r2⟩ := k j x σ h (by simp) (by simp) r
    obtain ⟨σ', h', e3, r3⟩ := forF_cntA enc R hg xs (j + 1) (fun i y σ h hi hy => k i y σ h (by simp; omega) (by simp [hy])) σ2 h2 r2
    refine ⟨σ', h', ?_, by rw [List.length_cons, show j + (xs.length + 1) = j + 1 + xs.length by omega]; exact r3⟩
    rw [List.map_cons, forF, if_pos (hg _ _ _ r), e1]
    simp only [e2]
    exact e3
theorem forF_cnt {α : Type} {fb : CSt → Hc → SRes} {t : Tg} {g : Guard} (enc : α → D) (R : Nat → CSt → Hc → Prop) (hg : ∀ i σ h, R i σ h → gOk g h = true) (xs : List α) (k : ∀ i x σ h, i < xs.length → x ∈ xs → R i σ h → ∃ σ1, asgT t (enc x) σ = some σ1 ∧ ∃ σ2 h2, fb σ1 h = .ok (.nx σ2) h2 ∧ R (i + 1) σ2 h2) (σ : CSt) (h : Hc) (r : R 0 σ h) :
    ∃ σ' h', forF fb t g (xs.map enc) σ h = .ok (.nx σ') h' ∧ R xs.length σ' h' := by
  obtain ⟨σ', h', e, r'⟩ := forF_cntA enc R hg xs 0 (fun i x σ h hi => k i x σ h (by omega)) σ h r
  rw [Nat.zero_add] at r'
  exact ⟨σ', h', e, r'⟩
/-- a comprehension with effects -/
theorem compF_eff {fe fc : EvF} {t : Tg} {g : Guard} {σ : CSt} (I : Hc → Prop) (V : D → Prop) (hg : ∀ h, I h → gOk g h = true) : ∀ (xs : List D), (∀ x h, x ∈ xs → I h → ∃ σ1, asgT t x σ = some σ1 ∧ boolR (fc σ1 h) = .ok true h ∧ ∃ y h', fe σ1 h = .ok y h' ∧ I h' ∧ V y) → ∀ h, I h →
    ∃ ys h', compF fe fc t g σ xs h = .ok ys h' ∧ I h' ∧ ys.length = xs.length ∧ ∀ y ∈ ys, V y
  | [], _, h, i => ⟨[], h, by rw [compF, if_pos (hg h i)], i, rfl, fun y hy => by simp at hy⟩
  | x :: xs, k, h, i => by
    obtain ⟨σ1, e1, e2, y, h', e3, i', v⟩ := k x h (by simp) i
    obtain ⟨ys, h2, e4, i2, l2, v2⟩ := compF_eff I V hg xs (fun x h hx => k x h (by simp [hx])) h' i'
    refine ⟨y :: ys, h2, ?_, i2, by simp [l2], fun z hz => ?_⟩
    · rw [compF, if_pos (hg h i), e1]
      simp only [e2, e3, e4]
    · rcases List.mem_cons.mp hz with rfl | hz
      · exact v
      · exact v2 z hz
theorem natD_of {k : Nat} : ∀ {ys : List D}, (∀ y ∈ ys, ∃ v : Nat, v < k ∧ y = .int (v : Nat)) → ∃ L : List Nat, ys = natD L ∧ L.length = ys.length ∧ ∀ v ∈ L, v < k
  | [], _ => ⟨[], rfl, rfl, fun v hv => by simp at hv⟩
  | y :: ys, h => by
    obtain ⟨v, hv, rfl⟩ := h y (by simp)
    obtain ⟨L, rfl, e, hl⟩ := natD_of (ys := ys) fun z hz => h z (by simp [hz])
    refine ⟨v :: L, rfl, by simp, fun z hz => ?_⟩
    rcases List.mem_cons.mp hz with rfl | hz
    · exact hv
    · exact hl z hz
theorem take2 {C : Caller} {ns : List D} {s t : Int} {X : Hc} {e1 e2 : CE} {σ : CSt} {m : Int} (hC : ∀ s t m X, 0 < m → m < 2 ^ 62 → ∃ (v : Nat) (s' t' : Int), (v : Int) < m ∧ C 12 [.ref 1, .int m] (HX ns s t X) = .ok (.int (v : Nat)) (HX ns s' t' X)) (h0 : 0 < m) (h1 : m < 2 ^ 62) (k1 : evE C e1 σ (HX ns s t X) = .ok (.ref 1) (HX ns s t X)) (k2 : evE C e2 σ (HX ns s t X) = .ok (.int m) (HX ns s t X)) :
    ∃ (v : Nat) (s' t' : Int), (v : Int) < m ∧ evE C (.call 12 (.cons e1 (.cons e2 .nil))) σ (HX ns s t X) = .ok (.int (v : Nat)) (HX ns s' t' X) := by
  obtain ⟨v, s', t', hv, e⟩ := hC s t m X h0 h1
  exact ⟨v, s', t', hv, by simp only [EV, EB, k1, k2, e]⟩
abbrev TakeOk (C : Caller) (ns : List D) : Prop := ∀ s t m X, 0 < m → m < 2 ^ 62 → ∃ (v : Nat) (s' t' : Int), (v : Int) < m ∧ C 12 [.ref 1, .int m] (HX ns s t X) = .ok (.int (v : Nat)) (HX ns s' t' X)
theorem take_ok {n : Nat} {ns : List D} : TakeOk (callN P (n + 1)) ns := fun s t m X h0 h1 => run_take h0 h1
/-- a menu's item, drawn -/
theorem menu {C : Caller} {ns : List D} {s t : Int} {X : Hc} {e1 : CE} {σ : CSt} (hC : TakeOk C ns) (ms : List Nat) (hm : 0 < ms.length) (hs : ms.length < 100) (k1 : ∀ s t X, evE C e1 σ (HX ns s t X) = .ok (.ref 1) (HX ns s t X)) (es : CEs) (he : ∀ h, evEs C es σ h = .ok (natD ms) h) (k : Int) (hk : k = ms.length) :
    ∃ (v : Nat) (s' t' : Int), v ∈ ms ∧ evE C (.idx (.lst es) (.call 12 (.cons e1 (.cons (.cst (.int k)) .nil)))) σ (HX ns s t X) = .ok (.int (v : Nat)) (HX ns s' t' X) := by
  obtain ⟨v, s', t', hv, e⟩ := take2 (m := k) (e2 := .cst (.int k)) hC (by omega) (by omega) (k1 s t X) (by simp only [EV])
  have hlt : v < ms.length := by omega
  refine ⟨ms[v], s', t', List.getElem_mem hlt, ?_⟩
  have a : atD (natD ms) (v : Int) = some (.int (ms[v] : Nat)) := atD_nat (List.getElem?_eq_getElem hlt)
  rw [EV.2.2.2.2.2.2.2.2.2.2.2.2.2.2.2.1]
  rw [show evE C (.lst es) σ (HX ns s t X) = .ok (.lst (natD ms)) (HX ns s t X) from by rw [EV.2.2.2.2.2.2.2.2.2.2.2.2.2.2.2.2.2.2.2.2.1, he]; rfl]
  rw [ERes.ok_bind, e, ERes.ok_bind, idxF, a]
  rfl
def sD (most k : Int) (o3 : D) (o4 o5 o6 o7 o8 o9 o10 : Option D) : CSt := [some (.ref 1), some (.int most), some (.int k), some o3, o4, o5, o6, o7, o8, o9, o10]
/-- edges below k -/
def edK (k : Nat) (es : List Ed) : Prop := ∀ p ∈ es, p.1 < k ∧ p.2 < k
theorem app_cell {Pe : Env2} {o e : CE} {σ : CSt} {ns : List D} {s t s' t' : Int} {xs : List D} {v : D} (k1 : evE Pe.C o σ (HX ns s t [.lst xs]) = .ok (.ref 2) (HX ns s t [.lst xs])) (k2 : evE Pe.C e σ (HX ns s t [.lst xs]) = .ok v (HX ns s' t' [.lst xs])) (hl : xs.length < line) :
    evS Pe (.app o e) σ (HX ns s t [.lst xs]) = .ok (.nx σ) (HX ns s' t' [.lst (xs ++ [v])]) := by
  have hb : isLstD (HX ns s t [.lst xs]) (.ref 2) = true := rfl
  have hg : (HX ns s' t' [.lst xs])[2]? = some (.lst xs) := rfl
  simp only [ES, EB, k1, hb, k2, hg, hl, if_true]
  rfl
/-- the tree's edges -/
theorem dg0 {n : Nat} {ns : List D} {most : Int} {k : Nat} {o4 o5 o6 o7 o8 o9 o10 : Option D} (hk : 0 < k) (h7 : k ≤ 7) (s t : Int) :
    ∃ o4' s' t' es, forF (evSs ⟨callN P (n + 1), P.sub⟩ L__law_drawn_graph_0) (.v 4) [] (natD (List.range' 1 (k - 1))) (sD most k (.ref 2) o4 o5 o6 o7 o8 o9 o10) (HX ns s t [.lst []]) = .ok (.nx (sD most k (.ref 2) o4' o5 o6 o7 o8 o9 o10)) (HX ns s' t' [.lst (List.map eP es)]) ∧ edK k es ∧ es.length = k - 1 := by
  obtain ⟨σ', H', e, o4', s', t', es, rfl, rfl, r1, r2⟩ := forF_cnt (fb := evSs ⟨callN P (n + 1), P.sub⟩ L__law_drawn_graph_0) (t := .v 4) (g := []) (fun n : Nat => D.int (n : Nat)) (fun i σ H => ∃ o4 s t es, σ = sD most k (.ref 2) o4 o5 o6 o7 o8 o9 o10 ∧ H = HX ns s t [.lst (List.map eP es)] ∧ edK k es ∧ es.length = i) (fun _ _ _ _ => rfl) (List.range' 1 (k - 1)) (fun i x σ H hi hx R => by
    obtain ⟨o4, s, t, es, rfl, rfl, r1, r2⟩ := R
    rw [List.mem_range'_1] at hx
    rw [List.length_range'] at hi
    obtain ⟨v, s', t', hv, e⟩ := take2 (m := x) (s := s) (t := t) (X := [.lst (List.map eP es)]) (e1 := .var 0) (e2 := .var 4) (σ := sD most k (.ref 2) (some (.int (x : Nat))) o5 o6 o7 o8 o9 o10) (take_ok (n := n) (ns := ns)) (by omega) (by omega) (by simp only [EV, sD, List.getElem?_cons_zero]) (by simp only [EV, sD, List.getElem?_cons_zero, List.getElem?_cons_succ])
    refine ⟨sD most k (.ref 2) (some (.int (x : Nat))) o5 o6 o7 o8 o9 o10, rfl, sD most k (.ref 2) (some (.int (x : Nat))) o5 o6 o7 o8 o9 o10, HX ns s' t' [.lst (List.map eP (es ++ [(v, x)]))], ?_, _, s', t', es ++ [(v, x)], rfl, rfl, fun p hp => ?_, by simp [r2]⟩
    · unfold L__law_drawn_graph_0
      rw [seqN (app_cell (v := .tup [.int (v : Nat), .int (x : Nat)]) (s' := s') (t' := t') (by simp only [EV, sD, List.getElem?_cons_zero, List.getElem?_cons_succ]) _ (by rw [List.length_map]; unfold line; omega))]
      · rw [List.map_append]; simp only [ES]; rfl
      · rw [EV.2.2.2.2.2.2.2.2.2.2.2.2.2.2.2.2.2.2.2.1, evEs, e, ERes.ok_bind]
        simp only [EV, EB, sD, List.getElem?_cons_zero, List.getElem?_cons_succ]
    · rcases List.mem_append.mp hp with hp | hp
      · exact r1 p hp
      · rw [List.mem_singleton] at hp
        subst hp
        simp only
        omega) (sD most k (.ref 2) o4 o5 o6 o7 o8 o9 o10) (HX ns s t [.lst []]) ⟨o4, s, t, [], rfl, rfl, fun p hp => by simp at hp, rfl⟩
  rw [List.length_range'] at r2
  exact ⟨o4', s', t', es, e, r1, r2⟩
/-- edges more -/
theorem dg1 {n : Nat} {ns : List D} {most : Int} {k m : Nat} {o4 o6 o7 o8 o9 o10 : Option D} {es : List Ed} (hk : 0 < k) (h7 : k ≤ 7) (hm : m ≤ 13) (hes : edK k es) (hl : es.length ≤ 6) (s t : Int) :
    ∃ o4' o5' o6' s' t' es', forF (evSs ⟨callN P (n + 1), P.sub⟩ L__law_drawn_graph_1) (.v 5) [] (natD (List.range m)) (sD most k (.ref 2) o4 none o6 o7 o8 o9 o10) (HX ns s t [.lst (List.map eP es)]) = .ok (.nx (sD most k (.ref 2) o4' o5' o6' o7 o8 o9 o10)) (HX ns s' t' [.lst (List.map eP es')]) ∧ edK k es' ∧ es'.length ≤ 19 := by
  obtain ⟨σ', H', e, o4', o5', o6', s', t', es', rfl, rfl, r1, r2⟩ := forF_cnt (fb := evSs ⟨callN P (n + 1), P.sub⟩ L__law_drawn_graph_1) (t := .v 5) (g := []) (fun n : Nat => D.int (n : Nat)) (fun i σ H => ∃ o4 o5 o6 s t es, σ = sD most k (.ref 2) o4 o5 o6 o7 o8 o9 o10 ∧ H = HX ns s t [.lst (List.map eP es)] ∧ edK k es ∧ es.length ≤ 6 + i) (fun _ _ _ _ => rfl) (List.range m) (fun i x σ H hi hx R => by
    obtain ⟨o4, o5, o6, s, t, es, rfl, rfl, r1, r2⟩ := R
    rw [List.length_range] at hi
    have ek : ∀ s t, evE (callN P (n + 1)) (.var 2) (sD most k (.ref 2) o4 (some (.int (x : Nat))) o6 o7 o8 o9 o10) (HX ns s t [.lst (List.map eP es)]) = .ok (.int (k : Nat)) (HX ns s t [.lst (List.map eP es)]) := fun s t => by simp only [EV, sD, List.getElem?_cons_zero, List.getElem?_cons_succ]
    have e0 : ∀ s t, evE (callN P (n + 1)) (.var 0) (sD most k (.ref 2) o4 (some (.int (x : Nat))) o6 o7 o8 o9 o10) (HX ns s t [.lst (List.map eP es)]) = .ok (.ref 1) (HX ns s t [.lst (List.map eP es)]) := fun s t => by simp only [EV, sD, List.getElem?_cons_zero, List.getElem?_cons_succ]
    obtain ⟨u, s1, t1, hu, e1⟩ := take2 (m := k) (take_ok (n := n) (ns := ns)) (by omega) (by omega) (e0 s t) (ek s t)
    obtain ⟨v, s2, t2, hv, e2⟩ := take2 (m := k) (take_ok (n := n) (ns := ns)) (by omega) (by omega) (e0 s1 t1) (ek s1 t1)
    refine ⟨sD most k (.ref 2) o4 (some (.int (x : Nat))) o6 o7 o8 o9 o10, rfl, _, HX ns s2 t2 [.lst (List.map eP (es ++ [(min u v, max u v)]))], ?_, some (.int (v : Nat)), none, none, s2, t2, es ++ [(min u v, max u v)], rfl, rfl, fun p hp => ?_, by simp; omega⟩
    · unfold L__law_drawn_graph_1
      rw [seqN (σ' := sD most k (.ref 2) (some (.int (v : Nat))) (some (.int (x : Nat))) (some (.int (u : Nat))) o7 o8 o9 o10) (h' := HX ns s2 t2 [.lst (List.map eP es)])]
      · rw [seqN (app_cell (v := .tup [.int (min u v : Nat), .int (max u v : Nat)]) (s' := s2) (t' := t2) (by simp only [EV, sD, List.getElem?_cons_zero, List.getElem?_cons_succ]) _ (by rw [List.length_map]; unfold line; omega))]
        · rw [List.map_append]; simp only [ES]; rfl
        · simp only [EV, EB, sD, List.getElem?_cons_zero, List.getElem?_cons_succ, biF]
          refine congrArg (fun x => ERes.ok (D.tup x) _) ?_
          by_cases huv : u ≤ v
          · by_cases h2 : v < u
            · omega
            · by_cases h3 : u < v
              · rw [if_neg (by omega), if_pos (by omega), Nat.min_eq_left huv, Nat.max_eq_right huv]
              · have : u = v := by omega
                subst this
                simp
          · rw [if_pos (by omega), if_neg (by omega), Nat.min_eq_right (by omega), Nat.max_eq_left (by omega)]
      · rw [show ∀ (t : Tg) (e : CE) (σ : CSt) (h : Hc), evS ⟨callN P (n + 1), P.sub⟩ (.asg t e) σ h = ((evE (callN P (n + 1)) e σ h).st σ fun d h => stO (asgT t d σ) fun σ' => .ok (.nx σ') h) from fun _ _ _ _ => by simp only [ES]]
        rw [EV.2.2.2.2.2.2.2.2.2.2.2.2.2.2.2.2.2.2.2.1, evEs, e1, ERes.ok_bind, evEs, e2, ERes.ok_bind, evEs]
        rfl
    · rcases List.mem_append.mp hp with hp | hp
      · exact r1 p hp
      · rw [List.mem_singleton] at hp
        subst hp
        simp only
        omega) (sD most k (.ref 2) o4 none o6 o7 o8 o9 o10) (HX ns s t [.lst (List.map eP es)]) ⟨o4, none, o6, s, t, es, rfl, rfl, hes, by omega⟩
  rw [List.length_range] at r2
  exact ⟨o4', o5', o6', s', t', es', e, r1, by omega⟩

theorem ev_var {C : Caller} {i : Nat} {σ : CSt} {h : Hc} {d : D} (e : σ[i]? = some (some d)) : evE C (.var i) σ h = .ok d h := by simp only [EV, e]
theorem ev_cst {C : Caller} {d : D} {σ : CSt} {h : Hc} : evE C (.cst d) σ h = .ok d h := by simp only [EV]
theorem ev_bin {C : Caller} {op : Operator} {a b : CE} {σ : CSt} {h h1 h2 : Hc} {x y z : D} (ka : evE C a σ h = .ok x h1) (kb : evE C b σ h1 = .ok y h2) (kz : binF h2 op x y = some z) : evE C (.bin op a b) σ h = .ok z h2 := by simp only [EV, EB, ka, kb, kz]
theorem ev_cmp {C : Caller} {op : CmpOp} {a b : CE} {σ : CSt} {h h1 h2 : Hc} {x y : D} {z : Bool} (ka : evE C a σ h = .ok x h1) (kb : evE C b σ h1 = .ok y h2) (kz : cmpF h2 op x y = some z) : evE C (.cmp op a b) σ h = .ok (.bl z) h2 := by simp only [EV, EB, ka, kb, kz, Option.map_some]
theorem ev_ite {C : Caller} {t a b : CE} {σ : CSt} {h h1 : Hc} {c : Bool} (k : evE C t σ h = .ok (.bl c) h1) : evE C (.ite t a b) σ h = if c then evE C a σ h1 else evE C b σ h1 := by
  simp only [EV, EB, k]
  cases c <;> rfl
theorem ev_not {C : Caller} {t : CE} {σ : CSt} {h h1 : Hc} {c : Bool} (k : evE C t σ h = .ok (.bl c) h1) : evE C (.not_ t) σ h = .ok (.bl (!c)) h1 := by simp only [EV, EB, k]
theorem ev_and {C : Caller} {a b : CE} {σ : CSt} {h h1 : Hc} {c : Bool} (k : evE C a σ h = .ok (.bl c) h1) : evE C (.and_ a b) σ h = if c then evE C b σ h1 else .ok (.bl false) h1 := by
  simp only [EV, EB, k]
  cases c <;> rfl
theorem ev_or {C : Caller} {a b : CE} {σ : CSt} {h h1 : Hc} {c : Bool} (k : evE C a σ h = .ok (.bl c) h1) : evE C (.or_ a b) σ h = if c then .ok (.bl true) h1 else evE C b σ h1 := by
  simp only [EV, EB, k]
  cases c <;> rfl
theorem ev_idx {C : Caller} {a i : CE} {σ : CSt} {h h1 h2 : Hc} {x y z : D} (ka : evE C a σ h = .ok x h1) (kb : evE C i σ h1 = .ok y h2) (kz : idxF h2 x y = some z) : evE C (.idx a i) σ h = .ok z h2 := by simp only [EV, EB, ka, kb, kz]
theorem ev_bi1 {C : Caller} {b : Bi} {a : CE} {σ : CSt} {h h1 : Hc} {x z : D} (ka : evE C a σ h = .ok x h1) (kz : biF h1 b [x] = some z) : evE C (.bi b (.cons a .nil)) σ h = .ok z h1 := by simp only [EV, EB, ka, kz]
theorem ev_bi2 {C : Caller} {b : Bi} {a a' : CE} {σ : CSt} {h h1 h2 : Hc} {x y z : D} (ka : evE C a σ h = .ok x h1) (kb : evE C a' σ h1 = .ok y h2) (kz : biF h2 b [x, y] = some z) : evE C (.bi b (.cons a (.cons a' .nil))) σ h = .ok z h2 := by simp only [EV, EB, ka, kb, kz]
theorem ev_c1 {C : Caller} {f : Nat} {a : CE} {σ : CSt} {h h1 : Hc} {x : D} (ka : evE C a σ h = .ok x h1) : evE C (.call f (.cons a .nil)) σ h = C f [x] h1 := by simp only [EV, EB, ka]
theorem ev_c2 {C : Caller} {f : Nat} {a b : CE} {σ : CSt} {h h1 h2 : Hc} {x y : D} (ka : evE C a σ h = .ok x h1) (kb : evE C b σ h1 = .ok y h2) : evE C (.call f (.cons a (.cons b .nil))) σ h = C f [x, y] h2 := by simp only [EV, EB, ka, kb]
theorem ev_c3 {C : Caller} {f : Nat} {a b c : CE} {σ : CSt} {h h1 h2 h3 : Hc} {x y z : D} (ka : evE C a σ h = .ok x h1) (kb : evE C b σ h1 = .ok y h2) (kc : evE C c σ h2 = .ok z h3) : evE C (.call f (.cons a (.cons b (.cons c .nil)))) σ h = C f [x, y, z] h3 := by simp only [EV, EB, ka, kb, kc]
theorem ev_t1 {C : Caller} {a : CE} {σ : CSt} {h h1 : Hc} {x : D} (ka : evE C a σ h = .ok x h1) : evE C (.tup (.cons a .nil)) σ h = .ok (.tup [x]) h1 := by simp only [EV, EB, ka]
theorem ev_t2 {C : Caller} {a b : CE} {σ : CSt} {h h1 h2 : Hc} {x y : D} (ka : evE C a σ h = .ok x h1) (kb : evE C b σ h1 = .ok y h2) : evE C (.tup (.cons a (.cons b .nil))) σ h = .ok (.tup [x, y]) h2 := by simp only [EV, EB, ka, kb]
theorem ev_t3 {C : Caller} {a b c : CE} {σ : CSt} {h h1 h2 h3 : Hc} {x y z : D} (ka : evE C a σ h = .ok x h1) (kb : evE C b σ h1 = .ok y h2) (kc : evE C c σ h2 = .ok z h3) : evE C (.tup (.cons a (.cons b (.cons c .nil)))) σ h = .ok (.tup [x, y, z]) h3 := by simp only [EV, EB, ka, kb, kc]
theorem ev_nil {C : Caller} {σ : CSt} {h : Hc} : evEs C .nil σ h = .ok [] h := by simp only [EV]
theorem ev_cons {C : Caller} {e : CE} {es : CEs} {σ : CSt} {h h1 h2 : Hc} {x : D} {xs : List D} (ka : evE C e σ h = .ok x h1) (kb : evEs C es σ h1 = .ok xs h2) : evEs C (.cons e es) σ h = .ok (x :: xs) h2 := by simp only [EV, EB, ka, kb]
theorem ev_tup {C : Caller} {es : CEs} {σ : CSt} {h h1 : Hc} {xs : List D} (k : evEs C es σ h = .ok xs h1) : evE C (.tup es) σ h = .ok (.tup xs) h1 := by simp only [EV, EB, k]
theorem ev_lst {C : Caller} {es : CEs} {σ : CSt} {h h1 : Hc} {xs : List D} (k : evEs C es σ h = .ok xs h1) : evE C (.lst es) σ h = .ok (.lst xs) h1 := by simp only [EV, EB, k]
theorem ev_call {C : Caller} {f : Nat} {es : CEs} {σ : CSt} {h h1 : Hc} {xs : List D} (k : evEs C es σ h = .ok xs h1) : evE C (.call f es) σ h = C f xs h1 := by simp only [EV, EB, k]
theorem ev_cell {C : Caller} {e : CE} {σ : CSt} {h h1 : Hc} {xs : List D} (k : evE C e σ h = .ok (.lst xs) h1) : evE C (.cell e) σ h = .ok (.ref h1.length) (h1 ++ [.lst xs]) := by simp only [EV, EB, k]
/-- a row of drawn numbers -/
theorem comp_draw {C : Caller} {ns : List D} {X : Hc} {elt a : CE} {i k : Nat} {σ : CSt} {s t s1 t1 : Int} {m : Nat} (hm : m ≤ 1000) (ea : evE C a σ (HX ns s t X) = .ok (.int (m : Nat)) (HX ns s1 t1 X))
    (el : ∀ (x : Nat) (s t : Int), ∃ (v : Nat) (s' t' : Int), v < k ∧ evE C elt ((cwipe σ [i]).set i (some (.int (x : Nat)))) (HX ns s t X) = .ok (.int (v : Nat)) (HX ns s' t' X)) :
    ∃ (L : List Nat) (s' t' : Int), L.length = m ∧ (∀ v ∈ L, v < k) ∧ evE C (.comp elt (.v i) (.rng1 a) .absent [i]) σ (HX ns s t X) = .ok (.lst (natD L)) (HX ns s' t' X) := by
  obtain ⟨ys, h', e, ⟨s', t', rfl⟩, hl, hv⟩ := compF_eff (fe := evE C elt) (fc := condR true (evE C .absent)) (t := .v i) (g := []) (σ := cwipe σ [i]) (fun h => ∃ s t, h = HX ns s t X) (fun y => ∃ v : Nat, v < k ∧ y = .int (v : Nat)) (fun _ _ => rfl) (natD (List.range m)) (fun x h hx I => by
    obtain ⟨s, t, rfl⟩ := I
    obtain ⟨x, _, rfl⟩ := List.mem_map.mp hx
    obtain ⟨v, s', t', hv, e⟩ := el x s t
    exact ⟨_, rfl, rfl, _, _, e, ⟨s', t', rfl⟩, v, hv, rfl⟩) (HX ns s1 t1 X) ⟨s1, t1, rfl⟩
  obtain ⟨L, rfl, hL, hk⟩ := natD_of hv
  refine ⟨L, s', t', by rw [hL, hl, natD, List.length_map, List.length_range], hk, ?_⟩
  have hsm : smallI (m : Nat) = true := by unfold smallI; simp; omega
  simp only [EV, EB, ea, hsm, if_true]
  rw [if_pos (by rw [Int.toNat_natCast, rngD_zero, natD, List.length_map, List.length_range]; unfold line; omega), Int.toNat_natCast, rngD_zero]
  simp only [CE.isAbs, e, lmap, List.nil_append]
theorem sortD_len {le : D → D → Bool} : ∀ {xs : List D}, (sortD le xs).length = xs.length
  | [] => rfl
  | x :: xs => by
    have h : ∀ ys : List D, (insD le x ys).length = ys.length + 1 := fun ys => by
      induction ys with
      | nil => rfl
      | cons y ys ih =>
        unfold insD
        split
        · rfl
        · rw [List.length_cons, ih]; rfl
    rw [sortD, h, sortD_len, List.length_cons]
theorem eds_of {k : Nat} : ∀ {xs : List D} {es : List Ed}, edK k es → (∀ x ∈ xs, x ∈ List.map eP es) → ∃ qs : List Ed, xs = qs.map eP ∧ edK k qs
  | [], es, _, _ => ⟨[], rfl, fun p hp => by simp at hp⟩
  | x :: xs, es, h, hx => by
    obtain ⟨p, hp, rfl⟩ := List.mem_map.mp (hx x (by simp))
    obtain ⟨qs, rfl, hq⟩ := eds_of (xs := xs) h fun y hy => hx y (by simp [hy])
    refine ⟨p :: qs, rfl, fun q hq' => ?_⟩
    rcases List.mem_cons.mp hq' with rfl | hq'
    · exact h q hp
    · exact hq q hq'
/-- the genera mended -/
theorem dg2 {n : Nat} {ns : List D} {most : Int} {k : Nat} {o4 o5 o6 o7 : Option D} {E : Cell} {G : D} {vs gs : List Nat} (h7 : k ≤ 7) (hv : vs.length = k) (hg : gs.length = k) (hb : ∀ g ∈ gs, g < 7) (s t : Int) :
    ∃ o4' gs', forF (evSs ⟨callN P (n + 1), P.sub⟩ L__law_drawn_graph_2) (.v 4) [] (natD (List.range k)) (sD most k (.ref 2) o4 o5 o6 o7 (some G) (some (.tup (natD vs))) (some (.ref 3))) (HX ns s t [E, .lst (natD gs)]) = .ok (.nx (sD most k (.ref 2) o4' o5 o6 o7 (some G) (some (.tup (natD vs))) (some (.ref 3)))) (HX ns s t [E, .lst (natD gs')]) ∧ gs'.length = k ∧ ∀ g ∈ gs', g < 7 := by
  obtain ⟨σ', H', e, o4', gs', rfl, rfl, r1, rb⟩ := forF_cnt (fb := evSs ⟨callN P (n + 1), P.sub⟩ L__law_drawn_graph_2) (t := .v 4) (g := []) (fun n : Nat => D.int (n : Nat)) (fun i σ H => ∃ o4 gs, σ = sD most k (.ref 2) o4 o5 o6 o7 (some G) (some (.tup (natD vs))) (some (.ref 3)) ∧ H = HX ns s t [E, .lst (natD gs)] ∧ gs.length = k ∧ ∀ g ∈ gs, g < 7) (fun _ _ _ _ => rfl) (List.range k) (fun i x σ H hi hx R => by
    obtain ⟨o4, gs, rfl, rfl, r1, rb⟩ := R
    rw [List.mem_range] at hx
    have ev : evE (callN P (n + 1)) (.idx (.var 9) (.var 4)) (sD most k (.ref 2) (some (.int (x : Nat))) o5 o6 o7 (some G) (some (.tup (natD vs))) (some (.ref 3))) (HX ns s t [E, .lst (natD gs)]) = .ok (.int (vs.getD x 0 : Nat)) (HX ns s t [E, .lst (natD gs)]) := by
      simp only [EV, EB, sD, List.getElem?_cons_zero, List.getElem?_cons_succ, idxF, atD_natG (show x < vs.length by omega)]
    have eg : evE (callN P (n + 1)) (.idx (.var 10) (.var 4)) (sD most k (.ref 2) (some (.int (x : Nat))) o5 o6 o7 (some G) (some (.tup (natD vs))) (some (.ref 3))) (HX ns s t [E, .lst (natD gs)]) = .ok (.int (gs.getD x 0 : Nat)) (HX ns s t [E, .lst (natD gs)]) := by
      have hc : (HX ns s t [E, .lst (natD gs)])[3]? = some (.lst (natD gs)) := rfl
      simp only [EV, EB, sD, List.getElem?_cons_zero, List.getElem?_cons_succ, idxF, hc, atD_natG (show x < gs.length by omega)]
    have ec : evE (callN P (n + 1)) (.cmp .Lt (.bin .Add (.bin .Mult (.cst (.int 2)) (.idx (.var 10) (.var 4))) (.idx (.var 9) (.var 4))) (.cst (.int 3))) (sD most k (.ref 2) (some (.int (x : Nat))) o5 o6 o7 (some G) (some (.tup (natD vs))) (some (.ref 3))) (HX ns s t [E, .lst (natD gs)]) = .ok (.bl (decide (2 * (gs.getD x 0 : Int) + (vs.getD x 0 : Nat) < 3))) (HX ns s t [E, .lst (natD gs)]) := by
      rw [show ∀ (a b : CE) (σ : CSt) (h : Hc), evE (callN P (n + 1)) (.cmp .Lt (.bin .Add (.bin .Mult (.cst (.int 2)) a) b) (.cst (.int 3))) σ h = (((evE (callN P (n + 1)) a σ h).bind fun y h => ofO (binF h .Mult (.int 2) y) h).bind fun x h => (evE (callN P (n + 1)) b σ h).bind fun y h => ofO (binF h .Add x y) h).bind fun x h => ofO ((cmpF h .Lt x (.int 3)).map .bl) h from fun a b σ h => by simp only [evE]; all_goals rfl]
      rw [eg, ERes.ok_bind]
      rw [show binF (HX ns s t [E, .lst (natD gs)]) .Mult (.int 2) (.int (gs.getD x 0 : Nat)) = some (.int (2 * (gs.getD x 0 : Nat))) from by
        simp only [binF, mulF]
        rw [if_pos (show mulOk 2 _ = true by unfold mulOk; rw [show decide (bitsI 2 ≤ 64) = true from by decide]; rfl)]]
      rw [ofO_some, ERes.ok_bind, ev, ERes.ok_bind]
      rfl
    by_cases hc : 2 * (gs.getD x 0 : Int) + (vs.getD x 0 : Nat) < 3
    · rw [decide_eq_true hc] at ec
      refine ⟨sD most k (.ref 2) (some (.int (x : Nat))) o5 o6 o7 (some G) (some (.tup (natD vs))) (some (.ref 3)), rfl, sD most k (.ref 2) (some (.int (x : Nat))) o5 o6 o7 (some G) (some (.tup (natD vs))) (some (.ref 3)), HX ns s t [E, .lst (natD (gs.set x (if 0 < vs.getD x 0 then 1 else 2)))], ?_, _, _, rfl, rfl, by rw [List.length_set]; exact r1, fun g hg => by
        rcases List.mem_or_eq_of_mem_set hg with hg | hg
        · exact rb g hg
        · rw [hg]; split <;> omega⟩
      unfold L__law_drawn_graph_2
      have ei : evE (callN P (n + 1)) (.ite (.cmp .Gt (.idx (.var 9) (.var 4)) (.cst (.int 0))) (.cst (.int 1)) (.cst (.int 2))) (sD most k (.ref 2) (some (.int (x : Nat))) o5 o6 o7 (some G) (some (.tup (natD vs))) (some (.ref 3))) (HX ns s t [E, .lst (natD gs)]) = .ok (.int ((if 0 < vs.getD x 0 then 1 else 2 : Nat) : Int)) (HX ns s t [E, .lst (natD gs)]) := by
        refine (ev_ite (c := decide (0 < vs.getD x 0)) (ev_cmp ev (ev_cst) ?_)).trans ?_
        · simp only [cmpF, ltF]
          refine congrArg some ?_
          rw [decide_eq_decide]
          omega
        by_cases hp : 0 < vs.getD x 0
        · rw [decide_eq_true hp, if_pos rfl, if_pos hp, ev_cst]; rfl
        · rw [decide_eq_false hp, if_neg (by simp), if_neg hp, ev_cst]; rfl
      rw [seqN (σ' := sD most k (.ref 2) (some (.int (x : Nat))) o5 o6 o7 (some G) (some (.tup (natD vs))) (some (.ref 3))) (h' := HX ns s t [E, .lst (natD (gs.set x (if 0 < vs.getD x 0 then 1 else 2)))])]
      · simp only [ES]
      · rw [ifT (P := ⟨callN P (n + 1), P.sub⟩) ec]
        rw [seqN (σ' := sD most k (.ref 2) (some (.int (x : Nat))) o5 o6 o7 (some G) (some (.tup (natD vs))) (some (.ref 3))) (h' := HX ns s t [E, .lst (natD (gs.set x (if 0 < vs.getD x 0 then 1 else 2)))])]
        · simp only [ES]
        · rw [show ∀ (o i e : CE) (σ : CSt) (h : Hc), evS ⟨callN P (n + 1), P.sub⟩ (.sput o i e) σ h = ((evE (callN P (n + 1)) e σ h).st σ fun v h => (evE (callN P (n + 1)) o σ h).st σ fun x h => (evE (callN P (n + 1)) i σ h).st σ fun y h => stO (putF h x y v) fun h' => .ok (.nx σ) h') from fun _ _ _ _ _ => by simp only [ES]]
          rw [ei, st_ok]
          have hix : ixD (natD gs).length (x : Int) = some x := by
            unfold ixD
            rw [if_pos (by omega), if_pos (by simp; omega)]
            simp
          have hp : putF (HX ns s t [E, .lst (natD gs)]) (.ref 3) (.int (x : Nat)) (.int ((if 0 < vs.getD x 0 then 1 else 2 : Nat) : Int)) = some (HX ns s t [E, .lst (natD (gs.set x (if 0 < vs.getD x 0 then 1 else 2)))]) := by
            have hc : (HX ns s t [E, .lst (natD gs)])[3]? = some (.lst (natD gs)) := rfl
            simp only [putF, hc, hix, Option.map_some]
            simp [HX, natD, List.map_set]
          simp only [EV, EB, sD, List.getElem?_cons_zero, List.getElem?_cons_succ, hp]
    · rw [decide_eq_false hc] at ec
      refine ⟨sD most k (.ref 2) (some (.int (x : Nat))) o5 o6 o7 (some G) (some (.tup (natD vs))) (some (.ref 3)), rfl, sD most k (.ref 2) (some (.int (x : Nat))) o5 o6 o7 (some G) (some (.tup (natD vs))) (some (.ref 3)), HX ns s t [E, .lst (natD gs)], ?_, _, _, rfl, rfl, r1, rb⟩
      unfold L__law_drawn_graph_2
      rw [seqN (σ' := sD most k (.ref 2) (some (.int (x : Nat))) o5 o6 o7 (some G) (some (.tup (natD vs))) (some (.ref 3))) (h' := HX ns s t [E, .lst (natD gs)]) (by rw [ifF (P := ⟨callN P (n + 1), P.sub⟩) ec]; simp only [ES])]
      simp only [ES]) (sD most k (.ref 2) o4 o5 o6 o7 (some G) (some (.tup (natD vs))) (some (.ref 3))) (HX ns s t [E, .lst (natD gs)]) ⟨o4, gs, rfl, rfl, hg, hb⟩
  exact ⟨o4', gs', e, r1, rb⟩

theorem sD_def {most k : Int} {o3 : D} {o4 o5 o6 o7 o8 o9 o10 : Option D} : sD most k o3 o4 o5 o6 o7 o8 o9 o10 = [some (.ref 1), some (.int most), some (.int k), some o3, o4, o5, o6, o7, o8, o9, o10] := rfl
theorem run_drawn {n : Nat} {ns : List D} {s t : Int} {most : Nat} (h0 : 0 < most) (h7 : most ≤ 7) : ∃ gs ps ls s' t', callN P (n + 2) 16 [.ref 1, .int (most : Nat)] (HX ns s t []) = .ok (encG gs ps ls) (HX ns s' t' []) ∧ gs.length ≤ 7 ∧ ps.length ≤ 20 ∧ ls.length ≤ 8 ∧ (∀ g ∈ gs, g < 7) ∧ edK 7 ps ∧ (∀ l ∈ ls, l < 7) := by
  have hC := take_ok (n := n) (ns := ns)
  -- k
  obtain ⟨k0, s1, t1, hk0, e1⟩ := take2 (m := most) (s := s) (t := t) (X := []) (e1 := .var 0) (e2 := .var 1) (σ := [some (.ref 1), some (.int (most : Nat)), none, none, none, none, none, none, none, none, none]) hC (by omega) (by omega) (ev_var rfl) (ev_var rfl)
  obtain ⟨k, hk⟩ : ∃ k : Nat, k = 1 + k0 := ⟨_, rfl⟩
  have hk7 : k ≤ 7 := by omega
  have kpos : 0 < k := by omega
  have a1 : evS ⟨callN P (n + 1), P.sub⟩ (.asg (.v 2) (.bin .Add (.cst (.int 1)) (.call 12 (.cons (.var 0) (.cons (.var 1) .nil))))) [some (.ref 1), some (.int (most : Nat)), none, none, none, none, none, none, none, none, none] (HX ns s t []) = .ok (.nx [some (.ref 1), some (.int (most : Nat)), some (.int (k : Nat)), none, none, none, none, none, none, none, none]) (HX ns s1 t1 []) :=
    asgV (ev_bin ev_cst e1 (by show some (D.int ((1 : Int) + (k0 : Nat))) = _; rw [hk]; simp))
  have a2 : evS ⟨callN P (n + 1), P.sub⟩ (.asg (.v 3) (.cell (.lst .nil))) [some (.ref 1), some (.int (most : Nat)), some (.int (k : Nat)), none, none, none, none, none, none, none, none] (HX ns s1 t1 []) = .ok (.nx (sD most k (.ref 2) none none none none none none none)) (HX ns s1 t1 [.lst []]) :=
    asgV (ev_cell (ev_lst ev_nil))
  obtain ⟨o4, s2, t2, es, e2, ek, el⟩ := dg0 (n := n) (ns := ns) (most := most) (k := k) (o4 := none) (o5 := none) (o6 := none) (o7 := none) (o8 := none) (o9 := none) (o10 := none) kpos hk7 s1 t1
  have hsk : smallI (k : Nat) = true := by unfold smallI; simp; omega
  have a3 : evS ⟨callN P (n + 1), P.sub⟩ (.for_ (.v 4) (.rng2 (.cst (.int 1)) (.var 2)) L__law_drawn_graph_0) (sD most k (.ref 2) none none none none none none none) (HX ns s1 t1 [.lst []]) = .ok (.nx (sD most k (.ref 2) o4 none none none none none none)) (HX ns s2 t2 [.lst (es.map eP)]) := by
    rw [forR2 (P := ⟨callN P (n + 1), P.sub⟩) (i := 1) (j := k) ev_cst (ev_var rfl) rfl hsk]
    have : rngD 1 1 ((k : Int) - 1).toNat = natD (List.range' 1 (k - 1)) := by
      rw [show ((k : Int) - 1).toNat = k - 1 by omega]
      exact rngD_nat (k - 1) 1
    rw [this]
    exact e2
  -- more edges
  obtain ⟨m1, s3, t3, hm1, e3⟩ := menu (s := s2) (t := t2) (X := [.lst (es.map eP)]) (e1 := .var 0) (σ := sD most k (.ref 2) o4 none none none none none none) hC [4, 4, 14] (by decide) (by decide) (fun s t X => ev_var rfl) (.cons (.cst (.int 4)) (.cons (.cst (.int 4)) (.cons (.cst (.int 14)) .nil))) (fun h => ev_cons ev_cst (ev_cons ev_cst (ev_cons ev_cst ev_nil))) 3 rfl
  have hm1' : 0 < m1 ∧ m1 ≤ 14 := by
    simp only [List.mem_cons, List.not_mem_nil, or_false] at hm1
    omega
  obtain ⟨m2, s4, t4, hm2, e4⟩ := hC s3 t3 m1 [.lst (es.map eP)] (by omega) (by omega)
  obtain ⟨o4', o5, o6, s5, t5, es2, e5, ek2, el2⟩ := dg1 (n := n) (ns := ns) (most := most) (k := k) (m := m2) (o4 := o4) (o6 := none) (o7 := none) (o8 := none) (o9 := none) (o10 := none) kpos hk7 (by omega) ek (by omega) s4 t4
  have a4 : evS ⟨callN P (n + 1), P.sub⟩ (.for_ (.v 5) (.rng1 (.call 12 (.cons (.var 0) (.cons (.idx (.lst (.cons (.cst (.int 4)) (.cons (.cst (.int 4)) (.cons (.cst (.int 14)) .nil)))) (.call 12 (.cons (.var 0) (.cons (.cst (.int 3)) .nil)))) .nil)))) L__law_drawn_graph_1) (sD most k (.ref 2) o4 none none none none none none) (HX ns s2 t2 [.lst (es.map eP)]) = .ok (.nx (sD most k (.ref 2) o4' o5 o6 none none none none)) (HX ns s5 t5 [.lst (es2.map eP)]) := by
    rw [forR1 (P := ⟨callN P (n + 1), P.sub⟩) (h' := HX ns s4 t4 [.lst (es.map eP)]) (j := m2) ((ev_c2 (ev_var rfl) e3).trans e4) (by unfold smallI; simp; omega)]
    rw [Int.toNat_natCast, rngD_zero]
    exact e5
  -- legs
  obtain ⟨m3, s6, t6, hm3, e6⟩ := menu (s := s5) (t := t5) (X := [.lst (es2.map eP)]) (e1 := .var 0) (σ := sD most k (.ref 2) o4' o5 o6 none none none none) hC [4, 9] (by decide) (by decide) (fun s t X => ev_var rfl) (.cons (.cst (.int 4)) (.cons (.cst (.int 9)) .nil)) (fun h => ev_cons ev_cst (ev_cons ev_cst ev_nil)) 2 rfl
  have hm3' : 0 < m3 ∧ m3 ≤ 9 := by
    simp only [List.mem_cons, List.not_mem_nil, or_false] at hm3
    omega
  obtain ⟨m4, s7, t7, hm4, e7⟩ := hC s6 t6 m3 [.lst (es2.map eP)] (by omega) (by omega)
  obtain ⟨ls, s8, t8, hls, hlk, e8⟩ := comp_draw (C := callN P (n + 1)) (elt := .call 12 (.cons (.var 0) (.cons (.var 2) .nil))) (a := .call 12 (.cons (.var 0) (.cons (.idx (.lst (.cons (.cst (.int 4)) (.cons (.cst (.int 9)) .nil))) (.call 12 (.cons (.var 0) (.cons (.cst (.int 2)) .nil)))) .nil))) (i := 5) (k := k) (σ := sD most k (.ref 2) o4' o5 o6 none none none none) (s := s5) (t := t5) (m := m4) (by omega) ((ev_c2 (ev_var rfl) e6).trans e7) (fun x s t => by
    obtain ⟨v, s', t', hv, e⟩ := take2 (m := k) (s := s) (t := t) (X := [.lst (es2.map eP)]) (e1 := .var 0) (e2 := .var 2) (σ := (cwipe (sD most k (.ref 2) o4' o5 o6 none none none none) [5]).set 5 (some (.int (x : Nat)))) hC (by omega) (by omega) (ev_var rfl) (ev_var rfl)
    exact ⟨v, s', t', by omega, e⟩)
  have a5 : evS ⟨callN P (n + 1), P.sub⟩ _ _ _ = .ok (.nx (sD most k (.ref 2) o4' o5 o6 (some (.lst (natD ls))) none none none)) _ := asgV (P := ⟨callN P (n + 1), P.sub⟩) (i := 7) e8
  -- genera
  obtain ⟨gs, s9, t9, hgs, hg7, e9⟩ := comp_draw (C := callN P (n + 1)) (ns := ns) (X := [.lst (es2.map eP)]) (elt := .call 12 (.cons (.var 0) (.cons (.idx (.lst (.cons (.cst (.int 3)) (.cons (.cst (.int 7)) .nil))) (.call 12 (.cons (.var 0) (.cons (.cst (.int 2)) .nil)))) .nil))) (a := .var 2) (i := 4) (k := 7) (σ := sD most k (.ref 2) o4' o5 o6 (some (.lst (natD ls))) none none none) (s := s8) (t := t8) (s1 := s8) (t1 := t8) (m := k) (by omega) (ev_var rfl) (fun x s t => by
    obtain ⟨m, s', t', hm, e⟩ := menu (s := s) (t := t) (X := [.lst (es2.map eP)]) (e1 := .var 0) (σ := (cwipe (sD most k (.ref 2) o4' o5 o6 (some (.lst (natD ls))) none none none) [4]).set 4 (some (.int (x : Nat)))) hC [3, 7] (by decide) (by decide) (fun s t X => ev_var rfl) (.cons (.cst (.int 3)) (.cons (.cst (.int 7)) .nil)) (fun h => ev_cons ev_cst (ev_cons ev_cst ev_nil)) 2 rfl
    have hm' : 0 < m ∧ m ≤ 7 := by
      simp only [List.mem_cons, List.not_mem_nil, or_false] at hm
      omega
    obtain ⟨v, s2, t2, hv, e'⟩ := hC s' t' m [.lst (es2.map eP)] (by omega) (by omega)
    exact ⟨v, s2, t2, by omega, (ev_c2 (ev_var rfl) e).trans e'⟩)
  -- the edges in order
  have hpr : ∀ x ∈ es2.map eP, isPair x = true := fun x hx => by
    obtain ⟨p, _, rfl⟩ := List.mem_map.mp hx
    rfl
  have hln : (es2.map eP).length ≤ line := by rw [List.length_map]; unfold line; omega
  obtain ⟨qs, hq, hqk⟩ := eds_of (xs := sortD leD (es2.map eP)) ek2 (fun x hx => mem_sortD hx)
  have hql : qs.length = es2.length := by
    have := sortD_len (le := leD) (xs := es2.map eP)
    rw [hq, List.length_map, List.length_map] at this
    exact this
  have a6 : evS ⟨callN P (n + 1), P.sub⟩ (.asg (.v 8) (.tup (.cons (.bi .tuple (.cons (.comp (.call 12 (.cons (.var 0) (.cons (.idx (.lst (.cons (.cst (.int 3)) (.cons (.cst (.int 7)) .nil))) (.call 12 (.cons (.var 0) (.cons (.cst (.int 2)) .nil)))) .nil))) (.v 4) (.rng1 (.var 2)) .absent [4]) .nil)) (.cons (.bi .tuple (.cons (.bi .sorted (.cons (.var 3) .nil)) .nil)) (.cons (.bi .tuple (.cons (.var 7) .nil)) .nil))))) (sD most k (.ref 2) o4' o5 o6 (some (.lst (natD ls))) none none none) (HX ns s8 t8 [.lst (es2.map eP)]) = .ok (.nx (sD most k (.ref 2) o4' o5 o6 (some (.lst (natD ls))) (some (encG gs qs ls)) none none)) (HX ns s9 t9 [.lst (es2.map eP)]) := by
    refine asgV (i := 8) (ev_t3 (x := .tup (natD gs)) (y := .tup (qs.map eP)) (z := .tup (natD ls)) (ev_bi1 e9 rfl) (ev_bi1 (ev_bi1 (x := .ref 2) (z := .lst (qs.map eP)) (ev_var rfl) ?_) rfl) (ev_bi1 (x := .lst (natD ls)) (ev_var rfl) rfl))
    show ((seqD (HX ns s9 t9 [.lst (es2.map eP)]) (.ref 2)).bind sortF).map D.lst = _
    rw [show seqD (HX ns s9 t9 [.lst (es2.map eP)]) (.ref 2) = some (es2.map eP) from rfl, Option.bind_some, pairs_sort hpr hln, hq]
    rfl
  have hlv : callN P (n + 1) 15 [encG gs qs ls] (HX ns s9 t9 [.lst (es2.map eP)]) = _ := run_lvals (by rw [hgs]; unfold line; omega) (fun p hp => by rw [hgs]; exact hqk p hp) (fun l hl => by rw [hgs]; exact hlk l hl)
  have a7 : evS ⟨callN P (n + 1), P.sub⟩ (.asg (.v 9) (.call 15 (.cons (.var 8) .nil))) (sD most k (.ref 2) o4' o5 o6 (some (.lst (natD ls))) (some (encG gs qs ls)) none none) (HX ns s9 t9 [.lst (es2.map eP)]) = .ok (.nx (sD most k (.ref 2) o4' o5 o6 (some (.lst (natD ls))) (some (encG gs qs ls)) (some (.tup (natD (vals gs.length qs ls)))) none)) (HX ns s9 t9 [.lst (es2.map eP)]) :=
    asgV (i := 9) ((ev_c1 (ev_var rfl)).trans hlv)
  have a8 : evS ⟨callN P (n + 1), P.sub⟩ (.asg (.v 10) (.cell (.bi .list (.cons (.idx (.var 8) (.cst (.int 0))) .nil)))) (sD most k (.ref 2) o4' o5 o6 (some (.lst (natD ls))) (some (encG gs qs ls)) (some (.tup (natD (vals gs.length qs ls)))) none) (HX ns s9 t9 [.lst (es2.map eP)]) = .ok (.nx (sD most k (.ref 2) o4' o5 o6 (some (.lst (natD ls))) (some (encG gs qs ls)) (some (.tup (natD (vals gs.length qs ls)))) (some (.ref 3)))) (HX ns s9 t9 [.lst (es2.map eP), .lst (natD gs)]) :=
    asgV (i := 10) (ev_cell (ev_bi1 (x := .tup (natD gs)) (ev_idx (x := encG gs qs ls) (ev_var rfl) ev_cst rfl) rfl))
  obtain ⟨o4'', gs2, e10, hgs2, hgb2⟩ := dg2 (n := n) (ns := ns) (most := most) (k := k) (o4 := o4') (o5 := o5) (o6 := o6) (o7 := some (.lst (natD ls))) (E := .lst (es2.map eP)) (G := encG gs qs ls) (vs := vals gs.length qs ls) (gs := gs) hk7 (by rw [vals_len, hgs]) hgs hg7 s9 t9
  have a9 : evS ⟨callN P (n + 1), P.sub⟩ (.for_ (.v 4) (.rng1 (.var 2)) L__law_drawn_graph_2) (sD most k (.ref 2) o4' o5 o6 (some (.lst (natD ls))) (some (encG gs qs ls)) (some (.tup (natD (vals gs.length qs ls)))) (some (.ref 3))) (HX ns s9 t9 [.lst (es2.map eP), .lst (natD gs)]) = .ok (.nx (sD most k (.ref 2) o4'' o5 o6 (some (.lst (natD ls))) (some (encG gs qs ls)) (some (.tup (natD (vals gs.length qs ls)))) (some (.ref 3)))) (HX ns s9 t9 [.lst (es2.map eP), .lst (natD gs2)]) := by
    rw [forR1 (P := ⟨callN P (n + 1), P.sub⟩) (h' := HX ns s9 t9 [.lst (es2.map eP), .lst (natD gs)]) (j := k) (ev_var rfl) hsk]
    rw [Int.toNat_natCast, rngD_zero]
    exact e10
  refine ⟨gs2, qs, ls, s9, t9, ?_, by omega, by omega, by omega, hgb2, fun p hp => by have := hqk p hp; omega, fun l hl => by have := hlk l hl; omega⟩
  rw [call_rt0 (σ := [some (.ref 1), some (.int (most : Nat)), none, none, none, none, none, none, none, none, none]) (b := b__law_drawn_graph) (h' := HX ns s9 t9 [.lst (es2.map eP), .lst (natD gs2)]) (v := encG gs2 qs ls) rfl rfl rfl rfl]
  · unfold finR
    rw [low_plain encG_plain, Bool.true_and, if_pos]
    · rfl
    · show cutOk 2 _ _ = true
      unfold cutOk HX
      simp [Cell.low, D.low.lows, D.low]
  · unfold b__law_drawn_graph
    rw [seqN a1, seqN a2, seqN a3, seqN a4, seqN a5, seqN a6, seqN a7, seqN a8, seqN a9]
    exact seqR (retE (ev_t3 (x := .tup (natD gs2)) (y := .tup (qs.map eP)) (z := .tup (natD ls)) (ev_bi1 (x := .ref 3) (ev_var rfl) rfl) (ev_idx (x := encG gs qs ls) (ev_var rfl) ev_cst rfl) (ev_idx (x := encG gs qs ls) (ev_var rfl) ev_cst rfl)))

theorem plains_iff {xs : List D} : D.plains xs = true ↔ ∀ x ∈ xs, x.plain = true := by
  constructor
  · exact plains_all
  · intro h
    induction xs with
    | nil => rfl
    | cons x xs ih =>
      rw [D.plains, h x (by simp), ih fun y hy => h y (by simp [hy])]
      rfl
mutual
def D.nice : D → Bool
  | .int i => decide (i.natAbs < 2 ^ 62)
  | .tup xs => decide (xs.length ≤ 1000) && D.nices xs
  | _ => false
def D.nices : List D → Bool
  | [] => true
  | x :: xs => D.nice x && D.nices xs
end
mutual
theorem nice_plain : ∀ {d : D}, d.nice = true → d.plain = true
  | .int _, _ => rfl
  | .tup xs, h => by
    simp only [D.nice, Bool.and_eq_true] at h
    simp only [D.plain]
    exact nices_plain h.2
  | .non, _ => rfl
  | .bl _, _ => rfl
  | .str _, _ => rfl
  | .lst _, h => by simp [D.nice] at h
  | .ref _, h => by simp [D.nice] at h
  | .fn _, h => by simp [D.nice] at h
theorem nices_plain : ∀ {ds : List D}, D.nices ds = true → D.plains ds = true
  | [], _ => rfl
  | d :: ds, h => by
    simp only [D.nices, Bool.and_eq_true] at h
    simp only [D.plains, Bool.and_eq_true]
    exact ⟨nice_plain h.1, nices_plain h.2⟩
end
theorem nices_mem {xs : List D} (h : D.nices xs = true) : ∀ x ∈ xs, x.nice = true := by
  induction xs with
  | nil => intro x hx; simp at hx
  | cons y ys ih =>
    simp only [D.nices, Bool.and_eq_true] at h
    intro x hx
    rcases List.mem_cons.mp hx with rfl | hx
    · exact h.1
    · exact ih h.2 x hx
theorem dep_mem {xs : List D} {d : Nat} (h : D.deps xs ≤ d) : ∀ x ∈ xs, x.dep ≤ d := by
  induction xs with
  | nil => intro x hx; simp at hx
  | cons y ys ih =>
    simp only [D.deps] at h
    intro x hx
    rcases List.mem_cons.mp hx with rfl | hx
    · omega
    · exact ih (by omega) x hx
theorem menuD {C : Caller} {ns : List D} {s t : Int} {X : Hc} {e1 : CE} {σ : CSt} (hC : TakeOk C ns) (ms : List D) (hm : 0 < ms.length) (hs : ms.length < 100) (k1 : ∀ s t X, evE C e1 σ (HX ns s t X) = .ok (.ref 1) (HX ns s t X)) (es : CEs) (he : evEs C es σ (HX ns s t X) = .ok ms (HX ns s t X)) (k : Int) (hk : k = ms.length) :
    ∃ (v : D) (s' t' : Int), v ∈ ms ∧ evE C (.idx (.lst es) (.call 12 (.cons e1 (.cons (.cst (.int k)) .nil)))) σ (HX ns s t X) = .ok v (HX ns s' t' X) := by
  obtain ⟨v, s', t', hv, e⟩ := take2 (m := k) (e2 := .cst (.int k)) hC (by omega) (by omega) (k1 s t X) ev_cst
  have hlt : v < ms.length := by omega
  exact ⟨ms[v], s', t', List.getElem_mem hlt, ev_idx (ev_lst he) e (atD_of (List.getElem?_eq_getElem hlt))⟩
theorem ev_isin {C : Caller} {a : CE} {ts : List Ty} {σ : CSt} {h h1 : Hc} {x : D} {b : Bool} (ka : evE C a σ h = .ok x h1) (kb : isFs h1 ts x = some b) : evE C (.isin a ts) σ h = .ok (.bl b) h1 := by simp only [EV, EB, ka, kb, Option.map_some]
theorem run_isnum {n : Nat} {h : Hc} {v : D} (hv : v.plain = true) : callN P (n + 1) 17 [v] h = .ok (.bl (isInt v)) h := run_law_is_number hv
theorem ev_neg {C : Caller} {a : CE} {σ : CSt} {h h1 : Hc} {i : Int} (ka : evE C a σ h = .ok (.int i) h1) : evE C (.neg a) σ h = .ok (.int (-i)) h1 := by simp only [EV, EB, ka]
theorem optR_no {f : Hc → ERes D} {h : Hc} : optR (CE.isAbs .absent) f h = .ok none h := rfl
theorem optR_is {e : CE} {f : Hc → ERes D} {h h1 : Hc} {i : Int} (hb : e.isAbs = false) (k : f h = .ok (.int i) h1) : optR e.isAbs f h = .ok (some i) h1 := by
  unfold optR
  rw [hb, if_neg (by simp), k]
  rfl
theorem ev_slu {C : Caller} {a hi : CE} {σ : CSt} {h h1 h2 : Hc} {x z : D} {u : Int} (hb : hi.isAbs = false) (ka : evE C a σ h = .ok x h1) (kb : evE C hi σ h1 = .ok (.int u) h2) (kz : sliceF h2 x none (some u) = some z) : evE C (.sl a .absent hi) σ h = .ok z h2 := by
  simp only [EV, EB, ka, optR_no, optR_is hb kb, kz]
theorem ev_sll {C : Caller} {a lo : CE} {σ : CSt} {h h1 h2 : Hc} {x z : D} {u : Int} (hb : lo.isAbs = false) (ka : evE C a σ h = .ok x h1) (kb : evE C lo σ h1 = .ok (.int u) h2) (kz : sliceF h2 x (some u) none = some z) : evE C (.sl a lo .absent) σ h = .ok z h2 := by
  simp only [EV, EB, ka, optR_no, optR_is hb kb, kz]
theorem cutD_mem {α : Type} {xs : List α} {lo hi : Option Int} {x : α} (h : x ∈ cutD xs lo hi) : x ∈ xs := List.mem_of_mem_drop (List.mem_of_mem_take h)
theorem cutD_len {α : Type} {xs : List α} {lo hi : Option Int} : (cutD xs lo hi).length ≤ xs.length := by
  unfold cutD
  rw [List.length_take, List.length_drop]
  omega
theorem run_bent {n : Nat} {ns : List D} : ∀ (d : Nat) (v : D), v.nice = true → v.dep ≤ d → ∀ (deep s t : Int), ∃ v' s' t', callN P (n + d + 2) 18 [.ref 1, v, .int deep] (HX ns s t []) = .ok v' (HX ns s' t' []) ∧ v'.plain = true := by
  intro d
  induction d with
  | zero =>
    intro v hv hd deep s t
    cases v with
    | int i =>
      have hi : i.natAbs < 2 ^ 62 := by simpa [D.nice] using hv
      have hC := take_ok (n := n) (ns := ns)
      have hstr : biF (HX ns s t []) .str [.int i] = some (.str (toString i)) := by
        simp only [biF]
        rw [if_pos]
        by_cases h0 : i.natAbs = 0
        · rw [h0]; decide
        · have := (Nat.log2_lt h0).mpr hi
          omega
      obtain ⟨v', s', t', hm, e⟩ := menuD (s := s) (t := t) (X := []) (e1 := .var 0) (σ := [some (.ref 1), some (.int i), some (.int deep), none]) hC [.int (i + 1), .int (i - 1), .int (-i), .non, .bl true, .str (toString i), .tup [.int i]] (by simp) (by simp) (fun s t X => ev_var rfl)
        (.cons (.bin .Add (.var 1) (.cst (.int 1))) (.cons (.bin .Sub (.var 1) (.cst (.int 1))) (.cons (.neg (.var 1)) (.cons (.cst .non) (.cons (.cst (.bl true)) (.cons (.bi .str (.cons (.var 1) .nil)) (.cons (.tup (.cons (.var 1) .nil)) .nil)))))))
        (ev_cons (ev_bin (ev_var rfl) ev_cst rfl) (ev_cons (ev_bin (ev_var rfl) ev_cst rfl) (ev_cons (ev_neg (ev_var rfl)) (ev_cons ev_cst (ev_cons ev_cst (ev_cons (ev_bi1 (ev_var rfl) hstr) (ev_cons (ev_t1 (ev_var rfl)) ev_nil))))))) 7 rfl
      refine ⟨v', s', t', ?_, ?_⟩
      · rw [call_rt0 (σ := [some (.ref 1), some (.int i), some (.int deep), none]) (b := b__law_bent) (h' := HX ns s' t' []) (v := v') rfl rfl rfl rfl]
        · exact finR_len rfl
        · unfold b__law_bent
          rw [seqN (σ' := [some (.ref 1), some (.int i), some (.int deep), none]) (h' := HX ns s t []) (by rw [ifF (P := ⟨callN P (n + 1), P.sub⟩) (h' := HX ns s t []) ((ev_and (ev_isin (b := false) (ev_var rfl) rfl)).trans (if_neg (by simp)))]; simp only [ES])]
          refine seqR ?_
          rw [ifT (P := ⟨callN P (n + 1), P.sub⟩) (h' := HX ns s t []) ((ev_c1 (ev_var rfl)).trans (run_isnum (n := n) (v := .int i) rfl))]
          exact seqR (retE e)
      · simp only [List.mem_cons, List.not_mem_nil, or_false] at hm
        rcases hm with rfl | rfl | rfl | rfl | rfl | rfl | rfl <;> rfl
    | tup xs => simp [D.dep] at hd
    | _ => simp [D.nice] at hv
  | succ d ih =>
    intro v hv hd deep s t
    have hC := take_ok (n := n + d + 1) (ns := ns)
    cases v with
    | int i =>
      have hi : i.natAbs < 2 ^ 62 := by simpa [D.nice] using hv
      have hstr : biF (HX ns s t []) .str [.int i] = some (.str (toString i)) := by
        simp only [biF]
        rw [if_pos]
        by_cases h0 : i.natAbs = 0
        · rw [h0]; decide
        · have := (Nat.log2_lt h0).mpr hi
          omega
      obtain ⟨v', s', t', hm, e⟩ := menuD (s := s) (t := t) (X := []) (e1 := .var 0) (σ := [some (.ref 1), some (.int i), some (.int deep), none]) hC [.int (i + 1), .int (i - 1), .int (-i), .non, .bl true, .str (toString i), .tup [.int i]] (by simp) (by simp) (fun s t X => ev_var rfl)
        (.cons (.bin .Add (.var 1) (.cst (.int 1))) (.cons (.bin .Sub (.var 1) (.cst (.int 1))) (.cons (.neg (.var 1)) (.cons (.cst .non) (.cons (.cst (.bl true)) (.cons (.bi .str (.cons (.var 1) .nil)) (.cons (.tup (.cons (.var 1) .nil)) .nil)))))))
        (ev_cons (ev_bin (ev_var rfl) ev_cst rfl) (ev_cons (ev_bin (ev_var rfl) ev_cst rfl) (ev_cons (ev_neg (ev_var rfl)) (ev_cons ev_cst (ev_cons ev_cst (ev_cons (ev_bi1 (ev_var rfl) hstr) (ev_cons (ev_t1 (ev_var rfl)) ev_nil))))))) 7 rfl
      refine ⟨v', s', t', ?_, ?_⟩
      · show callN P (n + d + 2 + 1) 18 _ _ = _
        rw [call_rt0 (n := n + d + 2) (σ := [some (.ref 1), some (.int i), some (.int deep), none]) (b := b__law_bent) (h' := HX ns s' t' []) (v := v') rfl rfl rfl rfl]
        · exact finR_len rfl
        · unfold b__law_bent
          rw [seqN (σ' := [some (.ref 1), some (.int i), some (.int deep), none]) (h' := HX ns s t []) (by rw [ifF (P := ⟨callN P (n + d + 2), P.sub⟩) (h' := HX ns s t []) ((ev_and (ev_isin (b := false) (ev_var rfl) rfl)).trans (if_neg (by simp)))]; simp only [ES])]
          refine seqR ?_
          rw [ifT (P := ⟨callN P (n + d + 2), P.sub⟩) (h' := HX ns s t []) ((ev_c1 (ev_var rfl)).trans (run_isnum (n := n + d + 1) (v := .int i) rfl))]
          exact seqR (retE e)
      · simp only [List.mem_cons, List.not_mem_nil, or_false] at hm
        rcases hm with rfl | rfl | rfl | rfl | rfl | rfl | rfl <;> rfl
    | tup xs =>
      have hn : xs.length ≤ 1000 ∧ D.nices xs = true := by simpa [D.nice] using hv
      have hp := nices_plain hn.2
      have hpi := plains_iff.mp hp
      have hdx : D.deps xs ≤ d := by simp only [D.dep] at hd; omega
      let σ : CSt := [some (.ref 1), some (.tup xs), some (.int deep), none]
      -- the test
      have htest : ∃ (b : Bool) (s1 t1 : Int), (b = true → 0 < xs.length) ∧ evE (callN P (n + d + 2)) (.and_ (.isin (.var 1) [.tuple]) (.and_ (.cmp .Gt (.bi .len (.cons (.var 1) .nil)) (.cst (.int 0))) (.or_ (.cmp .Eq (.var 2) (.cst (.int 0))) (.cmp .Gt (.call 12 (.cons (.var 0) (.cons (.cst (.int 5)) .nil))) (.cst (.int 0)))))) σ (HX ns s t []) = .ok (.bl b) (HX ns s1 t1 []) := by
        have e1 : evE (callN P (n + d + 2)) (.isin (.var 1) [.tuple]) σ (HX ns s t []) = .ok (.bl true) (HX ns s t []) := ev_isin (ev_var rfl) rfl
        have e2 : evE (callN P (n + d + 2)) (.cmp .Gt (.bi .len (.cons (.var 1) .nil)) (.cst (.int 0))) σ (HX ns s t []) = .ok (.bl (decide (0 < (xs.length : Int)))) (HX ns s t []) := ev_cmp (ev_bi1 (z := .int (xs.length : Nat)) (ev_var rfl) rfl) ev_cst rfl
        have e3 : evE (callN P (n + d + 2)) (.cmp .Eq (.var 2) (.cst (.int 0))) σ (HX ns s t []) = .ok (.bl (decide (deep = 0))) (HX ns s t []) := ev_cmp (ev_var rfl) ev_cst rfl
        by_cases h0 : 0 < xs.length
        · by_cases h1 : deep = 0
          · refine ⟨true, s, t, fun _ => h0, ?_⟩
            rw [ev_and e1, if_pos rfl, ev_and e2, decide_eq_true (by omega), if_pos rfl, ev_or e3, decide_eq_true h1, if_pos rfl]
          · obtain ⟨x, s1, t1, hx, e4⟩ := take2 (m := 5) (s := s) (t := t) (X := []) (e1 := .var 0) (e2 := .cst (.int 5)) (σ := σ) hC (by omega) (by omega) (ev_var rfl) ev_cst
            refine ⟨decide (0 < (x : Int)), s1, t1, fun _ => h0, ?_⟩
            rw [ev_and e1, if_pos rfl, ev_and e2, decide_eq_true (by omega), if_pos rfl, ev_or e3, decide_eq_false h1, if_neg (by simp)]
            exact ev_cmp e4 ev_cst rfl
        · refine ⟨false, s, t, Bool.noConfusion, ?_⟩
          rw [ev_and e1, if_pos rfl, ev_and e2, decide_eq_false (by omega), if_neg (by simp)]
      obtain ⟨b, s1, t1, hb, et⟩ := htest
      cases b with
      | true =>
        have hpos := hb rfl
        obtain ⟨k, s2, t2, hk, e2⟩ := take2 (m := xs.length) (s := s1) (t := t1) (X := []) (e1 := .var 0) (e2 := .bi .len (.cons (.var 1) .nil)) (σ := σ) hC (by omega) (by omega) (ev_var rfl) (ev_bi1 (x := .tup xs) (ev_var rfl) rfl)
        have hkl : k < xs.length := by omega
        have hmem : xs[k] ∈ xs := List.getElem_mem hkl
        obtain ⟨w, s3, t3, e3, hw⟩ := ih xs[k] (nices_mem hn.2 _ hmem) (dep_mem hdx _ hmem) (deep + 1) s2 t2
        let σ2 : CSt := [some (.ref 1), some (.tup xs), some (.int deep), some (.int (k : Nat))]
        have ex : evE (callN P (n + d + 2)) (.idx (.var 1) (.var 3)) σ2 (HX ns s2 t2 []) = .ok xs[k] (HX ns s2 t2 []) := ev_idx (ev_var rfl) (ev_var rfl) (atD_of (List.getElem?_eq_getElem hkl))
        have ec : evE (callN P (n + d + 2)) (.call 18 (.cons (.var 0) (.cons (.idx (.var 1) (.var 3)) (.cons (.bin .Add (.var 2) (.cst (.int 1))) .nil)))) σ2 (HX ns s2 t2 []) = .ok w (HX ns s3 t3 []) := (ev_c3 (ev_var rfl) ex (ev_bin (z := .int (deep + 1)) (ev_var rfl) ev_cst rfl)).trans e3
        have el : evE (callN P (n + d + 2)) (.sl (.var 1) .absent (.var 3)) σ2 (HX ns s2 t2 []) = .ok (.tup (cutD xs none (some (k : Nat)))) (HX ns s2 t2 []) := ev_slu (x := .tup xs) rfl (ev_var rfl) (ev_var rfl) rfl
        have er : evE (callN P (n + d + 2)) (.sl (.var 1) (.bin .Add (.var 3) (.cst (.int 1))) .absent) σ2 (HX ns s3 t3 []) = .ok (.tup (cutD xs (some ((k : Int) + 1)) none)) (HX ns s3 t3 []) := ev_sll (x := .tup xs) rfl (ev_var rfl) (ev_bin (z := .int ((k : Int) + 1)) (ev_var rfl) ev_cst rfl) rfl
        have l1 := cutD_len (xs := xs) (lo := none) (hi := some (k : Int))
        have l2 := cutD_len (xs := xs) (lo := some ((k : Int) + 1)) (hi := none)
        have hres := ev_bin (op := .Add) (z := .tup (cutD xs none (some (k : Nat)) ++ [w] ++ cutD xs (some ((k : Int) + 1)) none)) (ev_bin (op := .Add) (z := .tup (cutD xs none (some (k : Nat)) ++ [w])) el (ev_t1 ec) (by simp only [binF, addF]; rw [if_pos (by simp [line]; omega)])) er (by simp only [binF, addF]; rw [if_pos (by simp [line]; omega)])
        refine ⟨.tup (cutD xs none (some (k : Nat)) ++ [w] ++ cutD xs (some ((k : Int) + 1)) none), s3, t3, ?_, ?_⟩
        · show callN P (n + d + 2 + 1) 18 _ _ = _
          rw [call_rt0 (n := n + d + 2) (σ := σ) (b := b__law_bent) (h' := HX ns s3 t3 []) (v := .tup (cutD xs none (some (k : Nat)) ++ [w] ++ cutD xs (some ((k : Int) + 1)) none)) rfl rfl rfl rfl]
          · exact finR_len rfl
          · unfold b__law_bent
            refine seqR ?_
            rw [ifT (P := ⟨callN P (n + d + 2), P.sub⟩) et, seqN (σ' := σ2) (h' := HX ns s2 t2 []) (asgV (P := ⟨callN P (n + d + 2), P.sub⟩) e2)]
            exact seqR (retE hres)
        · rw [D.plain, plains_iff]
          intro x hx
          rcases List.mem_append.mp hx with hx | hx
          · rcases List.mem_append.mp hx with hx | hx
            · exact hpi x (cutD_mem hx)
            · rw [List.mem_singleton] at hx; rw [hx]; exact hw
          · exact hpi x (cutD_mem hx)
      | false =>
        have e17 : evE (callN P (n + d + 2)) (.call 17 (.cons (.var 1) .nil)) σ (HX ns s1 t1 []) = .ok (.bl false) (HX ns s1 t1 []) := (ev_c1 (ev_var rfl)).trans (run_isnum (n := n + d + 1) (v := .tup xs) hp)
        have hl : xs.length + 1 ≤ line ∧ xs.length + xs.length ≤ line ∧ 1 + xs.length ≤ line := by unfold line; omega
        obtain ⟨v', s', t', hm, e⟩ := menuD (s := s1) (t := t1) (X := []) (e1 := .var 0) (σ := σ) hC [.tup (xs ++ [.int 0]), .lst xs, .non, .tup (cutD xs none (some (-1))), .tup (xs ++ xs), .tup ([.tup []] ++ xs)] (by simp) (by simp) (fun s t X => ev_var rfl)
          (.cons (.bin .Add (.var 1) (.tup (.cons (.cst (.int 0)) .nil))) (.cons (.bi .list (.cons (.var 1) .nil)) (.cons (.cst .non) (.cons (.sl (.var 1) .absent (.neg (.cst (.int 1)))) (.cons (.bin .Add (.var 1) (.var 1)) (.cons (.bin .Add (.tup (.cons (.tup .nil) .nil)) (.var 1)) .nil))))))
          (ev_cons (ev_bin (x := .tup xs) (ev_var rfl) (ev_t1 ev_cst) (by simp only [binF, addF]; exact if_pos hl.1)) (ev_cons (ev_bi1 (x := .tup xs) (ev_var rfl) rfl) (ev_cons ev_cst (ev_cons (ev_slu (x := .tup xs) rfl (ev_var rfl) (ev_neg ev_cst) rfl) (ev_cons (ev_bin (x := .tup xs) (ev_var rfl) (ev_var rfl) (by simp only [binF, addF]; exact if_pos hl.2.1)) (ev_cons (ev_bin (ev_t1 (ev_tup ev_nil)) (ev_var rfl) (by simp only [binF, addF]; exact if_pos hl.2.2)) ev_nil)))))) 6 rfl
        refine ⟨v', s', t', ?_, ?_⟩
        · show callN P (n + d + 2 + 1) 18 _ _ = _
          rw [call_rt0 (n := n + d + 2) (σ := σ) (b := b__law_bent) (h' := HX ns s' t' []) (v := v') rfl rfl rfl rfl]
          · exact finR_len rfl
          · unfold b__law_bent
            rw [seqN (σ' := σ) (h' := HX ns s1 t1 []) (by rw [ifF (P := ⟨callN P (n + d + 2), P.sub⟩) et]; simp only [ES])]
            rw [seqN (σ' := σ) (h' := HX ns s1 t1 []) (by rw [ifF (P := ⟨callN P (n + d + 2), P.sub⟩) e17]; simp only [ES])]
            refine seqR ?_
            rw [ifT (P := ⟨callN P (n + d + 2), P.sub⟩) (h' := HX ns s1 t1 []) (ev_isin (b := true) (ev_var rfl) rfl)]
            exact seqR (retE e)
        · simp only [List.mem_cons, List.not_mem_nil, or_false] at hm
          rcases hm with rfl | rfl | rfl | rfl | rfl | rfl
          · rw [D.plain, plains_iff]
            intro x hx
            rcases List.mem_append.mp hx with hx | hx
            · exact hpi x hx
            · rw [List.mem_singleton] at hx; rw [hx]; rfl
          · exact hp
          · rfl
          · rw [D.plain, plains_iff]
            intro x hx
            exact hpi x (cutD_mem hx)
          · rw [D.plain, plains_iff]
            intro x hx
            rcases List.mem_append.mp hx with hx | hx <;> exact hpi x hx
          · rw [D.plain, plains_iff]
            intro x hx
            rcases List.mem_append.mp hx with hx | hx
            · rw [List.mem_singleton] at hx; rw [hx]; rfl
            · exact hpi x hx
    | _ => simp [D.nice] at hv

/-! ### expressions that make plain data -/
def PE (C : Caller) (σ : CSt) (h : Hc) (e : CE) : Prop := ∃ d, evE C e σ h = .ok d h ∧ d.plain = true
def PEs (C : Caller) (σ : CSt) (h : Hc) (es : CEs) (n : Nat) : Prop := ∃ ds, evEs C es σ h = .ok ds h ∧ D.plains ds = true ∧ ds.length = n
/-- .. a tuple of at most n items -/
def PT (C : Caller) (σ : CSt) (h : Hc) (e : CE) (n : Nat) : Prop := ∃ ds, evE C e σ h = .ok (.tup ds) h ∧ D.plains ds = true ∧ ds.length ≤ n
section
variable {C : Caller} {σ : CSt} {h : Hc}
theorem PE.c {d : D} (hp : d.plain = true) : PE C σ h (.cst d) := ⟨d, ev_cst, hp⟩
theorem PE.v {i : Nat} {d : D} (e : σ[i]? = some (some d)) (hp : d.plain = true) : PE C σ h (.var i) := ⟨d, ev_var e, hp⟩
theorem PEs.n : PEs C σ h .nil 0 := ⟨[], ev_nil, rfl, rfl⟩
theorem PEs.k {e : CE} {es : CEs} {n : Nat} (a : PE C σ h e) (b : PEs C σ h es n) : PEs C σ h (.cons e es) (n + 1) := by
  obtain ⟨d, e1, p1⟩ := a
  obtain ⟨ds, e2, p2, l2⟩ := b
  exact ⟨d :: ds, ev_cons e1 e2, by rw [D.plains, p1, p2]; rfl, by simp [l2]⟩
theorem PT.t {es : CEs} {n : Nat} (a : PEs C σ h es n) : PT C σ h (.tup es) n := by
  obtain ⟨ds, e, p, l⟩ := a
  exact ⟨ds, ev_tup e, p, by omega⟩
theorem PT.e {e : CE} {n : Nat} (a : PT C σ h e n) : PE C σ h e := by
  obtain ⟨ds, e, p, l⟩ := a
  exact ⟨_, e, by rw [D.plain]; exact p⟩
theorem PT.v {i : Nat} {ds : List D} {n : Nat} (e : σ[i]? = some (some (.tup ds))) (hp : D.plains ds = true) (hl : ds.length ≤ n) : PT C σ h (.var i) n := ⟨ds, ev_var e, hp, hl⟩
theorem PT.l {e : CE} {n : Nat} (a : PT C σ h e n) : PE C σ h (.bi .list (.cons e .nil)) := by
  obtain ⟨ds, e, p, l⟩ := a
  exact ⟨.lst ds, ev_bi1 e rfl, by rw [D.plain]; exact p⟩
theorem plains_app {xs ys : List D} (hx : D.plains xs = true) (hy : D.plains ys = true) : D.plains (xs ++ ys) = true := by
  rw [plains_iff] at *
  intro x h
  rcases List.mem_append.mp h with h | h
  · exact hx x h
  · exact hy x h
theorem PT.app {a b : CE} {n m : Nat} (ka : PT C σ h a n) (kb : PT C σ h b m) (hl : n + m ≤ 1000) : PT C σ h (.bin .Add a b) (n + m) := by
  obtain ⟨xs, e1, p1, l1⟩ := ka
  obtain ⟨ys, e2, p2, l2⟩ := kb
  refine ⟨xs ++ ys, ev_bin e1 e2 ?_, plains_app p1 p2, by rw [List.length_append]; omega⟩
  simp only [binF, addF]
  exact if_pos (by unfold line; omega)
theorem plains_rep {xs : List D} (h : D.plains xs = true) : ∀ n, D.plains (List.replicate n xs).flatten = true
  | 0 => rfl
  | n + 1 => by rw [List.replicate_succ, List.flatten_cons]; exact plains_app h (plains_rep h n)
theorem rep_len {xs : List D} : ∀ n, (List.replicate n xs).flatten.length = n * xs.length
  | 0 => by simp
  | n + 1 => by rw [List.replicate_succ, List.flatten_cons, List.length_append, rep_len n, Nat.succ_mul]; omega
theorem PT.mul {a b : CE} {m : Nat} (ka : PT C σ h a 1) (kb : evE C b σ h = .ok (.int (m : Nat)) h) (hm : m ≤ 1000) : PT C σ h (.bin .Mult a b) m := by
  obtain ⟨xs, e1, p1, l1⟩ := ka
  refine ⟨(List.replicate m xs).flatten, ev_bin e1 kb ?_, plains_rep p1 m, ?_⟩
  · simp only [binF, mulF, Int.toNat_natCast]
    refine if_pos ⟨by omega, by omega, ?_⟩
    have : xs.length * m ≤ 1 * m := Nat.mul_le_mul_right _ l1
    unfold line; omega
  · rw [rep_len]
    have : m * xs.length ≤ m * 1 := Nat.mul_le_mul_left _ l1
    omega
theorem PT.rev {a : CE} {n : Nat} (ka : PT C σ h a n) : PT C σ h (.rev a) n := by
  obtain ⟨xs, e1, p1, l1⟩ := ka
  refine ⟨xs.reverse, by simp only [EV, EB, e1, revF, der], ?_, by simpa using l1⟩
  rw [plains_iff] at *
  intro x hx
  exact p1 x (List.mem_reverse.mp hx)
theorem PT.sl {a : CE} {n : Nat} (u : Int) (ka : PT C σ h a n) : PT C σ h (.sl a (.cst (.int u)) .absent) n := by
  obtain ⟨xs, e1, p1, l1⟩ := ka
  refine ⟨cutD xs (some u) none, ev_sll rfl e1 ev_cst rfl, ?_, Nat.le_trans cutD_len l1⟩
  rw [plains_iff] at *
  intro x hx
  exact p1 x (cutD_mem hx)
theorem PE.ints {e : CE} {i : Int} (k : evE C e σ h = .ok (.int i) h) : PE C σ h e := ⟨_, k, rfl⟩
end
/-- the comprehension of a line's edges -/
theorem PT.edgs {C : Caller} {σ : CSt} {h : Hc} {m : Nat} (hσ : 10 < σ.length) (hm : m ≤ 100) : PT C σ h (.bi .tuple (.cons (.comp (.tup (.cons (.var 10) (.cons (.bin .Add (.var 10) (.cst (.int 1))) .nil))) (.v 10) (.rng1 (.cst (.int (m : Nat)))) .absent [10]) .nil)) m := by
  have key : compF (evE C (.tup (.cons (.var 10) (.cons (.bin .Add (.var 10) (.cst (.int 1))) .nil)))) (condR true (evE C .absent)) (.v 10) [] (cwipe σ [10]) (natD (List.range m)) h = .ok ((natD (List.range m)).map fun x => match x with | .int i => .tup [.int i, .int (i + 1)] | _ => .non) h := by
    rw [compF_pure rfl (fun x => match x with | .int i => .tup [.int i, .int (i + 1)] | _ => .non) (fun _ => true)]
    · rw [List.filter_eq_self.mpr (by simp)]
    · intro x hx
      obtain ⟨i, _, rfl⟩ := List.mem_map.mp hx
      have hg : ((cwipe σ [10]).set 10 (some (.int (i : Nat))))[10]? = some (some (.int (i : Nat))) := by
        simp only [cwipe, List.set_set]
        exact List.getElem?_set_self hσ
      exact ⟨_, rfl, rfl, fun _ => ev_t2 (ev_var hg) (ev_bin (ev_var hg) ev_cst rfl)⟩
  refine ⟨(natD (List.range m)).map fun x => match x with | .int i => .tup [.int i, .int (i + 1)] | _ => .non, ?_, ?_, by rw [List.length_map, natD, List.length_map, List.length_range]; omega⟩
  · refine ev_bi1 (x := .lst ((natD (List.range m)).map fun x => match x with | .int i => .tup [.int i, .int (i + 1)] | _ => .non)) ?_ rfl
    have hsm : smallI (m : Nat) = true := by unfold smallI; simp; omega
    simp only [EV, EB, hsm, if_true]
    rw [if_pos (by rw [Int.toNat_natCast, rngD_zero, natD, List.length_map, List.length_range]; unfold line; omega), Int.toNat_natCast, rngD_zero]
    simp only [CE.isAbs, key, lmap, List.nil_append]
  · rw [plains_iff]
    intro x hx
    obtain ⟨y, hy, rfl⟩ := List.mem_map.mp hx
    obtain ⟨i, _, rfl⟩ := List.mem_map.mp hy
    rfl
/-- values = values + [..] -/
theorem more {Pe : Env2} {σ : CSt} {h : Hc} {es : CEs} {n : Nat} {xs : List D} (e : σ[6]? = some (some (.lst xs))) (hp : D.plains xs = true) (hl : xs.length ≤ 100) (hn : n ≤ 100) (k : PEs Pe.C σ h es n) :
    ∃ ys, evS Pe (.asg (.v 6) (.bin .Add (.var 6) (.lst es))) σ h = .ok (.nx (σ.set 6 (some (.lst ys)))) h ∧ D.plains ys = true ∧ ys.length = xs.length + n := by
  obtain ⟨ds, e2, p2, l2⟩ := k
  refine ⟨xs ++ ds, asgV (ev_bin (ev_var e) (ev_lst e2) ?_), plains_app hp p2, by rw [List.length_append, l2]⟩
  simp only [binF, addF, addL, derM]
  exact if_pos (by unfold line; omega)
def sT (G A B Cc : D) (vs : List D) : CSt := [some (.ref 0), some (.ref 1), some G, some A, some B, some Cc, some (.lst vs), none, none, none, none, none, none]
theorem eds_plain : ∀ (es : List Ed), D.plains (es.map eP) = true
  | [] => rfl
  | p :: es => by rw [List.map_cons, D.plains, eds_plain es]; rfl
theorem nices_natD : ∀ (l : List Nat), (∀ n ∈ l, n < 1000) → D.nices (natD l) = true
  | [], _ => rfl
  | a :: l, h => by
    have ha := h a (by simp)
    rw [natD, List.map_cons, D.nices, D.nice, decide_eq_true (by omega), Bool.true_and]
    exact nices_natD l fun n hn => h n (by simp [hn])

theorem eds_nice : ∀ (es : List Ed), edK 7 es → D.nices (es.map eP) = true
  | [], _ => rfl
  | p :: es, h => by
    have hp := h p (by simp)
    rw [List.map_cons, D.nices, eds_nice es fun q hq => h q (by simp [hq]), Bool.and_true]
    simp only [eP, D.nice, D.nices, Bool.and_true, Bool.and_eq_true, decide_eq_true_eq, List.length_cons, List.length_nil]
    omega
theorem eds_deps : ∀ (es : List Ed), D.deps (es.map eP) ≤ 1
  | [] => by simp [D.deps]
  | p :: es => by
    have := eds_deps es
    simp only [List.map_cons, D.deps, eP, D.dep]
    omega
theorem encG_nice {gs : List Nat} {ps : List Ed} {ls : List Nat} (h1 : gs.length ≤ 7) (h2 : ps.length ≤ 20) (h3 : ls.length ≤ 8) (k1 : ∀ g ∈ gs, g < 7) (k2 : edK 7 ps) (k3 : ∀ l ∈ ls, l < 7) : (encG gs ps ls).nice = true ∧ (encG gs ps ls).dep ≤ 3 := by
  constructor
  · simp only [encG, D.nice, D.nices, Bool.and_true, Bool.and_eq_true, decide_eq_true_eq, List.length_cons, List.length_nil, List.length_map]
    exact ⟨by omega, ⟨by omega, nices_natD gs fun n hn => by have := k1 n hn; omega⟩, ⟨by omega, eds_nice ps k2⟩, by omega, nices_natD ls fun n hn => by have := k3 n hn; omega⟩
  · have a := deps_natD gs
    have b := eds_deps ps
    have c := deps_natD ls
    simp only [encG, D.dep, D.deps]
    rw [show D.deps (List.map (fun g => D.int (g : Nat)) gs) = 0 from a, show D.deps (List.map (fun g => D.int (g : Nat)) ls) = 0 from c]
    omega
theorem law_run : ∀ ns : List Int, ns.length ≤ 63 → ∃ h', callN P 200 23 [.ref 0] [.ro (ns.map D.int)] = .ok (.bl true) h' := by
  intro is hl
  obtain ⟨s, t, e1⟩ := run_state (n := 198) hl
  generalize hns : is.map D.int = ns at *
  let C := callN P 199
  have hC : TakeOk C ns := take_ok (n := 198)
  obtain ⟨most, s1, t1, hm, e2⟩ := menu (s := s) (t := t) (X := []) (e1 := .var 1) (σ := [some (.ref 0), some (.ref 1), none, none, none, none, none, none, none, none, none, none, none]) hC [5, 7] (by decide) (by decide) (fun s t X => ev_var rfl) (.cons (.cst (.int 5)) (.cons (.cst (.int 7)) .nil)) (fun h => ev_cons ev_cst (ev_cons ev_cst ev_nil)) 2 rfl
  have hm' : 0 < most ∧ most ≤ 7 := by
    simp only [List.mem_cons, List.not_mem_nil, or_false] at hm
    omega
  obtain ⟨gs, ps, ls, s2, t2, e3, g7, p20, l8, gb, pb, lb⟩ := run_drawn (n := 197) (ns := ns) (s := s1) (t := t1) hm'.1 hm'.2
  obtain ⟨gn, gd⟩ := encG_nice g7 p20 l8 gb pb lb
  let H := HX ns s2 t2 []
  have hA : D.plains (natD gs) = true := plains_natD gs
  have hB : D.plains (ps.map eP) = true := eds_plain ps
  have hD : D.plains (natD ls) = true := plains_natD ls
  have lA : (natD gs).length ≤ 7 := by rw [natD, List.length_map]; exact g7
  have lB : (ps.map eP).length ≤ 20 := by rw [List.length_map]; exact p20
  have lD : (natD ls).length ≤ 8 := by rw [natD, List.length_map]; exact l8
  let σ0 : CSt := [some (.ref 0), some (.ref 1), some (encG gs ps ls), some (.tup (natD gs)), some (.tup (ps.map eP)), some (.tup (natD ls)), none, none, none, none, none, none, none]
  let σv := fun vs : List D => sT (encG gs ps ls) (.tup (natD gs)) (.tup (ps.map eP)) (.tup (natD ls)) vs
  have s1' : evS ⟨C, P.sub⟩ (.asg (.v 1) (.call 11 (.cons (.var 0) .nil))) [some (.ref 0), none, none, none, none, none, none, none, none, none, none, none, none] [.ro ns] = .ok (.nx [some (.ref 0), some (.ref 1), none, none, none, none, none, none, none, none, none, none, none]) (HX ns s t []) :=
    asgV (i := 1) ((ev_c1 (ev_var rfl)).trans e1)
  have s2' : evS ⟨C, P.sub⟩ (.asg (.v 2) (.call 16 (.cons (.var 1) (.cons (.idx (.lst (.cons (.cst (.int 5)) (.cons (.cst (.int 7)) .nil))) (.call 12 (.cons (.var 1) (.cons (.cst (.int 2)) .nil)))) .nil)))) [some (.ref 0), some (.ref 1), none, none, none, none, none, none, none, none, none, none, none] (HX ns s t []) = .ok (.nx [some (.ref 0), some (.ref 1), some (encG gs ps ls), none, none, none, none, none, none, none, none, none, none]) H :=
    asgV (i := 2) ((ev_c2 (ev_var rfl) e2).trans e3)
  have s3' : evS ⟨C, P.sub⟩ (.asg (.t (.cons (.v 3) (.cons (.v 4) (.cons (.v 5) .nil)))) (.var 2)) [some (.ref 0), some (.ref 1), some (encG gs ps ls), none, none, none, none, none, none, none, none, none, none] H = .ok (.nx σ0) H := by
    rw [show ∀ (t : Tg) (e : CE) (σ : CSt) (h : Hc), evS ⟨C, P.sub⟩ (.asg t e) σ h = ((evE C e σ h).st σ fun d h => stO (asgT t d σ) fun σ' => .ok (.nx σ') h) from fun _ _ _ _ => by simp only [ES]]
    rw [ev_var (show ([some (.ref 0), some (.ref 1), some (encG gs ps ls), none, none, none, none, none, none, none, none, none, none] : CSt)[2]? = some (some (encG gs ps ls)) from rfl)]
    rfl
  -- the values
  have hG := encG_plain (gs := gs) (ps := ps) (ls := ls)
  have v2 : ∀ σ : CSt, σ[2]? = some (some (encG gs ps ls)) → PT C σ H (.var 2) 3 := fun σ e => ⟨_, ev_var e, by simpa [encG, D.plain] using hG, by simp⟩
  have v3 : ∀ σ : CSt, σ[3]? = some (some (.tup (natD gs))) → PT C σ H (.var 3) 7 := fun σ e => PT.v e hA lA
  have v4 : ∀ σ : CSt, σ[4]? = some (some (.tup (ps.map eP))) → PT C σ H (.var 4) 20 := fun σ e => PT.v e hB lB
  have v5 : ∀ σ : CSt, σ[5]? = some (some (.tup (natD ls))) → PT C σ H (.var 5) 8 := fun σ e => PT.v e hD lD
  obtain ⟨xs1, ex1, px1, lx1⟩ : PEs C σ0 H (.cons (.var 2) (.cons (.bi .list (.cons (.var 2) .nil)) (.cons (.tup (.cons (.var 3) (.cons (.var 4) .nil))) (.cons (.tup (.cons (.bi .list (.cons (.var 3) .nil)) (.cons (.var 4) (.cons (.var 5) .nil)))) (.cons (.tup (.cons (.var 3) (.cons (.bi .list (.cons (.var 4) .nil)) (.cons (.var 5) .nil)))) (.cons (.tup (.cons (.var 3) (.cons (.var 4) (.cons (.bi .list (.cons (.var 5) .nil)) .nil)))) .nil)))))) 6 := by
    have a2 := v2 σ0 rfl
    have a3 := v3 σ0 rfl
    have a4 := v4 σ0 rfl
    have a5 := v5 σ0 rfl
    exact PEs.k a2.e (PEs.k a2.l (PEs.k (PT.t (PEs.k a3.e (PEs.k a4.e PEs.n))).e (PEs.k (PT.t (PEs.k a3.l (PEs.k a4.e (PEs.k a5.e PEs.n)))).e (PEs.k (PT.t (PEs.k a3.e (PEs.k a4.l (PEs.k a5.e PEs.n)))).e (PEs.k (PT.t (PEs.k a3.e (PEs.k a4.e (PEs.k a5.l PEs.n)))).e PEs.n)))))
  have r1 : evS ⟨C, P.sub⟩ _ σ0 H = .ok (.nx (σv xs1)) H := asgV (P := ⟨C, P.sub⟩) (i := 6) (ev_lst ex1)
  have tri : ∀ {σ : CSt} {a b c : CE}, PE C σ H a → PE C σ H b → PE C σ H c → PE C σ H (.tup (.cons a (.cons b (.cons c .nil)))) := fun ka kb kc => (PT.t (PEs.k ka (PEs.k kb (PEs.k kc PEs.n)))).e
  have i0 : ∀ {σ : CSt} {d : D}, d.plain = true → PE C σ H (.cst d) := fun hp => PE.c hp
  have one : ∀ {σ : CSt} {e : CE}, PE C σ H e → PT C σ H (.tup (.cons e .nil)) 1 := fun k => PT.t (PEs.k k PEs.n)
  have two : ∀ {σ : CSt} {a b : CE}, PE C σ H a → PE C σ H b → PE C σ H (.tup (.cons a (.cons b .nil))) := fun ka kb => (PT.t (PEs.k ka (PEs.k kb PEs.n))).e
  have nul : ∀ {σ : CSt}, PE C σ H (.tup .nil) := (PT.t PEs.n).e
  have len3 : ∀ xs, evE C (.bi .len (.cons (.var 3) .nil)) (σv xs) H = .ok (.int (gs.length : Nat)) H := fun xs => ev_bi1 (x := .tup (natD gs)) (ev_var rfl) (by simp only [biF, lenF, seqD]; rw [natD, List.length_map])
  obtain ⟨xs2, r2, px2, lx2⟩ := more (Pe := ⟨C, P.sub⟩) (σ := σv xs1) (h := H) (es := .cons (.tup (.cons (.bin .Add (.var 3) (.tup (.cons (.cst (.int 1)) .nil))) (.cons (.var 4) (.cons (.var 5) .nil)))) (.cons (.tup (.cons (.var 3) (.cons (.rev (.var 4)) (.cons (.var 5) .nil)))) (.cons (.tup (.cons (.var 3) (.cons (.bin .Add (.var 4) (.tup (.cons (.tup (.cons (.cst (.int 0)) (.cons (.bi .len (.cons (.var 3) .nil)) .nil))) .nil))) (.cons (.var 5) .nil)))) .nil))) rfl px1 (by omega) (by omega) (PEs.k (tri ((v3 _ rfl).app (one (i0 rfl)) (by omega)).e (v4 _ rfl).e (v5 _ rfl).e) (PEs.k (tri (v3 _ rfl).e (v4 _ rfl).rev.e (v5 _ rfl).e) (PEs.k (tri (v3 _ rfl).e ((v4 _ rfl).app (one (two (i0 rfl) (PE.ints (len3 xs1)))) (by omega)).e (v5 _ rfl).e) PEs.n)))
  obtain ⟨xs3, r3, px3, lx3⟩ := more (Pe := ⟨C, P.sub⟩) (σ := σv xs2) (h := H) (es := .cons (.tup (.cons (.bin .Mult (.tup (.cons (.cst (.int 0)) .nil)) (.bi .len (.cons (.var 3) .nil))) (.cons (.var 4) (.cons (.var 5) .nil)))) (.cons (.tup (.cons (.var 3) (.cons (.sl (.var 4) (.cst (.int 1)) .absent) (.cons (.var 5) .nil)))) (.cons (.tup (.cons (.var 3) (.cons (.var 4) (.cons (.bin .Add (.var 5) (.tup (.cons (.neg (.cst (.int 1))) .nil))) .nil)))) (.cons (.tup (.cons (.var 3) (.cons (.var 4) (.cons (.bin .Add (.var 5) (.bin .Mult (.tup (.cons (.cst (.int 0)) .nil)) (.cst (.int 9)))) .nil)))) .nil)))) rfl px2 (by omega) (by omega) (PEs.k (tri ((one (i0 rfl)).mul (len3 xs2) (by omega)).e (v4 _ rfl).e (v5 _ rfl).e) (PEs.k (tri (v3 _ rfl).e ((v4 _ rfl).sl 1).e (v5 _ rfl).e) (PEs.k (tri (v3 _ rfl).e (v4 _ rfl).e ((v5 _ rfl).app (one (PE.ints (ev_neg ev_cst))) (by omega)).e) (PEs.k (tri (v3 _ rfl).e (v4 _ rfl).e ((v5 _ rfl).app ((one (i0 rfl)).mul (m := 9) ev_cst (by omega)) (by omega)).e) PEs.n))))
  obtain ⟨xs4, r4, px4, lx4⟩ := more (Pe := ⟨C, P.sub⟩) (σ := σv xs3) (h := H) (es := .cons (.tup (.cons (.tup (.cons (.cst (.int 7)) .nil)) (.cons (.tup .nil) (.cons (.tup .nil) .nil)))) (.cons (.tup (.cons (.tup (.cons (.cst (.int 2)) .nil)) (.cons (.tup .nil) (.cons (.tup .nil) .nil)))) (.cons (.tup (.cons (.tup (.cons (.cst (.int 1)) .nil)) (.cons (.tup .nil) (.cons (.tup .nil) .nil)))) (.cons (.tup (.cons (.tup (.cons (.cst (.int 1)) .nil)) (.cons (.tup .nil) (.cons (.tup (.cons (.cst (.int 0)) .nil)) .nil)))) (.cons (.tup (.cons (.tup (.cons (.cst (.int 0)) .nil)) (.cons (.tup (.cons (.tup (.cons (.cst (.int 0)) (.cons (.cst (.int 0)) .nil))) .nil)) (.cons (.tup (.cons (.cst (.int 0)) .nil)) .nil)))) (.cons (.tup (.cons (.tup .nil) (.cons (.tup .nil) (.cons (.tup .nil) .nil)))) (.cons (.tup (.cons (.tup (.cons (.cst (.int 0)) .nil)) (.cons (.tup .nil) (.cons (.tup (.cons (.cst (.int 0)) (.cons (.cst (.int 0)) (.cons (.cst (.int 0)) .nil)))) .nil)))) .nil))))))) rfl px3 (by omega) (by omega)
    (PEs.k (tri (one (i0 rfl)).e nul nul) (PEs.k (tri (one (i0 rfl)).e nul nul) (PEs.k (tri (one (i0 rfl)).e nul nul) (PEs.k (tri (one (i0 rfl)).e nul (one (i0 rfl)).e) (PEs.k (tri (one (i0 rfl)).e (one (two (i0 rfl) (i0 rfl))).e (one (i0 rfl)).e) (PEs.k (tri nul nul nul) (PEs.k (tri (one (i0 rfl)).e nul (tri (i0 rfl) (i0 rfl) (i0 rfl))) PEs.n)))))))
  obtain ⟨xs5, r5, px5, lx5⟩ := more (Pe := ⟨C, P.sub⟩) (σ := σv xs4) (h := H) (es := .cons (.tup (.cons (.tup (.cons (.cst (.bl true)) .nil)) (.cons (.tup .nil) (.cons (.tup (.cons (.cst (.int 0)) .nil)) .nil)))) (.cons (.tup (.cons (.tup (.cons (.cst (.int 0)) .nil)) (.cons (.bin .Mult (.tup (.cons (.tup (.cons (.cst (.int 0)) (.cons (.cst (.int 0)) .nil))) .nil)) (.cst (.int 20))) (.cons (.tup .nil) .nil)))) (.cons (.tup (.cons (.tup (.cons (.cst (.int 0)) .nil)) (.cons (.bin .Mult (.tup (.cons (.tup (.cons (.cst (.int 0)) (.cons (.cst (.int 0)) .nil))) .nil)) (.cst (.int 21))) (.cons (.tup .nil) .nil)))) (.cons (.cst .non) (.cons (.cst (.int 5)) (.cons (.cst (.str (Str.ofString "G"))) (.cons (.tup (.cons (.cst (.int 1)) (.cons (.cst (.int 2)) (.cons (.cst (.int 3)) .nil)))) .nil))))))) rfl px4 (by omega) (by omega)
    (PEs.k (tri (one (i0 rfl)).e nul (one (i0 rfl)).e) (PEs.k (tri (one (i0 rfl)).e ((one (two (i0 rfl) (i0 rfl))).mul (m := 20) ev_cst (by omega)).e nul) (PEs.k (tri (one (i0 rfl)).e ((one (two (i0 rfl) (i0 rfl))).mul (m := 21) ev_cst (by omega)).e nul) (PEs.k (i0 rfl) (PEs.k (i0 rfl) (PEs.k (i0 rfl) (PEs.k (tri (i0 rfl) (i0 rfl) (i0 rfl)) PEs.n)))))))
  obtain ⟨xs6, r6, px6, lx6⟩ := more (Pe := ⟨C, P.sub⟩) (σ := σv xs5) (h := H) (es := .cons (.tup (.cons (.bin .Mult (.tup (.cons (.cst (.int 1)) .nil)) (.cst (.int 7))) (.cons (.bi .tuple (.cons (.comp (.tup (.cons (.var 10) (.cons (.bin .Add (.var 10) (.cst (.int 1))) .nil))) (.v 10) (.rng1 (.cst (.int 6))) .absent [10]) .nil)) (.cons (.tup .nil) .nil)))) (.cons (.tup (.cons (.bin .Mult (.tup (.cons (.cst (.int 1)) .nil)) (.cst (.int 8))) (.cons (.bi .tuple (.cons (.comp (.tup (.cons (.var 10) (.cons (.bin .Add (.var 10) (.cst (.int 1))) .nil))) (.v 10) (.rng1 (.cst (.int 7))) .absent [10]) .nil)) (.cons (.tup .nil) .nil)))) .nil)) rfl px5 (by omega) (by omega)
    (PEs.k (tri ((one (i0 rfl)).mul (m := 7) ev_cst (by omega)).e (PT.edgs (m := 6) (by show 10 < 13; omega) (by omega)).e nul) (PEs.k (tri ((one (i0 rfl)).mul (m := 8) ev_cst (by omega)).e (PT.edgs (m := 7) (by show 10 < 13; omega) (by omega)).e nul) PEs.n))
  -- the bent ones
  obtain ⟨zs, h', ez, ⟨s3, t3, rfl⟩, lz, pz⟩ := compF_eff (fe := evE C (.call 18 (.cons (.var 1) (.cons (.var 2) (.cons (.cst (.int 0)) .nil))))) (fc := condR true (evE C .absent)) (t := .v 11) (g := []) (σ := cwipe (σv xs6) [11]) (fun h => ∃ s t, h = HX ns s t []) (fun y => y.plain = true) (fun _ _ => rfl) (natD (List.range 8)) (fun x h hx I => by
    obtain ⟨s, t, rfl⟩ := I
    obtain ⟨i, _, rfl⟩ := List.mem_map.mp hx
    obtain ⟨v', s', t', e, p⟩ := run_bent (n := 194) (ns := ns) 3 (encG gs ps ls) gn gd 0 s t
    exact ⟨_, rfl, rfl, v', _, (ev_c3 (ev_var rfl) (ev_var rfl) ev_cst).trans e, ⟨s', t', rfl⟩, p⟩) H ⟨s2, t2, rfl⟩
  have lz8 : zs.length = 8 := by rw [lz, natD, List.length_map, List.length_range]
  let xs := xs6 ++ zs
  have pxs : ∀ x ∈ xs, x.plain = true := fun x hx => by
    rcases List.mem_append.mp hx with hx | hx
    · exact plains_iff.mp px6 x hx
    · exact pz x hx
  have r7 : evS ⟨C, P.sub⟩ (.asg (.v 6) (.bin .Add (.var 6) (.comp (.call 18 (.cons (.var 1) (.cons (.var 2) (.cons (.cst (.int 0)) .nil)))) (.v 11) (.rng1 (.cst (.int 8))) .absent [11]))) (σv xs6) H = .ok (.nx (σv xs)) (HX ns s3 t3 []) := by
    refine asgV (i := 6) (ev_bin (x := .lst xs6) (y := .lst zs) (ev_var rfl) ?_ ?_)
    · simp only [EV, EB]
      rw [show smallI 8 = true from rfl, if_pos rfl]
      simp only [EB]
      rw [if_pos (by decide), show rngD 0 1 (Int.toNat 8) = natD (List.range 8) from rngD_zero 8]
      simp only [CE.isAbs]
      rw [ez]
      rfl
    · simp only [binF, addF, addL, derM]
      exact if_pos (by unfold line; omega)
  -- the loop
  obtain ⟨σ', h', ef, ⟨o7, rfl⟩, rfl⟩ : ∃ σ' h', evS ⟨C, P.sub⟩ (.for_ (.v 7) (.seq (.var 6)) L_law_0) (σv xs) (HX ns s3 t3 []) = .ok (.nx σ') h' ∧ (∃ o7, σ' = [some (.ref 0), some (.ref 1), some (encG gs ps ls), some (.tup (natD gs)), some (.tup (ps.map eP)), some (.tup (natD ls)), some (.lst xs), o7, none, none, none, none, none]) ∧ h' = HX ns s3 t3 [] := by
    rw [forS (P := ⟨C, P.sub⟩) (h' := HX ns s3 t3 []) (d := .lst xs) (xs := xs) (g := []) (ev_var rfl) rfl rfl]
    have := forF_map (fb := evSs ⟨C, P.sub⟩ L_law_0) (t := .v 7) (g := []) (id : D → D) (fun (_ : Unit) σ h => (∃ o7, σ = [some (.ref 0), some (.ref 1), some (encG gs ps ls), some (.tup (natD gs)), some (.tup (ps.map eP)), some (.tup (natD ls)), some (.lst xs), o7, none, none, none, none, none]) ∧ h = HX ns s3 t3 []) (fun _ _ => ()) (fun _ _ _ _ => rfl) xs (fun _ x σ h hx R => by
      obtain ⟨⟨o7, rfl⟩, rfl⟩ := R
      exact ⟨_, rfl, _, _, turn (n := 191) (pxs x hx), ⟨some x, rfl⟩, rfl⟩) () (σv xs) (HX ns s3 t3 []) ⟨⟨none, rfl⟩, rfl⟩
    rw [List.map_id] at this
    obtain ⟨σ', h', e, r⟩ := this
    exact ⟨σ', h', e, r⟩
  have hrun : evSs ⟨C, P.sub⟩ b_law [some (.ref 0), none, none, none, none, none, none, none, none, none, none, none, none] [.ro ns] = .ok (.rt (.bl true)) (HX ns s3 t3 []) := by
    unfold b_law
    rw [seqN s1', seqN s2', seqN s3', seqN r1, seqN r2]
    rw [show (σv xs1).set 6 (some (.lst xs2)) = σv xs2 from rfl, seqN r3]
    rw [show (σv xs2).set 6 (some (.lst xs3)) = σv xs3 from rfl, seqN r4]
    rw [show (σv xs3).set 6 (some (.lst xs4)) = σv xs4 from rfl, seqN r5]
    rw [show (σv xs4).set 6 (some (.lst xs5)) = σv xs5 from rfl, seqN r6]
    rw [show (σv xs5).set 6 (some (.lst xs6)) = σv xs6 from rfl, seqN r7, seqN ef]
    exact seqR (retE ev_cst)
  refine ⟨(HX ns s3 t3 []).take 1, ?_⟩
  rw [call_rt0 (n := 199) (σ := [some (.ref 0), none, none, none, none, none, none, none, none, none, none, none, none]) (b := b_law) (h' := HX ns s3 t3 []) (v := .bl true) rfl rfl rfl rfl hrun]
  unfold finR
  rw [if_pos]
  · rfl
  · show cutOk 1 _ _ = true
    unfold cutOk HX
    simp

end Cl
open PySem PySem.W PyProof.Rows
set_option maxRecDepth 100000 in
set_option maxHeartbeats 0 in
theorem PySem.Challenge.cw_moduliroads_k07_stable_graphs_judged_holds : PySem.Challenge.rw_moduliroads_k07_stable_graphs_judged.Holds := by
  w_on; o_law; k_head; (case hw => w_witness2)
  k_fill
  refine Cl.walk_cl (l := PySem.Challenge.rw_moduliroads_k07_stable_graphs_judged) (S := Cl.sg) (P := Cl.P) (ds := Cl.tx) (n := 200) (i := 23) (x := "script") rfl rfl ⟨rfl, by decide, by decide⟩ (fun w h Y => PySem.W.kIn_of Y) (fun w => rfl) (Cl.tx.getD 23 ⟨"", Cl.top 0, [], []⟩) rfl rfl (fun _ _ _ _ _ _ _ => rfl) ?F Cl.law_run
  case F =>
    intro w mg fa h KX G hmg
    refine' Cl.all_mk KX G hmg ?a0 ?l0 ?c0 ?k0 ?a1 ?l1 ?c1 ?k1 ?a2 ?l2 ?c2 ?k2 ?a3 ?l3 ?c3 ?k3 ?a4 ?l4 ?c4 ?k4 ?a5 ?l5 ?c5 ?k5 ?a6 ?l6 ?c6 ?k6 ?a7 ?l7 ?c7 ?k7 ?a8 ?l8 ?c8 ?k8 ?a9 ?l9 ?c9 ?k9 ?a10 ?l10 ?c10 ?k10 ?a11 ?l11 ?c11 ?k11 ?a12 ?l12 ?c12 ?k12 ?a13 ?l13 ?c13 ?k13 ?a14 ?l14 ?c14 ?k14 ?a15 ?l15 ?c15 ?k15 ?a16 ?l16 ?c16 ?k16 ?a17 ?l17 ?c17 ?k17 ?a18 ?l18 ?c18 ?k18 ?a19 ?l19 ?c19 ?k19 ?a20 ?l20 ?c20 ?k20 ?a21 ?l21 ?c21 ?k21 ?a22 ?l22 ?c22 ?k22 ?a23 ?l23 ?c23 ?k23 ?xa0 ?xi0 ?xk0 ?xb0 ?xt0 ?xc0 ?xa1 ?xi1 ?xk1 ?xb1 ?xt1 ?xc1 ?xs0_0 ?xs0_1 ?xs1_0 ?xs1_1 ?m0 ?m1 ?m2 ?m3 ?z0 ?z1 ?z2 ?z3 ?z4 ?z5 ?z6 ?z7 ?z8 ?z9 ?z10 ?z11 ?z12 ?z13 ?z14 ?z15 ?z16 ?z17 ?z18 ?z19
    (case a0 => k_is)
    (case l0 => k_is)
    (case c0 => k_is)
    (case k0 => k_is)
    (case a1 => k_is)
    (case l1 => k_is)
    (case c1 => k_is)
    (case k1 => k_is)
    (case a2 => k_is)
    (case l2 => k_is)
    (case c2 => k_is)
    (case k2 => k_is)
    (case a3 => k_is)
    (case l3 => k_is)
    (case c3 => k_is)
    (case k3 => k_is)
    (case a4 => k_is)
    (case l4 => k_is)
    (case c4 => k_is)
    (case k4 => k_is)
    (case a5 => k_is)
    (case l5 => k_is)
    (case c5 => k_is)
    (case k5 => k_is)
    (case a6 => k_is)
    (case l6 => k_is)
    (case c6 => k_is)
    (case k6 => k_is)
    (case a7 => k_is)
    (case l7 => k_is)
    (case c7 => k_is)
    (case k7 => k_is)
    (case a8 => k_is)
    (case l8 => k_is)
    (case c8 => k_is)
    (case k8 => k_is)
    (case a9 => k_is)
    (case l9 => k_is)
    (case c9 => k_is)
    (case k9 => k_is)
    (case a10 => k_is)
    (case l10 => k_is)
    (case c10 => k_is)
    (case k10 => k_is)
    (case a11 => k_is)
    (case l11 => k_is)
    (case c11 => k_is)
    (case k11 => k_is)
    (case a12 => k_is)
    (case l12 => k_is)
    (case c12 => k_is)
    (case k12 => k_is)
    (case a13 => k_is)
    (case l13 => k_is)
    (case c13 => k_is)
    (case k13 => k_is)
    (case a14 => k_is)
    (case l14 => k_is)
    (case c14 => k_is)
    (case k14 => k_is)
    (case a15 => k_is)
    (case l15 => k_is)
    (case c15 => k_is)
    (case k15 => k_is)
    (case a16 => k_is)
    (case l16 => k_is)
    (case c16 => k_is)
    (case k16 => k_is)
    (case a17 => k_is)
    (case l17 => k_is)
    (case c17 => k_is)
    (case k17 => k_is)
    (case a18 => k_is)
    (case l18 => k_is)
    (case c18 => k_is)
    (case k18 => k_is)
    (case a19 => k_is)
    (case l19 => k_is)
    (case c19 => k_is)
    (case k19 => k_is)
    (case a20 => k_is)
    (case l20 => k_is)
    (case c20 => k_is)
    (case k20 => k_is)
    (case a21 => k_is)
    (case l21 => k_is)
    (case c21 => k_is)
    (case k21 => k_is)
    (case a22 => k_is)
    (case l22 => k_is)
    (case c22 => k_is)
    (case k22 => k_is)
    (case a23 => k_is)
    (case l23 => k_is)
    (case c23 => k_is)
    (case k23 => k_is)
    (case xa0 => k_is)
    (case xi0 => k_exc)
    (case xk0 => k_is)
    (case xb0 => k_is)
    (case xt0 => k_is)
    (case xc0 => k_is)
    (case xa1 => k_is)
    (case xi1 => k_exc)
    (case xk1 => k_is)
    (case xb1 => k_is)
    (case xt1 => k_is)
    (case xc1 => k_is)
    (case xs0_0 => first | rfl | k_is)
    (case xs0_1 => first | rfl | k_is)
    (case xs1_0 => first | rfl | k_is)
    (case xs1_1 => first | rfl | k_is)
    (case m0 => k_is)
    (case m1 => k_is)
    (case m2 => k_is)
    (case m3 => k_is)
    (case z0 => k_is)
    (case z1 => k_is)
    (case z2 => k_is)
    (case z3 => k_is)
    (case z4 => k_is)
    (case z5 => k_is)
    (case z6 => k_is)
    (case z7 => k_is)
    (case z8 => k_is)
    (case z9 => k_is)
    (case z10 => k_is)
    (case z11 => k_is)
    (case z12 => k_is)
    (case z13 => k_is)
    (case z14 => k_is)
    (case z15 => k_is)
    (case z16 => k_is)
    (case z17 => k_is)
    (case z18 => k_is)
    (case z19 => k_is)

