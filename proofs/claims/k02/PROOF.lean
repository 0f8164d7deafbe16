import PyProof.Rows.All
import Wide.All
import OpenK.AllK
import Wide.FinOn
import HandS.ForMost
import HandS.ForExc
import HandS.Wide
import HandS.Zip
import HandS.IsInst
import HandS.Star
import HandS.TupAny
import HandS.TupMul
import HandS.SortInts
import HandS.Rev
import HandS.Walk
import HandS.Conv
import HandS.Deep
import HandS.Style
import HandS.More
import HandS.Lambda
import KE.KExcSuper
import KE.OsGo
import HandS.SetFor
import HandS.Strs
import KE.GoesMore
import KE.GoesEnum
import HandS.ExcOwn
import PyProof.ReprReads
import PyProof.ReprRoads
import PyProof.ReprLen
import KE.SortData
import KE.DatumOrd
import KE.KTupSum
import HandS.EndTab
import KE.KNestM
import HandS.Small
import HandS.WordsDict
import PySem.Challenge.RW_bodiesalike_k02_powers_tails_and_rings
set_option Elab.async false
set_option linter.all false
set_option maxRecDepth 100000
set_option maxHeartbeats 2000003
/-! Z: data, results, the typed readings -/
namespace Z
open PySem PySem.Spec L2

/-! ### data -/
/-- the keys of a dict: ints, tuples of ints -/
inductive DKy where
  | I (ks : List Int) | T (ks : List (List Int))
def DKy.obj : DKy → List V → HO
  | .I ks, vs => .dK ((ks.map Sum.inl).zip vs)
  | .T ks, vs => .dT ((ks.map fun k => k.map Sum.inl).zip vs)
def DKy.len : DKy → Nat
  | .I ks => ks.length
  | .T ks => ks.length
inductive D where
  | non | bl (b : Bool) | int (i : Int) | str (s : Str) | tup (l : List D) | lst (l : List D) | dct | scr (l : List Int)
  | obj (C : Addr) (ns : List Str) (l : List D) | dk (k : DKy) (l : List D)

class Py (α : Type) where
  toD : α → D
open Py (toD)
instance : Py D := ⟨id⟩
instance : Py Int := ⟨.int⟩
instance : Py Bool := ⟨.bl⟩
instance : Py Str := ⟨.str⟩
instance : Py Unit := ⟨fun _ => .non⟩
structure Tup (α : Type) where
  l : List α
structure T3 (α β γ : Type) where
  a : α
  b : β
  c : γ
structure T4 (α β γ δ : Type) where
  a : α
  b : β
  c : γ
  d : δ
instance {α β γ δ} [Py α] [Py β] [Py γ] [Py δ] : Py (T4 α β γ δ) := ⟨fun p => .tup [toD p.a, toD p.b, toD p.c, toD p.d]⟩
instance {α β} [Py α] [Py β] : Py (α × β) := ⟨fun p => .tup [toD p.1, toD p.2]⟩
instance {α β γ} [Py α] [Py β] [Py γ] : Py (T3 α β γ) := ⟨fun p => .tup [toD p.a, toD p.b, toD p.c]⟩
instance {α} [Py α] : Py (List α) := ⟨fun l => .lst (l.map toD)⟩
instance {α} [Py α] : Py (Tup α) := ⟨fun t => .tup (t.l.map toD)⟩
instance {α} [Py α] : Py (Option α) := ⟨fun o => match o with | none => .non | some a => toD a⟩

/-! ### results -/
structure Ex where
  tag : String
  at_ : D
structure W (α : Type) where
  wp : (α → Prop) → (Ex → Prop) → Prop
  mono : ∀ {Q Q' : α → Prop} {E E' : Ex → Prop}, (∀ a, Q a → Q' a) → (∀ e, E e → E' e) → wp Q E → wp Q' E'
namespace W
variable {α β γ δ : Type}
theorem ext' {a b : W α} (h : ∀ Q E, a.wp Q E ↔ b.wp Q E) : a = b := by
  obtain ⟨f, hf⟩ := a
  obtain ⟨g, hg⟩ := b
  have : f = g := by
    funext Q E
    exact propext (h Q E)
  subst this
  rfl
def pure (a : α) : W α := ⟨fun Q _ => Q a, fun h _ q => h _ q⟩
def bind (m : W α) (k : α → W β) : W β := ⟨fun Q E => m.wp (fun a => (k a).wp Q E) E, fun h h' q => m.mono (fun a z => (k a).mono h h' z) h' q⟩
def raise (t : String) (d : D) : W α := ⟨fun _ E => E ⟨t, d⟩, fun _ h q => h _ q⟩
def stuck : W α := ⟨fun _ _ => False, fun _ _ q => q⟩
/-- a guard -/
def need (p : Prop) (a : α) : W α := ⟨fun Q _ => p ∧ Q a, fun h _ q => ⟨q.1, h _ q.2⟩⟩
/-- any value with p -/
def any (p : α → Prop) : W α := ⟨fun Q _ => ∀ a, p a → Q a, fun h _ q a z => h _ (q a z)⟩
def b1 (m : W α) (f : α → W β) : W β := m.bind f
def b2 (m : W α) (n : W β) (f : α → β → W γ) : W γ := m.bind fun a => n.bind fun b => f a b
def b3 (m : W α) (n : W β) (o : W γ) (f : α → β → γ → W δ) : W δ := m.bind fun a => n.bind fun b => o.bind fun c => f a b c
def ite (c : W Bool) (a b : W α) : W α := c.bind fun x => bif x then a else b
def and (c d : W Bool) : W Bool := c.bind fun x => bif x then d else pure false
def or (c d : W Bool) : W Bool := c.bind fun x => bif x then pure true else d
def not (c : W Bool) : W Bool := c.bind fun x => pure (!x)
@[simp] theorem wp_pure (a : α) (Q E) : (pure a).wp Q E = Q a := rfl
@[simp] theorem wp_bind (m : W α) (k : α → W β) (Q E) : (m.bind k).wp Q E = m.wp (fun a => (k a).wp Q E) E := rfl
@[simp] theorem pure_bind (a : α) (k : α → W β) : (pure a).bind k = k a := rfl
@[simp] theorem bind_pure (m : W α) : m.bind pure = m := rfl
@[simp] theorem bind_bind (m : W α) (k : α → W β) (l : β → W γ) : (m.bind k).bind l = m.bind fun a => (k a).bind l := rfl
@[simp] theorem raise_bind (t d) (k : α → W β) : (raise t d : W α).bind k = raise t d := rfl
end W

/-! ### loops -/
/-- how a turn, a block ends -/
inductive Fl (τ β ρ : Type) where
  | nx (t : τ) | bk (b : β) | rt (r : ρ)
inductive Lp (τ ρ : Type) where
  | dn (t : τ) | rt (r : ρ)
namespace W
variable {α β γ τ ρ : Type}
/-- a loop that neither is left nor returns -/
def forW : List α → (α → τ → W τ) → τ → W τ
  | [], _, t => pure t
  | x :: xs, f, t => (f x t).bind fun t' => forW xs f t'
def forF : List α → (α → τ → W (Fl τ τ ρ)) → τ → W (Lp τ ρ)
  | [], _, t => pure (.dn t)
  | x :: xs, f, t => (f x t).bind fun z => match z with
    | .nx t' => forF xs f t'
    | .bk t' => pure (.dn t')
    | .rt r => pure (.rt r)
/-- the rest behind a loop that may return -/
def thenR (m : W (Lp τ ρ)) (k : τ → W ρ) : W ρ := m.bind fun z => match z with
  | .dn t => k t
  | .rt r => pure r
def thenF {σ β} (m : W (Lp τ ρ)) (k : τ → W (Fl σ β ρ)) : W (Fl σ β ρ) := m.bind fun z => match z with
  | .dn t => k t
  | .rt r => pure (.rt r)
/-- a while: some number of turns is enough -/
def whN (c : τ → W Bool) (b : τ → W τ) : Nat → τ → W τ
  | 0, _ => stuck
  | n + 1, t => (c t).bind fun x => bif x then (b t).bind (whN c b n) else pure t
def whF (c : τ → W Bool) (b : τ → W (Fl τ τ ρ)) : Nat → τ → W (Lp τ ρ)
  | 0, _ => stuck
  | n + 1, t => (c t).bind fun x => bif x then (b t).bind (fun z => match z with
      | .nx t' => whF c b n t'
      | .bk t' => pure (.dn t')
      | .rt r => pure (.rt r)) else pure (.dn t)
def some_ (f : Nat → W α) : W α := ⟨fun Q E => ∃ n, (f n).wp Q E, fun h h' ⟨n, q⟩ => ⟨n, (f n).mono h h' q⟩⟩
def whileW (c : τ → W Bool) (b : τ → W τ) (t : τ) : W τ := some_ fun n => whN c b n t
def whileF (c : τ → W Bool) (b : τ → W (Fl τ τ ρ)) (t : τ) : W (Lp τ ρ) := some_ fun n => whF c b n t
theorem whN_by {c : τ → W Bool} {b : τ → W τ} {Q E} (I : τ → Prop) (μ : τ → Nat)
    (hs : ∀ t, I t → (c t).wp (fun x => bif x then (b t).wp (fun t' => I t' ∧ μ t' < μ t) E else Q t) E) : ∀ n t, μ t < n → I t → (whN c b n t).wp Q E
  | 0, t, h, _ => absurd h (by omega)
  | n + 1, t, h, hi => by
    refine (c t).mono (fun x y => ?_) (fun _ e => e) (hs t hi)
    cases x with
    | true => exact (b t).mono (fun w y => whN_by I μ hs n w (by have := y.2; omega) y.1) (fun _ e => e) y
    | false => exact y
/-- a while by a word and a measure -/
theorem whileW_by {c : τ → W Bool} {b : τ → W τ} {Q E} (I : τ → Prop) (μ : τ → Nat) (t : τ) (h0 : I t)
    (hs : ∀ t, I t → (c t).wp (fun x => bif x then (b t).wp (fun t' => I t' ∧ μ t' < μ t) E else Q t) E) : (whileW c b t).wp Q E :=
  ⟨μ t + 1, whN_by I μ hs _ t (Nat.lt_succ_self _) h0⟩
theorem whF_by {c : τ → W Bool} {b : τ → W (Fl τ τ ρ)} {Q E} (I : τ → Prop) (μ : τ → Nat)
    (hs : ∀ t, I t → (c t).wp (fun x => bif x then (b t).wp (fun z => match z with
      | .nx t' => I t' ∧ μ t' < μ t
      | .bk t' => Q (.dn t')
      | .rt r => Q (.rt r)) E else Q (.dn t)) E) : ∀ n t, μ t < n → I t → (whF c b n t).wp Q E
  | 0, t, h, _ => absurd h (by omega)
  | n + 1, t, h, hi => by
    refine (c t).mono (fun x y => ?_) (fun _ e => e) (hs t hi)
    cases x with
    | true =>
      refine (b t).mono (fun w y => ?_) (fun _ e => e) y
      cases w with
      | nx t' => exact whF_by I μ hs n t' (by have := y.2; omega) y.1
      | bk t' => exact y
      | rt r => exact y
    | false => exact y
theorem whileF_by {c : τ → W Bool} {b : τ → W (Fl τ τ ρ)} {Q E} (I : τ → Prop) (μ : τ → Nat) (t : τ) (h0 : I t)
    (hs : ∀ t, I t → (c t).wp (fun x => bif x then (b t).wp (fun z => match z with
      | .nx t' => I t' ∧ μ t' < μ t
      | .bk t' => Q (.dn t')
      | .rt r => Q (.rt r)) E else Q (.dn t)) E) : (whileF c b t).wp Q E := ⟨μ t + 1, whF_by I μ hs _ t (Nat.lt_succ_self _) h0⟩
/-- a comprehension -/
def mapW (f : α → W β) : List α → W (List β)
  | [] => pure []
  | x :: xs => (f x).bind fun y => (mapW f xs).bind fun ys => pure (y :: ys)
def filterW (p : α → W Bool) (f : α → W β) : List α → W (List β)
  | [] => pure []
  | x :: xs => (p x).bind fun b => bif b then (f x).bind fun y => (filterW p f xs).bind fun ys => pure (y :: ys) else filterW p f xs
theorem mapW_pure (f : α → W β) (g : α → β) : ∀ xs, (∀ x ∈ xs, f x = pure (g x)) → mapW f xs = pure (xs.map g)
  | [], _ => rfl
  | x :: xs, h => by
    show (f x).bind _ = _
    rw [h x (by simp), pure_bind, mapW_pure f g xs fun y hy => h y (by simp [hy])]
    rfl
theorem filterW_pure (p : α → W Bool) (f : α → W β) (q : α → Bool) (g : α → β) : ∀ xs, (∀ x ∈ xs, p x = pure (q x)) → (∀ x ∈ xs, q x = true → f x = pure (g x)) → filterW p f xs = pure ((xs.filter q).map g)
  | [], _, _ => rfl
  | x :: xs, h, h' => by
    show (p x).bind _ = _
    rw [h x (by simp), pure_bind]
    have ih := filterW_pure p f q g xs (fun y hy => h y (by simp [hy])) (fun y hy => h' y (by simp [hy]))
    cases e : q x with
    | true =>
      rw [cond_true, h' x (by simp) e, pure_bind, ih, List.filter_cons_of_pos e]
      rfl
    | false =>
      rw [cond_false, ih, List.filter_cons_of_neg (by simp [e])]
end W

/-! ### what a value stands for -/
mutual
def Den (G : Hp) : D → V → Prop
  | .non, v => v = .non
  | .bl b, v => v = .bl b
  | .int i, v => v = .int i
  | .str s, v => v = .str s
  | .tup l, v => ∃ a vs, v = .ref a ∧ G a = some (.tup vs) ∧ DenL G l vs ∧ l.length ≤ 16777216
  | .lst l, v => ∃ a vs, v = .ref a ∧ G a = some (.lst vs) ∧ DenL G l vs ∧ l.length ≤ 16777216
  | .dct, v => ∃ a, v = .ref a ∧ G a = some (.dK [])
  | .scr l, v => ∃ a o, v = .ref a ∧ G a = some (.frz o (.lst (l.map V.int)))
  | .obj C ns l, v => ∃ a dx vs, v = .ref a ∧ G a = some (.ins C dx (ns.zip vs)) ∧ ns.length = vs.length ∧ DenL G l vs
  | .dk k l, v => ∃ a vs, v = .ref a ∧ G a = some (k.obj vs) ∧ DenL G l vs ∧ k.len = l.length ∧ l.length ≤ 16777216
def DenL (G : Hp) : List D → List V → Prop
  | [], vs => vs = []
  | d :: l, vs => ∃ v r, vs = v :: r ∧ Den G d v ∧ DenL G l r
end
mutual
theorem Den.mono {G G' : Hp} (h : Same G G') : ∀ (d : D) (v : V), Den G d v → Den G' d v
  | .non, v, q => by simp only [Den] at q ⊢; exact q
  | .bl b, v, q => by simp only [Den] at q ⊢; exact q
  | .int i, v, q => by simp only [Den] at q ⊢; exact q
  | .str s, v, q => by simp only [Den] at q ⊢; exact q
  | .tup l, v, q => by
    simp only [Den] at q ⊢
    obtain ⟨a, vs, e, g, t, z⟩ := q
    exact ⟨a, vs, e, h _ _ g, DenL.mono h l vs t, z⟩
  | .lst l, v, q => by
    simp only [Den] at q ⊢
    obtain ⟨a, vs, e, g, t, z⟩ := q
    exact ⟨a, vs, e, h _ _ g, DenL.mono h l vs t, z⟩
  | .dct, v, q => by
    simp only [Den] at q ⊢
    obtain ⟨a, e, g⟩ := q
    exact ⟨a, e, h _ _ g⟩
  | .scr l, v, q => by
    simp only [Den] at q ⊢
    obtain ⟨a, o, e, g⟩ := q
    exact ⟨a, o, e, h _ _ g⟩
  | .obj C ns l, v, q => by
    simp only [Den] at q ⊢
    obtain ⟨a, dx, vs, e, g, z, t⟩ := q
    exact ⟨a, dx, vs, e, h _ _ g, z, DenL.mono h l vs t⟩
  | .dk k l, v, q => by
    simp only [Den] at q ⊢
    obtain ⟨a, vs, e, g, t, z⟩ := q
    exact ⟨a, vs, e, h _ _ g, DenL.mono h l vs t, z⟩
theorem DenL.mono {G G' : Hp} (h : Same G G') : ∀ (l : List D) (vs : List V), DenL G l vs → DenL G' l vs
  | [], vs, q => by simp only [DenL] at q ⊢; exact q
  | d :: l, vs, q => by
    simp only [DenL] at q ⊢
    obtain ⟨v, r, e, a, b⟩ := q
    exact ⟨v, r, e, Den.mono h d v a, DenL.mono h l r b⟩
end
theorem den_int {G : Hp} {i : Int} {v : V} : Den G (toD i) v ↔ v = .int i := by
  show Den G (.int i) v ↔ _
  simp only [Den]
theorem den_bool {G : Hp} {i : Bool} {v : V} : Den G (toD i) v ↔ v = .bl i := by
  show Den G (.bl i) v ↔ _
  simp only [Den]
theorem den_str {G : Hp} {i : Str} {v : V} : Den G (toD i) v ↔ v = .str i := by
  show Den G (.str i) v ↔ _
  simp only [Den]
theorem den_unit {G : Hp} {i : Unit} {v : V} : Den G (toD i) v ↔ v = .non := by
  show Den G .non v ↔ _
  simp only [Den]
theorem den_list {α} [Py α] {G : Hp} {l : List α} {v : V} : Den G (toD l) v ↔ ∃ a vs, v = .ref a ∧ G a = some (.lst vs) ∧ DenL G (l.map toD) vs ∧ l.length ≤ 16777216 := by
  show Den G (.lst _) v ↔ _
  simp only [Den, List.length_map]
theorem den_tup {α} [Py α] {G : Hp} {l : Tup α} {v : V} : Den G (toD l) v ↔ ∃ a vs, v = .ref a ∧ G a = some (.tup vs) ∧ DenL G (l.l.map toD) vs ∧ l.l.length ≤ 16777216 := by
  show Den G (.tup _) v ↔ _
  simp only [Den, List.length_map]
theorem DenL.nil_iff {G : Hp} {vs : List V} : DenL G [] vs ↔ vs = [] := by simp only [DenL]
theorem DenL.cons_iff {G : Hp} {d : D} {l : List D} {vs : List V} : DenL G (d :: l) vs ↔ ∃ v r, vs = v :: r ∧ Den G d v ∧ DenL G l r := by simp only [DenL]
theorem DenL.length {G : Hp} : ∀ {l : List D} {vs : List V}, DenL G l vs → vs.length = l.length
  | [], vs, h => by rw [DenL.nil_iff] at h; rw [h]; rfl
  | d :: l, vs, h => by
    obtain ⟨v, r, rfl, _, t⟩ := DenL.cons_iff.mp h
    simp [DenL.length t]
theorem DenL.get {G : Hp} : ∀ {l : List D} {vs : List V} {i : Nat} {d : D}, DenL G l vs → l[i]? = some d → ∃ v, vs[i]? = some v ∧ Den G d v
  | [], vs, i, d, h, e => by simp at e
  | c :: l, vs, 0, d, h, e => by
    obtain ⟨v, r, rfl, q, t⟩ := DenL.cons_iff.mp h
    simp at e
    subst e
    exact ⟨v, rfl, q⟩
  | c :: l, vs, i + 1, d, h, e => by
    obtain ⟨v, r, rfl, q, t⟩ := DenL.cons_iff.mp h
    obtain ⟨w, e2, q2⟩ := DenL.get (i := i) t (by simpa using e)
    exact ⟨w, by simpa using e2, q2⟩
theorem DenL.append {G : Hp} : ∀ {l m : List D} {vs ws : List V}, DenL G l vs → DenL G m ws → DenL G (l ++ m) (vs ++ ws)
  | [], m, vs, ws, h, h' => by rw [DenL.nil_iff] at h; subst h; exact h'
  | d :: l, m, vs, ws, h, h' => by
    obtain ⟨v, r, rfl, q, t⟩ := DenL.cons_iff.mp h
    exact DenL.cons_iff.mpr ⟨v, r ++ ws, rfl, q, DenL.append t h'⟩
theorem DenL.one {G : Hp} {d : D} {v : V} (h : Den G d v) : DenL G [d] [v] := DenL.cons_iff.mpr ⟨v, [], rfl, h, DenL.nil_iff.mpr rfl⟩
theorem DenL.drop {G : Hp} : ∀ (n : Nat) {l : List D} {vs : List V}, DenL G l vs → DenL G (l.drop n) (vs.drop n)
  | 0, _, _, h => h
  | n + 1, [], vs, h => by rw [DenL.nil_iff] at h; subst h; exact DenL.nil_iff.mpr rfl
  | n + 1, d :: l, vs, h => by
    obtain ⟨v, r, rfl, q, t⟩ := DenL.cons_iff.mp h
    exact DenL.drop n t
theorem DenL.take {G : Hp} : ∀ (n : Nat) {l : List D} {vs : List V}, DenL G l vs → DenL G (l.take n) (vs.take n)
  | 0, _, _, h => DenL.nil_iff.mpr rfl
  | n + 1, [], vs, h => by rw [DenL.nil_iff] at h; subst h; exact DenL.nil_iff.mpr rfl
  | n + 1, d :: l, vs, h => by
    obtain ⟨v, r, rfl, q, t⟩ := DenL.cons_iff.mp h
    exact DenL.cons_iff.mpr ⟨v, r.take n, rfl, q, DenL.take n t⟩
theorem DenL.set {G : Hp} {d : D} {v : V} (hd : Den G d v) : ∀ (i : Nat) {l : List D} {vs : List V}, DenL G l vs → DenL G (l.set i d) (vs.set i v)
  | i, [], vs, h => by rw [DenL.nil_iff] at h; subst h; exact DenL.nil_iff.mpr rfl
  | 0, c :: l, vs, h => by
    obtain ⟨w, r, rfl, q, t⟩ := DenL.cons_iff.mp h
    exact DenL.cons_iff.mpr ⟨v, r, rfl, hd, t⟩
  | i + 1, c :: l, vs, h => by
    obtain ⟨w, r, rfl, q, t⟩ := DenL.cons_iff.mp h
    exact DenL.cons_iff.mpr ⟨w, r.set i v, rfl, q, DenL.set hd i t⟩
theorem DenL.ints {G : Hp} : ∀ {l : List Int} {vs : List V}, DenL G (l.map toD) vs ↔ vs = l.map V.int
  | [], vs => by simp [DenL.nil_iff]
  | i :: l, vs => by
    rw [List.map_cons, DenL.cons_iff, List.map_cons]
    constructor
    · rintro ⟨v, r, rfl, q, t⟩
      rw [den_int.mp q, DenL.ints.mp t]
    · rintro rfl
      exact ⟨_, _, rfl, den_int.mpr rfl, DenL.ints.mpr rfl⟩
theorem DenL.bools {G : Hp} : ∀ {l : List Bool} {vs : List V}, DenL G (l.map toD) vs ↔ vs = l.map V.bl
  | [], vs => by simp [DenL.nil_iff]
  | i :: l, vs => by
    rw [List.map_cons, DenL.cons_iff, List.map_cons]
    constructor
    · rintro ⟨v, r, rfl, q, t⟩
      rw [den_bool.mp q, DenL.bools.mp t]
    · rintro rfl
      exact ⟨_, _, rfl, den_bool.mpr rfl, DenL.bools.mpr rfl⟩
end Z

set_option autoImplicit false
set_option Elab.async false
set_option linter.all false
set_option maxRecDepth 100000
set_option maxHeartbeats 2000003
namespace Z
open PySem PySem.Spec L2
open Py (toD)

/-! ### the state of a def -/
structure Wd where
  prog : Program
  w : World
  K : PySem.W.Frag
  mg : Str → Option Value
  base : Heap
  cm : String → Option Addr
structure Par where
  u : Wd
  b : Bool
  da : Addr
  dq : Addr
  H0 : Hp
  G0 : Hp
  tb : List (Addr × Str)
def DealAt (da dq : Addr) (H : Hp) : Prop := da ≠ dq ∧ ∃ (xs : List Int) (n : Int), H da = some (.lst [.ref dq, .int n]) ∧ H dq = some (.lst (xs.map V.int)) ∧ 0 ≤ n ∧ n < 2147483647 ∧ xs.length ≤ 63 ∧ ∀ x ∈ xs, 0 ≤ x
def Par.dl (P : Par) (a : Addr) : Prop := P.b = true ∧ (a = P.da ∨ a = P.dq ∨ a ∈ P.tb.map (·.1))
/-- the deal, and the tables of code objects of the lambdas -/
def DkAt (P : Par) (H : Hp) : Prop := DealAt P.da P.dq H ∧ LamX.Tabs P.tb H
theorem tabs_nil (H : Hp) : LamX.Tabs [] H := fun p hp => by cases hp
theorem tabs_keep {T : List (Addr × Str)} {H H' : Hp} (t : LamX.Tabs T H) (k : ∀ b o, H b = some o → (∀ xs, o ≠ .lst xs) → H' b = some o) : LamX.Tabs T H' := fun p hp => by
  obtain ⟨ps, h1, h2, h3⟩ := t p hp
  refine ⟨ps, k _ _ h1 fun xs z => (by cases z), h2, fun pos cv hc => ?_⟩
  obtain ⟨c, e1, e2⟩ := h3 pos cv hc
  exact ⟨c, e1, k _ _ e2 fun xs z => (by unfold LamX.CodeO at z; cases z)⟩
theorem tabs_upd {T : List (Addr × Str)} {H : Hp} {p : Addr} {o u : HO} (t : LamX.Tabs T H) (hp : H p = some o) (h1 : ∀ ps, o ≠ .tbl ps) (h2 : ∀ c q, o ≠ LamX.CodeO c q) : LamX.Tabs T (upd H p u) := fun r hr => by
  obtain ⟨ps, a1, a2, a3⟩ := t r hr
  refine ⟨ps, ?_, a2, fun pos cv hc => ?_⟩
  · rw [upd_ne fun z => h1 ps (Option.some.inj (hp.symm.trans ((congrArg H z).symm.trans a1)))]
    exact a1
  · obtain ⟨c, e1, e2⟩ := a3 pos cv hc
    refine ⟨c, e1, ?_⟩
    rw [upd_ne fun z => h2 c r.2 (Option.some.inj (hp.symm.trans ((congrArg H z).symm.trans e2)))]
    exact e2
def Sub (G H : Hp) : Prop := ∀ b o, G b = some o → H b = some o
structure RelB (P : Par) (G H : Hp) : Prop where
  sub : Sub G H
  fr : ∀ b o, P.H0 b = some o → ¬ P.dl b → H b = some o
  gr : Same P.G0 G
  ng : ∀ b o, P.H0 b = some o → P.G0 b = none → G b = none
  dk : P.b = true → DkAt P H
  gd : ∀ b, P.dl b → G b = none
  nt : ∀ b ps, H b = some (.tbl ps) → ∃ ps', P.H0 b = some (.tbl ps')
/-- what kind of thing of one's own: a list, a dict by its keys -/
inductive OK where
  | lst | dk (k : DKy) | pin (p : Addr)
def OK.obj : OK → List V → HO
  | .lst, vs => .lst vs
  | .pin _, vs => .lst vs
  | .dk k, vs => k.obj vs
/-- where it lies, if that is known -/
def OK.okAt : OK → Addr → Prop
  | .pin q, p => p = q
  | _, _ => True
theorem DKy.no_tbl (k : DKy) (vs : List V) : ∀ ps, k.obj vs ≠ .tbl ps := fun ps z => by cases k <;> cases z
theorem DKy.no_code (k : DKy) (vs : List V) : ∀ c q, k.obj vs ≠ LamX.CodeO c q := fun c q z => by unfold LamX.CodeO at z; cases k <;> cases z
theorem OK.no_tbl (k : OK) (vs : List V) : ∀ ps, k.obj vs ≠ .tbl ps := fun ps z => by
  cases k with
  | lst => cases z
  | pin _ => cases z
  | dk k => exact k.no_tbl vs ps z
theorem OK.no_code (k : OK) (vs : List V) : ∀ c q, k.obj vs ≠ LamX.CodeO c q := fun c q z => by
  cases k with
  | lst => unfold LamX.CodeO at z; cases z
  | pin _ => unfold LamX.CodeO at z; cases z
  | dk k => exact k.no_code vs c q z
theorem lst_no_tbl (xs : List V) : ∀ ps, HO.lst xs ≠ .tbl ps := OK.no_tbl .lst xs
theorem lst_no_code (xs : List V) : ∀ c q, HO.lst xs ≠ LamX.CodeO c q := OK.no_code .lst xs
inductive Sl where
  | un | dat (d : D) | ownK (k : OK) (l : List D) | deal | vl (v : V)
abbrev Sl.own (l : List D) : Sl := .ownK .lst l
def SlOk (P : Par) (G H : Hp) : Sl → Option V → Prop
  | .un, _ => True
  | .dat d, o => ∃ v, o = some v ∧ Den G d v
  | .ownK k l, o => ∃ p vs, o = some (.ref p) ∧ H p = some (k.obj vs) ∧ G p = none ∧ P.H0 p = none ∧ ¬ P.dl p ∧ DenL G l vs ∧ l.length ≤ 16777216 ∧ k.okAt p
  | .deal, o => P.b = true ∧ o = some (.ref P.da)
  | .vl v, o => o = some v
structure Rel (P : Par) (Γ : List Sl) (σ : L2.St) (G H : Hp) : Prop extends RelB P G H where
  len : σ.length = Γ.length
  slots : ∀ (i : Nat) (s : Sl), Γ[i]? = some s → ∃ o, σ[i]? = some o ∧ SlOk P G H s o
  sep : ∀ {k k' : OK} (i j : Nat) (p : Addr) (l m : List D), i ≠ j → Γ[i]? = some (.ownK k l) → Γ[j]? = some (.ownK k' m) → σ[i]? = some (some (.ref p)) → σ[j]? = some (some (.ref p)) → False
/-- the heap grows -/
structure Grow (P : Par) (G H G' H' : Hp) : Prop where
  g : Same G G'
  s : Sub G' H'
  h : ∀ b o, H b = some o → ¬ P.dl b → H' b = some o
  n : ∀ b o, H b = some o → G b = none → G' b = none
  d : P.b = true → DkAt P H'
  t : ∀ b ps, H' b = some (.tbl ps) → ∃ ps', H b = some (.tbl ps')
theorem Grow.trans {P : Par} {G H G1 H1 G2 H2 : Hp} (a : Grow P G H G1 H1) (b : Grow P G1 H1 G2 H2) (k : ∀ b, P.dl b → ∃ o, H1 b = some o) : Grow P G H G2 H2 :=
  ⟨fun c o z => b.g c o (a.g c o z), b.s, fun c o z d => b.h c o (a.h c o z d) d, fun c o z n => by
    by_cases q : P.dl c
    · obtain ⟨o', z'⟩ := k c q
      exact b.n c o' z' (a.n c o z n)
    · exact b.n c o (a.h c o z q) (a.n c o z n), b.d, fun c ps z => by
    obtain ⟨qs, z'⟩ := b.t c ps z
    exact a.t c qs z'⟩
theorem DealAt.there {P : Par} {H : Hp} (h : P.b = true → DkAt P H) : ∀ b, P.dl b → ∃ o, H b = some o := by
  rintro b ⟨hb, rfl | rfl | hm⟩
  · obtain ⟨⟨_, xs, n, h1, h2, _⟩, _⟩ := h hb
    exact ⟨_, h1⟩
  · obtain ⟨⟨_, xs, n, h1, h2, _⟩, _⟩ := h hb
    exact ⟨_, h2⟩
  · obtain ⟨p, hp, rfl⟩ := List.mem_map.mp hm
    obtain ⟨ps, h1, _⟩ := (h hb).2 p hp
    exact ⟨_, h1⟩
theorem RelB.grow {P : Par} {G H G' H' : Hp} (r : RelB P G H) (g : Grow P G H G' H') : RelB P G' H' where
  sub := g.s
  fr := fun b o z d => g.h b o (r.fr b o z d) d
  gr := fun b o z => g.g b o (r.gr b o z)
  ng := fun b o z n => by
    by_cases q : P.dl b
    · obtain ⟨o', z'⟩ := DealAt.there r.dk b q
      exact g.n b o' z' (r.ng b o z n)
    · exact g.n b o (r.fr b o z q) (r.ng b o z n)
  dk := g.d
  gd := fun b d => by
    obtain ⟨o', z'⟩ := DealAt.there r.dk b d
    exact g.n b o' z' (r.gd b d)
  nt := fun b ps z => by
    obtain ⟨qs, z'⟩ := g.t b ps z
    exact r.nt b qs z'
theorem SlOk.grow {P : Par} {G H G' H' : Hp} (g : Grow P G H G' H') : ∀ (s : Sl) (o : Option V), SlOk P G H s o → SlOk P G' H' s o
  | .un, _, _ => trivial
  | .dat d, o, ⟨v, e, q⟩ => ⟨v, e, Den.mono g.g d v q⟩
  | .ownK _ l, o, ⟨p, vs, e, h, n, z, d, q, zl⟩ => ⟨p, vs, e, g.h p _ h d, g.n p _ h n, z, d, DenL.mono g.g l vs q, zl⟩
  | .deal, o, h => h
  | .vl v, o, h => h
theorem Rel.grow {P : Par} {Γ : List Sl} {σ : L2.St} {G H G' H' : Hp} (r : Rel P Γ σ G H) (g : Grow P G H G' H') : Rel P Γ σ G' H' :=
  ⟨r.toRelB.grow g, r.len, fun i s e => let ⟨o, z, q⟩ := r.slots i s e; ⟨o, z, SlOk.grow g s o q⟩, r.sep⟩
/-- a new object, frozen at once -/
theorem grow_new {P : Par} {G H : Hp} {p : Addr} {o : HO} (r : RelB P G H) (hp : H p = none) (ho : ∀ ps, o ≠ .tbl ps := by first | exact OK.no_tbl _ _ | exact DKy.no_tbl _ _ | (intro ps z; cases z)) : Grow P G H (upd G p o) (upd H p o) where
  g := fun b u z => by
    rw [upd_ne (ne_of_none (r.sub b u z) hp)]
    exact z
  s := fun b u z => by
    by_cases e : b = p
    · subst e
      rw [upd_same] at z ⊢
      exact z
    · rw [upd_ne e] at z ⊢
      exact r.sub b u z
  h := fun b u z _ => by
    rw [upd_ne (ne_of_none z hp)]
    exact z
  n := fun b u z n => by
    rw [upd_ne (ne_of_none z hp)]
    exact n
  d := fun hb => by
    obtain ⟨⟨h0, xs, n, h1, h2, h3⟩, tt⟩ := r.dk hb
    exact ⟨⟨h0, xs, n, by rw [upd_ne (ne_of_none h1 hp)]; exact h1, by rw [upd_ne (ne_of_none h2 hp)]; exact h2, h3⟩, tt.ext fun b o z => by rw [upd_ne (ne_of_none z hp)]; exact z⟩
  t := fun b ps z => by
    by_cases e : b = p
    · subst e
      rw [upd_same] at z
      exact (ho ps (Option.some.inj z)).elim
    · rw [upd_ne e] at z
      exact ⟨ps, z⟩
/-- a new object, not frozen -/
theorem grow_raw {P : Par} {G H : Hp} {p : Addr} {o : HO} (r : RelB P G H) (hp : H p = none) (ho : ∀ ps, o ≠ .tbl ps := by first | exact OK.no_tbl _ _ | exact DKy.no_tbl _ _ | (intro ps z; cases z)) : Grow P G H G (upd H p o) where
  g := fun b u z => z
  s := fun b u z => by
    have z' := r.sub b u z
    rw [upd_ne (ne_of_none z' hp)]
    exact z'
  h := fun b u z _ => by
    rw [upd_ne (ne_of_none z hp)]
    exact z
  n := fun b u z n => n
  d := (grow_new (o := o) r hp ho).d
  t := fun b ps z => by
    by_cases e : b = p
    · subst e
      rw [upd_same] at z
      exact (ho ps (Option.some.inj z)).elim
    · rw [upd_ne e] at z
      exact ⟨ps, z⟩
/-- an object that is tracked and not frozen is frozen -/
theorem Grow.fz {P : Par} {G H G' H' : Hp} {p : Addr} {o : HO} (g : Grow P G H G' H') (h0 : H p = none) (h1 : G' p = none) (h2 : H' p = some o) : Grow P G H (upd G' p o) H' where
  g := fun b u z => by
    rw [upd_ne (ne_of_none (g.g b u z) h1)]
    exact g.g b u z
  s := fun b u z => by
    by_cases e : b = p
    · subst e
      rw [upd_same] at z
      rw [h2]
      exact z
    · rw [upd_ne e] at z
      exact g.s b u z
  h := g.h
  n := fun b u z n => by
    rw [upd_ne (ne_of_none z h0)]
    exact g.n b u z n
  d := g.d
  t := g.t
theorem Grow.refl {P : Par} {G H : Hp} (r : RelB P G H) : Grow P G H G H := ⟨fun _ _ z => z, r.sub, fun _ _ z _ => z, fun _ _ _ n => n, r.dk, fun _ ps z => ⟨ps, z⟩⟩
theorem RelB.free {P : Par} {G H : Hp} (r : RelB P G H) {p : Addr} (hp : H p = none) : P.H0 p = none ∧ ¬ P.dl p ∧ G p = none := by
  have nd : ¬ P.dl p := fun d => by
    obtain ⟨o, z⟩ := DealAt.there r.dk p d
    rw [hp] at z
    cases z
  refine ⟨?_, nd, ?_⟩
  · cases e : P.H0 p with
    | none => rfl
    | some o =>
      have z := r.fr p o e nd
      rw [hp] at z
      cases z
  · cases e : G p with
    | none => rfl
    | some o =>
      have z := r.sub p o e
      rw [hp] at z
      cases z
theorem nt_upd {P : Par} {G H : Hp} {p : Addr} {o : HO} (R : RelB P G H) (ho : ∀ ps, o ≠ .tbl ps) : ∀ b ps, upd H p o b = some (.tbl ps) → ∃ ps', P.H0 b = some (.tbl ps') := fun b ps z => by
  by_cases e : b = p
  · subst e
    rw [upd_same] at z
    exact (ho ps (Option.some.inj z)).elim
  · rw [upd_ne e] at z
    exact R.nt b ps z
/-- a table of now is one of then -/
theorem RelB.tH {P : Par} {G H G' H' : Hp} (R : RelB P G H) (R' : RelB P G' H') : ∀ b ps, H' b = some (.tbl ps) → ∃ ps', H b = some (.tbl ps') := fun b ps z => by
  obtain ⟨qs, z'⟩ := R'.nt b ps z
  by_cases d : P.dl b
  · obtain ⟨hb, e | e | hm⟩ := d
    · obtain ⟨⟨_, xs, n, h1, _⟩, _⟩ := R'.dk hb
      rw [e, h1] at z
      cases z
    · obtain ⟨⟨_, xs, n, _, h1, _⟩, _⟩ := R'.dk hb
      rw [e, h1] at z
      cases z
    · obtain ⟨p, hp, e⟩ := List.mem_map.mp hm
      obtain ⟨ps2, h1, _⟩ := (R.dk hb).2 p hp
      rw [e] at h1
      exact ⟨ps2, h1⟩
  · exact ⟨qs, R.fr b _ z' d⟩
/-- weaker contexts -/
inductive Wk : List Sl → List Sl → Prop where
  | nil : Wk [] []
  | keep {s a b} : Wk a b → Wk (s :: a) (s :: b)
  | drop {s a b} : Wk a b → Wk (s :: a) (.un :: b)
theorem Wk.length {a b : List Sl} (h : Wk a b) : b.length = a.length := by
  induction h with
  | nil => rfl
  | keep _ ih => simp [ih]
  | drop _ ih => simp [ih]
theorem Wk.get {a b : List Sl} (h : Wk a b) : ∀ (i : Nat) (s : Sl), b[i]? = some s → s = .un ∨ a[i]? = some s := by
  induction h with
  | nil => intro i s e; exact .inr e
  | keep _ ih =>
    intro i s e
    cases i with
    | zero => exact .inr e
    | succ i => exact ih i s e
  | drop _ ih =>
    intro i s e
    cases i with
    | zero => exact .inl (Option.some.inj e).symm
    | succ i => exact ih i s e
theorem Rel.wk {P : Par} {Γ Γ' : List Sl} {σ : L2.St} {G H : Hp} (r : Rel P Γ σ G H) (w : Wk Γ Γ') : Rel P Γ' σ G H where
  toRelB := r.toRelB
  len := by rw [w.length]; exact r.len
  slots := fun i s e => by
    rcases w.get i s e with z | z
    · subst z
      have hi : i < σ.length := by
        rw [r.len, ← w.length]
        exact (List.getElem?_eq_some_iff.mp e).1
      exact ⟨σ[i], by simp [hi], trivial⟩
    · exact r.slots i s z
  sep := fun i j p l m ne e1 e2 => by
    rcases w.get i _ e1 with z | z
    · cases z
    · rcases w.get j _ e2 with z2 | z2
      · cases z2
      · exact r.sep i j p l m ne z z2
/-- a slot is set to a value -/
theorem Rel.set {P : Par} {Γ : List Sl} {σ : L2.St} {G H : Hp} (r : Rel P Γ σ G H) {i : Nat} {d : D} {v : V} (q : Den G d v) : Rel P (Γ.set i (.dat d)) (σ.set i (some v)) G H where
  toRelB := r.toRelB
  len := by rw [List.length_set, List.length_set]; exact r.len
  slots := fun j s e => by
    by_cases h : i = j
    · subst h
      have hi : i < Γ.length := by
        have := (List.getElem?_eq_some_iff.mp e).1
        rwa [List.length_set] at this
      rw [List.getElem?_set_self hi] at e
      cases e
      exact ⟨some v, by rw [List.getElem?_set_self (by rw [r.len]; exact hi)], v, rfl, q⟩
    · rw [List.getElem?_set_ne h] at e ⊢
      exact r.slots j s e
  sep := fun j k p l m ne e1 e2 => by
    by_cases h : i = j
    · subst h
      have hi : i < Γ.length := by
        have := (List.getElem?_eq_some_iff.mp e1).1
        rwa [List.length_set] at this
      rw [List.getElem?_set_self hi] at e1
      cases e1
    · by_cases h' : i = k
      · subst h'
        have hi : i < Γ.length := by
          have := (List.getElem?_eq_some_iff.mp e2).1
          rwa [List.length_set] at this
        rw [List.getElem?_set_self hi] at e2
        cases e2
      · rw [List.getElem?_set_ne h] at e1
        rw [List.getElem?_set_ne h'] at e2
        rw [List.getElem?_set_ne h, List.getElem?_set_ne h']
        exact r.sep j k p l m ne e1 e2
/-- a slot is set to a thing of its own -/
theorem Rel.setOwnK {P : Par} {Γ : List Sl} {σ : L2.St} {G H : Hp} (r : Rel P Γ σ G H) (ko : OK) {i : Nat} {l : List D} {p : Addr} {vs : List V} (h1 : H p = some (ko.obj vs)) (h2 : G p = none) (h3 : P.H0 p = none) (h4 : ¬ P.dl p) (q : DenL G l vs) (zl : l.length ≤ 16777216) (ha : ko.okAt p)
    (h5 : ∀ {k : OK} (j : Nat) (m : List D), Γ[j]? = some (.ownK k m) → σ[j]? ≠ some (some (.ref p))) : Rel P (Γ.set i (.ownK ko l)) (σ.set i (some (.ref p))) G H where
  toRelB := r.toRelB
  len := by rw [List.length_set, List.length_set]; exact r.len
  slots := fun j s e => by
    by_cases h : i = j
    · subst h
      have hi : i < Γ.length := by
        have := (List.getElem?_eq_some_iff.mp e).1
        rwa [List.length_set] at this
      rw [List.getElem?_set_self hi] at e
      cases e
      exact ⟨some (.ref p), by rw [List.getElem?_set_self (by rw [r.len]; exact hi)], p, vs, rfl, h1, h2, h3, h4, q, zl, ha⟩
    · rw [List.getElem?_set_ne h] at e ⊢
      exact r.slots j s e
  sep := fun j k x l' m ne e1 e2 z1 z2 => by
    by_cases h : i = j
    · subst h
      have hi : i < Γ.length := by
        have := (List.getElem?_eq_some_iff.mp e1).1
        rwa [List.length_set] at this
      rw [List.getElem?_set_self (by rw [r.len]; exact hi)] at z1
      cases z1
      rw [List.getElem?_set_ne ne] at e2 z2
      exact h5 k m e2 z2
    · by_cases h' : i = k
      · subst h'
        have hi : i < Γ.length := by
          have := (List.getElem?_eq_some_iff.mp e2).1
          rwa [List.length_set] at this
        rw [List.getElem?_set_self (by rw [r.len]; exact hi)] at z2
        cases z2
        rw [List.getElem?_set_ne h] at e1 z1
        exact h5 j l' e1 z1
      · rw [List.getElem?_set_ne h] at e1 z1
        rw [List.getElem?_set_ne h'] at e2 z2
        exact r.sep j k x l' m ne e1 e2 z1 z2

theorem Rel.setOwn {P : Par} {Γ : List Sl} {σ : L2.St} {G H : Hp} (r : Rel P Γ σ G H) {i : Nat} {l : List D} {p : Addr} {vs : List V} (h1 : H p = some (.lst vs)) (h2 : G p = none) (h3 : P.H0 p = none) (h4 : ¬ P.dl p) (q : DenL G l vs) (zl : l.length ≤ 16777216)
    (h5 : ∀ {k : OK} (j : Nat) (m : List D), Γ[j]? = some (.ownK k m) → σ[j]? ≠ some (some (.ref p))) : Rel P (Γ.set i (.own l)) (σ.set i (some (.ref p))) G H := r.setOwnK .lst h1 h2 h3 h4 q zl True.intro h5
/-! ### exceptions -/
def XDen (P : Par) (cls : Value) (d : Option Addr) (H G : Hp) (e : Ex) : Prop :=
  ∃ C, P.u.cm e.tag = some C ∧ cls = .ref C ∧ ∃ dd v, d = some dd ∧ H dd = some (.xd [("at", v)]) ∧ Den G e.at_ v
def XC (P : Par) (Wx : WX) (E : Ex → Prop) : Prop := ∀ cls d σ' H' G' e, RelB P G' H' → XDen P cls d H' G' e → E e → Wx cls d σ' H'

/-! ### where a def's body stands -/
def bnames : List Str := ["len", "isinstance", "range", "tuple", "list", "int", "all", "any", "max", "min", "abs", "sum", "sorted", "set", "enumerate", "zip", "repr", "str", "bool"]
structure Cok (X : Cx) (P : Par) (Wx : WX) (N : List Str) (sc : Scope) (k : Nat) : Prop where
  hN : X.N = N
  hsc : X.env.scope = sc
  hprog : X.prog = P.u.prog
  hw : X.w = P.u.w
  hK : X.K = P.u.K
  hmg : X.mg = P.u.mg
  hbase : X.base = P.u.base
  bl : ∀ x ∈ bnames, P.u.mg x = none
  calm : X.calm = true
  nd : N.Nodup
  room : Room k X.A
  tk : Takes X Wx
/-- .. in the def itself, not in a comprehension's block -/
structure Dok (X : Cx) (P : Par) (Wx : WX) (N : List Str) (sc : Scope) (k : Nat) : Prop extends Cok X P Wx N sc k where
  fn : ∀ x, X.fn x = true
  po : PassesOwn (model X.prog X.w) X.A X.env X.xe
  stk : X.stack = X.env :: X.outer
  frm : X.env.frame = some X.env.locals
theorem PE.imp {X : Cx} {e : Expr} {t t' : TE} (h : PE X e t) (hi : ∀ σ H Q, t' σ H Q → t σ H Q) : PE X e t' := ⟨fun pins s σ H Q I q => h.run pins s σ H Q I (hi _ _ _ q)⟩
theorem PT.imp {X : Cx} {e : Expr} {t t' : TT} (h : PT X e t) (hi : ∀ σ H Q, t' σ H Q → t σ H Q) : PT X e t' := ⟨fun pins s σ H Q I q => h.run pins s σ H Q I (hi _ _ _ q)⟩
theorem PA.imp {X : Cx} {e : List Expr} {t t' : TA} (h : PA X e t) (hi : ∀ σ H Q, t' σ H Q → t σ H Q) : PA X e t' := ⟨fun pos pins s σ H Q I q => h.run pos pins s σ H Q I (hi _ _ _ q)⟩
theorem PS.imp {X : Cx} {e : Stmt} {t t' : TS} (h : PS X e t) (hi : ∀ D σ H, t' D σ H → t D σ H) : PS X e t' := ⟨fun pins s σ H D I q => h.run pins s σ H D I (hi _ _ _ q)⟩
theorem PSs.imp {X : Cx} {e : List Stmt} {t t' : TS} (h : PSs X e t) (hi : ∀ D σ H, t' D σ H → t D σ H) : PSs X e t' := ⟨fun pins s σ H D I q => h.run pins s σ H D I (hi _ _ _ q)⟩

/-! ### the typed readings -/
section
variable {α β γ τ ρ : Type} [Py α] [Py β] [Py γ]
def rdE (P : Par) (Wx : WX) (Γ : List Sl) (m : W α) : TE := fun σ H Q' => ∃ (G : Hp) (Q : α → Prop) (E : Ex → Prop), Rel P Γ σ G H ∧ m.wp Q E ∧
  (∀ v H' G' a, Grow P G H G' H' → Den G' (toD a) v → Q a → Q' v H') ∧ XC P Wx E
def EX (X : Cx) (P : Par) (Wx : WX) (Γ : List Sl) (e : Expr) (m : W α) : Prop := PE X e (rdE P Wx Γ m)
/-- a new list that nobody else knows -/
def rdN (P : Par) (Wx : WX) (Γ : List Sl) (m : W (List α)) : TE := fun σ H Q' => ∃ (G : Hp) (Q : List α → Prop) (E : Ex → Prop), Rel P Γ σ G H ∧ m.wp Q E ∧
  (∀ p vs H' G' a, Grow P G H G' H' → H p = none → G' p = none → H' p = some (.lst vs) → DenL G' (a.map toD) vs → a.length ≤ 16777216 → Q a → Q' (.ref p) H') ∧ XC P Wx E
def EN (X : Cx) (P : Par) (Wx : WX) (Γ : List Sl) (e : Expr) (m : W (List α)) : Prop := PE X e (rdN P Wx Γ m)
/-- a test -/
def rdT (P : Par) (Wx : WX) (Γ : List Sl) (m : W Bool) : TT := fun σ H Q' => ∃ (G : Hp) (Q : Bool → Prop) (E : Ex → Prop), Rel P Γ σ G H ∧ m.wp Q E ∧
  (∀ H' G' a, Grow P G H G' H' → Q a → Q' a H') ∧ XC P Wx E
def TX (X : Cx) (P : Par) (Wx : WX) (Γ : List Sl) (e : Expr) (m : W Bool) : Prop := PT X e (rdT P Wx Γ m)
/-- arguments -/
def rdA (P : Par) (Wx : WX) (Γ : List Sl) (ty : τ → List D) (m : W τ) : TA := fun σ H Q' => ∃ (G : Hp) (Q : τ → Prop) (E : Ex → Prop), Rel P Γ σ G H ∧ m.wp Q E ∧
  (∀ vs H' G' a, Grow P G H G' H' → DenL G' (ty a) vs → Q a → Q' vs H') ∧ XC P Wx E
def EA (X : Cx) (P : Par) (Wx : WX) (Γ : List Sl) (es : List Expr) (ty : τ → List D) (m : W τ) : Prop := PA X es (rdA P Wx Γ ty m)
end

section
variable {α β γ δ τ ρ : Type} [Py α] [Py β] [Py γ] [Py δ]
variable {X : Cx} {P : Par} {Wx : WX} {Γ : List Sl} {N : List Str} {sc : Scope} {k : Nat} {a b c e : Expr} {pos : Pos}
/-- two expressions in a row -/
theorem rd_two {m : W α} {n : W β} {f : α → β → W γ} {σ : L2.St} {H : Hp} {Q' : VK} {r : R2}
    (core : ∀ (G H : Hp) (x : α) (y : β) (v u : V) (Q : γ → Prop) (E : Ex → Prop), Rel P Γ σ G H → Den G (toD x) v → Den G (toD y) u → (f x y).wp Q E →
      (∀ w H' G' z, Grow P G H G' H' → Den G' (toD z) w → Q z → Q' w H') → r v u H Q')
    (h : rdE P Wx Γ (W.b2 m n f) σ H Q') : tOp r (rdE P Wx Γ m) (rdE P Wx Γ n) σ H Q' := by
  obtain ⟨G, Q, E, R, w, k, kx⟩ := h
  refine ⟨G, _, E, R, w, fun v H1 G1 x g1 d1 w1 => ?_, kx⟩
  have R1 := R.grow g1
  refine ⟨G1, _, E, R1, w1, fun u H2 G2 y g2 d2 w2 => ?_, kx⟩
  have R2 := R1.grow g2
  exact core G2 H2 x y v u Q E R2 (Den.mono g2.g _ _ d1) d2 w2 fun w H3 G3 z g3 => k w H3 G3 z ((g1.trans g2 (DealAt.there R1.dk)).trans g3 (DealAt.there R2.dk))
theorem ex_op {op : Operator} {r : R2} {m : W α} {n : W β} {f : α → β → W γ} (ho : OpR X (binaryOp op) r)
    (core : ∀ (σ : L2.St) (G H : Hp) (x : α) (y : β) (v u : V) (Q : γ → Prop) (E : Ex → Prop) (Q' : VK), Rel P Γ σ G H → Den G (toD x) v → Den G (toD y) u → (f x y).wp Q E →
      (∀ w H' G' z, Grow P G H G' H' → Den G' (toD z) w → Q z → Q' w H') → r v u H Q')
    (ha : EX X P Wx Γ a m) (hb : EX X P Wx Γ b n) : EX X P Wx Γ (.BinOp a op b pos) (W.b2 m n f) :=
  PE.imp (pe_op ho ha hb) fun σ H Q' h => rd_two (fun G H x y v u Q E R d1 d2 w k => core σ G H x y v u Q E Q' R d1 d2 w k) h
theorem ex_cmp {op : CmpOp} {r : R2} {m : W α} {n : W β} {f : α → β → W γ} (ho : OpR X (compareOp op) r)
    (core : ∀ (σ : L2.St) (G H : Hp) (x : α) (y : β) (v u : V) (Q : γ → Prop) (E : Ex → Prop) (Q' : VK), Rel P Γ σ G H → Den G (toD x) v → Den G (toD y) u → (f x y).wp Q E →
      (∀ w H' G' z, Grow P G H G' H' → Den G' (toD z) w → Q z → Q' w H') → r v u H Q')
    (ha : EX X P Wx Γ a m) (hb : EX X P Wx Γ b n) (hm : behindInMarks op b = false) : EX X P Wx Γ (.Compare a [op] [b] pos) (W.b2 m n f) :=
  PE.imp (pe_cmpR ho ha hb hm) fun σ H Q' h => rd_two (fun G H x y v u Q E R d1 d2 w k => core σ G H x y v u Q E Q' R d1 d2 w k) h
/-- one expression -/
theorem rd_one {m : W α} {f : α → W β} {σ : L2.St} {H : Hp} {Q' : VK} {r : V → Hp → VK → Prop}
    (core : ∀ (G H : Hp) (x : α) (v : V) (Q : β → Prop) (E : Ex → Prop), Rel P Γ σ G H → Den G (toD x) v → (f x).wp Q E →
      (∀ w H' G' z, Grow P G H G' H' → Den G' (toD z) w → Q z → Q' w H') → XC P Wx E → r v H Q')
    (h : rdE P Wx Γ (W.b1 m f) σ H Q') : tUn r (rdE P Wx Γ m) σ H Q' := by
  obtain ⟨G, Q, E, R, w, k, kx⟩ := h
  refine ⟨G, _, E, R, w, fun v H1 G1 x g1 d1 w1 => ?_, kx⟩
  have R1 := R.grow g1
  exact core G1 H1 x v Q E R1 d1 w1 (fun w H3 G3 z g3 => k w H3 G3 z (g1.trans g3 (DealAt.there R1.dk))) kx
theorem ex_un {op : UnaryOp} {r : V → Hp → VK → Prop} {m : W α} {f : α → W β} (ho : UnR X (unaryOp op) r)
    (core : ∀ (σ : L2.St) (G H : Hp) (x : α) (v : V) (Q : β → Prop) (E : Ex → Prop) (Q' : VK), Rel P Γ σ G H → Den G (toD x) v → (f x).wp Q E →
      (∀ w H' G' z, Grow P G H G' H' → Den G' (toD z) w → Q z → Q' w H') → r v H Q')
    (ha : EX X P Wx Γ a m) : EX X P Wx Γ (.UnaryOp op a pos) (W.b1 m f) :=
  PE.imp (pe_un ho ha) fun σ H Q' h => rd_one (fun G H x v Q E R d1 w k _ => core σ G H x v Q E Q' R d1 w k) h

/-! ### names and constants -/
def pureOk (P : Par) (Wx : WX) (Γ : List Sl) (x : α) (v : V) : Prop := True
theorem ex_var (c : Cok X P Wx N sc k) (i : Nat) {x : Str} {y : α} (hN : N[i]? = some x := by rfl) (hΓ : Γ[i]? = some (.dat (toD y)) := by rfl)
    (hv : Vis sc x := by first | exact Or.inl rfl | exact Or.inr (Or.inl rfl) | exact Or.inr (Or.inr rfl)) (hd : (x == ("__debug__" : Str)) = false := by decide)
    (hcd : (x == ("__classdict__" : Str)) = false := by decide) : EX X P Wx Γ (.Name x pos) (W.pure y) := by
  refine PE.imp (pe_var (i := i) (by rw [c.hN]; exact hN) (by rw [c.hsc]; exact hv) hd hcd) fun σ H Q' h => ?_
  obtain ⟨G, Q, E, R, w, k, kx⟩ := h
  obtain ⟨o, e, v, rfl, q⟩ := R.slots i _ hΓ
  exact ⟨v, e, k v H G y (Grow.refl R.toRelB) q w⟩
theorem ex_C {v : V} {y : α} (h : PE X e (tC v)) (hd : ∀ G, Den G (toD y) v) : EX X P Wx Γ e (W.pure y) :=
  PE.imp h fun σ H Q' h => by
    obtain ⟨G, Q, E, R, w, k, kx⟩ := h
    exact k v H G y (Grow.refl R.toRelB) (hd G) w
theorem ex_int {i j} : EX X P Wx Γ (.Constant (.int i) j pos) (W.pure i) := ex_C pe_int fun _ => den_int.mpr rfl
theorem ex_bl {b j} : EX X P Wx Γ (.Constant (.bool b) j pos) (W.pure b) := ex_C pe_bl fun _ => den_bool.mpr rfl
theorem ex_non {j} : EX X P Wx Γ (.Constant .none j pos) (W.pure ()) := ex_C pe_non fun _ => den_unit.mpr rfl
theorem ex_str {x j} : EX X P Wx Γ (.Constant (.str x) j pos) (W.pure x) := ex_C pe_str fun _ => den_str.mpr rfl
/-- the same thing, otherwise told -/
theorem ex_as {m : W α} {f : α → β} (ha : EX X P Wx Γ e m) (h : ∀ x, toD (f x) = toD x := by intro _; rfl) : EX X P Wx Γ e (W.b1 m fun x => W.pure (f x)) :=
  PE.imp ha fun σ H Q' h' => by
    obtain ⟨G, Q, E, R, w, k, kx⟩ := h'
    exact ⟨G, _, E, R, w, fun v H1 G1 x g1 d1 w1 => k v H1 G1 (f x) g1 (by rw [h]; exact d1) w1, kx⟩
/-- a thing of any kind, taken for what it must be -/
theorem ex_is {m : W α} {f : α → W β} (ha : EX X P Wx Γ e m) (h : ∀ x Q E, (f x).wp Q E → ∃ y, toD y = toD x ∧ Q y) : EX X P Wx Γ e (W.b1 m f) :=
  PE.imp ha fun σ H Q' h' => by
    obtain ⟨G, Q, E, R, w, k, kx⟩ := h'
    refine ⟨G, _, E, R, w, fun v H1 G1 x g1 d1 w1 => ?_, kx⟩
    obtain ⟨y, e, q⟩ := h x Q E w1
    exact k v H1 G1 y g1 (by rw [e]; exact d1) q

/-! ### ints -/
theorem ex_add {m n : W Int} (ha : EX X P Wx Γ a m) (hb : EX X P Wx Γ b n) : EX X P Wx Γ (.BinOp a .Add b pos) (W.b2 m n fun x y => W.pure (x + y)) :=
  ex_op op_add (fun σ G H x y v u Q E Q' R d1 d2 w k => ⟨x, y, den_int.mp d1, den_int.mp d2, k _ _ _ _ (Grow.refl R.toRelB) (den_int.mpr rfl) w⟩) ha hb
theorem ex_sub {m n : W Int} (ha : EX X P Wx Γ a m) (hb : EX X P Wx Γ b n) : EX X P Wx Γ (.BinOp a .Sub b pos) (W.b2 m n fun x y => W.pure (x - y)) :=
  ex_op op_sub (fun σ G H x y v u Q E Q' R d1 d2 w k => ⟨x, y, den_int.mp d1, den_int.mp d2, k _ _ _ _ (Grow.refl R.toRelB) (den_int.mpr rfl) w⟩) ha hb
/-- a number whose size is told -/
def Sz (n : Nat) (x : Int) : Prop := x.natAbs < 2 ^ n
def mulW (x y : Int) : W Int := W.need (Sz 400000 x ∧ Sz 400000 y) (x * y)
def fdivW (x y : Int) : W Int := W.need (0 < y ∧ Sz 9000 y) (x / y)
def modW (x y : Int) : W Int := W.need (0 < y) (x % y)
def powW (x y : Int) : W Int := W.need (0 ≤ y ∧ y ≤ 1000000 ∧ x.natAbs < 2 ^ 64) (x ^ y.toNat)
theorem ex_mul {m n : W Int} (ha : EX X P Wx Γ a m) (hb : EX X P Wx Γ b n) : EX X P Wx Γ (.BinOp a .Mult b pos) (W.b2 m n mulW) :=
  ex_op op_mulW (fun σ G H x y v u Q E Q' R d1 d2 w k => ⟨x, y, den_int.mp d1, den_int.mp d2, wide_mul w.1.1 w.1.2 (by decide) (by decide) (by decide), k _ _ _ _ (Grow.refl R.toRelB) (den_int.mpr rfl) w.2⟩) ha hb
theorem ex_fdiv {m n : W Int} (ha : EX X P Wx Γ a m) (hb : EX X P Wx Γ b n) : EX X P Wx Γ (.BinOp a .FloorDiv b pos) (W.b2 m n fdivW) :=
  ex_op op_fdivW (fun σ G H x y v u Q E Q' R d1 d2 w k => ⟨x, y, den_int.mp d1, den_int.mp d2, wide_div w.1.1 w.1.2 (by decide) (by decide), k _ _ _ _ (Grow.refl R.toRelB) (den_int.mpr rfl) w.2⟩) ha hb
theorem ex_mod {m n : W Int} (ha : EX X P Wx Γ a m) (hb : EX X P Wx Γ b n) : EX X P Wx Γ (.BinOp a .Mod b pos) (W.b2 m n modW) :=
  ex_op op_mod (fun σ G H x y v u Q E Q' R d1 d2 w k => ⟨x, y, den_int.mp d1, den_int.mp d2, w.1, k _ _ _ _ (Grow.refl R.toRelB) (den_int.mpr rfl) w.2⟩) ha hb
theorem ex_pow {m n : W Int} (ha : EX X P Wx Γ a m) (hb : EX X P Wx Γ b n) : EX X P Wx Γ (.BinOp a .Pow b pos) (W.b2 m n powW) :=
  ex_op op_pow (fun σ G H x y v u Q E Q' R d1 d2 w k => ⟨x, y, den_int.mp d1, den_int.mp d2, w.1, k _ _ _ _ (Grow.refl R.toRelB) (den_int.mpr rfl) w.2⟩) ha hb
theorem ex_neg {m : W Int} (ha : EX X P Wx Γ a m) : EX X P Wx Γ (.UnaryOp .USub a pos) (W.b1 m fun x => W.pure (-x)) :=
  ex_un un_neg (fun σ G H x v Q E Q' R d1 w k => ⟨x, den_int.mp d1, k _ _ _ _ (Grow.refl R.toRelB) (den_int.mpr rfl) w⟩) ha
theorem ex_lt {m n : W Int} (ha : EX X P Wx Γ a m) (hb : EX X P Wx Γ b n) : EX X P Wx Γ (.Compare a [.Lt] [b] pos) (W.b2 m n fun x y => W.pure (decide (x < y))) :=
  ex_cmp op_lt (fun σ G H x y v u Q E Q' R d1 d2 w k => ⟨x, y, den_int.mp d1, den_int.mp d2, k _ _ _ _ (Grow.refl R.toRelB) (den_bool.mpr rfl) w⟩) ha hb (nomark _)
theorem ex_le {m n : W Int} (ha : EX X P Wx Γ a m) (hb : EX X P Wx Γ b n) : EX X P Wx Γ (.Compare a [.LtE] [b] pos) (W.b2 m n fun x y => W.pure (decide (x ≤ y))) :=
  ex_cmp op_le (fun σ G H x y v u Q E Q' R d1 d2 w k => ⟨x, y, den_int.mp d1, den_int.mp d2, k _ _ _ _ (Grow.refl R.toRelB) (den_bool.mpr rfl) w⟩) ha hb (nomark _)
theorem ex_gt {m n : W Int} (ha : EX X P Wx Γ a m) (hb : EX X P Wx Γ b n) : EX X P Wx Γ (.Compare a [.Gt] [b] pos) (W.b2 m n fun x y => W.pure (decide (y < x))) :=
  ex_cmp op_gt (fun σ G H x y v u Q E Q' R d1 d2 w k => ⟨x, y, den_int.mp d1, den_int.mp d2, k _ _ _ _ (Grow.refl R.toRelB) (den_bool.mpr rfl) w⟩) ha hb (nomark _)
theorem ex_ge {m n : W Int} (ha : EX X P Wx Γ a m) (hb : EX X P Wx Γ b n) : EX X P Wx Γ (.Compare a [.GtE] [b] pos) (W.b2 m n fun x y => W.pure (decide (y ≤ x))) :=
  ex_cmp op_ge (fun σ G H x y v u Q E Q' R d1 d2 w k => ⟨x, y, den_int.mp d1, den_int.mp d2, k _ _ _ _ (Grow.refl R.toRelB) (den_bool.mpr rfl) w⟩) ha hb (nomark _)
end
end Z

set_option autoImplicit false
set_option Elab.async false
set_option linter.all false
set_option maxRecDepth 100000
set_option maxHeartbeats 2000003
namespace Z
open PySem PySem.Spec L2
open Py (toD)
section
variable {α β γ δ τ ρ : Type} [Py α] [Py β] [Py γ] [Py δ]
variable {X : Cx} {P : Par} {Wx : WX} {Γ : List Sl} {N : List Str} {sc : Scope} {k : Nat} {a b c e : Expr} {pos : Pos} {es : List Expr}

/-! ### comparisons -/
structure CmpR (X : Cx) (P : Par) (Γ : List Sl) (op : CmpOp) (f : α → β → W Bool) : Prop where
  ex : ∃ r : R2, OpR X (compareOp op) r ∧ ∀ (σ : L2.St) (G H : Hp) (x : α) (y : β) (v u : V) (Q : Bool → Prop) (E : Ex → Prop) (Q' : VK), Rel P Γ σ G H → Den G (toD x) v → Den G (toD y) u → (f x y).wp Q E →
      (∀ z, Q z → Q' (.bl z) H) → r v u H Q'
theorem ex_c {op : CmpOp} {m : W α} {n : W β} {f : α → β → W Bool} (h : CmpR X P Γ op f) (ha : EX X P Wx Γ a m) (hb : EX X P Wx Γ b n)
    (hm : behindInMarks op b = false := by first | exact nomark _ | rfl | with_unfolding_all rfl) : EX X P Wx Γ (.Compare a [op] [b] pos) (W.b2 m n f) := by
  obtain ⟨r, ho, core⟩ := h.ex
  exact ex_cmp ho (fun σ G H x y v u Q E Q' R d1 d2 w k => core σ G H x y v u Q E Q' R d1 d2 w fun z q => k _ _ _ _ (Grow.refl R.toRelB) (den_bool.mpr rfl) q) ha hb hm
theorem tx_c {op : CmpOp} {m : W α} {n : W β} {f : α → β → W Bool} (h : CmpR X P Γ op f) (ha : EX X P Wx Γ a m) (hb : EX X P Wx Γ b n)
    (hm : behindInMarks op b = false := by first | exact nomark _ | rfl | with_unfolding_all rfl) : TX X P Wx Γ (.Compare a [op] [b] pos) (W.b2 m n f) := by
  obtain ⟨r, ho, core⟩ := h.ex
  refine PT.imp (pt_cmpR ho ha hb hm) fun σ H Q' h => ?_
  obtain ⟨G, Q, E, R, w, k, kx⟩ := h
  refine ⟨G, _, E, R, w, fun v H1 G1 x g1 d1 w1 => ?_, kx⟩
  have R1 := R.grow g1
  refine ⟨G1, _, E, R1, w1, fun u H2 G2 y g2 d2 w2 => ?_, kx⟩
  have R2 := R1.grow g2
  exact core σ G2 H2 x y v u Q E _ R2 (Den.mono g2.g _ _ d1) d2 w2 fun z q => ⟨z, rfl, k _ _ _ (g1.trans g2 (DealAt.there R1.dk)) q⟩
theorem c_lt : CmpR X P Γ .Lt (fun x y : Int => W.pure (decide (x < y))) := ⟨_, op_lt, fun _ _ _ x y _ _ _ _ _ _ d1 d2 w k => ⟨x, y, den_int.mp d1, den_int.mp d2, k _ w⟩⟩
theorem c_le : CmpR X P Γ .LtE (fun x y : Int => W.pure (decide (x ≤ y))) := ⟨_, op_le, fun _ _ _ x y _ _ _ _ _ _ d1 d2 w k => ⟨x, y, den_int.mp d1, den_int.mp d2, k _ w⟩⟩
theorem c_gt : CmpR X P Γ .Gt (fun x y : Int => W.pure (decide (y < x))) := ⟨_, op_gt, fun _ _ _ x y _ _ _ _ _ _ d1 d2 w k => ⟨x, y, den_int.mp d1, den_int.mp d2, k _ w⟩⟩
theorem c_ge : CmpR X P Γ .GtE (fun x y : Int => W.pure (decide (y ≤ x))) := ⟨_, op_ge, fun _ _ _ x y _ _ _ _ _ _ d1 d2 w k => ⟨x, y, den_int.mp d1, den_int.mp d2, k _ w⟩⟩
theorem c_eqI : CmpR X P Γ .Eq (fun x y : Int => W.pure (decide (x = y))) := ⟨_, op_eq, fun _ _ _ x y _ _ _ _ _ _ d1 d2 w k => by
  rw [den_int.mp d1, den_int.mp d2]
  refine ⟨rfl, ?_⟩
  rw [show decide (V.int x = V.int y) = decide (x = y) by simp]
  exact k _ w⟩
theorem c_neI : CmpR X P Γ .NotEq (fun x y : Int => W.pure (!decide (x = y))) := ⟨_, op_ne, fun _ _ _ x y _ _ _ _ _ _ d1 d2 w k => by
  rw [den_int.mp d1, den_int.mp d2]
  refine ⟨rfl, ?_⟩
  rw [show decide (V.int x = V.int y) = decide (x = y) by simp]
  exact k _ w⟩
theorem c_eqB : CmpR X P Γ .Eq (fun x y : Bool => W.pure (decide (x = y))) := ⟨_, op_eq, fun _ _ _ x y _ _ _ _ _ _ d1 d2 w k => by
  rw [den_bool.mp d1, den_bool.mp d2]
  refine ⟨rfl, ?_⟩
  rw [show decide (V.bl x = V.bl y) = decide (x = y) by simp]
  exact k _ w⟩
theorem c_neB : CmpR X P Γ .NotEq (fun x y : Bool => W.pure (!decide (x = y))) := ⟨_, op_ne, fun _ _ _ x y _ _ _ _ _ _ d1 d2 w k => by
  rw [den_bool.mp d1, den_bool.mp d2]
  refine ⟨rfl, ?_⟩
  rw [show decide (V.bl x = V.bl y) = decide (x = y) by simp]
  exact k _ w⟩
/-! data, as a whole -/
mutual
def pd : D → PyData
  | .non => .none | .bl b => .bool b | .int i => .int i | .str s => .str s
  | .tup l => .tuple (pdL l) | .lst l => .list (pdL l) | .dct => .dict [] | .scr _ => .dict [] | .obj _ _ _ => .dict [] | .dk _ _ => .dict []
def pdL : List D → List PyData
  | [] => []
  | d :: l => pd d :: pdL l
end
mutual
def flat : D → Bool
  | .non | .bl _ | .int _ | .str _ => true
  | .tup l | .lst l => flatL l
  | .dct | .scr _ | .obj _ _ _ | .dk _ _ => false
def flatL : List D → Bool
  | [] => true
  | d :: l => flat d && flatL l
end
mutual
theorem den_dp {K : PySem.W.Frag} {G H : Hp} (s : Sub G H) : ∀ (d : D) (v : V), flat d = true → Den G d v → Dp K H v (pd d)
  | .non, v, _, h => by
    simp only [Den] at h
    subst h
    simp only [pd]
    exact .non
  | .bl b, v, _, h => by
    simp only [Den] at h
    subst h
    simp only [pd]
    exact .bl b
  | .int b, v, _, h => by
    simp only [Den] at h
    subst h
    simp only [pd]
    exact .int b
  | .str b, v, _, h => by
    simp only [Den] at h
    subst h
    simp only [pd]
    exact .str b
  | .tup l, v, f, h => by
    simp only [Den] at h
    simp only [flat] at f
    obtain ⟨p, vs, rfl, g, t, _⟩ := h
    simp only [pd]
    exact .tup (.inl (.inl (s _ _ g))) (den_dpL s l vs f t)
  | .lst l, v, f, h => by
    simp only [Den] at h
    simp only [flat] at f
    obtain ⟨p, vs, rfl, g, t, _⟩ := h
    simp only [pd]
    exact .lst (.inl (.inl (s _ _ g))) (den_dpL s l vs f t)
  | .dct, v, f, h => by simp [flat] at f
  | .scr _, v, f, h => by simp [flat] at f
  | .obj _ _ _, v, f, h => by simp [flat] at f
  | .dk _ _, v, f, h => by simp [flat] at f
theorem den_dpL {K : PySem.W.Frag} {G H : Hp} (s : Sub G H) : ∀ (l : List D) (vs : List V), flatL l = true → DenL G l vs → DpAll K H vs (pdL l)
  | [], vs, _, h => by
    rw [DenL.nil_iff] at h
    subst h
    simp only [pdL]
    exact .nil
  | d :: l, vs, f, h => by
    obtain ⟨v, r, rfl, q, t⟩ := DenL.cons_iff.mp h
    simp only [flatL, Bool.and_eq_true] at f
    simp only [pdL]
    exact .cons (den_dp s d v f.1 q) (den_dpL s l r f.2 t)
end
def eqOk (d : D) : Bool := flat d && SeqAt.shaped (pd d)
def eqD (x y : D) : Bool := PyData.eqv (pd x) (pd y)
def eqW (x y : α) : W Bool := W.need (eqOk (toD x) = true ∧ True) (eqD (toD x) (toD y))
def eqWD (x : α) (y : β) : W Bool := W.need (eqOk (toD x) = true ∧ eqOk (toD y) = true) (eqD (toD x) (toD y))
def neWD (x : α) (y : β) : W Bool := W.need (eqOk (toD x) = true ∧ eqOk (toD y) = true) (!eqD (toD x) (toD y))
theorem c_eqD (cc : Cok X P Wx N sc k) : CmpR X P Γ .Eq (eqWD (α := α) (β := β)) := ⟨_, op_eqD cc.room.units, fun _ G H x y v u Q E Q' R d1 d2 w kk => by
  simp only [eqWD, eqOk, Bool.and_eq_true] at w
  obtain ⟨⟨⟨f1, s1⟩, f2, s2⟩, w⟩ := w
  refine ⟨_, _, den_dp R.sub _ _ f1 d1, den_dp R.sub _ _ f2 d2, s1, s2, kk _ w⟩⟩
theorem c_neD (cc : Cok X P Wx N sc k) : CmpR X P Γ .NotEq (neWD (α := α) (β := β)) := ⟨_, op_neD cc.room.units, fun _ G H x y v u Q E Q' R d1 d2 w kk => by
  simp only [neWD, eqOk, Bool.and_eq_true] at w
  obtain ⟨⟨⟨f1, s1⟩, f2, s2⟩, w⟩ := w
  refine ⟨_, _, den_dp R.sub _ _ f1 d1, den_dp R.sub _ _ f2 d2, s1, s2, kk _ w⟩⟩
/-! is None -/
def isNon : D → Bool
  | .non => true
  | _ => false
theorem isNon_v {G : Hp} {d : D} {v : V} (h : Den G d v) : decide (v = .non) = isNon d := by
  cases d <;> simp only [Den] at h
  case non => subst h; rfl
  case bl => subst h; rfl
  case int => subst h; rfl
  case str => subst h; rfl
  case tup => obtain ⟨_, _, rfl, _, _⟩ := h; rfl
  case lst => obtain ⟨_, _, rfl, _⟩ := h; rfl
  case dct => obtain ⟨_, rfl, _⟩ := h; rfl
  case scr => obtain ⟨_, _, rfl, _⟩ := h; rfl
  case obj => obtain ⟨_, _, _, rfl, _⟩ := h; rfl
  case dk => obtain ⟨_, _, rfl, _⟩ := h; rfl
theorem c_isN : CmpR X P Γ .Is (fun (x : α) (_ : Unit) => W.pure (isNon (toD x))) := ⟨_, op_isN, fun _ G H x y v u Q E Q' R d1 d2 w kk => by
  refine ⟨den_unit.mp d2, ?_⟩
  rw [isNon_v d1]
  exact kk _ w⟩
theorem c_notN : CmpR X P Γ .IsNot (fun (x : α) (_ : Unit) => W.pure (!isNon (toD x))) := ⟨_, op_notN, fun _ G H x y v u Q E Q' R d1 d2 w kk => by
  refine ⟨den_unit.mp d2, ?_⟩
  rw [isNon_v d1]
  exact kk _ w⟩

/-! ### tests, and, or, not, if -/
theorem tx_val {m : W Bool} (h : EX X P Wx Γ e m) (he : ∀ whole, isTrue e X.env whole = (do let v ← whole; standAt e.pos; holding [v] (truthy v)) := by intro _; rfl) : TX X P Wx Γ e m :=
  PT.imp (pt_val h he) fun σ H Q' h => by
    obtain ⟨G, Q, E, R, w, kk, kx⟩ := h
    exact ⟨G, Q, E, R, w, fun v H1 G1 x g1 d1 w1 => ⟨x, den_bool.mp d1, kk _ _ _ g1 w1⟩, kx⟩
def TW (X : Cx) (P : Par) (Wx : WX) (Γ : List Sl) (e : Expr) (m : W Bool) : Prop := PW X e (rdT P Wx Γ m)
theorem PW.imp {t t' : TT} (h : PW X e t) (hi : ∀ σ H Q, t' σ H Q → t σ H Q) : PW X e t' := ⟨fun wh pins s σ H Q I q => h.run wh pins s σ H Q I (hi _ _ _ q)⟩
theorem tw {m : W Bool} (h : TW X P Wx Γ e m) : TX X P Wx Γ e m := h.pt
theorem tw_and1 {m : W Bool} (h : TX X P Wx Γ a m) : TW X P Wx Γ (.BoolOp .And [a] pos) m := pw_and1 h
theorem tw_or1 {m : W Bool} (h : TX X P Wx Γ a m) : TW X P Wx Γ (.BoolOp .Or [a] pos) m := pw_or1 h
theorem tw_and {m n : W Bool} (ha : TX X P Wx Γ a m) (hb : TW X P Wx Γ (.BoolOp .And (b :: es) pos) n) : TW X P Wx Γ (.BoolOp .And (a :: b :: es) pos) (W.and m n) :=
  PW.imp (pw_and ha hb) fun σ H Q' h => by
    obtain ⟨G, Q, E, R, w, kk, kx⟩ := h
    refine ⟨G, _, E, R, w, fun H1 G1 x g1 w1 => ?_, kx⟩
    cases x with
    | true => exact ⟨G1, Q, E, R.grow g1, w1, fun H2 G2 y g2 => kk H2 G2 y (g1.trans g2 (DealAt.there (R.grow g1).dk)), kx⟩
    | false => exact kk _ _ _ g1 w1
theorem tw_or {m n : W Bool} (ha : TX X P Wx Γ a m) (hb : TW X P Wx Γ (.BoolOp .Or (b :: es) pos) n) : TW X P Wx Γ (.BoolOp .Or (a :: b :: es) pos) (W.or m n) :=
  PW.imp (pw_or ha hb) fun σ H Q' h => by
    obtain ⟨G, Q, E, R, w, kk, kx⟩ := h
    refine ⟨G, _, E, R, w, fun H1 G1 x g1 w1 => ?_, kx⟩
    cases x with
    | false => exact ⟨G1, Q, E, R.grow g1, w1, fun H2 G2 y g2 => kk H2 G2 y (g1.trans g2 (DealAt.there (R.grow g1).dk)), kx⟩
    | true => exact kk _ _ _ g1 w1
theorem tx_not {m : W Bool} (h : TX X P Wx Γ a m) : TX X P Wx Γ (.UnaryOp .Not a pos) (W.not m) :=
  PT.imp (pt_not h) fun σ H Q' h => by
    obtain ⟨G, Q, E, R, w, kk, kx⟩ := h
    exact ⟨G, _, E, R, w, fun H1 G1 x g1 w1 => kk _ _ _ g1 w1, kx⟩
theorem ex_one {op} {m : W α} (h : EX X P Wx Γ a m) : EX X P Wx Γ (.BoolOp op [a] pos) m := pe_one h
theorem ex_and {m n : W Bool} (ha : EX X P Wx Γ a m) (hb : EX X P Wx Γ (.BoolOp .And (b :: es) pos) n) : EX X P Wx Γ (.BoolOp .And (a :: b :: es) pos) (W.and m n) :=
  PE.imp (pe_and ha hb) fun σ H Q' h => by
    obtain ⟨G, Q, E, R, w, kk, kx⟩ := h
    refine ⟨G, _, E, R, w, fun v H1 G1 x g1 d1 w1 => ⟨x, den_bool.mp d1, ?_⟩, kx⟩
    cases x with
    | true => exact ⟨G1, Q, E, R.grow g1, w1, fun v H2 G2 y g2 => kk v H2 G2 y (g1.trans g2 (DealAt.there (R.grow g1).dk)), kx⟩
    | false => exact kk _ _ _ _ g1 (den_bool.mpr rfl) w1
theorem ex_or {m n : W Bool} (ha : EX X P Wx Γ a m) (hb : EX X P Wx Γ (.BoolOp .Or (b :: es) pos) n) : EX X P Wx Γ (.BoolOp .Or (a :: b :: es) pos) (W.or m n) :=
  PE.imp (pe_or ha hb) fun σ H Q' h => by
    obtain ⟨G, Q, E, R, w, kk, kx⟩ := h
    refine ⟨G, _, E, R, w, fun v H1 G1 x g1 d1 w1 => ⟨x, den_bool.mp d1, ?_⟩, kx⟩
    cases x with
    | false => exact ⟨G1, Q, E, R.grow g1, w1, fun v H2 G2 y g2 => kk v H2 G2 y (g1.trans g2 (DealAt.there (R.grow g1).dk)), kx⟩
    | true => exact kk _ _ _ _ g1 (den_bool.mpr rfl) w1
theorem ex_not {m : W Bool} (h : EX X P Wx Γ a m) : EX X P Wx Γ (.UnaryOp .Not a pos) (W.not m) :=
  PE.imp (pe_not h) fun σ H Q' h => by
    obtain ⟨G, Q, E, R, w, kk, kx⟩ := h
    exact ⟨G, _, E, R, w, fun v H1 G1 x g1 d1 w1 => ⟨x, den_bool.mp d1, kk _ _ _ _ g1 (den_bool.mpr rfl) w1⟩, kx⟩
theorem ex_if {m : W Bool} {n o : W α} (hc : TX X P Wx Γ c m) (ha : EX X P Wx Γ a n) (hb : EX X P Wx Γ b o) : EX X P Wx Γ (.IfExp c a b pos) (W.ite m n o) :=
  PE.imp (pe_ifExp hc ha hb) fun σ H Q' h => by
    obtain ⟨G, Q, E, R, w, kk, kx⟩ := h
    refine ⟨G, _, E, R, w, fun H1 G1 x g1 w1 => ?_, kx⟩
    cases x with
    | true => exact ⟨G1, Q, E, R.grow g1, w1, fun v H2 G2 y g2 => kk v H2 G2 y (g1.trans g2 (DealAt.there (R.grow g1).dk)), kx⟩
    | false => exact ⟨G1, Q, E, R.grow g1, w1, fun v H2 G2 y g2 => kk v H2 G2 y (g1.trans g2 (DealAt.there (R.grow g1).dk)), kx⟩

/-! ### argument lists, displays -/
theorem ea_nil : EA X P Wx Γ [] (fun _ : Unit => []) (W.pure ()) :=
  PA.imp pa_nil fun σ H Q' h => by
    obtain ⟨G, Q, E, R, w, kk, kx⟩ := h
    exact kk [] H G () (Grow.refl R.toRelB) (DenL.nil_iff.mpr rfl) w
theorem ea_one {m : W α} (h : EX X P Wx Γ e m) (hs : starEach [e] X.env = (false, eval e X.env) :: starEach [] X.env := by rfl) : EA X P Wx Γ [e] (fun x : α => [toD x]) m :=
  PA.imp (pa_cons h pa_nil hs) fun σ H Q' h => by
    obtain ⟨G, Q, E, R, w, kk, kx⟩ := h
    exact ⟨G, Q, E, R, w, fun v H1 G1 x g1 d1 w1 => kk [v] H1 G1 x g1 (DenL.one d1) w1, kx⟩
theorem ea_cons {m : W α} {n : W τ} {ty : τ → List D} (h : EX X P Wx Γ e m) (hr : EA X P Wx Γ es ty n) (hs : starEach (e :: es) X.env = (false, eval e X.env) :: starEach es X.env := by rfl) :
    EA X P Wx Γ (e :: es) (fun p : α × τ => toD p.1 :: ty p.2) (W.b2 m n fun x y => W.pure (x, y)) :=
  PA.imp (pa_cons h hr hs) fun σ H Q' h => by
    obtain ⟨G, Q, E, R, w, kk, kx⟩ := h
    refine ⟨G, _, E, R, w, fun v H1 G1 x g1 d1 w1 => ?_, kx⟩
    exact ⟨G1, _, E, R.grow g1, w1, fun vs H2 G2 y g2 d2 w2 => kk (v :: vs) H2 G2 (x, y) (g1.trans g2 (DealAt.there (R.grow g1).dk)) (DenL.cons_iff.mpr ⟨v, vs, rfl, Den.mono g2.g _ _ d1, d2⟩) w2, kx⟩
/-- [*xs, ..] -/
theorem ea_starL {m : W (List α)} {n : W τ} {ty : τ → List D} {p2 : Pos} (h : EX X P Wx Γ e m) (hr : EA X P Wx Γ es ty n) (hs : starEach (.Starred e p2 :: es) X.env = (true, eval e X.env) :: starEach es X.env := by rfl) :
    EA X P Wx Γ (.Starred e p2 :: es) (fun p : List α × τ => p.1.map toD ++ ty p.2) (W.b2 m n fun x y => W.pure (x, y)) :=
  PA.imp (StX.pa_star h hr hs) fun σ H Q' h => by
    obtain ⟨G, Q, E, R, w, kk, kx⟩ := h
    refine ⟨G, _, E, R, w, fun v H1 G1 x g1 d1 w1 => ?_, kx⟩
    obtain ⟨q, vs, rfl, gq, t, _⟩ := den_list.mp d1
    refine ⟨q, vs, rfl, .inr (.inl (.inl (g1.s _ _ gq))), ?_⟩
    exact ⟨G1, _, E, R.grow g1, w1, fun ws H2 G2 y g2 d2 w2 => kk (vs ++ ws) H2 G2 (x, y) (g1.trans g2 (DealAt.there (R.grow g1).dk)) (DenL.append (DenL.mono g2.g _ _ t) d2) w2, kx⟩
theorem ea_starT {m : W (Tup α)} {n : W τ} {ty : τ → List D} {p2 : Pos} (h : EX X P Wx Γ e m) (hr : EA X P Wx Γ es ty n) (hs : starEach (.Starred e p2 :: es) X.env = (true, eval e X.env) :: starEach es X.env := by rfl) :
    EA X P Wx Γ (.Starred e p2 :: es) (fun p : Tup α × τ => p.1.l.map toD ++ ty p.2) (W.b2 m n fun x y => W.pure (x, y)) :=
  PA.imp (StX.pa_star h hr hs) fun σ H Q' h => by
    obtain ⟨G, Q, E, R, w, kk, kx⟩ := h
    refine ⟨G, _, E, R, w, fun v H1 G1 x g1 d1 w1 => ?_, kx⟩
    obtain ⟨q, vs, rfl, gq, t, _⟩ := den_tup.mp d1
    refine ⟨q, vs, rfl, .inl (.inl (.inl (g1.s _ _ gq))), ?_⟩
    exact ⟨G1, _, E, R.grow g1, w1, fun ws H2 G2 y g2 d2 w2 => kk (vs ++ ws) H2 G2 (x, y) (g1.trans g2 (DealAt.there (R.grow g1).dk)) (DenL.append (DenL.mono g2.g _ _ t) d2) w2, kx⟩
/-- a display's items fit -/
def lineW (n : Nat) (x : τ) : W τ := W.need (n ≤ sizeLine) x
theorem ex_tup {m : W τ} {ty : τ → List D} {f : τ → α} {x1} (h : EA X P Wx Γ es ty m) (hf : ∀ x, toD (f x) = .tup (ty x)) (hl : ∀ x, (ty x).length ≤ 1000 := by intro _; exact Nat.le_of_ble_eq_true rfl) : EX X P Wx Γ (.Tuple es x1 pos) (W.b1 m fun x => W.pure (f x)) :=
  PE.imp (pe_tup h) fun σ H Q' h => by
    obtain ⟨G, Q, E, R, w, kk, kx⟩ := h
    refine ⟨G, _, E, R, w, fun vs H1 G1 x g1 d1 w1 => ⟨?_, fun p hp => ?_⟩, kx⟩
    · have := hl x
      rw [d1.length]
      exact Nat.le_of_lt (small1000 this)
    · have g2 := grow_new (o := .tup vs) (R.grow g1).toRelB hp
      refine kk (.ref p) _ _ (f x) (g1.trans g2 (DealAt.there (R.grow g1).dk)) ?_ w1
      rw [hf]
      simp only [Den]
      exact ⟨p, vs, rfl, upd_same, DenL.mono g2.g _ _ d1, Nat.le_trans (hl x) (by decide)⟩
theorem en_lst {m : W τ} {ty : τ → List D} {f : τ → List α} (h : EA X P Wx Γ es ty m) (hf : ∀ x, (f x).map toD = ty x) (hl : ∀ x, (ty x).length ≤ 1000 := by intro _; exact Nat.le_of_ble_eq_true rfl) : EN X P Wx Γ (.List es pos) (W.b1 m fun x => W.pure (f x)) :=
  PE.imp (pe_lst h) fun σ H Q' h => by
    obtain ⟨G, Q, E, R, w, kk, kx⟩ := h
    refine ⟨G, _, E, R, w, fun vs H1 G1 x g1 d1 w1 => ⟨?_, fun p hp => ?_⟩, kx⟩
    · have := hl x
      rw [d1.length]
      exact Nat.le_of_lt (small1000 this)
    · have zl : (f x).length ≤ 16777216 := by
        have e := congrArg List.length (hf x)
        rw [List.length_map] at e
        rw [e]
        exact Nat.le_trans (hl x) (by decide)
      have R1 := R.grow g1
      have g2 := grow_raw (o := .lst vs) R1.toRelB hp
      have hpH : H p = none := by
        cases z : H p with
        | none => rfl
        | some o =>
          by_cases dl : P.dl p
          · obtain ⟨o', z'⟩ := DealAt.there R1.dk p dl
            rw [hp] at z'
            cases z'
          · rw [g1.h p o z dl] at hp
            cases hp
      exact kk p vs _ _ (f x) (g1.trans g2 (DealAt.there R1.dk)) hpH (R1.toRelB.free hp).2.2 upd_same (by rw [hf]; exact d1) zl w1
/-- with stars in it: its length is asked -/
theorem en_lstS {m : W τ} {ty : τ → List D} {f : τ → List α} (h : EA X P Wx Γ es ty m) (hf : ∀ x, (f x).map toD = ty x) : EN X P Wx Γ (.List es pos) (W.b1 m fun x => W.need ((f x).length ≤ 16777216) (f x)) :=
  PE.imp (pe_lst h) fun σ H Q' h => by
    obtain ⟨G, Q, E, R, w, kk, kx⟩ := h
    refine ⟨G, _, E, R, w, fun vs H1 G1 x g1 d1 w1 => ⟨?_, fun p hp => ?_⟩, kx⟩
    · rw [d1.length, ← hf, List.length_map, sizeLine_eq]
      exact w1.1
    · have R1 := R.grow g1
      have g2 := grow_raw (o := .lst vs) R1.toRelB hp
      have hpH : H p = none := by
        cases z : H p with
        | none => rfl
        | some o =>
          by_cases dl : P.dl p
          · obtain ⟨o', z'⟩ := DealAt.there R1.dk p dl
            rw [hp] at z'
            cases z'
          · rw [g1.h p o z dl] at hp
            cases hp
      exact kk p vs _ _ (f x) (g1.trans g2 (DealAt.there R1.dk)) hpH (R1.toRelB.free hp).2.2 upd_same (by rw [hf]; exact d1) w1.1 w1.2
/-- a new list, frozen -/
theorem ex_fz {m : W (List α)} (h : EN X P Wx Γ e m) : EX X P Wx Γ e m :=
  PE.imp h fun σ H Q' h => by
    obtain ⟨G, Q, E, R, w, kk, kx⟩ := h
    refine ⟨G, Q, E, R, w, fun p vs H' G' a g1 hp gp hv d zl q => ?_, kx⟩
    have g2 := g1.fz hp gp hv
    refine kk (.ref p) H' (upd G' p (.lst vs)) a g2 (den_list.mpr ⟨p, vs, rfl, upd_same, DenL.mono (fun b u z => ?_) _ _ d, zl⟩) q
    rw [upd_ne (ne_of_none z gp)]
    exact z
end
end Z

set_option autoImplicit false
set_option Elab.async false
set_option linter.all false
set_option maxRecDepth 100000
set_option maxHeartbeats 2000003
namespace Z
open PySem PySem.Spec L2
open Py (toD)
section
variable {α β γ δ τ ρ : Type} [Py α] [Py β] [Py γ] [Py δ]
variable {X : Cx} {P : Par} {Wx : WX} {Γ : List Sl} {N : List Str} {sc : Scope} {k : Nat} {a b c e : Expr} {pos : Pos} {es : List Expr}

/-! ### places -/
theorem ixN_eq {n m : Nat} (i : Int) (h : n = m) : ixN n i = ixN m i := by rw [h]
theorem DenL.atI {G : Hp} {l : List D} {vs : List V} {i : Int} {d : D} (h : DenL G l vs) (e : L2.atI l i = some d) : ∃ v, L2.atI vs i = some v ∧ Den G d v := by
  unfold L2.atI at e ⊢
  rw [h.length]
  cases q : ixN l.length i with
  | none => rw [q] at e; cases e
  | some j =>
    rw [q] at e
    exact DenL.get h e
theorem atI_map {f : α → D} {l : List α} {i : Int} {x : α} (e : L2.atI l i = some x) : L2.atI (l.map f) i = some (f x) := by
  unfold L2.atI at e ⊢
  rw [List.length_map]
  cases q : ixN l.length i with
  | none => rw [q] at e; cases e
  | some j =>
    rw [q] at e
    have e' : l[j]? = some x := e
    show (l.map f)[j]? = _
    rw [List.getElem?_map, e']
    rfl
def ixW (l : List τ) (i : Int) : W τ := match L2.atI l i with | some x => W.pure x | none => W.stuck
theorem ixW_wp {l : List τ} {i : Int} {Q E} (h : (ixW l i).wp Q E) : ∃ x, L2.atI l i = some x ∧ Q x := by
  unfold ixW at h
  cases e : L2.atI l i with
  | none => rw [e] at h; exact h.elim
  | some x => rw [e] at h; exact ⟨x, rfl, h⟩
/-- f x i is an item of what x stands for -/
structure IxF (f : α → Int → W β) : Prop where
  at_ : ∀ (G : Hp) (x : α) (i : Int) (v : V) (Q : β → Prop) (E : Ex → Prop), Den G (toD x) v → (f x i).wp Q E → ∃ p vs w y, v = .ref p ∧ (G p = some (.lst vs) ∨ G p = some (.tup vs)) ∧ L2.atI vs i = some w ∧ Den G (toD y) w ∧ Q y
theorem ex_ix {f : α → Int → W β} {m : W α} {n : W Int} (F : IxF f) (ha : EX X P Wx Γ a m) (hb : EX X P Wx Γ b n) (hs : PlainIx b := by intro _ _; rfl) : EX X P Wx Γ (.Subscript a b pos) (W.b2 m n f) :=
  PE.imp (pe_ix ix_seq ha hb hs) fun σ H Q' h => rd_two (fun G H x y v u Q E R d1 d2 w kk => by
    obtain ⟨p, vs, w', z, rfl, hp, hw, dz, q⟩ := F.at_ G x y v Q E d1 w
    rw [den_int.mp d2]
    rcases hp with hp | hp
    · exact .inl ⟨p, vs, y, w', rfl, rfl, .inl (.inl (R.sub _ _ hp)), hw, kk _ _ _ _ (Grow.refl R.toRelB) dz q⟩
    · exact .inr (.inl ⟨p, vs, y, w', rfl, rfl, .inl (.inl (R.sub _ _ hp)), hw, kk _ _ _ _ (Grow.refl R.toRelB) dz q⟩)) h
theorem ixL : IxF (fun (l : List α) i => ixW l i) := ⟨fun G x i v Q E d w => by
  obtain ⟨p, vs, rfl, g, t, zl⟩ := den_list.mp d
  obtain ⟨y, e, q⟩ := ixW_wp w
  obtain ⟨w', e', d'⟩ := t.atI (atI_map e)
  exact ⟨p, vs, w', y, rfl, .inl g, e', d', q⟩⟩
theorem ixT : IxF (fun (l : Tup α) i => ixW l.l i) := ⟨fun G x i v Q E d w => by
  obtain ⟨p, vs, rfl, g, t, zl⟩ := den_tup.mp d
  obtain ⟨y, e, q⟩ := ixW_wp w
  obtain ⟨w', e', d'⟩ := t.atI (atI_map e)
  exact ⟨p, vs, w', y, rfl, .inr g, e', d', q⟩⟩
def ixD (d : D) (i : Int) : W D := match d with
  | .tup l => ixW l i
  | .lst l => ixW l i
  | _ => W.stuck
theorem ixDF : IxF ixD := ⟨fun G x i v Q E d w => by
  unfold ixD at w
  cases x with
  | tup l =>
    have d : Den G (.tup l) v := d
    simp only [Den] at d
    obtain ⟨p, vs, rfl, g, t, zl⟩ := d
    obtain ⟨y, e, q⟩ := ixW_wp w
    obtain ⟨w', e', d'⟩ := t.atI e
    exact ⟨p, vs, w', y, rfl, .inr g, e', d', q⟩
  | lst l =>
    have d : Den G (.lst l) v := d
    simp only [Den] at d
    obtain ⟨p, vs, rfl, g, t, zl⟩ := d
    obtain ⟨y, e, q⟩ := ixW_wp w
    obtain ⟨w', e', d'⟩ := t.atI e
    exact ⟨p, vs, w', y, rfl, .inl g, e', d', q⟩
  | _ => exact w.elim⟩
/-- an item at a written place of a pair, a triple -/
theorem ex_place {m : W α} {i : Int} {j : Nat} {f : α → β} {p2 : Pos} (ha : EX X P Wx Γ a m) (hf : ∀ (G : Hp) (x : α) (v : V), Den G (toD x) v → ∃ p vs w, v = .ref p ∧ G p = some (.tup vs) ∧ L2.atI vs i = some w ∧ Den G (toD (f x)) w) :
    EX X P Wx Γ (.Subscript a (.Constant (.int i) j p2) pos) (W.b1 m fun x => W.pure (f x)) :=
  PE.imp (pe_ix ix_tup ha pe_int (by intro _ _; rfl)) fun σ H Q' h => by
    obtain ⟨G, Q, E, R, w, kk, kx⟩ := h
    refine ⟨G, _, E, R, w, fun v H1 G1 x g1 d1 w1 => ?_, kx⟩
    obtain ⟨p, vs, w', rfl, g, e, d⟩ := hf G1 x v d1
    exact ⟨p, vs, i, w', rfl, rfl, .inl (.inl (g1.s _ _ g)), e, kk _ _ _ _ g1 d w1⟩
theorem pl_fst (G : Hp) (x : α × β) (v : V) (h : Den G (toD x) v) : ∃ p vs w, v = .ref p ∧ G p = some (.tup vs) ∧ L2.atI vs 0 = some w ∧ Den G (toD x.1) w := by
  have h : Den G (.tup [toD x.1, toD x.2]) v := h
  simp only [Den, DenL] at h
  obtain ⟨p, vs, rfl, g, ⟨w, r, rfl, d, u, r', rfl, d', rfl⟩, _⟩ := h
  exact ⟨p, _, w, rfl, g, rfl, d⟩
theorem pl_snd (G : Hp) (x : α × β) (v : V) (h : Den G (toD x) v) : ∃ p vs w, v = .ref p ∧ G p = some (.tup vs) ∧ L2.atI vs 1 = some w ∧ Den G (toD x.2) w := by
  have h : Den G (.tup [toD x.1, toD x.2]) v := h
  simp only [Den, DenL] at h
  obtain ⟨p, vs, rfl, g, ⟨w, r, rfl, d, u, r', rfl, d', rfl⟩, _⟩ := h
  exact ⟨p, _, u, rfl, g, rfl, d'⟩
theorem ex_fst {m : W (α × β)} {j p2} (ha : EX X P Wx Γ a m) : EX X P Wx Γ (.Subscript a (.Constant (.int 0) j p2) pos) (W.b1 m fun x => W.pure x.1) := ex_place ha pl_fst
theorem ex_snd {m : W (α × β)} {j p2} (ha : EX X P Wx Γ a m) : EX X P Wx Γ (.Subscript a (.Constant (.int 1) j p2) pos) (W.b1 m fun x => W.pure x.2) := ex_place ha pl_snd

/-! ### slices -/
def rdO (P : Par) (Wx : WX) (Γ : List Sl) (m : W (Option Int)) : TO := fun σ H Q' => ∃ (G : Hp) (Q : Option Int → Prop) (E : Ex → Prop), Rel P Γ σ G H ∧ m.wp Q E ∧
  (∀ H' G' a, Grow P G H G' H' → Q a → Q' a H') ∧ XC P Wx E
def EO (X : Cx) (P : Par) (Wx : WX) (Γ : List Sl) (e : Option Expr) (m : W (Option Int)) : Prop := PO X e (rdO P Wx Γ m)
theorem PO.imp {o : Option Expr} {t t' : TO} (h : PO X o t) (hi : ∀ σ H Q, t' σ H Q → t σ H Q) : PO X o t' := ⟨fun pins s σ H Q I q => h.run pins s σ H Q I (hi _ _ _ q)⟩
theorem eo_none : EO X P Wx Γ none (W.pure none) := PO.imp po_none fun σ H Q' h => by
  obtain ⟨G, Q, E, R, w, kk, kx⟩ := h
  exact kk H G none (Grow.refl R.toRelB) w
theorem eo_some {n : W Int} (h : EX X P Wx Γ e n) : EO X P Wx Γ (some e) (W.b1 n fun i => W.pure (some i)) := PO.imp (po_some h) fun σ H Q' h => by
  obtain ⟨G, Q, E, R, w, kk, kx⟩ := h
  exact ⟨G, _, E, R, w, fun v H1 G1 x g1 d1 w1 => ⟨x, den_int.mp d1, kk _ _ _ g1 w1⟩, kx⟩
/-- the part of a list between two places -/
def cut (l : List τ) (lo hi : Option Int) : List τ := (l.drop (HT.sIx l.length 0 lo)).take (HT.sIx l.length l.length hi - HT.sIx l.length 0 lo)
theorem DenL.cut {G : Hp} {l : List D} {vs : List V} (h : DenL G l vs) (lo hi : Option Int) : DenL G (Z.cut l lo hi) (cutV vs lo hi) := by
  unfold Z.cut cutV
  rw [h.length]
  exact DenL.take _ (DenL.drop _ h)
theorem cut_le (l : List τ) (lo hi : Option Int) : (cut l lo hi).length ≤ l.length := by
  unfold cut
  rw [List.length_take, List.length_drop]
  omega
theorem cut_map {f : α → D} (l : List α) (lo hi : Option Int) : (cut l lo hi).map f = cut (l.map f) lo hi := by
  unfold cut
  rw [List.map_take, List.map_drop, List.length_map]
theorem H_none {G H : Hp} {p : Addr} {G1 H1 : Hp} (R : RelB P G H) (g1 : Grow P G H G1 H1) (hp : H1 p = none) : H p = none := by
  cases z : H p with
  | none => rfl
  | some o =>
    by_cases dl : P.dl p
    · obtain ⟨o', z'⟩ := DealAt.there (R.grow g1).dk p dl
      rw [hp] at z'
      cases z'
    · rw [g1.h p o z dl] at hp
      cases hp
theorem en_slice {m : W (List α)} {n o : W (Option Int)} {lo hi : Option Expr} {p2 : Pos} (ha : EX X P Wx Γ a m) (hl : EO X P Wx Γ lo n) (hh : EO X P Wx Γ hi o) :
    EN X P Wx Γ (.Subscript a (.Slice lo hi none p2) pos) (W.b3 m n o fun l i j => W.pure (cut l i j)) :=
  PE.imp (pe_slice sl_list ha hl hh) fun σ H Q' h => by
    obtain ⟨G, Q, E, R, w, kk, kx⟩ := h
    refine ⟨G, _, E, R, w, fun v H1 G1 x g1 d1 w1 => ?_, kx⟩
    have R1 := R.grow g1
    refine ⟨G1, _, E, R1, w1, fun H2 G2 i g2 w2 => ?_, kx⟩
    have R2 := R1.grow g2
    refine ⟨G2, _, E, R2, w2, fun H3 G3 j g3 w3 => ?_, kx⟩
    have R3 := R2.grow g3
    have g13 := (g1.trans g2 (DealAt.there R1.dk)).trans g3 (DealAt.there R2.dk)
    obtain ⟨p, vs, rfl, g, t, zl⟩ := den_list.mp d1
    have g' : G3 p = some (.lst vs) := g3.g _ _ (g2.g _ _ g)
    refine ⟨p, vs, rfl, .inl (.inl (R3.sub _ _ g')), fun q hq => ?_⟩
    have g4 := grow_raw (o := .lst (cutV vs i j)) R3.toRelB hq
    refine kk q _ _ _ _ (g13.trans g4 (DealAt.there R3.dk)) (H_none R.toRelB g13 hq) (R3.toRelB.free hq).2.2 upd_same ?_ (Nat.le_trans (cut_le _ _ _) zl) w3
    rw [cut_map]
    exact (DenL.mono (fun b o z => g3.g b o (g2.g b o z)) _ _ t).cut i j
theorem ex_sliceT {m : W (Tup α)} {n o : W (Option Int)} {lo hi : Option Expr} {p2 : Pos} (ha : EX X P Wx Γ a m) (hl : EO X P Wx Γ lo n) (hh : EO X P Wx Γ hi o) :
    EX X P Wx Γ (.Subscript a (.Slice lo hi none p2) pos) (W.b3 m n o fun l i j => W.pure (⟨cut l.l i j⟩ : Tup α)) :=
  PE.imp (pe_slice sl_tupA ha hl hh) fun σ H Q' h => by
    obtain ⟨G, Q, E, R, w, kk, kx⟩ := h
    refine ⟨G, _, E, R, w, fun v H1 G1 x g1 d1 w1 => ?_, kx⟩
    have R1 := R.grow g1
    refine ⟨G1, _, E, R1, w1, fun H2 G2 i g2 w2 => ?_, kx⟩
    have R2 := R1.grow g2
    refine ⟨G2, _, E, R2, w2, fun H3 G3 j g3 w3 => ?_, kx⟩
    have R3 := R2.grow g3
    have g13 := (g1.trans g2 (DealAt.there R1.dk)).trans g3 (DealAt.there R2.dk)
    have d3 := Den.mono (fun b o z => g3.g b o (g2.g b o z)) _ _ d1
    obtain ⟨p, vs, rfl, g, t, zl⟩ := den_tup.mp d3
    refine ⟨p, vs, rfl, .inl (.inl (R3.sub _ _ g)), fun hw => ?_, fun hw q hq => ?_⟩
    · have e : cut x.l i j = x.l := by
        have hlen : vs.length = x.l.length := by rw [t.length, List.length_map]
        unfold cut
        rw [← hlen, hw.1, hw.2, hlen]
        simp
      have w3 : Q ⟨cut x.l i j⟩ := w3
      rw [e] at w3
      exact kk _ _ _ _ g13 d3 w3
    · have g4 := grow_new (o := .tup (cutV vs i j)) R3.toRelB hq
      refine kk _ _ _ _ (g13.trans g4 (DealAt.there R3.dk)) (den_tup.mpr ⟨q, _, rfl, upd_same, ?_, Nat.le_trans (cut_le x.l i j) zl⟩) w3
      show DenL _ ((cut x.l i j).map toD) _
      rw [cut_map]
      exact DenL.mono g4.g _ _ (t.cut i j)

/-! ### built-in functions -/
theorem blt (cc : Cok X P Wx N sc k) {x : Str} (h : x ∈ bnames := by decide) : X.mg x = none := by
  rw [cc.hmg]
  exact cc.bl x h
abbrev GlS (sc : Scope) (x : Str) : Prop := sc.names.lookup x = some .globalImplicit
theorem gl (cc : Cok X P Wx N sc k) {x : Str} (h : sc.names.lookup x = some .globalImplicit := by rfl) : Gl X x := by
  unfold Gl Env.kindOf
  rw [cc.hsc]
  exact h
/-- a built-in function of one thing -/
theorem ex_bf1 {id : String} {x : Str} {r : List V → Hp → VK → Prop} {m : W α} {f : α → W β} {p : Pos} (cc : Cok X P Wx N sc k) (hc : CallR X (.builtin id) r) (hv : bootBuiltins x = some (.builtin id)) (ha : EX X P Wx Γ e m)
    (core : ∀ (σ : L2.St) (G H : Hp) (y : α) (v : V) (Q : β → Prop) (E : Ex → Prop) (Q' : VK), Rel P Γ σ G H → Den G (toD y) v → (f y).wp Q E →
      (∀ w H' G' z, Grow P G H G' H' → Den G' (toD z) w → Q z → Q' w H') → r [v] H Q')
    (hx : x ∈ bnames) (hg : sc.names.lookup x = some .globalImplicit) (hn : x ≠ "__name__") (hdb : (x == ("__debug__" : Str)) = false)
    (hs : starEach [e] X.env = (false, eval e X.env) :: starEach [] X.env) : EX X P Wx Γ (.Call (.Name x p) [e] [] pos) (W.b1 m f) :=
  PE.imp (pe_callB hc (gl cc hg) (blt cc hx) hv (pa_cons ha pa_nil hs) hn hdb hs) fun σ H Q' h => by
    obtain ⟨G, Q, E, R, w, kk, kx⟩ := h
    refine ⟨G, _, E, R, w, fun v H1 G1 x g1 d1 w1 => ?_, kx⟩
    exact core σ G1 H1 x v Q E Q' (R.grow g1) d1 w1 fun w H3 G3 z g3 => kk w H3 G3 z (g1.trans g3 (DealAt.there (R.grow g1).dk))
theorem ex_bt1 {T : String} {x : Str} {r : List V → Hp → VK → Prop} {m : W α} {f : α → W β} {p : Pos} (cc : Cok X P Wx N sc k) (hc : CallR X (.type T) r) (hv : bootBuiltins x = some (.type T)) (ha : EX X P Wx Γ e m)
    (core : ∀ (σ : L2.St) (G H : Hp) (y : α) (v : V) (Q : β → Prop) (E : Ex → Prop) (Q' : VK), Rel P Γ σ G H → Den G (toD y) v → (f y).wp Q E →
      (∀ w H' G' z, Grow P G H G' H' → Den G' (toD z) w → Q z → Q' w H') → r [v] H Q')
    (hx : x ∈ bnames) (hg : sc.names.lookup x = some .globalImplicit) (hn : x ≠ "__name__") (hdb : (x == ("__debug__" : Str)) = false)
    (hs : starEach [e] X.env = (false, eval e X.env) :: starEach [] X.env) : EX X P Wx Γ (.Call (.Name x p) [e] [] pos) (W.b1 m f) :=
  PE.imp (pe_callTy hc (gl cc hg) (blt cc hx) hv (pa_cons ha pa_nil hs) hn hdb hs) fun σ H Q' h => by
    obtain ⟨G, Q, E, R, w, kk, kx⟩ := h
    refine ⟨G, _, E, R, w, fun v H1 G1 x g1 d1 w1 => ?_, kx⟩
    exact core σ G1 H1 x v Q E Q' (R.grow g1) d1 w1 fun w H3 G3 z g3 => kk w H3 G3 z (g1.trans g3 (DealAt.there (R.grow g1).dk))
theorem rd_sub {G H : Hp} {p : Addr} {vs : List V} (s : Sub G H) (g : G p = some (.lst vs)) : Rd H p (.lst vs) := .inl (s _ _ g)
variable {p : Pos}
theorem ex_lenL {m : W (List α)} (cc : Cok X P Wx N sc k) (ha : EX X P Wx Γ e m) (hg : GlS sc "len" := by rfl) (hs : starEach [e] X.env = (false, eval e X.env) :: starEach [] X.env := by rfl) :
    EX X P Wx Γ (.Call (.Name "len" p) [e] [] pos) (W.b1 m fun l => W.pure (l.length : Int)) :=
  ex_bf1 cc call_len_seq PySem.boot_len ha (fun σ G H y v Q E Q' R d w kk => by
    obtain ⟨q, vs, rfl, g, t, zl⟩ := den_list.mp d
    have hl : vs.length = y.length := by rw [t.length, List.length_map]
    refine ⟨q, vs, rfl, .inl (.inl (rd_sub R.sub g)), ?_⟩
    rw [hl]
    exact kk _ _ _ _ (Grow.refl R.toRelB) (den_int.mpr rfl) w) (by decide) hg (by decide) (by decide) hs
theorem ex_lenT {m : W (Tup α)} (cc : Cok X P Wx N sc k) (ha : EX X P Wx Γ e m) (hg : GlS sc "len" := by rfl) (hs : starEach [e] X.env = (false, eval e X.env) :: starEach [] X.env := by rfl) :
    EX X P Wx Γ (.Call (.Name "len" p) [e] [] pos) (W.b1 m fun l => W.pure (l.l.length : Int)) :=
  ex_bf1 cc call_len_seq PySem.boot_len ha (fun σ G H y v Q E Q' R d w kk => by
    obtain ⟨q, vs, rfl, g, t, zl⟩ := den_tup.mp d
    have hl : vs.length = y.l.length := by rw [t.length, List.length_map]
    refine ⟨q, vs, rfl, .inr (.inl (.inl (R.sub _ _ g))), ?_⟩
    rw [hl]
    exact kk _ _ _ _ (Grow.refl R.toRelB) (den_int.mpr rfl) w) (by decide) hg (by decide) (by decide) hs
def lenD (d : D) : W Int := match d with
  | .tup l => W.pure (l.length : Int)
  | .lst l => W.pure (l.length : Int)
  | _ => W.stuck
theorem ex_lenD {m : W D} (cc : Cok X P Wx N sc k) (ha : EX X P Wx Γ e m) (hg : GlS sc "len" := by rfl) (hs : starEach [e] X.env = (false, eval e X.env) :: starEach [] X.env := by rfl) :
    EX X P Wx Γ (.Call (.Name "len" p) [e] [] pos) (W.b1 m lenD) :=
  ex_bf1 cc call_len_seq PySem.boot_len ha (fun σ G H y v Q E Q' R d w kk => by
    unfold lenD at w
    cases y with
    | tup l =>
      have d : Den G (.tup l) v := d
      simp only [Den] at d
      obtain ⟨q, vs, rfl, g, t, zl⟩ := d
      refine ⟨q, vs, rfl, .inr (.inl (.inl (R.sub _ _ g))), ?_⟩
      rw [t.length]
      exact kk _ _ _ _ (Grow.refl R.toRelB) (den_int.mpr rfl) w
    | lst l =>
      have d : Den G (.lst l) v := d
      simp only [Den] at d
      obtain ⟨q, vs, rfl, g, t, zl⟩ := d
      refine ⟨q, vs, rfl, .inl (.inl (rd_sub R.sub g)), ?_⟩
      rw [t.length]
      exact kk _ _ _ _ (Grow.refl R.toRelB) (den_int.mpr rfl) w
    | _ => exact w.elim) (by decide) hg (by decide) (by decide) hs
theorem ex_all {m : W (List Bool)} (cc : Cok X P Wx N sc k) (ha : EX X P Wx Γ e m) (hg : GlS sc "all" := by rfl) (hs : starEach [e] X.env = (false, eval e X.env) :: starEach [] X.env := by rfl) :
    EX X P Wx Γ (.Call (.Name "all" p) [e] [] pos) (W.b1 m fun l => W.pure (l.all id)) :=
  ex_bf1 cc (cr_all cc.calm) (by decide +kernel) ha (fun σ G H y v Q E Q' R d w kk => by
    obtain ⟨q, vs, rfl, g, t, zl⟩ := den_list.mp d
    rw [DenL.bools] at t
    subst t
    exact ⟨q, y, rfl, .inl (rd_sub R.sub g), kk _ _ _ _ (Grow.refl R.toRelB) (den_bool.mpr rfl) w⟩) (by decide) hg (by decide) (by decide) hs
theorem ex_any {m : W (List Bool)} (cc : Cok X P Wx N sc k) (ha : EX X P Wx Γ e m) (hg : GlS sc "any" := by rfl) (hs : starEach [e] X.env = (false, eval e X.env) :: starEach [] X.env := by rfl) :
    EX X P Wx Γ (.Call (.Name "any" p) [e] [] pos) (W.b1 m fun l => W.pure (l.any id)) :=
  ex_bf1 cc (cr_any cc.calm) (by decide +kernel) ha (fun σ G H y v Q E Q' R d w kk => by
    obtain ⟨q, vs, rfl, g, t, zl⟩ := den_list.mp d
    rw [DenL.bools] at t
    subst t
    exact ⟨q, y, rfl, .inl (rd_sub R.sub g), kk _ _ _ _ (Grow.refl R.toRelB) (den_bool.mpr rfl) w⟩) (by decide) hg (by decide) (by decide) hs
theorem ex_sum {m : W (List Int)} (cc : Cok X P Wx N sc k) (ha : EX X P Wx Γ e m) (hg : GlS sc "sum" := by rfl) (hs : starEach [e] X.env = (false, eval e X.env) :: starEach [] X.env := by rfl) :
    EX X P Wx Γ (.Call (.Name "sum" p) [e] [] pos) (W.b1 m fun l => W.pure l.sum) :=
  ex_bf1 cc (cr_sum cc.calm) (by decide +kernel) ha (fun σ G H y v Q E Q' R d w kk => by
    obtain ⟨q, vs, rfl, g, t, zl⟩ := den_list.mp d
    rw [DenL.ints] at t
    subst t
    exact ⟨q, y, rfl, .inl (rd_sub R.sub g), kk _ _ _ _ (Grow.refl R.toRelB) (den_int.mpr rfl) w⟩) (by decide) hg (by decide) (by decide) hs
/-- the least, the greatest of some ints -/
def minW (l : List Int) : W Int := W.need (l ≠ []) (l.min?.getD 0)
def maxW (l : List Int) : W Int := W.need (l ≠ []) (l.max?.getD 0)
theorem ex_minL {m : W (List Int)} (cc : Cok X P Wx N sc k) (ha : EX X P Wx Γ e m) (hg : GlS sc "min" := by rfl) (hs : starEach [e] X.env = (false, eval e X.env) :: starEach [] X.env := by rfl) :
    EX X P Wx Γ (.Call (.Name "min" p) [e] [] pos) (W.b1 m minW) :=
  ex_bf1 cc (cr_min cc.calm) (by decide +kernel) ha (fun σ G H y v Q E Q' R d w kk => by
    obtain ⟨q, vs, rfl, g, t, zl⟩ := den_list.mp d
    rw [DenL.ints] at t
    subst t
    refine ⟨q, y, rfl, .inl (rd_sub R.sub g), List.length_pos_iff.mpr w.1, fun z hz hle => kk _ _ _ _ (Grow.refl R.toRelB) (den_int.mpr rfl) ?_⟩
    have e : y.min? = some z := List.min?_eq_some_iff.mpr ⟨hz, hle⟩
    have w2 := w.2
    rw [e] at w2
    exact w2) (by decide) hg (by decide) (by decide) hs
theorem ex_maxL {m : W (List Int)} (cc : Cok X P Wx N sc k) (ha : EX X P Wx Γ e m) (hg : GlS sc "max" := by rfl) (hs : starEach [e] X.env = (false, eval e X.env) :: starEach [] X.env := by rfl) :
    EX X P Wx Γ (.Call (.Name "max" p) [e] [] pos) (W.b1 m maxW) :=
  ex_bf1 cc (cr_max cc.calm) (by decide +kernel) ha (fun σ G H y v Q E Q' R d w kk => by
    obtain ⟨q, vs, rfl, g, t, zl⟩ := den_list.mp d
    rw [DenL.ints] at t
    subst t
    refine ⟨q, y, rfl, .inl (rd_sub R.sub g), List.length_pos_iff.mpr w.1, fun z hz hle => kk _ _ _ _ (Grow.refl R.toRelB) (den_int.mpr rfl) ?_⟩
    have e : y.max? = some z := List.max?_eq_some_iff.mpr ⟨hz, hle⟩
    have w2 := w.2
    rw [e] at w2
    exact w2) (by decide) hg (by decide) (by decide) hs
theorem ex_abs {m : W Int} (cc : Cok X P Wx N sc k) (ha : EX X P Wx Γ e m) (hg : GlS sc "abs" := by rfl) (hs : starEach [e] X.env = (false, eval e X.env) :: starEach [] X.env := by rfl) :
    EX X P Wx Γ (.Call (.Name "abs" p) [e] [] pos) (W.b1 m fun i => W.pure (if i < 0 then -i else i)) :=
  ex_bf1 cc call_abs (by decide +kernel) ha (fun σ G H y v Q E Q' R d w kk => ⟨y, by rw [den_int.mp d], kk _ _ _ _ (Grow.refl R.toRelB) (den_int.mpr rfl) w⟩) (by decide) hg (by decide) (by decide) hs
theorem ex_intI {m : W Int} (cc : Cok X P Wx N sc k) (ha : EX X P Wx Γ e m) (hg : GlS sc "int" := by rfl) (hs : starEach [e] X.env = (false, eval e X.env) :: starEach [] X.env := by rfl) :
    EX X P Wx Γ (.Call (.Name "int" p) [e] [] pos) (W.b1 m fun i => W.pure i) :=
  ex_bt1 cc call_int1 (by decide +kernel) ha (fun σ G H y v Q E Q' R d w kk => .inl ⟨y, by rw [den_int.mp d], kk _ _ _ _ (Grow.refl R.toRelB) (den_int.mpr rfl) w⟩) (by decide) hg (by decide) (by decide) hs
theorem ex_tupleL {m : W (List α)} (cc : Cok X P Wx N sc k) (ha : EX X P Wx Γ e m) (hg : GlS sc "tuple" := by rfl) (hs : starEach [e] X.env = (false, eval e X.env) :: starEach [] X.env := by rfl) :
    EX X P Wx Γ (.Call (.Name "tuple" p) [e] [] pos) (W.b1 m fun l => W.pure (⟨l⟩ : Tup α)) :=
  ex_bt1 cc call_tuple_of (by decide +kernel) ha (fun σ G H y v Q E Q' R d w kk => by
    obtain ⟨q, vs, rfl, g, t, zl⟩ := den_list.mp d
    refine ⟨q, vs, rfl, .inl ⟨.inl (rd_sub R.sub g), fun r hr => ?_⟩⟩
    have g4 := grow_new (o := .tup vs) R.toRelB hr
    exact kk _ _ _ _ g4 (den_tup.mpr ⟨r, vs, rfl, upd_same, DenL.mono g4.g _ _ t, zl⟩) w) (by decide) hg (by decide) (by decide) hs
theorem ex_tupleT {m : W (Tup α)} (cc : Cok X P Wx N sc k) (ha : EX X P Wx Γ e m) (hg : GlS sc "tuple" := by rfl) (hs : starEach [e] X.env = (false, eval e X.env) :: starEach [] X.env := by rfl) :
    EX X P Wx Γ (.Call (.Name "tuple" p) [e] [] pos) (W.b1 m fun l => W.pure l) :=
  ex_bt1 cc call_tuple_of (by decide +kernel) ha (fun σ G H y v Q E Q' R d w kk => by
    obtain ⟨q, vs, rfl, g, t, zl⟩ := den_tup.mp d
    exact ⟨q, vs, rfl, .inr ⟨.inl (.inl (R.sub _ _ g)), kk _ _ _ _ (Grow.refl R.toRelB) d w⟩⟩) (by decide) hg (by decide) (by decide) hs
def tupD (d : D) : W (Tup D) := match d with
  | .tup l => W.pure ⟨l⟩
  | .lst l => W.pure ⟨l⟩
  | _ => W.stuck
theorem map_id_D (l : List D) : l.map (toD (α := D)) = l := List.map_id l
theorem ex_tupleD {m : W D} (cc : Cok X P Wx N sc k) (ha : EX X P Wx Γ e m) (hg : GlS sc "tuple" := by rfl) (hs : starEach [e] X.env = (false, eval e X.env) :: starEach [] X.env := by rfl) :
    EX X P Wx Γ (.Call (.Name "tuple" p) [e] [] pos) (W.b1 m tupD) :=
  ex_bt1 cc call_tuple_of (by decide +kernel) ha (fun σ G H y v Q E Q' R d w kk => by
    unfold tupD at w
    cases y with
    | tup l =>
      have d : Den G (.tup l) v := d
      have d0 := d
      simp only [Den] at d
      obtain ⟨q, vs, rfl, g, t, zl⟩ := d
      refine ⟨q, vs, rfl, .inr ⟨.inl (.inl (R.sub _ _ g)), kk _ _ _ _ (Grow.refl R.toRelB) ?_ w⟩⟩
      rw [den_tup, map_id_D]
      exact ⟨q, vs, rfl, g, t, zl⟩
    | lst l =>
      have d : Den G (.lst l) v := d
      simp only [Den] at d
      obtain ⟨q, vs, rfl, g, t, zl⟩ := d
      refine ⟨q, vs, rfl, .inl ⟨.inl (rd_sub R.sub g), fun r hr => ?_⟩⟩
      have g4 := grow_new (o := .tup vs) R.toRelB hr
      refine kk _ _ _ _ g4 ?_ w
      rw [den_tup, map_id_D]
      exact ⟨r, vs, rfl, upd_same, DenL.mono g4.g _ _ t, zl⟩
    | _ => exact w.elim) (by decide) hg (by decide) (by decide) hs
end
end Z

set_option autoImplicit false
set_option Elab.async false
set_option linter.all false
set_option maxRecDepth 100000
set_option maxHeartbeats 2000003
namespace Z
open PySem PySem.Spec L2
open Py (toD)
section
variable {α β γ δ τ ρ μ : Type} [Py α] [Py β] [Py γ] [Py δ] [Py ρ]
variable {X : Cx} {P : Par} {Wx : WX} {Γ : List Sl} {N : List Str} {sc : Scope} {k : Nat} {a b c e : Expr} {pos : Pos} {es : List Expr} {st : Stmt} {sts rest : List Stmt}

/-! ### statements -/
/-- goes on -/
def rdS (P : Par) (Wx : WX) (Γ : List Sl) (m : W τ) (Nn : τ → List Sl) : TS := fun D σ H => ∃ (G : Hp) (Q : τ → Prop) (E : Ex → Prop), Rel P Γ σ G H ∧ m.wp Q E ∧
  (∀ t σ' H' G', Rel P (Nn t) σ' G' H' → Same G G' → Q t → D.nx σ' H') ∧ XC P Wx E
def S1 (X : Cx) (P : Par) (Wx : WX) (Γ : List Sl) (st : Stmt) (m : W τ) (Nn : τ → List Sl) : Prop := PS X st (rdS P Wx Γ m Nn)
def BB (X : Cx) (P : Par) (Wx : WX) (Γ : List Sl) (sts : List Stmt) (m : W τ) (Nn : τ → List Sl) : Prop := PSs X sts (rdS P Wx Γ m Nn)
/-- returns -/
def rdR (P : Par) (Wx : WX) (Γ : List Sl) (m : W ρ) : TS := fun D σ H => ∃ (G : Hp) (Q : ρ → Prop) (E : Ex → Prop), Rel P Γ σ G H ∧ m.wp Q E ∧
  (∀ r v H' G', RelB P G' H' → Den G' (toD r) v → Q r → D.rt v H') ∧ XC P Wx E
def TB (X : Cx) (P : Par) (Wx : WX) (Γ : List Sl) (sts : List Stmt) (m : W ρ) : Prop := PSs X sts (rdR P Wx Γ m)
/-- goes on, breaks, returns -/
def rdF (P : Par) (Wx : WX) (Γ : List Sl) (m : W (Fl τ μ ρ)) (Nn : τ → List Sl) (Lb : μ → List Sl) : TS := fun D σ H => ∃ (G : Hp) (Q : Fl τ μ ρ → Prop) (E : Ex → Prop), Rel P Γ σ G H ∧ m.wp Q E ∧
  (∀ t σ' H' G', Rel P (Nn t) σ' G' H' → Same G G' → Q (.nx t) → D.nx σ' H') ∧ (∀ t σ' H' G', Rel P (Lb t) σ' G' H' → Same G G' → Q (.bk t) → D.bk σ' H') ∧
  (∀ r v H' G', RelB P G' H' → Den G' (toD r) v → Q (.rt r) → D.rt v H') ∧ XC P Wx E
def FB (X : Cx) (P : Par) (Wx : WX) (Γ : List Sl) (sts : List Stmt) (m : W (Fl τ μ ρ)) (Nn : τ → List Sl) (Lb : μ → List Sl) : Prop := PSs X sts (rdF P Wx Γ m Nn Lb)
/-- breaks, returns -/
def rdX (P : Par) (Wx : WX) (Γ : List Sl) (m : W (Fl τ μ ρ)) (Lb : μ → List Sl) : TS := fun D σ H => ∃ (G : Hp) (Q : Fl τ μ ρ → Prop) (E : Ex → Prop), Rel P Γ σ G H ∧ m.wp Q E ∧
  (∀ t σ' H' G', Rel P (Lb t) σ' G' H' → Same G G' → Q (.bk t) → D.bk σ' H') ∧
  (∀ r v H' G', RelB P G' H' → Den G' (toD r) v → Q (.rt r) → D.rt v H') ∧ XC P Wx E
def XB (X : Cx) (P : Par) (Wx : WX) (Γ : List Sl) (sts : List Stmt) (m : W (Fl τ μ ρ)) (Lb : μ → List Sl) : Prop := PSs X sts (rdX P Wx Γ m Lb)
/-- a loop that may return -/
def rdL (P : Par) (Wx : WX) (Γ : List Sl) (m : W (Lp τ ρ)) (Nn : τ → List Sl) : TS := fun D σ H => ∃ (G : Hp) (Q : Lp τ ρ → Prop) (E : Ex → Prop), Rel P Γ σ G H ∧ m.wp Q E ∧
  (∀ t σ' H' G', Rel P (Nn t) σ' G' H' → Same G G' → Q (.dn t) → D.nx σ' H') ∧
  (∀ r v H' G', RelB P G' H' → Den G' (toD r) v → Q (.rt r) → D.rt v H') ∧ XC P Wx E
def L1 (X : Cx) (P : Par) (Wx : WX) (Γ : List Sl) (st : Stmt) (m : W (Lp τ ρ)) (Nn : τ → List Sl) : Prop := PS X st (rdL P Wx Γ m Nn)

theorem Rel.same {G G' H H' : Hp} (g : Grow P G H G' H') : Same G G' := g.g

/-! blocks -/
theorem bb_nil {Nn : τ → List Sl} {t : τ} (w : Wk Γ (Nn t)) : BB X P Wx Γ [] (W.pure t) Nn := PSs.imp pss_nil fun D σ H h => by
  obtain ⟨G, Q, E, R, q, kk, kx⟩ := h
  exact kk t σ H G (R.wk w) (fun _ _ z => z) q
theorem bb_cons {m : W μ} {Nm : μ → List Sl} {mk : μ → W τ} {Nn : τ → List Sl} (h1 : S1 X P Wx Γ st m Nm) (h2 : ∀ t, BB X P Wx (Nm t) rest (mk t) Nn) : BB X P Wx Γ (st :: rest) (m.bind mk) Nn := by
  refine ⟨fun pins s σ H D I h => ?_⟩
  obtain ⟨G, Q, E, R, q, kk, kx⟩ := h
  refine (pss_cons (u := fun D' σ1 H1 => ∃ t G1, Rel P (Nm t) σ1 G1 H1 ∧ (mk t).wp Q E ∧ (∀ t σ' H' G', Rel P (Nn t) σ' G' H' → Same G1 G' → Q t → D'.nx σ' H')) h1 ?_).run pins s σ H D I ⟨G, _, E, R, q, fun t σ1 H1 G1 R1 s1 q1 => ⟨t, G1, R1, q1, fun t' σ' H' G' R' s' q' => kk t' σ' H' G' R' (s1.trans s') q'⟩, kx⟩
  refine ⟨fun pins s σ1 H1 D' I1 h' => ?_⟩
  obtain ⟨t, G1, R1, q1, k1⟩ := h'
  exact (h2 t).run pins s σ1 H1 D' I1 ⟨G1, Q, E, R1, q1, k1, kx⟩
theorem tb_cons {m : W μ} {Nm : μ → List Sl} {mk : μ → W ρ} (h1 : S1 X P Wx Γ st m Nm) (h2 : ∀ t, TB X P Wx (Nm t) rest (mk t)) : TB X P Wx Γ (st :: rest) (m.bind mk) := by
  refine ⟨fun pins s σ H D I h => ?_⟩
  obtain ⟨G, Q, E, R, q, kk, kx⟩ := h
  refine (pss_cons (u := fun D' σ1 H1 => ∃ t G1, Rel P (Nm t) σ1 G1 H1 ∧ (mk t).wp Q E ∧ (∀ r v H' G', RelB P G' H' → Den G' (toD r) v → Q r → D'.rt v H')) h1 ?_).run pins s σ H D I ⟨G, _, E, R, q, fun t σ1 H1 G1 R1 s1 q1 => ⟨t, G1, R1, q1, kk⟩, kx⟩
  refine ⟨fun pins s σ1 H1 D' I1 h' => ?_⟩
  obtain ⟨t, G1, R1, q1, k1⟩ := h'
  exact (h2 t).run pins s σ1 H1 D' I1 ⟨G1, Q, E, R1, q1, k1, kx⟩
theorem fb_cons {ν : Type} {m : W ν} {Nm : ν → List Sl} {mk : ν → W (Fl τ μ ρ)} {Nn : τ → List Sl} {Lb : μ → List Sl} (h1 : S1 X P Wx Γ st m Nm) (h2 : ∀ t, FB X P Wx (Nm t) rest (mk t) Nn Lb) : FB X P Wx Γ (st :: rest) (m.bind mk) Nn Lb := by
  refine ⟨fun pins s σ H D I h => ?_⟩
  obtain ⟨G, Q, E, R, q, kk, kb, kr, kx⟩ := h
  refine (pss_cons (u := fun D' σ1 H1 => ∃ t G1, Rel P (Nm t) σ1 G1 H1 ∧ (mk t).wp Q E ∧ (∀ t σ' H' G', Rel P (Nn t) σ' G' H' → Same G1 G' → Q (.nx t) → D'.nx σ' H') ∧ (∀ t σ' H' G', Rel P (Lb t) σ' G' H' → Same G1 G' → Q (.bk t) → D'.bk σ' H') ∧ (∀ r v H' G', RelB P G' H' → Den G' (toD r) v → Q (.rt r) → D'.rt v H')) h1 ?_).run pins s σ H D I
    ⟨G, _, E, R, q, fun t σ1 H1 G1 R1 s1 q1 => ⟨t, G1, R1, q1, fun t' σ' H' G' R' s' q' => kk t' σ' H' G' R' (s1.trans s') q', fun t' σ' H' G' R' s' q' => kb t' σ' H' G' R' (s1.trans s') q', kr⟩, kx⟩
  refine ⟨fun pins s σ1 H1 D' I1 h' => ?_⟩
  obtain ⟨t, G1, R1, q1, k1, k2, k3⟩ := h'
  exact (h2 t).run pins s σ1 H1 D' I1 ⟨G1, Q, E, R1, q1, k1, k2, k3, kx⟩
theorem xb_cons {ν : Type} {m : W ν} {Nm : ν → List Sl} {mk : ν → W (Fl τ μ ρ)} {Lb : μ → List Sl} (h1 : S1 X P Wx Γ st m Nm) (h2 : ∀ t, XB X P Wx (Nm t) rest (mk t) Lb) : XB X P Wx Γ (st :: rest) (m.bind mk) Lb := by
  refine ⟨fun pins s σ H D I h => ?_⟩
  obtain ⟨G, Q, E, R, q, kb, kr, kx⟩ := h
  refine (pss_cons (u := fun D' σ1 H1 => ∃ t G1, Rel P (Nm t) σ1 G1 H1 ∧ (mk t).wp Q E ∧ (∀ t σ' H' G', Rel P (Lb t) σ' G' H' → Same G1 G' → Q (.bk t) → D'.bk σ' H') ∧ (∀ r v H' G', RelB P G' H' → Den G' (toD r) v → Q (.rt r) → D'.rt v H')) h1 ?_).run pins s σ H D I
    ⟨G, _, E, R, q, fun t σ1 H1 G1 R1 s1 q1 => ⟨t, G1, R1, q1, fun t' σ' H' G' R' s' q' => kb t' σ' H' G' R' (s1.trans s') q', kr⟩, kx⟩
  refine ⟨fun pins s σ1 H1 D' I1 h' => ?_⟩
  obtain ⟨t, G1, R1, q1, k2, k3⟩ := h'
  exact (h2 t).run pins s σ1 H1 D' I1 ⟨G1, Q, E, R1, q1, k2, k3, kx⟩
theorem fb_nil {Nn : τ → List Sl} {Lb : μ → List Sl} {t : τ} (w : Wk Γ (Nn t)) : FB X P Wx Γ [] (W.pure (.nx t) : W (Fl τ μ ρ)) Nn Lb := PSs.imp pss_nil fun D σ H h => by
  obtain ⟨G, Q, E, R, q, kk, kb, kr, kx⟩ := h
  exact kk t σ H G (R.wk w) (fun _ _ z => z) q
/-! ends -/
theorem tb_ret {m : W ρ} (h : EX X P Wx Γ e m) : TB X P Wx Γ [.Return (some e) pos] m := PSs.imp (pss_one (ps_ret h)) fun D σ H h => by
  obtain ⟨G, Q, E, R, q, kk, kx⟩ := h
  exact ⟨G, Q, E, R, q, fun v H' G' a g d q' => kk a v H' G' (R.toRelB.grow g) d q', kx⟩
theorem xb_ret {m : W ρ} {Lb : μ → List Sl} (h : EX X P Wx Γ e m) : XB X P Wx Γ [.Return (some e) pos] (m.bind fun r => W.pure (.rt r) : W (Fl τ μ ρ)) Lb := PSs.imp (pss_one (ps_ret h)) fun D σ H h => by
  obtain ⟨G, Q, E, R, q, kb, kr, kx⟩ := h
  exact ⟨G, _, E, R, q, fun v H' G' a g d q' => kr a v H' G' (R.toRelB.grow g) d q', kx⟩
theorem xb_break {Lb : μ → List Sl} {t : μ} (w : Wk Γ (Lb t)) : XB X P Wx Γ [.Break pos] (W.pure (.bk t) : W (Fl τ μ ρ)) Lb := PSs.imp (pss_one ps_break) fun D σ H h => by
  obtain ⟨G, Q, E, R, q, kb, kr, kx⟩ := h
  exact kb t σ H G (R.wk w) (fun _ _ z => z) q
/-! if -/
theorem cond_wp {x : Bool} {m n : W τ} {Q E} : (bif x then m else n).wp Q E = (bif x then m.wp Q E else n.wp Q E) := by cases x <;> rfl
theorem s_if {mc : W Bool} {ma mb : W τ} {Nn : τ → List Sl} {A B : List Stmt} (hc : TX X P Wx Γ c mc) (ha : BB X P Wx Γ A ma Nn) (hb : BB X P Wx Γ B mb Nn) : S1 X P Wx Γ (.If c A B pos) (W.ite mc ma mb) Nn :=
  PS.imp (ps_if hc ha hb) fun D σ H h => by
    obtain ⟨G, Q, E, R, q, kk, kx⟩ := h
    refine ⟨G, _, E, R, q, fun H1 G1 x g1 w1 => ?_, kx⟩
    cases x with
    | true => exact ⟨G1, Q, E, R.grow g1, w1, fun t σ' H' G' R' s' => kk t σ' H' G' R' (g1.g.trans s'), kx⟩
    | false => exact ⟨G1, Q, E, R.grow g1, w1, fun t σ' H' G' R' s' => kk t σ' H' G' R' (g1.g.trans s'), kx⟩
/-- the then-block returns, the rest follows -/
theorem tb_if {mc : W Bool} {ma mb : W ρ} {A B : List Stmt} (hc : TX X P Wx Γ c mc) (ha : TB X P Wx Γ A ma) (hb : TB X P Wx Γ rest mb) : TB X P Wx Γ (.If c A [] pos :: rest) (W.ite mc ma mb) :=
  PSs.imp (pss_cons (ps_if hc ha pss_nil) hb) fun D σ H h => by
    obtain ⟨G, Q, E, R, q, kk, kx⟩ := h
    refine ⟨G, _, E, R, q, fun H1 G1 x g1 w1 => ?_, kx⟩
    cases x with
    | true => exact ⟨G1, Q, E, R.grow g1, w1, kk, kx⟩
    | false => exact ⟨G1, Q, E, R.grow g1, w1, kk, kx⟩
theorem tb_if2 {mc : W Bool} {ma mb : W ρ} {A B : List Stmt} (hc : TX X P Wx Γ c mc) (ha : TB X P Wx Γ A ma) (hb : TB X P Wx Γ B mb) : TB X P Wx Γ [.If c A B pos] (W.ite mc ma mb) :=
  PSs.imp (pss_one (ps_if hc ha hb)) fun D σ H h => by
    obtain ⟨G, Q, E, R, q, kk, kx⟩ := h
    refine ⟨G, _, E, R, q, fun H1 G1 x g1 w1 => ?_, kx⟩
    cases x with
    | true => exact ⟨G1, Q, E, R.grow g1, w1, kk, kx⟩
    | false => exact ⟨G1, Q, E, R.grow g1, w1, kk, kx⟩
theorem fb_ifx {mc : W Bool} {ma mb : W (Fl τ μ ρ)} {A : List Stmt} {Nn : τ → List Sl} {Lb : μ → List Sl} (hc : TX X P Wx Γ c mc) (ha : XB X P Wx Γ A ma Lb) (hb : FB X P Wx Γ rest mb Nn Lb) : FB X P Wx Γ (.If c A [] pos :: rest) (W.ite mc ma mb) Nn Lb :=
  PSs.imp (pss_cons (ps_if hc ha pss_nil) hb) fun D σ H h => by
    obtain ⟨G, Q, E, R, q, kk, kb, kr, kx⟩ := h
    refine ⟨G, _, E, R, q, fun H1 G1 x g1 w1 => ?_, kx⟩
    cases x with
    | true => exact ⟨G1, Q, E, R.grow g1, w1, fun t σ' H' G' R' s' => kb t σ' H' G' R' (g1.g.trans s'), kr, kx⟩
    | false => exact ⟨G1, Q, E, R.grow g1, w1, fun t σ' H' G' R' s' => kk t σ' H' G' R' (g1.g.trans s'), fun t σ' H' G' R' s' => kb t σ' H' G' R' (g1.g.trans s'), kr, kx⟩
theorem xb_ifx {mc : W Bool} {ma mb : W (Fl τ μ ρ)} {A : List Stmt} {Lb : μ → List Sl} (hc : TX X P Wx Γ c mc) (ha : XB X P Wx Γ A ma Lb) (hb : XB X P Wx Γ rest mb Lb) : XB X P Wx Γ (.If c A [] pos :: rest) (W.ite mc ma mb) Lb :=
  PSs.imp (pss_cons (ps_if hc ha pss_nil) hb) fun D σ H h => by
    obtain ⟨G, Q, E, R, q, kb, kr, kx⟩ := h
    refine ⟨G, _, E, R, q, fun H1 G1 x g1 w1 => ?_, kx⟩
    cases x with
    | true => exact ⟨G1, Q, E, R.grow g1, w1, fun t σ' H' G' R' s' => kb t σ' H' G' R' (g1.g.trans s'), kr, kx⟩
    | false => exact ⟨G1, Q, E, R.grow g1, w1, fun t σ' H' G' R' s' => kb t σ' H' G' R' (g1.g.trans s'), kr, kx⟩
/-- both ways in full, then the rest -/
theorem fb_if {ν : Type} {mc : W Bool} {ma mb : W (Fl ν μ ρ)} {mk : ν → W (Fl τ μ ρ)} {A B : List Stmt} {Nm : ν → List Sl} {Nn : τ → List Sl} {Lb : μ → List Sl} (hc : TX X P Wx Γ c mc) (ha : FB X P Wx Γ A ma Nm Lb) (hb : FB X P Wx Γ B mb Nm Lb) (hr : ∀ t, FB X P Wx (Nm t) rest (mk t) Nn Lb) :
    FB X P Wx Γ (.If c A B pos :: rest) ((W.ite mc ma mb).bind fun z => match z with | .nx t => mk t | .bk t => W.pure (.bk t) | .rt r => W.pure (.rt r)) Nn Lb := by
  refine ⟨fun pins s σ H D I h => ?_⟩
  obtain ⟨G, Q, E, R, q, kk, kb, kr, kx⟩ := h
  refine (pss_cons (u := fun D' σ1 H1 => ∃ t G1, Rel P (Nm t) σ1 G1 H1 ∧ (mk t).wp Q E ∧ (∀ t σ' H' G', Rel P (Nn t) σ' G' H' → Same G1 G' → Q (.nx t) → D'.nx σ' H') ∧ (∀ t σ' H' G', Rel P (Lb t) σ' G' H' → Same G1 G' → Q (.bk t) → D'.bk σ' H') ∧ (∀ r v H' G', RelB P G' H' → Den G' (toD r) v → Q (.rt r) → D'.rt v H')) (ps_if hc ha hb) ?_).run pins s σ H D I ?_
  · refine ⟨fun pins s σ1 H1 D' I1 h' => ?_⟩
    obtain ⟨t, G1, R1, q1, k1, k2, k3⟩ := h'
    exact (hr t).run pins s σ1 H1 D' I1 ⟨G1, Q, E, R1, q1, k1, k2, k3, kx⟩
  · refine ⟨G, _, E, R, q, fun H1 G1 x g1 w1 => ?_, kx⟩
    have go : ∀ (mm : W (Fl ν μ ρ)) (S : List Stmt), mm.wp (fun a => (match a with | .nx t => mk t | .bk t => W.pure (.bk t) | .rt r => W.pure (.rt r) : W (Fl τ μ ρ)).wp Q E) E →
        rdF P Wx Γ mm Nm Lb { D with nx := fun σ1 H1 => ∃ t G1, Rel P (Nm t) σ1 G1 H1 ∧ (mk t).wp Q E ∧ (∀ t σ' H' G', Rel P (Nn t) σ' G' H' → Same G1 G' → Q (.nx t) → D.nx σ' H') ∧ (∀ t σ' H' G', Rel P (Lb t) σ' G' H' → Same G1 G' → Q (.bk t) → D.bk σ' H') ∧ (∀ r v H' G', RelB P G' H' → Den G' (toD r) v → Q (.rt r) → D.rt v H') } σ H1 := fun mm S w =>
      ⟨G1, _, E, R.grow g1, w, fun t σ' H' G' R' s' q' => ⟨t, G', R', q', fun t2 σ2 H2 G2 R2 s2 => kk t2 σ2 H2 G2 R2 ((g1.g.trans s').trans s2), fun t2 σ2 H2 G2 R2 s2 => kb t2 σ2 H2 G2 R2 ((g1.g.trans s').trans s2), kr⟩,
        fun t σ' H' G' R' s' q' => kb t σ' H' G' R' (g1.g.trans s') q', fun r v H' G' R' d q' => kr r v H' G' R' d q', kx⟩
    cases x with
    | true => exact go ma A w1
    | false => exact go mb B w1
theorem fb_of_xb {m : W (Fl τ μ ρ)} {Nn : τ → List Sl} {Lb : μ → List Sl} (h : XB X P Wx Γ sts m Lb) : FB X P Wx Γ sts m Nn Lb := PSs.imp h fun D σ H h => by
  obtain ⟨G, Q, E, R, q, kk, kb, kr, kx⟩ := h
  exact ⟨G, Q, E, R, q, kb, kr, kx⟩
/-- a full block at a def's end -/
theorem tb_fb {ν : Type} {ma mb : W (Fl ν Unit ρ)} {mc : W Bool} {mk : ν → W ρ} {A B : List Stmt} {Nm : ν → List Sl} (hc : TX X P Wx Γ c mc) (ha : FB X P Wx Γ A ma Nm (fun _ => [])) (hb : FB X P Wx Γ B mb Nm (fun _ => [])) (hr : ∀ t, TB X P Wx (Nm t) rest (mk t)) :
    TB X P Wx Γ (.If c A B pos :: rest) ((W.ite mc ma mb).bind fun z => match z with | .nx t => mk t | .bk _ => W.stuck | .rt r => W.pure r) := by
  refine ⟨fun pins s σ H D I h => ?_⟩
  obtain ⟨G, Q, E, R, q, kk, kx⟩ := h
  refine (pss_cons (u := fun D' σ1 H1 => ∃ t G1, Rel P (Nm t) σ1 G1 H1 ∧ (mk t).wp Q E ∧ (∀ r v H' G', RelB P G' H' → Den G' (toD r) v → Q r → D'.rt v H')) (ps_if hc ha hb) ?_).run pins s σ H D I ?_
  · refine ⟨fun pins s σ1 H1 D' I1 h' => ?_⟩
    obtain ⟨t, G1, R1, q1, k1⟩ := h'
    exact (hr t).run pins s σ1 H1 D' I1 ⟨G1, Q, E, R1, q1, k1, kx⟩
  · refine ⟨G, _, E, R, q, fun H1 G1 x g1 w1 => ?_, kx⟩
    have go : ∀ (mm : W (Fl ν Unit ρ)) (S : List Stmt), mm.wp (fun a => (match a with | .nx t => mk t | .bk _ => W.stuck | .rt r => W.pure r : W ρ).wp Q E) E →
        rdF P Wx Γ mm Nm (fun _ => []) { D with nx := fun σ1 H1 => ∃ t G1, Rel P (Nm t) σ1 G1 H1 ∧ (mk t).wp Q E ∧ (∀ r v H' G', RelB P G' H' → Den G' (toD r) v → Q r → D.rt v H') } σ H1 := fun mm S w =>
      ⟨G1, _, E, R.grow g1, w, fun t σ' H' G' R' s' q' => ⟨t, G', R', q', kk⟩,
        fun t σ' H' G' R' s' q' => (show False from q').elim, fun r v H' G' R' d q' => kk r v H' G' R' d q', kx⟩
    cases x with
    | true => exact go ma A w1
    | false => exact go mb B w1
/-! loops in a block -/
theorem tb_loop {m : W (Lp τ ρ)} {Nn : τ → List Sl} {mk : τ → W ρ} (h1 : L1 X P Wx Γ st m Nn) (h2 : ∀ t, TB X P Wx (Nn t) rest (mk t)) : TB X P Wx Γ (st :: rest) (W.thenR m mk) := by
  refine ⟨fun pins s σ H D I h => ?_⟩
  obtain ⟨G, Q, E, R, q, kk, kx⟩ := h
  refine (pss_cons (u := fun D' σ1 H1 => ∃ t G1, Rel P (Nn t) σ1 G1 H1 ∧ (mk t).wp Q E ∧ (∀ r v H' G', RelB P G' H' → Den G' (toD r) v → Q r → D'.rt v H')) h1 ?_).run pins s σ H D I ⟨G, _, E, R, q, fun t σ1 H1 G1 R1 s1 q1 => ⟨t, G1, R1, q1, kk⟩, fun r v H' G' R' d q' => kk r v H' G' R' d q', kx⟩
  refine ⟨fun pins s σ1 H1 D' I1 h' => ?_⟩
  obtain ⟨t, G1, R1, q1, k1⟩ := h'
  exact (h2 t).run pins s σ1 H1 D' I1 ⟨G1, Q, E, R1, q1, k1, kx⟩
theorem fb_loop {ν : Type} {m : W (Lp ν ρ)} {Nm : ν → List Sl} {mk : ν → W (Fl τ μ ρ)} {Nn : τ → List Sl} {Lb : μ → List Sl} (h1 : L1 X P Wx Γ st m Nm) (h2 : ∀ t, FB X P Wx (Nm t) rest (mk t) Nn Lb) : FB X P Wx Γ (st :: rest) (W.thenF m mk) Nn Lb := by
  refine ⟨fun pins s σ H D I h => ?_⟩
  obtain ⟨G, Q, E, R, q, kk, kb, kr, kx⟩ := h
  refine (pss_cons (u := fun D' σ1 H1 => ∃ t G1, Rel P (Nm t) σ1 G1 H1 ∧ (mk t).wp Q E ∧ (∀ t σ' H' G', Rel P (Nn t) σ' G' H' → Same G1 G' → Q (.nx t) → D'.nx σ' H') ∧ (∀ t σ' H' G', Rel P (Lb t) σ' G' H' → Same G1 G' → Q (.bk t) → D'.bk σ' H') ∧ (∀ r v H' G', RelB P G' H' → Den G' (toD r) v → Q (.rt r) → D'.rt v H')) h1 ?_).run pins s σ H D I
    ⟨G, _, E, R, q, fun t σ1 H1 G1 R1 s1 q1 => ⟨t, G1, R1, q1, fun t' σ' H' G' R' s' q' => kk t' σ' H' G' R' (s1.trans s') q', fun t' σ' H' G' R' s' q' => kb t' σ' H' G' R' (s1.trans s') q', kr⟩, fun r v H' G' R' d q' => kr r v H' G' R' d q', kx⟩
  refine ⟨fun pins s σ1 H1 D' I1 h' => ?_⟩
  obtain ⟨t, G1, R1, q1, k1, k2, k3⟩ := h'
  exact (h2 t).run pins s σ1 H1 D' I1 ⟨G1, Q, E, R1, q1, k1, k2, k3, kx⟩

/-! ### small statements -/
theorem s_set {m : W α} (cc : Dok X P Wx N sc k) (i : Nat) {x : Str} {p' : Pos} (he : EX X P Wx Γ e m) (hi : N[i]? = some x := by rfl) (hx : Loc sc x := by first | exact Or.inl rfl | exact Or.inr rfl)
    (hs : ∀ env : Env, env.scope = sc → swapsWith e (some (.Name x p')) pos.line env = pure false := by intro env h; first | rfl | (cases env; cases h; rfl)) :
    S1 X P Wx Γ (.Assign [.Name x p'] e pos) m (fun a => Γ.set i (.dat (toD a))) :=
  PS.imp (ps_set (i := i) (by rw [cc.hN]; exact cc.nd) (by rw [cc.hN]; exact hi) (by rw [cc.hsc]; exact hx) he (hs _ cc.hsc) (.inl (cc.fn x))) fun D σ H h => by
    obtain ⟨G, Q, E, R, q, kk, kx⟩ := h
    exact ⟨G, Q, E, R, q, fun v H' G' a g d q' => kk a _ H' G' ((R.grow g).set d) g.g q', kx⟩
theorem s_own {m : W (List α)} (cc : Dok X P Wx N sc k) (i : Nat) {x : Str} {p' : Pos} (he : EN X P Wx Γ e m) (hi : N[i]? = some x := by rfl) (hx : Loc sc x := by first | exact Or.inl rfl | exact Or.inr rfl)
    (hs : ∀ env : Env, env.scope = sc → swapsWith e (some (.Name x p')) pos.line env = pure false := by intro env h; first | rfl | (cases env; cases h; rfl)) :
    S1 X P Wx Γ (.Assign [.Name x p'] e pos) m (fun a => Γ.set i (.own (a.map toD))) :=
  PS.imp (ps_set (i := i) (by rw [cc.hN]; exact cc.nd) (by rw [cc.hN]; exact hi) (by rw [cc.hsc]; exact hx) he (hs _ cc.hsc) (.inl (cc.fn x))) fun D σ H h => by
    obtain ⟨G, Q, E, R, q, kk, kx⟩ := h
    refine ⟨G, Q, E, R, q, fun p vs H' G' a g hp gp hv d zl q' => kk a _ H' G' ((R.grow g).setOwn hv gp (R.toRelB.free hp).1 (R.toRelB.free hp).2.1 d (by rw [List.length_map]; exact zl) fun j l ej z => ?_) g.g q', kx⟩
    obtain ⟨o, e1, p', vs', e2, h2, _⟩ := R.slots j _ ej
    rw [z] at e1
    cases e1
    cases e2
    rw [hp] at h2
    cases h2
theorem s_drop {m : W α} (he : EX X P Wx Γ e m) (hs : swapsWith e none pos.line X.env = pure false := by rfl) : S1 X P Wx Γ (.Expr e pos) m (fun _ => Γ) :=
  PS.imp (ps_expr he hs) fun D σ H h => by
    obtain ⟨G, Q, E, R, q, kk, kx⟩ := h
    exact ⟨G, Q, E, R, q, fun v H' G' a g d q' => kk a σ H' G' (R.grow g) g.g q', kx⟩
end
end Z

set_option autoImplicit false
set_option Elab.async false
set_option linter.all false
set_option maxRecDepth 100000
set_option maxHeartbeats 2000003
namespace Z
open PySem PySem.Spec L2
open Py (toD)
section
variable {α β γ δ τ ρ μ : Type} [Py α] [Py β] [Py γ] [Py δ] [Py ρ]
variable {X : Cx} {P : Par} {Wx : WX} {Γ : List Sl} {N : List Str} {sc : Scope} {k : Nat} {a b c e tg iter : Expr} {pos : Pos} {es : List Expr} {st : Stmt} {sts rest body : List Stmt}

/-! ### a list of one's own -/
theorem Rel.ownAtK {σ : L2.St} {G H : Hp} {i : Nat} {ko : OK} {l : List D} (R : Rel P Γ σ G H) (h : Γ[i]? = some (.ownK ko l)) : ∃ p vs, σ[i]? = some (some (.ref p)) ∧ H p = some (ko.obj vs) ∧ G p = none ∧ P.H0 p = none ∧ ¬ P.dl p ∧ DenL G l vs ∧ l.length ≤ 16777216 := by
  obtain ⟨o, e, p, vs, rfl, h1, h2, h3, h4, h5⟩ := R.slots i _ h
  exact ⟨p, vs, e, h1, h2, h3, h4, h5.1, h5.2.1⟩
theorem Rel.ownAtL {σ : L2.St} {G H : Hp} {i : Nat} {ko : OK} {l : List D} (R : Rel P Γ σ G H) (h : Γ[i]? = some (.ownK ko l)) (hk : ∀ vs, ko.obj vs = .lst vs) : ∃ p vs, σ[i]? = some (some (.ref p)) ∧ H p = some (.lst vs) ∧ G p = none ∧ P.H0 p = none ∧ ¬ P.dl p ∧ DenL G l vs ∧ l.length ≤ 16777216 := by
  obtain ⟨p, vs, e, h1, r⟩ := R.ownAtK h
  rw [hk] at h1
  exact ⟨p, vs, e, h1, r⟩
theorem Rel.ownPin {σ : L2.St} {G H : Hp} {i : Nat} {p : Addr} {l : List D} (R : Rel P Γ σ G H) (h : Γ[i]? = some (.ownK (.pin p) l)) : ∃ vs, σ[i]? = some (some (.ref p)) ∧ H p = some (.lst vs) ∧ G p = none ∧ P.H0 p = none ∧ ¬ P.dl p ∧ DenL G l vs ∧ l.length ≤ 16777216 := by
  obtain ⟨o, e, q, vs, rfl, h1, h2, h3, h4, h5, h6, h7⟩ := R.slots i _ h
  have h7 : q = p := h7
  subst h7
  exact ⟨vs, e, h1, h2, h3, h4, h5, h6⟩
theorem Rel.ownAt {σ : L2.St} {G H : Hp} {i : Nat} {l : List D} (R : Rel P Γ σ G H) (h : Γ[i]? = some (.own l)) : ∃ p vs, σ[i]? = some (some (.ref p)) ∧ H p = some (.lst vs) ∧ G p = none ∧ P.H0 p = none ∧ ¬ P.dl p ∧ DenL G l vs ∧ l.length ≤ 16777216 := R.ownAtK h
/-- it is changed -/
theorem Rel.ownSetK {σ : L2.St} {G H : Hp} {i : Nat} {ko : OK} (kn : OK) {l l' : List D} {p : Addr} {ws : List V} (R : Rel P Γ σ G H) (h : Γ[i]? = some (.ownK ko l)) (hp : σ[i]? = some (some (.ref p))) (d : DenL G l' ws) (zl : l'.length ≤ 16777216) (ha : kn.okAt p := by exact True.intro) :
    Rel P (Γ.set i (.ownK kn l')) σ G (upd H p (kn.obj ws)) := by
  obtain ⟨p', vs, e, h1, h2, h3, h4, h5, _⟩ := R.ownAtK h
  rw [hp] at e
  cases e
  have ne : ∀ b o, G b = some o → b ≠ p := fun b o z q => by
    subst q
    rw [h2] at z
    cases z
  refine ⟨⟨fun b o z => by rw [upd_ne (ne b o z)]; exact R.sub b o z, fun b o z n => ?_, R.gr, R.ng, fun hb => ?_, R.gd, nt_upd R.toRelB (kn.no_tbl ws)⟩, by rw [List.length_set]; exact R.len, fun j s ej => ?_, fun j1 j2 x l1 l2 n12 e1 e2 z1 z2 => ?_⟩
  · rw [upd_ne (fun q => by subst q; rw [h3] at z; cases z)]
    exact R.fr b o z n
  · obtain ⟨⟨q0, xs, n, q1, q2, q3⟩, tt⟩ := R.dk hb
    have na : P.da ≠ p := fun q => h4 ⟨hb, .inl q.symm⟩
    have nq : P.dq ≠ p := fun q => h4 ⟨hb, .inr (.inl q.symm)⟩
    exact ⟨⟨q0, xs, n, by rw [upd_ne na]; exact q1, by rw [upd_ne nq]; exact q2, q3⟩, tabs_upd tt h1 (ko.no_tbl vs) (ko.no_code vs)⟩
  · by_cases q : i = j
    · subst q
      have hi : i < Γ.length := (List.getElem?_eq_some_iff.mp h).1
      rw [List.getElem?_set_self hi] at ej
      cases ej
      exact ⟨_, hp, p, ws, rfl, upd_same, h2, h3, h4, d, zl, ha⟩
    · rw [List.getElem?_set_ne q] at ej
      obtain ⟨o, eo, so⟩ := R.slots j s ej
      refine ⟨o, eo, ?_⟩
      cases s with
      | un => trivial
      | dat dd => exact so
      | deal => exact so
      | vl v => exact so
      | ownK _ m =>
        obtain ⟨p2, vs2, rfl, k1, k2, k3, k4, k5⟩ := so
        have n2 : p2 ≠ p := fun z => by
          subst z
          exact R.sep i j p2 l m q h ej hp eo
        exact ⟨p2, vs2, rfl, by rw [upd_ne n2]; exact k1, k2, k3, k4, k5⟩
  · have back : ∀ {k : OK} (j : Nat) (m : List D), (Γ.set i (.ownK kn l'))[j]? = some (.ownK k m) → ∃ k' m', Γ[j]? = some (.ownK k' m') := fun {k} j m z => by
      by_cases q : i = j
      · subst q
        exact ⟨ko, l, h⟩
      · rw [List.getElem?_set_ne q] at z
        exact ⟨k, m, z⟩
    obtain ⟨_, m1, f1⟩ := back j1 l1 e1
    obtain ⟨_, m2, f2⟩ := back j2 l2 e2
    exact R.sep j1 j2 x m1 m2 n12 f1 f2 z1 z2
theorem Rel.ownSet {σ : L2.St} {G H : Hp} {i : Nat} {l l' : List D} {p : Addr} {ws : List V} (R : Rel P Γ σ G H) (h : Γ[i]? = some (.own l)) (hp : σ[i]? = some (some (.ref p))) (d : DenL G l' ws) (zl : l'.length ≤ 16777216) :
    Rel P (Γ.set i (.own l')) σ G (upd H p (.lst ws)) := R.ownSetK .lst h hp d zl
/-- it is frozen -/
theorem Rel.fz {σ : L2.St} {G H : Hp} {i : Nat} {l : List D} (R : Rel P Γ σ G H) (h : Γ[i]? = some (.own l)) : ∃ G', Same G G' ∧ Rel P (Γ.set i (.dat (.lst l))) σ G' H := by
  obtain ⟨p, vs, e, h1, h2, h3, h4, h5, zl⟩ := R.ownAt h
  have hs : Same G (upd G p (.lst vs)) := fun b u z => by
    rw [upd_ne (ne_of_none z h2)]
    exact z
  refine ⟨upd G p (.lst vs), hs, ⟨fun b u z => ?_, R.fr, fun b u z => hs b u (R.gr b u z), fun b u z n => ?_, R.dk, fun b d => ?_, R.nt⟩, by rw [List.length_set]; exact R.len, fun j s ej => ?_, fun j1 j2 x l1 l2 n12 e1 e2 z1 z2 => ?_⟩
  · by_cases q : b = p
    · subst q
      rw [upd_same] at z
      rw [h1]
      exact z
    · rw [upd_ne q] at z
      exact R.sub b u z
  · by_cases q : b = p
    · subst q
      rw [h3] at z
      cases z
    · rw [upd_ne q]
      exact R.ng b u z n
  · by_cases q : b = p
    · subst q
      exact (h4 d).elim
    · rw [upd_ne q]
      exact R.gd b d
  · by_cases q : i = j
    · subst q
      have hi : i < Γ.length := (List.getElem?_eq_some_iff.mp h).1
      rw [List.getElem?_set_self hi] at ej
      cases ej
      refine ⟨_, e, .ref p, rfl, ?_⟩
      simp only [Den]
      exact ⟨p, vs, rfl, upd_same, DenL.mono hs _ _ h5, zl⟩
    · rw [List.getElem?_set_ne q] at ej
      obtain ⟨o, eo, so⟩ := R.slots j s ej
      refine ⟨o, eo, ?_⟩
      cases s with
      | un => trivial
      | dat dd =>
        obtain ⟨v, rfl, d⟩ := so
        exact ⟨v, rfl, Den.mono hs _ _ d⟩
      | deal => exact so
      | vl v => exact so
      | ownK _ m =>
        obtain ⟨p2, vs2, rfl, k1, k2, k3, k4, k5⟩ := so
        have n2 : p2 ≠ p := fun z => by
          subst z
          exact R.sep i j p2 l m q h ej e eo
        exact ⟨p2, vs2, rfl, k1, by rw [upd_ne n2]; exact k2, k3, k4, DenL.mono hs _ _ k5.1, k5.2⟩
  · have back : ∀ {k : OK} (j : Nat) (m : List D), (Γ.set i (.dat (.lst l)))[j]? = some (.ownK k m) → Γ[j]? = some (.ownK k m) := fun {k} j m z => by
      by_cases q : i = j
      · subst q
        have hi : i < Γ.length := (List.getElem?_eq_some_iff.mp h).1
        rw [List.getElem?_set_self hi] at z
        cases z
      · rw [List.getElem?_set_ne q] at z
        exact z
    exact R.sep j1 j2 x l1 l2 n12 (back j1 l1 e1) (back j2 l2 e2) z1 z2
theorem toD_list (l : List α) : toD l = .lst (l.map toD) := rfl
/-- from here on it is a thing like any other -/
theorem tb_fz {l : List α} {m : W ρ} (i : Nat) (h : TB X P Wx (Γ.set i (.dat (toD l))) sts m) (hi : Γ[i]? = some (.own (l.map toD)) := by rfl) : TB X P Wx Γ sts m := PSs.imp h fun D σ H h => by
  obtain ⟨G, Q, E, R, q, kk, kx⟩ := h
  obtain ⟨G', hs, R'⟩ := R.fz hi
  exact ⟨G', Q, E, R', q, kk, kx⟩
theorem bb_fz {l : List α} {m : W τ} {Nn : τ → List Sl} (i : Nat) (h : BB X P Wx (Γ.set i (.dat (toD l))) sts m Nn) (hi : Γ[i]? = some (.own (l.map toD)) := by rfl) : BB X P Wx Γ sts m Nn := PSs.imp h fun D σ H h => by
  obtain ⟨G, Q, E, R, q, kk, kx⟩ := h
  obtain ⟨G', hs, R'⟩ := R.fz hi
  exact ⟨G', Q, E, R', q, fun t σ' H' G2 R2 s2 => kk t σ' H' G2 R2 (hs.trans s2), kx⟩
theorem fb_fz {l : List α} {m : W (Fl τ μ ρ)} {Nn : τ → List Sl} {Lb : μ → List Sl} (i : Nat) (h : FB X P Wx (Γ.set i (.dat (toD l))) sts m Nn Lb) (hi : Γ[i]? = some (.own (l.map toD)) := by rfl) : FB X P Wx Γ sts m Nn Lb := PSs.imp h fun D σ H h => by
  obtain ⟨G, Q, E, R, q, kk, kb, kr, kx⟩ := h
  obtain ⟨G', hs, R'⟩ := R.fz hi
  exact ⟨G', Q, E, R', q, fun t σ' H' G2 R2 s2 => kk t σ' H' G2 R2 (hs.trans s2), fun t σ' H' G2 R2 s2 => kb t σ' H' G2 R2 (hs.trans s2), kr, kx⟩
theorem xb_fz {l : List α} {m : W (Fl τ μ ρ)} {Lb : μ → List Sl} (i : Nat) (h : XB X P Wx (Γ.set i (.dat (toD l))) sts m Lb) (hi : Γ[i]? = some (.own (l.map toD)) := by rfl) : XB X P Wx Γ sts m Lb := PSs.imp h fun D σ H h => by
  obtain ⟨G, Q, E, R, q, kb, kr, kx⟩ := h
  obtain ⟨G', hs, R'⟩ := R.fz hi
  exact ⟨G', Q, E, R', q, fun t σ' H' G2 R2 s2 => kb t σ' H' G2 R2 (hs.trans s2), kr, kx⟩
/-- a value that no heap is needed for -/
class Sc (α : Type) [Py α] : Prop where
  any : ∀ (G G' : Hp) (x : α) (v : V), Den G (toD x) v → Den G' (toD x) v
instance : Sc Int := ⟨fun _ _ _ _ h => den_int.mpr (den_int.mp h)⟩
instance : Sc Bool := ⟨fun _ _ _ _ h => den_bool.mpr (den_bool.mp h)⟩
instance : Sc Str := ⟨fun _ _ _ _ h => den_str.mpr (den_str.mp h)⟩
instance : Sc Unit := ⟨fun _ _ _ _ h => den_unit.mpr (den_unit.mp h)⟩
/-- p taken out again -/
theorem Grow.out {G G1 G2 H H2 : Hp} {p : Addr} {o : HO} (hG : G p = none) (e1 : ∀ b, b ≠ p → G1 b = G b) (hp : H p = some o) (g : Grow P G1 H G2 H2) : Grow P G H (fun b => if b = p then none else G2 b) H2 where
  g := fun b u z => by
    have n : b ≠ p := fun q => by subst q; rw [hG] at z; cases z
    show (if b = p then none else G2 b) = some u
    rw [if_neg n]
    exact g.g b u (by rw [e1 b n]; exact z)
  s := fun b u z => by
    have z : (if b = p then none else G2 b) = some u := z
    by_cases n : b = p
    · rw [if_pos n] at z; cases z
    · rw [if_neg n] at z; exact g.s b u z
  h := g.h
  n := fun b u z n => by
    show (if b = p then none else G2 b) = none
    by_cases q : b = p
    · rw [if_pos q]
    · rw [if_neg q]
      exact g.n b u z (by rw [e1 b q]; exact n)
  d := g.d
  t := g.t
/-- a list of one's own, lent as if it were frozen -/
theorem Rel.lend {σ : L2.St} {G H : Hp} {ko : OK} {l : List α} {i : Nat} {p : Addr} {vs : List V} (R : Rel P Γ σ G H) (hi : Γ[i]? = some (.ownK ko (l.map toD))) (ep : σ[i]? = some (some (.ref p))) (h1 : H p = some (.lst vs)) (h2 : G p = none) (h3 : P.H0 p = none) (h4 : ¬ P.dl p)
    (h5 : DenL G (l.map toD) vs) (zl : (l.map toD).length ≤ 16777216) : Rel P (Γ.set i (.dat (toD l))) σ (upd G p (.lst vs)) H := by
  have hs : Same G (upd G p (.lst vs)) := fun b u z => by
    rw [upd_ne (ne_of_none z h2)]
    exact z
  refine ⟨⟨fun b u z => ?_, R.fr, fun b u z => hs b u (R.gr b u z), fun b u z n => ?_, R.dk, fun b d => ?_, R.nt⟩, by rw [List.length_set]; exact R.len, fun j s ej => ?_, fun j1 j2 x l1 l2 n12 e1 e2 z1 z2 => ?_⟩
  · by_cases q : b = p
    · subst q
      rw [upd_same] at z
      rw [h1]
      exact z
    · rw [upd_ne q] at z
      exact R.sub b u z
  · by_cases q : b = p
    · subst q
      rw [h3] at z
      cases z
    · rw [upd_ne q]
      exact R.ng b u z n
  · by_cases q : b = p
    · subst q
      exact (h4 d).elim
    · rw [upd_ne q]
      exact R.gd b d
  · by_cases q : i = j
    · subst q
      have hi2 : i < Γ.length := (List.getElem?_eq_some_iff.mp hi).1
      rw [List.getElem?_set_self hi2] at ej
      cases ej
      refine ⟨_, ep, .ref p, rfl, ?_⟩
      exact den_list.mpr ⟨p, vs, rfl, upd_same, DenL.mono hs _ _ h5, by rw [List.length_map] at zl; exact zl⟩
    · rw [List.getElem?_set_ne q] at ej
      obtain ⟨o, eo, so⟩ := R.slots j s ej
      refine ⟨o, eo, ?_⟩
      cases s with
      | un => trivial
      | dat dd =>
        obtain ⟨v, rfl, d⟩ := so
        exact ⟨v, rfl, Den.mono hs _ _ d⟩
      | deal => exact so
      | vl v => exact so
      | ownK _ m =>
        obtain ⟨p2, vs2, rfl, k1, k2, k3, k4, k5⟩ := so
        have n2 : p2 ≠ p := fun z => by
          subst z
          exact R.sep i j p2 _ m q hi ej ep eo
        exact ⟨p2, vs2, rfl, k1, by rw [upd_ne n2]; exact k2, k3, k4, DenL.mono hs _ _ k5.1, k5.2⟩
  · have back : ∀ {k : OK} (j : Nat) (m : List D), (Γ.set i (.dat (toD l)))[j]? = some (.ownK k m) → Γ[j]? = some (.ownK k m) := fun {k} j m z => by
      by_cases q : i = j
      · subst q
        have hi2 : i < Γ.length := (List.getElem?_eq_some_iff.mp hi).1
        rw [List.getElem?_set_self hi2] at z
        cases z
      · rw [List.getElem?_set_ne q] at z
        exact z
    exact R.sep j1 j2 x l1 l2 n12 (back j1 l1 e1) (back j2 l2 e2) z1 z2
/-- a value of no heap, reckoned with a list of one's own as if it were frozen -/
theorem ex_bor [Sc β] {ko : OK} {l : List α} {m : W β} (i : Nat) (h : EX X P Wx (Γ.set i (.dat (toD l))) e m) (hi : Γ[i]? = some (.ownK ko (l.map toD)) := by rfl) (hk : ∀ vs, ko.obj vs = .lst vs := by intro _; rfl) : EX X P Wx Γ e m := PE.imp h fun σ H Q' h => by
  obtain ⟨G, Q, E, R, q, kk, kx⟩ := h
  obtain ⟨p, vs, ep, h1, h2, h3, h4, h5, zl⟩ := R.ownAtL hi hk
  refine ⟨upd G p (.lst vs), Q, E, R.lend hi ep h1 h2 h3 h4 h5 zl, q, fun v H' G' a g d qq => ?_, kx⟩
  exact kk v H' _ a (Grow.out h2 (fun b n => upd_ne n) h1 g) (Sc.any _ _ _ _ d) qq
theorem denL_sc [Sc β] {G G' : Hp} : ∀ {a : List β} {vs : List V}, DenL G (a.map toD) vs → DenL G' (a.map toD) vs
  | [], vs, d => d
  | x :: a, vs, ⟨v, r, e, d, h⟩ => ⟨v, r, e, Sc.any _ _ _ _ d, denL_sc h⟩
theorem en_bor [Sc β] {ko : OK} {l : List α} {m : W (List β)} (i : Nat) (h : EN X P Wx (Γ.set i (.dat (toD l))) e m) (hi : Γ[i]? = some (.ownK ko (l.map toD)) := by rfl) (hk : ∀ vs, ko.obj vs = .lst vs := by intro _; rfl) : EN X P Wx Γ e m := PE.imp h fun σ H Q' h => by
  obtain ⟨G, Q, E, R, q, kk, kx⟩ := h
  obtain ⟨p, vs, ep, h1, h2, h3, h4, h5, zl⟩ := R.ownAtL hi hk
  refine ⟨upd G p (.lst vs), Q, E, R.lend hi ep h1 h2 h3 h4 h5 zl, q, fun r ws H' G' a g hr gr hv d za qq => ?_, kx⟩
  refine kk r ws H' _ a (Grow.out h2 (fun b n => upd_ne n) h1 g) hr ?_ hv (denL_sc d) za qq
  show (if r = p then none else G' r) = none
  split
  · rfl
  · exact gr
/-- an item of a list of one's own -/
theorem ex_ownIx {ko : OK} {l : List α} {n : W Int} {x : Str} {p2 : Pos} (cc : Cok X P Wx N sc k) (i : Nat) (hb : EX X P Wx Γ b n) (hi : Γ[i]? = some (.ownK ko (l.map toD)) := by rfl) (hN : N[i]? = some x := by rfl)
    (hv : Vis sc x := by first | exact Or.inl rfl | exact Or.inr (Or.inl rfl) | exact Or.inr (Or.inr rfl)) (hd : (x == ("__debug__" : Str)) = false := by decide)
    (hcd : (x == ("__classdict__" : Str)) = false := by decide) (hs : PlainIx b := by intro _ _; rfl) (hk : ∀ vs, ko.obj vs = .lst vs := by intro _; rfl) : EX X P Wx Γ (.Subscript (.Name x p2) b pos) (W.b1 n fun j => ixW l j) :=
  PE.imp (pe_ix ix_list (pe_var (i := i) (by rw [cc.hN]; exact hN) (by rw [cc.hsc]; exact hv) hd hcd) hb hs) fun σ H Q' h => by
    obtain ⟨G, Q, E, R, w, kk, kx⟩ := h
    obtain ⟨p, vs, ep, _⟩ := R.ownAtL hi hk
    refine ⟨.ref p, ep, G, _, E, R, w, fun u H1 G1 y g1 d1 w1 => ?_, kx⟩
    have R1 := R.grow g1
    obtain ⟨p', vs', ep', h1, h2, h3, h4, h5, _⟩ := R1.ownAtL hi hk
    rw [ep] at ep'
    cases ep'
    obtain ⟨z, ez, qz⟩ := ixW_wp w1
    obtain ⟨w', e', d'⟩ := h5.atI (atI_map ez)
    exact ⟨p, vs', y, w', rfl, den_int.mp d1, .inl (.inl h1), e', kk _ _ _ _ g1 d' qz⟩
/-- x.append(e) -/
theorem s_append {l : List α} {m : W α} {x : Str} {p1 p2 pos : Pos} (cc : Cok X P Wx N sc k) (i : Nat) (he : EX X P Wx Γ e m) (hi : Γ[i]? = some (.own (l.map toD)) := by rfl) (hN : N[i]? = some x := by rfl)
    (hv : Vis sc x := by first | exact Or.inl rfl | exact Or.inr (Or.inl rfl) | exact Or.inr (Or.inr rfl)) (hd : (x == ("__debug__" : Str)) = false := by decide)
    (hcd : (x == ("__classdict__" : Str)) = false := by decide) {p3 : Pos} (hline : (p2.endLine == p3.line) = true := by rfl) (hs : starEach [e] X.env = (false, eval e X.env) :: starEach [] X.env := by rfl) :
    S1 X P Wx Γ (.Expr (.Call (.Attribute (.Name x p1) "append" p2) [e] [] p3) pos) (m.bind fun a => W.need (l.length < 16777216) a) (fun a => Γ.set i (.own ((l ++ [a]).map toD))) :=
  PS.imp (ps_expr (pe_bm PySem.F.plainAttrs_list PySem.F.slot_list_append PySem.F.type_list_append mt_append (pe_var (i := i) (by rw [cc.hN]; exact hN) (by rw [cc.hsc]; exact hv) hd hcd) (pa_cons he pa_nil hs) rfl (by rw [hs]; rfl) hline hs rfl)) fun D σ H h => by
    obtain ⟨G, Q, E, R, w, kk, kx⟩ := h
    obtain ⟨p, vs, ep, h1, _⟩ := R.ownAt hi
    refine ⟨.ref p, ep, .inl ⟨rfl, vs, .inl (.inl h1)⟩, G, _, E, R, w, fun u H1 G1 y g1 d1 w1 => ?_, kx⟩
    have R1 := R.grow g1
    obtain ⟨p', vs', ep', k1, k2, k3, k4, k5, zl⟩ := R1.ownAt hi
    rw [ep] at ep'
    cases ep'
    have hl : vs'.length = l.length := by rw [k5.length, List.length_map]
    refine ⟨p, vs', u, rfl, rfl, k1, ?_, kk y σ _ G1 (R1.ownSet hi ep (l' := (l ++ [y]).map toD) ?_ (by have := w1.1; simp; omega)) g1.g w1.2⟩
    · rw [hl, sizeLine_eq]
      exact w1.1
    · rw [List.map_append]
      exact DenL.append k5 (DenL.one d1)
/-- x[j] = e -/
theorem s_setIx {l : List α} {n : W Int} {m : W α} {x : Str} {p1 p2 pos : Pos} (cc : Cok X P Wx N sc k) (i : Nat) (he : EX X P Wx Γ e m) (hb : EX X P Wx Γ b n) (hi : Γ[i]? = some (.own (l.map toD)) := by rfl) (hN : N[i]? = some x := by rfl)
    (hv : Vis sc x := by first | exact Or.inl rfl | exact Or.inr (Or.inl rfl) | exact Or.inr (Or.inr rfl)) (hd : (x == ("__debug__" : Str)) = false := by decide)
    (hcd : (x == ("__classdict__" : Str)) = false := by decide) (hs : swapsWithSole [.Subscript (.Name x p1) b p2] e pos.line X.env = pure false := by rfl) (hw : swappedStores [.Subscript (.Name x p1) b p2] e X.env = pure none := by rfl)
    (ha : ∀ v, assign (.Subscript (.Name x p1) b p2) X.env v = (do
      let ov ← holding [v] (eval (.Name x p1) X.env)
      let iv ← holding [v, ov] (eval b X.env)
      standAt p2
      holding [v, ov, iv] (setItem ov iv v)
      release [v, ov, iv] []) := by intro _; rfl) :
    S1 X P Wx Γ (.Assign [.Subscript (.Name x p1) b p2] e pos) (W.b2 m n fun a j => match ixN l.length j with | some q => W.pure (l.set q a) | none => W.stuck) (fun l' => Γ.set i (.own (l'.map toD))) :=
  PS.imp (ps_asg he (pg_sub (pe_var (i := i) (by rw [cc.hN]; exact hN) (by rw [cc.hsc]; exact hv) hd hcd) hb set_list ha) hs hw) fun D σ H h => by
    obtain ⟨G, Q, E, R, w, kk, kx⟩ := h
    refine ⟨G, _, E, R, w, fun v H1 G1 y g1 d1 w1 => ?_, kx⟩
    have R1 := R.grow g1
    obtain ⟨p, vs, ep, h1, _⟩ := R1.ownAt hi
    refine ⟨.ref p, ep, G1, _, E, R1, w1, fun u H2 G2 j g2 d2 w2 => ?_, kx⟩
    have R2 := R1.grow g2
    obtain ⟨p', vs', ep', k1, k2, k3, k4, k5, zl⟩ := R2.ownAt hi
    rw [ep] at ep'
    cases ep'
    have hl : vs'.length = l.length := by rw [k5.length, List.length_map]
    cases ej : ixN l.length j with
    | none =>
      have w2 : (match ixN l.length j with | some q => W.pure (l.set q y) | none => W.stuck : W (List α)).wp Q E := w2
      rw [ej] at w2
      exact w2.elim
    | some q =>
      have w2 : (match ixN l.length j with | some q => W.pure (l.set q y) | none => W.stuck : W (List α)).wp Q E := w2
      rw [ej] at w2
      refine ⟨p, vs', j, q, rfl, den_int.mp d2, k1, by rw [hl]; exact ej, kk (l.set q y) σ _ G2 (R2.ownSet hi ep (l' := (l.set q y).map toD) ?_ (by simp at zl ⊢; exact zl)) (g1.g.trans g2.g) w2⟩
      rw [List.map_set]
      exact DenL.set (Den.mono g2.g _ _ d1) q k5
/-- x.pop(j), as the item -/
def EP (X : Cx) (P : Par) (Wx : WX) (Γ : List Sl) (e : Expr) (m : W (α × τ)) (f : τ → List Sl) : Prop := PE X e (fun σ H Q' => ∃ (G : Hp) (Q : α × τ → Prop) (E : Ex → Prop), Rel P Γ σ G H ∧ m.wp Q E ∧
  (∀ v H' G' a t, Rel P (f t) σ G' H' → Same G G' → Den G' (toD a) v → Q (a, t) → Q' v H') ∧ XC P Wx E)
def popW (l : List τ) (j : Int) : W (τ × List τ) := if h : 0 ≤ j ∧ j.toNat < l.length ∧ j < 2 ^ 63 then W.pure (l[j.toNat], l.eraseIdx j.toNat) else W.stuck
theorem ep_popAt {l : List α} {n : W Int} {x : Str} {p1 p2 p3 : Pos} (cc : Cok X P Wx N sc k) (i : Nat) (hb : EX X P Wx Γ b n) (hi : Γ[i]? = some (.own (l.map toD)) := by rfl) (hN : N[i]? = some x := by rfl)
    (hv : Vis sc x := by first | exact Or.inl rfl | exact Or.inr (Or.inl rfl) | exact Or.inr (Or.inr rfl)) (hd : (x == ("__debug__" : Str)) = false := by decide)
    (hcd : (x == ("__classdict__" : Str)) = false := by decide) (hline : (p2.endLine == p3.line) = true := by rfl) (hs : starEach [b] X.env = (false, eval b X.env) :: starEach [] X.env := by rfl) :
    EP X P Wx Γ (.Call (.Attribute (.Name x p1) "pop" p2) [b] [] p3) (n.bind fun j => popW l j) (fun l' => Γ.set i (.own (l'.map toD))) :=
  PE.imp (pe_bm PySem.F.plainAttrs_list PySem.F.slot_list_pop PySem.F.type_list_pop mt_popAt (pe_var (i := i) (by rw [cc.hN]; exact hN) (by rw [cc.hsc]; exact hv) hd hcd) (pa_cons hb pa_nil hs) rfl (by rw [hs]; rfl) hline hs rfl) fun σ H Q' h => by
    obtain ⟨G, Q, E, R, w, kk, kx⟩ := h
    obtain ⟨p, vs, ep, h1, _⟩ := R.ownAt hi
    refine ⟨.ref p, ep, .inl ⟨rfl, vs, .inl (.inl h1)⟩, G, _, E, R, w, fun u H1 G1 j g1 d1 w1 => ?_, kx⟩
    have R1 := R.grow g1
    obtain ⟨p', vs', ep', k1, k2, k3, k4, k5, zl⟩ := R1.ownAt hi
    rw [ep] at ep'
    cases ep'
    have hl : vs'.length = l.length := by rw [k5.length, List.length_map]
    have w1 : (popW l j).wp Q E := w1
    unfold popW at w1
    by_cases hj : 0 ≤ j ∧ j.toNat < l.length ∧ j < 2 ^ 63
    · rw [dif_pos hj] at w1
      obtain ⟨y, ey, dy⟩ := k5.get (i := j.toNat) (d := toD l[j.toNat]) (by rw [List.getElem?_map, List.getElem?_eq_getElem hj.2.1]; rfl)
      refine ⟨p, vs', j, j.toNat, y, rfl, by rw [den_int.mp d1], k1, by omega, hj.2.2, ?_, ey, ?_⟩
      · rw [hl]
        unfold seqIndex?
        have : ¬ j < 0 := by omega
        simp [this]
        omega
      · refine kk y _ G1 _ _ (R1.ownSet hi ep (l' := (l.eraseIdx j.toNat).map toD) ?_ (by have := len_erase l j.toNat; simp at zl ⊢; omega)) g1.g dy w1
        have er : ∀ (l : List D) (vs : List V) (q : Nat), DenL G1 l vs → DenL G1 (l.eraseIdx q) (vs.eraseIdx q) := by
          intro l
          induction l with
          | nil => intro vs q h; rw [DenL.nil_iff] at h; subst h; exact DenL.nil_iff.mpr rfl
          | cons d l ih =>
            intro vs q h
            obtain ⟨v, r, rfl, a, b⟩ := DenL.cons_iff.mp h
            cases q with
            | zero => exact b
            | succ q => exact DenL.cons_iff.mpr ⟨v, _, rfl, a, ih r q b⟩
        have em : ∀ (l : List α) (q : Nat), (l.eraseIdx q).map toD = (l.map toD).eraseIdx q := by
          intro l
          induction l with
          | nil => intro q; rfl
          | cons x l ih =>
            intro q
            cases q with
            | zero => rfl
            | succ q => simp [ih]
        rw [em]
        exact er _ _ _ k5
    · rw [dif_neg hj] at w1
      exact w1.elim
/-- y.append(x.pop(..)) -/
theorem s_appendP {l : List α} {m : W (α × τ)} {f : τ → List Sl} {x : Str} {p1 p2 pos : Pos} (cc : Cok X P Wx N sc k) (i : Nat) (he : EP X P Wx Γ e m f) (hi : ∀ t, (f t)[i]? = some (.own (l.map toD)) := by intro _; rfl) (hi0 : Γ[i]? = some (.own (l.map toD)) := by rfl) (hN : N[i]? = some x := by rfl)
    (hv : Vis sc x := by first | exact Or.inl rfl | exact Or.inr (Or.inl rfl) | exact Or.inr (Or.inr rfl)) (hd : (x == ("__debug__" : Str)) = false := by decide)
    (hcd : (x == ("__classdict__" : Str)) = false := by decide) {p3 : Pos} (hline : (p2.endLine == p3.line) = true := by rfl) (hs : starEach [e] X.env = (false, eval e X.env) :: starEach [] X.env := by rfl) :
    S1 X P Wx Γ (.Expr (.Call (.Attribute (.Name x p1) "append" p2) [e] [] p3) pos) (m.bind fun a => W.need (l.length < 16777216) a) (fun a => (f a.2).set i (.own ((l ++ [a.1]).map toD))) :=
  PS.imp (ps_expr (pe_bm PySem.F.plainAttrs_list PySem.F.slot_list_append PySem.F.type_list_append mt_append (pe_var (i := i) (by rw [cc.hN]; exact hN) (by rw [cc.hsc]; exact hv) hd hcd) (pa_cons he pa_nil hs) rfl (by rw [hs]; rfl) hline hs rfl)) fun D σ H h => by
    obtain ⟨G, Q, E, R, w, kk, kx⟩ := h
    obtain ⟨p, vs, ep, h1, _⟩ := R.ownAt hi0
    refine ⟨.ref p, ep, .inl ⟨rfl, vs, .inl (.inl h1)⟩, G, _, E, R, w, fun u H1 G1 y t R1 s1 d1 w1 => ?_, kx⟩
    obtain ⟨p', vs', ep', k1, k2, k3, k4, k5, zl⟩ := R1.ownAt (hi t)
    rw [ep] at ep'
    cases ep'
    have hl : vs'.length = l.length := by rw [k5.length, List.length_map]
    refine ⟨p, vs', u, rfl, rfl, k1, ?_, kk (y, t) σ _ G1 (R1.ownSet (hi t) ep (l' := (l ++ [y]).map toD) ?_ (by have := w1.1; simp; omega)) s1 w1.2⟩
    · rw [hl, sizeLine_eq]
      exact w1.1
    · rw [List.map_append]
      exact DenL.append k5 (DenL.one d1)
/-- x.pop(..) alone -/
theorem s_pop {m : W (α × τ)} {f : τ → List Sl} (he : EP X P Wx Γ e m f) (hs : swapsWith e none pos.line X.env = pure false := by rfl) : S1 X P Wx Γ (.Expr e pos) (m.bind fun a => W.pure a.2) f :=
  PS.imp (ps_expr he hs) fun D σ H h => by
    obtain ⟨G, Q, E, R, w, kk, kx⟩ := h
    exact ⟨G, _, E, R, w, fun v H' G' a t R' s' d q => kk t σ H' G' R' s' q, kx⟩
/-! ### targets -/
def rdG (P : Par) (Γ : List Sl) (f : α → List Sl) : TG := fun v σ H K => ∃ (x : α) (G : Hp), Rel P Γ σ G H ∧ Den G (toD x) v ∧ (∀ σ', Rel P (f x) σ' G H → K σ' H)
def GT (X : Cx) (P : Par) (Γ : List Sl) (tg : Expr) (f : α → List Sl) : Prop := PG X tg (rdG P Γ f)
theorem PG.imp {t t' : TG} (h : PG X e t) (hi : ∀ v σ H K, t' v σ H K → t v σ H K) : PG X e t' := ⟨fun pins s σ H v u K I r q => h.run pins s σ H v u K I r (hi _ _ _ _ q)⟩
theorem gt_name {x : Str} (cc : Dok X P Wx N sc k) (i : Nat) (hi : N[i]? = some x := by rfl) (hx : Loc sc x := by first | exact Or.inl rfl | exact Or.inr rfl) : GT X P Γ (.Name x pos) (fun a : α => Γ.set i (.dat (toD a))) :=
  PG.imp (pg_name (i := i) (by rw [cc.hN]; exact cc.nd) (by rw [cc.hN]; exact hi) (by rw [cc.hsc]; exact hx) (.inl (cc.fn x))) fun v σ H K ⟨y, G, R, d, h⟩ => h _ (R.set d)
theorem pair_v {G : Hp} {x : α × β} {v : V} (h : Den G (toD x) v) : ∃ p v1 v2, v = .ref p ∧ G p = some (.tup [v1, v2]) ∧ Den G (toD x.1) v1 ∧ Den G (toD x.2) v2 := by
  have h : Den G (.tup [toD x.1, toD x.2]) v := h
  simp only [Den, DenL] at h
  obtain ⟨p, vs, rfl, g, ⟨w, r, rfl, d, u, r', rfl, d', rfl⟩, _⟩ := h
  exact ⟨p, w, u, rfl, g, d, d'⟩
theorem gt_pair {t1 t2 : Expr} {kk : Nat} {f1 : α → List Sl} {f2 : α → β → List Sl} (cc : Cok X P Wx N sc k) (h1 : GT X P Γ t1 f1) (h2 : ∀ x, GT X P (f1 x) t2 (f2 x))
    (hs : (assignEach [t1, t2] X.env).map (·.2) = assign t1 X.env :: (assignEach [t2] X.env).map (·.2) := by rfl) (hs2 : (assignEach [t2] X.env).map (·.2) = assign t2 X.env :: (assignEach [] X.env).map (·.2) := by rfl)
    (hn : (assignEach [t1, t2] X.env).length = 2 := by rfl) (hst : (assignEach [t1, t2] X.env).findIdx? (·.1) = none := by rfl) : GT X P Γ (.Tuple [t1, t2] kk pos) (fun p : α × β => f2 p.1 p.2) := by
  have h2' : PG X t2 (fun v σ H K => ∃ x, rdG P (f1 x) (f2 x) v σ H K) := ⟨fun pins s σ H v u K I r ⟨x, q⟩ => (h2 x).run pins s σ H v u K I r q⟩
  refine PG.imp (pg_tup cc.calm (pgs_cons h1 (pgs_cons h2' pgs_nil hs2) hs) hn hst) fun v σ H K ⟨x, G, R, d, h⟩ => ?_
  obtain ⟨p, v1, v2, rfl, hp, d1, d2⟩ := pair_v d
  refine ⟨p, _, rfl, .inl (.inl (R.sub _ _ hp)), rfl, v1, [v2], rfl, x.1, G, R, d1, fun σ1 R1 => ⟨v2, [], rfl, x.1, x.2, G, R1, d2, fun σ2 R2 => ⟨rfl, h σ2 R2⟩⟩⟩

/-! ### what is walked -/
def ItOk (P : Par) (J : It) (G0 : Hp) (xs : List D) : Prop := ∀ G H, RelB P G H → Same G0 G → (∀ (i : Nat) (x : D), xs[i]? = some x → J.go i H ∧ ∀ v H', J.yld i H v H' → ∃ G', Grow P G H G' H' ∧ Den G' x v) ∧ J.stop xs.length H ∧ xs.length ≤ 16777216
def rdI (P : Par) (Wx : WX) (Γ : List Sl) (m : W (List α)) : TI := fun σ H R => ∃ (G : Hp) (Q : List α → Prop) (E : Ex → Prop), Rel P Γ σ G H ∧ m.wp Q E ∧
  (∀ J H' G' a, Grow P G H G' H' → ItOk P J G' (a.map toD) → Q a → R J H') ∧ XC P Wx E
def EI (X : Cx) (P : Par) (Wx : WX) (Γ : List Sl) (tg iter : Expr) (m : W (List α)) : Prop := PI X tg iter (rdI P Wx Γ m)
theorem PI.imp {t t' : TI} (h : PI X tg e t) (hi : ∀ σ H R, t' σ H R → t σ H R) : PI X tg e t' := ⟨fun pins s σ H R I q => h.run pins s σ H R I (hi _ _ _ q)⟩
theorem den_get {G : Hp} {l : List D} {vs : List V} {i : Nat} {x : D} {v : V} (d : DenL G l vs) (h : l[i]? = some x) (hv : vs[i]? = some v) : Den G x v := by
  obtain ⟨w, e, q⟩ := d.get h
  rw [hv] at e
  cases e
  exact q
theorem ei_list {m : W (List α)} (h : EX X P Wx Γ e m) : EI X P Wx Γ tg e m := PI.imp (pi_list h) fun σ H Q' h => by
  obtain ⟨G, Q, E, R, w, kk, kx⟩ := h
  refine ⟨G, Q, E, R, w, fun v H1 G1 x g1 d1 w1 => ?_, kx⟩
  obtain ⟨p, vs, rfl, g, t, zl⟩ := den_list.mp d1
  refine ⟨p, rfl, ⟨vs, .inl (rd_sub g1.s g)⟩, kk _ H1 G1 x g1 (fun G2 H2 R2 s2 => ?_) w1⟩
  have hl : vs.length = (x.map toD).length := t.length
  have sq : SqL X.K H2 p vs := .inl (rd_sub R2.sub (s2 _ _ g))
  refine ⟨fun i y hy => ?_, ⟨vs, sq, by omega⟩, by rw [List.length_map]; exact zl⟩
  obtain ⟨v, ev, dv⟩ := t.get hy
  exact ⟨⟨vs, v, sq, ev⟩, fun u H' ⟨e1, e2⟩ => by
    subst e1
    have z := e2 vs sq
    rw [ev] at z
    cases z
    exact ⟨G2, Grow.refl R2, Den.mono s2 _ _ dv⟩⟩
theorem ei_tup {m : W (Tup α)} (h : EX X P Wx Γ e m) : EI X P Wx Γ tg e (W.b1 m fun t => W.pure t.l) := PI.imp (pi_tup h) fun σ H Q' h => by
  obtain ⟨G, Q, E, R, w, kk, kx⟩ := h
  refine ⟨G, _, E, R, w, fun v H1 G1 x g1 d1 w1 => ?_, kx⟩
  obtain ⟨p, vs, rfl, g, t, zl⟩ := den_tup.mp d1
  refine ⟨p, rfl, ⟨vs, .inl (.inl (g1.s _ _ g))⟩, kk _ H1 G1 x.l g1 (fun G2 H2 R2 s2 => ?_) w1⟩
  have hl : vs.length = (x.l.map toD).length := t.length
  have sq : SqT X.K H2 p vs := .inl (.inl (R2.sub _ _ (s2 _ _ g)))
  refine ⟨fun i y hy => ?_, ⟨vs, sq, by omega⟩, by rw [List.length_map]; exact zl⟩
  obtain ⟨v, ev, dv⟩ := t.get hy
  exact ⟨⟨vs, v, sq, ev⟩, fun u H' ⟨e1, e2⟩ => by
    subst e1
    have z := e2 vs sq
    rw [ev] at z
    cases z
    exact ⟨G2, Grow.refl R2, Den.mono s2 _ _ dv⟩⟩
/-- lo, lo + 1, .. below hi -/
def rng (lo hi : Int) : List Int := (List.range (hi - lo).toNat).map fun (i : Nat) => lo + (i : Int)
def rngW (lo hi : Int) : W (List Int) := W.need (-(2 ^ 61) ≤ lo ∧ lo < 2 ^ 61 ∧ -(2 ^ 61) ≤ hi ∧ hi - lo ≤ 16777216) (rng lo hi)
theorem it_rng {J0 : Int} {n : Nat} {G : Hp} (hn : n ≤ 16777216) : ItOk P (Itr J0 n) G (((List.range n).map fun (i : Nat) => J0 + (i : Int)).map toD) := fun G2 H2 R2 s2 => by
  refine ⟨fun i y hy => ?_, by show n ≤ _; simp, by simpa using hn⟩
  rw [List.getElem?_map, List.getElem?_map] at hy
  by_cases hi : i < n
  · rw [List.getElem?_range hi] at hy
    have hy : some (toD (J0 + (i : Int))) = some y := hy
    cases hy
    exact ⟨hi, fun u H' ⟨e1, e2⟩ => by subst e1 e2; exact ⟨G2, Grow.refl R2, den_int.mpr rfl⟩⟩
  · rw [List.getElem?_eq_none (by simpa using hi)] at hy
    cases hy
theorem ei_range1 {m : W Int} {p : Pos} (cc : Cok X P Wx N sc k) (ha : EX X P Wx Γ a m) (hg : GlS sc "range" := by rfl) (hs : starEach [a] X.env = (false, eval a X.env) :: starEach [] X.env := by rfl) :
    EI X P Wx Γ tg (.Call (.Name "range" p) [a] [] pos) (W.b1 m fun j => rngW 0 j) := PI.imp (pi_range1 (gl cc hg) (blt cc) (pa_cons ha pa_nil hs) hs) fun σ H Q' h => by
  obtain ⟨G, Q, E, R, w, kk, kx⟩ := h
  refine ⟨G, _, E, R, w, fun v H1 G1 x g1 d1 w1 => ⟨x, by rw [den_int.mp d1], by have := w1.1; omega, by have := w1.1; omega, ?_⟩, kx⟩
  refine kk _ H1 G1 (rng 0 x) g1 ?_ w1.2
  have e : (x - 0).toNat = x.toNat := by omega
  unfold rng
  rw [e]
  exact it_rng (by have := w1.1; omega)
theorem ei_range2 {m n : W Int} {p : Pos} (cc : Cok X P Wx N sc k) (ha : EX X P Wx Γ a m) (hb : EX X P Wx Γ b n) (hg : GlS sc "range" := by rfl) (hs : starEach [a, b] X.env = (false, eval a X.env) :: starEach [b] X.env := by rfl) (hs2 : starEach [b] X.env = (false, eval b X.env) :: starEach [] X.env := by rfl) :
    EI X P Wx Γ tg (.Call (.Name "range" p) [a, b] [] pos) (W.b2 m n rngW) := PI.imp (pi_range2 (gl cc hg) (blt cc) (pa_cons ha (pa_cons hb pa_nil hs2) hs) (by rw [hs, hs2]; rfl) hs2) fun σ H Q' h => by
  obtain ⟨G, Q, E, R, w, kk, kx⟩ := h
  refine ⟨G, _, E, R, w, fun v H1 G1 x g1 d1 w1 => ?_, kx⟩
  have R1 := R.grow g1
  refine ⟨G1, _, E, R1, w1, fun v2 H2 G2 y g2 d2 w2 => ⟨x, y, by rw [den_int.mp d1, den_int.mp d2], by have := w2.1; omega, ?_⟩, kx⟩
  exact kk _ H2 G2 (rng x y) (g1.trans g2 (DealAt.there R1.dk)) (it_rng (by have := w2.1; omega)) w2.2
/-! ### for -/
theorem s_for {m : W (List α)} {f : α → τ → List Sl} {Nn : τ → List Sl} {mb : α → τ → W τ} (cc : Dok X P Wx N sc k) (t0 : τ) (hi : EI X P Wx Γ tg iter m) (w0 : Wk Γ (Nn t0)) (hg : ∀ t, GT X P (Nn t) tg (fun x => f x t)) (hb : ∀ x t, BB X P Wx (f x t) body (mb x t) Nn)
    (hs : ∀ x, foldedSetIterable iter X.env x = pure x := by intro _; rfl) : S1 X P Wx Γ (.For tg iter body [] pos) (m.bind fun l => W.forW l mb t0) Nn := by
  have hg' : PG X tg (fun v σ H K => ∃ t, rdG P (Nn t) (fun x => f x t) v σ H K) := ⟨fun pins s σ H v u K I r ⟨x, q⟩ => (hg x).run pins s σ H v u K I r q⟩
  have hb' : PSs X body (fun D σ H => ∃ x t, rdS P Wx (f x t) (mb x t) Nn D σ H) := ⟨fun pins s σ H D I ⟨x, t, q⟩ => (hb x t).run pins s σ H D I q⟩
  refine PS.imp (ps_for cc.po cc.calm hi hg' hb' hs) fun D σ H h => ?_
  obtain ⟨G, Q, E, R, w, kk, kx⟩ := h
  refine ⟨G, _, E, R, w, fun J H1 G1 l g1 it w1 => ?_, kx⟩
  refine ⟨fun i n σ H => n = l.length - i ∧ i ≤ l.length ∧ ∃ G2 t, Rel P (Nn t) σ G2 H ∧ Same G1 G2 ∧ (W.forW (l.drop i) mb t).wp Q E, ⟨_, rfl, Nat.zero_le _, G1, t0, (R.grow g1).wk w0, fun _ _ z => z, w1⟩, ?_⟩
  rintro i n σ2 H2 ⟨rfl, hle, G2, t, R2, s2, w2⟩
  obtain ⟨tr, sp⟩ := it G2 H2 R2.toRelB s2
  by_cases hlt : i < l.length
  · right
    have ed : l.drop i = l[i] :: l.drop (i + 1) := List.drop_eq_getElem_cons hlt
    obtain ⟨go, yl⟩ := tr i (toD l[i]) (by rw [List.getElem?_map, List.getElem?_eq_getElem hlt]; rfl)
    rw [ed] at w2
    refine ⟨go, fun σ' H' => ∃ G' t', Rel P (Nn t') σ' G' H' ∧ Same G1 G' ∧ (W.forW (l.drop (i + 1)) mb t').wp Q E, fun σ' H' ⟨G', t', R', s', w'⟩ => ⟨l.length - (i + 1), by omega, rfl, hlt, G', t', R', s', w'⟩, fun v H3 hy => ?_⟩
    obtain ⟨G3, g3, d3⟩ := yl v H3 hy
    refine ⟨t, l[i], G3, R2.grow g3, d3, fun σ4 R4 => ⟨l[i], t, G3, _, E, R4, w2, fun t' σ' H' G' R' s' w' => ⟨G', t', R', (s2.trans g3.g).trans s', w'⟩, kx⟩⟩
  · left
    have e : i = l.length := by omega
    subst e
    rw [List.length_map] at sp
    rw [List.drop_length] at w2
    exact ⟨sp.1, kk t σ2 H2 G2 R2 (g1.g.trans s2) w2⟩
theorem l_for {m : W (List α)} {f : α → τ → List Sl} {Nn : τ → List Sl} {mb : α → τ → W (Fl τ τ ρ)} (cc : Dok X P Wx N sc k) (t0 : τ) (hi : EI X P Wx Γ tg iter m) (w0 : Wk Γ (Nn t0)) (hg : ∀ t, GT X P (Nn t) tg (fun x => f x t)) (hb : ∀ x t, FB X P Wx (f x t) body (mb x t) Nn Nn)
    (hs : ∀ x, foldedSetIterable iter X.env x = pure x := by intro _; rfl) : L1 X P Wx Γ (.For tg iter body [] pos) (m.bind fun l => W.forF l mb t0) Nn := by
  have hg' : PG X tg (fun v σ H K => ∃ t, rdG P (Nn t) (fun x => f x t) v σ H K) := ⟨fun pins s σ H v u K I r ⟨x, q⟩ => (hg x).run pins s σ H v u K I r q⟩
  have hb' : PSs X body (fun D σ H => ∃ x t, rdF P Wx (f x t) (mb x t) Nn Nn D σ H) := ⟨fun pins s σ H D I ⟨x, t, q⟩ => (hb x t).run pins s σ H D I q⟩
  refine PS.imp (ps_for cc.po cc.calm hi hg' hb' hs) fun D σ H h => ?_
  obtain ⟨G, Q, E, R, w, kk, kr, kx⟩ := h
  refine ⟨G, _, E, R, w, fun J H1 G1 l g1 it w1 => ?_, kx⟩
  refine ⟨fun i n σ H => n = l.length - i ∧ i ≤ l.length ∧ ∃ G2 t, Rel P (Nn t) σ G2 H ∧ Same G1 G2 ∧ (W.forF (l.drop i) mb t).wp Q E, ⟨_, rfl, Nat.zero_le _, G1, t0, (R.grow g1).wk w0, fun _ _ z => z, w1⟩, ?_⟩
  rintro i n σ2 H2 ⟨rfl, hle, G2, t, R2, s2, w2⟩
  obtain ⟨tr, sp⟩ := it G2 H2 R2.toRelB s2
  by_cases hlt : i < l.length
  · right
    have ed : l.drop i = l[i] :: l.drop (i + 1) := List.drop_eq_getElem_cons hlt
    obtain ⟨go, yl⟩ := tr i (toD l[i]) (by rw [List.getElem?_map, List.getElem?_eq_getElem hlt]; rfl)
    rw [ed] at w2
    refine ⟨go, fun σ' H' => ∃ G' t', Rel P (Nn t') σ' G' H' ∧ Same G1 G' ∧ (W.forF (l.drop (i + 1)) mb t').wp Q E, fun σ' H' ⟨G', t', R', s', w'⟩ => ⟨l.length - (i + 1), by omega, rfl, hlt, G', t', R', s', w'⟩, fun v H3 hy => ?_⟩
    obtain ⟨G3, g3, d3⟩ := yl v H3 hy
    refine ⟨t, l[i], G3, R2.grow g3, d3, fun σ4 R4 => ⟨l[i], t, G3, _, E, R4, w2, fun t' σ' H' G' R' s' w' => ⟨G', t', R', (s2.trans g3.g).trans s', w'⟩, fun t' σ' H' G' R' s' w' => kk t' σ' H' G' R' ((g1.g.trans (s2.trans g3.g)).trans s') w', fun r v H' G' R' d w' => kr r v H' G' R' d w', kx⟩⟩
  · left
    have e : i = l.length := by omega
    subst e
    rw [List.length_map] at sp
    rw [List.drop_length] at w2
    exact ⟨sp.1, kk t σ2 H2 G2 R2 (g1.g.trans s2) w2⟩
/-! ### while -/
theorem s_while {Nn : τ → List Sl} {mc : τ → W Bool} {mb : τ → W τ} (cc : Dok X P Wx N sc k) (t0 : τ) (w0 : Wk Γ (Nn t0)) (hc : ∀ t, TX X P Wx (Nn t) c (mc t)) (hb : ∀ t, BB X P Wx (Nn t) body (mb t) Nn) : S1 X P Wx Γ (.While c body [] pos) (W.whileW mc mb t0) Nn := by
  have hc' : PT X c (fun σ H K => ∃ t, rdT P Wx (Nn t) (mc t) σ H K) := ⟨fun pins s σ H K I ⟨t, q⟩ => (hc t).run pins s σ H K I q⟩
  have hb' : PSs X body (fun D σ H => ∃ t, rdS P Wx (Nn t) (mb t) Nn D σ H) := ⟨fun pins s σ H D I ⟨t, q⟩ => (hb t).run pins s σ H D I q⟩
  refine PS.imp (ps_while cc.po hc' hb') fun D σ H h => ?_
  obtain ⟨G, Q, E, R, ⟨n0, w⟩, kk, kx⟩ := h
  refine ⟨fun n σ H => ∃ G2 t, Rel P (Nn t) σ G2 H ∧ Same G G2 ∧ (W.whN mc mb n t).wp Q E, ⟨n0, G, t0, R.wk w0, fun _ _ z => z, w⟩, ?_⟩
  rintro n σ2 H2 ⟨G2, t, R2, s2, w2⟩
  cases n with
  | zero => exact w2.elim
  | succ n =>
    refine ⟨t, G2, _, E, R2, w2, fun H3 G3 x g3 w3 => ?_, kx⟩
    cases x with
    | true =>
      refine ⟨fun σ' H' => ∃ G' t', Rel P (Nn t') σ' G' H' ∧ Same G G' ∧ (W.whN mc mb n t').wp Q E, fun σ' H' h => ⟨n, Nat.lt_succ_self _, h⟩, t, G3, _, E, R2.grow g3, w3, fun t' σ' H' G' R' s' w' => ⟨G', t', R', (s2.trans g3.g).trans s', w'⟩, kx⟩
    | false => exact kk t σ2 H3 G3 (R2.grow g3) (s2.trans g3.g) w3
theorem l_while {Nn : τ → List Sl} {mc : τ → W Bool} {mb : τ → W (Fl τ τ ρ)} (cc : Dok X P Wx N sc k) (t0 : τ) (w0 : Wk Γ (Nn t0)) (hc : ∀ t, TX X P Wx (Nn t) c (mc t)) (hb : ∀ t, FB X P Wx (Nn t) body (mb t) Nn Nn) : L1 X P Wx Γ (.While c body [] pos) (W.whileF mc mb t0) Nn := by
  have hc' : PT X c (fun σ H K => ∃ t, rdT P Wx (Nn t) (mc t) σ H K) := ⟨fun pins s σ H K I ⟨t, q⟩ => (hc t).run pins s σ H K I q⟩
  have hb' : PSs X body (fun D σ H => ∃ t, rdF P Wx (Nn t) (mb t) Nn Nn D σ H) := ⟨fun pins s σ H D I ⟨t, q⟩ => (hb t).run pins s σ H D I q⟩
  refine PS.imp (ps_while cc.po hc' hb') fun D σ H h => ?_
  obtain ⟨G, Q, E, R, ⟨n0, w⟩, kk, kr, kx⟩ := h
  refine ⟨fun n σ H => ∃ G2 t, Rel P (Nn t) σ G2 H ∧ Same G G2 ∧ (W.whF mc mb n t).wp Q E, ⟨n0, G, t0, R.wk w0, fun _ _ z => z, w⟩, ?_⟩
  rintro n σ2 H2 ⟨G2, t, R2, s2, w2⟩
  cases n with
  | zero => exact w2.elim
  | succ n =>
    refine ⟨t, G2, _, E, R2, w2, fun H3 G3 x g3 w3 => ?_, kx⟩
    cases x with
    | true =>
      refine ⟨fun σ' H' => ∃ G' t', Rel P (Nn t') σ' G' H' ∧ Same G G' ∧ (W.whF mc mb n t').wp Q E, fun σ' H' h => ⟨n, Nat.lt_succ_self _, h⟩, t, G3, _, E, R2.grow g3, w3, fun t' σ' H' G' R' s' w' => ⟨G', t', R', (s2.trans g3.g).trans s', w'⟩, fun t' σ' H' G' R' s' w' => kk t' σ' H' G' R' ((s2.trans g3.g).trans s') w', fun r v H' G' R' d w' => kr r v H' G' R' d w', kx⟩
    | false => exact kk t σ2 H3 G3 (R2.grow g3) (s2.trans g3.g) w3
end
end Z

set_option autoImplicit false
set_option Elab.async false
set_option linter.all false
set_option maxRecDepth 100000
set_option maxHeartbeats 2000003
namespace Z
open PySem PySem.Spec L2
open Py (toD)
section
variable {α β γ δ τ ρ μ : Type} [Py α] [Py β] [Py γ] [Py δ] [Py ρ]
variable {X : Cx} {P : Par} {Wx : WX} {Γ : List Sl} {N : List Str} {sc : Scope} {k : Nat} {a b c e tg iter elt : Expr} {pos : Pos} {es ifs : List Expr} {st : Stmt} {sts rest body : List Stmt}

/-! ### comprehensions -/
abbrev NoX : WX := fun _ _ _ _ => False
/-- nothing is raised -/
def nx (m : W τ) : W τ := ⟨fun Q _ => m.wp Q fun _ => False, fun h _ q => m.mono h (fun _ z => z) q⟩
@[simp] theorem nx_wp (m : W τ) (Q E) : (nx m).wp Q E = m.wp Q (fun _ => False) := rfl
@[simp] theorem nx_pure (x : τ) : nx (W.pure x) = W.pure x := rfl
theorem Cok.blk (cc : Cok X P Wx N sc k) (s : Shared) (H : Hp) (scope : Scope) (cl : List (Str × Addr)) (C : Addr) (fp : List Addr) : Cok (X.blk s H scope (compEnvC scope cl C X.env) fp) P NoX N (relS scope sc) k where
  hN := cc.hN
  hsc := by
    show relS scope X.env.scope = _
    rw [cc.hsc]
  hprog := cc.hprog
  hw := cc.hw
  hK := cc.hK
  hmg := cc.hmg
  hbase := cc.hbase
  bl := cc.bl
  calm := cc.calm
  nd := cc.nd
  room := cc.room
  tk := takes0
/-- the context of a block: its own names are free -/
def wipeΓ (Γ : List Sl) : List Nat → List Sl
  | [] => Γ
  | v :: vs => (wipeΓ Γ vs).set v .un
theorem Rel.wipe {σ : L2.St} {G H : Hp} (R : Rel P Γ σ G H) : ∀ vs : List Nat, Rel P (wipeΓ Γ vs) (L2.wipe σ vs) G H
  | [] => R
  | v :: vs => by
    have ih := Rel.wipe R vs
    refine ⟨R.toRelB, by unfold wipeΓ L2.wipe; rw [List.length_set, List.length_set]; exact ih.len, fun j s e => ?_, fun i j p l m ne e1 e2 z1 z2 => ?_⟩
    · unfold wipeΓ at e
      unfold L2.wipe
      by_cases q : v = j
      · subst q
        have hi : v < (wipeΓ Γ vs).length := by
          have := (List.getElem?_eq_some_iff.mp e).1
          rwa [List.length_set] at this
        rw [List.getElem?_set_self hi] at e
        cases e
        exact ⟨none, by rw [List.getElem?_set_self (by rw [ih.len]; exact hi)], trivial⟩
      · rw [List.getElem?_set_ne q] at e ⊢
        exact ih.slots j s e
    · unfold wipeΓ at e1 e2
      unfold L2.wipe at z1 z2
      have g : ∀ {ko : OK} (j : Nat) (m : List D), ((wipeΓ Γ vs).set v .un)[j]? = some (.ownK ko m) → v ≠ j := fun {ko} j m z q => by
        subst q
        have hi : v < (wipeΓ Γ vs).length := by
          have := (List.getElem?_eq_some_iff.mp z).1
          rwa [List.length_set] at this
        rw [List.getElem?_set_self hi] at z
        cases z
      have n1 := g i l e1
      have n2 := g j m e2
      rw [List.getElem?_set_ne n1] at e1 z1
      rw [List.getElem?_set_ne n2] at e2 z2
      exact ih.sep i j p l m ne e1 e2 z1 z2
/-- a target in a block -/
def GB (X : Cx) (P : Par) (Γ : List Sl) (vs : List Nat) (tg : Expr) (f : α → List Sl) : Prop := PG X tg (fun v σ H K => ∃ (x : α) (G : Hp) (σ0 : L2.St), L2.wipe σ vs = L2.wipe σ0 vs ∧ Rel P Γ σ G H ∧ Den G (toD x) v ∧ (∀ σ', L2.wipe σ' vs = L2.wipe σ0 vs → Rel P (f x) σ' G H → K σ' H))
theorem wipe_set {σ : L2.St} {o : Option V} : ∀ (vs : List Nat) (i : Nat), i ∈ vs → L2.wipe (σ.set i o) vs = L2.wipe σ vs
  | [], i, h => by simp at h
  | v :: vs, i, h => by
    show (L2.wipe (σ.set i o) vs).set v none = (L2.wipe σ vs).set v none
    have sw : ∀ (ws : List Nat) (τ : L2.St), i ∉ ws → L2.wipe (τ.set i o) ws = (L2.wipe τ ws).set i o := by
      intro ws
      induction ws with
      | nil => intro τ _; rfl
      | cons w ws ih =>
        intro τ hn
        show (L2.wipe (τ.set i o) ws).set w none = ((L2.wipe τ ws).set w none).set i o
        rw [ih τ (fun z => hn (List.mem_cons_of_mem _ z)), List.set_comm]
        intro q
        exact hn (by rw [q]; exact List.mem_cons_self)
    by_cases q : i ∈ vs
    · rw [wipe_set vs i q]
    · have e : i = v := by
        rcases List.mem_cons.mp h with z | z
        · exact z
        · exact (q z).elim
      subst e
      rw [sw vs σ q, List.set_set]
theorem gb_name {vs : List Nat} {x : Str} (hN : X.N = N) (nd : N.Nodup) (i : Nat) (hi : N[i]? = some x := by rfl) (hx : Loc X.env.scope x := by first | exact Or.inl rfl | exact Or.inr rfl)
    (hf : X.fn x = true ∨ X.env.scope.names.lookup x = some .local := by first | exact .inl rfl | exact .inr rfl) (hm : i ∈ vs := by decide) : GB X P Γ vs (.Name x pos) (fun a : α => Γ.set i (.dat (toD a))) :=
  PG.imp (pg_name (i := i) (by rw [hN]; exact nd) (by rw [hN]; exact hi) hx hf) fun v σ H K ⟨y, G, σ0, hw, R, d, h⟩ => h _ (by rw [wipe_set vs i hm]; exact hw) (R.set d)
theorem gb_pair {vs : List Nat} {t1 t2 : Expr} {kk : Nat} {f1 : α → List Sl} {f2 : α → β → List Sl} (hc : X.calm = true) (h1 : GB X P Γ vs t1 f1) (h2 : ∀ x, GB X P (f1 x) vs t2 (f2 x))
    (hs : (assignEach [t1, t2] X.env).map (·.2) = assign t1 X.env :: (assignEach [t2] X.env).map (·.2) := by rfl) (hs2 : (assignEach [t2] X.env).map (·.2) = assign t2 X.env :: (assignEach [] X.env).map (·.2) := by rfl)
    (hn : (assignEach [t1, t2] X.env).length = 2 := by rfl) (hst : (assignEach [t1, t2] X.env).findIdx? (·.1) = none := by rfl) : GB X P Γ vs (.Tuple [t1, t2] kk pos) (fun p : α × β => f2 p.1 p.2) := by
  have h2' : PG X t2 (fun v σ H K => ∃ x, ∃ (y : β) (G : Hp) (σ0 : L2.St), L2.wipe σ vs = L2.wipe σ0 vs ∧ Rel P (f1 x) σ G H ∧ Den G (toD y) v ∧ (∀ σ', L2.wipe σ' vs = L2.wipe σ0 vs → Rel P (f2 x y) σ' G H → K σ' H)) := ⟨fun pins s σ H v u K I r ⟨x, q⟩ => (h2 x).run pins s σ H v u K I r q⟩
  refine PG.imp (pg_tup hc (pgs_cons h1 (pgs_cons h2' pgs_nil hs2) hs) hn hst) fun v σ H K ⟨x, G, σ0, hw, R, d, h⟩ => ?_
  obtain ⟨p, v1, v2, rfl, hp, d1, d2⟩ := pair_v d
  refine ⟨p, _, rfl, .inl (.inl (R.sub _ _ hp)), rfl, v1, [v2], rfl, x.1, G, σ0, hw, R, d1, fun σ1 hw1 R1 => ⟨v2, [], rfl, x.1, x.2, G, σ0, hw1, R1, d2, fun σ2 hw2 R2 => ⟨rfl, h σ2 hw2 R2⟩⟩⟩
theorem Grow.app {G H : Hp} {D' : Addr} {xs ys : List V} (R : RelB P G H) (h : H D' = some (.lst xs)) (hg : G D' = none) (h0 : P.H0 D' = none) (hd : ¬ P.dl D') : RelB P G (upd H D' (.lst ys)) where
  sub := fun b o z => by
    rw [upd_ne (ne_of_none z hg)]
    exact R.sub b o z
  fr := fun b o z n => by
    rw [upd_ne (ne_of_none z h0)]
    exact R.fr b o z n
  gr := R.gr
  ng := R.ng
  dk := fun hb => by
    obtain ⟨⟨q0, zs, n, q1, q2, q3⟩, tt⟩ := R.dk hb
    have na : P.da ≠ D' := fun q => hd ⟨hb, .inl q.symm⟩
    have nq : P.dq ≠ D' := fun q => hd ⟨hb, .inr (.inl q.symm)⟩
    exact ⟨⟨q0, zs, n, by rw [upd_ne na]; exact q1, by rw [upd_ne nq]; exact q2, q3⟩, tabs_upd tt h (lst_no_tbl _) (lst_no_code _)⟩
  gd := R.gd
  nt := nt_upd R (lst_no_tbl ys)
/-- a slot's things do not hang on an object that is not theirs -/
theorem Rel.other {σ : L2.St} {G H : Hp} {D' : Addr} {o : HO} (R : Rel P Γ σ G H) (B : RelB P G (upd H D' o)) (hn : ∀ {ko : OK} (j : Nat) (m : List D), Γ[j]? = some (.ownK ko m) → σ[j]? ≠ some (some (.ref D'))) : Rel P Γ σ G (upd H D' o) :=
  ⟨B, R.len, fun j s e => by
    obtain ⟨ov, eo, so⟩ := R.slots j s e
    refine ⟨ov, eo, ?_⟩
    cases s with
    | un => trivial
    | dat dd => exact so
    | deal => exact so
    | vl v => exact so
    | ownK _ m =>
      obtain ⟨p2, vs2, rfl, k1, k2, k3, k4, k5⟩ := so
      have n2 : p2 ≠ D' := fun z => by
        subst z
        exact hn j m e eo
      exact ⟨p2, vs2, rfl, by rw [upd_ne n2]; exact k1, k2, k3, k4, k5⟩, R.sep⟩
/-- the state at a turn of a comprehension: what was at the start, and the list made so far at D' -/
structure Lc (P : Par) (Γ : List Sl) (σ : L2.St) (G0 H0' : Hp) (D' : Addr) (acc : List D) (G H : Hp) : Prop where
  rel : Rel P Γ σ G H
  at_ : ∃ vs, H D' = some (.lst vs) ∧ DenL G acc vs
  gn : G D' = none
  h0 : P.H0 D' = none
  nd : ¬ P.dl D'
  no : ∀ {ko : OK} (j : Nat) (m : List D), Γ[j]? = some (.ownK ko m) → σ[j]? ≠ some (some (.ref D'))
  sg : Same G0 G
  hh : ∀ b o, H0' b = some o → ¬ P.dl b → H b = some o
  hn : ∀ b o, H0' b = some o → G0 b = none → G b = none
theorem Lc.grow {σ : L2.St} {G0 H0' G H G' H' : Hp} {D' : Addr} {acc : List D} (L : Lc P Γ σ G0 H0' D' acc G H) (g : Grow P G H G' H') : Lc P Γ σ G0 H0' D' acc G' H' where
  rel := L.rel.grow g
  at_ := let ⟨vs, h, d⟩ := L.at_; ⟨vs, g.h _ _ h L.nd, DenL.mono g.g _ _ d⟩
  gn := let ⟨vs, h, d⟩ := L.at_; g.n _ _ h L.gn
  h0 := L.h0
  nd := L.nd
  no := L.no
  sg := L.sg.trans g.g
  hh := fun b o z d => g.h b o (L.hh b o z d) d
  hn := fun b o z n => by
    by_cases q : P.dl b
    · obtain ⟨o', z'⟩ := DealAt.there L.rel.dk b q
      exact g.n b o' z' (L.hn b o z n)
    · exact g.n b o (L.hh b o z q) (L.hn b o z n)
theorem Lc.app {σ : L2.St} {G0 H0' G H : Hp} {D' : Addr} {acc : List D} {d : D} {v : V} {vs : List V} (L : Lc P Γ σ G0 H0' D' acc G H) (hv : H D' = some (.lst vs)) (hd : Den G d v) (f0 : H0' D' = none) :
    Lc P Γ σ G0 H0' D' (acc ++ [d]) G (upd H D' (.lst (vs ++ [v]))) where
  rel := L.rel.other (Grow.app L.rel.toRelB hv L.gn L.h0 L.nd) L.no
  at_ := by
    obtain ⟨ws, h, t⟩ := L.at_
    rw [hv] at h
    cases h
    exact ⟨_, upd_same, DenL.append t (DenL.one hd)⟩
  gn := L.gn
  h0 := L.h0
  nd := L.nd
  no := L.no
  sg := L.sg
  hh := fun b o z n => by
    rw [upd_ne (ne_of_none z f0)]
    exact L.hh b o z n
  hn := L.hn
/-- tests of a comprehension -/
def TT1 (X : Cx) (P : Par) (Γ : List Sl) (ifs : List Expr) (m : W Bool) : Prop := PTs X ifs (rdT P NoX Γ m)
theorem t_nil : TT1 X P Γ [] (W.pure true) := ⟨fun pins s σ H Q I h => by
  obtain ⟨G, Q', E, R, w, kk, kx⟩ := h
  exact pts_nil.run pins s σ H Q I (kk H G true (Grow.refl R.toRelB) w)⟩
theorem t_one {m : W Bool} (h : TX X P NoX Γ c m) : TT1 X P Γ [c] m := pts_one h
variable {scope : Scope} {own : List (Str × Nat)}
theorem wipe_wipe (σ : L2.St) (vs : List Nat) : L2.wipe (L2.wipe σ vs) vs = L2.wipe σ vs := by
  have key : ∀ (ws : List Nat), (∀ w ∈ ws, w ∈ vs) → L2.wipe (L2.wipe σ vs) ws = L2.wipe σ vs := by
    intro ws
    induction ws with
    | nil => intro _; rfl
    | cons w ws ih =>
      intro h
      show (L2.wipe (L2.wipe σ vs) ws).set w none = _
      rw [ih fun x hx => h x (List.mem_cons_of_mem _ hx)]
      have at_ : ∀ (us : List Nat) (τ : L2.St), w ∈ us → (L2.wipe τ us).set w none = L2.wipe τ us := by
        intro us
        induction us with
        | nil => intro τ h; simp at h
        | cons u us ih2 =>
          intro τ hm
          show ((L2.wipe τ us).set u none).set w none = (L2.wipe τ us).set u none
          by_cases q : u = w
          · subst q; rw [List.set_set]
          · rw [List.set_comm _ _ q, ih2 τ (by rcases List.mem_cons.mp hm with z | z; exact (q z.symm).elim; exact z)]
      exact at_ vs σ (h w List.mem_cons_self)
  exact key vs fun _ h => h
theorem lc_read {wi : TI} {f : α → List Sl} {mt : α → W Bool} {me : α → W β} {vs : List Nat} {m : W (List α)} {σ : L2.St} {H : Hp} {Q' : VK} (hwi : ∀ σ H R, rdI P Wx Γ m σ H R → wi σ H R)
    {gg : TG} {tt : TT} {te : TE} (hgg : ∀ v σ H K, (∃ (x : α) (G : Hp) (σ0 : L2.St), L2.wipe σ vs = L2.wipe σ0 vs ∧ Rel P (wipeΓ Γ vs) σ G H ∧ Den G (toD x) v ∧ (∀ σ', L2.wipe σ' vs = L2.wipe σ0 vs → Rel P (f x) σ' G H → K σ' H)) → gg v σ H K)
    (htt : ∀ σ H K, (∃ x, rdT P NoX (f x) (mt x) σ H K) → tt σ H K) (hte : ∀ σ H K, (∃ x, rdE P NoX (f x) (me x) σ H K) → te σ H K)
    (h : rdN P Wx Γ (m.bind fun l => W.filterW (fun x => nx (mt x)) (fun x => nx (me x)) l) σ H Q') : tLc wi gg tt te vs σ H Q' := by
  obtain ⟨G, Q, E, R, w, kk, kx⟩ := h
  refine hwi _ _ _ ⟨G, _, E, R, w, fun J H1 G1 l g1 it w1 D' hD => ?_, kx⟩
  have R1 := R.grow g1
  have nxc : XC P NoX (fun _ => False) := fun _ _ _ _ _ _ _ _ z => z
  have fH : H D' = none := H_none R.toRelB g1 hD
  have fr1 := R1.toRelB.free hD
  have L0 : Lc P Γ σ G1 H1 D' [] G1 (upd H1 D' (.lst [])) := by
    refine ⟨R1.grow (grow_raw R1.toRelB hD), ⟨[], upd_same, DenL.nil_iff.mpr rfl⟩, fr1.2.2, fr1.1, fr1.2.1, fun j m ej z => ?_, fun _ _ z => z, fun b o z d => ?_, fun b o z n => n⟩
    · obtain ⟨o, eo, p, vs', e2, h1, _⟩ := R1.slots j _ ej
      rw [z] at eo
      cases eo
      cases e2
      rw [hD] at h1
      cases h1
    · rw [upd_ne (ne_of_none z hD)]
      exact z
  refine ⟨fun i n H => n = l.length - i ∧ i ≤ l.length ∧ ∃ (G2 : Hp) (acc : List β), Lc P Γ σ G1 H1 D' (acc.map toD) G2 H ∧ acc.length ≤ i ∧
    (W.filterW (fun x => nx (mt x)) (fun x => nx (me x)) (l.drop i)).wp (fun ys => Q (acc ++ ys)) E, ⟨_, rfl, Nat.zero_le _, G1, [], L0, Nat.le_refl _, w1⟩, ?_⟩
  rintro i n H2 ⟨rfl, hle, G2, acc, L, hacc, w2⟩
  obtain ⟨tr, sp, zl⟩ := it G2 H2 L.rel.toRelB L.sg
  rw [List.length_map] at zl
  by_cases hlt : i < l.length
  · right
    have ed : l.drop i = l[i] :: l.drop (i + 1) := List.drop_eq_getElem_cons hlt
    obtain ⟨go, yl⟩ := tr i (toD l[i]) (by rw [List.getElem?_map, List.getElem?_eq_getElem hlt]; rfl)
    rw [ed] at w2
    refine ⟨go, fun H' => ∃ (G' : Hp) (acc' : List β), Lc P Γ σ G1 H1 D' (acc'.map toD) G' H' ∧ acc'.length ≤ i + 1 ∧ (W.filterW (fun x => nx (mt x)) (fun x => nx (me x)) (l.drop (i + 1))).wp (fun ys => Q (acc' ++ ys)) E,
      fun H' ⟨G', acc', L', hl', w'⟩ => ⟨l.length - (i + 1), by omega, rfl, hlt, G', acc', L', hl', w'⟩, fun v H3 hy => ?_⟩
    obtain ⟨G3, g3, d3⟩ := yl v H3 hy
    have L3 := L.grow g3
    refine hgg _ _ _ _ ⟨l[i], G3, σ, wipe_wipe σ vs, L3.rel.wipe vs, d3, fun σ4 hw4 R4 => ⟨hw4, ?_⟩⟩
    refine htt _ _ _ ⟨l[i], G3, _, _, R4, w2, fun H5 G5 b g5 w5 => ?_, nxc⟩
    have L5 := L3.grow g5
    cases b with
    | false => exact ⟨G5, acc, L5, by omega, w5⟩
    | true =>
      refine hte _ _ _ ⟨l[i], G5, _, _, R4.grow g5, w5, fun u H6 G6 y g6 d6 w6 => ?_, nxc⟩
      have L6 := L5.grow g6
      obtain ⟨ws, hws, tws⟩ := L6.at_
      have hlen : ws.length = acc.length := by rw [tws.length, List.length_map]
      refine ⟨ws, hws, by rw [hlen, sizeLine_eq]; omega, G6, acc ++ [y], ?_, by simp; omega, ?_⟩
      · rw [List.map_append]
        exact L6.app hws d6 hD
      · have e : (fun ys => Q (acc ++ [y] ++ ys)) = fun ys => Q (acc ++ y :: ys) := by
          funext ys
          rw [List.append_assoc]
          rfl
        rw [e]
        exact w6
  · left
    have e : i = l.length := by omega
    subst e
    rw [List.length_map] at sp
    rw [List.drop_length] at w2
    have w2 : Q (acc ++ []) := w2
    rw [List.append_nil] at w2
    obtain ⟨ws, hws, tws⟩ := L.at_
    refine ⟨sp, kk D' ws H2 G2 acc ⟨g1.g.trans L.sg, L.rel.sub, fun b o z d => L.hh b o (g1.h b o z d) d, fun b o z n => ?_, L.rel.dk, R.toRelB.tH L.rel.toRelB⟩ fH L.gn hws tws (by omega) w2⟩
    by_cases q : P.dl b
    · obtain ⟨o', z'⟩ := DealAt.there R1.dk b q
      exact L.hn b o' z' (g1.n b o z n)
    · exact L.hn b o (g1.h b o z q) (g1.n b o z n)
/-- [elt for target in iter if ..]; N' is where a block stands -/
theorem en_lc {m : W (List α)} {f : α → List Sl} {mt : α → W Bool} {me : α → W β} (cc : Cok X P Wx N sc k) (own : List (Str × Nat)) (hi : EI X P Wx Γ tg iter m) (ok : blkC N sc scope own = true)
    (hb : ∀ X', Cok X' P NoX N (relS scope sc) k → (∀ x, X'.fn x = (scope.names.lookup x == some .cell)) → GB X' P (wipeΓ Γ (own.map fun (z : Str × Nat) => z.2)) (own.map fun (z : Str × Nat) => z.2) tg f ∧ (∀ x, TT1 X' P (f x) ifs (mt x)) ∧ ∀ x, EX X' P NoX (f x) elt (me x))
    (hs : ∀ x, foldedSetIterable iter X.env x = pure x := by intro _; rfl) :
    EN X P Wx Γ (.ListComp elt [⟨tg, iter, ifs, 0⟩] scope pos) (m.bind fun l => W.filterW (fun x => nx (mt x)) (fun x => nx (me x)) l) := by
  have B := fun s H C cl fp => hb (X.blk s H scope (compEnvC scope cl C X.env) fp) (cc.blk s H scope cl C fp) fun _ => rfl
  refine PE.imp (pe_lc cc.calm (by rw [cc.hN]; exact cc.nd) hi (by rw [cc.hN, cc.hsc]; exact blkOk_by ok) (g := fun v σ H K => ∃ (x : α) (G : Hp) (σ0 : L2.St), L2.wipe σ (own.map fun (z : Str × Nat) => z.2) = L2.wipe σ0 (own.map fun (z : Str × Nat) => z.2) ∧ Rel P (wipeΓ Γ (own.map fun (z : Str × Nat) => z.2)) σ G H ∧ Den G (toD x) v ∧ (∀ σ', L2.wipe σ' (own.map fun (z : Str × Nat) => z.2) = L2.wipe σ0 (own.map fun (z : Str × Nat) => z.2) → Rel P (f x) σ' G H → K σ' H))
    (tt := fun σ H K => ∃ x, rdT P NoX (f x) (mt x) σ H K) (te := fun σ H K => ∃ x, rdE P NoX (f x) (me x) σ H K) (fun s H C cl fp => (B s H C cl fp).1) (fun s H C cl fp => ⟨fun pins s' σ' H' Q I ⟨x, q⟩ => ((B s H C cl fp).2.1 x).run pins s' σ' H' Q I q⟩) (fun s H C cl fp => ⟨fun pins s' σ' H' Q I ⟨x, q⟩ => ((B s H C cl fp).2.2 x).run pins s' σ' H' Q I q⟩) hs) fun σ H Q' h => ?_
  exact lc_read (fun _ _ _ q => q) (fun _ _ _ _ q => q) (fun _ _ _ q => q) (fun _ _ _ q => q) h
end
end Z

set_option autoImplicit false
set_option Elab.async false
set_option linter.all false
set_option maxRecDepth 100000
set_option maxHeartbeats 2000003
namespace Z
open PySem PySem.Spec L2
open Py (toD)
section
variable {α β γ δ τ ρ μ : Type} [Py α] [Py β] [Py γ] [Py δ] [Py ρ]
variable {X : Cx} {P : Par} {Wx : WX} {Γ : List Sl} {N : List Str} {sc : Scope} {k : Nat} {a b c e tg iter elt : Expr} {pos : Pos} {es ifs : List Expr} {st : Stmt} {sts rest body : List Stmt}

/-! ### y = [..] -/
theorem s_lc {m : W (List α)} {f : α → List Sl} {mt : α → W Bool} {me : α → W β} {scope : Scope} {y : Str} {py spos : Pos} (cc : Dok X P Wx N sc k) (i : Nat) (own : List (Str × Nat)) (hi : EI X P Wx Γ tg iter m) (ok : blkC N sc scope own = true)
    (hb : ∀ X', Cok X' P NoX N (relS scope sc) k → (∀ x, X'.fn x = (scope.names.lookup x == some .cell)) → GB X' P (wipeΓ Γ (own.map fun (z : Str × Nat) => z.2)) (own.map fun (z : Str × Nat) => z.2) tg f ∧ (∀ x, TT1 X' P (f x) ifs (mt x)) ∧ ∀ x, EX X' P NoX (f x) elt (me x))
    (hy : N[i]? = some y := by rfl) (hyl : sc.names.lookup y = some .local := by rfl)
    (hsw : ∀ env : Env, env.scope = sc → swapsWith (.ListComp elt [⟨tg, iter, ifs, 0⟩] scope pos) (some (.Name y py)) spos.line env = pure true := by intro env h; cases env; cases h; rfl)
    (hs : ∀ x, foldedSetIterable iter X.env x = pure x := by intro _; rfl) :
    S1 X P Wx Γ (.Assign [.Name y py] (.ListComp elt [⟨tg, iter, ifs, 0⟩] scope pos) spos) (m.bind fun l => W.filterW (fun x => nx (mt x)) (fun x => nx (me x)) l) (fun l => Γ.set i (.own (l.map toD))) := by
  have B := fun s H C cl fp => hb (X.blk s H scope (compEnvC scope cl C X.env) fp) (cc.toCok.blk s H scope cl C fp) fun _ => rfl
  refine PS.imp (ps_setLc (i := i) cc.calm (by rw [cc.hN]; exact cc.nd) (by rw [cc.hN]; exact hy) (by rw [cc.hsc]; exact hyl) (hsw _ cc.hsc) hi (by rw [cc.hN, cc.hsc]; exact blkOk_by ok) (g := fun v σ H K => ∃ (x : α) (G : Hp) (σ0 : L2.St), L2.wipe σ (own.map fun (z : Str × Nat) => z.2) = L2.wipe σ0 (own.map fun (z : Str × Nat) => z.2) ∧ Rel P (wipeΓ Γ (own.map fun (z : Str × Nat) => z.2)) σ G H ∧ Den G (toD x) v ∧ (∀ σ', L2.wipe σ' (own.map fun (z : Str × Nat) => z.2) = L2.wipe σ0 (own.map fun (z : Str × Nat) => z.2) → Rel P (f x) σ' G H → K σ' H))
    (tt := fun σ H K => ∃ x, rdT P NoX (f x) (mt x) σ H K) (te := fun σ H K => ∃ x, rdE P NoX (f x) (me x) σ H K) (fun s H C cl fp => (B s H C cl fp).1) (fun s H C cl fp => ⟨fun pins s' σ' H' Q I ⟨x, q⟩ => ((B s H C cl fp).2.1 x).run pins s' σ' H' Q I q⟩) (fun s H C cl fp => ⟨fun pins s' σ' H' Q I ⟨x, q⟩ => ((B s H C cl fp).2.2 x).run pins s' σ' H' Q I q⟩) hs) fun D σ H h => ?_
  obtain ⟨G, Q, E, R, w, kk, kx⟩ := h
  refine lc_read (P := P) (Wx := Wx) (Γ := Γ) (f := f) (mt := mt) (me := me) (m := m) (fun _ _ _ q => q) (fun _ _ _ _ q => q) (fun _ _ _ q => q) (fun _ _ _ q => q) ⟨G, Q, E, R, w, fun p vs H' G' a g hp gp hv d zl q' => ?_, kx⟩
  refine kk a _ H' G' ((R.grow g).setOwn hv gp (R.toRelB.free hp).1 (R.toRelB.free hp).2.1 d (by rw [List.length_map]; exact zl) fun j l ej z => ?_) g.g q'
  obtain ⟨o, e1, p', vs', e2, h2, _⟩ := R.slots j _ ej
  rw [z] at e1
  cases e1
  cases e2
  rw [hp] at h2
  cases h2
/-- a statement, then a list of one's own is frozen -/
theorem s_fz {m : W (List α)} {Γ' : List α → List Sl} (i : Nat) (h : S1 X P Wx Γ st m (fun l => (Γ' l).set i (.own (l.map toD)))) (hi : ∀ l, i < (Γ' l).length := by intro _; simp; try decide) : S1 X P Wx Γ st m (fun l => (Γ' l).set i (.dat (toD l))) :=
  PS.imp h fun D σ H h => by
    obtain ⟨G, Q, E, R, w, kk, kx⟩ := h
    refine ⟨G, Q, E, R, w, fun l σ' H' G' R' s' q => ?_, kx⟩
    obtain ⟨G2, hs, R2⟩ := R'.fz (i := i) (l := l.map toD) (by rw [List.getElem?_set_self (hi l)])
    rw [List.set_set] at R2
    exact kk l σ' H' G2 R2 (s'.trans hs) q

/-! ### isinstance -/
def isInt : D → Bool | .int _ => true | .bl _ => true | _ => false
def isBool : D → Bool | .bl _ => true | _ => false
def isStr : D → Bool | .str _ => true | _ => false
def isTup : D → Bool | .tup _ => true | _ => false
def isLst : D → Bool | .lst _ => true | .scr _ => true | _ => false
def isObj : D → Bool | .obj _ _ _ => true | .dk _ _ => true | _ => false
def tyD : D → String | .non => "NoneType" | .bl _ => "bool" | .int _ => "int" | .str _ => "str" | .tup _ => "tuple" | .lst _ => "list" | .dct => "dict" | .scr _ => "list" | .obj _ _ _ => "" | .dk _ _ => ""
theorem tyx {K : PySem.W.Frag} {G H : Hp} {d : D} {v : V} (s : Sub G H) (h : Den G d v) (ho : isObj d = false) : TyX K H v (.type (tyD d)) := by
  cases d <;> simp only [Den] at h
  case non => subst h; exact .base .non
  case bl b => subst h; exact .base (.bl b)
  case int b => subst h; exact .base (.int b)
  case str b => subst h; exact .base (.str b)
  case tup l => obtain ⟨p, vs, rfl, g, _⟩ := h; exact .base (.tup (s _ _ g))
  case lst l =>
    obtain ⟨p, vs, rfl, g, _⟩ := h
    exact .base (.lst (s _ _ g))
  case dct => obtain ⟨p, rfl, g⟩ := h; exact .base (.dK (s _ _ g))
  case scr l => obtain ⟨p, o, rfl, g⟩ := h; exact .base (.frz (s _ _ g))
  case obj => cases ho
  case dk => cases ho
theorem kit_int {K : PySem.W.Frag} {d : D} (ho : isObj d = false) : PySem.W.kitOne K (.type (tyD d)) (.type "int") = some (isInt d) := by
  cases d with
  | non => exact kit_ty (a := "NoneType") (b := "int") (r := false) (by decide +kernel)
  | bl _ => exact kit_ty (a := "bool") (b := "int") (r := true) (by decide +kernel)
  | int _ => exact kit_ty (a := "int") (b := "int") (r := true) (by decide +kernel)
  | str _ => exact kit_ty (a := "str") (b := "int") (r := false) (by decide +kernel)
  | tup _ => exact kit_ty (a := "tuple") (b := "int") (r := false) (by decide +kernel)
  | lst _ => exact kit_ty (a := "list") (b := "int") (r := false) (by decide +kernel)
  | dct => exact kit_ty (a := "dict") (b := "int") (r := false) (by decide +kernel)
  | scr _ => exact kit_ty (a := "list") (b := "int") (r := false) (by decide +kernel)
  | obj _ _ _ => cases ho
  | dk _ _ => cases ho
theorem kit_bool {K : PySem.W.Frag} {d : D} (ho : isObj d = false) : PySem.W.kitOne K (.type (tyD d)) (.type "bool") = some (isBool d) := by
  cases d with
  | non => exact kit_ty (a := "NoneType") (b := "bool") (r := false) (by decide +kernel)
  | bl _ => exact kit_ty (a := "bool") (b := "bool") (r := true) (by decide +kernel)
  | int _ => exact kit_ty (a := "int") (b := "bool") (r := false) (by decide +kernel)
  | str _ => exact kit_ty (a := "str") (b := "bool") (r := false) (by decide +kernel)
  | tup _ => exact kit_ty (a := "tuple") (b := "bool") (r := false) (by decide +kernel)
  | lst _ => exact kit_ty (a := "list") (b := "bool") (r := false) (by decide +kernel)
  | dct => exact kit_ty (a := "dict") (b := "bool") (r := false) (by decide +kernel)
  | scr _ => exact kit_ty (a := "list") (b := "bool") (r := false) (by decide +kernel)
  | obj _ _ _ => cases ho
  | dk _ _ => cases ho
theorem kit_str {K : PySem.W.Frag} {d : D} (ho : isObj d = false) : PySem.W.kitOne K (.type (tyD d)) (.type "str") = some (isStr d) := by
  cases d with
  | non => exact kit_ty (a := "NoneType") (b := "str") (r := false) (by decide +kernel)
  | bl _ => exact kit_ty (a := "bool") (b := "str") (r := false) (by decide +kernel)
  | int _ => exact kit_ty (a := "int") (b := "str") (r := false) (by decide +kernel)
  | str _ => exact kit_ty (a := "str") (b := "str") (r := true) (by decide +kernel)
  | tup _ => exact kit_ty (a := "tuple") (b := "str") (r := false) (by decide +kernel)
  | lst _ => exact kit_ty (a := "list") (b := "str") (r := false) (by decide +kernel)
  | dct => exact kit_ty (a := "dict") (b := "str") (r := false) (by decide +kernel)
  | scr _ => exact kit_ty (a := "list") (b := "str") (r := false) (by decide +kernel)
  | obj _ _ _ => cases ho
  | dk _ _ => cases ho
theorem kit_tup {K : PySem.W.Frag} {d : D} (ho : isObj d = false) : PySem.W.kitOne K (.type (tyD d)) (.type "tuple") = some (isTup d) := by
  cases d with
  | non => exact kit_ty (a := "NoneType") (b := "tuple") (r := false) (by decide +kernel)
  | bl _ => exact kit_ty (a := "bool") (b := "tuple") (r := false) (by decide +kernel)
  | int _ => exact kit_ty (a := "int") (b := "tuple") (r := false) (by decide +kernel)
  | str _ => exact kit_ty (a := "str") (b := "tuple") (r := false) (by decide +kernel)
  | tup _ => exact kit_ty (a := "tuple") (b := "tuple") (r := true) (by decide +kernel)
  | lst _ => exact kit_ty (a := "list") (b := "tuple") (r := false) (by decide +kernel)
  | dct => exact kit_ty (a := "dict") (b := "tuple") (r := false) (by decide +kernel)
  | scr _ => exact kit_ty (a := "list") (b := "tuple") (r := false) (by decide +kernel)
  | obj _ _ _ => cases ho
  | dk _ _ => cases ho
theorem kit_lst {K : PySem.W.Frag} {d : D} (ho : isObj d = false) : PySem.W.kitOne K (.type (tyD d)) (.type "list") = some (isLst d) := by
  cases d with
  | non => exact kit_ty (a := "NoneType") (b := "list") (r := false) (by decide +kernel)
  | bl _ => exact kit_ty (a := "bool") (b := "list") (r := false) (by decide +kernel)
  | int _ => exact kit_ty (a := "int") (b := "list") (r := false) (by decide +kernel)
  | str _ => exact kit_ty (a := "str") (b := "list") (r := false) (by decide +kernel)
  | tup _ => exact kit_ty (a := "tuple") (b := "list") (r := false) (by decide +kernel)
  | lst _ => exact kit_ty (a := "list") (b := "list") (r := true) (by decide +kernel)
  | dct => exact kit_ty (a := "dict") (b := "list") (r := false) (by decide +kernel)
  | scr _ => exact kit_ty (a := "list") (b := "list") (r := true) (by decide +kernel)
  | obj _ _ _ => cases ho
  | dk _ _ => cases ho
/-- a built-in class by its name -/
structure TyN (T : String) (f : D → Bool) : Prop where
  boot : bootBuiltins T = some (.type T)
  mem : Str.ofString T ∈ bnames
  kit : ∀ (K : PySem.W.Frag) (d : D), isObj d = false → PySem.W.kitOne K (.type (tyD d)) (.type T) = some (f d)
theorem ty_int : TyN "int" isInt := ⟨by decide +kernel, by decide, fun _ _ h => kit_int h⟩
theorem ty_bool : TyN "bool" isBool := ⟨by decide +kernel, by decide, fun _ _ h => kit_bool h⟩
theorem ty_str : TyN "str" isStr := ⟨by decide +kernel, by decide, fun _ _ h => kit_str h⟩
theorem ty_tup : TyN "tuple" isTup := ⟨by decide +kernel, by decide, fun _ _ h => kit_tup h⟩
theorem ty_lst : TyN "list" isLst := ⟨by decide +kernel, by decide, fun _ _ h => kit_lst h⟩
def isiW (f : D → Bool) (x : α) : W Bool := W.need (isObj (toD x) = false) (f (toD x))
theorem pe_ty {T : String} {f : D → Bool} {p2 : Pos} (cc : Cok X P Wx N sc k) (t : TyN T f) (hg : GlS sc (Str.ofString T)) (hn : Str.ofString T ≠ "__name__") (hd : (Str.ofString T == ("__debug__" : Str)) = false) : PE X (.Name (Str.ofString T) p2) (tC (.ty T)) :=
  pe_bltn (gl cc hg) (by rw [cc.hmg]; exact cc.bl _ t.mem) t.boot rfl hn hd
theorem ex_isi {T : String} {f : D → Bool} {m : W α} {p p2 : Pos} (cc : Cok X P Wx N sc k) (t : TyN T f) (ha : EX X P Wx Γ e m) (hg : GlS sc "isinstance" := by rfl) (hg2 : GlS sc (Str.ofString T) := by rfl) (hn : Str.ofString T ≠ "__name__" := by decide) (hd : (Str.ofString T == ("__debug__" : Str)) = false := by decide)
    (hs : starEach [e, .Name (Str.ofString T) p2] X.env = (false, eval e X.env) :: starEach [.Name (Str.ofString T) p2] X.env := by rfl) (hs2 : starEach [.Name (Str.ofString T) p2] X.env = (false, eval (.Name (Str.ofString T) p2) X.env) :: starEach [] X.env := by rfl) :
    EX X P Wx Γ (.Call (.Name "isinstance" p) [e, .Name (Str.ofString T) p2] [] pos) (W.b1 m (isiW f)) :=
  PE.imp (pe_callB call_isi (gl cc hg) (blt cc) (by decide +kernel) (pa_cons ha (pa_cons (pe_ty cc t hg2 hn hd) pa_nil hs2) hs) (by decide) (by decide) hs (by rw [hs2]; rfl)) fun σ H Q' h => by
    obtain ⟨G, Q, E, R, w, kk, kx⟩ := h
    refine ⟨G, _, E, R, w, fun v H1 G1 x g1 d1 w1 => ?_, kx⟩
    exact ⟨v, .ty T, _, .type T, f (toD x), rfl, .ty T, tyx g1.s d1 w1.1, t.kit _ _ w1.1, kk _ _ _ _ g1 (den_bool.mpr rfl) w1.2⟩
theorem ex_isi2 {T T2 : String} {f f2 : D → Bool} {m : W α} {p p2 p3 p4 : Pos} {j : Nat} (cc : Cok X P Wx N sc k) (t : TyN T f) (t2 : TyN T2 f2) (ha : EX X P Wx Γ e m) (hg : GlS sc "isinstance" := by rfl) (hg2 : GlS sc (Str.ofString T) := by rfl) (hg3 : GlS sc (Str.ofString T2) := by rfl)
    (hn : Str.ofString T ≠ "__name__" := by decide) (hd : (Str.ofString T == ("__debug__" : Str)) = false := by decide) (hn2 : Str.ofString T2 ≠ "__name__" := by decide) (hd2 : (Str.ofString T2 == ("__debug__" : Str)) = false := by decide)
    (hs : starEach [e, .Tuple [.Name (Str.ofString T) p2, .Name (Str.ofString T2) p3] j p4] X.env = (false, eval e X.env) :: starEach [.Tuple [.Name (Str.ofString T) p2, .Name (Str.ofString T2) p3] j p4] X.env := by rfl) :
    EX X P Wx Γ (.Call (.Name "isinstance" p) [e, .Tuple [.Name (Str.ofString T) p2, .Name (Str.ofString T2) p3] j p4] [] pos) (W.b1 m (isiW fun d => f d || f2 d)) :=
  PE.imp (pe_callB call_isiT (gl cc hg) (blt cc) (by decide +kernel) (pa_cons ha (pa_cons (pe_tup (pa_cons (pe_ty cc t hg2 hn hd) (pa_cons (pe_ty cc t2 hg3 hn2 hd2) pa_nil))) pa_nil) hs) (by decide) (by decide) hs) fun σ H Q' h => by
    obtain ⟨G, Q, E, R, w, kk, kx⟩ := h
    refine ⟨G, _, E, R, w, fun v H1 G1 x g1 d1 w1 => ⟨by show 2 ≤ sizeLine; decide, fun q hq => ?_⟩, kx⟩
    have R1 := R.grow g1
    have g2 := grow_new (o := .tup [V.ty T, V.ty T2]) R1.toRelB hq
    refine ⟨v, q, [V.ty T, V.ty T2], _, [.type T, .type T2], f (toD x) || f2 (toD x), rfl, upd_same, .cons (.ty T) (.cons (.ty T2) .nil), tyx g2.s (Den.mono g2.g _ _ d1) w1.1, ?_, kk _ _ _ _ (g1.trans g2 (DealAt.there R1.dk)) (den_bool.mpr rfl) w1.2⟩
    refine kitAny_cons (t.kit _ _ w1.1) (fun hf => ?_) (fun hf => by rw [hf]; rfl)
    rw [hf, Bool.false_or]
    refine kitAny_cons (t2.kit _ _ w1.1) (fun hf => by rw [hf]; exact kitAny_nil) (fun hf => hf)

/-! ### defs -/
def DenA (P : Par) (G : Hp) : List (Option D) → List V → Prop
  | [], vs => vs = []
  | some d :: l, vs => ∃ v r, vs = v :: r ∧ Den G d v ∧ DenA P G l r
  | none :: l, vs => ∃ r, vs = .ref P.da :: r ∧ P.b = true ∧ DenA P G l r
theorem DenA.mono {G G' : Hp} (h : Same G G') : ∀ (l : List (Option D)) (vs : List V), DenA P G l vs → DenA P G' l vs
  | [], vs, q => q
  | some d :: l, vs, ⟨v, r, e, a, b⟩ => ⟨v, r, e, Den.mono h d v a, DenA.mono h l r b⟩
  | none :: l, vs, ⟨r, e, hb, b⟩ => ⟨r, e, hb, DenA.mono h l r b⟩
/-- the par of a call: u the world, b whether a deal is handed on -/
def parOf (u : Wd) (b : Bool) (da dq : Addr) (H G : Hp) : Par := ⟨u, b, da, dq, H, G, []⟩
theorem parOf_dl {u : Wd} {b : Bool} {da dq : Addr} {H G : Hp} {a : Addr} (h : (parOf u b da dq H G).dl a) : b = true ∧ (a = da ∨ a = dq) := ⟨h.1, h.2.elim .inl fun z => z.elim .inr fun w => by cases w⟩
/-- a def's promise -/
def spOf (u : Wd) (b : Bool) (ty : τ → List (Option D)) (F : τ → W ρ) : Sp := fun vs H Q' E' => ∃ (x : τ) (G : Hp) (Q : ρ → Prop) (E : Ex → Prop) (da dq : Addr), RelB (parOf u b da dq H G) G H ∧ DenA (parOf u b da dq H G) G (ty x) vs ∧ (F x).wp Q E ∧
  (∀ v H' G' r, RelB (parOf u b da dq H G) G' H' → Den G' (toD r) v → Q r → Q' v H') ∧
  (∀ cls d H' G' e, RelB (parOf u b da dq H G) G' H' → XDen (parOf u b da dq H G) cls d H' G' e → E e → E' cls d H')
structure Fn (u : Wd) (k : Nat) (x : Str) (ps : List Str) (b : Bool) (ty : τ → List (Option D)) (F : τ → W ρ) : Prop where
  ok : ∃ (f : Addr) (fd : FuncData), u.mg x = some (.ref f) ∧ PySem.W.keepIn u.K (.ref f) = true ∧ Binds u.K fd ps [] ∧ FnOk u.prog u.w u.K u.mg u.base (L2.CX u.prog u.w) k f fd ps (spOf u b ty F) ∧ ∃ oc od osl, u.K.lookup f = some ⟨oc, od, .func fd, osl⟩
def rdAo (P : Par) (Wx : WX) (Γ : List Sl) (ty : τ → List (Option D)) (m : W τ) : TA := fun σ H Q' => ∃ (G : Hp) (Q : τ → Prop) (E : Ex → Prop), Rel P Γ σ G H ∧ m.wp Q E ∧
  (∀ vs H' G' a, Grow P G H G' H' → DenA P G' (ty a) vs → Q a → Q' vs H') ∧ XC P Wx E
def EAo (X : Cx) (P : Par) (Wx : WX) (Γ : List Sl) (es : List Expr) (ty : τ → List (Option D)) (m : W τ) : Prop := PA X es (rdAo P Wx Γ ty m)
theorem ao_nil : EAo X P Wx Γ [] (fun _ : Unit => []) (W.pure ()) :=
  PA.imp pa_nil fun σ H Q' h => by
    obtain ⟨G, Q, E, R, w, kk, kx⟩ := h
    exact kk [] H G () (Grow.refl R.toRelB) rfl w
theorem ao_one {m : W α} (h : EX X P Wx Γ e m) (hs : starEach [e] X.env = (false, eval e X.env) :: starEach [] X.env := by rfl) : EAo X P Wx Γ [e] (fun x : α => [some (toD x)]) m :=
  PA.imp (pa_cons h pa_nil hs) fun σ H Q' h => by
    obtain ⟨G, Q, E, R, w, kk, kx⟩ := h
    exact ⟨G, Q, E, R, w, fun v H1 G1 x g1 d1 w1 => kk [v] H1 G1 x g1 ⟨v, [], rfl, d1, rfl⟩ w1, kx⟩
theorem ao_cons {m : W α} {n : W τ} {ty : τ → List (Option D)} (h : EX X P Wx Γ e m) (hr : EAo X P Wx Γ es ty n) (hs : starEach (e :: es) X.env = (false, eval e X.env) :: starEach es X.env := by rfl) :
    EAo X P Wx Γ (e :: es) (fun p : α × τ => some (toD p.1) :: ty p.2) (W.b2 m n fun x y => W.pure (x, y)) :=
  PA.imp (pa_cons h hr hs) fun σ H Q' h => by
    obtain ⟨G, Q, E, R, w, kk, kx⟩ := h
    refine ⟨G, _, E, R, w, fun v H1 G1 x g1 d1 w1 => ?_, kx⟩
    exact ⟨G1, _, E, R.grow g1, w1, fun vs H2 G2 y g2 d2 w2 => kk (v :: vs) H2 G2 (x, y) (g1.trans g2 (DealAt.there (R.grow g1).dk)) ⟨v, vs, rfl, Den.mono g2.g _ _ d1, d2⟩ w2, kx⟩
/-- the deal is handed on -/
theorem ao_deal {n : W τ} {ty : τ → List (Option D)} {x : Str} {p : Pos} (cc : Cok X P Wx N sc k) (i : Nat) (hr : EAo X P Wx Γ es ty n) (hi : Γ[i]? = some .deal := by rfl) (hN : N[i]? = some x := by rfl)
    (hv : Vis sc x := by first | exact Or.inl rfl | exact Or.inr (Or.inl rfl) | exact Or.inr (Or.inr rfl)) (hd : (x == ("__debug__" : Str)) = false := by decide)
    (hcd : (x == ("__classdict__" : Str)) = false := by decide) (hs : starEach (.Name x p :: es) X.env = (false, eval (.Name x p) X.env) :: starEach es X.env := by rfl) :
    EAo X P Wx Γ (.Name x p :: es) (fun y : τ => none :: ty y) n :=
  PA.imp (pa_cons (pe_var (i := i) (by rw [cc.hN]; exact hN) (by rw [cc.hsc]; exact hv) hd hcd) hr hs) fun σ H Q' h => by
    obtain ⟨G, Q, E, R, w, kk, kx⟩ := h
    obtain ⟨o, eo, hb, rfl⟩ := R.slots i _ hi
    exact ⟨_, eo, G, _, E, R, w, fun vs H2 G2 y g2 d2 w2 => kk (.ref P.da :: vs) H2 G2 y g2 ⟨vs, rfl, hb, d2⟩ w2, kx⟩
theorem DenA.par {P2 : Par} {G : Hp} (hb : P2.b = true → P2.da = P.da) : ∀ (l : List (Option D)) (vs : List V), (none ∈ l → P2.b = true) → DenA P G l vs → DenA P2 G l vs
  | [], vs, _, q => q
  | some d :: l, vs, h, ⟨v, r, e, a, b⟩ => ⟨v, r, e, a, DenA.par hb l r (fun z => h (List.mem_cons_of_mem _ z)) b⟩
  | none :: l, vs, h, ⟨r, e, _, b⟩ => by
    have t := h List.mem_cons_self
    exact ⟨r, by rw [hb t]; exact e, t, DenA.par hb l r (fun _ => t) b⟩
theorem call_read {bd : Bool} {ty : τ → List (Option D)} {F : τ → W ρ} {n : W τ} {ta : TA} (hb : bd = true → P.b = true) (hty : ∀ y, none ∈ ty y → bd = true) (hta : ∀ σ H K, rdAo P Wx Γ ty n σ H K → ta σ H K)
    {σ : L2.St} {H : Hp} {Q' : VK} (h : rdE P Wx Γ (n.bind F) σ H Q') : tCallS (spOf P.u bd ty F) (WE Wx) ta σ H Q' := by
  obtain ⟨G, Q, E, R, w, kk, kx⟩ := h
  refine hta _ _ _ ⟨G, _, E, R, w, fun vs H1 G1 y g1 d1 w1 => ?_, kx⟩
  have R1 := R.grow g1
  have dlP : ∀ a, (parOf P.u bd P.da P.dq H1 G1).dl a → P.dl a := fun a z => ⟨hb z.1, (parOf_dl z).2.elim .inl fun w => .inr (.inl w)⟩
  have B2 : RelB (parOf P.u bd P.da P.dq H1 G1) G1 H1 := ⟨R1.sub, fun _ _ z _ => z, fun _ _ z => z, fun _ _ _ z => z, fun z => ⟨(R1.dk (hb z)).1, tabs_nil _⟩, fun a z => R1.gd a (dlP a z), fun _ ps z => ⟨ps, z⟩⟩
  have back : ∀ {H' G' : Hp}, RelB (parOf P.u bd P.da P.dq H1 G1) G' H' → Grow P G1 H1 G' H' := fun {H' G'} B => ⟨B.gr, B.sub, fun a o z d => B.fr a o z fun q => d (dlP a q), fun a o z n => B.ng a o z n, fun hb' => by
    obtain ⟨⟨q0, xs, m, q1, q2, q3⟩, tt⟩ := R1.dk hb'
    have tt' : LamX.Tabs P.tb H' := tabs_keep tt fun b o z nl => B.fr b o z fun w => by
      rcases (parOf_dl w).2 with e | e
      · exact nl _ (Option.some.inj (z.symm.trans ((congrArg H1 e).trans q1)))
      · exact nl _ (Option.some.inj (z.symm.trans ((congrArg H1 e).trans q2)))
    by_cases hbd : bd = true
    · exact ⟨(B.dk hbd).1, tt'⟩
    · exact ⟨⟨q0, xs, m, B.fr _ _ q1 fun z => hbd z.1, B.fr _ _ q2 fun z => hbd z.1, q3⟩, tt'⟩, fun a ps z => B.nt a ps z⟩
  refine ⟨y, G1, Q, E, P.da, P.dq, B2, DenA.par (P := P) (P2 := parOf P.u bd P.da P.dq H1 G1) (fun _ => rfl) _ _ (fun z => hty y z) d1, w1, fun v H' G' r B d q => kk v H' G' r (g1.trans (back B) (DealAt.there R1.dk)) d q, fun cls d H' G' e B xd q => ?_⟩
  exact kx cls d σ H' G' e (R1.grow (back B)).toRelB xd q
/-- f(e, ..) -/
theorem ex_call {k' : Nat} {x : Str} {ps : List Str} {bd : Bool} {ty : τ → List (Option D)} {F : τ → W ρ} {n : W τ} {p : Pos} (cc : Cok X P Wx N sc k) (fn : Fn P.u k' x ps bd ty F) (hk : k' ≤ k) (hb : bd = true → P.b = true) (ha : EAo X P Wx Γ (e :: es) ty n)
    (hty : ∀ y, none ∈ ty y → bd = true := by intro _; simp) (hg : GlS sc x := by rfl) (hdb : (x == ("__debug__" : Str)) = false := by decide)
    (he : starEach (e :: es) X.env = (false, eval e X.env) :: starEach es X.env := by rfl) (hpl : (backTo pos (starEach es X.env)).any (·.1) = false := by rfl) : EX X P Wx Γ (.Call (.Name x p) (e :: es) [] pos) (n.bind F) := by
  obtain ⟨f, fd, hm, hkp, hbi, fo, _⟩ := fn.ok
  have fo' : FnOk X.prog X.w X.K X.mg X.base (L2.CX X.prog X.w) k' f fd ps (spOf P.u bd ty F) := by
    rw [cc.hprog, cc.hw, cc.hK, cc.hmg, cc.hbase]
    exact fo
  exact PE.imp (pe_callS fo' (cc.room.mono hk) (gl cc hg) (by rw [cc.hmg]; exact hm) (by rw [cc.hK]; exact hkp) (by rw [cc.hK]; exact hbi) (fun σ => passAt cc.tk σ) ha hdb he hpl) fun σ H Q' h => call_read hb hty (fun _ _ _ q => q) h
/-! a def's body -/
def slotOf : Option D → Sl
  | some d => .dat d
  | none => .deal
theorem DenA.length : ∀ {G : Hp} (l : List (Option D)) (vs : List V), DenA P G l vs → vs.length = l.length
  | _, [], vs, q => by
    have q : vs = [] := q
    rw [q]; rfl
  | G, some d :: l, vs, ⟨v, r, e, a, b⟩ => by rw [e, List.length_cons, List.length_cons, DenA.length l r b]
  | G, none :: l, vs, ⟨r, e, _, b⟩ => by rw [e, List.length_cons, List.length_cons, DenA.length l r b]
theorem DenA.get : ∀ {G : Hp} (l : List (Option D)) (vs : List V) (i : Nat) (o : Option D), DenA P G l vs → l[i]? = some o → ∃ v, vs[i]? = some v ∧ ∀ H : Hp, SlOk P G H (slotOf o) (some v)
  | _, [], vs, i, o, q, e => by simp at e
  | G, some d :: l, vs, 0, o, ⟨v, r, ev, a, b⟩, e => by
    subst ev
    simp at e
    subst e
    exact ⟨v, rfl, fun H => ⟨v, rfl, a⟩⟩
  | G, some d :: l, vs, i + 1, o, ⟨v, r, ev, a, b⟩, e => by
    subst ev
    obtain ⟨w, e2, q⟩ := DenA.get l r i o b (by simpa using e)
    exact ⟨w, by simpa using e2, q⟩
  | G, none :: l, vs, 0, o, ⟨r, ev, hb, b⟩, e => by
    subst ev
    simp at e
    subst e
    exact ⟨_, rfl, fun H => ⟨hb, rfl⟩⟩
  | G, none :: l, vs, i + 1, o, ⟨r, ev, hb, b⟩, e => by
    subst ev
    obtain ⟨w, e2, q⟩ := DenA.get l r i o b (by simpa using e)
    exact ⟨w, by simpa using e2, q⟩
/-- the slots at the entry -/
def ctx0 (l : List (Option D)) (n : Nat) : List Sl := l.map slotOf ++ List.replicate n .un
theorem rel_start {G H : Hp} {l : List (Option D)} {vs : List V} {N : List Str} {n : Nat} (B : RelB P G H) (d : DenA P G l vs) (hn : N.length = l.length + n) : Rel P (ctx0 l n) (L2.start N vs) G H := by
  have hl := DenA.length l vs d
  refine ⟨B, ?_, fun i s e => ?_, fun i j p l1 l2 _ e1 => ?_⟩
  · unfold L2.start ctx0
    rw [List.length_append, List.length_append, List.length_map, List.length_map, List.length_replicate, List.length_replicate, hl]
    omega
  · unfold ctx0 at e
    unfold L2.start
    by_cases hi : i < l.length
    · rw [List.getElem?_append_left (by simpa using hi), List.getElem?_map, List.getElem?_eq_getElem hi] at e
      have e : some (slotOf l[i]) = some s := e
      cases e
      obtain ⟨v, ev, sv⟩ := DenA.get l vs i l[i] d (List.getElem?_eq_getElem hi)
      refine ⟨some v, ?_, sv H⟩
      rw [List.getElem?_append_left (by simpa [hl] using hi), List.getElem?_map, ev]
      rfl
    · rw [List.getElem?_append_right (by simpa using hi), List.getElem?_replicate] at e
      split at e
      · cases e
        rename_i h2
        rw [List.length_map] at h2
        refine ⟨none, ?_, trivial⟩
        rw [List.getElem?_append_right (by simpa [hl] using hi), List.getElem?_replicate, if_pos]
        rw [List.length_map, hl]
        omega
      · cases e
  · have key : ∀ {ko : OK} (o : Option D), slotOf o ≠ .ownK ko l1 := fun o => by cases o <;> (intro z; cases z)
    unfold ctx0 at e1
    by_cases hi : i < l.length
    · rw [List.getElem?_append_left (by simpa using hi), List.getElem?_map, List.getElem?_eq_getElem hi] at e1
      exact (key _ (Option.some.inj e1)).elim
    · rw [List.getElem?_append_right (by simpa using hi), List.getElem?_replicate] at e1
      split at e1 <;> cases e1
/-- what a world must have -/
structure WOk (u : Wd) : Prop where
  bl : ∀ x ∈ bnames, u.mg x = none
/-- THE RULE for a def -/
theorem fn_ok {u : Wd} {k : Nat} {x qual : Str} {st : Stmt} {f : Addr} {fd : FuncData} {N ps : List Str} {bd : Bool} {ty : τ → List (Option D)} {F : τ → W ρ} {n : Nat} (wo : WOk u) (hF : Fun u.K x qual st f fd) (hm : u.mg x = some (.ref f)) (S : FnScope N ps (defScope st)) (hbi : Binds u.K fd ps [])
    (hps : ∀ y, (ty y).length = ps.length) (hn : N.length = ps.length + n) (hne : ∀ y, bd = false → none ∉ ty y)
    (hbody : ∀ (X : Cx) (P : Par) (Wx : WX), P.u = u → P.b = bd → Dok X P Wx N (defScope st) k → ∀ y, TB X P Wx (ctx0 (ty y) n) (defBody st) (F y)) : Fn u (k + 1) x ps bd ty F := by
  refine ⟨f, fd, hm, hF.kp, hbi, hF.okX S (fun vs H Q E h => ?_) (fun cdv A outer s H vs Q E hr h => ?_), by obtain ⟨oc, od, kV, doc, pm, an, cdv, ct, osl, e1, lk, _⟩ := hF.ex; exact ⟨oc, od, osl, lk⟩⟩
  · obtain ⟨y, G, _, _, da, dq, _, d, _⟩ := h
    rw [DenA.length _ _ d, hps]
  · obtain ⟨y, G, Q0, E0, da, dq, B, d, w, kk, kx⟩ := h
    have D0 : Dok (cxOf (L2.CX u.prog u.w) u.prog u.w u.K u.mg u.base N qual (defScope st) f cdv A outer s H E) (parOf u bd da dq H G) (fun cls d _ H => E cls d H) N (defScope st) k :=
      ⟨⟨rfl, rfl, rfl, rfl, rfl, rfl, rfl, wo.bl, rfl, S.nd, hr, takes_of rfl rfl rfl rfl⟩, fun _ => rfl, passes_of rfl, rfl, rfl⟩
    refine ⟨_, hbody _ _ _ rfl rfl D0 y, G, Q0, E0, rel_start B d (by rw [hps]; exact hn), w, fun r v H' G' B' d' q => kk v H' G' r B' d' q, fun cls d' σ' H' G' e B' xd q => kx cls d' H' G' e B' xd q⟩
end
end Z

set_option autoImplicit false
set_option Elab.async false
set_option linter.all false
set_option maxRecDepth 100000
set_option maxHeartbeats 2000003
namespace Z
open PySem PySem.Spec L2
open Py (toD)
section
variable {α β γ δ τ ρ μ : Type} [Py α] [Py β] [Py γ] [Py δ] [Py ρ]
variable {X : Cx} {P : Par} {Wx : WX} {Γ : List Sl} {N : List Str} {sc : Scope} {k : Nat} {a b c e tg iter elt : Expr} {pos : Pos} {es ifs : List Expr} {st : Stmt} {sts rest body : List Stmt}

/-! ### two, three names at once -/
def New (H G' H' : Hp) : Sl → V → Prop
  | .dat d, v => Den G' d v
  | .ownK k l, v => ∃ p vs, v = .ref p ∧ H p = none ∧ G' p = none ∧ H' p = some (k.obj vs) ∧ DenL G' l vs ∧ (l.length ≤ 16777216 ∧ k.okAt p)
  | _, _ => False
def rdV (P : Par) (Wx : WX) (Γ : List Sl) (m : W τ) (w : τ → Sl) : TE := fun σ H Q' => ∃ (G : Hp) (Q : τ → Prop) (E : Ex → Prop), Rel P Γ σ G H ∧ m.wp Q E ∧
  (∀ v H' G' a, Grow P G H G' H' → New H G' H' (w a) v → Q a → Q' v H') ∧ XC P Wx E
def EV (X : Cx) (P : Par) (Wx : WX) (Γ : List Sl) (e : Expr) (m : W τ) (w : τ → Sl) : Prop := PE X e (rdV P Wx Γ m w)
theorem ev_dat {m : W α} (h : EX X P Wx Γ e m) : EV X P Wx Γ e m (fun a => .dat (toD a)) := h
theorem ev_own {m : W (List α)} (h : EN X P Wx Γ e m) : EV X P Wx Γ e m (fun l => .own (l.map toD)) := PE.imp h fun σ H Q' h => by
  obtain ⟨G, Q, E, R, w, kk, kx⟩ := h
  exact ⟨G, Q, E, R, w, fun p vs H' G' a g hp gp hv d zl q => kk (.ref p) H' G' a g ⟨p, vs, rfl, hp, gp, hv, d, by rw [List.length_map]; exact zl, True.intro⟩ q, kx⟩
theorem New.grow {H G1 H1 G2 H2 : Hp} (R : RelB P G1 H1) (g : Grow P G1 H1 G2 H2) (nd : ∀ p, H p = none → ¬ P.dl p) : ∀ (s : Sl) (v : V), New H G1 H1 s v → New H G2 H2 s v
  | .dat d, v, q => Den.mono g.g d v q
  | .ownK _ l, v, ⟨p, vs, e, h0, h1, h2, d, zl⟩ => ⟨p, vs, e, h0, g.n _ _ h2 h1, g.h _ _ h2 (nd p h0), DenL.mono g.g _ _ d, zl⟩
  | .un, _, q => q
  | .deal, _, q => q
  | .vl _, _, q => q
/-- the slot i is set to something new: H is the heap ahead -/
theorem Rel.setNew {σ : L2.St} {G G' H H' : Hp} {s : Sl} {v : V} (R : Rel P Γ σ G H) (R' : Rel P Γ σ G' H') {i : Nat} (q : New H G' H' s v) : Rel P (Γ.set i s) (σ.set i (some v)) G' H' := by
  cases s with
  | un => exact q.elim
  | deal => exact q.elim
  | vl v => exact q.elim
  | dat d => exact R'.set q
  | ownK k l =>
    obtain ⟨p, vs, rfl, h0, h1, h2, d, zl⟩ := q
    refine R'.setOwnK k h2 h1 (R.toRelB.free h0).1 (R.toRelB.free h0).2.1 d zl.1 zl.2 fun j m ej z => ?_
    obtain ⟨o, e1, p', vs', e2, k2, _⟩ := R.slots j _ ej
    rw [z] at e1
    cases e1
    cases e2
    rw [h0] at k2
    cases k2
theorem Rel.setNew2 {σ : L2.St} {G G' H H' H1 : Hp} {s s2 : Sl} {v v2 : V} (R : Rel P Γ σ G H) (R' : Rel P Γ σ G' H') {i j : Nat} (hij : i ≠ j) (q : New H G' H' s v) (q2 : New H1 G' H' s2 v2) (h01 : ∀ b, H1 b = none → H b = none) (hne : ∀ p, v = .ref p → (∃ k l, s = .ownK k l) → H1 p ≠ none) :
    Rel P ((Γ.set i s).set j s2) ((σ.set i (some v)).set j (some v2)) G' H' := by
  have A := R.setNew R' (i := i) q
  cases s2 with
  | un => exact q2.elim
  | deal => exact q2.elim
  | vl v => exact q2.elim
  | dat d => exact A.set q2
  | ownK k2 l =>
    obtain ⟨p, vs, rfl, h0, h1, h2, d, zl⟩ := q2
    refine A.setOwnK k2 h2 h1 (R.toRelB.free (h01 _ h0)).1 (R.toRelB.free (h01 _ h0)).2.1 d zl.1 zl.2 fun j' m ej z => ?_
    by_cases hj : i = j'
    · subst hj
      have hi : i < Γ.length := by
        have := (List.getElem?_eq_some_iff.mp ej).1
        rwa [List.length_set] at this
      rw [List.getElem?_set_self hi] at ej
      cases ej
      rw [List.getElem?_set_self (by rw [R.len]; exact hi)] at z
      cases z
      exact hne p rfl ⟨_, m, rfl⟩ h0
    · rw [List.getElem?_set_ne hj] at ej z
      obtain ⟨o, e1, p', vs', e2, k2, _⟩ := R.slots j' _ ej
      rw [z] at e1
      cases e1
      cases e2
      rw [h01 _ h0] at k2
      cases k2
def rdV2 (P : Par) (Wx : WX) (Γ : List Sl) (m : W (τ × μ)) (w : τ → Sl) (w2 : μ → Sl) : TA := fun σ H Q' => ∃ (G : Hp) (Q : τ × μ → Prop) (E : Ex → Prop), Rel P Γ σ G H ∧ m.wp Q E ∧
  (∀ v v2 H' G' a a2 H1, Rel P Γ σ G' H' → Same G G' → New H G' H' (w a) v → New H1 G' H' (w2 a2) v2 → (∀ b, H1 b = none → H b = none) → (∀ p, v = .ref p → (∃ k l, w a = .ownK k l) → H1 p ≠ none) → Q (a, a2) → Q' [v, v2] H') ∧ XC P Wx E
theorem ea_two {m : W τ} {n : W μ} {w : τ → Sl} {w2 : μ → Sl} (ha : EV X P Wx Γ a m w) (hb : EV X P Wx Γ b n w2) (hs : starEach [a, b] X.env = (false, eval a X.env) :: starEach [b] X.env := by rfl) (hs2 : starEach [b] X.env = (false, eval b X.env) :: starEach [] X.env := by rfl) :
    PA X [a, b] (rdV2 P Wx Γ (W.b2 m n fun x y => W.pure (x, y)) w w2) :=
  PA.imp (pa_cons ha (pa_cons hb pa_nil hs2) hs) fun σ H Q' h => by
    obtain ⟨G, Q, E, R, ww, kk, kx⟩ := h
    refine ⟨G, _, E, R, ww, fun v H1 G1 x g1 n1 w1 => ?_, kx⟩
    have R1 := R.grow g1
    refine ⟨G1, _, E, R1, w1, fun u H2 G2 y g2 n2 w2' => ?_, kx⟩
    have back : ∀ b, H1 b = none → H b = none := fun b z => H_none R.toRelB g1 z
    refine kk v u H2 G2 x y H1 (R1.grow g2) (g1.g.trans g2.g) (New.grow R1.toRelB g2 (fun p z => (R.toRelB.free z).2.1) _ _ n1) n2 back (fun p ep ⟨ko, l, el⟩ z => ?_) w2'
    rw [el] at n1
    obtain ⟨p', vs, ev, _, _, h2, _⟩ := n1
    rw [ep] at ev
    cases ev
    rw [z] at h2
    cases h2
theorem s_par2 {m : W τ} {n : W μ} {w : τ → Sl} {w2 : μ → Sl} {x y : Str} {px py pt pos : Pos} {kt k2 : Nat} {pt2 : Pos} (cc : Dok X P Wx N sc k) (i j : Nat) (ha : EV X P Wx Γ a m w) (hb : EV X P Wx Γ b n w2) (hij : i ≠ j := by decide) (hi : N[i]? = some x := by rfl) (hj : N[j]? = some y := by rfl)
    (hx : sc.names.lookup x = some .local := by rfl) (hy : sc.names.lookup y = some .local := by rfl) (hs : starEach [a, b] X.env = (false, eval a X.env) :: starEach [b] X.env := by rfl) (hs2 : starEach [b] X.env = (false, eval b X.env) :: starEach [] X.env := by rfl)
    (hw : ∀ env : Env, env.scope = sc → swappedStores [.Tuple [.Name x px, .Name y py] kt pt] (.Tuple [a, b] k2 pt2) env = pure (some [x, y]) := by intro env h; cases env; cases h; rfl)
    (hss : swapsWithSole [.Tuple [.Name x px, .Name y py] kt pt] (.Tuple [a, b] k2 pt2) pos.line X.env = pure false := by rfl) :
    S1 X P Wx Γ (.Assign [.Tuple [.Name x px, .Name y py] kt pt] (.Tuple [a, b] k2 pt2) pos) (W.b2 m n fun x y => W.pure (x, y)) (fun p => (Γ.set i (w p.1)).set j (w2 p.2)) :=
  PS.imp (ps_par cc.calm (by rw [cc.hN]; exact cc.nd) (by rw [cc.hN]; exact hi) (by rw [cc.hN]; exact hj) hij (by rw [cc.hsc]; exact hx) (by rw [cc.hsc]; exact hy) (ea_two ha hb hs hs2) (hw _ cc.hsc) hss) fun D σ H h => by
    obtain ⟨G, Q, E, R, ww, kk, kx⟩ := h
    exact ⟨G, Q, E, R, ww, fun v v2 H' G' x y H1 R' s' n1 n2 back ne q => ⟨v, v2, rfl, kk (x, y) _ H' G' (R.setNew2 R' hij n1 n2 back ne) s' q⟩, kx⟩
/-- a tuple is made and taken apart (its names are not all plain locals, or the values are written ones) -/
theorem s_unp {m : W α} {f : α → List Sl} (cc : Dok X P Wx N sc k) (he : EX X P Wx Γ e m) (hg : GT X P Γ tg f) (hs : ∀ env : Env, env.scope = sc → swapsWithSole [tg] e pos.line env = pure false := by intro env h; first | rfl | (cases env; cases h; rfl))
    (hw : ∀ env : Env, env.scope = sc → swappedStores [tg] e env = pure none := by intro env h; first | rfl | (cases env; cases h; rfl)) (h1 : (assignEach [tg] X.env).map (·.2) = [assign tg X.env] := by rfl) :
    S1 X P Wx Γ (.Assign [tg] e pos) m f :=
  PS.imp (ps_asg he hg (hs _ cc.hsc) (hw _ cc.hsc) h1) fun D σ H h => by
    obtain ⟨G, Q, E, R, w, kk, kx⟩ := h
    exact ⟨G, Q, E, R, w, fun v H' G' x g d q => ⟨x, G', R.grow g, d, fun σ' R' => kk x σ' H' G' R' g.g q⟩, kx⟩
/-! ### more operators -/
theorem c_isB : CmpR X P Γ .Is (fun x y : Bool => W.pure (decide (x = y))) := ⟨_, op_isBl, fun _ _ _ x y _ _ _ _ _ _ d1 d2 w k => ⟨x, y, den_bool.mp d1, den_bool.mp d2, k _ w⟩⟩
theorem c_notB : CmpR X P Γ .IsNot (fun x y : Bool => W.pure (!decide (x = y))) := ⟨_, op_notBl, fun _ _ _ x y _ _ _ _ _ _ d1 d2 w k => ⟨x, y, den_bool.mp d1, den_bool.mp d2, k _ w⟩⟩
def catW (x y : List τ) : W (List τ) := W.need (x.length + y.length ≤ 16777216) (x ++ y)
theorem en_cat {m n : W (List α)} (ha : EX X P Wx Γ a m) (hb : EX X P Wx Γ b n) : EN X P Wx Γ (.BinOp a .Add b pos) (W.b2 m n catW) :=
  PE.imp (pe_op op_cat ha hb) fun σ H Q' h => by
    obtain ⟨G, Q, E, R, w, kk, kx⟩ := h
    refine ⟨G, _, E, R, w, fun v H1 G1 x g1 d1 w1 => ?_, kx⟩
    have R1 := R.grow g1
    refine ⟨G1, _, E, R1, w1, fun u H2 G2 y g2 d2 w2 => ?_, kx⟩
    have R2 := R1.grow g2
    have g12 := g1.trans g2 (DealAt.there R1.dk)
    obtain ⟨p, vs, rfl, g, t, zl⟩ := den_list.mp (Den.mono g2.g _ _ d1)
    obtain ⟨q, ws, rfl, g', t', zl'⟩ := den_list.mp d2
    have l1 : vs.length = x.length := by rw [t.length, List.length_map]
    have l2 : ws.length = y.length := by rw [t'.length, List.length_map]
    refine ⟨p, q, vs, ws, rfl, rfl, R2.sub _ _ g, R2.sub _ _ g', by rw [l1, l2, sizeLine_eq]; exact w2.1, fun r hr => ?_⟩
    have g4 := grow_raw (o := .lst (vs ++ ws)) R2.toRelB hr
    exact kk r _ _ _ (x ++ y) (g12.trans g4 (DealAt.there R2.dk)) (H_none R.toRelB g12 hr) (R2.toRelB.free hr).2.2 upd_same (by rw [List.map_append]; exact DenL.append t t') (by rw [List.length_append]; exact w2.1) w2.2
def catT (x y : Tup τ) : W (Tup τ) := W.need (x.l.length + y.l.length ≤ 16777216) ⟨x.l ++ y.l⟩
theorem ex_catT {m n : W (Tup α)} (ha : EX X P Wx Γ a m) (hb : EX X P Wx Γ b n) : EX X P Wx Γ (.BinOp a .Add b pos) (W.b2 m n catT) :=
  ex_op op_catA (fun σ G H x y v u Q E Q' R d1 d2 w kk => by
    obtain ⟨p, vs, rfl, g, t, zl⟩ := den_tup.mp d1
    obtain ⟨q, ws, rfl, g', t', zl'⟩ := den_tup.mp d2
    have l1 : vs.length = x.l.length := by rw [t.length, List.length_map]
    have l2 : ws.length = y.l.length := by rw [t'.length, List.length_map]
    refine ⟨p, q, vs, ws, rfl, rfl, .inl (.inl (R.sub _ _ g)), .inl (.inl (R.sub _ _ g')), by rw [l1, l2, sizeLine_eq]; exact w.1, fun e => ?_, fun _ e => ?_, fun _ _ r hr => ?_⟩
    · subst e
      have ex : x.l = [] := List.length_eq_zero_iff.mp (by rw [← l1]; rfl)
      refine kk _ _ _ _ (Grow.refl R.toRelB) (den_tup.mpr ⟨q, ws, rfl, g', ?_, by rw [ex]; exact zl'⟩) w.2
      rw [ex]
      exact t'
    · subst e
      have ey : y.l = [] := List.length_eq_zero_iff.mp (by rw [← l2]; rfl)
      refine kk _ _ _ _ (Grow.refl R.toRelB) (den_tup.mpr ⟨p, vs, rfl, g, ?_, by rw [ey]; simpa using zl⟩) w.2
      rw [ey]
      simpa using t
    · have g4 := grow_new (o := .tup (vs ++ ws)) R.toRelB hr
      refine kk _ _ _ _ g4 (den_tup.mpr ⟨r, _, rfl, upd_same, ?_, by rw [List.length_append]; exact w.1⟩) w.2
      rw [List.map_append]
      exact DenL.mono g4.g _ _ (DenL.append t t')) ha hb
/-- [x] * n -/
def repW (x : List τ) (n : Int) : W (List τ) := W.need (0 ≤ n ∧ n < 2 ^ 62 ∧ x.length * n.toNat ≤ 16777216) (List.replicate n.toNat x).flatten
theorem DenL.rep {G : Hp} {l : List D} {vs : List V} (h : DenL G l vs) : ∀ n, DenL G (List.replicate n l).flatten (List.replicate n vs).flatten
  | 0 => DenL.nil_iff.mpr rfl
  | n + 1 => by
    rw [List.replicate_succ, List.replicate_succ, List.flatten_cons, List.flatten_cons]
    exact DenL.append h (DenL.rep h n)
theorem en_rep {m : W (List α)} {n : W Int} (ha : EX X P Wx Γ a m) (hb : EX X P Wx Γ b n) : EN X P Wx Γ (.BinOp a .Mult b pos) (W.b2 m n repW) :=
  PE.imp (pe_op op_rep ha hb) fun σ H Q' h => by
    obtain ⟨G, Q, E, R, w, kk, kx⟩ := h
    refine ⟨G, _, E, R, w, fun v H1 G1 x g1 d1 w1 => ?_, kx⟩
    have R1 := R.grow g1
    refine ⟨G1, _, E, R1, w1, fun u H2 G2 y g2 d2 w2 => ?_, kx⟩
    have R2 := R1.grow g2
    have g12 := g1.trans g2 (DealAt.there R1.dk)
    obtain ⟨p, vs, rfl, g, t, zl⟩ := den_list.mp (Den.mono g2.g _ _ d1)
    have l1 : vs.length = x.length := by rw [t.length, List.length_map]
    have w2 : (repW x y).wp Q E := w2
    refine ⟨p, y, vs, rfl, den_int.mp d2, R2.sub _ _ g, by have := w2.1; omega, by have := w2.1; omega, by rw [l1, sizeLine_eq]; exact w2.1.2.2, fun r hr => ?_⟩
    have g4 := grow_raw (o := .lst (List.replicate y.toNat vs).flatten) R2.toRelB hr
    refine kk r _ _ _ _ (g12.trans g4 (DealAt.there R2.dk)) (H_none R.toRelB g12 hr) (R2.toRelB.free hr).2.2 upd_same ?_ ?_ w2.2
    · rw [List.map_flatten, List.map_replicate]
      exact DenL.rep t _
    · have := w2.1.2.2
      rw [List.length_flatten, List.map_replicate, List.sum_replicate_nat, Nat.mul_comm]
      exact this
/-- xs[::-1] -/
theorem en_rev {m : W (List α)} {j : Nat} {p1 p2 p3 : Pos} (ha : EX X P Wx Γ a m) : EN X P Wx Γ (.Subscript a (.Slice none none (some (.UnaryOp .USub (.Constant (.int 1) j p1) p2)) p3) pos) (W.b1 m fun l => W.pure l.reverse) :=
  PE.imp (pe_revL ha) fun σ H Q' h => by
    obtain ⟨G, Q, E, R, w, kk, kx⟩ := h
    refine ⟨G, _, E, R, w, fun v H1 G1 x g1 d1 w1 => ?_, kx⟩
    have R1 := R.grow g1
    obtain ⟨p, vs, rfl, g, t, zl⟩ := den_list.mp d1
    refine ⟨p, vs, rfl, .inl (.inl (R1.sub _ _ g)), fun r hr => ?_⟩
    have g4 := grow_raw (o := .lst vs.reverse) R1.toRelB hr
    refine kk r _ _ _ _ (g1.trans g4 (DealAt.there R1.dk)) (H_none R.toRelB g1 hr) (R1.toRelB.free hr).2.2 upd_same ?_ (by rw [List.length_reverse]; exact zl) w1
    rw [List.map_reverse]
    have rv : ∀ (l : List D) (vs : List V), DenL G1 l vs → DenL G1 l.reverse vs.reverse := by
      intro l
      induction l with
      | nil => intro vs h; rw [DenL.nil_iff] at h; subst h; exact DenL.nil_iff.mpr rfl
      | cons d l ih =>
        intro vs h
        obtain ⟨v, r, rfl, a, b⟩ := DenL.cons_iff.mp h
        rw [List.reverse_cons, List.reverse_cons]
        exact DenL.append (ih r b) (DenL.one a)
    exact rv _ _ t
/-! ### in -/
theorem inV_ints (x : Int) : ∀ l : List Int, inV (.int x) (l.map V.int) = decide (x ∈ l)
  | [] => rfl
  | y :: l => by
    have ih := inV_ints x l
    unfold inV at ih ⊢
    rw [List.map_cons, List.any_cons, ih]
    have e : eqV (V.int y) (V.int x) = decide (x = y) := by
      show (y == x) = _
      by_cases h : x = y
      · subst h; simp
      · rw [decide_eq_false h]
        exact beq_eq_false_iff_ne.mpr fun z => h z.symm
    rw [e]
    by_cases h : x = y <;> simp [h]
theorem flat_ints (l : List Int) : (l.map V.int).all flatV = true := by
  rw [List.all_eq_true]
  intro v hv
  obtain ⟨i, _, rfl⟩ := List.mem_map.mp hv
  rfl
theorem c_inL : CmpR X P Γ .In (fun (x : Int) (l : List Int) => W.pure (decide (x ∈ l))) := ⟨_, op_in_seq, fun _ G H x l v u Q E Q' R d1 d2 w kk => by
  obtain ⟨p, vs, rfl, g, t, zl⟩ := den_list.mp d2
  rw [DenL.ints] at t
  subst t
  refine ⟨p, _, rfl, .inl (.inl (.inl (R.sub _ _ g))), by rw [den_int.mp d1]; rfl, flat_ints l, ?_⟩
  rw [if_neg Bool.false_ne_true, den_int.mp d1, inV_ints]
  exact kk _ w⟩
theorem c_notinL : CmpR X P Γ .NotIn (fun (x : Int) (l : List Int) => W.pure (!decide (x ∈ l))) := ⟨_, op_notIn_seq, fun _ G H x l v u Q E Q' R d1 d2 w kk => by
  obtain ⟨p, vs, rfl, g, t, zl⟩ := den_list.mp d2
  rw [DenL.ints] at t
  subst t
  refine ⟨p, _, rfl, .inl (.inl (.inl (R.sub _ _ g))), by rw [den_int.mp d1]; rfl, flat_ints l, ?_⟩
  rw [if_pos rfl, den_int.mp d1, inV_ints]
  exact kk _ w⟩
theorem c_inT : CmpR X P Γ .In (fun (x : Int) (l : Tup Int) => W.pure (decide (x ∈ l.l))) := ⟨_, op_in_seq, fun _ G H x l v u Q E Q' R d1 d2 w kk => by
  obtain ⟨p, vs, rfl, g, t, zl⟩ := den_tup.mp d2
  rw [DenL.ints] at t
  subst t
  refine ⟨p, _, rfl, .inr (.inl (.inl (R.sub _ _ g))), by rw [den_int.mp d1]; rfl, flat_ints l.l, ?_⟩
  rw [if_neg Bool.false_ne_true, den_int.mp d1, inV_ints]
  exact kk _ w⟩
theorem c_notinT : CmpR X P Γ .NotIn (fun (x : Int) (l : Tup Int) => W.pure (!decide (x ∈ l.l))) := ⟨_, op_notIn_seq, fun _ G H x l v u Q E Q' R d1 d2 w kk => by
  obtain ⟨p, vs, rfl, g, t, zl⟩ := den_tup.mp d2
  rw [DenL.ints] at t
  subst t
  refine ⟨p, _, rfl, .inr (.inl (.inl (R.sub _ _ g))), by rw [den_int.mp d1]; rfl, flat_ints l.l, ?_⟩
  rw [if_pos rfl, den_int.mp d1, inV_ints]
  exact kk _ w⟩
/-! ### two arguments -/
theorem ex_bf2 {id : String} {x : Str} {r : List V → Hp → VK → Prop} {m : W α} {n : W β} {f : α → β → W γ} {p : Pos} (cc : Cok X P Wx N sc k) (hc : CallR X (.builtin id) r) (hv : bootBuiltins x = some (.builtin id)) (ha : EX X P Wx Γ a m) (hb : EX X P Wx Γ b n)
    (core : ∀ (σ : L2.St) (G H : Hp) (y : α) (z : β) (v u : V) (Q : γ → Prop) (E : Ex → Prop) (Q' : VK), Rel P Γ σ G H → Den G (toD y) v → Den G (toD z) u → (f y z).wp Q E →
      (∀ w H' G' z, Grow P G H G' H' → Den G' (toD z) w → Q z → Q' w H') → r [v, u] H Q')
    (hx : x ∈ bnames) (hg : GlS sc x) (hn : x ≠ "__name__") (hdb : (x == ("__debug__" : Str)) = false)
    (hs : starEach [a, b] X.env = (false, eval a X.env) :: starEach [b] X.env) (hs2 : starEach [b] X.env = (false, eval b X.env) :: starEach [] X.env) : EX X P Wx Γ (.Call (.Name x p) [a, b] [] pos) (W.b2 m n f) :=
  PE.imp (pe_callB hc (gl cc hg) (blt cc hx) hv (pa_cons ha (pa_cons hb pa_nil hs2) hs) hn hdb hs (by rw [hs2]; rfl)) fun σ H Q' h => by
    obtain ⟨G, Q, E, R, w, kk, kx⟩ := h
    refine ⟨G, _, E, R, w, fun v H1 G1 x g1 d1 w1 => ?_, kx⟩
    have R1 := R.grow g1
    refine ⟨G1, _, E, R1, w1, fun u H2 G2 y g2 d2 w2 => ?_, kx⟩
    have R2 := R1.grow g2
    exact core σ G2 H2 x y v u Q E Q' R2 (Den.mono g2.g _ _ d1) d2 w2 fun w H3 G3 z g3 => kk w H3 G3 z ((g1.trans g2 (DealAt.there R1.dk)).trans g3 (DealAt.there R2.dk))
theorem ex_max2 {m n : W Int} {p : Pos} (cc : Cok X P Wx N sc k) (ha : EX X P Wx Γ a m) (hb : EX X P Wx Γ b n) (hg : GlS sc "max" := by rfl) (hs : starEach [a, b] X.env = (false, eval a X.env) :: starEach [b] X.env := by rfl) (hs2 : starEach [b] X.env = (false, eval b X.env) :: starEach [] X.env := by rfl) :
    EX X P Wx Γ (.Call (.Name "max" p) [a, b] [] pos) (W.b2 m n fun i j => W.pure (max i j)) :=
  ex_bf2 cc (call_max2 cc.calm) (by decide +kernel) ha hb (fun σ G H y z v u Q E Q' R d1 d2 w kk => ⟨y, z, by rw [den_int.mp d1, den_int.mp d2], kk _ _ _ _ (Grow.refl R.toRelB) (den_int.mpr (by rw [show (if z > y then z else y) = max y z by omega])) w⟩) (by decide) hg (by decide) (by decide) hs hs2
theorem ex_min2 {m n : W Int} {p : Pos} (cc : Cok X P Wx N sc k) (ha : EX X P Wx Γ a m) (hb : EX X P Wx Γ b n) (hg : GlS sc "min" := by rfl) (hs : starEach [a, b] X.env = (false, eval a X.env) :: starEach [b] X.env := by rfl) (hs2 : starEach [b] X.env = (false, eval b X.env) :: starEach [] X.env := by rfl) :
    EX X P Wx Γ (.Call (.Name "min" p) [a, b] [] pos) (W.b2 m n fun i j => W.pure (min i j)) :=
  ex_bf2 cc (call_min2 cc.calm) (by decide +kernel) ha hb (fun σ G H y z v u Q E Q' R d1 d2 w kk => ⟨y, z, by rw [den_int.mp d1, den_int.mp d2], kk _ _ _ _ (Grow.refl R.toRelB) (den_int.mpr (by rw [show (if z < y then z else y) = min y z by omega])) w⟩) (by decide) hg (by decide) (by decide) hs hs2
/-! ### new lists by built-in names -/
theorem en_bt {T : String} {x : Str} {r : List V → Hp → VK → Prop} {m : W α} {f : α → W (List β)} {p : Pos} (cc : Cok X P Wx N sc k) (hc : CallR X (.type T) r) (hv : bootBuiltins x = some (.type T)) (ha : EX X P Wx Γ e m)
    (core : ∀ (σ : L2.St) (G H : Hp) (y : α) (v : V) (Q : List β → Prop) (E : Ex → Prop) (Q' : VK), Rel P Γ σ G H → Den G (toD y) v → (f y).wp Q E →
      (∀ r z vs, H r = none → DenL G (z.map toD) vs → z.length ≤ 16777216 → Q z → Q' (.ref r) (upd H r (.lst vs))) → r [v] H Q')
    (hx : x ∈ bnames) (hg : GlS sc x) (hn : x ≠ "__name__") (hdb : (x == ("__debug__" : Str)) = false)
    (hs : starEach [e] X.env = (false, eval e X.env) :: starEach [] X.env) : EN X P Wx Γ (.Call (.Name x p) [e] [] pos) (W.b1 m f) :=
  PE.imp (pe_callTy hc (gl cc hg) (blt cc hx) hv (pa_cons ha pa_nil hs) hn hdb hs) fun σ H Q' h => by
    obtain ⟨G, Q, E, R, w, kk, kx⟩ := h
    refine ⟨G, _, E, R, w, fun v H1 G1 x g1 d1 w1 => ?_, kx⟩
    have R1 := R.grow g1
    refine core σ G1 H1 x v Q E Q' R1 d1 w1 fun r z vs hr d zl q => ?_
    have g4 := grow_raw (o := .lst vs) R1.toRelB hr
    exact kk r vs _ _ z (g1.trans g4 (DealAt.there R1.dk)) (H_none R.toRelB g1 hr) (R1.toRelB.free hr).2.2 upd_same d zl q
theorem en_bf {id : String} {x : Str} {r : List V → Hp → VK → Prop} {m : W α} {f : α → W (List β)} {p : Pos} (cc : Cok X P Wx N sc k) (hc : CallR X (.builtin id) r) (hv : bootBuiltins x = some (.builtin id)) (ha : EX X P Wx Γ e m)
    (core : ∀ (σ : L2.St) (G H : Hp) (y : α) (v : V) (Q : List β → Prop) (E : Ex → Prop) (Q' : VK), Rel P Γ σ G H → Den G (toD y) v → (f y).wp Q E →
      (∀ r z vs, H r = none → DenL G (z.map toD) vs → z.length ≤ 16777216 → Q z → Q' (.ref r) (upd H r (.lst vs))) → r [v] H Q')
    (hx : x ∈ bnames) (hg : GlS sc x) (hn : x ≠ "__name__") (hdb : (x == ("__debug__" : Str)) = false)
    (hs : starEach [e] X.env = (false, eval e X.env) :: starEach [] X.env) : EN X P Wx Γ (.Call (.Name x p) [e] [] pos) (W.b1 m f) :=
  PE.imp (pe_callB hc (gl cc hg) (blt cc hx) hv (pa_cons ha pa_nil hs) hn hdb hs) fun σ H Q' h => by
    obtain ⟨G, Q, E, R, w, kk, kx⟩ := h
    refine ⟨G, _, E, R, w, fun v H1 G1 x g1 d1 w1 => ?_, kx⟩
    have R1 := R.grow g1
    refine core σ G1 H1 x v Q E Q' R1 d1 w1 fun r z vs hr d zl q => ?_
    have g4 := grow_raw (o := .lst vs) R1.toRelB hr
    exact kk r vs _ _ z (g1.trans g4 (DealAt.there R1.dk)) (H_none R.toRelB g1 hr) (R1.toRelB.free hr).2.2 upd_same d zl q
theorem en_listL {m : W (List α)} {p : Pos} (cc : Cok X P Wx N sc k) (ha : EX X P Wx Γ e m) (hg : GlS sc "list" := by rfl) (hs : starEach [e] X.env = (false, eval e X.env) :: starEach [] X.env := by rfl) :
    EN X P Wx Γ (.Call (.Name "list" p) [e] [] pos) (W.b1 m fun l => W.pure l) :=
  en_bt cc call_list_of (by decide +kernel) ha (fun σ G H y v Q E Q' R d w kk => by
    obtain ⟨q, vs, rfl, g, t, zl⟩ := den_list.mp d
    exact ⟨q, vs, rfl, .inl (.inl (rd_sub R.sub g)), fun r hr => kk r y vs hr t zl w⟩) (by decide) hg (by decide) (by decide) hs
theorem en_listT {m : W (Tup α)} {p : Pos} (cc : Cok X P Wx N sc k) (ha : EX X P Wx Γ e m) (hg : GlS sc "list" := by rfl) (hs : starEach [e] X.env = (false, eval e X.env) :: starEach [] X.env := by rfl) :
    EN X P Wx Γ (.Call (.Name "list" p) [e] [] pos) (W.b1 m fun l => W.pure l.l) :=
  en_bt cc call_list_of (by decide +kernel) ha (fun σ G H y v Q E Q' R d w kk => by
    obtain ⟨q, vs, rfl, g, t, zl⟩ := den_tup.mp d
    exact ⟨q, vs, rfl, .inr (.inl (.inl (R.sub _ _ g))), fun r hr => kk r y.l vs hr t zl w⟩) (by decide) hg (by decide) (by decide) hs
/-! sorted -/
def ins (x : Int) : List Int → List Int
  | [] => [x]
  | y :: l => if x ≤ y then x :: y :: l else y :: ins x l
def sortI : List Int → List Int
  | [] => []
  | x :: l => ins x (sortI l)
theorem ins_perm (x : Int) : ∀ l, (ins x l).Perm (x :: l)
  | [] => .refl _
  | y :: l => by
    unfold ins
    split
    · exact .refl _
    · exact ((ins_perm x l).cons y).trans (.swap x y l)
theorem sortI_perm : ∀ l, (sortI l).Perm l
  | [] => .refl _
  | x :: l => (ins_perm x _).trans ((sortI_perm l).cons x)
theorem ins_sorted (x : Int) : ∀ l, l.Pairwise (· ≤ ·) → (ins x l).Pairwise (· ≤ ·)
  | [], _ => by simp [ins]
  | y :: l, h => by
    unfold ins
    split
    · rename_i hxy
      refine List.pairwise_cons.mpr ⟨fun z hz => ?_, h⟩
      rcases List.mem_cons.mp hz with e | hz
      · rw [e]; exact hxy
      · exact Int.le_trans hxy ((List.pairwise_cons.mp h).1 z hz)
    · rename_i hxy
      refine List.pairwise_cons.mpr ⟨fun z hz => ?_, ins_sorted x l (List.pairwise_cons.mp h).2⟩
      rcases List.mem_cons.mp ((ins_perm x l).mem_iff.mp hz) with e | hz
      · rw [e]; omega
      · exact (List.pairwise_cons.mp h).1 z hz
theorem sortI_sorted : ∀ l, (sortI l).Pairwise (· ≤ ·)
  | [] => .nil
  | x :: l => ins_sorted x _ (sortI_sorted l)
theorem sorted_unique : ∀ {l m : List Int}, l.Perm m → l.Pairwise (· ≤ ·) → m.Pairwise (· ≤ ·) → l = m
  | [], m, p, _, _ => (List.nil_perm.mp p).symm
  | x :: l, m, p, h1, h2 => by
    cases m with
    | nil => exact absurd (p.length_eq) (by simp)
    | cons y m =>
      have hx : x ∈ y :: m := p.mem_iff.mp List.mem_cons_self
      have hy : y ∈ x :: l := p.mem_iff.mpr List.mem_cons_self
      have a1 : y ≤ x := by
        rcases List.mem_cons.mp hx with e | e
        · omega
        · exact (List.pairwise_cons.mp h2).1 x e
      have a2 : x ≤ y := by
        rcases List.mem_cons.mp hy with e | e
        · omega
        · exact (List.pairwise_cons.mp h1).1 y e
      have e : x = y := by omega
      subst e
      rw [sorted_unique (List.perm_cons x |>.mp p) (List.pairwise_cons.mp h1).2 (List.pairwise_cons.mp h2).2]
theorem en_sorted {m : W (List Int)} {p : Pos} (cc : Cok X P Wx N sc k) (ha : EX X P Wx Γ e m) (hg : GlS sc "sorted" := by rfl) (hs : starEach [e] X.env = (false, eval e X.env) :: starEach [] X.env := by rfl) :
    EN X P Wx Γ (.Call (.Name "sorted" p) [e] [] pos) (W.b1 m fun l => W.pure (sortI l)) :=
  en_bf cc cr_sortedI (by decide +kernel) ha (fun σ G H y v Q E Q' R d w kk => by
    obtain ⟨q, vs, rfl, g, t, zl⟩ := den_list.mp d
    rw [DenL.ints] at t
    subst t
    refine ⟨q, y, rfl, .inl (rd_sub R.sub g), fun ns' r hp hsd hr => ?_⟩
    have e : ns' = sortI y := sorted_unique (hp.trans (sortI_perm y).symm) hsd (sortI_sorted y)
    subst e
    exact kk r _ _ hr (DenL.ints.mpr rfl) (by rw [(sortI_perm y).length_eq]; exact zl) w) (by decide) hg (by decide) (by decide) hs
/-! ### walks of pairs -/
theorem YPair.ok {G2 H2 H' : Hp} {l m : List D} {xs ys : List V} {i : Nat} {v : V} {x y : D} (R : RelB P G2 H2) (tx : DenL G2 l xs) (ty : DenL G2 m ys) (hx : l[i]? = some x) (hy : m[i]? = some y) (h : YPair (fun i => xs[i]?) (fun i => ys[i]?) i H2 v H') : ∃ G', Grow P G2 H2 G' H' ∧ Den G' (.tup [x, y]) v := by
  obtain ⟨T, v1, v2, rfl, hT, rfl, e1, e2⟩ := h
  have g4 := grow_new (o := .tup [v1, v2]) R hT
  refine ⟨_, g4, ?_⟩
  simp only [Den, DenL]
  exact ⟨T, _, rfl, upd_same, ⟨v1, _, rfl, Den.mono g4.g _ _ (den_get tx hx e1), v2, _, rfl, Den.mono g4.g _ _ (den_get ty hy e2), rfl⟩, by simp⟩
def zipL (x : List α) (y : List β) : List (α × β) := x.zip y
theorem ei_zipL {m : W (List α)} {n : W (List β)} {p tpos : Pos} {elts : List Expr} {kk' : Nat} (cc : Cok X P Wx N sc k) (ha : EX X P Wx Γ a m) (hb : EX X P Wx Γ b n) (hg : GlS sc "zip" := by rfl) (hs : starEach [a, b] X.env = (false, eval a X.env) :: starEach [b] X.env := by rfl) (hs2 : starEach [b] X.env = (false, eval b X.env) :: starEach [] X.env := by rfl) :
    EI X P Wx Γ (.Tuple elts kk' tpos) (.Call (.Name "zip" p) [a, b] [] pos) (W.b2 m n fun x y => W.pure (x.zip y)) :=
  PI.imp (RZ.pi_zipA (gl cc hg) (blt cc) (pa_cons ha (pa_cons hb pa_nil hs2) hs) hs (by rw [hs2]; rfl)) fun σ H Q' h => by
    obtain ⟨G, Q, E, R, w, kk, kx⟩ := h
    refine ⟨G, _, E, R, w, fun v H1 G1 x g1 d1 w1 => ?_, kx⟩
    have R1 := R.grow g1
    refine ⟨G1, _, E, R1, w1, fun u H2 G2 y g2 d2 w2 => ?_, kx⟩
    have R2 := R1.grow g2
    have g12 := g1.trans g2 (DealAt.there R1.dk)
    obtain ⟨p, vs, rfl, g, t, zl⟩ := den_list.mp (Den.mono g2.g _ _ d1)
    obtain ⟨q, ws, rfl, g', t', zl'⟩ := den_list.mp d2
    have l1 : vs.length = x.length := by rw [t.length, List.length_map]
    have l2 : ws.length = y.length := by rw [t'.length, List.length_map]
    refine ⟨p, q, vs, ws, rfl, .inl ⟨.inl (.inl (R2.sub _ _ g)), .inl (.inl (R2.sub _ _ g')), kk _ H2 G2 (x.zip y) g12 (fun G3 H3 R3 s3 => ?_) w2⟩⟩
    have wk := walk_zip (K := X.K) (a := p) (b := q) (xs := vs) (ys := ws) (n := min vs.length ws.length) rfl
    have sq : SqL X.K H3 p vs ∧ SqL X.K H3 q ws := ⟨.inl (.inl (R3.sub _ _ (s3 _ _ g))), .inl (.inl (R3.sub _ _ (s3 _ _ g')))⟩
    have hlen : ((x.zip y).map toD).length = min vs.length ws.length := by rw [List.length_map, List.length_zip, l1, l2]
    refine ⟨fun i z hz => ?_, by rw [hlen]; exact wk.stops H3 sq, by rw [hlen, l1]; omega⟩
    have hi : i < min vs.length ws.length := by
      rw [← hlen]
      exact (List.getElem?_eq_some_iff.mp hz).1
    have hx : i < x.length := by omega
    have hy : i < y.length := by omega
    refine ⟨wk.goes i H3 hi sq, fun v' H' hyl => ?_⟩
    obtain ⟨G', g4, d4⟩ := YPair.ok R3 (DenL.mono s3 _ _ t) (DenL.mono s3 _ _ t') (x := toD x[i]) (y := toD y[i]) (by rw [List.getElem?_map, List.getElem?_eq_getElem hx]; rfl) (by rw [List.getElem?_map, List.getElem?_eq_getElem hy]; rfl) (wk.yields i H3 v' H' hi sq hyl)
    refine ⟨G', g4, ?_⟩
    have ez : (x.zip y)[i]? = some (x[i], y[i]) := by
      rw [List.getElem?_eq_getElem (by rw [List.length_zip]; omega), List.getElem_zip]
    rw [List.getElem?_map, ez] at hz
    cases hz
    exact d4
/-- (0, x0), (1, x1), .. -/
def enumL (l : List τ) : List (Int × τ) := l.zipIdx.map fun p => ((p.2 : Int), p.1)
theorem enumL_get (l : List τ) (i : Nat) (h : i < l.length) : (enumL l)[i]? = some ((i : Int), l[i]) := by
  unfold enumL
  rw [List.getElem?_map, List.getElem?_zipIdx, List.getElem?_eq_getElem h]
  simp
theorem enumL_length (l : List τ) : (enumL l).length = l.length := by
  unfold enumL
  simp
theorem ei_enumL {m : W (List α)} {p tpos : Pos} {elts : List Expr} {kk' : Nat} (cc : Cok X P Wx N sc k) (ha : EX X P Wx Γ a m) (hg : GlS sc "enumerate" := by rfl) (hs : starEach [a] X.env = (false, eval a X.env) :: starEach [] X.env := by rfl) :
    EI X P Wx Γ (.Tuple elts kk' tpos) (.Call (.Name "enumerate" p) [a] [] pos) (W.b1 m fun x => W.pure (enumL x)) :=
  PI.imp (pi_enum (gl cc hg) (blt cc) (pa_cons ha pa_nil hs) hs) fun σ H Q' h => by
    obtain ⟨G, Q, E, R, w, kk, kx⟩ := h
    refine ⟨G, _, E, R, w, fun v H1 G1 x g1 d1 w1 => ?_, kx⟩
    have R1 := R.grow g1
    obtain ⟨p, vs, rfl, g, t, zl⟩ := den_list.mp d1
    have l1 : vs.length = x.length := by rw [t.length, List.length_map]
    refine ⟨p, vs, rfl, .inl (.inl (R1.sub _ _ g)), kk _ H1 G1 (enumL x) g1 (fun G3 H3 R3 s3 => ?_) w1⟩
    have wk := walk_enum (K := X.K) (a := p) (xs := vs)
    have sq : SqL X.K H3 p vs := .inl (.inl (R3.sub _ _ (s3 _ _ g)))
    have hlen : ((enumL x).map toD).length = vs.length := by rw [List.length_map, enumL_length, l1]
    refine ⟨fun i z hz => ?_, by rw [hlen]; exact wk.stops H3 sq, by rw [hlen, l1]; exact zl⟩
    have hi : i < vs.length := by
      rw [← hlen]
      exact (List.getElem?_eq_some_iff.mp hz).1
    have hx : i < x.length := by omega
    refine ⟨wk.goes i H3 hi sq, fun v' H' hyl => ?_⟩
    obtain ⟨T, v1, v2, rfl, hT, rfl, e1, e2⟩ := wk.yields i H3 v' H' hi sq hyl
    have g4 := grow_new (o := .tup [v1, v2]) R3 hT
    rw [List.getElem?_map, enumL_get x i hx] at hz
    cases hz
    refine ⟨_, g4, ?_⟩
    show Den _ (.tup [toD ((i : Nat) : Int), toD x[i]]) _
    simp only [Den, DenL]
    refine ⟨T, _, rfl, upd_same, ⟨v1, _, rfl, ?_, v2, _, rfl, Den.mono g4.g _ _ (den_get (DenL.mono s3 _ _ t) (by rw [List.getElem?_map, List.getElem?_eq_getElem hx]; rfl) e2), rfl⟩, by simp⟩
    have e1 : some (V.int (i : Nat)) = some v1 := e1
    cases e1
    exact den_int.mpr rfl
end
end Z

set_option autoImplicit false
set_option Elab.async false
set_option linter.all false
set_option maxRecDepth 100000
set_option maxHeartbeats 2000003
/-! an own error whose __init__ says super().__init__('..') and keeps its argument as at -/
namespace Bq
open PySem PySem.W PySem.Calls PyProof.Rows PySem.HandSPX
def iA (p1 p2 : Pos) : Arguments := { posonlyargs := [], args := [{ arg := "self", annotation := none, pos := p1 }, { arg := "at", annotation := none, pos := p2 }], vararg := none, kwonlyargs := [], kw_defaults := [], kwarg := none, defaults := [] }
def iB (msg : Str) (j : Nat) (q0 q1 q2 q3 q4 q5 q6 q7 q8 q9 : Pos) : List Stmt :=
  [.Expr (.Call (.Attribute (.Call (.Name "super" q0) [] [] q1) "__init__" q2) [.Constant (.str msg) j q3] [] q4) q5, .Assign [.Attribute (.Name "self" q6) "at" q7] (.Name "at" q8) q9]
def iS : Scope := { kind := .function, names := [(PySem.Str.ofString "self", .local), (PySem.Str.ofString "at", .local), (PySem.Str.ofString "__class__", .free), (PySem.Str.ofString "super", .globalImplicit)], isGenerator := false, isCoroutine := false, more := [] }
abbrev bmV : List Value := [.type "ValueError", .type "Exception", .type "BaseException", .type "object"]
structure Txt (prog : Program) (K : Frag) (mg : Str → Option Value) (nm : Str) (C fI cda cc : Addr) : Prop where
  gC : mg nm = some (.ref C)
  cls : ∃ nm q N bs bm sn sub ab col dd k0 k1 k2 k3 k5, K.lookup C = some (excClassObj nm q C N bs bm true sn sub ab col dd k0 k1 k2 k3 k5 "ValueError.__new__") ∧ refsVE bm = true
  sa : findIn K (.ref C) "__setattr__" = some (some (.builtin "object.__setattr__"))
  ga : findIn K (.ref C) "__getattribute__" = some (some (.builtin "BaseException.__getattribute__"))
  gg : findIn K (.ref C) "__getattr__" = some none
  noN : findIn K (.ref C) "at" = some none
  iC : findIn K (.ref C) "__init__" = some (some (.ref fI))
  tC : typeIn K (.ref fI) = some (.type "function")
  kC : keepIn K (.ref C) = true
  exC : subIn K (.ref C) (.type "BaseException") = some true
  tyC : typeIn K (.ref C) = some (.type "type")
  hdC : hasDictIn K C = true
  isC : isClsIn K C = true
  fn : ∃ (qual msg : Str) (oc doc pm ct : Value) (od an : Option Addr) (osl : Array (Option Value)) (j : Nat) (p1 p2 q0 q1 q2 q3 q4 q5 q6 q7 q8 q9 : Pos),
    K.lookup fI = some ⟨oc, od, .func (ksFn "__init__" qual (iA p1 p2) (iB msg j q0 q1 q2 q3 q4 q5 q6 q7 q8 q9) iS .none .none doc pm an (.ref cda) ct cc), osl⟩ ∧ codeIn K (.ref cda) qual = true ∧ (q2.endLine == q4.line) = true
  code : ∃ (ccl : Value) (cdd : Option Addr) (vs : Array Value) (ccs : Array (Option Value)) (file : Str) (tf : Tok), K.lookup cda = some ⟨ccl, cdd, .fields vs, ccs⟩ ∧ vs[2]? = some (.str file tf) ∧ ((prog.main.file : Str) == file) = true
  cell : ∃ (cl : Value) (cld : Option Addr) (csl : Array (Option Value)), K.lookup cc = some ⟨cl, cld, .cell (some (.ref C)), csl⟩
  sup : ks_superIn K C C "__init__" = some (some (.builtin "ValueError.__init__"))
  any : nsIn K cStatics "thirdparty.any" = some none
  sbV : subIn K (.ref C) (.type "ValueError") = some true
  mro : mroIn K C (.ref C) = some true
  nsup : mg "super" = none
  top : (prog.main.scope.names.lookup ("super" : Str)).isSome = false
  xi : excInitIn K C bmV "ValueError.__new__" = true
theorem he_of {env : Env} {msg : Str} {j : Nat} {q0 q1 q2 q3 q4 : Pos} (hl : (q2.endLine == q4.line) = true) : eval (.Call (.Attribute (.Call (.Name "super" q0) [] [] q1) "__init__" q2) [.Constant (.str msg) j q3] [] q4) env = (do
    let ov ← attributeBase (.Call (.Name "super" q0) [] [] q1) "__init__" env (eval (.Call (.Name "super" q0) [] [] q1) env)
    standAt q2.atName
    let (f, first) ← holding [ov] (getMethod ov "__init__" (do return (← importBound (.Call (.Name "super" q0) [] [] q1) env).getD true))
    callWith q4 f first (backTo q4 (starEach [.Constant (.str msg) j q3] env)) []) := by
  have hp : methodCallPos true (.Call (.Name "super" q0) [] [] q1) env q2 q4 = pure q4 := by
    unfold methodCallPos
    simp only [hl, Bool.not_true, Bool.false_or, if_true]
  rw [arm_eval_Call]
  change (do
    let ov ← attributeBase (.Call (.Name "super" q0) [] [] q1) "__init__" env (eval (.Call (.Name "super" q0) [] [] q1) env)
    standAt q2.atName
    let (f, first) ← holding [ov] (getMethod ov "__init__" (do return (← importBound (.Call (.Name "super" q0) [] [] q1) env).getD true))
    let callPos ← methodCallPos true (.Call (.Name "super" q0) [] [] q1) env q2 q4
    callWith callPos f first (backTo q4 (starEach [.Constant (.str msg) j q3] env)) []) = _
  rw [hp]
  rfl
/-- what __init__ leaves of a fresh exception at x -/
structure InitEnd (h h' : Heap) (x C dx t1 : Addr) (v : Value) : Prop where
  keep : ∀ b o, b ≠ x → h.get? b = some o → h'.get? b = some o
  obj : h'.get? x = some { cls := .ref C, dict := some dx, data := .fields #[.ref t1, .none, .none, .none, .bool false, .none] }
  dbig : h.objs.size ≤ dx
  dne : dx ≠ x
  ns : h'.Ns1 dx (fun y => if y = "at" then some v else none)
structure Made (h h' : Heap) (e C d : Addr) (v : Value) : Prop where
  keep : ∀ b o, h.get? b = some o → h'.get? b = some o
  new : h.objs.size ≤ e
  obj : ∃ oe vs, h'.get? e = some oe ∧ oe.cls = .ref C ∧ oe.dict = some d ∧ oe.data = .fields vs ∧ vs[1]? = some .none
  dbig : h.objs.size ≤ d
  dne : d ≠ e
  ns : h'.Ns1 d (fun y => if y = "at" then some v else none)
section
variable {prog : Program} {w : World} {A : Around} {E : Value → Shared → Prop} {R : Result → Shared → Prop} {s : Shared} {K : Frag} {mg mb : Str → Option Value} {nm : Str} {C fI cda cc : Addr}
theorem init (T : Txt prog K mg nm C fI cda cc) {x t0 : Addr} {v : Value} (X : K.In s.heap) (hg : s.heap.Ns mainGlobals mg) (hb : s.heap.Ns builtinsNs mb) (hmb : mb "super" = some (.type "super")) (hlim : s.heap.NoLimit) (hx : s.heap.get? x = some (HandSPX.excO C t0))
    (hnx : K.lookup x = none) (hroom : A.depth < recursionLimit)
    (hq : ∀ h' tk dx t1, InitEnd s.heap h' x C dx t1 v → R (.ok (.ret .none)) { s with heap := h', toks := tk }) :
    codeAny (model prog w) A (.call (.ref fI) ⟨[.ref x, v], []⟩) R s := by
  obtain ⟨qual, msg, oc, doc, pm, ct, od, an, osl, j, p1, p2, q0, q1, q2, q3, q4, q5, q6, q7, q8, q9, ho, hcd, hln⟩ := T.fn
  obtain ⟨ccl, cdd, vs, ccs, file, tf, hcode, hvs, hfile⟩ := T.code
  obtain ⟨cl, cld, csl, hcell⟩ := T.cell
  obtain ⟨nm', q, N, bs, bm, sn, sub, ab, col, dd, k0, k1, k2, k3, k5, hC, hbm⟩ := T.cls
  have hcl : clsIn K C = some { name := nm', bases := bs, mro := .ref C :: bm, ns := N, qualname := q, hasDict := true, slotNames := sn, subclasses := sub, abstract := ab, collection := col, hasDel := false } := by unfold clsIn; rw [hC] <;> rfl
  refine ks_codeAny_call_defAt (binds := [("self", .ref x), ("at", v)]) hroom (X _ _ ho) rfl hlim (codeRec_of X hcd) rfl (BindsTo.of_eq (by first | rfl | with_unfolding_all rfl)) (by show ∀ x ∈ iS.names, x.2 ≠ NameKind.cell; decide +kernel) (locs (by show ([(PySem.Str.ofString "self", Value.none), (PySem.Str.ofString "at", Value.none)].all fun y => decide (iS.names.lookup y.1 = some NameKind.local)) = true; decide +kernel)) (fun h₁ hns hk₁ => ?_) rfl rfl rfl
  have hX : K.In (hideAll s.heap [x]) := fun a o e => hideAll_get [x] (X a o e) (fun hm => by
    rw [List.mem_singleton.mp hm, hnx] at e
    cases e)
  have F₀ : Fr (hideAll s.heap [x]) s.heap.objs.size h₁ _ := ⟨hns, fun b o e => hk₁ b o (of_hideAll _ e), Nat.le_of_eq (hideAll_size _ _)⟩
  have hxL : x ≠ s.heap.objs.size := Nat.ne_of_lt (Heap.lt_size hx)
  have N₀ : News (hideAll s.heap [x]) s.heap.objs.size h₁ [(x, excObj C t0 none .none)] := fun p hp => by
    rw [List.mem_singleton.mp hp]
    exact ⟨hk₁ _ _ hx, hxL, hideAll_none _ (List.mem_singleton.mpr rfl)⟩
  have X₁ : K.In h₁ := X.keeps hk₁
  have I₁ : InstAt h₁ x (excObj C t0 none .none) C none := ⟨hk₁ _ _ hx, rfl, rfl, trivial⟩
  show _root_.PySem.wpAt _ (A.deeper (ksEnv qual iS s.heap.objs.size fI (.ref cda) cc)) (.func (iB msg j q0 q1 q2 q3 q4 q5 q6 q7 q8 q9) (ksEnv qual iS s.heap.objs.size fI (.ref cda) cc)) (execs (iB msg j q0 q1 q2 q3 q4 q5 q6 q7 q8 q9) (ksEnv qual iS s.heap.objs.size fI (.ref cda) cc)) _ _ _
  unfold iB
  refine ks_wpAt_execs_cons (ks_wpAt_Expr_any (ks_wpAt_MethodCall ?_ (he_of hln)))
  refine ks_wpAt_super_base (env := ksEnv qual iS s.heap.objs.size fI (.ref cda) cc) rfl rfl (by decide) rfl (X₁ _ _ ho) rfl rfl rfl (X₁ _ _ hcode) rfl hvs hfile T.top ?_
  refine ks_loadName_global rfl rfl (loadGlobal_builtin (env := ksEnv qual iS s.heap.objs.size fI (.ref cda) cc) (hg.keeps hk₁) T.nsup (hb.keeps hk₁) hmb ⟨rfl, ?_⟩)
  refine wpAny_loadName_free rfl rfl rfl ⟨_, X₁ _ _ hcell, rfl⟩ ?_
  refine wpAny_loadName_local rfl rfl F₀.ns rfl ?_
  refine ks_wpAny_isType_cls (X₁ _ _ hC) rfl ⟨rfl, ?_⟩
  refine ks_wpAny_call_super (X₁ _ _ hC) rfl I₁.at_ rfl (fun c e => by cases e) (looks_mroIn X₁ T.mro) (fun h₂ e2 k2 => ?_)
  obtain ⟨F₂, N₂, l2⟩ := ks_newsPush (s := ⟨h₁, s.gens, s.drawn, s.toks + 2, s.os⟩) F₀ N₀ rfl e2 k2
  have I₂ : InstAt h₂ x (excObj C t0 none .none) C none := ⟨k2 _ _ (hk₁ _ _ hx), rfl, rfl, trivial⟩
  refine kxs_method kxs_ValueError F₂ hX N₂ (List.mem_cons_self ..) I₂ T.any T.sup T.sbV (by decide) (fun q h₃ F₃ N₃ l3 => ?_)
  refine kxs_callWith1 N₃ (List.mem_cons_self ..) (spliced_cons (Calls.Constant_str (k := j) (pos := q3) ?_))
  refine spliced_nil ⟨kxs_at N₃ (List.mem_cons_self ..), ?_⟩
  refine kxs_call F₃ hX N₃ F.excBase_ValueError T.xi (List.mem_cons_self ..) (UpdF.tail (Nat.ne_of_gt (l3 _ (List.mem_cons_of_mem _ (List.mem_cons_self ..)))) (UpdF.tail (Nat.ne_of_gt (l2 _ (List.mem_cons_self ..))) (UpdF.head fun _ h => nomatch h))) (by show 1 ≤ sizeLine; decide) (fun t' h₄ F₄ N₄ l4 => ?_)
  have X₄ : K.In h₄ := hX.keeps F₄.keep
  have hx₄ : h₄.get? x = some (HandSPX.excO C t') := (N₄ (x, excObj C t' none .none) (by simp)).1
  refine wpAt_of_wpAny (wpAny_execs_cons (plainObj_wpAny_Assign_Attribute ?_))
  refine wpAny_Name (wpAny_loadName_local rfl rfl F₄.ns rfl (wpAny_Name (wpAny_loadName_local rfl rfl F₄.ns rfl ?_) (by decide))) (by decide)
  refine set_plain X₄ (ox := HandSPX.excO C t') (od := none) ⟨hx₄, rfl, rfl, trivial⟩ T.sa ?_
  refine exc_osa X₄ hx₄ hcl (show refsVE (.ref C :: bm) = true from hbm) rfl T.noN (fun h₅ tk₅ dx k₅ dn dne hx₅ hn₅ => ?_)
  have old : ∀ b o, b ≠ x → s.heap.get? b = some o → h₄.get? b = some o := fun b o hb e => F₄.keep b o (hideAll_get [x] e (by simpa using hb))
  have z : s.heap.objs.size ≤ h₄.objs.size := Nat.le_of_lt (F₄.ns.lt)
  exact wpAny_execs_nil (hq h₅ tk₅ dx t' ⟨fun b o hb e => k₅ b o hb (old b o hb e), hx₅, Nat.le_trans z dn, dne, hn₅⟩)
theorem made (T : Txt prog K mg nm C fI cda cc) {v : Value} (X : K.In s.heap) (hg : s.heap.Ns mainGlobals mg) (hb : s.heap.Ns builtinsNs mb) (hmb : mb "super" = some (.type "super")) (hlim : s.heap.NoLimit) (hroom : A.depth + 1 < recursionLimit)
    (hq : ∀ h' tk e d, Made s.heap h' e C d v → R (.ok (.ret (.ref e))) { s with heap := h', toks := tk }) :
    codeAny (model prog w) A (.call (.ref C) ⟨[v], []⟩) R s := by
  obtain ⟨nm', q, N, bs, bm, sn, sub, ab, col, dd, k0, k1, k2, k3, k5, hC, hbm⟩ := T.cls
  obtain ⟨hp, g, dr, tk, os⟩ := s
  have k : ∀ b o, hp.get? b = some o → ((hp.push (kdv_tup [v])).push (HandSPX.excO C hp.objs.size)).get? b = some o := fun b o e => Heap.get?_push_of_some _ (Heap.get?_push_of_some _ e)
  have hget : ((hp.push (kdv_tup [v])).push (HandSPX.excO C hp.objs.size)).get? (hp.objs.size + 1) = some (HandSPX.excO C hp.objs.size) := by heap_get
  have hnx : K.lookup (hp.objs.size + 1) = none := by
    cases e : K.lookup (hp.objs.size + 1) with
    | none => rfl
    | some o =>
      have z : hp.get? (hp.objs.size + 1) = some o := X _ _ e
      exact absurd (Nat.lt_of_succ_lt (Heap.lt_size z)) (Nat.lt_irrefl _)
  refine call_own F.excBase_ValueError (fun X => refsVE_contains X bm hbm) (X _ _ hC) (looks_findIn X T.iC) (fun self => bind_fn X self T.tC) (by show 1 ≤ sizeLine; decide) ?_
  refine init (s := ⟨(hp.push (kdv_tup [v])).push (HandSPX.excO C hp.objs.size), g, dr, tk, os⟩) T (X.keeps k) (hg.keeps k) (hb.keeps k) hmb (hlim.keeps k) hget hnx hroom fun h' tk' dx t1 I => ?_
  have sz : ((hp.push (kdv_tup [v])).push (HandSPX.excO C hp.objs.size)).objs.size = hp.objs.size + 1 + 1 := by rw [Heap.size_push, Heap.size_push]
  have z : hp.objs.size + 1 + 1 ≤ dx := by
    have q := I.dbig
    rw [sz] at q
    exact q
  exact ⟨rfl, hq h' tk' (hp.objs.size + 1) dx ⟨fun b o e => I.keep b o (Nat.ne_of_lt (Nat.lt_succ_of_lt (Heap.lt_size e))) (k b o e), Nat.le_succ _, ⟨_, _, I.obj, rfl, rfl, rfl, rfl⟩, Nat.le_trans (Nat.le_trans (Nat.le_succ _) (Nat.le_succ _)) z, I.dne, I.ns⟩⟩
end
end Bq

set_option autoImplicit false
set_option Elab.async false
set_option linter.all false
set_option maxRecDepth 100000
set_option maxHeartbeats 2000003
namespace L2
open PySem PySem.Spec PyProof.Rows
theorem relO_at {v : V} {v' : Value} (r : RelV v v') (f : Str) : RelO (List.lookup f [(("at" : Str), v)]) (if f = "at" then some v' else none) := by
  by_cases hw : f = "at"
  · subst hw
    rw [if_pos rfl, show List.lookup ("at" : Str) [(("at" : Str), v)] = some v by simp [List.lookup]]
    exact r
  · rw [if_neg hw]
    have qw : (f == ("at" : Str)) = false := by simpa using hw
    rw [show List.lookup f [(("at" : Str), v)] = none by simp [List.lookup, qw]]
    trivial
section
variable {X : Cx} {C fI cda cc : Addr} {nm : Str}
/-- E(e) -/
def tMkAt (C : Addr) (ta : TA) : St → Hp → XK → Prop := fun σ H Q => ta σ H fun vs H1 => ∃ v, vs = [v] ∧ ∀ d, H1 d = none → Q (.ref C) (some d) (upd H1 d (.xd [(("at" : Str), v)]))
theorem pmk_at {a : Expr} {ta : TA} {p pos : Pos} {k : Nat} (T : Bq.Txt X.prog X.K X.mg nm C fI cda cc) (hr : Room k X.A) (ha : PA X [a] ta) (hg : Gl X nm) (hdb : (nm == ("__debug__" : Str)) = false)
    (he : starEach (a :: []) X.env = (false, eval a X.env) :: starEach [] X.env := by rfl) (hpl : (backTo pos (starEach [] X.env)).any (·.1) = false := by rfl) :
    PMk X (.Call (.Name nm p) [a] [] pos) (tMkAt C ta) := by
  intro pins s σ H Q I h
  refine wpAny_Call_Name_kw (ld_glob I hg T.gC ?_ hdb)
  refine PySem.W.callWith_K (h₀ := X.base) I.ok.mod.kin T.kC (thn (ha.run pos pins s σ H _ I h) fun us s1 hh => ?_) he hpl
  obtain ⟨vs, H1, I1, r1, v, ev, q1⟩ := hh
  subst ev
  refine ⟨I1.kIn, ?_⟩
  cases r1 with
  | cons rv rn =>
    rename_i v' us'
    cases rn
    show wpAny _ _ (call (.ref C) [v']) _ _ _
    have hlim := I1.nolimit
    obtain ⟨mb, b1, b2⟩ := I1.mod.blt
    have hmb : mb "super" = some (.type "super") := (b2 "super" (by decide)).trans (by first | boot_by_name | rfl | kernel_rfl)
    have hgl := I1.mod.glob.keeps I1.bk
    have hbl := b1.keeps I1.bk
    obtain ⟨hp, g, dr, tk, os⟩ := s1
    refine wpAny_call (Bq.made T I1.kIn hgl hbl hmb hlim (by have := hr.dp; omega) fun h' tk' e d M => ?_)
    show MkP X pins σ Q (.ref e) ⟨h', g, dr, tk', os⟩
    obtain ⟨oe, fv, hoe, hc, hd, hdat, h1⟩ := M.obj
    have hns := M.ns
    obtain ⟨G', g1, g2⟩ := restrict h' fun b => decide (b ≠ e)
    have gk : ∀ b, b ≠ e → G'.get? b = h'.get? b := fun b hb => g1 b (decide_eq_true hb)
    have ge : G'.get? e = none := g2 e (by simp)
    have old : ∀ b o, hp.get? b = some o → G'.get? b = some o := fun b o q => (gk b (Nat.ne_of_lt (Nat.lt_of_lt_of_le (Heap.lt_size q) M.new))).trans (M.keep b o q)
    have ob : ObjOk X.prog X.w (upd H1 d (.xd [(("at" : Str), v)])) G' d (.xd [(("at" : Str), v)]) :=
      ⟨_, hns.at (fun o q => (gk d M.dne).trans q), fun f => relO_at rv f⟩
    have J : Inv X pins σ (upd H1 d (.xd [(("at" : Str), v)])) ⟨G', g, dr, tk', os⟩ := I1.laid (t' := tk') old M.dbig ob
    refine ⟨e, oe, fv, ⟨G', g, dr, tk', os⟩, _, .ref C, some d, rfl, J, fun b o q => ?_, ge, hoe, ⟨hc, hd⟩, hdat, h1, ?_, rfl, I1.bare, raises_own T.exC T.tyC, q1 d (I1.hok.fresh M.dbig)⟩
    · by_cases hb : b = e
      · have q' : G'.get? b = some o := q
        rw [hb, ge] at q'; cases q'
      · exact (gk b hb).symm.trans q
    · rw [upd_ne (Ne.symm M.dne)]
      exact I1.hok.fresh M.new
/-- e.at, e the exception that the suite holds -/
def tAt (C : Addr) (a : Addr) (cls : Value) (d : Option Addr) (te : TE) : TE := fun σ H Q => te σ H fun x H1 => x = .ref a ∧ cls = .ref C ∧ ∃ (dd : Addr) (v : V), d = some dd ∧ H1 dd = some (.xd [(("at" : Str), v)]) ∧ Q v H1
theorem pe_at {a : Addr} {oe : Obj} {cls : Value} {d : Option Addr} {pn : List (Addr × Obj)} {e : Expr} {te : TE} {pos : Pos} (T : Bq.Txt X.prog X.K X.mg nm C fI cda cc) (hz : Zc cls d oe) (hf : ∃ vs, oe.data = .fields vs) (he : PE (X.suite a ((a, oe) :: pn)) e te)
    (hb : attributeBase e "at" X.env (eval e X.env) = eval e X.env := by rfl) :
    PE (X.suite a ((a, oe) :: pn)) (.Attribute e "at" pos) (tAt C a cls d te) := by
  refine ⟨fun pins s σ H Q I h => ?_⟩
  refine attr_of hb (thn (he.run pins s σ H _ I h) fun u s1 hh => ?_)
  obtain ⟨x, H1, I1, rx, ex, ec, dd, v, ed, ea, q⟩ := hh
  subst ex
  obtain rfl : u = Value.ref a := rx
  subst ec
  subst ed
  obtain ⟨ha, _⟩ := I1.pin (a, oe) (List.mem_append_left _ List.mem_cons_self)
  obtain ⟨vs, hd⟩ := hf
  have hx : ObjOk X.prog X.w H1 s1.heap dd (.xd [(("at" : Str), v)]) := I1.hok dd _ ea
  obtain ⟨mA, hns, hr⟩ := hx
  obtain ⟨od, ho, hl⟩ := lookIn_ns hns
  have l : List.lookup ("at" : Str) [(("at" : Str), v)] = some v := by simp [List.lookup]
  obtain ⟨u, hu, ru⟩ := RelO.some_of (v := v) (o := mA "at") (by rw [← l]; exact hr "at")
  have J : PySem.W.InstAt s1.heap a oe C (some od) := ⟨ha, hz.1, by unfold PySem.W.notCls; rw [hd] <;> rfl, by rw [hz.2]; exact ho⟩
  exact HandSPX.exc_get I1.kIn J T.ga T.gg T.exC (PySem.W.findObj_own T.hdC T.noN rfl (by rw [hl, hu])) (handed_of ru) ⟨v, H1, I1.tok _, ru, q⟩
end
end L2
namespace Z
open PySem PySem.Spec L2
open Py (toD)
/-- an own error class that the world has -/
structure XOk (u : Wd) (t : String) (C : Addr) : Prop where
  cm : u.cm t = some C
  tx : ∃ fI cda cc, Bq.Txt u.prog u.K u.mg (Str.ofString t) C fI cda cc
  te : ∀ t' C', u.cm t' = some C' → PySem.W.exmOne u.K (.ref C') (.ref C) = some (t' == t)
section
variable {α β γ δ τ ρ μ : Type} [Py α] [Py β] [Py γ] [Py δ] [Py ρ]
variable {X : Cx} {P : Par} {Wx : WX} {Γ : List Sl} {N : List Str} {sc : Scope} {k : Nat} {a b c e : Expr} {pos pos2 : Pos} {es : List Expr} {st : Stmt} {sts rest : List Stmt}
def raiseW (t : String) (m : W α) : W β := m.bind fun x => W.raise t (toD x)
theorem ps_raiseAt {t : String} {C : Addr} {m : W α} {p : Pos} {j : Nat} (cc : Cok X P Wx N sc k) (o : XOk P.u t C) (ha : EX X P Wx Γ e m) (hk : k = j + 1) (hg : GlS sc (Str.ofString t)) (hdb : (Str.ofString t == ("__debug__" : Str)) = false)
    (he : starEach (e :: []) X.env = (false, eval e X.env) :: starEach [] X.env) (hpl : (backTo pos (starEach [] X.env)).any (·.1) = false) :
    PS X (.Raise (some (.Call (.Name (Str.ofString t) p) [e] [] pos)) none pos2) (fun _ σ H => ∃ (G : Hp) (E : Ex → Prop), Rel P Γ σ G H ∧ m.wp (fun x => E ⟨t, toD x⟩) E ∧ XC P Wx E) := by
  obtain ⟨fI, cda, c2, T⟩ := o.tx
  have T' : Bq.Txt X.prog X.K X.mg (Str.ofString t) C fI cda c2 := by
    rw [cc.hprog, cc.hK, cc.hmg]
    exact T
  refine PS.imp (ps_raise cc.calm cc.tk (pmk_at T' cc.room (pa_cons ha pa_nil he) (gl cc hg) hdb he hpl)) fun D σ H h => ?_
  obtain ⟨G, E, R, w, kx⟩ := h
  refine ⟨G, _, E, R, w, fun v H1 G1 x g1 d1 q1 => ?_, kx⟩
  refine ⟨v, rfl, fun d hd => ?_⟩
  have R1 := R.grow g1
  have g2 := grow_raw (o := .xd [(("at" : Str), v)]) R1.toRelB hd
  exact kx _ _ _ _ _ _ (R1.toRelB.grow g2) ⟨C, o.cm, rfl, d, v, rfl, upd_same, d1⟩ q1
theorem tb_raise {t : String} {C : Addr} {m : W α} {p : Pos} {j : Nat} (cc : Cok X P Wx N sc k) (o : XOk P.u t C) (ha : EX X P Wx Γ e m) (hk : k = j + 1 := by rfl) (hg : GlS sc (Str.ofString t) := by rfl) (hdb : (Str.ofString t == ("__debug__" : Str)) = false := by decide)
    (he : starEach (e :: []) X.env = (false, eval e X.env) :: starEach [] X.env := by rfl) (hpl : (backTo pos (starEach [] X.env)).any (·.1) = false := by rfl) :
    TB X P Wx Γ [.Raise (some (.Call (.Name (Str.ofString t) p) [e] [] pos)) none pos2] (raiseW t m : W ρ) :=
  PSs.imp (pss_one (ps_raiseAt cc o ha hk hg hdb he hpl)) fun D σ H h => by
    obtain ⟨G, Q, E, R, q, kk, kx⟩ := h
    exact ⟨G, E, R, q, kx⟩
theorem xb_raise {t : String} {C : Addr} {m : W α} {p : Pos} {j : Nat} {Lb : μ → List Sl} (cc : Cok X P Wx N sc k) (o : XOk P.u t C) (ha : EX X P Wx Γ e m) (hk : k = j + 1 := by rfl) (hg : GlS sc (Str.ofString t) := by rfl) (hdb : (Str.ofString t == ("__debug__" : Str)) = false := by decide)
    (he : starEach (e :: []) X.env = (false, eval e X.env) :: starEach [] X.env := by rfl) (hpl : (backTo pos (starEach [] X.env)).any (·.1) = false := by rfl) :
    XB X P Wx Γ [.Raise (some (.Call (.Name (Str.ofString t) p) [e] [] pos)) none pos2] (raiseW t m : W (Fl τ μ ρ)) Lb :=
  PSs.imp (pss_one (ps_raiseAt cc o ha hk hg hdb he hpl)) fun D σ H h => by
    obtain ⟨G, Q, E, R, q, kb, kr, kx⟩ := h
    exact ⟨G, E, R, q, kx⟩
/-! ### try: .. except E as x: return .. -/
def rdU (P : Par) (i : Nat) (C : Addr) (f : D → ρ) (a : Addr) (cls : Value) (d : Option Addr) : TS := fun Dn σ H => ∃ (G : Hp) (x : D) (dd : Addr) (v : V) (σ0 : L2.St), RelB P G H ∧ σ = σ0.set i (some (.ref a)) ∧ cls = .ref C ∧ d = some dd ∧ H dd = some (.xd [("at", v)]) ∧ Den G x v ∧
    ∀ w H' G', RelB P G' H' → Den G' (toD (f x)) w → Dn.rt w H'
/-- what the suite of the clause gives of what the error holds -/
def SU (X : Cx) (P : Par) (i : Nat) (C : Addr) (sts : List Stmt) (f : D → ρ) : Prop := ∀ (a : Addr) (oe : Obj) (cls : Value) (d : Option Addr) (pn : List (Addr × Obj)), Zc cls d oe → (∃ vs, oe.data = .fields vs) →
  PSs (X.suite a ((a, oe) :: pn)) sts (rdU P i C f a cls d)
def catchW (m : W α) (t : String) (f : D → W α) : W α := ⟨fun Q E => m.wp Q fun e => (e.tag = t → (f e.at_).wp Q E) ∧ (e.tag ≠ t → E e), fun h h' q => m.mono h (fun e z => ⟨fun y => (f e.at_).mono h h' (z.1 y), fun y => h' e (z.2 y)⟩) q⟩
theorem XC.imp {E E' : Ex → Prop} (h : XC P Wx E) (hi : ∀ e, E' e → E e) : XC P Wx E' := fun cls d σ H G e B x q => h cls d σ H G e B x (hi e q)
theorem Cok.tr {pn : List (Addr × Obj)} {xe : Value → Shared → Prop} {W' : WX} (c : Cok X P Wx N sc k) (tk : Takes (X.tr pn xe) W') : Cok (X.tr pn xe) P W' N sc k := ⟨c.hN, c.hsc, c.hprog, c.hw, c.hK, c.hmg, c.hbase, c.bl, c.calm, c.nd, c.room, tk⟩
theorem Dok.tr {pn : List (Addr × Obj)} {xe : Value → Shared → Prop} {W' : WX} (c : Dok X P Wx N sc k) (tk : Takes (X.tr pn xe) W') (po : PassesOwn (model X.prog X.w) X.A X.env xe) : Dok (X.tr pn xe) P W' N sc k := ⟨c.toCok.tr tk, c.fn, po, c.stk, c.frm⟩
theorem tb_try {t : String} {C : Addr} {m : W (Fl τ Unit ρ)} {mk : τ → W ρ} {Nn : τ → List Sl} {f : D → ρ} {x : Str} {b0 : Stmt} {suite : List Stmt} {np hp : Pos} (cc : Dok X P Wx N sc k) (i : Nat) (o : XOk P.u t C)
    (hb : ∀ (W' : WX) (pn : List (Addr × Obj)) (xe : Value → Shared → Prop), Dok (X.tr pn xe) P W' N sc k → FB (X.tr pn xe) P W' Γ sts m Nn (fun _ => []))
    (hs : SU X P i C (b0 :: suite) f) (hr : ∀ t, TB X P Wx (Nn t) rest (mk t)) (hi : N[i]? = some x := by rfl) (hx : sc.names.lookup x = some .local := by rfl) (hg : GlS sc (Str.ofString t) := by rfl) (hdb : (Str.ofString t == ("__debug__" : Str)) = false := by decide) :
    TB X P Wx Γ (.Try sts [.ExceptHandler (some (.Name (Str.ofString t) np)) (some x) (b0 :: suite) hp] [] [] pos :: rest)
      ((catchW m t fun d => W.pure (.rt (f d))).bind fun z => match z with | .nx t => mk t | .bk _ => W.stuck | .rt r => W.pure r) := by
  obtain ⟨fI, cda, c2, T⟩ := o.tx
  have li : i < N.length := (List.getElem?_eq_some_iff.mp hi).1
  refine ⟨fun pins s σ H D I h => ?_⟩
  obtain ⟨G, Q, E, R, q, kk, kx⟩ := h
  refine (pss_cons (u := fun D' σ1 H1 => ∃ t G1, Rel P (Nn t) σ1 G1 H1 ∧ (mk t).wp Q E ∧ (∀ r v H' G', RelB P G' H' → Den G' (toD r) v → Q r → D'.rt v H'))
    (ps_try_as (i := i) (c := .ref C) (tb := fun W' => rdF P W' Γ m Nn (fun _ => [])) (ts := rdU P i C f) (Wout := Wx) cc.stk cc.frm (by rw [cc.hN]; exact cc.nd) (by rw [cc.hN]; exact hi) (by rw [← hx, ← cc.hsc]; rfl)
      ⟨gl cc.toCok hg, hdb, .inl (by rw [cc.hmg]; exact T.gC)⟩ cc.tk (fun W' pn xe tk po => hb W' pn xe (cc.tr tk po)) hs) ?_).run pins s σ H D I ?_
  · refine ⟨fun pins s σ1 H1 D' I1 h' => ?_⟩
    obtain ⟨t, G1, R1, q1, k1⟩ := h'
    exact (hr t).run pins s σ1 H1 D' I1 ⟨G1, Q, E, R1, q1, k1, kx⟩
  · refine ⟨G, _, _, R, q, fun t σ' H' G' R' s' q' => ⟨t, G', R', q', kk⟩, fun _ _ _ _ _ _ q' => (show False from q').elim, fun r v H' G' B d q' => kk r v H' G' B d q', ?_⟩
    intro cls d σ' H' G' e B xd qe
    obtain ⟨C', hC', ecls, dd, v, ed, ea, dv⟩ := xd
    have ht := o.te e.tag C' hC'
    refine ⟨e.tag == t, by rw [cc.hK, ecls]; exact ht, fun hb' a ha => ?_, fun hb' => ?_⟩
    · have et : e.tag = t := by simpa using hb'
      have eC : C' = C := by
        rw [et, o.cm] at hC'
        exact (Option.some.inj hC').symm
      subst eC
      exact ⟨G', e.at_, dd, v, σ', B, rfl, ecls, ed, ea, dv, fun w H2 G2 B2 d2 => kk _ w H2 G2 B2 d2 (qe.1 et)⟩
    · have et : e.tag ≠ t := by simpa using hb'
      exact kx cls d σ' H' G' e B ⟨C', hC', ecls, dd, v, ed, ea, dv⟩ (qe.2 et)
theorem su_at {t : String} {C : Addr} {np pa : Pos} {x : Str} (cc : Dok X P Wx N sc k) (i : Nat) (o : XOk P.u t C) (hi : N[i]? = some x := by rfl) (hx : sc.names.lookup x = some .local := by rfl) (hd : (x == ("__debug__" : Str)) = false := by decide)
    (hcd : (x == ("__classdict__" : Str)) = false := by decide) (hb : attributeBase (.Name x np) "at" X.env (eval (.Name x np) X.env) = eval (.Name x np) X.env := by rfl) :
    SU X P i C [.Return (some (.Attribute (.Name x np) "at" pa)) pos] (fun d : D => d) := by
  intro a oe cls d pn hz hf
  obtain ⟨fI, cda, c2, T⟩ := o.tx
  have T' : Bq.Txt X.prog X.K X.mg (Str.ofString t) C fI cda c2 := by
    rw [cc.hprog, cc.hK, cc.hmg]
    exact T
  have key : PSs (X.suite a ((a, oe) :: pn)) [.Return (some (.Attribute (.Name x np) "at" pa)) pos] (tRet (tAt C a cls d (tVar i))) := pss_one (ps_ret (pos := pos) (pe_at (pos := pa) T' hz hf (pe_var (pos := np) (i := i) (by show X.N[i]? = _; rw [cc.hN]; exact hi) (by show Vis X.env.scope x; rw [cc.hsc]; exact Or.inl hx) hd hcd) hb))
  refine ⟨fun pins s σ H Dn I h => key.run pins s σ H Dn I ?_⟩
  obtain ⟨G, x, dd, v, σ0, B, rfl, e2, e3, e4, dv, kk⟩ := h
  have hl : σ0.length = N.length := by
    have z := I.len
    rw [List.length_set] at z
    rw [z]
    exact congrArg List.length cc.hN
  exact ⟨_, List.getElem?_set_self (by rw [hl]; exact (List.getElem?_eq_some_iff.mp hi).1), rfl, e2, dd, v, e3, e4, kk v H G B dv⟩
end
end Z

set_option autoImplicit false
set_option Elab.async false
set_option linter.all false
set_option maxRecDepth 100000
set_option maxHeartbeats 2000003
namespace Z
open PySem PySem.Spec L2
open Py (toD)
section
variable {α β γ δ τ ρ μ : Type} [Py α] [Py β] [Py γ] [Py δ] [Py ρ]
variable {X : Cx} {P : Par} {Wx : WX} {Γ : List Sl} {N : List Str} {sc : Scope} {k : Nat} {a b c e tg iter elt : Expr} {pos p : Pos} {es : List Expr} {st : Stmt} {sts rest : List Stmt}
/-- a thing of any kind, taken for what it must be -/
def castW (d : D) : W α := ⟨fun Q _ => ∃ y : α, toD y = d ∧ Q y, fun h _ ⟨y, e, q⟩ => ⟨y, e, h y q⟩⟩
theorem ex_cast {m : W D} (h : EX X P Wx Γ e m) : EX X P Wx Γ e (W.b1 m (castW (α := α))) := ex_is h fun x Q E w => w
theorem gbn {vs : List Nat} {x : Str} (cc : Cok X P Wx N sc k) (i : Nat) (hi : N[i]? = some x := by rfl) (hx : Loc sc x := by first | exact Or.inl rfl | exact Or.inr rfl)
    (hf : sc.names.lookup x = some .local := by rfl) (hm : i ∈ vs := by decide) : GB X P Γ vs (.Name x pos) (fun a : α => Γ.set i (.dat (toD a))) :=
  gb_name cc.hN cc.nd i hi (by rw [cc.hsc]; exact hx) (.inr (by rw [cc.hsc]; exact hf)) hm
end
end Z

set_option autoImplicit false
set_option Elab.async false
set_option linter.all false
set_option maxRecDepth 100000
set_option maxHeartbeats 3000001
/-! sorted(set(list of ints)) -/
namespace L2
open PySem PySem.Spec PyProof.Rows
abbrev sNew (w : World) : Obj := { cls := .type "set", dict := none, data := .set #[] 0 (.fresh 0 0 (!w.params.followText "set-order")) }
section
variable {P : Program} {w : World} {A : Around} {E : Value → Shared → Prop} {s : Shared}
theorem set_listI {l : Addr} {its : Array Value} (ns : List Int) {Q : Value → Shared → Prop} (hh : A.handled = none) (hl : s.heap.IsList l its) (hit : IntsAre its.toList ns) (hb : ns.length + 1 < scanBound)
    (h : ∀ (h' : Heap) (tk c : Nat), SetR w h' s.heap.objs.size (fun j => decide (j ∈ ns)) c → c ≤ ns.length → (∀ b o, s.heap.get? b = some o → h'.get? b = some o) → Q (.ref s.heap.objs.size) { s with heap := h', toks := tk }) :
    wpAny (model P w) A (call (.type "set") [.ref l]) Q E s := by
  obtain ⟨z, hz⟩ : ∃ z, z = s.heap.objs.size := ⟨_, rfl⟩
  have sz : its.size = ns.length := (Array.length_toList (xs := its)).symm.trans (IntsAre.length hit)
  have ⟨c, tl, hmro⟩ := F.called_set.mro
  have q1 := F.called_set.made
  have q2 := F.called_set.sub
  refine wpAny_call (codeAny_of_tree (show wpAny _ _ (callAny (.type "set") _) _ _ _ from wpAny_pure ⟨Code.quiet_builtin _ (by decide +kernel), codeAny_builtin F.entry_type_call ?_⟩))
  rw [Around.under_plain (weight_type_call_type "set" [.ref l] []) rfl]
  have q3 := F.called_set.notType
  have q4 := F.called_set.canCreate
  have q5 := F.typeCall_set_1 (.ref l)
  repeat any_goals first | assumption | wp_step
  refine codeAny_mono (code_set_led1 (.ref l) (E := E) (Q₁ := fun v s1 => v = .ref s.heap.objs.size ∧ s1 = { s with heap := s.heap.push (sNew w) }) ⟨rfl, rfl⟩) fun r s1 hr => ?_
  rcases r with e | (v | _ | _ | _) <;> first | exact hr | exact hr.elim | skip
  obtain ⟨rfl, rfl⟩ := hr
  have gS : (s.heap.push (sNew w)).get? s.heap.objs.size = some (sNew w) := Heap.get?_push_size _ rfl
  have tS : Shared.TypeIs { s with heap := s.heap.push (sNew w) } (.ref s.heap.objs.size) "set" := ⟨_, gS, rfl⟩
  have q6 := F.called_set.init.lookup
  have q7 := F.called_set.init.bind (.ref s.heap.objs.size)
  repeat any_goals first | assumption | wp_step
  refine codeAny_mono (codeAny_call_builtin (R := wants (fun r s2 => r = .none ∧ ∃ h' tk c, s2 = { s with heap := h', toks := tk } ∧ SetR w h' s.heap.objs.size (fun j => decide (j ∈ ns)) c ∧ c ≤ ns.length ∧
      (∀ b o, s.heap.get? b = some o → h'.get? b = some o)) E) F.called_set.init.plain F.entry_set_init (check_set_init_1 tS ?_)) fun r2 s2 hr2 => ?_
  · obtain ⟨⟨_, od, _, osl⟩, hol, hc, nl, hd⟩ := hl
    simp only at hc hd
    subst hc; subst hd
    have l1 : (s.heap.push (sNew w)).IsList l its := ⟨_, Heap.get?_push_of_some _ hol, rfl, nl, rfl⟩
    have hol' : (s.heap.push (sNew w)).get? l = some { cls := .type "list", dict := od, data := .seq its nl, slots := osl } := Heap.get?_push_of_some _ hol
    have q8 := F.sub_list_set
    have q9 := F.sub_list_frozenset
    have qn : (Value.type "list" == Value.type "dict") = false := by decide
    unfold Builtin.«set.__init__» noKeywords Builtin.Frozenset.updateFrom
    generalize hPI : pyIter = PI
    wp_walk
    subst hPI
    refine wpAny_pyIter_list l1 (wpAny_bind (wpAny_runValue ?_))
    have lt := Heap.lt_size hol
    have zz : (s.heap.push (sNew w)).objs.size = s.heap.objs.size + 1 := Heap.size_push ..
    have ne : l ≠ (s.heap.push (sNew w)).objs.size := by rw [zz]; exact Nat.ne_of_lt (Nat.lt_succ_of_lt lt)
    have hv : ∀ (i : Nat) (v : Value), its[i]? = some v → ∃ k t, ns[i]? = some k ∧ v = .int k t := fun i v hv => by
      have hi : i < ns.length := by rw [← sz]; exact (Array.getElem?_eq_some_iff.mp hv).1
      obtain ⟨t, e⟩ := IntsAre.int_at hit i v (by rw [Array.getElem?_toList]; exact hv)
      exact ⟨ns[i], t, List.getElem?_eq_getElem hi, by rw [e, List.getD_eq_getElem?_getD, List.getElem?_eq_getElem hi]; rfl⟩
    refine set_update_ints ((Walks.list (by simp [hh]) _ l ne its).toS) s.heap.objs.size (by rw [zz]; exact fun m => (List.mem_cons.mp m).elim (Nat.ne_of_lt (Nat.lt_succ_self _)) fun m => Nat.ne_of_gt lt (List.mem_singleton.mp m)) ns sz hb hv (its.size - 0) 0 _ (by omega) (Nat.zero_le _)
      ⟨⟨_, Heap.get?_push_size _ rfl, rfl, rfl⟩, l1.push _⟩ ⟨0, Nat.le_refl 0, setR_new_at (Heap.get?_push_of_some _ gS)⟩ fun s' c' hm hc' hS' => ?_
    obtain ⟨h', g2, d2, tk', o2⟩ := s'
    have eg : g2 = s.gens := hm.gens
    have ed : d2 = s.drawn := hm.drawn
    have eo : o2 = s.os := hm.os
    subst eg; subst ed; subst eo
    show wpAny _ _ _ _ _ _
    refine wpAny_pure ?_
    show wpAny _ _ (ret Value.none) _ _ _
    rw [sz] at hc'
    refine wpAny_pure ⟨rfl, h', tk', c', rfl, hS', hc', fun b o e => hm.heap b o ?_ (Heap.get?_push_of_some _ (Heap.get?_push_of_some _ e))⟩
    have lb := Heap.lt_size e
    rw [zz]
    exact fun m => (List.mem_cons.mp m).elim (Nat.ne_of_lt lb) fun m => Nat.ne_of_lt (Nat.lt_succ_of_lt lb) (List.mem_singleton.mp m)
  · rcases r2 with e | (v | _ | _ | _) <;> first | exact hr2 | exact hr2.elim | skip
    obtain ⟨rfl, h', tk, c', rfl, hS', hc', hk⟩ := hr2
    repeat any_goals first | assumption | wp_step
    exact h _ _ _ hS' hc' hk
end
end L2

set_option autoImplicit false
set_option Elab.async false
set_option linter.all false
set_option maxRecDepth 100000
set_option maxHeartbeats 3000001
namespace L2
open PySem PySem.Spec PyProof.Rows
section
variable {P : Program} {w : World} {A : Around} {E : Value → Shared → Prop} {s : Shared} {a : Addr}
/-- sorted(a set of inI), any number of them -/
theorem sorted_setL {M : Int → Bool} {c0 : Nat} {Q : Value → Shared → Prop} (R : SetR w s.heap a M c0) (nh : A.handled = none)
    (kk : ∀ s' p (out : Array Value) (c : Nat) (is : List Int), (∀ b o, s.heap.get? b = some o → s'.heap.get? b = some o) → s'.gens = s.gens → s'.os = s.os → s.heap.objs.size ≤ p →
      s'.heap.get? p = some (seqObj "list" out c) → IntsAre out.toList is → is.Pairwise (· < ·) → (∀ j, j ∈ is ↔ M j = true) → is.length = c0 → Q (.ref p) s') :
    wpAny (model P w) A (call (.builtin "sorted") [.ref a]) Q E s := by
  obtain ⟨ob, el, pl, tb, at0, ex, dt, gd, nodup, mem, lim, fit, cnt, ris, led⟩ := R
  refine (Calls.call_function_entry kind_sorted plain_sorted entry_sorted (args_sorted1 _) ?_)
  unfold Builtin.«sorted»
  refine (wpAny_bind (m := checkCount "sorted" 1 1 _) (wpAny_pure ?_))
  refine wpAny_bind (collect_set (A := A.in1) nh ⟨ob, at0, ex.1, dt⟩ fit lim ris led fun s1 us old _ gens os perm => ?_)
  have few : us.length = c0 := by rw [perm.length_eq, List.length_map]; exact cnt
  have inI : IntsAre us (us.map Builtin.Re.reRawOf) := ints_of us fun u hu => by
    obtain ⟨x, hx, e⟩ := List.mem_map.mp (perm.mem_iff.mp hu)
    obtain ⟨j, tk, h, _⟩ := gd x hx
    exact ⟨j, tk, by rw [← e]; exact h⟩
  have pk : (us.map Builtin.Re.reRawOf).Perm (el.toList.map keyOf) := by
    have q := perm.map Builtin.Re.reRawOf
    rw [List.map_map] at q
    exact q
  have room : us.length ≤ sizeLine := by
    have : el.size < 4096 := lim
    rw [few, ← cnt, sizeLine_eq]
    omega
  refine wpAny_bind (wpAny_newList ?_ room)
  have new : (s1.heap.push (seqObj "list" us.toArray 0)).get? s1.heap.objs.size = some (seqObj "list" us.toArray 0) := Heap.get?_push_size _ rfl
  refine wpAny_bind (wpAny_holding (wpAny_call_entry slot_list_sort ⟨_, new, rfl⟩ entry_list_sort
    (SrtO.list_sort_ord SrtO.swo_int new room (fun h2 => SrtO.ints_sortable inI h2) fun out h1 h2 => ⟨_, rfl, ?_⟩) (args_list_sort _)))
  obtain ⟨k1, k2, k3⟩ := SrtO.ints_out inI h1 h2
  obtain ⟨c, hc⟩ := sortedHeap_at (vs := us) (out := out.toArray) new
  have pn : (out.map SrtO.iv).Perm (el.toList.map keyOf) := k2.trans pk
  refine wpAny_pure ⟨_, rfl, kk _ s1.heap.objs.size out.toArray c (out.map SrtO.iv) (fun b u e => ?_) gens os ‹_› hc k1 (lt_of_le_nodup _ k3 (pn.nodup_iff.mpr nodup)) (fun j => by rw [pn.mem_iff, ← mem j]) ?_⟩
  · have q := old b u e
    have lt := Heap.lt_size q
    show (sortedHeap (s1.heap.push (seqObj "list" us.toArray 0)) s1.heap.objs.size us out.toArray).get? b = some u
    rw [sortedHeap_old (Nat.ne_of_lt lt) (by rw [size_push']; exact Nat.lt_succ_of_lt lt)]
    exact Heap.get?_push_of_some _ q
  · rw [pn.length_eq, List.length_map]
    exact cnt
end
def tSortSet (K : PySem.W.Frag) (ta : TE) : TE := fun σ H Q => ta σ H fun x H1 => ∃ (l : Addr) (ns : List Int), x = .ref l ∧ SqL K H1 l (ns.map V.int) ∧ ns.length < 4000 ∧
  ∀ (out : List Int) (p : Addr), out.Pairwise (· < ·) → (∀ k : Int, k ∈ out ↔ k ∈ ns) → H1 p = none → Q (.ref p) (upd H1 p (.lst (out.map V.int)))
theorem pe_sortSet {X : Cx} {a : Expr} {ta : TE} {p p2 q pos : Pos} (hc : X.calm = true) (hg : Gl X "sorted") (hm : X.mg "sorted" = none) (hg2 : Gl X "set") (hm2 : X.mg "set" = none) (ha : PE X a ta)
    (na : starEach [a] X.env = (false, eval a X.env) :: starEach [] X.env) : PE X (.Call (.Name "sorted" p) [.Call (.Name "set" p2) [a] [] q] [] pos) (tSortSet X.K ta) := by
  refine ⟨fun pins s σ H Q I h => ?_⟩
  refine Call_ (ld_blt I hg hm (show bootBuiltins "sorted" = some (.builtin "sorted") by decide +kernel) ?_)
  refine PyProof.Rows.callWith_builtin1 (PyProof.Rows.args_cons ?_ rfl) rfl rfl
  refine Call_ (ld_blt I hg2 hm2 PyProof.Rows.boot_set ?_)
  refine PyProof.Rows.callWith_type1 (PyProof.Rows.args_cons (thn (ha.run pins s σ H _ I h) fun v s1 ⟨x, H1, I1, r1, q1⟩ => PyProof.Rows.args_nil ?_) na) na rfl
  obtain ⟨l, ns, rfl, hq, h6, q1⟩ := q1
  cases r1
  obtain ⟨its, r, pl, hz⟩ := I1.list hq
  refine set_listI ns (I1.ok.hd hc) (show s1.heap.IsList l its.toArray from pl.isList) (ints_of_vals r) (by unfold scanBound; omega) fun h' tk c R hcn k => PyProof.Rows.args_nil ?_
  have I2 : Inv X pins σ H1 { s1 with heap := h', toks := tk } := I1.kept k
  refine sorted_setL (s := { s1 with heap := h', toks := tk }) R (I1.ok.hd hc) fun s' p out c2 out2 k2 g o hp hgp hi hs hme hl => ?_
  have hn : H1 p = none := I2.hok.fresh hp
  have J : Inv X pins σ (upd H1 p (.lst (out2.map V.int))) { { s1 with heap := h', toks := tk } with heap := s'.heap, gens := s'.gens, drawn := s'.drawn, toks := s'.toks } :=
    I2.call (ch := []) (Un.laid k2 hp hn) (I2.hok.laid k2 hp ⟨by rw [List.length_map, hl, sizeLine_eq]; omega, out.toList, c2, vals_of_ints hi, hgp⟩) (by rw [g]; exact I2.bare) (fun _ z => nomatch z)
  have e : s' = { { s1 with heap := h', toks := tk } with heap := s'.heap, gens := s'.gens, drawn := s'.drawn, toks := s'.toks } := by
    cases s'
    cases o
    rfl
  rw [e]
  exact ⟨.ref p, _, J, rfl, q1 out2 p hs (fun k => by rw [hme k, decide_eq_true_eq]) hn⟩
end L2
namespace Z
open PySem PySem.Spec L2
open Py (toD)
section
variable {α β γ δ τ ρ μ : Type} [Py α] [Py β] [Py γ] [Py δ] [Py ρ]
variable {X : Cx} {P : Par} {Wx : WX} {Γ : List Sl} {N : List Str} {sc : Scope} {k : Nat} {a b c e tg iter elt : Expr} {pos : Pos} {es : List Expr} {st : Stmt} {sts rest : List Stmt}
def dedup : List Int → List Int
  | [] => []
  | x :: l => if x ∈ l then dedup l else x :: dedup l
theorem mem_dedup {x : Int} : ∀ {l : List Int}, x ∈ dedup l ↔ x ∈ l
  | [] => Iff.rfl
  | y :: l => by
    unfold dedup
    split
    · rename_i h
      rw [mem_dedup (l := l), List.mem_cons]
      exact ⟨.inr, fun z => z.elim (fun e => e ▸ h) id⟩
    · rw [List.mem_cons, List.mem_cons, mem_dedup (l := l)]
theorem nodup_dedup : ∀ (l : List Int), (dedup l).Nodup
  | [] => List.nodup_nil
  | y :: l => by
    unfold dedup
    split
    · exact nodup_dedup l
    · rename_i h
      exact List.nodup_cons.mpr ⟨fun z => h (mem_dedup.mp z), nodup_dedup l⟩
theorem dedup_le : ∀ (l : List Int), (dedup l).length ≤ l.length
  | [] => Nat.le_refl _
  | y :: l => by
    unfold dedup
    split
    · exact Nat.le_succ_of_le (dedup_le l)
    · exact Nat.succ_le_succ (dedup_le l)
def sortSetW (l : List Int) : W (List Int) := W.need (l.length < 4000) (sortI (dedup l))
theorem en_sortedSet {m : W (List Int)} {p p2 q : Pos} (cc : Cok X P Wx N sc k) (ha : EX X P Wx Γ e m) (hg : GlS sc "sorted" := by rfl) (hg2 : GlS sc "set" := by rfl) (hs : starEach [e] X.env = (false, eval e X.env) :: starEach [] X.env := by rfl) :
    EN X P Wx Γ (.Call (.Name "sorted" p) [.Call (.Name "set" p2) [e] [] q] [] pos) (W.b1 m sortSetW) :=
  PE.imp (pe_sortSet cc.calm (gl cc hg) (blt cc) (gl cc hg2) (blt cc) ha hs) fun σ H Q' h => by
    obtain ⟨G, Q, E, R, w, kk, kx⟩ := h
    refine ⟨G, _, E, R, w, fun v H1 G1 x g1 d1 w1 => ?_, kx⟩
    obtain ⟨l, vs, rfl, gl, dl, zl⟩ := den_list.mp d1
    rw [DenL.ints] at dl
    subst dl
    have R1 := R.grow g1
    refine ⟨l, x, rfl, .inl (.inl (R1.sub _ _ gl)), w1.1, fun out r hsd hme hr => ?_⟩
    have nd : out.Nodup := hsd.imp fun {a b} h => Int.ne_of_lt h
    have e : out = sortI (dedup x) := sorted_unique (((List.perm_ext_iff_of_nodup nd (nodup_dedup x)).mpr fun z => by rw [hme, mem_dedup]).trans (sortI_perm _).symm) (hsd.imp fun {a b} h => Int.le_of_lt h) (sortI_sorted _)
    subst e
    have g4 := grow_raw (o := .lst ((sortI (dedup x)).map V.int)) R1.toRelB hr
    exact kk r _ _ _ _ (g1.trans g4 (DealAt.there R1.dk)) (H_none R.toRelB g1 hr) (R1.toRelB.free hr).2.2 upd_same (DenL.ints.mpr rfl) (by rw [(sortI_perm _).length_eq]; exact Nat.le_trans (dedup_le x) zl) w1.2
end
end Z

set_option autoImplicit false
set_option Elab.async false
set_option linter.all false
set_option maxRecDepth 100000
set_option maxHeartbeats 3000001
namespace L2
open PySem PySem.Spec PyProof.Rows
/-! enumerate(tuple) -/
theorem new_enumT {it : Addr} {items : Array Value} :
    Meets (Builtin.«enumerate.__new__» ⟨[.type "enumerate", .ref it], []⟩) (fun _ R s => s.heap.IsTuple it items ∧
      R (.ok (.ret (.ref (s.heap.push { cls := .type "tuple_iterator", data := .fields #[.ref it, .int 0 0] }).objs.size)))
        { s with heap := (s.heap.push { cls := .type "tuple_iterator", data := .fields #[.ref it, .int 0 0] }).push { cls := .type "enumerate", data := .fields #[.none, .bool false, .ref s.heap.objs.size, rawInt 0, .none, .none] } }) :=
  .of_wp fun prog w A R s h => by
    obtain ⟨hp, gs, dr, tk, os⟩ := s
    obtain ⟨hT, h⟩ := h
    have sub := sub_enumerate
    wp_walk using wpAny_pyIter_tuple hT
    refine wpAny_stack_any fun st => wpAny_pure ?_
    split
    · rename_i c _ _ _ _ _
      cases (c == Value.type "enumerate") <;> (wp_walk using wpAny_pyIter_tuple hT; exact ⟨_, rfl, h⟩)
    · wp_walk using wpAny_pyIter_tuple hT
      exact ⟨_, rfl, h⟩
theorem call_enumT {prog : Program} {w : World} {A : Around} {E : Value → Shared → Prop} {s : Shared} {t : Addr} {items : Array Value} {Q : Value → Shared → Prop} (hT : s.heap.IsTuple t items)
    (h : ∀ h', IsEnum h' (s.heap.objs.size + 1) s.heap.objs.size 0 .none → h'.IsTupleIter s.heap.objs.size t 0 → (∀ b o, s.heap.get? b = some o → h'.get? b = some o) → Q (.ref (s.heap.objs.size + 1)) { s with heap := h' }) :
    wpAny (model prog w) A (call (.type "enumerate") [.ref t]) Q E s := by
  refine callType_new F.called_enumerate (by decide) (F.typeCall_enumerate_1 _) (F.newCall_enumerate_1 _) (fun obj => F.args_object_init_2 obj _) F.entry_enumerate_new new_enumT ⟨hT, ?_⟩
  have z : (s.heap.push { cls := .type "tuple_iterator", data := .fields #[.ref t, .int 0 0] }).objs.size = s.heap.objs.size + 1 := Heap.size_push ..
  show _ ∧ _
  rw [z]
  have he : IsEnum ((s.heap.push { cls := .type "tuple_iterator", data := .fields #[.ref t, .int 0 0] }).push { cls := .type "enumerate", data := .fields #[.none, .bool false, .ref s.heap.objs.size, rawInt 0, .none, .none] }) (s.heap.objs.size + 1) s.heap.objs.size 0 .none := by
    have q := Heap.get?_push_size (s.heap.push { cls := .type "tuple_iterator", data := .fields #[.ref t, .int 0 0] }) (o := { cls := .type "enumerate", data := .fields #[.none, .bool false, .ref s.heap.objs.size, rawInt 0, .none, .none] }) rfl
    rw [z] at q
    exact q
  exact ⟨⟨_, he, rfl⟩, h _ he ⟨_, Heap.get?_push_of_some _ (Heap.get?_push_size _ rfl), rfl, rfl⟩ fun b o x => Heap.get?_push_of_some _ (Heap.get?_push_of_some _ x)⟩
/-- the tuple at a, each item in a new pair -/
def IteT (K : PySem.W.Frag) (a : Addr) : It :=
  ⟨fun i H => ∃ (xs : List V) (x : V), SqT K H a xs ∧ xs[i]? = some x, fun i H v H' => ∃ T x, v = .ref T ∧ H T = none ∧ H' = upd H T (.tup [.int (i : Nat), x]) ∧ ∀ xs, SqT K H a xs → xs[i]? = some x, fun i H => ∃ xs : List V, SqT K H a xs ∧ xs.length = i⟩
theorem turn_enumT {P : Program} {w : World} {K : PySem.W.Frag} {elts : List Expr} {kk : Nat} {tpos : Pos} (a e it : Addr) (hai : a ≠ it) :
    Turn P w K (.Tuple elts kk tpos) (IteT K a) [e, it] e (fun i h => (∃ old, IsEnum h e it ((i : Nat) : Int) old) ∧ h.IsTupleIter it a i ∧ e ≠ it ∧ e ≠ a) where
  mem := by simp
  obj := fun i h st b hb => by
    obtain ⟨⟨old, he⟩, ⟨o, ho, hc, hd⟩, _⟩ := st
    rcases (show b = e ∨ b = it by simpa using hb) with z | z
    · rw [z]
      exact ⟨_, he, fun v q => nomatch q⟩
    · rw [z]
      exact ⟨o, ho, fun v q => by rw [hd] at q; cases q⟩
  keep := fun i h h' st k => let ⟨⟨old, he⟩, hi, hne⟩ := st; ⟨⟨old, k e (by simp) _ he⟩, hi.at fun o q => k it (by simp) o q, hne⟩
  item := by
    intro X hP hw hK hc i pins s σ H E I hf st hg
    subst hP hw hK
    obtain ⟨⟨old, he⟩, hit, hne, hea⟩ := st
    obtain ⟨xs, x, hq, hx⟩ := hg
    obtain ⟨its, rv, p, hz⟩ := I.tuple hq
    obtain ⟨u, hu, ru⟩ := rv.get hx
    have hel := Heap.lt_size he
    have hil : it < s.heap.objs.size := by
      obtain ⟨_, q, _⟩ := hit
      exact Heap.lt_size q
    have hd : X.A.in1.handled = none := by simp [I.ok.hd hc]
    refine wpAny_pyNext_enum_itemD (Draws.tuple hd it a hai its.toArray) he ⟨hit, p⟩ (i := i) (by simpa using (List.getElem?_eq_some_iff.mp hu).1) hne (by simp [hne, hea]) fun y h' tk hy ho hs' hT hsz hk => ?_
    have ey : y = u := by
      have q : its[i]? = some y := by simpa using hy
      rw [hu] at q
      exact (Option.some.inj q).symm
    subst ey
    refine ⟨_, rfl, wpAny_letOwnedTupleGo_enum (s := { s with heap := h', toks := tk + 1 }) ho fun h'' he' sb => ?_⟩
    have new : ObjOk X.prog X.w (upd H s.heap.objs.size (.tup [.int (i : Nat), x])) h'' s.heap.objs.size (.tup [.int (i : Nat), x]) :=
      ⟨by show 2 ≤ sizeLine; decide, [.int i tk, y], .cons ⟨_, rfl⟩ (.cons ru .nil), ⟨_, (sb.2 _ (Nat.ne_of_gt hel)).trans hT, rfl, _, rfl⟩⟩
    have I1 : Inv X pins σ (upd H s.heap.objs.size (.tup [.int (i : Nat), x])) { s with heap := h'', toks := tk + 1 } :=
      I.turnedNew (ch := [e, it]) (fun b ob hb q => (sb.2 b (fun z => hb (by simp [z]))).trans (hk b ob (fun z => hb (by simp [z])) (fun z => hb (by simp [z])) q)) hf (Nat.le_refl _) new
    refine ⟨.ref s.heap.objs.size, _, I1, rfl, ⟨_, x, rfl, I.hok.fresh (Nat.le_refl _), rfl, fun ys hy2 => ?_⟩, ⟨⟨y, ?_⟩, hs'.1.at fun o q => (sb.2 it (Ne.symm hne)).trans q, hne, hea⟩, fun b hb => ?_⟩
    · rw [I.tuple_inj hy2 hq]
      exact hx
    · rw [show ((i + 1 : Nat) : Int) = (i : Int) + 1 by omega]
      exact he'
    · rw [upd_ne]
      · exact (hf b hb).1
      · rcases (show b = e ∨ b = it by simpa using hb) with z | z
        · rw [z]
          exact Nat.ne_of_lt hel
        · rw [z]
          exact Nat.ne_of_lt hil
  done := by
    intro X hP hw hK hc i pins s σ H E I hf st hg
    subst hP hw hK
    obtain ⟨⟨old, he⟩, hit, hne, hea⟩ := st
    obtain ⟨xs, hq, hx⟩ := hg
    obtain ⟨its, rv, p, hz⟩ := I.tuple hq
    obtain ⟨f0, f1, f2, f3, f4, f5⟩ := hf it (by simp)
    have hl := rv.length
    have hd : X.A.in1.handled = none := by simp [I.ok.hd hc]
    have hi : i = its.toArray.size := by rw [List.size_toArray, ← hl, hx]
    refine wpAny_pyNext_enum_endD (Draws.tuple hd it a hai its.toArray) he ⟨hi ▸ hit, p⟩ fun h' eb => ⟨rfl, I.turned (t' := s.toks) (fun b o hb q => eb b o (fun z => hb (by simp [z])) q) f0 f1 f3 f4 f5⟩
  self := fun A i s Q E st h => let ⟨⟨_, he⟩, _⟩ := st; wpAny_pyIter_enum he h
def iEnumT (K : PySem.W.Frag) (ta : TA) : TI := fun σ H R => ta σ H fun vs H1 => ∃ a xs, vs = [.ref a] ∧ SqT K H1 a xs ∧ R (IteT K a) H1
theorem pi_enumT {X : Cx} {e : Expr} {ta : TA} {p pos tpos : Pos} {elts : List Expr} {kk : Nat} (hg : Gl X "enumerate") (hm : X.mg "enumerate" = none) (ha : PA X [e] ta) (hs : starEach [e] X.env = [(false, eval e X.env)]) :
    PI X (.Tuple elts kk tpos) (.Call (.Name "enumerate" p) [e] [] pos) (iEnumT X.K ta) := by
  refine ⟨fun pins s σ H R I h => ?_⟩
  refine Call_ (ld_blt I hg hm boot_enumerate (PyProof.Rows.callWith_type1 (thn (ha.run pos pins s σ H _ I h) fun us s1 ⟨vs, H1, I1, r1, q1⟩ => ?_) hs rfl))
  obtain ⟨a, xs, ex, hq, q⟩ := q1
  subst ex
  cases r1 with
  | cons r rr =>
    cases rr
    cases r
    obtain ⟨its, rv, p', hz⟩ := I1.tuple hq
    have lt : a < s1.heap.objs.size := by
      obtain ⟨_, y, _⟩ := p'
      exact Heap.lt_size y
    refine call_enumT p' fun h' he hit hk => wpAny_pyIter_enum he ?_
    refine ⟨s1.heap.objs.size + 1, [s1.heap.objs.size + 1, s1.heap.objs.size], _, _, H1, rfl, I1.kept (t' := s1.toks) hk, turn_enumT a (s1.heap.objs.size + 1) s1.heap.objs.size (Nat.ne_of_lt lt), ⟨⟨.none, he⟩, hit, Nat.succ_ne_self _, Nat.ne_of_gt (Nat.lt_succ_of_lt lt)⟩, fun b hb => ?_, q⟩
    have hle : s1.heap.objs.size ≤ b := by
      rcases (show b = s1.heap.objs.size + 1 ∨ b = s1.heap.objs.size by simpa using hb) with z | z
      · rw [z]
        exact Nat.le_add_right _ _
      · rw [z]
        exact Nat.le_refl _
    exact I1.fpOk hle (I1.hok.fresh hle)
end L2
namespace Z
open PySem PySem.Spec L2
open Py (toD)
section
variable {α β γ δ τ ρ μ : Type} [Py α] [Py β] [Py γ] [Py δ] [Py ρ]
variable {X : Cx} {P : Par} {Wx : WX} {Γ : List Sl} {N : List Str} {sc : Scope} {k : Nat} {a b c e tg iter elt : Expr} {pos : Pos} {es : List Expr} {st : Stmt} {sts rest : List Stmt}
/-! x.insert(j, e) -/
def insW (l : List τ) (j : Int) (x : τ) : W (List τ) := W.need (0 ≤ j ∧ j < 2 ^ 63 ∧ l.length < 16777216) (l.take j.toNat ++ [x] ++ l.drop j.toNat)
theorem s_insert {l : List α} {n : W Int} {m : W α} {x : Str} {p1 p2 p3 : Pos} (cc : Cok X P Wx N sc k) (i : Nat) (hb : EX X P Wx Γ b n) (he : EX X P Wx Γ e m) (hi : Γ[i]? = some (.own (l.map toD)) := by rfl) (hN : N[i]? = some x := by rfl)
    (hv : Vis sc x := by first | exact Or.inl rfl | exact Or.inr (Or.inl rfl) | exact Or.inr (Or.inr rfl)) (hd : (x == ("__debug__" : Str)) = false := by decide)
    (hcd : (x == ("__classdict__" : Str)) = false := by decide) (hline : (p2.endLine == p3.line) = true := by rfl) (hs : starEach [b, e] X.env = (false, eval b X.env) :: starEach [e] X.env := by rfl) (hs2 : starEach [e] X.env = (false, eval e X.env) :: starEach [] X.env := by rfl) :
    S1 X P Wx Γ (.Expr (.Call (.Attribute (.Name x p1) "insert" p2) [b, e] [] p3) pos) (W.b2 n m fun j a => insW l j a) (fun l' => Γ.set i (.own (l'.map toD))) :=
  PS.imp (ps_expr (pe_bm PySem.F.plainAttrs_list PySem.F.slot_list_insert PySem.F.type_list_insert mt_insert (pe_var (i := i) (by rw [cc.hN]; exact hN) (by rw [cc.hsc]; exact hv) hd hcd) (pa_cons hb (pa_cons he pa_nil hs2) hs) rfl (by rw [hs, hs2]; rfl) hline hs (by rw [hs2]; rfl))) fun D σ H h => by
    obtain ⟨G, Q, E, R, w, kk, kx⟩ := h
    obtain ⟨p, vs, ep, h1, _⟩ := R.ownAt hi
    refine ⟨.ref p, ep, .inl ⟨rfl, vs, .inl (.inl h1)⟩, G, _, E, R, w, fun u H1 G1 j g1 d1 w1 => ?_, kx⟩
    have R1 := R.grow g1
    refine ⟨G1, _, E, R1, w1, fun v H2 G2 y g2 d2 w2 => ?_, kx⟩
    have R2 := R1.grow g2
    obtain ⟨p', vs', ep', k1, k2, k3, k4, k5, zl⟩ := R2.ownAt hi
    rw [ep] at ep'
    cases ep'
    obtain ⟨⟨j0, j1, lt⟩, w2⟩ := w2
    have hl : vs'.length = l.length := by rw [k5.length, List.length_map]
    have eu : u = .int j := den_int.mp d1
    subst eu
    refine ⟨p, vs', j, v, rfl, rfl, k1, by rw [hl, sizeLine_eq]; exact lt, j0, j1, kk _ σ _ G2 (R2.ownSet hi ep (l' := (l.take j.toNat ++ [y] ++ l.drop j.toNat).map toD) ?_ ?_) (g1.g.trans g2.g) w2⟩
    · rw [List.map_append, List.map_append, List.map_take, List.map_drop]
      exact DenL.append (DenL.append (DenL.take _ k5) (DenL.one d2)) (DenL.drop _ k5)
    · simp only [List.length_map, List.length_append, List.length_take, List.length_drop, List.length_cons, List.length_nil]
      omega
/-! three plain locals, the second one perhaps a list of its own -/
theorem s_par3 {m : W α} {n : W μ} {o : W γ} {w2 : μ → Sl} {x y z : Str} {px py pz pt pos : Pos} {kt k2 : Nat} {pt2 : Pos} (cc : Dok X P Wx N sc k) (i j l : Nat) (ha : EX X P Wx Γ a m) (hb : EV X P Wx Γ b n w2) (hc : EX X P Wx Γ c o) (hij : i ≠ j := by decide) (hil : i ≠ l := by decide) (hjl : j ≠ l := by decide)
    (hi : N[i]? = some x := by rfl) (hj : N[j]? = some y := by rfl) (hl : N[l]? = some z := by rfl)
    (hx : sc.names.lookup x = some .local := by rfl) (hy : sc.names.lookup y = some .local := by rfl) (hz : sc.names.lookup z = some .local := by rfl) (hs : starEach [a, b, c] X.env = (false, eval a X.env) :: starEach [b, c] X.env := by rfl) (hs2 : starEach [b, c] X.env = (false, eval b X.env) :: starEach [c] X.env := by rfl) (hs3 : starEach [c] X.env = (false, eval c X.env) :: starEach [] X.env := by rfl)
    (hw : ∀ env : Env, env.scope = sc → swappedStores [.Tuple [.Name x px, .Name y py, .Name z pz] kt pt] (.Tuple [a, b, c] k2 pt2) env = pure (some [x, y, z]) := by intro env h; cases env; cases h; rfl)
    (hss : swapsWithSole [.Tuple [.Name x px, .Name y py, .Name z pz] kt pt] (.Tuple [a, b, c] k2 pt2) pos.line X.env = pure false := by rfl) :
    S1 X P Wx Γ (.Assign [.Tuple [.Name x px, .Name y py, .Name z pz] kt pt] (.Tuple [a, b, c] k2 pt2) pos) (W.b3 m n o fun x y z => W.pure (x, y, z)) (fun p => ((Γ.set i (.dat (toD p.1))).set j (w2 p.2.1)).set l (.dat (toD p.2.2))) :=
  PS.imp (ps_par3 cc.calm (by rw [cc.hN]; exact cc.nd) (by rw [cc.hN]; exact hi) (by rw [cc.hN]; exact hj) (by rw [cc.hN]; exact hl) hij hil hjl (by rw [cc.hsc]; exact hx) (by rw [cc.hsc]; exact hy) (by rw [cc.hsc]; exact hz) (pa_cons ha (pa_cons hb (pa_cons hc pa_nil hs3) hs2) hs) (hw _ cc.hsc) hss) fun D σ H h => by
    obtain ⟨G, Q, E, R, ww, kk, kx⟩ := h
    refine ⟨G, _, E, R, ww, fun v1 H1 G1 x1 g1 d1 w1 => ?_, kx⟩
    have R1 := R.grow g1
    refine ⟨G1, _, E, R1, w1, fun v2 H2 G2 x2 g2 n2 w2' => ?_, kx⟩
    have R2 := R1.grow g2
    refine ⟨G2, _, E, R2, w2', fun v3 H3 G3 x3 g3 d3 w3 => ?_, kx⟩
    have n3 := New.grow R2.toRelB g3 (fun p z => (R1.toRelB.free z).2.1) _ _ n2
    have g23 := g2.trans g3 (DealAt.there R2.dk)
    exact ⟨v1, v2, v3, rfl, kk (x1, x2, x3) _ H3 G3 ((((R1.set (i := i) d1).setNew ((R2.grow g3).set (i := i) (Den.mono g23.g _ _ d1)) n3)).set d3) ((g1.g.trans g2.g).trans g3.g) w3⟩
/-! the same list, its items otherwise told -/
theorem en_as {m : W (List α)} {f : List α → List β} (h : EN X P Wx Γ e m) (hf : ∀ l, (f l).map toD = l.map toD) : EN X P Wx Γ e (W.b1 m fun l => W.pure (f l)) := PE.imp h fun σ H Q' h => by
  obtain ⟨G, Q, E, R, w, kk, kx⟩ := h
  exact ⟨G, _, E, R, w, fun p vs H' G' a g hp gp hv d zl q => kk p vs H' G' (f a) g hp gp hv (by rw [hf]; exact d) (by rw [← List.length_map (f := toD (α := β)), hf, List.length_map]; exact zl) q, kx⟩
theorem en_D {m : W (List α)} (h : EN X P Wx Γ e m) : EN X P Wx Γ e (W.b1 m fun l => W.pure (l.map toD : List D)) := en_as h fun l => by simp only [List.map_map]; rfl
/-! a chain of two comparisons -/
structure ChO (X : Cx) (op : CmpOp) (f : Int → Int → Bool) : Prop where
  ex : ∃ r, OpR X (compareOp op) r ∧ ∀ x y H (Q : VK), Q (.bl (f x y)) H → r (.int x) (.int y) H Q
theorem oi_lt : ChO X .Lt (fun x y => decide (x < y)) := ⟨_, op_lt, fun x y _ _ q => ⟨x, y, rfl, rfl, q⟩⟩
theorem oi_le : ChO X .LtE (fun x y => decide (x ≤ y)) := ⟨_, op_le, fun x y _ _ q => ⟨x, y, rfl, rfl, q⟩⟩
theorem oi_gt : ChO X .Gt (fun x y => decide (y < x)) := ⟨_, op_gt, fun x y _ _ q => ⟨x, y, rfl, rfl, q⟩⟩
theorem oi_ge : ChO X .GtE (fun x y => decide (y ≤ x)) := ⟨_, op_ge, fun x y _ _ q => ⟨x, y, rfl, rfl, q⟩⟩
def chainW (f g : Int → Int → Bool) (m n o : W Int) : W Bool := m.bind fun x => n.bind fun y => bif f x y then o.bind fun z => W.pure (g y z) else W.pure false
theorem chain_rd {r r' : R2} {f g : Int → Int → Bool} {m n o : W Int} {σ : L2.St} {H : Hp} {Q' : VK} (hr : ∀ x y H (Q : VK), Q (.bl (f x y)) H → r (.int x) (.int y) H Q) (hr' : ∀ x y H (Q : VK), Q (.bl (g x y)) H → r' (.int x) (.int y) H Q)
    {G : Hp} {Q : Bool → Prop} {E : Ex → Prop} (R : Rel P Γ σ G H) (w : (chainW f g m n o).wp Q E) (kk : ∀ H' G' a, Grow P G H G' H' → Q a → Q' (.bl a) H') (kx : XC P Wx E) : tChain r r' (rdE P Wx Γ m) (rdE P Wx Γ n) (rdE P Wx Γ o) σ H Q' := by
  refine ⟨G, _, E, R, w, fun v H1 G1 x g1 d1 w1 => ?_, kx⟩
  have R1 := R.grow g1
  refine ⟨G1, _, E, R1, w1, fun u H2 G2 y g2 d2 w2 => ?_, kx⟩
  have R2 := R1.grow g2
  have g12 := g1.trans g2 (DealAt.there R1.dk)
  have e1 : v = .int x := den_int.mp d1
  have e2 : u = .int y := den_int.mp d2
  subst e1
  subst e2
  refine hr x y H2 _ ⟨f x y, rfl, ?_⟩
  have w2 : (bif f x y then o.bind fun z => W.pure (g y z) else W.pure false : W Bool).wp Q E := w2
  cases q : f x y with
  | false =>
    rw [q] at w2
    exact kk _ _ _ g12 w2
  | true =>
    rw [q] at w2
    refine ⟨G2, _, E, R2, w2, fun t H3 G3 z g3 d3 w3 => ?_, kx⟩
    have e3 : t = .int z := den_int.mp d3
    subst e3
    exact hr' y z H3 _ (kk _ _ _ (g12.trans g3 (DealAt.there R2.dk)) w3)
theorem ex_ch {op op' : CmpOp} {f g : Int → Int → Bool} {m n o : W Int} (h : ChO X op f) (h' : ChO X op' g) (ha : EX X P Wx Γ a m) (hb : EX X P Wx Γ b n) (hc : EX X P Wx Γ c o) (hm : lastMarks [op, op'] [b, c] = false := by with_unfolding_all rfl) :
    EX X P Wx Γ (.Compare a [op, op'] [b, c] pos) (chainW f g m n o) := by
  obtain ⟨r, ho, hr⟩ := h.ex
  obtain ⟨r', ho', hr'⟩ := h'.ex
  refine PE.imp (pe_chain ho ho' ha hb hc hm) fun σ H Q' h => ?_
  obtain ⟨G, Q, E, R, w, kk, kx⟩ := h
  exact chain_rd hr hr' R w (fun H' G' a g q => kk _ _ _ _ g (den_bool.mpr rfl) q) kx
theorem tx_ch {op op' : CmpOp} {f g : Int → Int → Bool} {m n o : W Int} (h : ChO X op f) (h' : ChO X op' g) (ha : EX X P Wx Γ a m) (hb : EX X P Wx Γ b n) (hc : EX X P Wx Γ c o) (hm : lastMarks [op, op'] [b, c] = false := by with_unfolding_all rfl) :
    TX X P Wx Γ (.Compare a [op, op'] [b, c] pos) (chainW f g m n o) := by
  obtain ⟨r, ho, hr⟩ := h.ex
  obtain ⟨r', ho', hr'⟩ := h'.ex
  refine PT.imp (pt_chain ho ho' ha hb hc hm) fun σ H Q' h => ?_
  obtain ⟨G, Q, E, R, w, kk, kx⟩ := h
  exact chain_rd hr hr' R w (fun H' G' a g q => ⟨a, rfl, kk _ _ _ g q⟩) kx
/-! enumerate over a tuple -/
theorem ei_enumT {m : W (Tup α)} {p tpos : Pos} {elts : List Expr} {kk' : Nat} (cc : Cok X P Wx N sc k) (ha : EX X P Wx Γ a m) (hg : GlS sc "enumerate" := by rfl) (hs : starEach [a] X.env = (false, eval a X.env) :: starEach [] X.env := by rfl) :
    EI X P Wx Γ (.Tuple elts kk' tpos) (.Call (.Name "enumerate" p) [a] [] pos) (W.b1 m fun x => W.pure (enumL x.l)) :=
  PI.imp (pi_enumT (gl cc hg) (blt cc) (pa_cons ha pa_nil hs) hs) fun σ H Q' h => by
    obtain ⟨G, Q, E, R, w, kk, kx⟩ := h
    refine ⟨G, _, E, R, w, fun v H1 G1 x g1 d1 w1 => ?_, kx⟩
    have R1 := R.grow g1
    obtain ⟨p, vs, rfl, g, t, zl⟩ := den_tup.mp d1
    have l1 : vs.length = x.l.length := by rw [t.length, List.length_map]
    refine ⟨p, vs, rfl, .inl (.inl (R1.sub _ _ g)), kk _ H1 G1 (enumL x.l) g1 (fun G3 H3 R3 s3 => ?_) w1⟩
    have sq : SqT X.K H3 p vs := .inl (.inl (R3.sub _ _ (s3 _ _ g)))
    have hlen : ((enumL x.l).map toD).length = vs.length := by rw [List.length_map, enumL_length, l1]
    refine ⟨fun i z hz => ?_, ⟨vs, sq, hlen.symm⟩, by rw [hlen, l1]; exact zl⟩
    have hi : i < vs.length := by
      rw [← hlen]
      exact (List.getElem?_eq_some_iff.mp hz).1
    have hx : i < x.l.length := by omega
    refine ⟨⟨vs, vs[i], sq, List.getElem?_eq_getElem hi⟩, fun v' H' hyl => ?_⟩
    obtain ⟨T, v2, rfl, hT, rfl, e2⟩ := hyl
    have e2 := e2 vs sq
    have g4 := grow_new (o := .tup [.int (i : Nat), v2]) R3 hT
    rw [List.getElem?_map, enumL_get x.l i hx] at hz
    cases hz
    refine ⟨_, g4, ?_⟩
    show Den _ (.tup [toD ((i : Nat) : Int), toD x.l[i]]) _
    simp only [Den, DenL]
    exact ⟨T, _, rfl, upd_same, ⟨_, _, rfl, den_int.mpr rfl, v2, _, rfl, Den.mono g4.g _ _ (den_get (DenL.mono s3 _ _ t) (by rw [List.getElem?_map, List.getElem?_eq_getElem hx]; rfl) e2), rfl⟩, by simp⟩
end
end Z

set_option autoImplicit false
set_option Elab.async false
set_option linter.all false
set_option maxRecDepth 100000
set_option maxHeartbeats 3000001
/-! calls by name alone -/
namespace L2
open PySem PySem.Spec PyProof.Rows
def pick {τ : Type} (ix : List Nat) (l : List τ) : List τ := ix.filterMap fun i => l[i]?
theorem pick_vals {ix : List Nat} {vs : List V} {us : List Value} (r : Vals vs us) : Vals (pick ix vs) (pick ix us) := by
  induction ix with
  | nil => exact .nil
  | cons i ix ih =>
    unfold pick at ih ⊢
    rw [List.filterMap_cons, List.filterMap_cons]
    cases e : vs[i]? with
    | none =>
      have e2 : us[i]? = none := List.getElem?_eq_none (by rw [← r.length]; exact List.getElem?_eq_none_iff.mp e)
      rw [e2]
      exact ih
    | some v =>
      obtain ⟨u, hu, ru⟩ := r.get e
      rw [hu]
      exact .cons ru ih
def tCallKw (sp : Sp) (ks : List Str) (ix : List Nat) (E : St → XK) (t : TA) : TE := fun σ H Q => t σ H fun zs H1 => zs.length = ks.length ∧ sp (pick ix zs) H1 Q (E σ)
section
variable {X : Cx} {CX : CXT} {k : Nat} {f : Addr} {fd : FuncData} {ps ks : List Str} {sp : Sp} {E : St → XK} {x : Str} {p pos : Pos} {kws : List Keyword} {t : TA} {ix : List Nat}
theorem pe_callKw (F : FnOk X.prog X.w X.K X.mg X.base CX k f fd ps sp) (hr : Room k X.A) (hg : Gl X x) (hm : X.mg x = some (.ref f)) (hk : PySem.W.keepIn X.K (.ref f) = true)
    (hb : ∀ (s : Shared) (ws : List Value), X.K.In s.heap → ws.length = ks.length → BindsTo s fd ⟨[], ks.zip ws⟩ (ps.zip (pick ix ws))) (hx : ∀ σ, PassesAt CX X σ (E σ))
    (ha : PK X kws t) (hall : (backToKw pos (keywordEach kws X.env)).all (·.1.isSome) = true) (hks : (backToKw pos (keywordEach kws X.env)).filterMap (·.1) = ks) (hdb : (x == ("__debug__" : Str)) = false)
    (hpl : ((backTo pos (starEach [] X.env)).any (·.1) || (backToKw pos (keywordEach kws X.env)).any (·.1.isNone)) = false) :
    PE X (.Call (.Name x p) [] kws pos) (tCallKw sp ks ix E t) := by
  refine ⟨fun pins s σ H Q I h => ?_⟩
  refine wpAny_Call_Name_kw (ld_glob I hg hm ?_ hdb)
  refine PySem.W.callWith_KW0 (h₀ := X.base) I.ok.mod.kin hk hall (thn (ha.run pos pins s σ H _ I h) fun ws s2 ⟨zs, H2, I2, rz, hl, q2⟩ => ⟨I2.kIn, ?_⟩) hpl
  rw [hks]
  show wpAny _ _ (call (.ref f) [] (ks.zip ws)) _ _ s2
  refine wpAny_call (codeAny_mono (F.run X.A X.stack s2 H2 ⟨[], ks.zip ws⟩ (pick ix ws) (pick ix zs) Q (E σ) hr I2.env0 (hb s2 ws I2.kIn (by rw [← rz.length]; exact hl)) (pick_vals rz) q2) fun r s' hq => ?_)
  cases r with
  | error e => exact hx σ pins H2 s2 e s' I2 hq
  | ok fl =>
    cases fl with
    | ret u => exact I2.after hq
    | next => exact hq.elim
    | brk => exact hq.elim
    | cont => exact hq.elim
end
end L2
namespace Z
open PySem PySem.Spec L2
open Py (toD)
/-- how a def binds the keywords ks -/
structure KwB (u : Wd) (x : Str) (ps ks : List Str) (ix : List Nat) : Prop where
  ok : ∃ (f : Addr) (fd : FuncData) (oc : Value) (od : Option Addr) (osl : Array (Option Value)), u.mg x = some (.ref f) ∧ u.K.lookup f = some ⟨oc, od, .func fd, osl⟩ ∧
    ∀ (s : Shared) (ws : List Value), u.K.In s.heap → ws.length = ks.length → BindsTo s fd ⟨[], ks.zip ws⟩ (ps.zip (pick ix ws))
theorem kwb_of {u : Wd} {x qual : Str} {st : Stmt} {f : Addr} {fd : FuncData} {ps ks : List Str} {ix : List Nat} (hF : Fun u.K x qual st f fd) (hm : u.mg x = some (.ref f))
    (h : ∀ (kV doc pm : Value) (an : Option Addr) (cdv ct : Value) (ws : List Value), ws.length = ks.length → bindArgs (PySem.W.fnOf x qual (defArgs st) (defBody st) (defScope st) .none kV doc pm an cdv ct) ⟨[], ks.zip ws⟩ = pure (ps.zip (pick ix ws))) : KwB u x ps ks ix := by
  obtain ⟨oc, od, kV, doc, pm, an, cdv, ct, osl, rfl, lk, _⟩ := hF.ex
  exact ⟨f, _, oc, od, osl, hm, lk, fun s ws _ hl => .of_eq (h kV doc pm an cdv ct ws hl)⟩
theorem denA_pick {P : Par} {G : Hp} {ix : List Nat} {ds : List (Option D)} {vs : List V} (d : DenA P G ds vs) : DenA P G (pick ix ds) (pick ix vs) := by
  induction ix with
  | nil => rfl
  | cons i ix ih =>
    unfold pick at ih ⊢
    rw [List.filterMap_cons, List.filterMap_cons]
    cases e : ds[i]? with
    | none =>
      have e2 : vs[i]? = none := List.getElem?_eq_none (by rw [DenA.length _ _ d]; exact List.getElem?_eq_none_iff.mp e)
      rw [e2]
      exact ih
    | some o =>
      have hi : i < ds.length := (List.getElem?_eq_some_iff.mp e).1
      cases o with
      | some dd =>
        obtain ⟨v, ev, sv⟩ := DenA.get ds vs i _ d e
        rw [ev]
        obtain ⟨v', e1, q⟩ := sv G
        cases e1
        exact ⟨v, _, rfl, q, ih⟩
      | none =>
        obtain ⟨v, ev, sv⟩ := DenA.get ds vs i _ d e
        rw [ev]
        obtain ⟨hb, e1⟩ := sv G
        cases e1
        exact ⟨_, rfl, hb, ih⟩
section
variable {α β γ δ τ ρ μ : Type} [Py α] [Py β] [Py γ] [Py δ] [Py ρ]
variable {X : Cx} {P : Par} {Wx : WX} {Γ : List Sl} {N : List Str} {sc : Scope} {k : Nat} {a b c e tg iter elt : Expr} {pos : Pos} {es : List Expr} {kws : List Keyword}
def EK (X : Cx) (P : Par) (Wx : WX) (Γ : List Sl) (kws : List Keyword) (ty : τ → List (Option D)) (m : W τ) : Prop := PK X kws (rdAo P Wx Γ ty m)
theorem PK.imp {t t' : TA} (h : PK X kws t) (hi : ∀ σ H Q, t' σ H Q → t σ H Q) : PK X kws t' := ⟨fun pos pins s σ H Q I q => h.run pos pins s σ H Q I (hi _ _ _ q)⟩
theorem ek_one {m : W α} {nm : Option Str} {p : Pos} (h : EX X P Wx Γ e m) : EK X P Wx Γ [⟨nm, e, p⟩] (fun x : α => [some (toD x)]) m :=
  PK.imp (pk_cons h pk_nil) fun σ H Q' h => by
    obtain ⟨G, Q, E, R, w, kk, kx⟩ := h
    exact ⟨G, Q, E, R, w, fun v H1 G1 x g1 d1 w1 => kk [v] H1 G1 x g1 ⟨v, [], rfl, d1, rfl⟩ w1, kx⟩
theorem ek_cons {m : W α} {n : W τ} {ty : τ → List (Option D)} {nm : Option Str} {p : Pos} (h : EX X P Wx Γ e m) (hr : EK X P Wx Γ kws ty n) :
    EK X P Wx Γ (⟨nm, e, p⟩ :: kws) (fun p : α × τ => some (toD p.1) :: ty p.2) (W.b2 m n fun x y => W.pure (x, y)) :=
  PK.imp (pk_cons h hr) fun σ H Q' h => by
    obtain ⟨G, Q, E, R, w, kk, kx⟩ := h
    refine ⟨G, _, E, R, w, fun v H1 G1 x g1 d1 w1 => ?_, kx⟩
    exact ⟨G1, _, E, R.grow g1, w1, fun vs H2 G2 y g2 d2 w2 => kk (v :: vs) H2 G2 (x, y) (g1.trans g2 (DealAt.there (R.grow g1).dk)) ⟨v, vs, rfl, Den.mono g2.g _ _ d1, d2⟩ w2, kx⟩
/-- f(k = e, ..) -/
theorem ex_callK {τ' : Type} {k' : Nat} {x : Str} {ps ks : List Str} {ix : List Nat} {bd : Bool} {ty : τ → List (Option D)} {tk : τ' → List (Option D)} {F : τ → W ρ} {n : W τ'} {p : Pos} (perm : τ' → τ) (cc : Cok X P Wx N sc k) (fn : Fn P.u k' x ps bd ty F) (kb : KwB P.u x ps ks ix) (hk : k' ≤ k)
    (hb : bd = true → P.b = true) (ha : EK X P Wx Γ kws tk n) (hp : ∀ z, pick ix (tk z) = ty (perm z) := by intro _; rfl) (hlen : ∀ z, (tk z).length = ks.length := by intro _; rfl)
    (hty : ∀ y, none ∈ ty y → bd = true := by intro _; simp) (hg : GlS sc x := by rfl) (hdb : (x == ("__debug__" : Str)) = false := by decide)
    (hall : (backToKw pos (keywordEach kws X.env)).all (·.1.isSome) = true := by rfl) (hks : (backToKw pos (keywordEach kws X.env)).filterMap (·.1) = ks := by rfl)
    (hpl : ((backTo pos (starEach [] X.env)).any (·.1) || (backToKw pos (keywordEach kws X.env)).any (·.1.isNone)) = false := by rfl) : EX X P Wx Γ (.Call (.Name x p) [] kws pos) (n.bind fun z => F (perm z)) := by
  obtain ⟨f, fd, hm, hkp, hbi, fo, oc, od, osl, lk⟩ := fn.ok
  obtain ⟨f2, fd2, oc2, od2, osl2, hm2, lk2, kb⟩ := kb.ok
  rw [hm] at hm2
  cases hm2
  rw [lk] at lk2
  cases lk2
  have fo' : FnOk X.prog X.w X.K X.mg X.base (L2.CX X.prog X.w) k' f fd ps (spOf P.u bd ty F) := by
    rw [cc.hprog, cc.hw, cc.hK, cc.hmg, cc.hbase]
    exact fo
  refine PE.imp (pe_callKw (ix := ix) fo' (cc.room.mono hk) (gl cc hg) (by rw [cc.hmg]; exact hm) (by rw [cc.hK]; exact hkp) (by rw [cc.hK]; exact kb) (fun σ => passAt cc.tk σ) ha hall hks hdb hpl) fun σ H Q' h => ?_
  have key := call_read (P := P) (Wx := Wx) (Γ := Γ) (bd := bd) (ty := ty) (F := F) (n := n.bind fun z => W.pure (perm z)) (ta := fun σ H K => rdAo P Wx Γ tk n σ H fun zs H1 => zs.length = ks.length ∧ K (pick ix zs) H1) hb hty (fun σ H K h => ?_) h
  · exact key
  · obtain ⟨G, Q, E, R, w, kk, kx⟩ := h
    exact ⟨G, _, E, R, w, fun vs H1 G1 z g1 d1 w1 => ⟨by rw [DenA.length _ _ d1, hlen], kk (pick ix vs) H1 G1 (perm z) g1 (by rw [← hp]; exact denA_pick d1) w1⟩, kx⟩
/-! more targets, statements -/
theorem s_expr {m : W α} (he : EX X P Wx Γ e m) (hs : swapsWith e none pos.line X.env = pure false := by rfl) : S1 X P Wx Γ (.Expr e pos) m (fun _ => Γ) :=
  PS.imp (ps_expr he hs) fun D σ H h => by
    obtain ⟨G, Q, E, R, w, kk, kx⟩ := h
    exact ⟨G, Q, E, R, w, fun v H' G' a g d q => kk a σ H' G' (R.grow g) g.g q, kx⟩
theorem tri_v {G : Hp} {x : T3 α β γ} {v : V} (h : Den G (toD x) v) : ∃ p v1 v2 v3, v = .ref p ∧ G p = some (.tup [v1, v2, v3]) ∧ Den G (toD x.a) v1 ∧ Den G (toD x.b) v2 ∧ Den G (toD x.c) v3 := by
  have h : Den G (.tup [toD x.a, toD x.b, toD x.c]) v := h
  simp only [Den, DenL] at h
  obtain ⟨p, vs, rfl, g, ⟨w, r, rfl, d, u, r', rfl, d', z, r2, rfl, d2, rfl⟩, _⟩ := h
  exact ⟨p, w, u, z, rfl, g, d, d', d2⟩
theorem gt_tri {t1 t2 t3 : Expr} {kk : Nat} {f1 : α → List Sl} {f2 : α → β → List Sl} {f3 : α → β → γ → List Sl} (cc : Cok X P Wx N sc k) (h1 : GT X P Γ t1 f1) (h2 : ∀ x, GT X P (f1 x) t2 (f2 x)) (h3 : ∀ x y, GT X P (f2 x y) t3 (f3 x y))
    (hs : (assignEach [t1, t2, t3] X.env).map (·.2) = assign t1 X.env :: (assignEach [t2, t3] X.env).map (·.2) := by rfl) (hs2 : (assignEach [t2, t3] X.env).map (·.2) = assign t2 X.env :: (assignEach [t3] X.env).map (·.2) := by rfl)
    (hs3 : (assignEach [t3] X.env).map (·.2) = assign t3 X.env :: (assignEach [] X.env).map (·.2) := by rfl)
    (hn : (assignEach [t1, t2, t3] X.env).length = 3 := by rfl) (hst : (assignEach [t1, t2, t3] X.env).findIdx? (·.1) = none := by rfl) : GT X P Γ (.Tuple [t1, t2, t3] kk pos) (fun p : T3 α β γ => f3 p.a p.b p.c) := by
  have h2' : PG X t2 (fun v σ H K => ∃ x, rdG P (f1 x) (f2 x) v σ H K) := ⟨fun pins s σ H v u K I r ⟨x, q⟩ => (h2 x).run pins s σ H v u K I r q⟩
  have h3' : PG X t3 (fun v σ H K => ∃ x y, rdG P (f2 x y) (f3 x y) v σ H K) := ⟨fun pins s σ H v u K I r ⟨x, y, q⟩ => (h3 x y).run pins s σ H v u K I r q⟩
  refine PG.imp (pg_tup cc.calm (pgs_cons h1 (pgs_cons h2' (pgs_cons h3' pgs_nil hs3) hs2) hs) hn hst) fun v σ H K ⟨x, G, R, d, h⟩ => ?_
  obtain ⟨p, v1, v2, v3, rfl, hp, d1, d2, d3⟩ := tri_v d
  exact ⟨p, _, rfl, .inl (.inl (R.sub _ _ hp)), rfl, v1, [v2, v3], rfl, x.a, G, R, d1, fun σ1 R1 => ⟨v2, [v3], rfl, x.a, x.b, G, R1, d2, fun σ2 R2 => ⟨v3, [], rfl, x.a, x.b, x.c, G, R2, d3, fun σ3 R3 => ⟨rfl, h σ3 R3⟩⟩⟩⟩
theorem four_v {G : Hp} {x : T4 α β γ δ} {v : V} (h : Den G (toD x) v) : ∃ p v1 v2 v3 v4, v = .ref p ∧ G p = some (.tup [v1, v2, v3, v4]) ∧ Den G (toD x.a) v1 ∧ Den G (toD x.b) v2 ∧ Den G (toD x.c) v3 ∧ Den G (toD x.d) v4 := by
  have h : Den G (.tup [toD x.a, toD x.b, toD x.c, toD x.d]) v := h
  simp only [Den, DenL] at h
  obtain ⟨p, vs, rfl, g, ⟨w, r, rfl, d, u, r', rfl, d', z, r2, rfl, d2, y, r3, rfl, d3, rfl⟩, _⟩ := h
  exact ⟨p, w, u, z, y, rfl, g, d, d', d2, d3⟩
theorem gt_four {t1 t2 t3 t4 : Expr} {kk : Nat} {f1 : α → List Sl} {f2 : α → β → List Sl} {f3 : α → β → γ → List Sl} {f4 : α → β → γ → δ → List Sl} (cc : Cok X P Wx N sc k) (h1 : GT X P Γ t1 f1) (h2 : ∀ x, GT X P (f1 x) t2 (f2 x)) (h3 : ∀ x y, GT X P (f2 x y) t3 (f3 x y))
    (h4 : ∀ x y z, GT X P (f3 x y z) t4 (f4 x y z))
    (hs : (assignEach [t1, t2, t3, t4] X.env).map (·.2) = assign t1 X.env :: (assignEach [t2, t3, t4] X.env).map (·.2) := by rfl) (hs2 : (assignEach [t2, t3, t4] X.env).map (·.2) = assign t2 X.env :: (assignEach [t3, t4] X.env).map (·.2) := by rfl)
    (hs3 : (assignEach [t3, t4] X.env).map (·.2) = assign t3 X.env :: (assignEach [t4] X.env).map (·.2) := by rfl) (hs4 : (assignEach [t4] X.env).map (·.2) = assign t4 X.env :: (assignEach [] X.env).map (·.2) := by rfl)
    (hn : (assignEach [t1, t2, t3, t4] X.env).length = 4 := by rfl) (hst : (assignEach [t1, t2, t3, t4] X.env).findIdx? (·.1) = none := by rfl) : GT X P Γ (.Tuple [t1, t2, t3, t4] kk pos) (fun p : T4 α β γ δ => f4 p.a p.b p.c p.d) := by
  have h2' : PG X t2 (fun v σ H K => ∃ x, rdG P (f1 x) (f2 x) v σ H K) := ⟨fun pins s σ H v u K I r ⟨x, q⟩ => (h2 x).run pins s σ H v u K I r q⟩
  have h3' : PG X t3 (fun v σ H K => ∃ x y, rdG P (f2 x y) (f3 x y) v σ H K) := ⟨fun pins s σ H v u K I r ⟨x, y, q⟩ => (h3 x y).run pins s σ H v u K I r q⟩
  have h4' : PG X t4 (fun v σ H K => ∃ x y z, rdG P (f3 x y z) (f4 x y z) v σ H K) := ⟨fun pins s σ H v u K I r ⟨x, y, z, q⟩ => (h4 x y z).run pins s σ H v u K I r q⟩
  refine PG.imp (pg_tup cc.calm (pgs_cons h1 (pgs_cons h2' (pgs_cons h3' (pgs_cons h4' pgs_nil hs4) hs3) hs2) hs) hn hst) fun v σ H K ⟨x, G, R, d, h⟩ => ?_
  obtain ⟨p, v1, v2, v3, v4, rfl, hp, d1, d2, d3, d4⟩ := four_v d
  exact ⟨p, _, rfl, .inl (.inl (R.sub _ _ hp)), rfl, v1, [v2, v3, v4], rfl, x.a, G, R, d1, fun σ1 R1 => ⟨v2, [v3, v4], rfl, x.a, x.b, G, R1, d2, fun σ2 R2 => ⟨v3, [v4], rfl, x.a, x.b, x.c, G, R2, d3, fun σ3 R3 => ⟨v4, [], rfl, x.a, x.b, x.c, x.d, G, R3, d4, fun σ4 R4 => ⟨rfl, h σ4 R4⟩⟩⟩⟩⟩
/-! the same rules, their mirrors by name -/
def joinR {ν ρ : Type} (m : W (Fl ν Unit ρ)) (mk : ν → W ρ) : W ρ := m.bind fun z => match z with | .nx t => mk t | .bk _ => W.stuck | .rt r => W.pure r
def joinF {ν τ μ ρ : Type} (m : W (Fl ν μ ρ)) (mk : ν → W (Fl τ μ ρ)) : W (Fl τ μ ρ) := m.bind fun z => match z with | .nx t => mk t | .bk t => W.pure (.bk t) | .rt r => W.pure (.rt r)
def tryR {ν ρ : Type} (m : W (Fl ν Unit ρ)) (t : String) (f : D → ρ) (mk : ν → W ρ) : W ρ := joinR (catchW m t fun d => W.pure (.rt (f d))) mk
def setW {τ : Type} (l : List τ) (j : Int) (a : τ) : W (List τ) := match ixN l.length j with | some q => W.pure (l.set q a) | none => W.stuck
theorem tb_tryR {sts rest : List Stmt} {t : String} {C : Addr} {m : W (Fl τ Unit ρ)} {mk : τ → W ρ} {Nn : τ → List Sl} {f : D → ρ} {x : Str} {b0 : Stmt} {suite : List Stmt} {np hp : Pos} (cc : Dok X P Wx N sc k) (i : Nat) (o : XOk P.u t C)
    (hb : ∀ (W' : WX) (pn : List (Addr × Obj)) (xe : Value → Shared → Prop), Dok (X.tr pn xe) P W' N sc k → FB (X.tr pn xe) P W' Γ sts m Nn (fun _ => []))
    (hs : SU X P i C (b0 :: suite) f) (hr : ∀ t, TB X P Wx (Nn t) rest (mk t)) (hi : N[i]? = some x := by rfl) (hx : sc.names.lookup x = some .local := by rfl) (hg : GlS sc (Str.ofString t) := by rfl) (hdb : (Str.ofString t == ("__debug__" : Str)) = false := by decide) :
    TB X P Wx Γ (.Try sts [.ExceptHandler (some (.Name (Str.ofString t) np)) (some x) (b0 :: suite) hp] [] [] pos :: rest) (tryR m t f mk) := tb_try cc i o hb hs hr hi hx hg hdb
theorem tb_join {ν : Type} {rest A B : List Stmt} {ma mb : W (Fl ν Unit ρ)} {mc : W Bool} {mk : ν → W ρ} {Nm : ν → List Sl} (hc : TX X P Wx Γ c mc) (ha : FB X P Wx Γ A ma Nm (fun _ => [])) (hb : FB X P Wx Γ B mb Nm (fun _ => [])) (hr : ∀ t, TB X P Wx (Nm t) rest (mk t)) :
    TB X P Wx Γ (.If c A B pos :: rest) (joinR (W.ite mc ma mb) mk) := by
  have h := tb_fb (pos := pos) hc ha hb hr
  refine (congrArg (TB X P Wx Γ (.If c A B pos :: rest)) ?_).mp h
  exact congrArg (W.bind (W.ite mc ma mb)) (funext fun z => by cases z <;> rfl)
theorem fb_join {ν : Type} {rest A B : List Stmt} {mc : W Bool} {ma mb : W (Fl ν μ ρ)} {mk : ν → W (Fl τ μ ρ)} {Nm : ν → List Sl} {Nn : τ → List Sl} {Lb : μ → List Sl} (hc : TX X P Wx Γ c mc) (ha : FB X P Wx Γ A ma Nm Lb) (hb : FB X P Wx Γ B mb Nm Lb) (hr : ∀ t, FB X P Wx (Nm t) rest (mk t) Nn Lb) :
    FB X P Wx Γ (.If c A B pos :: rest) (joinF (W.ite mc ma mb) mk) Nn Lb := by
  have h := fb_if (pos := pos) hc ha hb hr
  refine (congrArg (fun m => FB X P Wx Γ (.If c A B pos :: rest) m Nn Lb) ?_).mp h
  exact congrArg (W.bind (W.ite mc ma mb)) (funext fun z => by cases z <;> rfl)
theorem s_setI {l : List α} {n : W Int} {m : W α} {x : Str} {p1 p2 pos : Pos} (cc : Cok X P Wx N sc k) (i : Nat) (he : EX X P Wx Γ e m) (hb : EX X P Wx Γ b n) (hi : Γ[i]? = some (.own (l.map toD)) := by rfl) (hN : N[i]? = some x := by rfl)
    (hv : Vis sc x := by first | exact Or.inl rfl | exact Or.inr (Or.inl rfl) | exact Or.inr (Or.inr rfl)) (hd : (x == ("__debug__" : Str)) = false := by decide)
    (hcd : (x == ("__classdict__" : Str)) = false := by decide) (hs : swapsWithSole [.Subscript (.Name x p1) b p2] e pos.line X.env = pure false := by rfl) (hw : swappedStores [.Subscript (.Name x p1) b p2] e X.env = pure none := by rfl)
    (ha : ∀ v, assign (.Subscript (.Name x p1) b p2) X.env v = (do
      let ov ← holding [v] (eval (.Name x p1) X.env)
      let iv ← holding [v, ov] (eval b X.env)
      standAt p2
      holding [v, ov, iv] (setItem ov iv v)
      release [v, ov, iv] []) := by intro _; rfl) :
    S1 X P Wx Γ (.Assign [.Subscript (.Name x p1) b p2] e pos) (W.b2 m n fun a j => setW l j a) (fun l' => Γ.set i (.own (l'.map toD))) := s_setIx cc i he hb hi hN hv hd hcd hs hw ha
theorem tx_bor {ko : OK} {l : List α} {m : W Bool} (i : Nat) (h : TX X P Wx (Γ.set i (.dat (toD l))) e m) (hi : Γ[i]? = some (.ownK ko (l.map toD)) := by rfl) (hk : ∀ vs, ko.obj vs = .lst vs := by intro _; rfl) : TX X P Wx Γ e m := PT.imp h fun σ H Q' h => by
  obtain ⟨G, Q, E, R, q, kk, kx⟩ := h
  obtain ⟨p, vs, ep, h1, h2, h3, h4, h5, zl⟩ := R.ownAtL hi hk
  exact ⟨upd G p (.lst vs), Q, E, R.lend hi ep h1 h2 h3 h4 h5 zl, q, fun H' G' a g qq => kk H' _ a (Grow.out h2 (fun b n => upd_ne n) h1 g) qq, kx⟩
end
end Z

set_option autoImplicit false
set_option Elab.async false
set_option linter.all false
set_option maxRecDepth 100000
set_option maxHeartbeats 3000001
/-! the deal: [list of numbers, number]; _law_any, _law_of -/
namespace Z
open PySem PySem.Spec L2
open Py (toD)
/-- any number from 0 on below b -/
def anyW (b : Int) : W Int := ⟨fun Q _ => (0 < b ∧ Sz 9000 b) ∧ ∀ r, 0 ≤ r → r < b → Q r, fun h _ q => ⟨q.1, fun r a b => h r (q.2 r a b)⟩⟩
theorem relB_dq {P : Par} {G H : Hp} {xs : List Int} (R : RelB P G H) (hb : P.b = true) (hl : xs.length ≤ 63) (hn : ∀ x ∈ xs, 0 ≤ x) : RelB P G (upd H P.dq (.lst (xs.map V.int))) where
  sub := fun b o z => by
    have n : b ≠ P.dq := fun q => by
      subst q
      rw [R.gd _ ⟨hb, .inr (.inl rfl)⟩] at z
      cases z
    rw [upd_ne n]
    exact R.sub b o z
  fr := fun b o z d => by
    rw [upd_ne (fun q => d ⟨hb, .inr (.inl q)⟩)]
    exact R.fr b o z d
  gr := R.gr
  ng := R.ng
  dk := fun _ => by
    obtain ⟨⟨ne, ys, n, h1, h2, n0, n1, _, _⟩, tt⟩ := R.dk hb
    exact ⟨⟨ne, xs, n, by rw [upd_ne ne]; exact h1, upd_same, n0, n1, hl, hn⟩, tabs_upd tt h2 (lst_no_tbl _) (lst_no_code _)⟩
  gd := R.gd
  nt := nt_upd R (lst_no_tbl _)
theorem relB_da {P : Par} {G H : Hp} {n : Int} (R : RelB P G H) (hb : P.b = true) (h0 : 0 ≤ n) (h1 : n < 2147483647) : RelB P G (upd H P.da (.lst [.ref P.dq, .int n])) where
  sub := fun b o z => by
    have n : b ≠ P.da := fun q => by
      subst q
      rw [R.gd _ ⟨hb, .inl rfl⟩] at z
      cases z
    rw [upd_ne n]
    exact R.sub b o z
  fr := fun b o z d => by
    rw [upd_ne (fun q => d ⟨hb, .inl q⟩)]
    exact R.fr b o z d
  gr := R.gr
  ng := R.ng
  dk := fun _ => by
    obtain ⟨⟨ne, ys, n', k1, k2, _, _, l, p⟩, tt⟩ := R.dk hb
    exact ⟨⟨ne, ys, n, upd_same, by rw [upd_ne (Ne.symm ne)]; exact k2, h0, h1, l, p⟩, tabs_upd tt k1 (lst_no_tbl _) (lst_no_code _)⟩
  gd := R.gd
  nt := nt_upd R (lst_no_tbl _)
/-- the slots, when the deal alone changes -/
theorem rel_deal {P : Par} {Γ : List Sl} {σ : L2.St} {G H H' : Hp} (R : Rel P Γ σ G H) (B : RelB P G H') (hk : ∀ b o, H b = some o → ¬ P.dl b → H' b = some o) : Rel P Γ σ G H' :=
  ⟨B, R.len, fun i s e => by
    obtain ⟨o, eo, q⟩ := R.slots i s e
    refine ⟨o, eo, ?_⟩
    cases s with
    | un => trivial
    | dat d => exact q
    | deal => exact q
    | vl v => exact q
    | ownK _ l =>
      obtain ⟨p, vs, e1, h1, h2, h3, h4, h5⟩ := q
      exact ⟨p, vs, e1, hk _ _ h1 h4, h2, h3, h4, h5⟩, R.sep⟩
theorem rel_dq {P : Par} {Γ : List Sl} {σ : L2.St} {G H : Hp} {xs : List Int} (R : Rel P Γ σ G H) (hb : P.b = true) (hl : xs.length ≤ 63) (hn : ∀ x ∈ xs, 0 ≤ x) : Rel P Γ σ G (upd H P.dq (.lst (xs.map V.int))) :=
  rel_deal R (relB_dq R.toRelB hb hl hn) fun b o z d => by
    rw [upd_ne (fun q => d ⟨hb, .inr (.inl q)⟩)]
    exact z
theorem rel_da {P : Par} {Γ : List Sl} {σ : L2.St} {G H : Hp} {n : Int} (R : Rel P Γ σ G H) (hb : P.b = true) (h0 : 0 ≤ n) (h1 : n < 2147483647) : Rel P Γ σ G (upd H P.da (.lst [.ref P.dq, .int n])) :=
  rel_deal R (relB_da R.toRelB hb h0 h1) fun b o z d => by
    rw [upd_ne (fun q => d ⟨hb, .inl q⟩)]
    exact z
section
variable {X : Cx} {P : Par} {Wx : WX} {Γ : List Sl} {N : List Str} {sc : Scope} {k : Nat} {x : Str} {p1 p2 p3 p4 p5 pos : Pos} {j1 j2 : Nat}
theorem atI_last (l : List V) (z : V) : L2.atI (l ++ [z]) (-1) = some z := by
  unfold L2.atI L2.ixN
  have h : ¬ (0 : Int) ≤ -1 := by decide
  have h2 : -((l ++ [z]).length : Int) ≤ -1 := by simp; omega
  rw [if_neg h, if_pos h2]
  show (l ++ [z])[(((l ++ [z]).length : Int) + (-1 : Int)).toNat]? = _
  rw [show (((l ++ [z]).length : Int) + -1).toNat = l.length by simp; omega]
  simp
/-- what is known where the deal stands in slot i -/
structure GD (P : Par) (Γ : List Sl) (i : Nat) (σ : L2.St) (G H : Hp) (xs : List Int) (n : Int) : Prop where
  R : Rel P Γ σ G H
  hb : P.b = true
  e : σ[i]? = some (some (.ref P.da))
  h1 : H P.da = some (.lst [.ref P.dq, .int n])
  h2 : H P.dq = some (.lst (xs.map V.int))
  n0 : 0 ≤ n
  n1 : n < 2147483647
  l : xs.length ≤ 63
  nn : ∀ x ∈ xs, 0 ≤ x
  ne : P.da ≠ P.dq
theorem gd_of {σ : L2.St} {G H : Hp} {i : Nat} (R : Rel P Γ σ G H) (hi : Γ[i]? = some .deal) : ∃ xs n, GD P Γ i σ G H xs n := by
  obtain ⟨o, eo, hb, rfl⟩ := R.slots i _ hi
  obtain ⟨⟨ne, xs, n, h1, h2, h3, h4, h5, h6⟩, _⟩ := R.dk hb
  exact ⟨xs, n, R, hb, eo, h1, h2, h3, h4, h5, h6, ne⟩
theorem GD.q {σ : L2.St} {G H : Hp} {i : Nat} {xs ys : List Int} {n : Int} (g : GD P Γ i σ G H xs n) (hl : ys.length ≤ 63) (hn : ∀ x ∈ ys, 0 ≤ x) : GD P Γ i σ G (upd H P.dq (.lst (ys.map V.int))) ys n :=
  ⟨rel_dq g.R g.hb hl hn, g.hb, g.e, by rw [upd_ne g.ne]; exact g.h1, upd_same, g.n0, g.n1, hl, hn, g.ne⟩
theorem _root_.Z.Rel.forget {σ : L2.St} {G H : Hp} {j : Nat} {d : D} (R : Rel P (Γ.set j (.dat d)) σ G H) : Rel P (Γ.set j .un) σ G H := by
  have key : ∀ (i : Nat) (s : Sl), (Γ.set j .un)[i]? = some s → s = .un ∨ (Γ.set j (.dat d))[i]? = some s := fun i s e => by
    by_cases q : j = i
    · subst q
      have hi : j < Γ.length := by
        have := (List.getElem?_eq_some_iff.mp e).1
        rwa [List.length_set] at this
      rw [List.getElem?_set_self hi] at e
      exact .inl (Option.some.inj e).symm
    · rw [List.getElem?_set_ne q] at e
      exact .inr (by rw [List.getElem?_set_ne q]; exact e)
  refine ⟨R.toRelB, by have := R.len; rw [List.length_set] at this ⊢; exact this, fun i s e => ?_, fun i1 i2 p l m ne e1 e2 => ?_⟩
  · rcases key i s e with q | q
    · subst q
      have hi : i < σ.length := by
        have h1 := (List.getElem?_eq_some_iff.mp e).1
        have h2 := R.len
        rw [List.length_set] at h1 h2
        omega
      exact ⟨σ[i], List.getElem?_eq_getElem hi, trivial⟩
    · exact R.slots i s q
  · rcases key i1 _ e1 with q | q
    · cases q
    · rcases key i2 _ e2 with q2 | q2
      · cases q2
      · exact R.sep i1 i2 p l m ne q q2
section
variable {i : Nat} (cc : Cok X P Wx N sc k) (hN : N[i]? = some x) (hv : Vis sc x) (hd : (x == ("__debug__" : Str)) = false) (hcd : (x == ("__classdict__" : Str)) = false)
include cc hN hv hd hcd
/-- deal[0] -/
theorem pe_d0 : PE X (.Subscript (.Name x p1) (.Constant (.int 0) j1 p2) p3) (fun σ H Q => ∃ G xs n, GD P Γ i σ G H xs n ∧ Q (.ref P.dq) H) :=
  PE.imp (pe_ix ix_list (pe_var (i := i) (by rw [cc.hN]; exact hN) (by rw [cc.hsc]; exact hv) hd hcd) pe_int (by intro _ _; rfl)) fun σ H Q h => by
    obtain ⟨G, xs, n, g, q⟩ := h
    exact ⟨_, g.e, P.da, _, 0, _, rfl, rfl, .inl (.inl g.h1), rfl, q⟩
theorem pe_d1 : PE X (.Subscript (.Name x p1) (.Constant (.int 1) j1 p2) p3) (fun σ H Q => ∃ G xs n, GD P Γ i σ G H xs n ∧ Q (.int n) H) :=
  PE.imp (pe_ix ix_list (pe_var (i := i) (by rw [cc.hN]; exact hN) (by rw [cc.hsc]; exact hv) hd hcd) pe_int (by intro _ _; rfl)) fun σ H Q h => by
    obtain ⟨G, xs, n, g, q⟩ := h
    exact ⟨_, g.e, P.da, _, 1, _, rfl, rfl, .inl (.inl g.h1), rfl, q⟩
/-- deal[0] != [] -/
theorem pt_dne : PT X (.Compare (.Subscript (.Name x p1) (.Constant (.int 0) j1 p2) p3) [.NotEq] [.List [] p4] p5) (fun σ H Q => ∃ G xs n, GD P Γ i σ G H xs n ∧ ∀ H', GD P Γ i σ G H' xs n → Q (!xs.isEmpty) H') :=
  PT.imp (pt_cmpR (op_neD cc.room.units) (pe_d0 (P := P) (Γ := Γ) cc hN hv hd hcd) (pe_lst pa_nil) (nomark _)) fun σ H Q h => by
    obtain ⟨G, xs, n, g, q⟩ := h
    refine ⟨G, xs, n, g, by show 0 ≤ sizeLine; decide, fun p hp => ?_⟩
    have g4 := grow_raw (o := .lst []) g.R.toRelB hp
    have ev : PyData.eqv (.list (xs.map PyData.int)) (.list []) = xs.isEmpty := by cases xs <;> rfl
    have D1 : ∀ l : List Int, DpAll X.K (upd H p (.lst [])) (l.map V.int) (l.map PyData.int) := fun l => by
      induction l with
      | nil => exact .nil
      | cons z zs ih => exact .cons (.int z) ih
    have n1 : P.dq ≠ p := ne_of_none g.h2 hp
    have n2 : P.da ≠ p := ne_of_none g.h1 hp
    refine ⟨.list (xs.map PyData.int), .list [], .lst (xs := xs.map V.int) (.inl (.inl (by rw [upd_ne n1]; exact g.h2))) (D1 xs), .lst (.inl (.inl upd_same)) .nil, PySem.W.shaped_ints xs, PySem.W.shaped_ints [], _, rfl, ?_⟩
    rw [ev]
    exact q _ ⟨g.R.grow g4, g.hb, g.e, by rw [upd_ne n2]; exact g.h1, by rw [upd_ne n1]; exact g.h2, g.n0, g.n1, g.l, g.nn, g.ne⟩
/-- deal[0][-1] == 0 -/
theorem pt_dlast {p6 p7 p8 : Pos} {j3 : Nat} :
    PT X (.Compare (.Subscript (.Subscript (.Name x p1) (.Constant (.int 0) j1 p2) p3) (.UnaryOp .USub (.Constant (.int 1) j2 p4) p5) p6) [.Eq] [.Constant (.int 0) j3 p7] p8)
      (fun σ H Q => ∃ G xs n, GD P Γ i σ G H xs n ∧ xs ≠ [] ∧ ∀ b, Q b H) :=
  PT.imp (pt_cmpR op_eq (pe_ix ix_list (pe_d0 (P := P) (Γ := Γ) cc hN hv hd hcd) (pe_un un_neg pe_int) (by intro _ _; rfl)) pe_int (nomark _)) fun σ H Q h => by
    obtain ⟨G, xs, n, g, hne, q⟩ := h
    obtain ⟨l, z, rfl⟩ : ∃ l z, xs = l ++ [z] := ⟨xs.dropLast, xs.getLast hne, (List.dropLast_concat_getLast hne).symm⟩
    refine ⟨G, _, n, g, 1, rfl, P.dq, _, -1, .int z, rfl, rfl, .inl (.inl g.h2), ?_, rfl, _, rfl, q _⟩
    rw [List.map_append]
    exact atI_last (l.map V.int) (.int z)
/-- deal[0].pop() -/
theorem pe_dpop (hline : (p4.endLine == p5.line) = true) (hbase : attributeBase (.Subscript (.Name x p1) (.Constant (.int 0) j1 p2) p3) "pop" X.env (eval (.Subscript (.Name x p1) (.Constant (.int 0) j1 p2) p3) X.env) = eval (.Subscript (.Name x p1) (.Constant (.int 0) j1 p2) p3) X.env) :
    PE X (.Call (.Attribute (.Subscript (.Name x p1) (.Constant (.int 0) j1 p2) p3) "pop" p4) [] [] p5)
      (fun σ H Q => ∃ G l z n, GD P Γ i σ G H (l ++ [z]) n ∧ ∀ H', GD P Γ i σ G H' l n → Q (.int z) H') :=
  PE.imp (pe_bm0 PySem.F.plainAttrs_list PySem.F.slot_list_pop PySem.F.type_list_pop mt_pop (pe_d0 (P := P) (Γ := Γ) cc hN hv hd hcd) hbase hline) fun σ H Q h => by
    obtain ⟨G, l, z, n, g, q⟩ := h
    refine ⟨G, _, n, g, .inl ⟨rfl, _, .inl (.inl g.h2)⟩, P.dq, _, .int z, rfl, rfl, g.h2, by simp, ?_⟩
    rw [List.map_append, List.map_cons, List.map_nil, List.dropLast_concat]
    exact q _ (g.q (by have := g.l; simp at this; omega) fun y hy => g.nn y (List.mem_append_left _ hy))
end
theorem ex_d1 (cc : Cok X P Wx N sc k) (i : Nat) (hi : Γ[i]? = some .deal := by rfl) (hN : N[i]? = some x := by rfl) (hv : Vis sc x := by first | exact Or.inl rfl | exact Or.inr (Or.inl rfl) | exact Or.inr (Or.inr rfl)) (hd : (x == ("__debug__" : Str)) = false := by decide)
    (hcd : (x == ("__classdict__" : Str)) = false := by decide) : EX X P Wx Γ (.Subscript (.Name x p1) (.Constant (.int 1) j1 p2) p3) (W.any fun n : Int => 0 ≤ n ∧ n < 2147483647) :=
  PE.imp (pe_d1 (Γ := Γ) cc hN hv hd hcd) fun σ H Q' h => by
    obtain ⟨G, Q, E, R, w, kk, kx⟩ := h
    obtain ⟨xs, n, g⟩ := gd_of R hi
    exact ⟨G, xs, n, g, kk _ H G n (Grow.refl R.toRelB) (den_int.mpr rfl) (w n ⟨g.n0, g.n1⟩)⟩
/-- while deal[0] != [] and deal[0][-1] == 0: deal[0].pop() -/
theorem s_dwhile {a1 a2 a3 a4 a5 b1 b2 b3 b4 b5 b6 b7 b8 c1 c2 c3 c4 c5 c6 pa : Pos} {ja jb jb2 jb3 jc : Nat} (cc : Dok X P Wx N sc k) (i : Nat) (hi : Γ[i]? = some .deal := by rfl) (hN : N[i]? = some x := by rfl) (hv : Vis sc x := by first | exact Or.inl rfl | exact Or.inr (Or.inl rfl) | exact Or.inr (Or.inr rfl)) (hd : (x == ("__debug__" : Str)) = false := by decide)
    (hcd : (x == ("__classdict__" : Str)) = false := by decide) (hline : (c4.endLine == c5.line) = true := by rfl)
    (hbase : attributeBase (.Subscript (.Name x c1) (.Constant (.int 0) jc c2) c3) "pop" X.env (eval (.Subscript (.Name x c1) (.Constant (.int 0) jc c2) c3) X.env) = eval (.Subscript (.Name x c1) (.Constant (.int 0) jc c2) c3) X.env := by rfl)
    (hs : swapsWith (.Call (.Attribute (.Subscript (.Name x c1) (.Constant (.int 0) jc c2) c3) "pop" c4) [] [] c5) none c6.line X.env = pure false := by rfl) :
    S1 X P Wx Γ (.While (.BoolOp .And [.Compare (.Subscript (.Name x a1) (.Constant (.int 0) ja a2) a3) [.NotEq] [.List [] a4] a5,
      .Compare (.Subscript (.Subscript (.Name x b1) (.Constant (.int 0) jb b2) b3) (.UnaryOp .USub (.Constant (.int 1) jb2 b4) b5) b6) [.Eq] [.Constant (.int 0) jb3 b7] b8] pa)
      [.Expr (.Call (.Attribute (.Subscript (.Name x c1) (.Constant (.int 0) jc c2) c3) "pop" c4) [] [] c5) c6] [] pos) (W.pure ()) (fun _ => Γ) := by
  refine PS.imp (ps_while cc.po (pw_and (pt_dne (P := P) (Γ := Γ) cc.toCok hN hv hd hcd) (pw_and1 (pt_dlast (P := P) (Γ := Γ) cc.toCok hN hv hd hcd))).pt (pss_one (ps_expr (pe_dpop (P := P) (Γ := Γ) cc.toCok hN hv hd hcd hline hbase) hs))) fun D σ H h => ?_
  obtain ⟨G, Q, E, R, w, kk, kx⟩ := h
  refine ⟨fun m σ' H' => σ' = σ ∧ ∃ xs n, GD P Γ i σ G H' xs n ∧ m = xs.length, ?_, ?_⟩
  · obtain ⟨xs, n, g⟩ := gd_of R hi
    exact ⟨_, rfl, xs, n, g, rfl⟩
  · rintro m σ' H' ⟨rfl, xs, n, g, rfl⟩
    have done : ∀ H2, GD P Γ i σ' G H2 xs n → D.nx σ' H2 := fun H2 g2 => kk () σ' H2 G g2.R (fun _ _ z => z) w
    refine ⟨G, xs, n, g, fun H2 g2 => ?_⟩
    cases xs with
    | nil => exact done H2 g2
    | cons z zs =>
      refine ⟨G, z :: zs, n, g2, by simp, fun b => ?_⟩
      cases b with
      | false => exact done H2 g2
      | true =>
        obtain ⟨l, y, e⟩ : ∃ l y, z :: zs = l ++ [y] := ⟨(z :: zs).dropLast, (z :: zs).getLast (by simp), (List.dropLast_concat_getLast (by simp)).symm⟩
        rw [e] at g2 ⊢
        exact ⟨fun σ3 H3 => σ3 = σ' ∧ GD P Γ i σ' G H3 l n, fun σ3 H3 ⟨e3, g3⟩ => ⟨l.length, by simp, e3, l, n, g3, rfl⟩, G, l, y, n, g2, fun H3 g3 => ⟨rfl, g3⟩⟩
/-- deal[1] = e -/
theorem s_dset {e : Expr} {m : W Int} (cc : Dok X P Wx N sc k) (i : Nat) (he : EX X P Wx Γ e m) (hi : Γ[i]? = some .deal := by rfl) (hN : N[i]? = some x := by rfl) (hv : Vis sc x := by first | exact Or.inl rfl | exact Or.inr (Or.inl rfl) | exact Or.inr (Or.inr rfl)) (hd : (x == ("__debug__" : Str)) = false := by decide)
    (hcd : (x == ("__classdict__" : Str)) = false := by decide) (hs : swapsWithSole [.Subscript (.Name x p1) (.Constant (.int 1) j1 p2) p3] e pos.line X.env = pure false := by rfl) (hw : swappedStores [.Subscript (.Name x p1) (.Constant (.int 1) j1 p2) p3] e X.env = pure none := by rfl)
    (ha : ∀ v, assign (.Subscript (.Name x p1) (.Constant (.int 1) j1 p2) p3) X.env v = (do
      let ov ← holding [v] (eval (.Name x p1) X.env)
      let iv ← holding [v, ov] (eval (.Constant (.int 1) j1 p2) X.env)
      standAt p3
      holding [v, ov, iv] (setItem ov iv v)
      release [v, ov, iv] []) := by intro _; rfl) :
    S1 X P Wx Γ (.Assign [.Subscript (.Name x p1) (.Constant (.int 1) j1 p2) p3] e pos) (m.bind fun v => W.need (0 ≤ v ∧ v < 2147483647) ()) (fun _ => Γ) :=
  PS.imp (ps_asg he (pg_sub (pe_var (i := i) (by rw [cc.hN]; exact hN) (by rw [cc.hsc]; exact hv) hd hcd) pe_int set_list ha) hs hw) fun D σ H h => by
    obtain ⟨G, Q, E, R, w, kk, kx⟩ := h
    refine ⟨G, _, E, R, w, fun v H1 G1 y g1 d1 w1 => ?_, kx⟩
    have R1 := R.grow g1
    obtain ⟨xs, n, g⟩ := gd_of R1 hi
    have ev : v = .int y := den_int.mp d1
    subst ev
    exact ⟨_, g.e, P.da, _, 1, 1, rfl, rfl, g.h1, rfl, kk () σ _ G1 (rel_da R1 g.hb w1.1.1 w1.1.2) g1.g w1.2⟩
/-- if deal[0] != []: rest = int(deal[0].pop()); deal[0].append(rest // bound); return rest % bound -/
theorem tb_dif {a1 a2 a3 a4 a5 b1 b2 b3 b4 b5 b6 b7 b8 b9 c1 c2 c3 c4 c5 c6 c7 c8 c9 d1 d2 d3 d4 : Pos} {ja jb jc : Nat} {y z : Str} {rest : List Stmt} {b : Int} {m : W Int} (cc : Dok X P Wx N sc k) (i jb' jr : Nat) (hr : TB X P Wx Γ rest m) (hi : Γ[i]? = some .deal := by rfl) (hb : Γ[jb']? = some (.dat (toD b)) := by rfl) (hu : Γ[jr]? = some .un := by rfl) (hb2 : jb' ≠ jr := by decide) (hi2 : i ≠ jr := by decide)
    (hN : N[i]? = some x := by rfl) (hNb : N[jb']? = some y := by rfl) (hNr : N[jr]? = some z := by rfl)
    (hv : Vis sc x := by first | exact Or.inl rfl | exact Or.inr (Or.inl rfl) | exact Or.inr (Or.inr rfl)) (hvb : Vis sc y := by first | exact Or.inl rfl | exact Or.inr (Or.inl rfl) | exact Or.inr (Or.inr rfl)) (hvr : Vis sc z := by first | exact Or.inl rfl | exact Or.inr (Or.inl rfl) | exact Or.inr (Or.inr rfl)) (hlr : Loc sc z := by first | exact Or.inl rfl | exact Or.inr rfl)
    (hd : (x == ("__debug__" : Str)) = false := by decide) (hcd : (x == ("__classdict__" : Str)) = false := by decide) (hdb : (y == ("__debug__" : Str)) = false := by decide) (hcdb : (y == ("__classdict__" : Str)) = false := by decide) (hdr : (z == ("__debug__" : Str)) = false := by decide) (hcdr : (z == ("__classdict__" : Str)) = false := by decide)
    (hgi : GlS sc "int" := by rfl)
    (hl1 : (b4.endLine == b5.line) = true := by rfl) (hl2 : (c4.endLine == c8.line) = true := by rfl)
    (h1 : attributeBase (.Subscript (.Name x b1) (.Constant (.int 0) jb b2) b3) "pop" X.env (eval (.Subscript (.Name x b1) (.Constant (.int 0) jb b2) b3) X.env) = eval (.Subscript (.Name x b1) (.Constant (.int 0) jb b2) b3) X.env := by rfl)
    (h2 : attributeBase (.Subscript (.Name x c1) (.Constant (.int 0) jc c2) c3) "append" X.env (eval (.Subscript (.Name x c1) (.Constant (.int 0) jc c2) c3) X.env) = eval (.Subscript (.Name x c1) (.Constant (.int 0) jc c2) c3) X.env := by rfl)
    (hs1 : starEach [.Call (.Attribute (.Subscript (.Name x b1) (.Constant (.int 0) jb b2) b3) "pop" b4) [] [] b5] X.env = (false, eval (.Call (.Attribute (.Subscript (.Name x b1) (.Constant (.int 0) jb b2) b3) "pop" b4) [] [] b5) X.env) :: starEach [] X.env := by rfl)
    (hs2 : starEach [.BinOp (.Name z c5) .FloorDiv (.Name y c6) c7] X.env = (false, eval (.BinOp (.Name z c5) .FloorDiv (.Name y c6) c7) X.env) :: starEach [] X.env := by rfl)
    (hw1 : ∀ env : Env, env.scope = sc → swapsWith (.Call (.Name "int" b6) [.Call (.Attribute (.Subscript (.Name x b1) (.Constant (.int 0) jb b2) b3) "pop" b4) [] [] b5] [] b7) (some (.Name z b8)) b9.line env = pure false := by intro env h; rfl)
    (hw2 : swapsWith (.Call (.Attribute (.Subscript (.Name x c1) (.Constant (.int 0) jc c2) c3) "append" c4) [.BinOp (.Name z c5) .FloorDiv (.Name y c6) c7] [] c8) none c9.line X.env = pure false := by rfl)
    (hf2 : ((backTo c8 (starEach [.BinOp (.Name z c5) .FloorDiv (.Name y c6) c7] X.env)).all (fun x => !x.1) && (backToKw c8 (keywordEach [] X.env)).all (fun x => x.1.isSome)
      && decide (([.BinOp (.Name z c5) .FloorDiv (.Name y c6) c7] : List Expr).length + ([] : List Keyword).length + (if ([] : List Keyword).isEmpty then 0 else 1) < 30)) = true := by rfl) :
    TB X P Wx Γ (.If (.Compare (.Subscript (.Name x a1) (.Constant (.int 0) ja a2) a3) [.NotEq] [.List [] a4] a5)
      [.Assign [.Name z b8] (.Call (.Name "int" b6) [.Call (.Attribute (.Subscript (.Name x b1) (.Constant (.int 0) jb b2) b3) "pop" b4) [] [] b5] [] b7) b9,
       .Expr (.Call (.Attribute (.Subscript (.Name x c1) (.Constant (.int 0) jc c2) c3) "append" c4) [.BinOp (.Name z c5) .FloorDiv (.Name y c6) c7] [] c8) c9,
       .Return (some (.BinOp (.Name z d1) .Mod (.Name y d2) d3)) d4] [] pos :: rest) ⟨fun Q E => (anyW b).wp Q E ∧ m.wp Q E, fun h h' q => ⟨(anyW b).mono h h' q.1, m.mono h h' q.2⟩⟩ := by
  have A1 := ps_set (i := jr) (pos := b9) (pos' := b8) (by rw [cc.hN]; exact cc.nd) (by rw [cc.hN]; exact hNr) (by rw [cc.hsc]; exact hlr) (pe_callTy call_int1 (gl cc.toCok hgi) (blt cc.toCok) (by decide +kernel) (pa_cons (pe_dpop (P := P) (Γ := Γ) cc.toCok hN hv hd hcd hl1 h1) pa_nil hs1) (by decide) (by decide) hs1) (hw1 _ cc.hsc) (.inl (cc.fn z))
  have vz : ∀ {p : Pos}, PE X (.Name z p) (tVar jr) := pe_var (by rw [cc.hN]; exact hNr) (by rw [cc.hsc]; exact hvr) hdr hcdr
  have vy : ∀ {p : Pos}, PE X (.Name y p) (tVar jb') := pe_var (by rw [cc.hN]; exact hNb) (by rw [cc.hsc]; exact hvb) hdb hcdb
  have A2 := ps_expr (pos := c9) (pe_bm (cpos := c8) PySem.F.plainAttrs_list PySem.F.slot_list_append PySem.F.type_list_append mt_append (pe_d0 (P := P) (Γ := Γ.set jr .un) cc.toCok hN hv hd hcd) (pa_cons (pe_op (pos := c7) op_fdivW (vz (p := c5)) (vy (p := c6))) pa_nil hs2) h2 hf2 hl2 hs2 (by rfl)) hw2
  have A3 := ps_ret (pos := d4) (pe_op (pos := d3) op_mod (vz (p := d1)) (vy (p := d2)))
  refine PSs.imp (pss_cons (ps_if (pt_dne (P := P) (Γ := Γ) cc.toCok hN hv hd hcd) (pss_cons A1 (pss_cons A2 (pss_one A3))) pss_nil) hr) fun D σ H h => ?_
  obtain ⟨G, Q, E, R, ⟨w1, w2⟩, kk, kx⟩ := h
  obtain ⟨xs, n, g⟩ := gd_of R hi
  refine ⟨G, xs, n, g, fun H1 g1 => ?_⟩
  cases xs with
  | nil => exact ⟨G, Q, E, g1.R, w2, kk, kx⟩
  | cons q0 qs =>
    obtain ⟨l, v0, e⟩ : ∃ l y, q0 :: qs = l ++ [y] := ⟨(q0 :: qs).dropLast, (q0 :: qs).getLast (by simp), (List.dropLast_concat_getLast (by simp)).symm⟩
    rw [e] at g1
    refine ⟨G, l, v0, n, g1, fun H2 g2 => .inl ⟨v0, rfl, ?_⟩⟩
    have ljr : jr < σ.length := by
      rw [R.len]
      exact (List.getElem?_eq_some_iff.mp hu).1
    have ez : (σ.set jr (some (.int v0)))[jr]? = some (some (.int v0)) := List.getElem?_set_self ljr
    obtain ⟨ob, eb, vb, eb2, db⟩ := R.slots jb' _ hb
    have evb : vb = .int b := den_int.mp db
    subst evb
    subst eb2
    have ey : (σ.set jr (some (.int v0)))[jb']? = some (some (.int b)) := by rw [List.getElem?_set_ne (Ne.symm hb2)]; exact eb
    have g3 : GD P (Γ.set jr .un) i (σ.set jr (some (.int v0))) G H2 l n := ⟨(g2.R.set (i := jr) (d := .int v0) (v := .int v0) (den_int.mpr rfl)).forget, g2.hb, by rw [List.getElem?_set_ne (Ne.symm hi2)]; exact g2.e, g2.h1, g2.h2, g2.n0, g2.n1, g2.l, g2.nn, g2.ne⟩
    have hz : 0 ≤ v0 := g1.nn v0 (by simp)
    have hl : (l ++ [v0 / b]).length ≤ 63 := by
      have := g1.l
      simp at this ⊢
      omega
    have g4 := g3.q (ys := l ++ [v0 / b]) hl fun y hy => by
      rcases List.mem_append.mp hy with h | h
      · exact g3.nn y h
      · rw [List.mem_singleton.mp h]
        exact Int.ediv_nonneg hz (Int.le_of_lt w1.1.1)
    refine ⟨G, l, n, g3, .inl ⟨rfl, _, .inl (.inl g3.h2)⟩, _, ez, _, ey, v0, b, rfl, rfl, wide_div w1.1.1 w1.1.2 (by decide) (by decide), P.dq, _, .int (v0 / b), rfl, rfl, g3.h2, ?_, ?_⟩
    · rw [List.length_map, sizeLine_eq]
      have := g3.l
      omega
    · refine ⟨_, ez, _, ey, v0, b, rfl, rfl, w1.1.1, ?_⟩
      have e4 : (l ++ [v0 / b]).map V.int = l.map V.int ++ [.int (v0 / b)] := by simp
      rw [e4] at g4
      exact kk (v0 % b) _ _ G g4.R.toRelB (den_int.mpr rfl) (w1.2 _ (Int.emod_nonneg _ (Int.ne_of_gt w1.1.1)) (Int.emod_lt_of_pos _ w1.1.1))
theorem tb_ref {ρ : Type} [Py ρ] {sts : List Stmt} {m m' : W ρ} (h : TB X P Wx Γ sts m) (hr : ∀ Q E, m'.wp Q E → m.wp Q E) : TB X P Wx Γ sts m' := PSs.imp h fun D σ H h => by
  obtain ⟨G, Q, E, R, w, kk, kx⟩ := h
  exact ⟨G, Q, E, R, hr Q E w, kk, kx⟩
end
/-- a promise weakened -/
theorem Fn.ref {u : Wd} {k : Nat} {x : Str} {ps : List Str} {b : Bool} {τ ρ : Type} [Py ρ] {ty : τ → List (Option D)} {F F' : τ → W ρ} (h : Fn u k x ps b ty F) (hr : ∀ y Q E, (F' y).wp Q E → (F y).wp Q E) : Fn u k x ps b ty F' := by
  obtain ⟨f, fd, h1, h2, h3, h4, h5⟩ := h.ok
  refine ⟨f, fd, h1, h2, h3, h4.imp fun vs H Q E h => ?_, h5⟩
  obtain ⟨y, G, Q0, E0, da, dq, B, d, w, kk, kx⟩ := h
  exact ⟨y, G, Q0, E0, da, dq, B, d, hr y _ _ w, kk, kx⟩
end Z

set_option autoImplicit false
set_option Elab.async false
set_option linter.all false
set_option maxRecDepth 100000
set_option maxHeartbeats 3000001
/-! the script, _law_draw, law -/
namespace Z
open PySem PySem.Spec L2
open Py (toD)
theorem sqL_up {K : PySem.W.Frag} {H H' : Hp} {a : Addr} {xs : List V} (h : SqL K H a xs) (k : ∀ b o, H b = some o → H' b = some o) : SqL K H' a xs := by
  rcases h with (h | ⟨o, h⟩) | h
  · exact .inl (.inl (k _ _ h))
  · exact .inl (.inr ⟨o, k _ _ h⟩)
  · exact .inr h
section
variable {α β γ δ τ ρ μ : Type} [Py α] [Py β] [Py γ] [Py δ] [Py ρ]
variable {X : Cx} {P : Par} {Wx : WX} {Γ : List Sl} {N : List Str} {sc : Scope} {k : Nat} {a b c e tg iter elt : Expr} {pos : Pos} {es : List Expr} {st : Stmt} {sts rest : List Stmt}
/-- the first items of the script -/
theorem en_scr {s : Addr} {ns : List Int} {hi : Option Expr} {x : Str} {o : W (Option Int)} {p1 p2 : Pos} (cc : Cok X P Wx N sc k) (i : Nat) (hb : P.b = false) (hS : SqL P.u.K P.H0 s (ns.map V.int)) (zl : ns.length ≤ 16777216) (hh : EO X P Wx Γ hi o) (hΓ : Γ[i]? = some (.vl (.ref s)) := by rfl) (hN : N[i]? = some x := by rfl)
    (hv : Vis sc x := by first | exact Or.inl rfl | exact Or.inr (Or.inl rfl) | exact Or.inr (Or.inr rfl)) (hd : (x == ("__debug__" : Str)) = false := by decide) (hcd : (x == ("__classdict__" : Str)) = false := by decide) :
    EN X P Wx Γ (.Subscript (.Name x p1) (.Slice none hi none p2) pos) (o.bind fun j => W.pure (cut ns none j)) :=
  PE.imp (pe_slice sl_list (pe_var (i := i) (by rw [cc.hN]; exact hN) (by rw [cc.hsc]; exact hv) hd hcd) eo_none hh) fun σ H Q' h => by
    obtain ⟨G, Q, E, R, w, kk, kx⟩ := h
    obtain ⟨ov, eo, rfl⟩ := R.slots i _ hΓ
    refine ⟨_, eo, G, _, E, R, rfl, fun H2 G2 i g2 w2 => ?_, kx⟩
    have R2 := R.grow g2
    refine ⟨G2, _, E, R2, (show (o.bind fun j => W.pure (cut ns none j)).wp Q E from w), fun H3 G3 j g3 w3 => ?_, kx⟩
    have R3 := R2.grow g3
    have g13 := g2.trans g3 (DealAt.there R2.dk)
    obtain rfl : none = i := w2
    have nd : ∀ b, ¬ P.dl b := fun b z => Bool.noConfusion (hb.symm.trans z.1)
    refine ⟨s, ns.map V.int, rfl, by rw [cc.hK]; exact sqL_up hS fun b o z => R3.fr b o z (nd b), fun q hq => ?_⟩
    have g4 := grow_raw (o := .lst (cutV (ns.map V.int) none j)) R3.toRelB hq
    refine kk q _ _ _ _ (g13.trans g4 (DealAt.there R3.dk)) (H_none R.toRelB g13 hq) (R3.toRelB.free hq).2.2 upd_same ?_ (Nat.le_trans (cut_le _ _ _) zl) w3
    rw [cut_map]
    exact (DenL.ints.mpr rfl : DenL G3 (ns.map toD) (ns.map V.int)).cut none j
/-! a def that returns a deal -/
def rdDl (P : Par) (Wx : WX) (Γ : List Sl) (m : W (List Int × Int)) : TS := fun D σ H => ∃ (G : Hp) (Q : List Int × Int → Prop) (E : Ex → Prop), Rel P Γ σ G H ∧ m.wp Q E ∧
  (∀ p q xs n H', (∀ b o, P.H0 b = some o → H' b = some o) → (∀ b ps, H' b = some (.tbl ps) → ∃ ps', P.H0 b = some (.tbl ps')) → P.H0 p = none → P.H0 q = none → p ≠ q → H' p = some (.lst [.ref q, .int n]) → H' q = some (.lst (xs.map V.int)) → Q (xs, n) → D.rt (.ref p) H') ∧ XC P Wx E
def DB (X : Cx) (P : Par) (Wx : WX) (Γ : List Sl) (sts : List Stmt) (m : W (List Int × Int)) : Prop := PSs X sts (rdDl P Wx Γ m)
theorem db_cons {m : W μ} {Nm : μ → List Sl} {mk : μ → W (List Int × Int)} (h1 : S1 X P Wx Γ st m Nm) (h2 : ∀ t, DB X P Wx (Nm t) rest (mk t)) : DB X P Wx Γ (st :: rest) (m.bind mk) := by
  refine ⟨fun pins s σ H D I h => ?_⟩
  obtain ⟨G, Q, E, R, q, kk, kx⟩ := h
  refine (pss_cons (u := fun D' σ1 H1 => ∃ t G1, Rel P (Nm t) σ1 G1 H1 ∧ (mk t).wp Q E ∧ (∀ p q xs n H', (∀ b o, P.H0 b = some o → H' b = some o) → (∀ b ps, H' b = some (.tbl ps) → ∃ ps', P.H0 b = some (.tbl ps')) → P.H0 p = none → P.H0 q = none → p ≠ q → H' p = some (.lst [.ref q, .int n]) → H' q = some (.lst (xs.map V.int)) → Q (xs, n) → D'.rt (.ref p) H')) h1 ?_).run pins s σ H D I
    ⟨G, _, E, R, q, fun t σ1 H1 G1 R1 s1 q1 => ⟨t, G1, R1, q1, kk⟩, kx⟩
  refine ⟨fun pins s σ1 H1 D' I1 h' => ?_⟩
  obtain ⟨t, G1, R1, q1, k1⟩ := h'
  exact (h2 t).run pins s σ1 H1 D' I1 ⟨G1, Q, E, R1, q1, k1, kx⟩
theorem db_ret {m : W (List Int)} {n : W Int} {p2 : Pos} (hb : P.b = false) (ha : EN X P Wx Γ a m) (hbb : EX X P Wx Γ b n) (hs : starEach [a, b] X.env = (false, eval a X.env) :: starEach [b] X.env := by rfl) (hs2 : starEach [b] X.env = (false, eval b X.env) :: starEach [] X.env := by rfl) :
    DB X P Wx Γ [.Return (some (.List [a, b] p2)) pos] (W.b2 m n fun x y => W.pure (x, y)) :=
  PSs.imp (pss_one (ps_ret (pe_lst (pa_cons ha (pa_cons hbb pa_nil hs2) hs)))) fun D σ H h => by
    obtain ⟨G, Q, E, R, w, kk, kx⟩ := h
    have nd : ∀ b, ¬ P.dl b := fun b z => Bool.noConfusion (hb.symm.trans z.1)
    refine ⟨G, _, E, R, w, fun q vs H1 G1 xs g1 hq gq hv d zl w1 => ?_, kx⟩
    have R1 := R.grow g1
    refine ⟨G1, _, E, R1, w1, fun u H2 G2 y g2 d2 w2 => ⟨by show 2 ≤ sizeLine; decide, fun p hp => ?_⟩, kx⟩
    have R2 := R1.grow g2
    have eu : u = .int y := den_int.mp d2
    subst eu
    rw [DenL.ints] at d
    subst d
    have hq2 := g2.h _ _ hv (nd q)
    have npq : q ≠ p := ne_of_none hq2 hp
    exact kk p q xs y _ (fun b o z => by rw [upd_ne (ne_of_none (R2.fr b o z (nd b)) hp)]; exact R2.fr b o z (nd b)) (nt_upd R2.toRelB (lst_no_tbl _)) (R2.toRelB.free hp).1 (R.toRelB.free hq).1 (Ne.symm npq) upd_same (by rw [upd_ne npq]; exact hq2) w2
theorem db_ref {m m' : W (List Int × Int)} (h : DB X P Wx Γ sts m) (hr : ∀ Q E, m'.wp Q E → m.wp Q E) : DB X P Wx Γ sts m' := PSs.imp h fun D σ H h => by
  obtain ⟨G, Q, E, R, w, kk, kx⟩ := h
  exact ⟨G, Q, E, R, hr Q E w, kk, kx⟩
end
section
variable {α ρ τ μ : Type} [Py α] [Py ρ] {X : Cx} {P : Par} {Wx : WX} {Γ : List Sl} {sts : List Stmt}
/-- code that is never come to -/
theorem tb_stuck : TB X P Wx Γ sts (W.stuck : W ρ) := PSs.imp pss_never fun D σ H h => by
  obtain ⟨G, Q, E, R, w, _⟩ := h
  exact w
/-- a name that a loop may have left unset -/
def optW (t : Option α) (f : α → W μ) : W μ := match t with | none => W.stuck | some r => f r
def optS (t : Option α) : Sl := match t with | none => .un | some r => .dat (toD r)
theorem tb_opt {Γ : Option α → List Sl} {f : α → W ρ} (t : Option α) (h : ∀ r, TB X P Wx (Γ (some r)) sts (f r)) : TB X P Wx (Γ t) sts (optW t f) := by
  cases t with
  | none => exact tb_stuck
  | some r => exact h r
end
/-! _law_draw's promise, law's promise -/
def DealOk (p : List Int × Int) : Prop := p.1.length ≤ 63 ∧ (∀ x ∈ p.1, 0 ≤ x) ∧ 0 ≤ p.2 ∧ p.2 < 2147483647
def spDraw (K : PySem.W.Frag) : Sp := fun vs H Q _ => ∃ (a : Addr) (ns : List Int) (salt : Int), vs = [.ref a, .int salt] ∧ SqL K H a (ns.map V.int) ∧ ns.length ≤ 63 ∧ (0 ≤ salt ∧ salt ≤ 1000) ∧
  ∀ da dq H', (∀ b o, H b = some o → H' b = some o) → (∀ b ps, H' b = some (.tbl ps) → ∃ ps', H b = some (.tbl ps')) → H da = none → H dq = none → DealAt da dq H' → Q (.ref da) H'
def spLaw (K : PySem.W.Frag) : Sp := fun vs H Q _ => ∃ (a : Addr) (ns : List Int), vs = [.ref a] ∧ SqL K H a (ns.map V.int) ∧ ns.length ≤ 63 ∧ ∀ H', Q (.bl true) H'
def anyDeal : W (List Int × Int) := W.any DealOk
theorem draw_ok {u : Wd} {k : Nat} {st : Stmt} {f : Addr} {fd : FuncData} {N : List Str} {n : Nat} {x qual : Str} (wo : WOk u) (hF : Fun u.K x qual st f fd) (S : FnScope N ["script", "salt"] (defScope st)) (hn : N.length = 2 + n)
    (hbody : ∀ (X : Cx) (P : Par) (Wx : WX) (s : Addr) (ns : List Int) (salt : Int), P.b = false → SqL P.u.K P.H0 s (ns.map V.int) → ns.length ≤ 63 → (0 ≤ salt ∧ salt ≤ 1000) → Dok X P Wx N (defScope st) k → DB X P Wx ([.vl (.ref s), .dat (toD salt)] ++ List.replicate n .un) (defBody st) anyDeal) :
    FnOk u.prog u.w u.K u.mg u.base (L2.CX u.prog u.w) (k + 1) f fd ["script", "salt"] (spDraw u.K) := by
  refine hF.okX S (fun vs H Q E h => ?_) (fun cdv A outer s H vs Q E hr h => ?_)
  · obtain ⟨a, ns, salt, rfl, _⟩ := h
    rfl
  · obtain ⟨a, ns, salt, rfl, hS, hl, hz, kk⟩ := h
    have D0 : Dok (cxOf (L2.CX u.prog u.w) u.prog u.w u.K u.mg u.base N qual (defScope st) f cdv A outer s H E) (parOf u false 0 0 H (fun _ => none)) (fun cls d _ H => E cls d H) N (defScope st) k :=
      ⟨⟨rfl, rfl, rfl, rfl, rfl, rfl, rfl, wo.bl, rfl, S.nd, hr, takes_of rfl rfl rfl rfl⟩, fun _ => rfl, passes_of rfl, rfl, rfl⟩
    refine ⟨_, hbody _ _ _ a ns salt rfl hS hl hz D0, fun _ => none, DealOk, fun _ => False, ?_, fun p hp => hp, fun p q xs m H' k2 k3 h1 h2 ne e1 e2 ok => kk p q H' k2 k3 h1 h2 ⟨ne, xs, m, e1, e2, ok.2.2.1, ok.2.2.2, ok.1, ok.2.1⟩, fun _ _ _ _ _ _ _ _ z => z.elim⟩
    refine ⟨⟨fun b o z => (nomatch z), fun b o z _ => z, fun b o z => z, fun b o z n => n, fun z => (nomatch z), fun b z => (Bool.noConfusion z.1), fun _ ps z => ⟨ps, z⟩⟩, ?_, fun i s e => ?_, fun i j p l m _ e1 => ?_⟩
    · unfold L2.start
      simp only [List.length_append, List.length_map, List.length_cons, List.length_nil, List.length_replicate]
      omega
    · unfold L2.start
      match i, e with
      | 0, e => cases e; exact ⟨_, rfl, rfl⟩
      | 1, e => cases e; exact ⟨_, rfl, _, rfl, den_int.mpr rfl⟩
      | i + 2, e =>
        have e : (List.replicate n Sl.un)[i]? = some s := e
        rw [List.getElem?_replicate] at e
        split at e
        · cases e
          rename_i hi
          refine ⟨none, ?_, trivial⟩
          show (List.replicate (N.length - 2) none)[i]? = _
          rw [List.getElem?_replicate, if_pos]
          omega
        · cases e
    · match i, e1 with
      | 0, e => cases e
      | 1, e => cases e
      | i + 2, e =>
        have e : (List.replicate n Sl.un)[i]? = some (.ownK _ l) := e
        rw [List.getElem?_replicate] at e
        split at e <;> cases e
theorem law_ok {u : Wd} {k kd : Nat} {st : Stmt} {f fD : Addr} {fd fdD : FuncData} {N : List Str} {n : Nat} {m : W Bool} {rest : List Stmt} {salt : Int} {j : Nat} {p1 p2 p3 p4 p5 p6 : Pos} (wo : WOk u) (hF : Fun u.K "law" "law" st f fd) (S : FnScope N ["script"] (defScope st))
    (hmD : u.mg "_law_draw" = some (.ref fD)) (kpD : PySem.W.keepIn u.K (.ref fD) = true) (hbD : Binds u.K fdD ["script", "salt"] []) (FD : FnOk u.prog u.w u.K u.mg u.base (L2.CX u.prog u.w) kd fD fdD ["script", "salt"] (spDraw u.K)) (hkd : kd ≤ k)
    (hst : defBody st = .Assign [.Name "deal" p1] (.Call (.Name "_law_draw" p2) [.Name "script" p3, .Constant (.int salt) j p4] [] p5) p6 :: rest) (hz : 0 ≤ salt ∧ salt ≤ 1000) (hN0 : N[0]? = some ("script" : Str)) (hN1 : N[1]? = some ("deal" : Str)) (hn : N.length = n + 2)
    (hv0 : Vis (defScope st) "script") (hl1 : L2.Loc (defScope st) "deal") (hg : GlS (defScope st) "_law_draw")
    (hbody : ∀ (X : Cx) (P : Par) (Wx : WX), P.u = u → P.b = true → Dok X P Wx N (defScope st) k → TB X P Wx (.un :: .deal :: List.replicate n .un) rest m) (hm : m.wp (fun r => r = true) fun _ => False) :
    FnOk u.prog u.w u.K u.mg u.base (L2.CX u.prog u.w) (k + 1) f fd ["script"] (spLaw u.K) := by
  refine hF.okX S (fun vs H Q E h => ?_) (fun cdv A outer s H vs Q E hr h => ?_)
  · obtain ⟨a, ns, rfl, _⟩ := h
    rfl
  · obtain ⟨a, ns, rfl, hS, hl, kk⟩ := h
    let X := cxOf (L2.CX u.prog u.w) u.prog u.w u.K u.mg u.base N "law" (defScope st) f cdv A outer s H E
    have D0 : ∀ da dq H0, Dok X (parOf u true da dq H0 (fun _ => none)) (fun cls d _ H => E cls d H) N (defScope st) k := fun da dq H0 =>
      ⟨⟨rfl, rfl, rfl, rfl, rfl, rfl, rfl, wo.bl, rfl, S.nd, hr, takes_of rfl rfl rfl rfl⟩, fun _ => rfl, passes_of rfl, rfl, rfl⟩
    have c0 := (D0 0 0 H).toCok
    have A1 : PS X (.Assign [.Name "deal" p1] (.Call (.Name "_law_draw" p2) [.Name "script" p3, .Constant (.int salt) j p4] [] p5) p6) (tAsg (tCallS (spDraw u.K) (WE fun cls d _ H => E cls d H) (tCons (tVar 0) (tCons (tC (.int salt)) tNil))) (gName 1)) :=
      ps_set (i := 1) S.nd hN1 hl1 (pe_callS FD (hr.mono hkd) (gl c0 hg) hmD kpD hbD (fun σ => passAt c0.tk σ) (pa_cons (pe_var hN0 hv0) (pa_cons pe_int pa_nil)) (by decide) rfl rfl) rfl (.inl rfl)
    have A2 : PSs X rest (fun D σ H' => ∃ da dq H0, rdR (parOf u true da dq H0 (fun _ => none)) (fun cls d _ H => E cls d H) (.un :: .deal :: List.replicate n .un) m D σ H') :=
      ⟨fun pins s σ H D I ⟨da, dq, H0, q⟩ => (hbody X _ _ rfl rfl (D0 da dq H0)).run pins s σ H D I q⟩
    rw [hst]
    refine ⟨_, pss_cons A1 A2, ?_⟩
    refine ⟨_, rfl, a, ns, salt, rfl, hS, hl, hz, fun da dq H' k2 k3 h1 h2 dk => ?_⟩
    refine ⟨da, dq, H', fun _ => none, fun r => r = true, fun _ => False, ?_, hm, fun r v H2 G2 B d e => ?_, fun _ _ _ _ _ _ _ _ z => z.elim⟩
    · refine ⟨⟨fun b o z => (nomatch z), fun b o z _ => z, fun b o z => z, fun b o z n => n, fun z => ⟨dk, tabs_nil _⟩, fun b z => rfl, fun _ ps z => ⟨ps, z⟩⟩, ?_, fun i s e => ?_, fun i j p l m _ e1 => ?_⟩
      · unfold L2.start
        simp only [List.length_set, List.length_append, List.length_map, List.length_cons, List.length_nil, List.length_replicate]
        omega
      · match i, e with
        | 0, e => cases e; exact ⟨_, rfl, trivial⟩
        | 1, e =>
          cases e
          have h1 : 1 < (L2.start N [V.ref a]).length := by
            unfold L2.start
            simp only [List.length_append, List.length_map, List.length_cons, List.length_nil, List.length_replicate]
            omega
          exact ⟨_, List.getElem?_set_self h1, rfl, rfl⟩
        | i + 2, e =>
          have e : (List.replicate n Sl.un)[i]? = some s := e
          rw [List.getElem?_replicate] at e
          split at e
          · cases e
            rename_i hi
            have h2 : i + 2 < ((L2.start N [V.ref a]).set 1 (some (V.ref da))).length := by
              unfold L2.start
              simp only [List.length_set, List.length_append, List.length_map, List.length_cons, List.length_nil, List.length_replicate]
              omega
            exact ⟨_, List.getElem?_eq_getElem h2, trivial⟩
          · cases e
      · match i, e1 with
        | 0, e => cases e
        | 1, e => cases e
        | i + 2, e =>
          have e : (List.replicate n Sl.un)[i]? = some (.ownK _ l) := e
          rw [List.getElem?_replicate] at e
          split at e <;> cases e
    · have ev : v = .bl r := den_bool.mp d
      subst ev
      rw [e]
      exact kk H2
/-! ### reckoning with the mirrors -/
section
variable {α β τ ρ : Type}
theorem need_pure {p : Prop} {a : α} (h : p) : W.need p a = W.pure a := W.ext' fun Q E => ⟨fun q => q.2, fun q => ⟨h, q⟩⟩
theorem forW_inv {f : α → τ → W τ} {l : List α} {t : τ} {Q : τ → Prop} {E : Ex → Prop} (I : τ → Prop) (h0 : I t) (hs : ∀ x ∈ l, ∀ t, I t → (f x t).wp I E) (hq : ∀ t, I t → Q t) : (W.forW l f t).wp Q E := by
  induction l generalizing t with
  | nil => exact hq t h0
  | cons x l ih =>
    show ((f x t).bind fun t' => W.forW l f t').wp Q E
    exact (f x t).mono (fun t' i => ih i fun y hy => hs y (List.mem_cons_of_mem _ hy)) (fun e z => z) (hs x (List.mem_cons_self ..) t h0)
theorem sz_of {n m : Nat} {x : Int} (h : x.natAbs < 2 ^ n) (hnm : n ≤ m) : Sz m x := Nat.lt_of_lt_of_le h (Nat.pow_le_pow_right (by decide) hnm)
end
end Z

set_option autoImplicit false
set_option Elab.async false
set_option linter.all false
set_option maxRecDepth 100000
set_option maxHeartbeats 2000003
namespace Z
open PySem PySem.Spec L2
open Py (toD)
section
variable {α β γ δ τ ρ μ : Type} [Py α] [Py β] [Py γ] [Py δ] [Py ρ]
variable {X : Cx} {P : Par} {Wx : WX} {Γ : List Sl} {N : List Str} {sc : Scope} {k : Nat} {a b c e tg iter elt : Expr} {pos : Pos} {es ifs : List Expr} {st : Stmt} {sts rest body : List Stmt}
theorem walk_zipT {K : PySem.W.Frag} {a b : Addr} {xs ys : List V} {n : Nat} (hn : n = min xs.length ys.length) : Walk (RZ.ItzT K a b) n (fun H => SqT K H a xs ∧ SqT K H b ys) (YPair (fun i => xs[i]?) (fun i => ys[i]?)) := by
  subst hn
  refine ⟨fun i _ hi q => ?_, fun _ q => ⟨xs, ys, q.1, q.2, by omega⟩, fun i H v H' _ q y => ?_⟩
  · have h1 : i < xs.length := by omega
    have h2 : i < ys.length := by omega
    exact ⟨xs, ys, xs[i], ys[i], q.1, q.2, by simp [h1], by simp [h2]⟩
  · obtain ⟨T, x, z, h1, h2, h3, h4, h5⟩ := y
    exact ⟨T, x, z, h1, h2, h3, h4 xs q.1, h5 ys q.2⟩
/-- the items of a zip, whatever the walk is -/
theorem zip_ok {J : It} {n : Nat} {Gd : Hp → Prop} {vs ws : List V} {x : List D} {y : List D} {G2 : Hp} (hn : n = min vs.length ws.length) (wk : Walk J n Gd (YPair (fun i => vs[i]?) (fun i => ws[i]?)))
    (t : DenL G2 x vs) (t' : DenL G2 y ws) (hl : x.length ≤ 16777216) (sq : ∀ G3 H3, RelB P G3 H3 → Same G2 G3 → Gd H3) : ItOk P J G2 ((x.zip y).map fun p => .tup [p.1, p.2]) := fun G3 H3 R3 s3 => by
  have l1 : vs.length = x.length := t.length
  have l2 : ws.length = y.length := t'.length
  have hlen : ((x.zip y).map fun p => D.tup [p.1, p.2]).length = n := by rw [List.length_map, List.length_zip, hn, l1, l2]
  refine ⟨fun i z hz => ?_, by rw [hlen]; exact wk.stops H3 (sq _ _ R3 s3), by rw [hlen]; omega⟩
  have hi : i < n := by
    rw [← hlen]
    exact (List.getElem?_eq_some_iff.mp hz).1
  have hx : i < x.length := by omega
  have hy : i < y.length := by omega
  refine ⟨wk.goes i H3 hi (sq _ _ R3 s3), fun v' H' hyl => ?_⟩
  obtain ⟨G', g4, d4⟩ := YPair.ok R3 (DenL.mono s3 _ _ t) (DenL.mono s3 _ _ t') (x := x[i]) (y := y[i]) (List.getElem?_eq_getElem hx) (List.getElem?_eq_getElem hy) (wk.yields i H3 v' H' hi (sq _ _ R3 s3) hyl)
  refine ⟨G', g4, ?_⟩
  have ez : (x.zip y)[i]? = some (x[i], y[i]) := by
    rw [List.getElem?_eq_getElem (by rw [List.length_zip]; omega), List.getElem_zip]
  rw [List.getElem?_map, ez] at hz
  cases hz
  exact d4
theorem ei_zipT {m : W (Tup α)} {n : W (Tup β)} {p tpos : Pos} {elts : List Expr} {kk' : Nat} (cc : Cok X P Wx N sc k) (ha : EX X P Wx Γ a m) (hb : EX X P Wx Γ b n) (hg : GlS sc "zip" := by rfl) (hs : starEach [a, b] X.env = (false, eval a X.env) :: starEach [b] X.env := by rfl) (hs2 : starEach [b] X.env = (false, eval b X.env) :: starEach [] X.env := by rfl) :
    EI X P Wx Γ (.Tuple elts kk' tpos) (.Call (.Name "zip" p) [a, b] [] pos) (W.b2 m n fun x y => W.pure (x.l.zip y.l)) :=
  PI.imp (RZ.pi_zipA (gl cc hg) (blt cc) (pa_cons ha (pa_cons hb pa_nil hs2) hs) hs (by rw [hs2]; rfl)) fun σ H Q' h => by
    obtain ⟨G, Q, E, R, w, kk, kx⟩ := h
    refine ⟨G, _, E, R, w, fun v H1 G1 x g1 d1 w1 => ?_, kx⟩
    have R1 := R.grow g1
    refine ⟨G1, _, E, R1, w1, fun u H2 G2 y g2 d2 w2 => ?_, kx⟩
    have R2 := R1.grow g2
    have g12 := g1.trans g2 (DealAt.there R1.dk)
    obtain ⟨p, vs, rfl, g, t, zl⟩ := den_tup.mp (Den.mono g2.g _ _ d1)
    obtain ⟨q, ws, rfl, g', t', zl'⟩ := den_tup.mp d2
    have e : ((x.l.zip y.l).map toD) = (((x.l.map toD).zip (y.l.map toD)).map fun p : D × D => D.tup [p.1, p.2]) := by
      rw [List.zip_map, List.map_map]
      rfl
    refine ⟨p, q, vs, ws, rfl, .inr ⟨.inl (.inl (R2.sub _ _ g)), .inl (.inl (R2.sub _ _ g')), kk _ H2 G2 (x.l.zip y.l) g12 ?_ w2⟩⟩
    rw [e]
    exact zip_ok rfl (walk_zipT rfl) t t' (by simpa using zl) fun G3 H3 R3 s3 => ⟨.inl (.inl (R3.sub _ _ (s3 _ _ g))), .inl (.inl (R3.sub _ _ (s3 _ _ g')))⟩
/-- zip of two tuples or of two lists of any values -/
def zipD : D → D → W (List (D × D))
  | .tup x, .tup y => W.pure (x.zip y)
  | .lst x, .lst y => W.pure (x.zip y)
  | _, _ => W.stuck
theorem ei_zipD {m : W D} {n : W D} {p tpos : Pos} {elts : List Expr} {kk' : Nat} (cc : Cok X P Wx N sc k) (ha : EX X P Wx Γ a m) (hb : EX X P Wx Γ b n) (hg : GlS sc "zip" := by rfl) (hs : starEach [a, b] X.env = (false, eval a X.env) :: starEach [b] X.env := by rfl) (hs2 : starEach [b] X.env = (false, eval b X.env) :: starEach [] X.env := by rfl) :
    EI X P Wx Γ (.Tuple elts kk' tpos) (.Call (.Name "zip" p) [a, b] [] pos) (W.b2 m n zipD) :=
  PI.imp (RZ.pi_zipA (gl cc hg) (blt cc) (pa_cons ha (pa_cons hb pa_nil hs2) hs) hs (by rw [hs2]; rfl)) fun σ H Q' h => by
    obtain ⟨G, Q, E, R, w, kk, kx⟩ := h
    refine ⟨G, _, E, R, w, fun v H1 G1 x g1 d1 w1 => ?_, kx⟩
    have R1 := R.grow g1
    refine ⟨G1, _, E, R1, w1, fun u H2 G2 y g2 d2 w2 => ?_, kx⟩
    have R2 := R1.grow g2
    have g12 := g1.trans g2 (DealAt.there R1.dk)
    replace d1 : Den G2 x v := Den.mono g2.g _ _ d1
    replace d2 : Den G2 y u := d2
    have e : ∀ l m : List D, ((l.zip m).map toD) = ((l.zip m).map fun p : D × D => D.tup [p.1, p.2]) := fun l m => List.map_congr_left fun _ _ => rfl
    cases x <;> cases y <;> first | exact w2.elim | skip
    · rename_i x y
      have w2 : Q (x.zip y) := w2
      simp only [Den] at d1 d2
      obtain ⟨p, vs, rfl, g, t, zl⟩ := d1
      obtain ⟨q, ws, rfl, g', t', zl'⟩ := d2
      refine ⟨p, q, vs, ws, rfl, .inr ⟨.inl (.inl (R2.sub _ _ g)), .inl (.inl (R2.sub _ _ g')), kk _ H2 G2 (x.zip y) g12 ?_ w2⟩⟩
      rw [e]
      exact zip_ok rfl (walk_zipT rfl) t t' zl fun G3 H3 R3 s3 => ⟨.inl (.inl (R3.sub _ _ (s3 _ _ g))), .inl (.inl (R3.sub _ _ (s3 _ _ g')))⟩
    · rename_i x y
      have w2 : Q (x.zip y) := w2
      simp only [Den] at d1 d2
      obtain ⟨p, vs, rfl, g, t, zl⟩ := d1
      obtain ⟨q, ws, rfl, g', t', zl'⟩ := d2
      refine ⟨p, q, vs, ws, rfl, .inl ⟨.inl (.inl (R2.sub _ _ g)), .inl (.inl (R2.sub _ _ g')), kk _ H2 G2 (x.zip y) g12 ?_ w2⟩⟩
      rw [e]
      exact zip_ok rfl (walk_zip (K := X.K) (a := p) (b := q) rfl) t t' zl fun G3 H3 R3 s3 => ⟨.inl (.inl (R3.sub _ _ (s3 _ _ g))), .inl (.inl (R3.sub _ _ (s3 _ _ g')))⟩
end
end Z

set_option autoImplicit false
set_option Elab.async false
set_option linter.all false
set_option maxRecDepth 100000
set_option maxHeartbeats 1000001
set_option exponentiation.threshold 10000
namespace K
open PySem PySem.Spec L2 Z
open Py (toD)
/-- any item of the list -/
def ofW {α : Type} (l : List α) : W α := ⟨fun Q _ => (l ≠ [] ∧ l.length ≤ 1000) ∧ ∀ x ∈ l, Q x, fun h _ q => ⟨q.1, fun x hx => h x (q.2 x hx)⟩⟩
section
variable {α β γ δ : Type}
@[simp] theorem b1_pure (a : α) (f : α → W β) : W.b1 (W.pure a) f = f a := rfl
@[simp] theorem b2_pure (a : α) (b : β) (f : α → β → W γ) : W.b2 (W.pure a) (W.pure b) f = f a b := rfl
@[simp] theorem b3_pure (a : α) (b : β) (c : γ) (f : α → β → γ → W δ) : W.b3 (W.pure a) (W.pure b) (W.pure c) f = f a b c := rfl
@[simp] theorem ite_pure (c : Bool) (a b : W α) : W.ite (W.pure c) a b = bif c then a else b := rfl
@[simp] theorem and_pure (c : Bool) (d : W Bool) : W.and (W.pure c) d = bif c then d else W.pure false := rfl
@[simp] theorem or_pure (c : Bool) (d : W Bool) : W.or (W.pure c) d = bif c then W.pure true else d := rfl
@[simp] theorem not_pure (c : Bool) : W.not (W.pure c) = W.pure (!c) := rfl
theorem thenR_dn {τ ρ : Type} (t : τ) (f : τ → W ρ) : W.thenR (W.pure (.dn t) : W (Lp τ ρ)) f = f t := rfl
theorem thenR_rt {τ ρ : Type} (r : ρ) (f : τ → W ρ) : W.thenR (W.pure (.rt r) : W (Lp τ ρ)) f = W.pure r := rfl
theorem forF_nil {τ ρ : Type} (f : α → τ → W (Fl τ τ ρ)) (t : τ) : W.forF [] f t = W.pure (.dn t) := rfl
theorem forF_nx {τ ρ : Type} {f : α → τ → W (Fl τ τ ρ)} {x : α} {l : List α} {t t' : τ} (h : f x t = W.pure (.nx t')) : W.forF (x :: l) f t = W.forF l f t' := by
  show (f x t).bind _ = _
  rw [h]
  rfl
theorem forF_rt {τ ρ : Type} {f : α → τ → W (Fl τ τ ρ)} {x : α} {l : List α} {t : τ} {r : ρ} (h : f x t = W.pure (.rt r)) : W.forF (x :: l) f t = W.pure (.rt r) := by
  show (f x t).bind _ = _
  rw [h]
  rfl
theorem sz_up {n m : Nat} {x : Int} (h : Sz n x) (hnm : n ≤ m) : Sz m x := Nat.lt_of_lt_of_le h (Nat.pow_le_pow_right (by decide) hnm)
theorem mod_pos {a b : Int} (h : 0 < b) : modW a b = W.pure (a % b) := need_pure h
theorem cast_pure {α : Type} [Py α] (inj : ∀ x y : α, toD x = toD y → x = y) (y : α) : castW (toD y) = W.pure y :=
  W.ext' fun Q E => ⟨fun ⟨z, e, q⟩ => (inj z y e) ▸ q, fun q => ⟨y, rfl, q⟩⟩
theorem inj_int : ∀ x y : Int, toD x = toD y → x = y := fun x y h => by
  have h : D.int x = D.int y := h
  exact D.int.inj h
theorem cast_int (i : Int) : castW (α := Int) (.int i) = W.pure i := cast_pure inj_int i
theorem filt_all {α β : Type} {f : α → W β} {g : α → β} {l : List α} (h : ∀ x ∈ l, f x = W.pure (g x)) : W.filterW (fun x => nx (W.pure true)) (fun x => nx (f x)) l = W.pure (l.map g) := by
  have := W.filterW_pure (fun x : α => nx (W.pure true)) (fun x => nx (f x)) (fun _ => true) g l (fun _ _ => rfl) (fun x hx _ => by rw [h x hx]; rfl)
  rw [this]
  congr 2
  exact List.filter_eq_self.mpr fun _ _ => rfl
theorem filt_if {α β : Type} {p : α → W Bool} {q : α → Bool} {f : α → W β} {g : α → β} {l : List α} (hp : ∀ x ∈ l, p x = W.pure (q x)) (h : ∀ x ∈ l, q x = true → f x = W.pure (g x)) : W.filterW (fun x => nx (p x)) (fun x => nx (f x)) l = W.pure ((l.filter q).map g) :=
  W.filterW_pure (fun x => nx (p x)) (fun x => nx (f x)) q g l (fun x hx => by rw [hp x hx]; rfl) (fun x hx hq => by rw [h x hx hq]; rfl)
theorem flat_nobj {d : D} (h : flat d = true) : isObj d = false := by
  cases d <;> first | rfl | (simp [flat] at h)
theorem flatL_mem {l : List D} (h : flatL l = true) {d : D} (hd : d ∈ l) : flat d = true := by
  induction l with
  | nil => cases hd
  | cons x l ih =>
    simp only [flatL, Bool.and_eq_true] at h
    rcases List.mem_cons.mp hd with e | e
    · rw [e]; exact h.1
    · exact ih h.2 e
theorem inj_D : ∀ x y : D, toD x = toD y → x = y := fun x y h => h
theorem inj_tup {α : Type} [Py α] (inj : ∀ x y : α, toD x = toD y → x = y) : ∀ x y : Tup α, toD x = toD y → x = y := fun x y h => by
  have h : D.tup (x.l.map toD) = D.tup (y.l.map toD) := h
  have h := D.tup.inj h
  obtain ⟨x⟩ := x
  obtain ⟨y⟩ := y
  have key : ∀ (x y : List α), x.map toD = y.map toD → x = y := fun x => by
    induction x with
    | nil => intro y h; cases y with | nil => rfl | cons _ _ => simp at h
    | cons a x ih =>
      intro y h
      cases y with
      | nil => simp at h
      | cons b y =>
        simp only [List.map_cons, List.cons.injEq] at h
        rw [inj a b h.1, ih y h.2]
  rw [key x y h]
theorem inj_pair {α β : Type} [Py α] [Py β] (ia : ∀ x y : α, toD x = toD y → x = y) (ib : ∀ x y : β, toD x = toD y → x = y) : ∀ x y : α × β, toD x = toD y → x = y := fun x y h => by
  have h : D.tup [toD x.1, toD x.2] = D.tup [toD y.1, toD y.2] := h
  have h := D.tup.inj h
  simp only [List.cons.injEq, and_true] at h
  exact Prod.ext (ia _ _ h.1) (ib _ _ h.2)
theorem cast_tupD (l : List D) : castW (α := Tup D) (.tup l) = W.pure ⟨l⟩ := by
  have := cast_pure (inj_tup inj_D) (⟨l⟩ : Tup D)
  rw [show toD (⟨l⟩ : Tup D) = .tup l from congrArg D.tup (map_id_D l)] at this
  exact this
theorem cast_DD (a b : D) : castW (α := D × D) (.tup [a, b]) = W.pure (a, b) := cast_pure (inj_pair inj_D inj_D) (a, b)
theorem isi_pure {α : Type} [Py α] {x : α} {f : D → Bool} (h : isObj (toD x) = false) : isiW f x = W.pure (f (toD x)) := need_pure h
theorem ixW_nat {τ : Type} {l : List τ} {i : Nat} {x : τ} (h : l[i]? = some x) : ixW l (i : Int) = W.pure x := by
  have hi : i < l.length := (List.getElem?_eq_some_iff.mp h).1
  have e : L2.atI l (i : Int) = some x := by
    unfold L2.atI L2.ixN
    rw [if_pos (by omega), if_pos (by omega)]
    simpa using h
  unfold ixW
  rw [e]
theorem rngW_ok {n : Nat} (h : n ≤ 1000000) : rngW 0 (n : Int) = W.pure ((List.range n).map fun (i : Nat) => (i : Int)) := by
  unfold rngW
  rw [need_pure (by refine ⟨by decide, by decide, by omega, by omega⟩)]
  congr 1
  unfold rng
  rw [show ((n : Int) - 0).toNat = n by omega]
  exact List.map_congr_left fun i _ => by omega
theorem mem_rng {n : Nat} {x : Int} (h : x ∈ (List.range n).map fun (i : Nat) => (i : Int)) : ∃ i : Nat, i < n ∧ x = i := by
  obtain ⟨i, hi, e⟩ := List.mem_map.mp h
  exact ⟨i, List.mem_range.mp hi, e.symm⟩
theorem cut_from {τ : Type} (l : List τ) (i : Nat) : cut l (some ((i : Int) + 1)) none = l.drop (i + 1) := by
  unfold cut
  rw [show ((i : Int) + 1) = ((i + 1 : Nat) : Int) by omega, HT.sIx_nat, HT.sIx_none]
  by_cases h : i + 1 ≤ l.length
  · rw [Nat.min_eq_left h]
    exact List.take_of_length_le (by rw [List.length_drop]; exact Nat.le_refl _)
  · rw [Nat.min_eq_right (by omega), List.drop_length, List.drop_eq_nil_of_le (by omega), List.take_nil]
theorem eqD_int (x y : Int) : eqD (.int x) (.int y) = decide (x = y) := by
  show (x == y) = _
  rw [Bool.eq_iff_iff]
  simp
theorem forF_all {α : Type} {f : α → Unit → W (Fl Unit Unit Bool)} {p : α → Bool} {l : List α} (h : ∀ x ∈ l, f x () = W.pure (if p x = true then .nx () else .rt false)) : W.forF l f () = W.pure (if l.all p = true then .dn () else .rt false) := by
  induction l with
  | nil => rfl
  | cons x l ih =>
    have hx := h x (List.mem_cons_self ..)
    have il := ih fun y hy => h y (List.mem_cons_of_mem _ hy)
    cases q : p x with
    | true =>
      rw [q] at hx
      rw [forF_nx hx, il, List.all_cons, q, Bool.true_and]
    | false =>
      rw [q] at hx
      rw [forF_rt hx, List.all_cons, q]
      rfl
def okS : D → Bool | .int _ => true | .bl _ => true | .non => true | _ => false
theorem okS_flat {d : D} (h : okS d = true) : flat d = true := by cases d <;> first | rfl | cases h
theorem eqOk_lst2 {l : List D} (h : ∀ x ∈ l, okS x = true) (hl : l.length ≤ 2) : eqOk (.lst l) = true := by
  match l, hl with
  | [], _ => decide
  | [a], _ =>
    have ha := h a (by simp)
    cases a <;> first | (cases ha; done) | (simp [eqOk, flat, flatL, pd, pdL, SeqAt.shaped, PyData.canLay0, PyData.canLayAll0, PyData.depth, PyData.depthAll]; done)
  | [a, b], _ =>
    have ha := h a (by simp)
    have hb := h b (by simp)
    cases a <;> first | (cases ha; done) | (cases b <;> first | (cases hb; done) | (simp [eqOk, flat, flatL, pd, pdL, SeqAt.shaped, PyData.canLay0, PyData.canLayAll0, PyData.depth, PyData.depthAll]; done))
theorem eqD_nil (l : List D) : eqD (.lst l) (.lst []) = l.isEmpty := by cases l <;> rfl
theorem eqD_nilT (l : List D) : eqD (.tup l) (.tup []) = l.isEmpty := by cases l <;> rfl
theorem filt_id {α : Type} {p : α → W Bool} {q : α → Bool} {l : List α} (hp : ∀ x ∈ l, p x = W.pure (q x)) : W.filterW (fun x => nx (p x)) (fun x => nx (W.pure x)) l = W.pure (l.filter q) := by
  rw [filt_if (f := fun x => W.pure x) (g := id) hp fun _ _ _ => rfl, List.map_id]
theorem enumL_all {τ : Type} (l : List τ) (p : Nat → Bool) : (enumL l).all (fun x => p x.1.toNat) = (List.range l.length).all p := by
  rw [Bool.eq_iff_iff, List.all_eq_true, List.all_eq_true]
  constructor
  · intro h i hi
    have hi := List.mem_range.mp hi
    have := h ((i : Int), l[i]) (List.mem_of_getElem? (enumL_get l i hi))
    simpa using this
  · intro h x hx
    obtain ⟨i, hi⟩ := List.getElem?_of_mem hx
    have hl : i < l.length := by
      have := (List.getElem?_eq_some_iff.mp hi).1
      rwa [enumL_length] at this
    rw [enumL_get l i hl] at hi
    cases hi
    simpa using h i (List.mem_range.mpr hl)
theorem ints_shaped (l : List Int) : PyData.canLayAll0 (pdL (l.map toD)) = true ∧ PyData.depthAll (pdL (l.map toD)) ≤ 4 ∧ flatL (l.map toD) = true := by
  induction l with
  | nil => exact ⟨by simp [pdL, PyData.canLayAll0], by simp [pdL, PyData.depthAll], rfl⟩
  | cons r l ih =>
    obtain ⟨h1, h2, h3⟩ := ih
    have e : toD r = D.int r := rfl
    refine ⟨?_, ?_, ?_⟩
    · simp [e, pdL, pd, PyData.canLayAll0, PyData.canLay0, h1]
    · simp [e, pdL, pd, PyData.depthAll, PyData.depth] at h2 ⊢
      omega
    · simp [e, flat, flatL, h3]
theorem eqOk_ints (l : List Int) : eqOk (.lst (l.map toD)) = true := by
  obtain ⟨h1, h2, h3⟩ := ints_shaped l
  simp only [eqOk, flat, h3, pd, SeqAt.shaped, PyData.canLay0, h1, PyData.depth, Bool.true_and, Bool.and_eq_true, decide_eq_true_eq, true_and]
  omega
theorem ne_ints (l : List Int) : neWD l ([] : List Int) = W.pure (!l.isEmpty) := by
  refine (need_pure ⟨eqOk_ints l, eqOk_ints []⟩).trans ?_
  show W.pure (!eqD (.lst (l.map toD)) (.lst [])) = _
  rw [eqD_nil]
  cases l <;> rfl
theorem eq_ints (l : List Int) : eqWD l ([] : List Int) = W.pure l.isEmpty := by
  refine (need_pure ⟨eqOk_ints l, eqOk_ints []⟩).trans ?_
  show W.pure (eqD (.lst (l.map toD)) (.lst [])) = _
  rw [eqD_nil]
  cases l <;> rfl
theorem sz_lt {x : Int} (h0 : 0 < x) (h : x < 2 ^ 200) {n : Nat} (hn : 200 ≤ n) : Sz n x :=
  sz_up (n := 200) (by unfold Sz; omega) hn
theorem bindE (m : W α) (f : α → W β) (Q E) : (m.bind f).wp Q E = m.wp (fun a => (f a).wp Q E) E := rfl
theorem b1E (m : W α) (f : α → W β) (Q E) : (W.b1 m f).wp Q E = m.wp (fun a => (f a).wp Q E) E := rfl
theorem b2E (m : W α) (n : W β) (f : α → β → W γ) (Q E) : (W.b2 m n f).wp Q E = m.wp (fun a => n.wp (fun b => (f a b).wp Q E) E) E := rfl
theorem pureE (a : α) (Q : α → Prop) (E) : (W.pure a).wp Q E = Q a := rfl
theorem needE (p : Prop) (a : α) (Q : α → Prop) (E) : (W.need p a).wp Q E = (p ∧ Q a) := rfl
theorem anyE (b : Int) (Q : Int → Prop) (E) : (anyW b).wp Q E = ((0 < b ∧ Sz 9000 b) ∧ ∀ r, 0 ≤ r → r < b → Q r) := rfl
theorem ofE (l : List α) (Q : α → Prop) (E) : (ofW l).wp Q E = ((l ≠ [] ∧ l.length ≤ 1000) ∧ ∀ x ∈ l, Q x) := rfl
theorem iteE (c : Bool) (a b : W α) (Q E) : (W.ite (W.pure c) a b).wp Q E = if c = true then a.wp Q E else b.wp Q E := by cases c <;> rfl
theorem filt_wp {f : α → W β} {P : β → Prop} {l : List α} {Q : List β → Prop} {E} (h : ∀ x ∈ l, (f x).wp P fun _ => False) (hQ : ∀ ys : List β, ys.length = l.length → (∀ y ∈ ys, P y) → Q ys) : (W.filterW (fun x => nx (W.pure true)) (fun x => nx (f x)) l).wp Q E := by
  induction l generalizing Q with
  | nil => exact hQ [] rfl (fun y hy => by cases hy)
  | cons x l ih =>
    show (f x).wp (fun y => (W.filterW (fun x => nx (W.pure true)) (fun x => nx (f x)) l).wp (fun ys => Q (y :: ys)) E) (fun _ => False)
    refine (f x).mono (fun y hy => ?_) (fun e z => z) (h x (List.mem_cons_self ..))
    refine ih (fun x hx => h x (List.mem_cons_of_mem _ hx)) fun ys hl hp => hQ _ (by simp [hl]) fun z hz => ?_
    rcases List.mem_cons.mp hz with q | q
    · rw [q]
      exact hy
    · exact hp z q
theorem rngE (n : Int) (h0 : 0 ≤ n) (h : n ≤ 1000000) : rngW 0 n = W.pure ((List.range n.toNat).map fun (i : Nat) => (i : Int)) := by
  have := rngW_ok (n := n.toNat) (by omega)
  rwa [show ((n.toNat : Nat) : Int) = n by omega] at this
theorem powE {a b : Int} (h : 0 ≤ b ∧ b ≤ 1000000 ∧ a.natAbs < 2 ^ 64) : powW a b = W.pure (a ^ b.toNat) := need_pure h
theorem sz_i {x : Int} (h0 : 0 ≤ x) (h : x < 2 ^ 200) {n : Nat} (hn : 200 ≤ n) : Sz n x := sz_up (n := 200) (by unfold Sz; omega) hn
theorem eq_bl (x y : Bool) : eqWD (toD x : D) (toD y : D) = W.pure (decide (x = y)) := by
  refine (need_pure ⟨by cases x <;> simp [eqOk, flat, flatL, pd, pdL, SeqAt.shaped, PyData.canLay0, PyData.canLayAll0, PyData.depth, PyData.depthAll, toD], by cases y <;> simp [eqOk, flat, flatL, pd, pdL, SeqAt.shaped, PyData.canLay0, PyData.canLayAll0, PyData.depth, PyData.depthAll, toD]⟩).trans ?_
  cases x <;> cases y <;> rfl
theorem mem_cut {τ : Type} {l : List τ} {lo hi : Option Int} {x : τ} (h : x ∈ cut l lo hi) : x ∈ l := List.mem_of_mem_drop (List.mem_of_mem_take h)
theorem forW_pre {α τ : Type} {f : α → τ → W τ} {Q : τ → Prop} {E : Ex → Prop} (I : List α → τ → Prop) : ∀ (l A : List α) (t : τ), I A t → (∀ A' x B t, A ++ l = A' ++ x :: B → I A' t → (f x t).wp (I (A' ++ [x])) E) → (∀ t, I (A ++ l) t → Q t) → (W.forW l f t).wp Q E
  | [], A, t, h0, _, hq => hq t (by rw [List.append_nil]; exact h0)
  | x :: l, A, t, h0, hs, hq => by
    show ((f x t).bind fun t' => W.forW l f t').wp Q E
    refine (f x t).mono (fun t' i => ?_) (fun e z => z) (hs A x l t rfl h0)
    have e : A ++ x :: l = (A ++ [x]) ++ l := by simp
    rw [e] at hs hq
    exact forW_pre I l (A ++ [x]) t' i hs hq
theorem cut_upto {τ : Type} (l : List τ) {k : Nat} (h : k ≤ l.length) : cut l none (some (k : Int)) = l.take k := by
  unfold cut
  rw [HT.sIx_nat, HT.sIx_none, Nat.min_eq_left h, List.drop_zero, Nat.sub_zero]
theorem bind_mono {α β : Type} {m : W α} {f : α → W β} {Q : β → Prop} {E} (P : α → Prop) (h : m.wp P E) (k : ∀ a, P a → (f a).wp Q E) : (m.bind f).wp Q E := m.mono k (fun _ z => z) h
theorem ix_at {τ : Type} {l : List τ} {i : Nat} (h : i < l.length) : ixW l (i : Int) = W.pure l[i] := ixW_nat (List.getElem?_eq_getElem h)
theorem ix_last {τ : Type} (l : List τ) (q : τ) : ixW (l ++ [q]) (-1) = W.pure q := by
  have e : L2.atI (l ++ [q]) (-1) = some q := by
    unfold L2.atI L2.ixN
    rw [if_neg (by omega), if_pos (by simp; omega)]
    simp [show (-1 + ((l.length : Int) + 1)).toNat = l.length by omega]
  unfold ixW
  rw [e]
theorem set_last {τ : Type} (l : List τ) (q a : τ) : setW (l ++ [q]) (-1) a = W.pure (l ++ [a]) := by
  have e : L2.ixN (l ++ [q]).length (-1) = some l.length := by
    unfold L2.ixN
    rw [if_neg (by omega), if_pos (by simp; omega)]
    simp
    omega
  unfold setW
  rw [e]
  simp
theorem forF_wp {α τ ρ : Type} {f : α → τ → W (Fl τ τ ρ)} {E : Ex → Prop} (I : τ → Prop) : ∀ {l : List α} {t : τ}, I t → (∀ x ∈ l, ∀ t, I t → (f x t).wp (fun z => ∃ t', z = .nx t' ∧ I t') E) → (W.forF l f t).wp (fun z => ∃ t', z = .dn t' ∧ I t') E
  | [], t, h0, _ => ⟨t, rfl, h0⟩
  | x :: l, t, h0, hs => by
    show ((f x t).bind _).wp _ E
    refine (f x t).mono (fun z hz => ?_) (fun e z => z) (hs x (List.mem_cons_self ..) t h0)
    obtain ⟨t', rfl, i⟩ := hz
    exact forF_wp I i fun y hy => hs y (List.mem_cons_of_mem _ hy)
theorem eqv_ints : ∀ l : List Int, PyData.eqvAll (pdL (l.map toD)) (pdL (l.map toD)) = true
  | [] => by simp [pdL, PyData.eqvAll]
  | x :: l => by
    have e : PyData.eqv (pd (toD x)) (pd (toD x)) = true := (eqD_int x x).trans (by simp)
    show PyData.eqvAll (pd (toD x) :: pdL (l.map toD)) (pd (toD x) :: pdL (l.map toD)) = true
    rw [PyData.eqvAll, e, eqv_ints l]
    rfl
theorem ne_self (l : List Int) : neWD l l = W.pure false := by
  refine (need_pure ⟨eqOk_ints l, eqOk_ints l⟩).trans ?_
  have : eqD (toD l) (toD l) = true := by
    show PyData.eqv (.list (pdL (l.map toD))) (.list (pdL (l.map toD))) = true
    rw [PyData.eqv]
    exact eqv_ints l
  rw [this]
  rfl
theorem forF_wp1 {α τ ρ : Type} {f : α → τ → W (Fl τ τ ρ)} {E : Ex → Prop} (I : τ → Prop) {l : List α} {t : τ} (hl : l ≠ []) (hs : ∀ x ∈ l, ∀ t, (f x t).wp (fun z => ∃ t', z = .nx t' ∧ I t') E) : (W.forF l f t).wp (fun z => ∃ t', z = .dn t' ∧ I t') E := by
  match l, hl with
  | x :: l, _ =>
    show ((f x t).bind _).wp _ E
    refine (f x t).mono (fun z hz => ?_) (fun e z => z) (hs x (List.mem_cons_self ..) t)
    obtain ⟨t', rfl, i⟩ := hz
    exact forF_wp I i fun y hy t _ => hs y (List.mem_cons_of_mem _ hy) t
theorem flatL_of : ∀ {l : List D}, (∀ d ∈ l, flat d = true) → flatL l = true
  | [], _ => rfl
  | d :: l, h => by
    unfold flatL
    rw [h d (List.mem_cons_self ..), flatL_of fun x hx => h x (List.mem_cons_of_mem _ hx)]
    rfl
theorem sz_add {n : Nat} {a b : Int} (ha : Sz n a) (hb : Sz n b) (c : Int) (hc : c = a + b ∨ c = a - b ∨ c = -a) : Sz (n + 1) c := by
  unfold Sz at *
  rw [Nat.pow_succ]
  omega
theorem sz_mul2 {n : Nat} {a : Int} (ha : Sz n a) (k : Int) (hk : k.natAbs ≤ 4) : Sz (n + 2) (a * k) := by
  unfold Sz at *
  rw [Int.natAbs_mul, Nat.pow_succ, Nat.pow_succ]
  have := Nat.mul_le_mul (Nat.le_of_lt_succ (Nat.lt_succ_of_le (Nat.le_refl a.natAbs))) hk
  omega
end
end K

set_option autoImplicit false
set_option Elab.async false
set_option linter.all false
set_option maxRecDepth 100000
set_option maxHeartbeats 1000001
set_option exponentiation.threshold 10000
namespace K
open PySem PySem.Spec L2 Z
open Py (toD)
/-- a run whose numbers are not too great -/
abbrev FR := Tup (Int × Int) × Int
def RunOk (r : Int × Int) : Prop := 0 < r.1 ∧ 0 < r.2 ∧ Sz 9000 r.1 ∧ Sz 9000 r.2
theorem RunOk.mul {r : Int × Int} (h : RunOk r) : mulW r.1 r.2 = W.pure (r.1 * r.2) := need_pure ⟨sz_up h.2.2.1 (by decide), sz_up h.2.2.2 (by decide)⟩
def within : List (Int × Int) → Int → Int → Bool
  | [], e, c => if e = 0 then decide (c = 0) else decide (c % e = 0)
  | r :: l, e, c => if c < r.1 * r.2 then decide (c % r.1 = 0) else within l e (c - r.1 * r.2)
theorem RunOk.pos {r : Int × Int} (h : RunOk r) : 0 < r.1 * r.2 := Int.mul_pos h.1 h.2.1
theorem within_zero : ∀ {l : List (Int × Int)} {e : Int}, (∀ r ∈ l, RunOk r) → within l e 0 = true
  | [], e, _ => by unfold within; split <;> simp
  | r :: l, e, h => by
    unfold within
    rw [if_pos (h r (List.mem_cons_self ..)).pos]
    simp
def headOf : List (Int × Int) → Int → Int | [], e => e | r :: _, _ => r.1
def fallP : List (Int × Int) → Int → Bool
  | [], _ => true
  | r :: l, e => decide (headOf l e < r.1) && within l e r.1 && fallP l e
theorem cast_runs (l : List (Int × Int)) : castW (α := Tup (Int × Int)) (.tup (l.map toD)) = W.pure ⟨l⟩ := cast_pure (inj_tup (inj_pair inj_int inj_int)) (⟨l⟩ : Tup (Int × Int))
theorem runs_shaped (l : List (Int × Int)) : PyData.canLayAll0 (pdL (l.map toD)) = true ∧ PyData.depthAll (pdL (l.map toD)) ≤ 4 ∧ flatL (l.map toD) = true := by
  induction l with
  | nil => exact ⟨by simp [pdL, PyData.canLayAll0], by simp [pdL, PyData.depthAll], rfl⟩
  | cons r l ih =>
    obtain ⟨h1, h2, h3⟩ := ih
    have e : toD r = D.tup [.int r.1, .int r.2] := rfl
    refine ⟨?_, ?_, ?_⟩
    · simp [e, pdL, pd, PyData.canLayAll0, PyData.canLay0, h1]
    · simp [e, pdL, pd, PyData.depthAll, PyData.depth] at h2 ⊢
      omega
    · simp [e, flat, flatL, h3]
theorem eqOk_runs (l : List (Int × Int)) : eqOk (.tup (l.map toD)) = true := by
  obtain ⟨h1, h2, h3⟩ := runs_shaped l
  simp only [eqOk, flat, h3, pd, SeqAt.shaped, PyData.canLay0, h1, PyData.depth, Bool.true_and, Bool.and_eq_true, decide_eq_true_eq, true_and]
  omega
/-- a falling row whose numbers are not too great -/
structure Row (r : Tup (Int × Int) × Int) : Prop where
  ok : ∀ x ∈ r.1.l, 0 < x.1 ∧ 0 < x.2 ∧ Sz 2000 x.1 ∧ Sz 2000 x.2
  e0 : 0 ≤ r.2
  es : Sz 2000 r.2
  ne : r.2 = 0 → r.1.l = []
  fl : fallP r.1.l r.2 = true
  ln : r.1.l.length ≤ 5000
theorem Row.run {r : Tup (Int × Int) × Int} (h : Row r) : ∀ x ∈ r.1.l, RunOk x := fun x hx => let ⟨a, b, c, d⟩ := h.ok x hx; ⟨a, b, sz_up c (by decide), sz_up d (by decide)⟩
theorem within_step {r : Int × Int} {l : List (Int × Int)} {e c : Int} (h : r.1 * r.2 ≤ c) : within (r :: l) e c = within l e (c - r.1 * r.2) := by
  rw [within]
  rw [if_neg (by omega)]
theorem within_low {r : Int × Int} {l : List (Int × Int)} {e c : Int} (h : c < r.1 * r.2) : within (r :: l) e c = decide (c % r.1 = 0) := by
  rw [within]
  rw [if_pos h]
def Cl (l : List (Int × Int)) (e : Int) : Prop := ∀ x y z : Int, 0 ≤ z → z ≤ x → z ≤ y → within l e x = true → within l e y = true → within l e z = true → within l e (x + y - z) = true
theorem Cl.add {l : List (Int × Int)} {e : Int} (h : Cl l e) (hl : ∀ r ∈ l, RunOk r) {x y : Int} (x0 : 0 ≤ x) (y0 : 0 ≤ y) (hx : within l e x = true) (hy : within l e y = true) : within l e (x + y) = true := by
  have := h x y 0 (by omega) x0 y0 hx hy (within_zero hl)
  rwa [Int.sub_zero] at this
theorem Cl.mul {l : List (Int × Int)} {e s : Int} (h : Cl l e) (hl : ∀ r ∈ l, RunOk r) (s0 : 0 ≤ s) (hs : within l e s = true) : ∀ n : Nat, within l e ((n : Int) * s) = true
  | 0 => by
    rw [show ((0 : Nat) : Int) * s = 0 by simp]
    exact within_zero hl
  | n + 1 => by
    have ih := Cl.mul h hl s0 hs n
    rw [show ((n + 1 : Nat) : Int) * s = (n : Int) * s + s by rw [Int.natCast_add, Int.add_mul]; simp]
    exact h.add hl (Int.mul_nonneg (by omega) s0) s0 ih hs
theorem Cl.mulI {l : List (Int × Int)} {e s : Int} (h : Cl l e) (hl : ∀ r ∈ l, RunOk r) (s0 : 0 ≤ s) (hs : within l e s = true) {m : Int} (m0 : 0 ≤ m) (hm : m % s = 0) : within l e m = true := by
  have hd : s ∣ m := Int.dvd_of_emod_eq_zero hm
  obtain ⟨q, rfl⟩ := hd
  rcases Int.lt_or_eq_of_le s0 with sp | sz
  · have q0 : 0 ≤ q := by
      rcases Int.lt_or_le q 0 with h1 | h1
      · have := Int.mul_neg_of_pos_of_neg sp h1
        omega
      · exact h1
    obtain ⟨n, rfl⟩ := Int.eq_ofNat_of_zero_le q0
    rw [Int.mul_comm]
    exact Cl.mul h hl s0 hs n
  · subst sz
    rw [Int.zero_mul]
    exact within_zero hl
theorem closed : ∀ (l : List (Int × Int)) (e : Int), (∀ r ∈ l, RunOk r) → 0 ≤ e → fallP l e = true → Cl l e
  | [], e, _, e0, _ => by
    intro x y z z0 hx hy wx wy wz
    unfold within at wx wy wz ⊢
    by_cases h : e = 0
    · simp only [h, if_true, decide_eq_true_eq] at wx wy wz ⊢
      omega
    · simp only [h, if_false, decide_eq_true_eq] at wx wy wz ⊢
      have dx := Int.dvd_of_emod_eq_zero wx
      have dy := Int.dvd_of_emod_eq_zero wy
      have dz := Int.dvd_of_emod_eq_zero wz
      exact Int.emod_eq_zero_of_dvd (Int.dvd_sub (Int.dvd_add dx dy) dz)
  | r :: l, e, hl, e0, hf => by
    have hr := hl r (List.mem_cons_self ..)
    have hl' : ∀ y ∈ l, RunOk y := fun y hy => hl y (List.mem_cons_of_mem _ hy)
    simp only [fallP, Bool.and_eq_true, decide_eq_true_eq] at hf
    obtain ⟨⟨_, hw⟩, hf⟩ := hf
    have C := closed l e hl' e0 hf
    have s0 : 0 ≤ r.1 := Int.le_of_lt hr.1
    have B0 := hr.pos
    have dB : r.1 ∣ r.1 * r.2 := Int.dvd_mul_right ..
    intro x y z z0 hx hy wx wy wz
    by_cases cz : r.1 * r.2 ≤ z
    · rw [within_step cz] at wz
      rw [within_step (by omega)] at wx wy
      rw [within_step (by omega)]
      have := C _ _ _ (by omega) (by omega) (by omega) wx wy wz
      rw [show x + y - z - r.1 * r.2 = x - r.1 * r.2 + (y - r.1 * r.2) - (z - r.1 * r.2) by omega]
      exact this
    · rw [within_low (by omega)] at wz
      have dz := Int.dvd_of_emod_eq_zero (of_decide_eq_true wz)
      by_cases cx : r.1 * r.2 ≤ x
      · rw [within_step cx] at wx
        by_cases cy : r.1 * r.2 ≤ y
        · rw [within_step cy] at wy
          rw [within_step (by omega)]
          have m := C.mulI hl' s0 hw (m := r.1 * r.2 - z) (by omega) (Int.emod_eq_zero_of_dvd (Int.dvd_sub dB dz))
          have a := C.add hl' (by omega) (by omega) (C.add hl' (by omega) (by omega) wx wy) m
          rw [show x + y - z - r.1 * r.2 = x - r.1 * r.2 + (y - r.1 * r.2) + (r.1 * r.2 - z) by omega]
          exact a
        · rw [within_low (by omega)] at wy
          have dy := Int.dvd_of_emod_eq_zero (of_decide_eq_true wy)
          rw [within_step (by omega)]
          have m := C.mulI hl' s0 hw (m := y - z) (by omega) (Int.emod_eq_zero_of_dvd (Int.dvd_sub dy dz))
          have a := C.add hl' (by omega) (by omega) wx m
          rw [show x + y - z - r.1 * r.2 = x - r.1 * r.2 + (y - z) by omega]
          exact a
      · rw [within_low (by omega)] at wx
        have dx := Int.dvd_of_emod_eq_zero (of_decide_eq_true wx)
        by_cases cy : r.1 * r.2 ≤ y
        · rw [within_step cy] at wy
          rw [within_step (by omega)]
          have m := C.mulI hl' s0 hw (m := x - z) (by omega) (Int.emod_eq_zero_of_dvd (Int.dvd_sub dx dz))
          have a := C.add hl' (by omega) (by omega) wy m
          rw [show x + y - z - r.1 * r.2 = y - r.1 * r.2 + (x - z) by omega]
          exact a
        · rw [within_low (by omega)] at wy
          have dy := Int.dvd_of_emod_eq_zero (of_decide_eq_true wy)
          have dd := Int.dvd_sub (Int.dvd_add dx dy) dz
          by_cases cs : r.1 * r.2 ≤ x + y - z
          · rw [within_step cs]
            exact C.mulI hl' s0 hw (by omega) (Int.emod_eq_zero_of_dvd (Int.dvd_sub dd dB))
          · rw [within_low (by omega)]
            exact decide_eq_true (Int.emod_eq_zero_of_dvd dd)
theorem eqOk_runsL (l : List (Int × Int)) : eqOk (.lst (l.map toD)) = true := by
  obtain ⟨h1, h2, h3⟩ := runs_shaped l
  simp only [eqOk, flat, h3, pd, SeqAt.shaped, PyData.canLay0, h1, PyData.depth, Bool.true_and, Bool.and_eq_true, decide_eq_true_eq, true_and]
  omega
theorem ne_runsL (l : List (Int × Int)) : neWD l ([] : List (Int × Int)) = W.pure (!l.isEmpty) := by
  refine (need_pure ⟨eqOk_runsL l, eqOk_runsL []⟩).trans ?_
  show W.pure (!eqD (.lst (l.map toD)) (.lst [])) = _
  rw [eqD_nil]
  cases l <;> rfl
end K

set_option autoImplicit false
set_option Elab.async false
set_option linter.all false
set_option maxRecDepth 100000
set_option maxHeartbeats 1000001
set_option exponentiation.threshold 10000
namespace K
open PySem PySem.Spec L2 Z
open Py (toD)
/-! loops by equations -/
section
variable {τ ρ α : Type}
theorem wpEq {m n : W α} (h : m = n) (Q : α → Prop) (E : Ex → Prop) : m.wp Q E ↔ n.wp Q E := by rw [h]
theorem whileF_nx {c : τ → W Bool} {b : τ → W (Fl τ τ ρ)} {t t' : τ} (hc : c t = W.pure true) (hb : b t = W.pure (.nx t')) : W.whileF c b t = W.whileF c b t' := by
  have st : ∀ n, W.whF c b (n + 1) t = W.whF c b n t' := fun n => by
    show (c t).bind _ = _
    rw [hc]
    show (b t).bind _ = _
    rw [hb]
    rfl
  refine W.ext' fun Q E => ⟨fun ⟨n, h⟩ => ?_, fun ⟨n, h⟩ => ⟨n + 1, (wpEq (st n) Q E).mpr h⟩⟩
  cases n with
  | zero => exact h.elim
  | succ n => exact ⟨n, (wpEq (st n) Q E).mp h⟩
theorem whileF_rt {c : τ → W Bool} {b : τ → W (Fl τ τ ρ)} {t : τ} {r : ρ} (hc : c t = W.pure true) (hb : b t = W.pure (.rt r)) : W.whileF c b t = W.pure (.rt r) := by
  have st : ∀ n, W.whF c b (n + 1) t = W.pure (.rt r) := fun n => by
    show (c t).bind _ = _
    rw [hc]
    show (b t).bind _ = _
    rw [hb]
    rfl
  refine W.ext' fun Q E => ⟨fun ⟨n, h⟩ => ?_, fun h => ⟨1, (wpEq (st 0) Q E).mpr h⟩⟩
  cases n with
  | zero => exact h.elim
  | succ n => exact (wpEq (st n) Q E).mp h
theorem whileF_bk {c : τ → W Bool} {b : τ → W (Fl τ τ ρ)} {t t' : τ} (hc : c t = W.pure true) (hb : b t = W.pure (.bk t')) : W.whileF c b t = W.pure (.dn t') := by
  have st : ∀ n, W.whF c b (n + 1) t = W.pure (.dn t') := fun n => by
    show (c t).bind _ = _
    rw [hc]
    show (b t).bind _ = _
    rw [hb]
    rfl
  refine W.ext' fun Q E => ⟨fun ⟨n, h⟩ => ?_, fun h => ⟨1, (wpEq (st 0) Q E).mpr h⟩⟩
  cases n with
  | zero => exact h.elim
  | succ n => exact (wpEq (st n) Q E).mp h
theorem whileF_dn {c : τ → W Bool} {b : τ → W (Fl τ τ ρ)} {t : τ} (hc : c t = W.pure false) : W.whileF c b t = W.pure (.dn t) := by
  have st : ∀ n, W.whF c b (n + 1) t = W.pure (.dn t) := fun n => by
    show (c t).bind _ = _
    rw [hc]
    rfl
  refine W.ext' fun Q E => ⟨fun ⟨n, h⟩ => ?_, fun h => ⟨1, (wpEq (st 0) Q E).mpr h⟩⟩
  cases n with
  | zero => exact h.elim
  | succ n => exact (wpEq (st n) Q E).mp h
theorem whileW_nx {c : τ → W Bool} {b : τ → W τ} {t t' : τ} (hc : c t = W.pure true) (hb : b t = W.pure t') : W.whileW c b t = W.whileW c b t' := by
  have st : ∀ n, W.whN c b (n + 1) t = W.whN c b n t' := fun n => by
    show (c t).bind _ = _
    rw [hc]
    show (b t).bind _ = _
    rw [hb]
    rfl
  refine W.ext' fun Q E => ⟨fun ⟨n, h⟩ => ?_, fun ⟨n, h⟩ => ⟨n + 1, (wpEq (st n) Q E).mpr h⟩⟩
  cases n with
  | zero => exact h.elim
  | succ n => exact ⟨n, (wpEq (st n) Q E).mp h⟩
theorem whileW_dn {c : τ → W Bool} {b : τ → W τ} {t : τ} (hc : c t = W.pure false) : W.whileW c b t = W.pure t := by
  have st : ∀ n, W.whN c b (n + 1) t = W.pure t := fun n => by
    show (c t).bind _ = _
    rw [hc]
    rfl
  refine W.ext' fun Q E => ⟨fun ⟨n, h⟩ => ?_, fun h => ⟨1, (wpEq (st 0) Q E).mpr h⟩⟩
  cases n with
  | zero => exact h.elim
  | succ n => exact (wpEq (st n) Q E).mp h
theorem forW_nil {f : α → τ → W τ} {t : τ} : W.forW [] f t = W.pure t := rfl
theorem forW_cons {f : α → τ → W τ} {x : α} {l : List α} {t t' : τ} (h : f x t = W.pure t') : W.forW (x :: l) f t = W.forW l f t' := by
  show (f x t).bind _ = _
  rw [h]
  rfl
/-- a for that neither is left nor returns, by equations -/
theorem forW_pure {f : α → τ → W τ} (g : α → τ → τ) : ∀ {l : List α} {t : τ}, (∀ x ∈ l, ∀ t, f x t = W.pure (g x t)) → W.forW l f t = W.pure (l.foldl (fun t x => g x t) t)
  | [], t, _ => rfl
  | x :: l, t, h => by
    rw [forW_cons (h x (List.mem_cons_self ..) t), forW_pure g fun y hy => h y (List.mem_cons_of_mem _ hy)]
    rfl
theorem bind_pureE {β : Type} (a : α) (f : α → W β) : (W.pure a).bind f = f a := rfl
end
/-! closed sets -/
def Mem (r : FR) (n : Int) : Prop := 0 ≤ n ∧ within r.1.l r.2 n = true
inductive Cls (S : Int → Prop) : Int → Prop
  | zero : Cls S 0
  | mem {x : Int} : S x → 0 ≤ x → Cls S x
  | step {x y z : Int} : Cls S x → Cls S y → Cls S z → z ≤ x → z ≤ y → Cls S (x + y - z)
theorem Cls.nn {S : Int → Prop} {n : Int} (h : Cls S n) : 0 ≤ n := by
  induction h with
  | zero => omega
  | mem _ h => exact h
  | step _ _ _ h1 h2 => omega
theorem Cls.le {S T : Int → Prop} (h0 : T 0) (hs : ∀ x y z, T x → T y → T z → 0 ≤ z → z ≤ x → z ≤ y → T (x + y - z)) (hm : ∀ x, S x → 0 ≤ x → T x) {n : Int} (h : Cls S n) : T n := by
  induction h with
  | zero => exact h0
  | mem a b => exact hm _ a b
  | step a b c h1 h2 i j k => exact hs _ _ _ i j k c.nn h1 h2
theorem Cls.mono {S T : Int → Prop} (hm : ∀ x, S x → 0 ≤ x → Cls T x) {n : Int} (h : Cls S n) : Cls T n := by
  induction h with
  | zero => exact .zero
  | mem a b => exact hm _ a b
  | step a b c h1 h2 i j k => exact .step i j k h1 h2
theorem Cls.congr {S T : Int → Prop} (h : ∀ x, 0 ≤ x → (S x ↔ T x)) (n : Int) : Cls S n ↔ Cls T n :=
  ⟨Cls.mono fun x a b => .mem ((h x b).mp a) b, Cls.mono fun x a b => .mem ((h x b).mpr a) b⟩
theorem Cls.add {S : Int → Prop} {x y : Int} (hx : Cls S x) (hy : Cls S y) : Cls S (x + y) := by
  have := Cls.step hx hy .zero hx.nn hy.nn
  rwa [Int.sub_zero] at this
theorem Cls.mulN {S : Int → Prop} {x : Int} (hx : Cls S x) : ∀ n : Nat, Cls S (x * n)
  | 0 => by simpa using Cls.zero
  | n + 1 => by
    have := (Cls.mulN hx n).add hx
    rw [show x * ((n + 1 : Nat) : Int) = x * n + x by rw [Int.natCast_add, Int.mul_add]; simp]
    exact this
theorem Cls.mul {S : Int → Prop} {x k : Int} (hx : Cls S x) (hk : 0 ≤ k) : Cls S (x * k) := by
  obtain ⟨n, rfl⟩ := Int.eq_ofNat_of_zero_le hk
  exact hx.mulN n
/-- what follows from counts beyond s t follows, s t put to it -/
theorem Cls.up {S T : Int → Prop} {b : Int} (hb : Cls T b) (hm : ∀ x, S x → 0 ≤ x → Cls T (x + b)) {n : Int} (h : Cls S n) : Cls T (n + b) := by
  induction h with
  | zero => simpa using hb
  | mem a b => exact hm _ a b
  | step _ _ _ h1 h2 i j k =>
    rename_i x y z _ _ _
    have := Cls.step i j k (by omega) (by omega)
    rw [show x + b + (y + b) - (z + b) = x + y - z + b by omega] at this
    exact this
def IsCl (l : List Int) (r : FR) : Prop := ∀ n, Mem r n ↔ Cls (· ∈ l) n
theorem Row.mem0 {r : FR} (R : Row r) : Mem r 0 := ⟨by omega, within_zero R.run⟩
theorem Row.step {r : FR} (R : Row r) {x y z : Int} (hx : Mem r x) (hy : Mem r y) (hz : Mem r z) (h1 : z ≤ x) (h2 : z ≤ y) : Mem r (x + y - z) :=
  ⟨by have := hx.1; have := hz.1; omega, closed _ _ R.run R.e0 R.fl x y z hz.1 h1 h2 hx.2 hy.2 hz.2⟩
theorem Row.cls {r : FR} (R : Row r) {S : Int → Prop} (hS : ∀ x, S x → 0 ≤ x → Mem r x) {n : Int} (h : Cls S n) : Mem r n :=
  h.le R.mem0 (fun x y z a b c _ h1 h2 => R.step a b c h1 h2) hS
/-! the steps of a row -/
theorem within_head : ∀ {l : List (Int × Int)} {e : Int}, (∀ r ∈ l, RunOk r) → within l e (headOf l e) = true
  | [], e, _ => by
    unfold within headOf
    split <;> simp [*]
  | r :: l, e, h => by
    have hr := h r (List.mem_cons_self ..)
    show within (r :: l) e r.1 = true
    by_cases c : r.1 < r.1 * r.2
    · rw [within_low c]
      simp
    · rw [within_step (by omega)]
      have : r.1 * 1 ≤ r.1 * r.2 := Int.mul_le_mul_of_nonneg_left (show 1 ≤ r.2 from hr.2.1) (Int.le_of_lt hr.1)
      rw [show r.1 - r.1 * r.2 = 0 by omega]
      exact within_zero fun y hy => h y (List.mem_cons_of_mem _ hy)
theorem head_pos : ∀ {l : List (Int × Int)} {e : Int}, (∀ r ∈ l, RunOk r) → 0 < e → 0 < headOf l e
  | [], e, _, h => h
  | r :: l, e, h, _ => (h r (List.mem_cons_self ..)).1
theorem head_least : ∀ {l : List (Int × Int)} {e n : Int}, (∀ r ∈ l, RunOk r) → 0 < e → 0 < n → within l e n = true → headOf l e ≤ n
  | [], e, n, _, e0, n0, h => by
    unfold within at h
    rw [if_neg (by omega)] at h
    exact Int.le_of_dvd n0 (Int.dvd_of_emod_eq_zero (of_decide_eq_true h))
  | r :: l, e, n, h, e0, n0, hw => by
    have hr := h r (List.mem_cons_self ..)
    show r.1 ≤ n
    by_cases c : n < r.1 * r.2
    · rw [within_low c] at hw
      exact Int.le_of_dvd n0 (Int.dvd_of_emod_eq_zero (of_decide_eq_true hw))
    · have : r.1 * 1 ≤ r.1 * r.2 := Int.mul_le_mul_of_nonneg_left (show 1 ≤ r.2 from hr.2.1) (Int.le_of_lt hr.1)
      omega
/-- within the first run and one more step there are just its multiples -/
theorem row_gap {r : Int × Int} {l : List (Int × Int)} {e : Int} (h : ∀ x ∈ r :: l, RunOk x) (e0 : 0 < e) (hf : fallP (r :: l) e = true) : within (r :: l) e (r.1 * r.2 + headOf l e) = true ∧ 0 < headOf l e ∧ headOf l e < r.1 := by
  have hl : ∀ x ∈ l, RunOk x := fun y hy => h y (List.mem_cons_of_mem _ hy)
  simp only [fallP, Bool.and_eq_true, decide_eq_true_eq] at hf
  have hp := head_pos hl e0
  refine ⟨?_, hp, hf.1.1⟩
  rw [within_step (by omega), show r.1 * r.2 + headOf l e - r.1 * r.2 = headOf l e by omega]
  exact within_head hl
theorem mod_ne {s t h : Int} (h0 : 0 < h) (h1 : h < s) : (s * t + h) % s ≠ 0 := by
  rw [Int.mul_add_emod_self_left, Int.emod_eq_of_lt (by omega) h1]
  omega
theorem runs_unique : ∀ {l l' : List (Int × Int)} {e e' : Int}, (∀ x ∈ l, RunOk x) → (∀ x ∈ l', RunOk x) → 0 < e → 0 < e' → fallP l e = true → fallP l' e' = true → (∀ n, 0 ≤ n → within l e n = within l' e' n) → l = l' ∧ e = e'
  | [], [], e, e', _, _, e0, e0', _, _, hn => by
    have h1 := hn e (by omega)
    have h2 := hn e' (by omega)
    unfold within at h1 h2
    rw [if_neg (by omega), if_neg (by omega)] at h1 h2
    simp only [Int.emod_self, decide_true] at h1 h2
    have d1 := Int.le_of_dvd e0 (Int.dvd_of_emod_eq_zero (of_decide_eq_true h1.symm))
    have d2 := Int.le_of_dvd e0' (Int.dvd_of_emod_eq_zero (of_decide_eq_true h2))
    exact ⟨rfl, by omega⟩
  | r :: l, [], e, e', h, h', e0, e0', hf, _, hn => by
    exfalso
    obtain ⟨g1, g2, g3⟩ := row_gap h e0 hf
    have hr := h r (List.mem_cons_self ..)
    have a1 := head_least (l := []) h' e0' hr.1 (by rw [← hn _ (Int.le_of_lt hr.1)]; exact within_head (l := r :: l) h)
    have a2 := head_least h e0 (n := e') e0' (by rw [hn _ (Int.le_of_lt e0')]; exact within_head (l := []) h')
    have a1 : e' ≤ r.1 := a1
    have a2 : r.1 ≤ e' := a2
    have ee : e' = r.1 := by omega
    subst ee
    have hp := hr.pos
    rw [hn _ (by omega)] at g1
    unfold within at g1
    rw [if_neg (by omega)] at g1
    exact mod_ne g2 g3 (of_decide_eq_true g1)
  | [], r :: l, e, e', h, h', e0, e0', hf, hf', hn => by
    exfalso
    obtain ⟨g1, g2, g3⟩ := row_gap h' e0' hf'
    have hr := h' r (List.mem_cons_self ..)
    have a1 := head_least (l := []) h e0 hr.1 (by rw [hn _ (Int.le_of_lt hr.1)]; exact within_head (l := r :: l) h')
    have a2 := head_least h' e0' (n := e) e0 (by rw [← hn _ (Int.le_of_lt e0)]; exact within_head (l := []) h)
    have a1 : e ≤ r.1 := a1
    have a2 : r.1 ≤ e := a2
    have ee : e = r.1 := by omega
    subst ee
    have hp := hr.pos
    rw [← hn _ (by omega)] at g1
    unfold within at g1
    rw [if_neg (by omega)] at g1
    exact mod_ne g2 g3 (of_decide_eq_true g1)
  | r :: l, r' :: l', e, e', h, h', e0, e0', hf, hf', hn => by
    have hr := h r (List.mem_cons_self ..)
    have hr' := h' r' (List.mem_cons_self ..)
    have a1 := head_least h' e0' hr.1 (by rw [← hn _ (Int.le_of_lt hr.1)]; exact within_head (l := r :: l) h)
    have a2 := head_least h e0 hr'.1 (by rw [hn _ (Int.le_of_lt hr'.1)]; exact within_head (l := r' :: l') h')
    have a1 : r'.1 ≤ r.1 := a1
    have a2 : r.1 ≤ r'.1 := a2
    have es : r.1 = r'.1 := by omega
    obtain ⟨g1, g2, g3⟩ := row_gap h e0 hf
    obtain ⟨k1, k2, k3⟩ := row_gap h' e0' hf'
    have p1 := hr.pos
    have p2 := hr'.pos
    have le : ∀ {a b : Int}, a < b → r.1 * a + r.1 ≤ r.1 * b := fun {a b} hab => by
      have := Int.mul_le_mul_of_nonneg_left (show a + 1 ≤ b by omega) (Int.le_of_lt hr.1)
      rw [Int.mul_add] at this
      omega
    have et : r.2 = r'.2 := by
      rcases Int.lt_trichotomy r.2 r'.2 with q | q | q
      · exfalso
        have := le q
        rw [hn _ (by omega), within_low (by rw [← es]; omega)] at g1
        rw [← es] at g1
        exact mod_ne g2 g3 (of_decide_eq_true g1)
      · exact q
      · exfalso
        have := le q
        rw [← es] at k1 k3
        rw [← hn _ (by rw [← es] at p2; omega), within_low (by omega)] at k1
        exact mod_ne k2 k3 (of_decide_eq_true k1)
    have er : r = r' := Prod.ext es et
    subst er
    simp only [fallP, Bool.and_eq_true, decide_eq_true_eq] at hf hf'
    obtain ⟨q1, q2⟩ := runs_unique (fun y hy => h y (List.mem_cons_of_mem _ hy)) (fun y hy => h' y (List.mem_cons_of_mem _ hy)) e0 e0' hf.2 hf'.2 fun n n0 => by
      have := hn (n + r.1 * r.2) (by omega)
      rw [within_step (by omega), within_step (by omega), show n + r.1 * r.2 - r.1 * r.2 = n by omega] at this
      exact this
    exact ⟨by rw [q1], q2⟩
theorem row_unique {r r' : FR} (R : Row r) (R' : Row r') (h : ∀ n, Mem r n ↔ Mem r' n) : r = r' := by
  have hw : ∀ n, 0 ≤ n → within r.1.l r.2 n = within r'.1.l r'.2 n := fun n n0 => by
    have := h n
    unfold Mem at this
    rw [Bool.eq_iff_iff]
    exact ⟨fun q => (this.mp ⟨n0, q⟩).2, fun q => (this.mpr ⟨n0, q⟩).2⟩
  obtain ⟨⟨l⟩, e⟩ := r
  obtain ⟨⟨l'⟩, e'⟩ := r'
  have zero : ∀ {l l' : List (Int × Int)} {e e' : Int}, Row (⟨l⟩, e) → Row (⟨l'⟩, e') → (∀ n, 0 ≤ n → within l e n = within l' e' n) → e = 0 → e' = 0 := fun {l l' e e'} A B hw z => by
    rcases Int.lt_or_le 0 e' with q | q
    · exfalso
      have hl : l = [] := A.ne z
      subst hl
      have p := head_pos B.run q
      have := hw _ (Int.le_of_lt p)
      rw [within_head B.run] at this
      unfold within at this
      rw [if_pos z] at this
      have := of_decide_eq_true this
      exact absurd this (by have p : 0 < headOf l' e' := p; omega)
    · have : 0 ≤ e' := B.e0
      omega
  have e0 : 0 ≤ e := R.e0
  have e0' : 0 ≤ e' := R'.e0
  by_cases c : e = 0
  · have c' := zero R R' hw c
    have h1 : l = [] := R.ne c
    have h2 : l' = [] := R'.ne c'
    rw [h1, h2, c, c']
  · have c' : e' ≠ 0 := fun z => c (zero R' R (fun n n0 => (hw n n0).symm) z)
    obtain ⟨q1, q2⟩ := runs_unique R.run R'.run (show 0 < e by omega) (show 0 < e' by omega) R.fl R'.fl hw
    have q1 : l = l' := q1
    rw [q1, show e = e' from q2]
open Classical in
noncomputable def clos (l : List Int) : FR := if h : ∃ r, Row r ∧ IsCl l r then h.choose else (⟨[]⟩, 0)
theorem clos_eq {l : List Int} {r : FR} (R : Row r) (h : IsCl l r) : clos l = r := by
  have e : ∃ r, Row r ∧ IsCl l r := ⟨r, R, h⟩
  unfold clos
  rw [dif_pos e]
  obtain ⟨a, b⟩ := e.choose_spec
  exact row_unique a R fun n => (b n).trans (h n).symm
theorem clos_ok {l : List Int} (h : ∃ r, Row r ∧ IsCl l r) : Row (clos l) ∧ IsCl l (clos l) := by
  obtain ⟨r, a, b⟩ := h
  rw [clos_eq a b]
  exact ⟨a, b⟩
end K

set_option autoImplicit false
set_option Elab.async false
set_option linter.all false
set_option maxRecDepth 100000
set_option maxHeartbeats 1000001
set_option exponentiation.threshold 10000
namespace K
open PySem PySem.Spec L2 Z
open Py (toD)
/-! Euclid's way -/
structure Good (l : List (Int × Int)) (e : Int) (L : List Int) (h : Int) : Prop where
  fl : fallP l e = true
  ok : ∀ r ∈ l, RunOk r
  e0 : 0 < e
  hd : headOf l e = h
  me : ∀ x ∈ L, within l e x = true
  cl : ∀ n, 0 ≤ n → within l e n = true → Cls (· ∈ L) n
structure Step (L L' : List Int) (s t : Int) : Prop where
  s0 : 0 < s
  t0 : 0 < t
  sm : s ∈ L
  mn : ∀ x ∈ L, s ≤ x
  lo : ∀ x ∈ L, x % s ≠ 0 → s * t < x
  ne : ∃ x ∈ L, x % s ≠ 0 ∧ x - s * t < s
  mem : ∀ x, x ∈ L' ↔ (∃ y ∈ L, s * t < y ∧ x = y - s * t) ∨ x = s
theorem Step.good {L L' : List Int} {s t h' e : Int} {l : List (Int × Int)} (S : Step L L' s t) (hs : Sz 9000 s) (ht : Sz 9000 t) (h0 : ∀ x ∈ L', h' ≤ x) (g : Good l e L' h') : Good ((s, t) :: l) e L s := by
  have hok : ∀ r ∈ (s, t) :: l, RunOk r := fun r hr => by
    rcases List.mem_cons.mp hr with q | q
    · rw [q]
      exact ⟨S.s0, S.t0, hs, ht⟩
    · exact g.ok r q
  have sc : Cls (· ∈ L) s := .mem S.sm (Int.le_of_lt S.s0)
  have stc : Cls (· ∈ L) (s * t) := sc.mul (Int.le_of_lt S.t0)
  refine ⟨?_, hok, g.e0, rfl, fun x hx => ?_, fun n n0 hn => ?_⟩
  · simp only [fallP, Bool.and_eq_true, decide_eq_true_eq]
    refine ⟨⟨?_, g.me s ((S.mem s).mpr (.inr rfl))⟩, g.fl⟩
    rw [g.hd]
    obtain ⟨y, hy, h1, h2⟩ := S.ne
    have := h0 (y - s * t) ((S.mem _).mpr (.inl ⟨y, hy, S.lo y hy h1, rfl⟩))
    omega
  · by_cases c : s * t < x
    · rw [within_step (show (s, t).1 * (s, t).2 ≤ x from Int.le_of_lt c)]
      exact g.me _ ((S.mem _).mpr (.inl ⟨x, hx, c, rfl⟩))
    · have hm : x % s = 0 := by
        rcases Int.decEq (x % s) 0 with q | q
        · exact absurd (S.lo x hx q) c
        · exact q
      by_cases c2 : x = s * t
      · rw [within_step (show (s, t).1 * (s, t).2 ≤ x by show s * t ≤ x; omega), show x - (s, t).1 * (s, t).2 = 0 by show x - s * t = 0; omega]
        exact within_zero g.ok
      · rw [within_low (show x < (s, t).1 * (s, t).2 by show x < s * t; omega)]
        exact decide_eq_true hm
  · by_cases c : s * t ≤ n
    · rw [within_step (show (s, t).1 * (s, t).2 ≤ n from c)] at hn
      have := g.cl _ (show 0 ≤ n - (s, t).1 * (s, t).2 by show 0 ≤ n - s * t; omega) hn
      have key : ∀ x, x ∈ L' → 0 ≤ x → Cls (· ∈ L) (x + s * t) := fun x hx x0 => by
        rcases (S.mem x).mp hx with ⟨y, hy, h1, rfl⟩ | rfl
        · rw [show y - s * t + s * t = y by omega]
          exact .mem hy (by have := S.mn y hy; have := S.s0; omega)
        · exact sc.add stc
      have := Cls.up stc key this
      rwa [show n - (s, t).1 * (s, t).2 + s * t = n by show n - s * t + s * t = n; omega] at this
    · rw [within_low (show n < (s, t).1 * (s, t).2 by show n < s * t; omega)] at hn
      obtain ⟨q, rfl⟩ := Int.dvd_of_emod_eq_zero (of_decide_eq_true hn)
      have q0 : 0 ≤ q := by
        rcases Int.lt_or_le q 0 with h1 | h1
        · have := Int.mul_neg_of_pos_of_neg S.s0 h1
          exact absurd n0 (by show ¬ 0 ≤ s * q; omega)
        · exact h1
      exact sc.mul q0
theorem good_end {L : List Int} {s : Int} (s0 : 0 < s) (sm : s ∈ L) (hm : ∀ x ∈ L, x % s = 0) : Good [] s L s := by
  refine ⟨rfl, (fun r hr => by cases hr), s0, rfl, fun x hx => ?_, fun n n0 hn => ?_⟩
  · unfold within
    rw [if_neg (show ¬ s = 0 by omega)]
    exact decide_eq_true (hm x hx)
  · unfold within at hn
    rw [if_neg (show ¬ s = 0 by omega)] at hn
    obtain ⟨q, rfl⟩ := Int.dvd_of_emod_eq_zero (of_decide_eq_true hn)
    have q0 : 0 ≤ q := by
      rcases Int.lt_or_le q 0 with h1 | h1
      · have := Int.mul_neg_of_pos_of_neg s0 h1
        omega
      · exact h1
    exact (Cls.mem (S := (· ∈ L)) sm (Int.le_of_lt s0)).mul q0
def turnsOf (L : List Int) (s : Int) : List Int := (L.filter fun x => decide (x % s > 0)).map (· / s)
def leftOf (L : List Int) (s t : Int) : List Int := sortI (dedup ((L.filter fun x => decide (x > s * t)).map (· - s * t) ++ [s]))
structure EI (R : List (Int × Int)) (L : List Int) : Prop where
  so : L.Pairwise (· < ·)
  po : ∀ x ∈ L, 0 < x ∧ x < 2 ^ 200
  ln : L.length ≤ 3000
  ok : ∀ x ∈ R, 0 < x.1 ∧ 0 < x.2 ∧ Sz 2000 x.1 ∧ Sz 2000 x.2
  pr : R = [] ∨ ∃ p ∈ L, ∀ h, L.head? = some h → h < p ∧ p * h * 2 ^ R.length ≤ 2 ^ 402
theorem EI.len {R : List (Int × Int)} {L : List Int} (h : EI R L) (hL : L ≠ []) : R.length ≤ 402 := by
  rcases h.pr with e | ⟨p, hp, q⟩
  · rw [e]
    exact Nat.zero_le _
  · match L, hL with
    | a :: l, _ =>
      obtain ⟨q1, q2⟩ := q a rfl
      have ha := (h.po a (List.mem_cons_self ..)).1
      have hp := (h.po p hp).1
      have : 1 ≤ p * a := Int.mul_pos hp ha
      have h2 : (2 : Int) ^ R.length ≤ 2 ^ 402 := by
        refine Int.le_trans ?_ q2
        have := Int.mul_le_mul_of_nonneg_right this (show (0 : Int) ≤ 2 ^ R.length from Int.le_of_lt (Int.pow_pos (by decide)))
        simpa using this
      have h3 : 2 ^ R.length ≤ 2 ^ 402 := by
        have : ((2 ^ R.length : Nat) : Int) ≤ ((2 ^ 402 : Nat) : Int) := by
          simpa [Int.natCast_pow] using h2
        exact Int.ofNat_le.mp this
      exact (Nat.pow_le_pow_iff_right (by decide)).mp h3
theorem mem_left {L : List Int} {s t x : Int} : x ∈ leftOf L s t ↔ (∃ y ∈ L, s * t < y ∧ x = y - s * t) ∨ x = s := by
  unfold leftOf
  rw [(sortI_perm _).mem_iff, mem_dedup]
  simp only [List.mem_append, List.mem_map, List.mem_filter, decide_eq_true_eq, List.mem_singleton]
  constructor
  · rintro (⟨y, ⟨h1, h2⟩, h3⟩ | h)
    · exact .inl ⟨y, h1, h2, h3.symm⟩
    · exact .inr h
  · rintro (⟨y, h1, h2, h3⟩ | h)
    · exact .inl ⟨y, ⟨h1, h2⟩, h3.symm⟩
    · exact .inr h
theorem left_sorted (L : List Int) (s t : Int) : (leftOf L s t).Pairwise (· < ·) := by
  have h1 := sortI_sorted (dedup ((L.filter fun x => decide (x > s * t)).map (· - s * t) ++ [s]))
  have h2 : (sortI (dedup ((L.filter fun x => decide (x > s * t)).map (· - s * t) ++ [s]))).Nodup := (sortI_perm _).nodup_iff.mpr (nodup_dedup _)
  exact (List.Pairwise.and h1 h2).imp fun {a b} h => by
    have := h.2
    have := h.1
    omega
theorem min_turns {l : List Int} (h : l ≠ []) : (l.min?.getD 0) ∈ l ∧ ∀ x ∈ l, l.min?.getD 0 ≤ x := by
  cases e : l.min? with
  | none => exact absurd (List.min?_eq_none_iff.mp e) h
  | some a =>
    have := List.min?_eq_some_iff.mp e
    exact this
theorem eu_step {R : List (Int × Int)} {L0 : List Int} {s : Int} (I : EI R (s :: L0)) (hT : turnsOf (s :: L0) s ≠ []) :
    Step (s :: L0) (leftOf (s :: L0) s ((turnsOf (s :: L0) s).min?.getD 0)) s ((turnsOf (s :: L0) s).min?.getD 0) ∧ (turnsOf (s :: L0) s).min?.getD 0 < 2 ^ 200 := by
  obtain ⟨h1, h2⟩ := min_turns hT
  generalize (turnsOf (s :: L0) s).min?.getD 0 = t at *
  have s0 := (I.po s (List.mem_cons_self ..)).1
  have mn : ∀ x ∈ s :: L0, s ≤ x := fun x hx => by
    rcases List.mem_cons.mp hx with e | e
    · omega
    · exact Int.le_of_lt ((List.pairwise_cons.mp I.so).1 x e)
  obtain ⟨y, hy, rfl⟩ := List.mem_map.mp h1
  obtain ⟨hy, hr⟩ := List.mem_filter.mp hy
  have hr : y % s > 0 := of_decide_eq_true hr
  have dm := Int.mul_ediv_add_emod y s
  have lt := Int.emod_lt_of_pos y s0
  have t0 : 0 < y / s := by
    rcases Int.lt_or_le 0 (y / s) with q | q
    · exact q
    · exfalso
      have := Int.mul_nonpos_of_nonneg_of_nonpos (Int.le_of_lt s0) q
      have := mn y hy
      omega
  refine ⟨⟨s0, t0, List.mem_cons_self .., mn, fun x hx hm => ?_, ⟨y, hy, by omega, by omega⟩, fun x => mem_left⟩, ?_⟩
  · have nn := Int.emod_nonneg x (show s ≠ 0 by omega)
    have := h2 (x / s) (List.mem_map.mpr ⟨x, List.mem_filter.mpr ⟨hx, decide_eq_true (by omega)⟩, rfl⟩)
    have d2 := Int.mul_ediv_add_emod x s
    have := Int.mul_le_mul_of_nonneg_left this (Int.le_of_lt s0)
    omega
  · have := (I.po y hy).2
    have := Int.mul_le_mul_of_nonneg_right (show (1 : Int) ≤ s from s0) (Int.le_of_lt t0)
    omega
theorem left_len {L0 : List Int} {s t : Int} (h : s ≤ s * t) : (leftOf (s :: L0) s t).length ≤ (s :: L0).length ∧ ((((s :: L0).filter fun x => decide (x > s * t)).map (· - s * t)) ++ [s]).length ≤ (s :: L0).length := by
  have e : ((((s :: L0).filter fun x => decide (x > s * t)).map (· - s * t)) ++ [s]).length ≤ (s :: L0).length := by
    rw [List.filter_cons_of_neg (by simp; omega)]
    have := List.length_filter_le (fun x => decide (x > s * t)) L0
    simp only [List.length_append, List.length_map, List.length_cons, List.length_nil]
    omega
  refine ⟨?_, e⟩
  unfold leftOf
  rw [(sortI_perm _).length_eq]
  exact Nat.le_trans (dedup_le _) e
theorem head_le {L : List Int} {h : Int} (so : L.Pairwise (· < ·)) (hh : L.head? = some h) : ∀ x ∈ L, h ≤ x := fun x hx => by
  match L, hh with
  | a :: l, e =>
    cases e
    rcases List.mem_cons.mp hx with q | q
    · omega
    · exact Int.le_of_lt ((List.pairwise_cons.mp so).1 x q)
theorem EI.step {R : List (Int × Int)} {L0 L' : List Int} {s t : Int} (I : EI R (s :: L0)) (S : Step (s :: L0) L' s t) (tB : t < 2 ^ 200) (so : L'.Pairwise (· < ·)) (ln : L'.length ≤ 3000) : EI (R ++ [(s, t)]) L' ∧ (∀ h, L'.head? = some h → h < s) := by
  have sB := (I.po s (List.mem_cons_self ..)).2
  have s0 := S.s0
  have hlt : ∀ h, L'.head? = some h → h < s := fun h hh => by
    obtain ⟨y, hy, h1, h2⟩ := S.ne
    have := head_le so hh (y - s * t) ((S.mem _).mpr (.inl ⟨y, hy, S.lo y hy h1, rfl⟩))
    omega
  have st : s ≤ s * t := by
    have := Int.mul_le_mul_of_nonneg_left (show (1 : Int) ≤ t from S.t0) (Int.le_of_lt s0)
    omega
  have po : ∀ x ∈ L', 0 < x ∧ x < 2 ^ 200 := fun x hx => by
    rcases (S.mem x).mp hx with ⟨y, hy, h1, h2⟩ | h
    · have := (I.po y hy).2
      omega
    · omega
  refine ⟨⟨so, po, ln, fun x hx => ?_, .inr ⟨s, (S.mem s).mpr (.inr rfl), fun h hh => ⟨hlt h hh, ?_⟩⟩⟩, hlt⟩
  · rcases List.mem_append.mp hx with q | q
    · exact I.ok x q
    · rw [List.mem_singleton.mp q]
      exact ⟨s0, S.t0, sz_lt s0 sB (by decide), sz_lt S.t0 tB (by decide)⟩
  · have hs := hlt h hh
    have h0 : 0 < h := (po h (List.mem_of_mem_head? hh)).1
    rcases I.pr with e | ⟨p, hp, q⟩
    · subst e
      have a1 := Int.mul_le_mul_of_nonneg_left (Int.le_of_lt hs) (Int.le_of_lt s0)
      have a2 : s * s ≤ 2 ^ 200 * 2 ^ 200 := Int.mul_le_mul (Int.le_of_lt sB) (Int.le_of_lt sB) (Int.le_of_lt s0) (by decide)
      show s * h * 2 ^ 1 ≤ 2 ^ 402
      have e1 : (2 : Int) ^ 200 * 2 ^ 200 * 2 ^ 1 ≤ 2 ^ 402 := by decide +kernel
      have a3 : s * h * 2 ^ 1 ≤ 2 ^ 200 * 2 ^ 200 * 2 ^ 1 := Int.mul_le_mul_of_nonneg_right (Int.le_trans a1 a2) (by decide)
      exact Int.le_trans a3 e1
    · obtain ⟨q1, q2⟩ := q s rfl
      have k : 2 * h ≤ p := by
        rcases Int.decEq (p % s) 0 with z | z
        · have := S.lo p hp z
          have := head_le so hh (p - s * t) ((S.mem _).mpr (.inl ⟨p, hp, this, rfl⟩))
          omega
        · have d := Int.mul_ediv_add_emod p s
          rw [z] at d
          have : 2 ≤ p / s := by
            rcases Int.lt_or_le (p / s) 2 with w | w
            · exfalso
              have := Int.mul_le_mul_of_nonneg_left (show p / s ≤ 1 by omega) (Int.le_of_lt s0)
              omega
            · exact w
          have := Int.mul_le_mul_of_nonneg_left this (Int.le_of_lt s0)
          omega
      have e1 : (R ++ [(s, t)]).length = R.length + 1 := by simp
      rw [e1, Int.pow_succ, show s * h * (2 ^ R.length * 2) = (2 * h) * s * 2 ^ R.length by
        rw [Int.mul_comm (2 ^ R.length) 2, ← Int.mul_assoc, Int.mul_comm (s * h) 2, Int.mul_comm s h, ← Int.mul_assoc]]
      refine Int.le_trans ?_ q2
      refine Int.mul_le_mul_of_nonneg_right (Int.mul_le_mul_of_nonneg_right k (Int.le_of_lt s0)) (Int.le_of_lt (Int.pow_pos (by decide)))
theorem turns_m {L : List Int} {s : Int} (s0 : 0 < s) (sz : Sz 9000 s) : W.filterW (fun x => nx ((modW x s).b2 (W.pure (0 : Int)) fun x y => W.pure (decide (y < x)))) (fun x => nx (fdivW x s)) L = W.pure (turnsOf L s) := by
  refine filt_if (q := fun x => decide (x % s > 0)) (g := (· / s)) (fun x _ => ?_) (fun x _ _ => ?_)
  · simp only [b2_pure, mod_pos s0]
  · exact need_pure ⟨s0, sz⟩
theorem left_m {L : List Int} {s t : Int} : W.filterW (fun x => nx (W.pure (decide (s * t < x)))) (fun x => nx (W.pure (x - s * t))) L = W.pure ((L.filter fun x => decide (x > s * t)).map (· - s * t)) :=
  filt_if (q := fun x => decide (x > s * t)) (g := (· - s * t)) (fun x _ => rfl) (fun x _ _ => rfl)
def timesOf (L : List Int) (s : Int) : Int := (turnsOf L s).min?.getD 0
/-- the loop of Euclid's way, whatever its text is -/
theorem eu_loop {c : List (Int × Int) × List Int → W Bool} {b : List (Int × Int) × List Int → W (Fl (List (Int × Int) × List Int) (List (Int × Int) × List Int) FR)}
    (hc : ∀ R L, EI R L → c (R, L) = W.pure (!L.isEmpty))
    (h1 : ∀ R s L0, EI R (s :: L0) → R.length ≤ 402 → turnsOf (s :: L0) s = [] → b (R, s :: L0) = W.pure (.rt (⟨R⟩, s)))
    (h2 : ∀ R s L0, EI R (s :: L0) → R.length ≤ 402 → turnsOf (s :: L0) s ≠ [] → Step (s :: L0) (leftOf (s :: L0) s (timesOf (s :: L0) s)) s (timesOf (s :: L0) s) → timesOf (s :: L0) s < 2 ^ 200 →
      b (R, s :: L0) = W.pure (.nx (R ++ [(s, timesOf (s :: L0) s)], leftOf (s :: L0) s (timesOf (s :: L0) s)))) :
    ∀ (k : Nat) (R : List (Int × Int)) (s : Int) (L0 : List Int), s.toNat ≤ k → EI R (s :: L0) → ∃ rest e, W.whileF c b (R, s :: L0) = W.pure (.rt ((⟨R ++ rest⟩, e) : FR)) ∧ Good rest e (s :: L0) s ∧ e < 2 ^ 200 ∧ (R ++ rest).length ≤ 402 ∧ ∀ x ∈ R ++ rest, 0 < x.1 ∧ 0 < x.2 ∧ Sz 2000 x.1 ∧ Sz 2000 x.2 := by
  intro k
  induction k with
  | zero =>
    intro R s L0 hk I
    have := (I.po s (List.mem_cons_self ..)).1
    omega
  | succ k ih =>
    intro R s L0 hk I
    have s0 := (I.po s (List.mem_cons_self ..)).1
    have sB := (I.po s (List.mem_cons_self ..)).2
    have LR : R.length ≤ 402 := I.len (by simp)
    have ct : c (R, s :: L0) = W.pure true := hc R _ I
    by_cases hT : turnsOf (s :: L0) s = []
    · have z : ∀ x ∈ s :: L0, x % s = 0 := fun x hx => by
        have nn := Int.emod_nonneg x (show s ≠ 0 by omega)
        rcases Int.decEq (x % s) 0 with q | q
        · exfalso
          have : x / s ∈ turnsOf (s :: L0) s := List.mem_map.mpr ⟨x, List.mem_filter.mpr ⟨hx, decide_eq_true (by omega)⟩, rfl⟩
          rw [hT] at this
          cases this
        · exact q
      exact ⟨[], s, by rw [List.append_nil]; exact whileF_rt ct (h1 R s L0 I LR hT), good_end s0 (List.mem_cons_self ..) z, sB, by rw [List.append_nil]; exact LR, by rw [List.append_nil]; exact I.ok⟩
    · obtain ⟨S, tB⟩ := eu_step I hT
      have nx := h2 R s L0 I LR hT S tB
      have st : s ≤ s * timesOf (s :: L0) s := by
        have := Int.mul_le_mul_of_nonneg_left (show (1 : Int) ≤ timesOf (s :: L0) s from S.t0) (Int.le_of_lt s0)
        omega
      obtain ⟨l1, _⟩ := left_len (L0 := L0) st
      obtain ⟨I', hh⟩ := I.step S tB (left_sorted _ _ _) (Nat.le_trans l1 I.ln)
      have zs : Sz 9000 s := sz_lt s0 sB (by decide)
      have zt : Sz 9000 (timesOf (s :: L0) s) := sz_lt S.t0 tB (by decide)
      rw [whileF_nx ct nx]
      change EI (R ++ [(s, timesOf (s :: L0) s)]) (leftOf (s :: L0) s (timesOf (s :: L0) s)) at I'
      change ∀ h, (leftOf (s :: L0) s (timesOf (s :: L0) s)).head? = some h → h < s at hh
      change Step (s :: L0) (leftOf (s :: L0) s (timesOf (s :: L0) s)) s (timesOf (s :: L0) s) at S
      generalize timesOf (s :: L0) s = t at *
      cases e : leftOf (s :: L0) s t with
      | nil =>
        exfalso
        have := (S.mem s).mpr (.inr rfl)
        rw [e] at this
        cases this
      | cons s' L' =>
        rw [e] at I' hh S
        have hs' := hh s' rfl
        obtain ⟨rest, e', w, g, eB, ln, ok⟩ := ih _ s' L' (by omega) I'
        have pr := I'.so
        refine ⟨(s, t) :: rest, e', ?_, S.good zs zt (head_le pr rfl) g, eB, ?_, ?_⟩
        · rw [w, List.append_assoc]
          rfl
        · rw [List.append_assoc] at ln
          exact ln
        · rw [List.append_assoc] at ok
          exact ok
/-- counts that Euclid's way takes -/
def Cnt (l : List Int) : Prop := (∀ x ∈ l, x < 2 ^ 200) ∧ l.length ≤ 3000
def norm (l : List Int) : List Int := sortI (dedup (l.filter fun x => decide (x > 0)))
theorem mem_norm {l : List Int} {x : Int} : x ∈ norm l ↔ x ∈ l ∧ 0 < x := by
  unfold norm
  rw [(sortI_perm _).mem_iff, mem_dedup, List.mem_filter, decide_eq_true_eq]
theorem norm_EI {l : List Int} (h : Cnt l) : EI [] (norm l) := by
  have f1 : (l.filter fun x => decide (x > 0)).length ≤ 3000 := Nat.le_trans (List.length_filter_le ..) h.2
  refine ⟨?_, fun x hx => ?_, ?_, fun x hx => (by cases hx), .inl rfl⟩
  · have h1 := sortI_sorted (dedup (l.filter fun x => decide (x > 0)))
    have h2 : (sortI (dedup (l.filter fun x => decide (x > 0)))).Nodup := (sortI_perm _).nodup_iff.mpr (nodup_dedup _)
    exact (List.Pairwise.and h1 h2).imp fun {a b} h => by
      have := h.2
      have := h.1
      omega
  · have := mem_norm.mp hx
    exact ⟨this.2, h.1 x this.1⟩
  · unfold norm
    rw [(sortI_perm _).length_eq]
    exact Nat.le_trans (dedup_le _) f1
theorem cls_norm {l : List Int} (n : Int) : Cls (· ∈ norm l) n ↔ Cls (· ∈ l) n :=
  ⟨Cls.mono fun x hx x0 => .mem (mem_norm.mp hx).1 x0, Cls.mono fun x hx x0 => by
    rcases Int.lt_or_eq_of_le x0 with q | q
    · exact .mem (mem_norm.mpr ⟨hx, q⟩) x0
    · rw [← q]; exact .zero⟩
theorem row_end {l : List Int} {rest : List (Int × Int)} {e s : Int} {L0 : List Int} (hn : norm l = s :: L0) (g : Good rest e (s :: L0) s) (eB : e < 2 ^ 200) (ln : rest.length ≤ 402) (ok : ∀ x ∈ rest, 0 < x.1 ∧ 0 < x.2 ∧ Sz 2000 x.1 ∧ Sz 2000 x.2) : Row (⟨rest⟩, e) ∧ IsCl l (⟨rest⟩, e) := by
  have R : Row (⟨rest⟩, e) := ⟨ok, Int.le_of_lt g.e0, sz_lt g.e0 eB (by decide), fun z => absurd z (by have := g.e0; show ¬ e = 0; omega), g.fl, by show rest.length ≤ 5000; omega⟩
  refine ⟨R, fun n => ?_⟩
  rw [← cls_norm, hn]
  exact ⟨fun h => g.cl n h.1 h.2, fun h => R.cls (fun x hx x0 => ⟨x0, g.me x hx⟩) h⟩
theorem row_none {l : List Int} (hn : norm l = []) : Row (⟨[]⟩, 0) ∧ IsCl l (⟨[]⟩, 0) := by
  have R : Row (⟨[]⟩, 0) := ⟨(fun x hx => by cases hx), by decide, by unfold Sz; decide, fun _ => rfl, rfl, by decide⟩
  refine ⟨R, fun n => ?_⟩
  rw [← cls_norm, hn]
  refine ⟨fun h => ?_, fun h => R.cls (fun x hx x0 => by cases hx) h⟩
  have h2 := h.2
  unfold within at h2
  simp only [if_true, decide_eq_true_eq] at h2
  subst h2
  exact .zero
theorem eu_then {c : List (Int × Int) × List Int → W Bool} {b : List (Int × Int) × List Int → W (Fl (List (Int × Int) × List Int) (List (Int × Int) × List Int) FR)} {k : List (Int × Int) × List Int → W FR}
    (hc : ∀ R L, EI R L → c (R, L) = W.pure (!L.isEmpty))
    (h1 : ∀ R s L0, EI R (s :: L0) → R.length ≤ 402 → turnsOf (s :: L0) s = [] → b (R, s :: L0) = W.pure (.rt (⟨R⟩, s)))
    (h2 : ∀ R s L0, EI R (s :: L0) → R.length ≤ 402 → turnsOf (s :: L0) s ≠ [] → Step (s :: L0) (leftOf (s :: L0) s (timesOf (s :: L0) s)) s (timesOf (s :: L0) s) → timesOf (s :: L0) s < 2 ^ 200 →
      b (R, s :: L0) = W.pure (.nx (R ++ [(s, timesOf (s :: L0) s)], leftOf (s :: L0) s (timesOf (s :: L0) s)))) (hk : k ([], []) = W.pure (⟨[]⟩, 0))
    {l : List Int} (h : Cnt l) : W.thenR (W.whileF c b ([], norm l)) k = W.pure (clos l) ∧ Row (clos l) ∧ IsCl l (clos l) := by
  have I := norm_EI h
  cases e : norm l with
  | nil =>
    obtain ⟨R, C⟩ := row_none e
    rw [e] at I
    rw [whileF_dn (hc [] [] I), clos_eq R C]
    exact ⟨hk, R, C⟩
  | cons s L0 =>
    rw [e] at I
    obtain ⟨rest, en, w, g, eB, ln, ok⟩ := eu_loop hc h1 h2 s.toNat [] s L0 (Nat.le_refl _) I
    obtain ⟨R, C⟩ := row_end e g eB ln ok
    rw [w, clos_eq R C]
    exact ⟨rfl, R, C⟩
end K

set_option autoImplicit false
set_option Elab.async false
set_option linter.all false
set_option maxRecDepth 100000
set_option maxHeartbeats 3000001
namespace L2
open PySem PySem.Spec PyProof.Rows
/-- a clause of a try: the class, the slot of the name if there is one, the suite -/
abbrev Cls3 := Value × Option Nat × (Addr → Value → Option Addr → TS)
def endAt (Dn : Ends) : Option Nat → Ends
  | none => Dn
  | some j => { nx := fun τ J => Dn.nx (τ.set j none) J, rt := Dn.rt, bk := fun τ J => Dn.bk (τ.set j none) J, ct := fun τ J => Dn.ct (τ.set j none) J }
def setAt (τ : St) (x : Addr) : Option Nat → St
  | none => τ
  | some j => τ.set j (some (.ref x))
/-- what clauses, named or not, wish of an error, one behind the other -/
def wNm (F : PySem.W.Frag) (Wo : WX) (Dn : Ends) : List Cls3 → WX
  | [] => Wo
  | (C, oj, ts) :: more => fun cl dd τ J => ∃ y, PySem.W.exmOne F cl C = some y ∧ (y = true → ∀ x, J x = none → ts x cl dd (endAt Dn oj) (setAt τ x oj) J) ∧ (y = false → wNm F Wo Dn more cl dd τ J)
/-- the suite of a clause -/
def SuOk (X : Cx) (sts : List Stmt) (ts : Addr → Value → Option Addr → TS) : Prop := ∀ (x : Addr) (ob : Obj) (cl : Value) (dd : Option Addr) (pl : List (Addr × Obj)), Zc cl dd ob → (∃ fs, ob.data = .fields fs) → PSs (X.suite x ((x, ob) :: pl)) sts (ts x cl dd)
inductive NmOk (X : Cx) : List ExceptHandler → List Cls3 → Prop
  | nil : NmOk X [] []
  | named {nm : Str} {C : Value} {j : Nat} {y : Str} {ts : Addr → Value → Option Addr → TS} {s0 : Stmt} {ss : List Stmt} {q1 q2 : Pos} {more : List ExceptHandler} {m : List Cls3} (hc : Names X nm C) (hi : X.N[j]? = some y) (hl : X.env.kindOf y = some .local)
      (hs : SuOk X (s0 :: ss) ts) (hm : NmOk X more m) : NmOk X (.ExceptHandler (some (.Name nm q1)) (some y) (s0 :: ss) q2 :: more) ((C, some j, ts) :: m)
  | bare {nm : Str} {C : Value} {ts : Addr → Value → Option Addr → TS} {s0 : Stmt} {ss : List Stmt} {q1 q2 : Pos} {more : List ExceptHandler} {m : List Cls3} (hc : Names X nm C)
      (hs : SuOk X (s0 :: ss) ts) (hm : NmOk X more m) : NmOk X (.ExceptHandler (some (.Name nm q1)) none (s0 :: ss) q2 :: more) ((C, none, ts) :: m)
section
variable {X : Cx} {bd : List Stmt} {g₀ : ExceptHandler} {gs : List ExceptHandler} {m : List Cls3} {pos : Pos} {tb : WX → TS} {Wo : WX}
theorem ps_try_nm (h1 : X.stack = X.env :: X.outer) (h2 : X.env.frame = some X.env.locals) (h3 : X.N.Nodup) (tk : Takes X Wo)
    (hb : ∀ (V : WX) (pl : List (Addr × Obj)) (xo : Value → Shared → Prop), Takes (X.tr pl xo) V → PassesOwn (model X.prog X.w) X.A X.env xo → PSs (X.tr pl xo) bd (tb V))
    (hh : NmOk X (g₀ :: gs) m) : PS X (.Try bd (g₀ :: gs) [] [] pos) (fun Dn τ J => tb (wNm X.K Wo Dn m) Dn τ J) := by
  refine ⟨fun pl t τ J Dn I w0 => ?_⟩
  have okX := I.ok
  have frX : X.A.frames = some (X.env :: X.outer) := by rw [okX.frames, h1]
  refine wpAny_Try_except ?_
  refine wpAny_mono ((hb (wNm X.K Wo Dn m) (X.pn ++ pl) (fun er t1 => wpAny (model X.prog X.w) X.A (noteFrame er X.env) (fun _ t2 => wpAny (model X.prog X.w) X.A (setFlight er none) (fun _ t3 => wpAny (model X.prog X.w) X.A (handleBy er X.env (g₀ :: gs)) (SP X pl Dn) X.xe t3) X.xe t2) X.xe t1)
    (fun u t' caught => ?_) PassesOwn.looking).run [] t τ J Dn (I.toTry _) w0) (fun fl t1 ends => ?_) (fun er t1 he => he)
  · obtain ⟨x, B, tI, pl', τ', J', cl, dd, rfl, IJ', notB, upp, skyB, freeX, same, agree, w⟩ := caught
    have IJ : Inv X pl τ' J' tI := IJ'.ofTry okX
    have skyC : Sky B (X.env :: X.outer) x (Zc cl dd) X.env.locals t'.heap := by rw [← h1]; exact skyB
    show wpAny (model X.prog X.w) X.A (noteFrame (.ref x) X.env) _ _ _
    refine Sky.land Zc.steady frX h2 skyC fun hp3 land3 upp3 => ?_
    have IJ3 : Inv X pl τ' J' { t' with heap := hp3 } := IJ.landed notB land3.1 (upp.trans upp3) same agree
    obtain ⟨ob3, fs3, get3, zc3, dat3⟩ := land3.there
    have noFrame : ∀ {hp : Heap} {ob : Obj} {fs : Array Value}, hp.FunFrames B (X.env :: X.outer) → hp.get? x = some ob → ob.data = .fields fs → x ∉ frs (X.env :: X.outer) := fun {hp ob fs} ff ge da mem => by
      obtain ⟨_, ob', ge', notF⟩ := ff.mem mem
      rw [ge] at ge'; cases ge'
      exact notF _ da
    have noFr := noFrame land3.2.2.1 get3 dat3
    have neL : x ≠ X.env.locals := fun z => noFr (List.mem_filterMap.mpr ⟨X.env, List.mem_cons_self, by rw [h2, z]⟩)
    have neF : x ∉ X.fs := fun mem => by
      obtain ⟨en, hen, q⟩ := List.mem_filterMap.mp mem
      exact noFr (List.mem_filterMap.mpr ⟨en, List.mem_cons_of_mem _ hen, q⟩)
    have SI3 := IJ3.suite get3 dat3 freeX neL neF
    have along : ∀ {gs' : List ExceptHandler} {m' : List Cls3}, NmOk X gs' m' → wNm X.K Wo Dn m' cl dd τ' J' →
        wpAny (model X.prog X.w) X.A (handleBy (.ref x) X.env gs') (SP X pl Dn) X.xe { t' with heap := hp3 } := by
      intro gs' m' ok'
      induction ok' with
      | nil =>
        intro w
        refine wpAny_handleBy_nil ?_
        obtain ⟨_, _, _, ob, fs, T, oT, us, ge, zc, da, hf1, _⟩ := id land3
        unfold PySem.passOn
        refine wpAny_bind (wpAny_field ge da hf1 ?_)
        rw [if_neg (show ¬ ((Value.ref T == Value.none) = true) from by simp)]
        have last : wpAny (model X.prog X.w) X.A (setFlight (.ref x) X.env.frame) (fun _ t4 => wpAny (model X.prog X.w) X.A (throw (.ref x) : Sem Flow) (SP X pl Dn) X.xe t4) X.xe { t' with heap := hp3 } := by
          rw [h2]
          refine HandSPX.setFlight_upZ land3 fun hp4 hh4 upp4 => wpAny_throw (tk _ _ ?_)
          exact ⟨x, B, tI, pl, τ', J', cl, dd, rfl, IJ, notB, (upp.trans upp3).trans upp4, .inr (.inr (by rw [h1]; exact hh4)), freeX, same, agree, w⟩
        first | exact wpAny_bind (wpAny_pure (wpAny_bind last)) | exact wpAny_bind last
      | @named nm C j y ts s0 ss q1 q2 more m2 hc hi hl hs _ ih =>
        intro w
        obtain ⟨yes, isC, onYes, onNo⟩ := w
        refine wpAny_handleBy_cons (codeAny_handlers_test ?_) (by intro q; cases q)
        have LT : PySem.W.Looks (model X.prog X.w) hp3 (typeOf (.ref x)) cl := fun A Q E t k q => wpAny_typeOf_ref (k _ _ get3) (by rw [zc3.1]; exact q)
        have LM := PySem.W.exm_one (M := model X.prog X.w) IJ3.kIn LT isC
        have asks : ∀ {Q : Value → Shared → Prop} {E : Value → Shared → Prop}, Q C { t' with heap := hp3 } → wpAny (model X.prog X.w) (X.A.mark (some (.ref x))) (eval (.Name nm q1) X.env) Q E { t' with heap := hp3 } := fun {Q E} q => by
          obtain ⟨hg, hdb, hm | ⟨hm, hv, hnn⟩⟩ := hc
          · exact ld_glob (X := X.suite x ((x, ob3) :: (X.pn ++ pl))) SI3 hg hm q hdb
          · exact ld_blt (X := X.suite x ((x, ob3) :: (X.pn ++ pl))) SI3 hg hm hv q hnn hdb
        refine asks (LM.here ?_)
        cases yes with
        | true =>
          refine codeAny_handlers_suite_as ?_
          refine HandSPX.lands_againZ land3 fun hp4 land4 upp4 => ?_
          have IJ4 : Inv X pl τ' J' { t' with heap := hp4 } := IJ.landed notB land4.1 ((upp.trans upp3).trans upp4) same agree
          obtain ⟨ob4, fs4, get4, zc4, dat4⟩ := land4.there
          have SI4 := IJ4.suite get4 dat4 freeX neL neF
          refine store_ok (X := X.suite x ((x, ob4) :: (X.pn ++ pl))) (v := .ref x) SI4 h3 hi (.inl hl) rfl (fun t5 SI5 => ?_) (.inr hl)
          refine wpAny_mono ((hs x ob4 cl dd (X.pn ++ pl) zc4 ⟨_, dat4⟩).run [] t5 _ J' _ SI5 (onYes rfl x freeX)) (fun fl t6 ends => ?_) (fun _ _ z => False.elim z)
          have goes : ∀ {τ6 : St} {J6 : Hp} {Q : Shared → Prop}, Inv (X.suite x ((x, ob4) :: (X.pn ++ pl))) [] τ6 J6 t6 → (∀ t7, Inv X pl (τ6.set j none) J6 t7 → Q t7) →
              wpAny (model X.prog X.w) X.A (do bindName X.env y .none; unbindBehindTheSuite X.env y q2) (fun _ t7 => Q t7) X.xe t6 := fun {τ6 J6 Q} SI6 hq => gone_ok (SI6.unsuite okX) h3 hi hl hq
          cases fl with
          | next =>
            obtain ⟨τ6, J6, SI6, q6⟩ := ends
            exact goes SI6 fun t7 IJ7 => ⟨_, _, IJ7, q6⟩
          | brk =>
            obtain ⟨τ6, J6, SI6, q6⟩ := ends
            exact goes SI6 fun t7 IJ7 => ⟨_, _, IJ7, q6⟩
          | cont =>
            obtain ⟨τ6, J6, SI6, q6⟩ := ends
            exact goes SI6 fun t7 IJ7 => ⟨_, _, IJ7, q6⟩
          | ret u =>
            obtain ⟨v6, τ6, J6, SI6, r6, q6⟩ := ends
            exact goes SI6 fun t7 IJ7 => ⟨_, _, _, IJ7, r6, q6⟩
        | false =>
          show wpAny _ X.A (handleBy (.ref x) X.env more) _ _ _
          exact ih (onNo rfl)
      | @bare nm C ts s0 ss q1 q2 more m2 hc hs _ ih =>
        intro w
        obtain ⟨yes, isC, onYes, onNo⟩ := w
        refine wpAny_handleBy_cons (codeAny_handlers_test ?_) (by intro q; cases q)
        have LT : PySem.W.Looks (model X.prog X.w) hp3 (typeOf (.ref x)) cl := fun A Q E t k q => wpAny_typeOf_ref (k _ _ get3) (by rw [zc3.1]; exact q)
        have LM := PySem.W.exm_one (M := model X.prog X.w) IJ3.kIn LT isC
        have asks : ∀ {Q : Value → Shared → Prop} {E : Value → Shared → Prop}, Q C { t' with heap := hp3 } → wpAny (model X.prog X.w) (X.A.mark (some (.ref x))) (eval (.Name nm q1) X.env) Q E { t' with heap := hp3 } := fun {Q E} q => by
          obtain ⟨hg, hdb, hm | ⟨hm, hv, hnn⟩⟩ := hc
          · exact ld_glob (X := X.suite x ((x, ob3) :: (X.pn ++ pl))) SI3 hg hm q hdb
          · exact ld_blt (X := X.suite x ((x, ob3) :: (X.pn ++ pl))) SI3 hg hm hv q hnn hdb
        refine asks (LM.here ?_)
        cases yes with
        | true =>
          refine codeAny_handlers_suite ?_
          refine HandSPX.lands_againZ land3 fun hp4 land4 upp4 => ?_
          have IJ4 : Inv X pl τ' J' { t' with heap := hp4 } := IJ.landed notB land4.1 ((upp.trans upp3).trans upp4) same agree
          obtain ⟨ob4, fs4, get4, zc4, dat4⟩ := land4.there
          have SI4 := IJ4.suite get4 dat4 freeX neL neF
          refine wpAny_mono ((hs x ob4 cl dd (X.pn ++ pl) zc4 ⟨_, dat4⟩).run [] _ _ J' _ SI4 (onYes rfl x freeX)) (fun fl t6 ends => ?_) (fun _ _ z => False.elim z)
          cases fl with
          | next =>
            obtain ⟨τ6, J6, SI6, q6⟩ := ends
            exact ⟨_, _, SI6.unsuite okX, q6⟩
          | brk =>
            obtain ⟨τ6, J6, SI6, q6⟩ := ends
            exact ⟨_, _, SI6.unsuite okX, q6⟩
          | cont =>
            obtain ⟨τ6, J6, SI6, q6⟩ := ends
            exact ⟨_, _, SI6.unsuite okX, q6⟩
          | ret u =>
            obtain ⟨v6, τ6, J6, SI6, r6, q6⟩ := ends
            exact ⟨_, _, _, SI6.unsuite okX, r6, q6⟩
        | false =>
          show wpAny _ X.A (handleBy (.ref x) X.env more) _ _ _
          exact ih (onNo rfl)
    exact along hh w
  · cases fl with
    | next =>
      obtain ⟨τ', J', IJ', q⟩ := ends
      exact wpAny_execs_nil ⟨τ', J', IJ'.ofTry okX, q⟩
    | brk =>
      obtain ⟨τ', J', IJ', q⟩ := ends
      exact ⟨τ', J', IJ'.ofTry okX, q⟩
    | cont =>
      obtain ⟨τ', J', IJ', q⟩ := ends
      exact ⟨τ', J', IJ'.ofTry okX, q⟩
    | ret u =>
      obtain ⟨v, τ', J', IJ', rl, q⟩ := ends
      exact ⟨v, τ', J', IJ'.ofTry okX, rl, q⟩
end
end L2
namespace Z
open PySem PySem.Spec L2
open Py (toD)
section
variable {α β γ δ τ ρ μ : Type} [Py α] [Py β] [Py γ] [Py δ] [Py ρ]
variable {X : Cx} {P : Par} {Wx : WX} {Γ : List Sl} {N : List Str} {sc : Scope} {k : Nat} {a b c e : Expr} {pos pos2 : Pos} {es : List Expr} {st : Stmt} {sts rest : List Stmt}
/-- what clauses make of an error -/
def onEx (Q : ρ → Prop) (E : Ex → Prop) : List (String × (D → ρ)) → Ex → Prop
  | [], e => E e
  | (t, f) :: l, e => (e.tag = t → Q (f e.at_)) ∧ (e.tag ≠ t → onEx Q E l e)
theorem onEx.mono {Q Q' : ρ → Prop} {E E' : Ex → Prop} (h : ∀ a, Q a → Q' a) (h' : ∀ e, E e → E' e) : ∀ {l : List (String × (D → ρ))} {e : Ex}, onEx Q E l e → onEx Q' E' l e
  | [], e, q => h' e q
  | (t, f) :: l, e, q => ⟨fun z => h _ (q.1 z), fun z => onEx.mono h h' (q.2 z)⟩
def trysW (m : W (Fl τ Unit ρ)) (l : List (String × (D → ρ))) (mk : τ → W ρ) : W ρ :=
  ⟨fun Q E => m.wp (fun z => match z with | .nx t => (mk t).wp Q E | .bk _ => False | .rt r => Q r) (onEx Q E l), fun h h' q => m.mono (fun z y => by
    cases z with
    | nx t => exact (mk t).mono h h' y
    | bk _ => exact y
    | rt r => exact h _ y) (fun e y => onEx.mono h h' y) q⟩
inductive HsOk (X : Cx) (P : Par) (N : List Str) (sc : Scope) : List ExceptHandler → List (String × (D → ρ)) → Prop
  | nil : HsOk X P N sc [] []
  | cons {t : String} {C : Addr} {f : D → ρ} {x : Str} {b0 : Stmt} {suite : List Stmt} {np hp : Pos} {more : List ExceptHandler} {l : List (String × (D → ρ))} (i : Nat) (o : XOk P.u t C) (hs : SU X P i C (b0 :: suite) f) (hr : HsOk X P N sc more l)
      (hi : N[i]? = some x := by rfl) (hx : sc.names.lookup x = some .local := by rfl) (hg : GlS sc (Str.ofString t) := by rfl) (hdb : (Str.ofString t == ("__debug__" : Str)) = false := by decide) :
      HsOk X P N sc (.ExceptHandler (some (.Name (Str.ofString t) np)) (some x) (b0 :: suite) hp :: more) ((t, f) :: l)
theorem HsOk.nm {hs : List ExceptHandler} {l : List (String × (D → ρ))} (cc : Dok X P Wx N sc k) (h : HsOk X P N sc hs l) : ∃ m, NmOk X hs m ∧ ∀ (Dn : Ends) (Q : ρ → Prop) (E : Ex → Prop), (∀ r v H G, RelB P G H → Den G (toD r) v → Q r → Dn.rt v H) → XC P Wx E →
    ∀ cls d σ H G e, RelB P G H → XDen P cls d H G e → onEx Q E l e → wNm X.K Wx Dn m cls d σ H := by
  induction h with
  | nil => exact ⟨[], .nil, fun Dn Q E _ kx cls d σ H G e B xd q => kx cls d σ H G e B xd q⟩
  | @cons t C f x b0 suite np hp more l i o hs hr hi hx hg hdb ih =>
    obtain ⟨m, h1, h2⟩ := ih
    obtain ⟨fI, cda, c2, T⟩ := o.tx
    refine ⟨_, .named (C := .ref C) (j := i) (ts := rdU P i C f) ⟨gl cc.toCok hg, hdb, .inl (by rw [cc.hmg]; exact T.gC)⟩ (by rw [cc.hN]; exact hi) (by rw [← hx, ← cc.hsc]; rfl) hs h1, fun Dn Q E kk kx cls d σ H G e B xd q => ?_⟩
    obtain ⟨C', hC', ecls, dd, v, ed, ea, dv⟩ := id xd
    have ht := o.te e.tag C' hC'
    refine ⟨e.tag == t, by rw [cc.hK, ecls]; exact ht, fun hb' a ha => ?_, fun hb' => ?_⟩
    · have et : e.tag = t := by simpa using hb'
      have eC : C' = C := by
        rw [et, o.cm] at hC'
        exact (Option.some.inj hC').symm
      subst eC
      exact ⟨G, e.at_, dd, v, σ, B, rfl, ecls, ed, ea, dv, fun w H2 G2 B2 d2 => kk _ w H2 G2 B2 d2 (q.1 et)⟩
    · have et : e.tag ≠ t := by simpa using hb'
      exact h2 Dn Q E kk kx cls d σ H G e B xd (q.2 et)
theorem tb_trys {h0 : ExceptHandler} {hs : List ExceptHandler} {l : List (String × (D → ρ))} {m : W (Fl τ Unit ρ)} {mk : τ → W ρ} {Nn : τ → List Sl} (cc : Dok X P Wx N sc k)
    (hb : ∀ (W' : WX) (pn : List (Addr × Obj)) (xe : Value → Shared → Prop), Dok (X.tr pn xe) P W' N sc k → FB (X.tr pn xe) P W' Γ sts m Nn (fun _ => []))
    (hh : HsOk X P N sc (h0 :: hs) l) (hr : ∀ t, TB X P Wx (Nn t) rest (mk t)) :
    TB X P Wx Γ (.Try sts (h0 :: hs) [] [] pos :: rest) (trysW m l mk) := by
  obtain ⟨M, n1, n2⟩ := hh.nm cc
  refine ⟨fun pins s σ H D I h => ?_⟩
  obtain ⟨G, Q, E, R, q, kk, kx⟩ := h
  refine (pss_cons (u := fun D' σ1 H1 => ∃ t G1, Rel P (Nn t) σ1 G1 H1 ∧ (mk t).wp Q E ∧ (∀ r v H' G', RelB P G' H' → Den G' (toD r) v → Q r → D'.rt v H'))
    (ps_try_nm (tb := fun W' => rdF P W' Γ m Nn (fun _ => [])) (Wo := Wx) cc.stk cc.frm (by rw [cc.hN]; exact cc.nd) cc.tk (fun W' pn xe tk po => hb W' pn xe (cc.tr tk po)) n1) ?_).run pins s σ H D I ?_
  · refine ⟨fun pins s σ1 H1 D' I1 h' => ?_⟩
    obtain ⟨t, G1, R1, q1, k1⟩ := h'
    exact (hr t).run pins s σ1 H1 D' I1 ⟨G1, Q, E, R1, q1, k1, kx⟩
  · refine ⟨G, _, _, R, q, fun t σ' H' G' R' s' q' => ⟨t, G', R', q', kk⟩, fun _ _ _ _ _ _ q' => (show False from q').elim, fun r v H' G' B d q' => kk r v H' G' B d q', ?_⟩
    intro cls d σ' H' G' e B xd qe
    refine n2 _ Q E ?_ kx cls d σ' H' G' e B xd qe
    exact fun r v H' G' B d q' => kk r v H' G' B d q'
/-- return ("..", x.at) -/
theorem su_tag {t : String} {C : Addr} {np pa p1 p2 : Pos} {tg : Str} {tk : Nat} {j : Nat} {x : Str} (cc : Dok X P Wx N sc k) (i : Nat) (o : XOk P.u t C) (hi : N[i]? = some x := by rfl) (hx : sc.names.lookup x = some .local := by rfl) (hd : (x == ("__debug__" : Str)) = false := by decide)
    (hcd : (x == ("__classdict__" : Str)) = false := by decide) (hb : attributeBase (.Name x np) "at" X.env (eval (.Name x np) X.env) = eval (.Name x np) X.env := by rfl) 
    (hs : starEach [.Constant (.str tg) tk p2, .Attribute (.Name x np) "at" pa] X.env = (false, eval (.Constant (.str tg) tk p2) X.env) :: starEach [.Attribute (.Name x np) "at" pa] X.env := by rfl)
    (hs2 : starEach [.Attribute (.Name x np) "at" pa] X.env = (false, eval (.Attribute (.Name x np) "at" pa) X.env) :: starEach [] X.env := by rfl) :
    SU X P i C [.Return (some (.Tuple [.Constant (.str tg) tk p2, .Attribute (.Name x np) "at" pa] j p1)) pos] (fun d : D => D.tup [.str tg, d]) := by
  intro a oe cls d pn hz hf
  obtain ⟨fI, cda, c2, T⟩ := o.tx
  have T' : Bq.Txt X.prog X.K X.mg (Str.ofString t) C fI cda c2 := by
    rw [cc.hprog, cc.hK, cc.hmg]
    exact T
  have pv : PE (X.suite a ((a, oe) :: pn)) (.Attribute (.Name x np) "at" pa) (tAt C a cls d (tVar i)) := pe_at (pos := pa) T' hz hf (pe_var (pos := np) (i := i) (by show X.N[i]? = _; rw [cc.hN]; exact hi) (by show Vis X.env.scope x; rw [cc.hsc]; exact Or.inl hx) hd hcd) hb
  have key : PSs (X.suite a ((a, oe) :: pn)) [.Return (some (.Tuple [.Constant (.str tg) tk p2, .Attribute (.Name x np) "at" pa] j p1)) pos] (tRet (tTup (tCons (tC (.str tg)) (tCons (tAt C a cls d (tVar i)) tNil)))) :=
    pss_one (ps_ret (pos := pos) (pe_tup (pa_cons pe_str (pa_cons pv pa_nil hs2) hs)))
  refine ⟨fun pins s σ H Dn I h => key.run pins s σ H Dn I ?_⟩
  obtain ⟨G, x, dd, v, σ0, B, rfl, e2, e3, e4, dv, kk⟩ := h
  have hl : σ0.length = N.length := by
    have z := I.len
    rw [List.length_set] at z
    rw [z]
    exact congrArg List.length cc.hN
  refine ⟨_, List.getElem?_set_self (by rw [hl]; exact (List.getElem?_eq_some_iff.mp hi).1), rfl, e2, dd, v, e3, e4, ?_⟩
  refine ⟨by show (2 : Nat) ≤ sizeLine; decide, fun p hp => ?_⟩
  have g2 := grow_new (o := .tup [.str tg, v]) B hp
  refine kk (.ref p) _ _ (B.grow g2) ?_
  show Den _ (D.tup [.str tg, x]) _
  simp only [Den]
  exact ⟨p, _, rfl, upd_same, DenL.cons_iff.mpr ⟨_, _, rfl, by simp only [Den], DenL.one (Den.mono g2.g _ _ dv)⟩, by simp⟩
theorem bb_opt {Γ : Option α → List Sl} {f : α → W τ} {Nn : τ → List Sl} (t : Option α) (h : ∀ r, BB X P Wx (Γ (some r)) sts (f r) Nn) : BB X P Wx (Γ t) sts (optW t f) Nn := by
  cases t with
  | none =>
    exact PSs.imp pss_never fun D σ H h => by
      obtain ⟨G, Q, E, R, w, _⟩ := h
      exact w
  | some r => exact h r
theorem fb_opt {Γ : Option α → List Sl} {f : α → W (Fl τ μ ρ)} {Nn : τ → List Sl} {Lb : μ → List Sl} (t : Option α) (h : ∀ r, FB X P Wx (Γ (some r)) sts (f r) Nn Lb) : FB X P Wx (Γ t) sts (optW t f) Nn Lb := by
  cases t with
  | none =>
    exact PSs.imp pss_never fun D σ H h => by
      obtain ⟨G, Q, E, R, w, _⟩ := h
      exact w
  | some r => exact h r
theorem xb_opt {Γ : Option α → List Sl} {f : α → W (Fl τ μ ρ)} {Lb : μ → List Sl} (t : Option α) (h : ∀ r, XB X P Wx (Γ (some r)) sts (f r) Lb) : XB X P Wx (Γ t) sts (optW t f) Lb := by
  cases t with
  | none =>
    exact PSs.imp pss_never fun D σ H h => by
      obtain ⟨G, Q, E, R, w, _⟩ := h
      exact w
  | some r => exact h r
end
end Z

set_option autoImplicit false
set_option Elab.async false
set_option linter.all false
set_option maxRecDepth 100000
set_option maxHeartbeats 1000001
set_option exponentiation.threshold 10000
namespace K
open PySem PySem.Spec L2 Z
open Py (toD)
/-! more about sizes and errors -/
theorem sz_le {n : Nat} {a b : Int} (h : Sz n b) (a0 : 0 ≤ a) (hab : a ≤ b) : Sz n a := by
  unfold Sz at *
  omega
theorem sz0 {n : Nat} : Sz n 0 := Nat.pow_pos (by decide)
theorem mulE {a b : Int} (ha : Sz 400000 a) (hb : Sz 400000 b) : mulW a b = W.pure (a * b) := need_pure ⟨ha, hb⟩
theorem fdivE {a b : Int} (h0 : 0 < b) (hb : Sz 9000 b) : fdivW a b = W.pure (a / b) := need_pure ⟨h0, hb⟩
theorem sz_of_lt {x : Int} {n m : Nat} (h0 : 0 ≤ x) (h : x < 2 ^ n) (hn : n ≤ m) : Sz m x := sz_up (n := n) (by
  have e : ((2 ^ n : Nat) : Int) = (2 : Int) ^ n := by simp
  unfold Sz
  rw [← e] at h
  generalize 2 ^ n = k at *
  omega) hn
section
variable {α β γ τ ρ : Type} [Py ρ]
theorem raise_b1 (t d) (f : α → W β) : W.b1 (W.raise t d) f = W.raise t d := rfl
theorem raise_bindE (t d) (f : α → W β) : (W.raise t d : W α).bind f = W.raise t d := rfl
theorem raise_b2 (a : α) (t d) (f : α → β → W γ) : W.b2 (W.pure a) (W.raise t d) f = W.raise t d := rfl
theorem raise_b2' (t d) (n : W β) (f : α → β → W γ) : W.b2 (W.raise t d) n f = W.raise t d := rfl
theorem trys_rt {r : ρ} {l : List (String × (D → ρ))} {mk : τ → W ρ} : trysW (W.pure (.rt r)) l mk = W.pure r := rfl
theorem trys_hd {t : String} {d : D} {f : D → ρ} {l : List (String × (D → ρ))} {mk : τ → W ρ} : trysW (W.raise t d) ((t, f) :: l) mk = W.pure (f d) :=
  W.ext' fun Q E => ⟨fun q => q.1 rfl, fun q => ⟨fun _ => q, fun n => absurd rfl n⟩⟩
theorem trys_tl {t t' : String} {d : D} {f : D → ρ} {l : List (String × (D → ρ))} {mk : τ → W ρ} (h : t ≠ t') : trysW (W.raise t d) ((t', f) :: l) mk = trysW (W.raise t d) l mk :=
  W.ext' fun Q E => ⟨fun q => q.2 h, fun q => ⟨fun n => absurd n h, fun _ => q⟩⟩
end
/-- true once, true always: a test of the law -/
theorem not_true {α : Type} (a b : W α) : W.ite (W.not (W.pure true)) a b = b := rfl
theorem andE {a b : Bool} : W.and (W.pure a) (W.pure b) = W.pure (a && b) := by cases a <;> rfl
theorem orE {a b : Bool} : W.or (W.pure a) (W.pure b) = W.pure (a || b) := by cases a <;> rfl
end K

set_option autoImplicit false
set_option Elab.async false
set_option linter.all false
set_option maxRecDepth 100000
set_option maxHeartbeats 3000001
/-! repr: the law's own def, called by the judge's caller, where no repr is under way -/
namespace L2
open PySem PySem.Spec PyProof.Rows
/-- a promise of a def at one place of call -/
def RunAt (A : Around) (P : Program) (w : World) (F : PySem.W.Frag) (mg : Str → Option Value) (ba : Heap) (CX : CXT) (f : Addr) (ps : List Str) (sp : Sp) : Prop :=
  ∀ (en : List Env) (t : Shared) (J : Hp) (ar : Args) (ws : List Value) (xs : List V) (Q : VK) (E : XK) (fd : FuncData), (∃ oc od osl, F.lookup f = some ⟨oc, od, .func fd, osl⟩) → Env0 P w F mg ba A en t J → BindsTo t fd ar (ps.zip ws) → Vals xs ws → sp xs J Q E →
    codeAny (model P w) A (.call (.ref f) ar) (CR CX en P w J t Q E) t
theorem runAt_of {A : Around} {CX : CXT} {P : Program} {w : World} {F : PySem.W.Frag} {mg : Str → Option Value} {ba : Heap} {k : Nat} {f : Addr} {x qual : Str} {st : Stmt} {fd : FuncData} {N ps : List Str} {sp : Sp}
    (hF : Fun F x qual st f fd) (S : FnScope N ps (defScope st)) (hr : Room (k + 1) A) (len : ∀ xs J Q E, sp xs J Q E → xs.length = ps.length)
    (hb : ∀ (cv : Value) (hcv : fd.code = cv) (en : List Env) (t : Shared) (J : Hp) (xs : List V) (Q : VK) (E : XK), Room k (A.deeper (envOfC qual (defScope st) t.heap.objs.size f cv)) → sp xs J Q E →
      ∃ u, PSs (cxOf CX P w F mg ba N qual (defScope st) f cv A en t J E) (defBody st) u ∧ u { nx := fun _ J' => Q .non J', rt := Q } (start N xs) J) : RunAt A P w F mg ba CX f ps sp := by
  intro en t J ar ws xs Q E fd' hl e0 bd rv hs
  obtain ⟨oc, od, kV, doc, pm, an, cv, ct, osl, rfl, lk, hcd⟩ := hF.ex
  obtain ⟨oc', od', osl', lk'⟩ := hl
  rw [lk] at lk'
  cases lk'
  have ln := len _ _ _ _ hs
  have inK : F.In t.heap := e0.mod.kin.keeps fun b o e => (e0.bs b o e).1
  have noL : t.heap.NoLimit := e0.mod.nolimit.keeps fun b o e => (e0.bs b o e).1
  have kinds : ∀ y ∈ ps.zip ws, (defScope st).names.lookup y.1 = some .local ∨ ((defScope st).names.lookup y.1 = some .cell ∧ ((cellsFrom (t.heap.objs.size + 1) (defScope st).names []).lookup y.1).isSome = true) := fun ⟨n, v⟩ hy => by
    rcases S.par n (List.of_mem_zip hy).1 with q | q
    · exact .inl q
    · exact .inr ⟨q, PySem.W.cellsFrom_some _ _ _ (.inl q)⟩
  refine codeAny_call_function hr.depth (inK _ _ lk) rfl S.co S.gen rfl (PySem.W.codeRec_of inK hcd) (bd _ _ _ _ ?_)
  refine wpAny_newFunctionEnv_cells S.kind kinds fun env he t1 inC => ?_
  subst he
  refine ⟨noL.keeps inC.toInCall.keep, codeAny_func ?_⟩
  obtain ⟨u, hu, hq⟩ := hb cv rfl en t J xs Q E (hr.deeper _) hs
  have I : Inv (cxOf CX P w F mg ba N qual (defScope st) f cv A en t J E) [] (start N xs) J t1 := inv_start S hr.hd e0 ln rv inC
  refine wpAny_mono (hu.run [] t1 (start N xs) J _ I hq) (fun fl t' ends => ?_) fun e t' hs => hs
  have done : ∀ {τ : St} {J' : Hp} {v : V} {y : Value}, Inv (cxOf CX P w F mg ba N qual (defScope st) f cv A en t J E) [] τ J' t' → RelV v y → Q v J' → CE en P w J t Q y t' :=
    fun {τ J' v y} IJ rl q => ⟨v, J', IJ.os, IJ.bare, IJ.base, IJ.hok, rl, q⟩
  cases fl with
  | ret y =>
    obtain ⟨v, τ, J', IJ, rl, q⟩ := ends
    exact done IJ rl q
  | next =>
    obtain ⟨τ, J', IJ, q⟩ := ends
    exact done (v := V.non) (y := Value.none) IJ rfl q
  | brk =>
    obtain ⟨_, _, _, q⟩ := ends
    exact False.elim q
  | cont =>
    obtain ⟨_, _, _, q⟩ := ends
    exact False.elim q
/-- the judge's call of a law, from the promise at that one place -/
theorem law_callG {P : Program} {w : World} {F : PySem.W.Frag} {mg mb : Str → Option Value} {CX : CXT} {fa a : Addr} {fd : FuncData} {x : Str} {sp : Sp} {t₁ : Shared} {ws : List Value} {ns : List Int}
    (hK : F.In t₁.heap) (hns : t₁.heap.Ns mainGlobals mg) (hbl : t₁.heap.Ns builtinsNs mb) (hbb : ∀ y : Str, y ≠ "__name__" → mb y = bootBuiltins y) (hlim : t₁.heap.NoLimit) (hgen : t₁.gens = #[])
    (ha : t₁.heap.get? a = some { cls := .type "list", data := .seq ws.toArray }) (hi : IntsAre ws ns) (hl : ns.length ≤ sizeLine) (hfd : ∃ oc od osl, F.lookup fa = some ⟨oc, od, .func fd, osl⟩)
    (run : ∀ ba : Heap, F.In ba → ba.Ns mainGlobals mg → RunAt callerA P w F mg ba CX fa [x] sp) (hbind : ∀ (t : Shared) (u : Value), BindsTo t fd ⟨[u], []⟩ [(x, u)])
    (hsp : ∀ J : Hp, Only J → SqL F J a (ns.map V.int) → sp [.ref a] J (fun v _ => v = .bl true) fun _ _ _ => False)
    (hCX : ∀ J e t', CX [] J t₁ (fun _ _ _ => False) e t' → False) :
    codeAny (model P w) callerA (.call (.ref fa) ⟨[.ref a], []⟩) (fun r t' => r = .ok (.ret (.bool true)) ∧ OldK t₁.heap t'.heap ∧ t'.os = t₁.os ∧ AllBare t'.gens) t₁ := by
  have vals := vals_ints hi
  have lw := hi.length
  have main : ∀ J : Hp, Only J → SqL F J a (ns.map V.int) → HOk P w J t₁.heap → (∀ b, J b ≠ none → b = a) → (J a ≠ none → F.lookup a = none) →
      codeAny (model P w) callerA (.call (.ref fa) ⟨[.ref a], []⟩) (fun r t' => r = .ok (.ret (.bool true)) ∧ OldK t₁.heap t'.heap ∧ t'.os = t₁.os ∧ AllBare t'.gens) t₁ := by
    intro J only sq hok justA notK
    have inBase : ∀ {b : Addr} {o : Obj}, t₁.heap.get? b = some o → J b = none → (hidT t₁.heap J).get? b = some o := fun e n => hidT_get e n
    have noDict : ∀ {b : Addr} {o : Obj} {es : Array DictEntry} {ep : Nat}, t₁.heap.get? b = some o → o.data = .dict es ep → J b = none := fun {b o es ep} e d => by
      cases q : J b with
      | none => rfl
      | some u =>
        have eb : b = a := justA b (by rw [q]; simp)
        subst eb
        rw [ha] at e; cases e
        have dd : Data.seq ws.toArray _ = Data.dict es ep := d
        cases dd
    have nsB : ∀ {b : Addr} {m : Str → Option Value}, t₁.heap.Ns b m → (hidT t₁.heap J).Ns b m := fun {b m} ⟨o, es, ep, e, d, r⟩ => ⟨o, es, ep, inBase e (noDict e d), d, r⟩
    have inB : F.In (hidT t₁.heap J) := fun b o e => inBase (hK b o e) (by
      cases q : J b with
      | none => rfl
      | some u =>
        have eb : b = a := justA b (by rw [q]; simp)
        subst eb
        rw [notK (by rw [q]; simp)] at e; cases e)
    have md : Mod F mg (hidT t₁.heap J) := ⟨inB, nsB hns, ⟨mb, nsB hbl, hbb⟩, let ⟨mc, g1, g2⟩ := hlim; ⟨mc, nsB g1, g2⟩⟩
    have env0 : Env0 P w F mg (hidT t₁.heap J) callerA [] t₁ J := ⟨rfl, md, fun b o e => of_hidT e, Nat.le_of_eq (hidT_size _ _), trivial, fun b hb => absurd (show b ∈ ([] : List Addr) from hb) (by simp), hok, .of_eq hgen⟩
    refine codeAny_mono (run _ inB (nsB hns) [] t₁ J ⟨[.ref a], []⟩ [.ref a] [.ref a] _ _ fd hfd env0 (hbind t₁ (.ref a)) (.cons rfl .nil) (hsp J only sq)) fun r t' h => ?_
    cases r with
    | error e => exact (hCX J e t' h).elim
    | ok fl =>
      cases fl with
      | next => exact False.elim h
      | brk => exact False.elim h
      | cont => exact False.elim h
      | ret u =>
        obtain ⟨v, J', os', bare', un, hok', rl, q⟩ := h
        have qv : v = .bl true := q
        subst qv
        obtain rfl : u = Value.bool true := rl
        refine ⟨rfl, OldK.of_keep fun b o e => ?_, os', bare'⟩
        cases q : J b with
        | none => exact un.keep b o e q (by intro z; exact absurd (show b ∈ ([] : List Addr) from z) (by simp)) (by simp)
        | some u =>
          rcases only b with z | ⟨ob, xs, z⟩
          · rw [q] at z; cases z
          · have fz := un.frzs b ob _ z
            obtain ⟨g1, _⟩ := hok b _ z
            obtain ⟨g2, _⟩ := hok' b _ fz
            rw [e] at g1; cases g1
            exact g2
  cases hk : F.lookup a with
  | some o =>
    have e := hK a o hk
    rw [ha] at e
    cases e
    exact main (fun _ => none) (fun _ => .inl rfl) (.inr ⟨_, ws.toArray, _, hk, rfl, rfl, rfl, by rw [List.size_toArray, lw]; exact hl, by simpa using vals⟩) (fun b u z => by have z2 : (none : Option HO) = some u := z; cases z2) (fun b z => absurd rfl z) fun z => absurd rfl z
  | none =>
    refine main (fun b => if b = a then some (.frz { cls := .type "list", data := .seq ws.toArray } (.lst (ns.map V.int))) else none) (fun b => ?_) (.inl (.inr ⟨{ cls := .type "list", data := .seq ws.toArray }, if_pos rfl⟩)) (fun b u z => ?_) (fun b z => ?_) fun _ => hk
    · by_cases eb : b = a
      · exact .inr ⟨_, _, if_pos eb⟩
      · exact .inl (if_neg eb)
    · by_cases eb : b = a
      · have z2 := (if_pos eb).symm.trans z
        cases z2
        subst eb
        exact ⟨ha, by rw [List.length_map]; exact hl, ws, _, vals, ha⟩
      · have z2 := (if_neg eb).symm.trans z
        cases z2
    · by_cases eb : b = a
      · exact eb
      · exact absurd (if_neg eb) z
theorem walk_ofG {l : PySem.W.OpenLaw} {n : Nat} {q : Program} {loose : List Str} {XP : (Str → Option Value) → Heap → Prop} {YP : World → Heap → Prop} {d : DefRec} {F : Params → PySem.W.Frag} {CX : World → CXT} {sp : World → Sp} {x : Str}
    (hn : l.most = some n) (hn2 : n ≤ sizeLine) (hdf : d.params.defaults = []) (hY : ∀ (w : World) (h : Heap), YP w h → (F w.params).In h)
    (main : ∀ (w : World) (mg : Str → Option Value) (fa : Addr) (h : Heap), (F w.params).In h → h.Ns mainGlobals mg → mg d.name = some (.ref fa) →
      ∃ fd : FuncData, (∃ oc od osl, (F w.params).lookup fa = some ⟨oc, od, .func fd, osl⟩) ∧ (∀ (t : Shared) (u : Value), BindsTo t fd ⟨[u], []⟩ [(x, u)]) ∧ ∀ ba : Heap, (F w.params).In ba → ba.Ns mainGlobals mg → RunAt callerA l.prog w (F w.params) mg ba (CX w) fa [x] (sp w))
    (hsp : ∀ (w : World) (J : Hp) (a : Addr) (ns : List Int), ns.length ≤ n → Only J → SqL (F w.params) J a (ns.map V.int) → sp w [.ref a] J (fun v _ => v = .bl true) fun _ _ _ => False)
    (hCX : ∀ (w : World) (J : Hp) (t : Shared) (e : Value) (t' : Shared), CX w [] J t (fun _ _ _ => False) e t' → False) :
    PySem.W.WalkO q loose XP YP l.row.toRowW d [] (fun f vs => PySem.call f vs) := by
  refine Att.attach_call hn hdf fun w t₀ t₁ mg mb fa o pm cd doc a ws ns G Y ho hd hcd hmg hobj hints hlen hgen => ?_
  have hK := hY w _ Y
  obtain ⟨fd, lk, bind, run⟩ := main w mg fa _ hK G.T.g hmg
  exact law_callG hK G.T.g G.T.b G.T.builtins G.T.nolimit hgen hobj hints (Nat.le_trans hlen hn2) lk run bind (fun J only sq => hsp w J a ns hlen only sq) fun J e t' => hCX w J t₁ e t'
/-- repr(x), x plain data, where none is under way -/
def rReprD (F : PySem.W.Frag) : List V → Hp → VK → Prop := fun xs J Q => ∃ (a : Addr) (d : PyData), xs = [.ref a] ∧ Dp F J (.ref a) d ∧ d.showable = true ∧ d.hasDict = false ∧ d.depth ≤ 64 ∧ d.shown.length ≤ sizeLine ∧ Q (.str d.shown) J
theorem call_reprD {X : Cx} (hg : X.A.guards = some []) (hu : X.A.units + 80 < cLine) : CallR X (.builtin "repr") (rReprD X.K) := by
  intro pl t τ J xs us Q I r h
  obtain ⟨a, d, rfl, hd, hs, hn, h64, hz, q⟩ := h
  obtain ⟨u, rfl, ru⟩ := vals1 r
  have ru2 : u = .ref a := ru
  subst ru2
  obtain ⟨as, rd⟩ := Dp.reads I d (.ref a) (.ref a) hd rfl
  refine repr_of_reads' rd hs (fun z => by rw [hn] at z; cases z) hg (by omega) (fun _ _ e => e) (fun h' v tk keep => ?_) hz
  exact ⟨.str d.shown, J, I.kept (t' := tk) keep, ⟨_, rfl⟩, q⟩
end L2
namespace Z
open PySem PySem.Spec L2
open Py (toD)
section
variable {α β γ δ τ ρ μ : Type} [Py α] [Py β] [Py γ] [Py δ] [Py ρ]
variable {X : Cx} {P : Par} {Wx : WX} {Γ : List Sl} {N : List Str} {sc : Scope} {k : Nat} {a b c e : Expr} {pos pos2 : Pos} {es : List Expr} {st : Stmt} {sts rest : List Stmt}
def isSeqD : D → Bool | .tup _ => true | .lst _ => true | _ => false
def reprOk (d : D) : Prop := isSeqD d = true ∧ flat d = true ∧ (pd d).showable = true ∧ (pd d).hasDict = false ∧ (pd d).depth ≤ 64 ∧ (pd d).shown.length ≤ sizeLine
def reprW (x : α) : W Str := W.need (reprOk (toD x)) (pd (toD x)).shown
theorem ex_repr {m : W α} {p : Pos} (cc : Cok X P Wx N sc k) (hgd : X.A.guards = some []) (ha : EX X P Wx Γ e m) (hg : GlS sc "repr" := by rfl) (hs : starEach [e] X.env = (false, eval e X.env) :: starEach [] X.env := by rfl) :
    EX X P Wx Γ (.Call (.Name "repr" p) [e] [] pos) (W.b1 m reprW) :=
  PE.imp (pe_callB (call_reprD hgd (by have := cc.room.un; omega)) (gl cc hg) (blt cc) (by decide +kernel) (pa_cons ha pa_nil hs) (by decide) (by decide) hs rfl) fun σ H Q' h => by
    obtain ⟨G, Q, E, R, w, kk, kx⟩ := h
    refine ⟨G, _, E, R, w, fun v H1 G1 x g1 d1 w1 => ?_, kx⟩
    obtain ⟨⟨w0, w2, w3, w4, w5, w6⟩, w7⟩ := w1
    have R1 := R.grow g1
    have hv : ∃ a, v = .ref a := by
      have d1 : Den G1 (toD x) v := d1
      generalize toD x = d at *
      cases d <;> first | (simp [isSeqD] at w0; done) | skip
      all_goals
        simp only [Den] at d1
        obtain ⟨a, _, rfl, _⟩ := d1
        exact ⟨a, rfl⟩
    obtain ⟨a, rfl⟩ := hv
    exact ⟨a, pd (toD x), rfl, den_dp R1.sub _ _ w2 d1, w3, w4, w5, w6, kk _ _ _ _ g1 (den_str.mpr rfl) w7⟩
end
end Z

set_option autoImplicit false
set_option Elab.async false
set_option linter.all false
set_option maxRecDepth 100000
set_option maxHeartbeats 3000001
namespace Z
open PySem PySem.Spec L2
open Py (toD)
theorem law_okG {u : Wd} {k kd : Nat} {st : Stmt} {f fD : Addr} {fd fdD : FuncData} {N : List Str} {n : Nat} {m : W Bool} {rest : List Stmt} {salt : Int} {j : Nat} {p1 p2 p3 p4 p5 p6 : Pos} (wo : WOk u) (hF : Fun u.K "law" "law" st f fd) (S : FnScope N ["script"] (defScope st))
    (hmD : u.mg "_law_draw" = some (.ref fD)) (kpD : PySem.W.keepIn u.K (.ref fD) = true) (hbD : Binds u.K fdD ["script", "salt"] []) (FD : FnOk u.prog u.w u.K u.mg u.base (L2.CX u.prog u.w) kd fD fdD ["script", "salt"] (spDraw u.K)) (hkd : kd ≤ k)
    (hst : defBody st = .Assign [.Name "deal" p1] (.Call (.Name "_law_draw" p2) [.Name "script" p3, .Constant (.int salt) j p4] [] p5) p6 :: rest) (hz : 0 ≤ salt ∧ salt ≤ 1000) (hN0 : N[0]? = some ("script" : Str)) (hN1 : N[1]? = some ("deal" : Str)) (hn : N.length = n + 2)
    (hv0 : Vis (defScope st) "script") (hl1 : L2.Loc (defScope st) "deal") (hg : GlS (defScope st) "_law_draw")
    (hr0 : Room (k + 1) callerA) (hbody : ∀ (X : Cx) (P : Par) (Wx : WX), P.u = u → P.b = true → X.A.guards = some [] → Dok X P Wx N (defScope st) k → TB X P Wx (.un :: .deal :: List.replicate n .un) rest m) (hm : m.wp (fun r => r = true) fun _ => False) :
    RunAt callerA u.prog u.w u.K u.mg u.base (L2.CX u.prog u.w) f ["script"] (spLaw u.K) := by
  refine runAt_of hF S hr0 (fun vs H Q E h => ?_) (fun cdv _ outer s H vs Q E hr h => ?_)
  · obtain ⟨a, ns, rfl, _⟩ := h
    rfl
  · obtain ⟨a, ns, rfl, hS, hl, kk⟩ := h
    let X := cxOf (L2.CX u.prog u.w) u.prog u.w u.K u.mg u.base N "law" (defScope st) f cdv callerA outer s H E
    have D0 : ∀ da dq H0, Dok X (parOf u true da dq H0 (fun _ => none)) (fun cls d _ H => E cls d H) N (defScope st) k := fun da dq H0 =>
      ⟨⟨rfl, rfl, rfl, rfl, rfl, rfl, rfl, wo.bl, rfl, S.nd, hr, takes_of rfl rfl rfl rfl⟩, fun _ => rfl, passes_of rfl, rfl, rfl⟩
    have c0 := (D0 0 0 H).toCok
    have A1 : PS X (.Assign [.Name "deal" p1] (.Call (.Name "_law_draw" p2) [.Name "script" p3, .Constant (.int salt) j p4] [] p5) p6) (tAsg (tCallS (spDraw u.K) (WE fun cls d _ H => E cls d H) (tCons (tVar 0) (tCons (tC (.int salt)) tNil))) (gName 1)) :=
      ps_set (i := 1) S.nd hN1 hl1 (pe_callS FD (hr.mono hkd) (gl c0 hg) hmD kpD hbD (fun σ => passAt c0.tk σ) (pa_cons (pe_var hN0 hv0) (pa_cons pe_int pa_nil)) (by decide) rfl rfl) rfl (.inl rfl)
    have A2 : PSs X rest (fun D σ H' => ∃ da dq H0, rdR (parOf u true da dq H0 (fun _ => none)) (fun cls d _ H => E cls d H) (.un :: .deal :: List.replicate n .un) m D σ H') :=
      ⟨fun pins s σ H D I ⟨da, dq, H0, q⟩ => (hbody X _ _ rfl rfl rfl (D0 da dq H0)).run pins s σ H D I q⟩
    rw [hst]
    refine ⟨_, pss_cons A1 A2, ?_⟩
    refine ⟨_, rfl, a, ns, salt, rfl, hS, hl, hz, fun da dq H' k2 k3 h1 h2 dk => ?_⟩
    refine ⟨da, dq, H', fun _ => none, fun r => r = true, fun _ => False, ?_, hm, fun r v H2 G2 B d e => ?_, fun _ _ _ _ _ _ _ _ z => z.elim⟩
    · refine ⟨⟨fun b o z => (nomatch z), fun b o z _ => z, fun b o z => z, fun b o z n => n, fun z => ⟨dk, tabs_nil _⟩, fun b z => rfl, fun _ ps z => ⟨ps, z⟩⟩, ?_, fun i s e => ?_, fun i j p l m _ e1 => ?_⟩
      · unfold L2.start
        simp only [List.length_set, List.length_append, List.length_map, List.length_cons, List.length_nil, List.length_replicate]
        omega
      · match i, e with
        | 0, e => cases e; exact ⟨_, rfl, trivial⟩
        | 1, e =>
          cases e
          have h1 : 1 < (L2.start N [V.ref a]).length := by
            unfold L2.start
            simp only [List.length_append, List.length_map, List.length_cons, List.length_nil, List.length_replicate]
            omega
          exact ⟨_, List.getElem?_set_self h1, rfl, rfl⟩
        | i + 2, e =>
          have e : (List.replicate n Sl.un)[i]? = some s := e
          rw [List.getElem?_replicate] at e
          split at e
          · cases e
            rename_i hi
            have h2 : i + 2 < ((L2.start N [V.ref a]).set 1 (some (V.ref da))).length := by
              unfold L2.start
              simp only [List.length_set, List.length_append, List.length_map, List.length_cons, List.length_nil, List.length_replicate]
              omega
            exact ⟨_, List.getElem?_eq_getElem h2, trivial⟩
          · cases e
      · match i, e1 with
        | 0, e => cases e
        | 1, e => cases e
        | i + 2, e =>
          have e : (List.replicate n Sl.un)[i]? = some (.ownK _ l) := e
          rw [List.getElem?_replicate] at e
          split at e <;> cases e
    · have ev : v = .bl r := den_bool.mp d
      subst ev
      rw [e]
      exact kk H2
end Z

set_option autoImplicit false
set_option Elab.async false
set_option linter.all false
set_option maxRecDepth 100000
set_option maxHeartbeats 3000001
namespace Z
open PySem PySem.Spec L2
open Py (toD)
section
variable {α β γ δ τ ρ μ : Type} [Py α] [Py β] [Py γ] [Py δ] [Py ρ]
variable {X : Cx} {P : Par} {Wx : WX} {Γ : List Sl} {N : List Str} {sc : Scope} {k : Nat} {a b c e tg iter elt : Expr} {pos : Pos} {es ifs : List Expr} {st : Stmt} {sts rest body : List Stmt}
theorem c_eqS : CmpR X P Γ .Eq (fun x y : Str => W.pure (decide (x = y))) := ⟨_, op_eq, fun _ _ _ x y _ _ _ _ _ _ d1 d2 w k => by
  rw [den_str.mp d1, den_str.mp d2]
  refine ⟨rfl, ?_⟩
  rw [show decide (V.str x = V.str y) = decide (x = y) by simp]
  exact k _ w⟩
theorem c_neS : CmpR X P Γ .NotEq (fun x y : Str => W.pure (!decide (x = y))) := ⟨_, op_ne, fun _ _ _ x y _ _ _ _ _ _ d1 d2 w k => by
  rw [den_str.mp d1, den_str.mp d2]
  refine ⟨rfl, ?_⟩
  rw [show decide (V.str x = V.str y) = decide (x = y) by simp]
  exact k _ w⟩
/-- the items of a tuple or a list that are all of one kind -/
def seqC (α : Type) [Py α] (d : D) : W (List α) := ⟨fun Q _ => ∃ y : List α, (d = .tup (y.map toD) ∨ d = .lst (y.map toD)) ∧ Q y, fun h _ ⟨y, e, q⟩ => ⟨y, e, h y q⟩⟩
theorem EX.other {x : α} {y : β} (h : EX X P Wx Γ e (W.pure x)) (hd : toD y = toD x) : EX X P Wx Γ e (W.pure y) :=
  PE.imp h fun σ H Q' q => by
    obtain ⟨G, Q, E, R, w, k, kx⟩ := q
    have w : Q y := w
    exact ⟨G, fun z => z = x, E, R, rfl, fun v H1 G1 z g1 d1 w1 => k v H1 G1 y g1 (by rw [hd, ← w1]; exact d1) w, kx⟩
theorem ei_seqC {d : D} (h : EX X P Wx Γ e (W.pure d)) : EI X P Wx Γ tg e (seqC α d) := ⟨fun pins s σ H R I q => by
  obtain ⟨G, Q, E, Rl, w, kk, kx⟩ := q
  obtain ⟨y, hd | hd, w⟩ := w
  · have h1 : EX X P Wx Γ e (W.pure (⟨y⟩ : Tup α)) := h.other (by rw [hd]; rfl)
    exact (ei_tup (tg := tg) h1).run pins s σ H R I ⟨G, Q, E, Rl, w, kk, kx⟩
  · have h1 : EX X P Wx Γ e (W.pure y) := h.other (by rw [hd]; rfl)
    exact (ei_list (tg := tg) h1).run pins s σ H R I ⟨G, Q, E, Rl, w, kk, kx⟩⟩
theorem en_listC {m : W D} {p : Pos} (cc : Cok X P Wx N sc k) (ha : EX X P Wx Γ e m) (hg : GlS sc "list" := by rfl) (hs : starEach [e] X.env = (false, eval e X.env) :: starEach [] X.env := by rfl) :
    EN X P Wx Γ (.Call (.Name "list" p) [e] [] pos) (W.b1 m (seqC α)) :=
  en_bt cc call_list_of (by decide +kernel) ha (fun σ G H y v Q E Q' R d w kk => by
    obtain ⟨z, hd | hd, w⟩ := w
    · have d : Den G (toD (⟨z⟩ : Tup α)) v := by rw [show toD (⟨z⟩ : Tup α) = y from hd.symm]; exact d
      obtain ⟨q, vs, rfl, g, t, zl⟩ := den_tup.mp d
      exact ⟨q, vs, rfl, .inr (.inl (.inl (R.sub _ _ g))), fun r hr => kk r z vs hr t zl w⟩
    · have d : Den G (toD z) v := by rw [show toD z = y from hd.symm]; exact d
      obtain ⟨q, vs, rfl, g, t, zl⟩ := den_list.mp d
      exact ⟨q, vs, rfl, .inl (.inl (rd_sub R.sub g)), fun r hr => kk r z vs hr t zl w⟩) (by decide) hg (by decide) (by decide) hs
/-- a name of a comprehension that a comprehension within it reads -/
theorem gbnC {vs : List Nat} {x : Str} (cc : Cok X P Wx N sc k) (hf : X.fn x = true) (i : Nat) (hi : N[i]? = some x := by rfl) (hx : Loc sc x := by first | exact Or.inl rfl | exact Or.inr rfl) (hm : i ∈ vs := by decide) :
    GB X P Γ vs (.Name x pos) (fun a : α => Γ.set i (.dat (toD a))) := gb_name cc.hN cc.nd i hi (by rw [cc.hsc]; exact hx) (.inl hf) hm
/-- {} -/
theorem ex_dct : EX X P Wx Γ (.Dict [] [] pos) (W.pure D.dct) :=
  PE.imp pe_dnewK fun σ H Q' h => by
    obtain ⟨G, Q, E, R, w, kk, kx⟩ := h
    intro p hp
    have g := grow_new (o := .dK []) R.toRelB hp
    refine kk (.ref p) _ _ D.dct g ?_ w
    show Den _ D.dct _
    simp only [Den]
    exact ⟨p, rfl, upd_same⟩
/-- list(range(e)) -/
theorem en_listRg {m : W Int} {p p2 pos2 : Pos} (cc : Cok X P Wx N sc k) (ha : EX X P Wx Γ e m) (hg : GlS sc "list" := by rfl) (hg2 : GlS sc "range" := by rfl) (hs : starEach [e] X.env = (false, eval e X.env) :: starEach [] X.env := by rfl)
    (hs2 : starEach [.Call (.Name "range" p2) [e] [] pos2] X.env = (false, eval (.Call (.Name "range" p2) [e] [] pos2) X.env) :: starEach [] X.env := by rfl) :
    EN X P Wx Γ (.Call (.Name "list" p) [.Call (.Name "range" p2) [e] [] pos2] [] pos) (W.b1 m fun n => rngW 0 n) :=
  PE.imp (pe_listRg cc.calm (gl cc hg) (blt cc) (prg_1 (gl cc hg2) (blt cc) ha hs) hs2) fun σ H Q' h => by
    obtain ⟨G, Q, E, R, w, kk, kx⟩ := h
    refine ⟨G, _, E, R, w, fun v H1 G1 x g1 d1 w1 => ⟨x, den_int.mp d1, ?_, fun r hr => ?_⟩, kx⟩
    · obtain ⟨⟨_, _, w3, w4⟩, _⟩ := w1
      refine ⟨by omega, by omega, by omega, by omega, by omega⟩
    · have R1 := R.grow g1
      have g4 := grow_raw (o := .lst (rgV 0 x)) R1.toRelB hr
      refine kk r _ _ _ (rng 0 x) (g1.trans g4 (DealAt.there R1.dk)) (H_none R.toRelB g1 hr) (R1.toRelB.free hr).2.2 upd_same ?_ ?_ w1.2
      · rw [DenL.ints]
        unfold rgV rng
        rw [List.map_map]
        exact List.map_congr_left fun i _ => rfl
      · have := w1.1.2.2.2
        unfold rng
        rw [List.length_map, List.length_range]
        omega
/-- [..] if c else [..], new either way -/
theorem en_if {m : W Bool} {n o : W (List α)} (hc : TX X P Wx Γ c m) (ha : EN X P Wx Γ a n) (hb : EN X P Wx Γ b o) : EN X P Wx Γ (.IfExp c a b pos) (W.ite m n o) :=
  PE.imp (pe_ifExp hc ha hb) fun σ H Q' h => by
    obtain ⟨G, Q, E, R, w, kk, kx⟩ := h
    refine ⟨G, _, E, R, w, fun H1 G1 x g1 w1 => ?_, kx⟩
    have R1 := R.grow g1
    have fin : ∀ p vs H' G' y, Grow P G1 H1 G' H' → H1 p = none → G' p = none → H' p = some (.lst vs) → DenL G' (y.map toD) vs → y.length ≤ 16777216 → Q y → Q' (.ref p) H' := fun p vs H' G' y g2 h1 h2 h3 h4 h5 q =>
      kk p vs H' G' y (g1.trans g2 (DealAt.there R1.dk)) (H_none R.toRelB g1 h1) h2 h3 h4 h5 q
    cases x with
    | true => exact ⟨G1, Q, E, R1, w1, fin, kx⟩
    | false => exact ⟨G1, Q, E, R1, w1, fin, kx⟩
end
/-- any item of a tuple or a list -/
def ofDW (d : D) : W D := ⟨fun Q _ => ∃ l, (d = .tup l ∨ d = .lst l) ∧ l ≠ [] ∧ l.length ≤ 1000 ∧ ∀ x ∈ l, Q x, fun h _ ⟨l, e, a, b, q⟩ => ⟨l, e, a, b, fun x hx => h x (q x hx)⟩⟩
end Z

set_option autoImplicit false
set_option Elab.async false
set_option linter.all false
set_option maxRecDepth 100000
set_option maxHeartbeats 1000001
set_option exponentiation.threshold 10000
namespace K
open PySem PySem.Spec L2 Z
open Py (toD)
/-! tuples and lists of ints -/
def SeqI (d : D) (l : List Int) : Prop := d = .tup (l.map toD) ∨ d = .lst (l.map toD)
theorem inj_list {α : Type} [Py α] (inj : ∀ x y : α, toD x = toD y → x = y) : ∀ x y : List α, x.map toD = y.map toD → x = y := fun x y h => by
  have := inj_tup inj (⟨x⟩ : Tup α) ⟨y⟩ (congrArg D.tup h)
  exact congrArg Tup.l this
theorem seqC_eq {α : Type} [Py α] (inj : ∀ x y : α, toD x = toD y → x = y) {d : D} {l : List α} (h : d = .tup (l.map toD) ∨ d = .lst (l.map toD)) : seqC α d = W.pure l :=
  W.ext' fun Q E => ⟨fun ⟨y, hy, q⟩ => by
    have : y = l := by
      rcases h with h | h <;> rcases hy with e | e <;> rw [h] at e
      · exact inj_list inj y l (D.tup.inj e).symm
      · cases e
      · cases e
      · exact inj_list inj y l (D.lst.inj e).symm
    rw [← this]
    exact q, fun q => ⟨l, h, q⟩⟩
theorem seqI_C {d : D} {l : List Int} (h : SeqI d l) : seqC Int d = W.pure l := seqC_eq inj_int h
theorem seqD_C {d : D} {l : List D} (h : d = .tup l ∨ d = .lst l) : seqC D d = W.pure l := seqC_eq inj_D (by rw [map_id_D]; exact h)
theorem SeqI.ds {d : D} {l : List Int} (h : SeqI d l) : seqC D d = W.pure (l.map toD) := seqD_C h
theorem SeqI.nobj {d : D} {l : List Int} (h : SeqI d l) : isObj d = false := by rcases h with rfl | rfl <;> rfl
theorem SeqI.len {d : D} {l : List Int} (h : SeqI d l) : lenD d = W.pure (l.length : Int) := by
  rcases h with rfl | rfl
  · show W.pure _ = _
    rw [List.length_map]
  · show W.pure _ = _
    rw [List.length_map]
theorem SeqI.seq {d : D} {l : List Int} (h : SeqI d l) : (isLst d || isTup d) = true := by rcases h with rfl | rfl <;> rfl
theorem SeqI.tup {d : D} {l : List Int} (h : SeqI d l) : tupD d = W.pure (⟨l.map toD⟩ : Tup D) := by rcases h with rfl | rfl <;> rfl
theorem SeqI.flat {d : D} {l : List Int} (h : SeqI d l) : flat d = true := by
  have := (ints_shaped l).2.2
  rcases h with rfl | rfl <;> simpa [Z.flat] using this
theorem SeqI.ix {d : D} {l : List Int} (h : SeqI d l) {i : Nat} (hi : i < l.length) : ixD d (i : Int) = W.pure (.int l[i]) := by
  have e : ixW (l.map toD : List D) (i : Int) = W.pure (toD l[i]) := ixW_nat (by rw [List.getElem?_map, List.getElem?_eq_getElem hi]; rfl)
  rcases h with rfl | rfl <;> exact e
theorem cast_ints (l : List Int) : castW (α := Tup Int) (.tup (l.map toD)) = W.pure ⟨l⟩ := cast_pure (inj_tup inj_int) (⟨l⟩ : Tup Int)
theorem seqI_tup (l : List Int) : SeqI (.tup (l.map toD)) l := .inl rfl
theorem seqI_lst (l : List Int) : SeqI (toD l) l := .inr rfl
/-! the set of counts -/
theorem clos_mem {l : List Int} {r : FR} (h : IsCl l r) {n : Int} (n0 : 0 ≤ n) : within r.1.l r.2 n = true ↔ Cls (· ∈ l) n :=
  ⟨fun w => (h n).mp ⟨n0, w⟩, fun w => ((h n).mpr w).2⟩
end K

set_option autoImplicit false
set_option Elab.async false
set_option linter.all false
set_option maxRecDepth 100000
set_option maxHeartbeats 1000001
set_option exponentiation.threshold 10000
namespace K
open PySem PySem.Spec L2 Z
open Py (toD)
/-! what repr of ints comes to -/
theorem int_short {i : Int} (h : Sz 200 i) : (PyData.int i).showable = true ∧ (PyData.int i).leavesShort 62 = true ∧ (PyData.int i).weight ≤ 201 := by
  have h : i.natAbs < 2 ^ 200 := h
  have l2 : i.natAbs.log2 < 200 ∨ i.natAbs = 0 := by
    by_cases z : i.natAbs = 0
    · exact .inr z
    · exact .inl ((Nat.log2_lt z).mpr h)
  refine ⟨?_, ?_, ?_⟩
  · simp only [PyData.showable, decide_eq_true_eq]
    rcases l2 with q | q
    · omega
    · rw [q]; decide
  · have e := int_text_length_le10 (k := 61) (by decide) (Nat.lt_of_lt_of_le h (by decide +kernel))
    simp only [PyData.leavesShort, decide_eq_true_eq]
    show (Str.ofString (toString i)).length ≤ 62
    rw [ofString_length]
    exact e
  · simp only [PyData.weight]
    split
    · omega
    · rcases l2 with q | q
      · omega
      · rw [q]; decide
theorem ints_short : ∀ {l : List Int}, (∀ x ∈ l, Sz 200 x) → PyData.showableAll (pdL (l.map toD)) = true ∧ PyData.leavesShortAll 62 (pdL (l.map toD)) = true ∧ PyData.weightAll (pdL (l.map toD)) ≤ 202 * l.length ∧ PyData.hasDictAll (pdL (l.map toD)) = false
  | [], _ => ⟨by simp [pdL, PyData.showableAll], by simp [pdL, PyData.leavesShortAll], by simp [pdL, PyData.weightAll], by simp [pdL, PyData.hasDictAll]⟩
  | x :: l, h => by
    obtain ⟨a, b, c, d⟩ := ints_short fun y hy => h y (List.mem_cons_of_mem _ hy)
    obtain ⟨p, q, r⟩ := int_short (h x (List.mem_cons_self ..))
    have e : pdL ((x :: l).map toD) = PyData.int x :: pdL (l.map toD) := rfl
    rw [e]
    refine ⟨by simp [PyData.showableAll, a, p], by simp [PyData.leavesShortAll, b, q], ?_, by simp [PyData.hasDictAll, PyData.hasDict, d]⟩
    simp only [PyData.weightAll, List.length_cons]
    omega
theorem repr_seq {d : D} {l : List Int} (hd : SeqI d l) (h : ∀ x ∈ l, Sz 200 x) (hl : l.length ≤ 1000) : reprOk d := by
  obtain ⟨a, b, c, e⟩ := ints_short h
  have dp := (ints_shaped l).2.1
  have sl : (16777216 : Nat) = sizeLine := by decide
  have fin : ∀ p : PyData, p.leavesShort 62 = true → p.weight ≤ 202 * l.length → p.shown.length ≤ sizeLine := fun p h1 h2 => by
    have := PyData.shown_le 62 (by decide) p h1
    rw [← sl]
    have := Nat.mul_le_mul_left 64 (Nat.le_trans h2 (Nat.mul_le_mul_left 202 hl))
    omega
  rcases hd with rfl | rfl
  · refine ⟨rfl, by simpa [flat] using (ints_shaped l).2.2, by simpa [pd, PyData.showable] using a, by simpa [pd, PyData.hasDict] using e, ?_, fin _ (by simpa [pd, PyData.leavesShort] using b) (by simpa [pd, PyData.weight] using c)⟩
    simp only [pd, PyData.depth]
    omega
  · refine ⟨rfl, by simpa [flat] using (ints_shaped l).2.2, by simpa [pd, PyData.showable] using a, by simpa [pd, PyData.hasDict] using e, ?_, fin _ (by simpa [pd, PyData.leavesShort] using b) (by simpa [pd, PyData.weight] using c)⟩
    simp only [pd, PyData.depth]
    omega
theorem repr_m {d : D} (h : reprOk d) : reprW d = W.pure (pd d).shown := need_pure h
end K

set_option autoImplicit false
set_option Elab.async false
set_option linter.all false
set_option maxRecDepth 100000
set_option maxHeartbeats 3000001
namespace Z
open PySem PySem.Spec L2
open Py (toD)
section
variable {α β γ δ τ ρ μ ν : Type} [Py α] [Py β] [Py γ] [Py δ] [Py ρ]
variable {X : Cx} {P : Par} {Wx : WX} {Γ : List Sl} {N : List Str} {sc : Scope} {k : Nat} {a b c e tg iter elt : Expr} {pos : Pos} {es ifs : List Expr} {st : Stmt} {sts rest body : List Stmt}
/-- two, three slots are set to what is new -/
theorem set_new2 {σ : L2.St} {G G1 G2 G4 H H1 H2 H4 : Hp} {s1 s2 : Sl} {v1 v2 : V} {i j : Nat} (R : Rel P Γ σ G H) (g1 : Grow P G H G1 H1) (n1 : New H G1 H1 s1 v1) (g2 : Grow P G1 H1 G2 H2) (n2 : New H1 G2 H2 s2 v2) (g4 : Grow P G2 H2 G4 H4) :
    Rel P ((Γ.set i s1).set j s2) ((σ.set i (some v1)).set j (some v2)) G4 H4 := by
  have R1 := R.grow g1
  have R2 := R1.grow g2
  have R4 := R2.grow g4
  have d0 : ∀ p, H p = none → ¬ P.dl p := fun p z => (R.toRelB.free z).2.1
  have d1 : ∀ p, H1 p = none → ¬ P.dl p := fun p z => (R1.toRelB.free z).2.1
  have a1 := R.setNew (i := i) R1 n1
  have a4 := R.setNew (i := i) R4 (New.grow R2.toRelB g4 d0 _ _ (New.grow R1.toRelB g2 d0 _ _ n1))
  exact a1.setNew (i := j) a4 (New.grow R2.toRelB g4 d1 _ _ n2)
theorem set_new3 {σ : L2.St} {G G1 G2 G3 G4 H H1 H2 H3 H4 : Hp} {s1 s2 s3 : Sl} {v1 v2 v3 : V} {i j l : Nat} (R : Rel P Γ σ G H) (g1 : Grow P G H G1 H1) (n1 : New H G1 H1 s1 v1) (g2 : Grow P G1 H1 G2 H2) (n2 : New H1 G2 H2 s2 v2) (g3 : Grow P G2 H2 G3 H3) (n3 : New H2 G3 H3 s3 v3) (g4 : Grow P G3 H3 G4 H4) :
    Rel P (((Γ.set i s1).set j s2).set l s3) (((σ.set i (some v1)).set j (some v2)).set l (some v3)) G4 H4 := by
  have R1 := R.grow g1
  have R2 := R1.grow g2
  have R3 := R2.grow g3
  have d2 : ∀ p, H2 p = none → ¬ P.dl p := fun p z => (R2.toRelB.free z).2.1
  have b2 := set_new2 (i := i) (j := j) R g1 n1 g2 n2 (Grow.refl R2.toRelB)
  have b4 := set_new2 (i := i) (j := j) R g1 n1 g2 n2 (g3.trans g4 (DealAt.there R3.dk))
  exact b2.setNew (i := l) b4 (New.grow R3.toRelB g4 d2 _ _ n3)
/-- a tuple is made of what is new and taken apart -/
theorem s_asg2 {m : W τ} {n : W μ} {w1 : τ → Sl} {w2 : μ → Sl} {x y : Str} {px py pt : Pos} {kt k2 : Nat} {pt2 : Pos} (cc : Dok X P Wx N sc k) (i j : Nat) (ha : EV X P Wx Γ a m w1) (hb : EV X P Wx Γ b n w2) (hi : N[i]? = some x := by rfl) (hj : N[j]? = some y := by rfl)
    (hx : Loc sc x := by first | exact Or.inl rfl | exact Or.inr rfl) (hy : Loc sc y := by first | exact Or.inl rfl | exact Or.inr rfl) (hs : starEach [a, b] X.env = (false, eval a X.env) :: starEach [b] X.env := by rfl) (hs2 : starEach [b] X.env = (false, eval b X.env) :: starEach [] X.env := by rfl)
    (hsw : ∀ env : Env, env.scope = sc → swapsWithSole [.Tuple [.Name x px, .Name y py] kt pt] (.Tuple [a, b] k2 pt2) pos.line env = pure false := by intro env h; first | rfl | (cases env; cases h; rfl))
    (hw : ∀ env : Env, env.scope = sc → swappedStores [.Tuple [.Name x px, .Name y py] kt pt] (.Tuple [a, b] k2 pt2) env = pure none := by intro env h; first | rfl | (cases env; cases h; rfl))
    (h1 : (assignEach [.Tuple [.Name x px, .Name y py] kt pt] X.env).map (·.2) = [assign (.Tuple [.Name x px, .Name y py] kt pt) X.env] := by rfl)
    (q1 : (assignEach [.Name x px, .Name y py] X.env).map (·.2) = assign (.Name x px) X.env :: (assignEach [.Name y py] X.env).map (·.2) := by rfl) (q2 : (assignEach [.Name y py] X.env).map (·.2) = assign (.Name y py) X.env :: (assignEach [] X.env).map (·.2) := by rfl)
    (hn : (assignEach [.Name x px, .Name y py] X.env).length = 2 := by rfl) (hst : (assignEach [.Name x px, .Name y py] X.env).findIdx? (·.1) = none := by rfl) :
    S1 X P Wx Γ (.Assign [.Tuple [.Name x px, .Name y py] kt pt] (.Tuple [a, b] k2 pt2) pos) (W.b2 m n fun x y => W.pure (x, y)) (fun p => (Γ.set i (w1 p.1)).set j (w2 p.2)) :=
  PS.imp (ps_asg (pe_tup (pa_cons ha (pa_cons hb pa_nil hs2) hs)) (pg_tup cc.calm (pgs_cons (pg_name (i := i) (by rw [cc.hN]; exact cc.nd) (by rw [cc.hN]; exact hi) (by rw [cc.hsc]; exact hx) (.inl (cc.fn x))) (pgs_cons (pg_name (i := j) (by rw [cc.hN]; exact cc.nd) (by rw [cc.hN]; exact hj) (by rw [cc.hsc]; exact hy) (.inl (cc.fn y))) pgs_nil q2) q1) hn hst) (hsw _ cc.hsc) (hw _ cc.hsc) h1) fun D σ H h => by
    obtain ⟨G, Q, E, R, ww, kk, kx⟩ := h
    refine ⟨G, _, E, R, ww, fun v1 H1 G1 x1 g1 n1 w1' => ?_, kx⟩
    have R1 := R.grow g1
    refine ⟨G1, _, E, R1, w1', fun v2 H2 G2 x2 g2 n2 w2' => ⟨by show (2 : Nat) ≤ sizeLine; decide, fun p hp => ?_⟩, kx⟩
    have R2 := R1.grow g2
    have g4 := grow_raw (o := .tup [v1, v2]) R2.toRelB hp
    exact ⟨p, _, rfl, .inl (.inl upd_same), rfl, v1, [v2], rfl, v2, [], rfl, rfl, kk (x1, x2) _ _ _ (set_new2 R g1 n1 g2 n2 g4) (g1.g.trans g2.g) w2'⟩
theorem s_asg3 {m : W τ} {n : W μ} {o : W ν} {w1 : τ → Sl} {w2 : μ → Sl} {w3 : ν → Sl} {x y z : Str} {px py pz pt : Pos} {kt k2 : Nat} {pt2 : Pos} (cc : Dok X P Wx N sc k) (i j l : Nat) (ha : EV X P Wx Γ a m w1) (hb : EV X P Wx Γ b n w2) (hc : EV X P Wx Γ c o w3) (hi : N[i]? = some x := by rfl) (hj : N[j]? = some y := by rfl) (hl : N[l]? = some z := by rfl)
    (hx : Loc sc x := by first | exact Or.inl rfl | exact Or.inr rfl) (hy : Loc sc y := by first | exact Or.inl rfl | exact Or.inr rfl) (hz : Loc sc z := by first | exact Or.inl rfl | exact Or.inr rfl)
    (hs : starEach [a, b, c] X.env = (false, eval a X.env) :: starEach [b, c] X.env := by rfl) (hs2 : starEach [b, c] X.env = (false, eval b X.env) :: starEach [c] X.env := by rfl) (hs3 : starEach [c] X.env = (false, eval c X.env) :: starEach [] X.env := by rfl)
    (hsw : ∀ env : Env, env.scope = sc → swapsWithSole [.Tuple [.Name x px, .Name y py, .Name z pz] kt pt] (.Tuple [a, b, c] k2 pt2) pos.line env = pure false := by intro env h; first | rfl | (cases env; cases h; rfl))
    (hw : ∀ env : Env, env.scope = sc → swappedStores [.Tuple [.Name x px, .Name y py, .Name z pz] kt pt] (.Tuple [a, b, c] k2 pt2) env = pure none := by intro env h; first | rfl | (cases env; cases h; rfl))
    (h1 : (assignEach [.Tuple [.Name x px, .Name y py, .Name z pz] kt pt] X.env).map (·.2) = [assign (.Tuple [.Name x px, .Name y py, .Name z pz] kt pt) X.env] := by rfl)
    (q1 : (assignEach [.Name x px, .Name y py, .Name z pz] X.env).map (·.2) = assign (.Name x px) X.env :: (assignEach [.Name y py, .Name z pz] X.env).map (·.2) := by rfl) (q2 : (assignEach [.Name y py, .Name z pz] X.env).map (·.2) = assign (.Name y py) X.env :: (assignEach [.Name z pz] X.env).map (·.2) := by rfl)
    (q3 : (assignEach [.Name z pz] X.env).map (·.2) = assign (.Name z pz) X.env :: (assignEach [] X.env).map (·.2) := by rfl)
    (hn : (assignEach [.Name x px, .Name y py, .Name z pz] X.env).length = 3 := by rfl) (hst : (assignEach [.Name x px, .Name y py, .Name z pz] X.env).findIdx? (·.1) = none := by rfl) :
    S1 X P Wx Γ (.Assign [.Tuple [.Name x px, .Name y py, .Name z pz] kt pt] (.Tuple [a, b, c] k2 pt2) pos) (W.b3 m n o fun x y z => W.pure (x, y, z)) (fun p => ((Γ.set i (w1 p.1)).set j (w2 p.2.1)).set l (w3 p.2.2)) :=
  PS.imp (ps_asg (pe_tup (pa_cons ha (pa_cons hb (pa_cons hc pa_nil hs3) hs2) hs)) (pg_tup cc.calm (pgs_cons (pg_name (i := i) (by rw [cc.hN]; exact cc.nd) (by rw [cc.hN]; exact hi) (by rw [cc.hsc]; exact hx) (.inl (cc.fn x))) (pgs_cons (pg_name (i := j) (by rw [cc.hN]; exact cc.nd) (by rw [cc.hN]; exact hj) (by rw [cc.hsc]; exact hy) (.inl (cc.fn y))) (pgs_cons (pg_name (i := l) (by rw [cc.hN]; exact cc.nd) (by rw [cc.hN]; exact hl) (by rw [cc.hsc]; exact hz) (.inl (cc.fn z))) pgs_nil q3) q2) q1) hn hst) (hsw _ cc.hsc) (hw _ cc.hsc) h1) fun D σ H h => by
    obtain ⟨G, Q, E, R, ww, kk, kx⟩ := h
    refine ⟨G, _, E, R, ww, fun v1 H1 G1 x1 g1 n1 w1' => ?_, kx⟩
    have R1 := R.grow g1
    refine ⟨G1, _, E, R1, w1', fun v2 H2 G2 x2 g2 n2 w2' => ?_, kx⟩
    have R2 := R1.grow g2
    refine ⟨G2, _, E, R2, w2', fun v3 H3 G3 x3 g3 n3 w3' => ⟨by show (3 : Nat) ≤ sizeLine; decide, fun p hp => ?_⟩, kx⟩
    have R3 := R2.grow g3
    have g4 := grow_raw (o := .tup [v1, v2, v3]) R3.toRelB hp
    exact ⟨p, _, rfl, .inl (.inl upd_same), rfl, v1, [v2, v3], rfl, v2, [v3], rfl, v3, [], rfl, rfl, kk (x1, x2, x3) _ _ _ (set_new3 R g1 n1 g2 n2 g3 n3 g4) ((g1.g.trans g2.g).trans g3.g) w3'⟩
/-- three plain locals, any of them a list of its own -/
theorem s_par3g {m : W τ} {n : W μ} {o : W ν} {w1 : τ → Sl} {w2 : μ → Sl} {w3 : ν → Sl} {x y z : Str} {px py pz pt : Pos} {kt k2 : Nat} {pt2 : Pos} (cc : Dok X P Wx N sc k) (i j l : Nat) (ha : EV X P Wx Γ a m w1) (hb : EV X P Wx Γ b n w2) (hc : EV X P Wx Γ c o w3) (hij : i ≠ j := by decide) (hil : i ≠ l := by decide) (hjl : j ≠ l := by decide)
    (hi : N[i]? = some x := by rfl) (hj : N[j]? = some y := by rfl) (hl : N[l]? = some z := by rfl)
    (hx : sc.names.lookup x = some .local := by rfl) (hy : sc.names.lookup y = some .local := by rfl) (hz : sc.names.lookup z = some .local := by rfl) (hs : starEach [a, b, c] X.env = (false, eval a X.env) :: starEach [b, c] X.env := by rfl) (hs2 : starEach [b, c] X.env = (false, eval b X.env) :: starEach [c] X.env := by rfl) (hs3 : starEach [c] X.env = (false, eval c X.env) :: starEach [] X.env := by rfl)
    (hw : ∀ env : Env, env.scope = sc → swappedStores [.Tuple [.Name x px, .Name y py, .Name z pz] kt pt] (.Tuple [a, b, c] k2 pt2) env = pure (some [x, y, z]) := by intro env h; cases env; cases h; rfl)
    (hss : swapsWithSole [.Tuple [.Name x px, .Name y py, .Name z pz] kt pt] (.Tuple [a, b, c] k2 pt2) pos.line X.env = pure false := by rfl) :
    S1 X P Wx Γ (.Assign [.Tuple [.Name x px, .Name y py, .Name z pz] kt pt] (.Tuple [a, b, c] k2 pt2) pos) (W.b3 m n o fun x y z => W.pure (x, y, z)) (fun p => ((Γ.set i (w1 p.1)).set j (w2 p.2.1)).set l (w3 p.2.2)) :=
  PS.imp (ps_par3 cc.calm (by rw [cc.hN]; exact cc.nd) (by rw [cc.hN]; exact hi) (by rw [cc.hN]; exact hj) (by rw [cc.hN]; exact hl) hij hil hjl (by rw [cc.hsc]; exact hx) (by rw [cc.hsc]; exact hy) (by rw [cc.hsc]; exact hz) (pa_cons ha (pa_cons hb (pa_cons hc pa_nil hs3) hs2) hs) (hw _ cc.hsc) hss) fun D σ H h => by
    obtain ⟨G, Q, E, R, ww, kk, kx⟩ := h
    refine ⟨G, _, E, R, ww, fun v1 H1 G1 x1 g1 n1 w1' => ?_, kx⟩
    have R1 := R.grow g1
    refine ⟨G1, _, E, R1, w1', fun v2 H2 G2 x2 g2 n2 w2' => ?_, kx⟩
    have R2 := R1.grow g2
    refine ⟨G2, _, E, R2, w2', fun v3 H3 G3 x3 g3 n3 w3' => ?_, kx⟩
    exact ⟨v1, v2, v3, rfl, kk (x1, x2, x3) _ H3 G3 (set_new3 R g1 n1 g2 n2 g3 n3 (Grow.refl (R2.grow g3).toRelB)) ((g1.g.trans g2.g).trans g3.g) w3'⟩
end
end Z

set_option autoImplicit false
set_option Elab.async false
set_option linter.all false
set_option maxRecDepth 100000
set_option maxHeartbeats 1000001
set_option exponentiation.threshold 10000
namespace K
open PySem PySem.Spec L2 Z
open Py (toD)
/-! tellers -/
def foundL : List (Int × Int) → Int → Int → List Int
  | [], e, b => if 0 < e then [b + e] else []
  | r :: l, e, b => (b + r.1) :: foundL l e (b + r.1 * r.2)
def barL : List (Int × Int) → Int → List Int
  | [], _ => []
  | r :: l, b => (b + r.1 * r.2 + r.1) :: barL l (b + r.1 * r.2)
def tellR (r : FR) : List Int := (foundL r.1.l r.2 0).filter fun c => !decide (c ∈ barL r.1.l 0)
/-- a multiple beyond the first comes of lesser ones -/
theorem mult_comes {S : Int → Prop} {b s k : Int} (s0 : 0 < s) (hk : 2 ≤ k) (b0 : 0 ≤ b) (hb : S b) (h1 : S (b + s)) (h2 : S (b + s * (k - 1))) : Cls (fun x => S x ∧ x < b + s * k) (b + s * k) := by
  have e : s * k = s * (k - 1) + s := by rw [Int.mul_sub, Int.mul_one]; omega
  have p : 0 < s * (k - 1) := Int.mul_pos s0 (by omega)
  have := Cls.step (S := fun x => S x ∧ x < b + s * k) (x := b + s * (k - 1)) (y := b + s) (z := b) (.mem ⟨h2, by omega⟩ (by omega)) (.mem ⟨h1, by omega⟩ (by omega)) (.mem ⟨hb, by omega⟩ b0) (by omega) (by omega)
  rwa [show b + s * (k - 1) + (b + s) - b = b + s * k by omega] at this
theorem tell_aux {S : Int → Prop} : ∀ {l : List (Int × Int)} {e b : Int}, (∀ r ∈ l, RunOk r) → 0 ≤ e → 0 ≤ b → (∀ m, 0 ≤ m → within l e m = true → S (b + m)) → ∀ m, 0 < m → within l e m = true → b + m ∈ foundL l e b ∨ Cls (fun x => S x ∧ x < b + m) (b + m)
  | [], e, b, _, e0, b0, hS, m, m0, w => by
    have w0 := w
    unfold within at w
    by_cases z : e = 0
    · rw [if_pos z] at w
      have := of_decide_eq_true w
      omega
    · rw [if_neg z] at w
      obtain ⟨k, rfl⟩ := Int.dvd_of_emod_eq_zero (of_decide_eq_true w)
      have ep : 0 < e := by omega
      have k0 : 0 < k := by
        rcases Int.lt_or_le 0 k with q | q
        · exact q
        · have := Int.mul_nonpos_of_nonneg_of_nonpos e0 q
          omega
      have mem : ∀ j, 0 ≤ j → S (b + e * j) := fun j j0 => hS _ (Int.mul_nonneg e0 j0) (by unfold within; rw [if_neg z]; simp)
      by_cases k1 : k = 1
      · left
        subst k1
        unfold foundL
        rw [if_pos ep]
        simp
      · right
        have h0 := mem 0 (by omega)
        have h1 := mem 1 (by omega)
        rw [Int.mul_zero, Int.add_zero] at h0
        rw [Int.mul_one] at h1
        exact mult_comes ep (by omega) b0 h0 h1 (mem _ (by omega))
  | r :: l, e, b, h, e0, b0, hS, m, m0, w => by
    have hr := h r (List.mem_cons_self ..)
    have hl : ∀ x ∈ l, RunOk x := fun y hy => h y (List.mem_cons_of_mem _ hy)
    have bp := hr.pos
    have s0 := hr.1
    have t0 := hr.2.1
    by_cases c : r.1 * r.2 < m
    · rw [within_step (by omega)] at w
      have := tell_aux (l := l) (e := e) (b := b + r.1 * r.2) hl e0 (by omega) (fun m m0 hm => by
        have := hS (r.1 * r.2 + m) (by omega) (by rw [within_step (by omega), show r.1 * r.2 + m - r.1 * r.2 = m by omega]; exact hm)
        rwa [← Int.add_assoc] at this) (m - r.1 * r.2) (by omega) w
      rw [show b + r.1 * r.2 + (m - r.1 * r.2) = b + m by omega] at this
      rcases this with q | q
      · exact .inl (List.mem_cons_of_mem _ q)
      · exact .inr q
    · have mem : ∀ j, 0 ≤ j → j ≤ r.2 → S (b + r.1 * j) := fun j j0 j1 => by
        refine hS _ (Int.mul_nonneg (by omega) j0) ?_
        by_cases z : r.1 * j < r.1 * r.2
        · rw [within_low z]
          simp
        · have : r.1 * j ≤ r.1 * r.2 := Int.mul_le_mul_of_nonneg_left j1 (by omega)
          rw [within_step (by omega), show r.1 * j - r.1 * r.2 = 0 by omega]
          exact within_zero hl
      have hk : ∃ k, m = r.1 * k := by
        by_cases z : m < r.1 * r.2
        · rw [within_low z] at w
          obtain ⟨k, hk⟩ := Int.dvd_of_emod_eq_zero (of_decide_eq_true w)
          exact ⟨k, hk⟩
        · exact ⟨r.2, by omega⟩
      obtain ⟨k, rfl⟩ := hk
      have k0 : 0 < k := by
        rcases Int.lt_or_le 0 k with q | q
        · exact q
        · have := Int.mul_nonpos_of_nonneg_of_nonpos (show 0 ≤ r.1 by omega) q
          omega
      have k2 : k ≤ r.2 := by
        rcases Int.lt_or_le r.2 k with q | q
        · exfalso
          have := Int.mul_lt_mul_of_pos_left q s0
          omega
        · exact q
      by_cases k1 : k = 1
      · left
        subst k1
        rw [Int.mul_one]
        exact List.mem_cons_self ..
      · right
        have h0 := mem 0 (by omega) (by omega)
        have h1 := mem 1 (by omega) (by omega)
        rw [Int.mul_zero, Int.add_zero] at h0
        rw [Int.mul_one] at h1
        exact mult_comes s0 (by omega) b0 h0 h1 (mem _ (by omega) (by omega))
theorem bar_aux {S : Int → Prop} : ∀ {l : List (Int × Int)} {e b n : Int}, (∀ r ∈ l, RunOk r) → 0 ≤ b → (∀ m, 0 ≤ m → within l e m = true → S (b + m)) → n ∈ barL l b → Cls (fun x => S x ∧ x < n) n
  | [], e, b, n, _, _, _, h => by cases h
  | r :: l, e, b, n, hk, b0, hS, h => by
    have hr := hk r (List.mem_cons_self ..)
    have hl : ∀ x ∈ l, RunOk x := fun y hy => hk y (List.mem_cons_of_mem _ hy)
    have bp := hr.pos
    have s0 := hr.1
    rcases List.mem_cons.mp h with q | q
    · subst q
      have h0 := hS 0 (by omega) (within_zero hk)
      have h1 := hS r.1 (by omega) (within_head (l := r :: l) hk)
      have h2 := hS (r.1 * r.2) (by omega) (by rw [within_step (by omega), Int.sub_self]; exact within_zero hl)
      rw [Int.add_zero] at h0
      have := Cls.step (S := fun x => S x ∧ x < b + r.1 * r.2 + r.1) (x := b + r.1 * r.2) (y := b + r.1) (z := b) (.mem ⟨h2, by omega⟩ (by omega)) (.mem ⟨h1, by omega⟩ (by omega)) (.mem ⟨h0, by omega⟩ b0) (by omega) (by omega)
      rwa [show b + r.1 * r.2 + (b + r.1) - b = b + r.1 * r.2 + r.1 by omega] at this
    · exact bar_aux hl (by omega) (fun m m0 hm => by
        have := hS (r.1 * r.2 + m) (by omega) (by rw [within_step (by omega), show r.1 * r.2 + m - r.1 * r.2 = m by omega]; exact hm)
        rwa [← Int.add_assoc] at this) q
/-- what is no teller comes of lesser numbers -/
theorem tell_gen {r : FR} (R : Row r) {n : Int} (h : Mem r n) (n0 : 0 < n) : n ∈ tellR r ∨ Cls (fun x => Mem r x ∧ x < n) n := by
  have hS : ∀ m, 0 ≤ m → within r.1.l r.2 m = true → Mem r (0 + m) := fun m m0 w => by rw [Int.zero_add]; exact ⟨m0, w⟩
  have := tell_aux (S := Mem r) R.run R.e0 (Int.le_refl 0) hS n n0 h.2
  rw [Int.zero_add] at this
  rcases this with q | q
  · by_cases c : n ∈ barL r.1.l 0
    · exact .inr (bar_aux (e := r.2) R.run (Int.le_refl 0) hS c)
    · exact .inl (List.mem_filter.mpr ⟨q, by simp [c]⟩)
  · exact .inr q
/-- the least number that just one of two sets has -/
def IsPart (a b : FR) (n : Int) : Prop := 0 ≤ n ∧ within a.1.l a.2 n ≠ within b.1.l b.2 n ∧ ∀ m, 0 ≤ m → m < n → within a.1.l a.2 m = within b.1.l b.2 m
theorem IsPart.symm {a b : FR} {n : Int} (h : IsPart a b n) : IsPart b a n := ⟨h.1, fun e => h.2.1 e.symm, fun m m0 m1 => (h.2.2 m m0 m1).symm⟩
theorem IsPart.unique {a b : FR} {n m : Int} (h : IsPart a b n) (h' : IsPart a b m) : n = m := by
  rcases Int.lt_trichotomy n m with q | q | q
  · exact absurd (h'.2.2 n h.1 q) h.2.1
  · exact q
  · exact absurd (h.2.2 m h'.1 q) h'.2.1
theorem part_ex {a b : FR} (A : Row a) (B : Row b) (h : a ≠ b) : ∃ n, IsPart a b n := by
  have ex : ∃ n : Nat, within a.1.l a.2 n ≠ within b.1.l b.2 n := by
    refine Classical.byContradiction fun no => h (row_unique A B fun n => ?_)
    have eq : ∀ k : Nat, within a.1.l a.2 k = within b.1.l b.2 k := fun k => Classical.byContradiction fun q => no ⟨k, q⟩
    constructor
    · rintro ⟨n0, w⟩
      obtain ⟨k, rfl⟩ := Int.eq_ofNat_of_zero_le n0
      exact ⟨n0, by rw [← eq]; exact w⟩
    · rintro ⟨n0, w⟩
      obtain ⟨k, rfl⟩ := Int.eq_ofNat_of_zero_le n0
      exact ⟨n0, by rw [eq]; exact w⟩
  have key : ∀ k n : Nat, n ≤ k → within a.1.l a.2 n ≠ within b.1.l b.2 n → ∃ n, IsPart a b n := fun k => by
    induction k with
    | zero =>
      intro n hn hw
      refine ⟨n, by omega, hw, fun m m0 m1 => by omega⟩
    | succ k ih =>
      intro n hn hw
      by_cases z : ∃ m : Nat, m < n ∧ within a.1.l a.2 m ≠ within b.1.l b.2 m
      · obtain ⟨m, hm, w⟩ := z
        exact ih m (by omega) w
      · refine ⟨n, by omega, hw, fun m m0 m1 => Classical.byContradiction fun q => z ⟨m.toNat, by omega, ?_⟩⟩
        rw [show ((m.toNat : Nat) : Int) = m by omega]
        exact q
  obtain ⟨n, hn⟩ := ex
  exact key n n (Nat.le_refl _) hn
theorem part_teller {a b : FR} {n : Int} (A : Row a) (B : Row b) (h : IsPart a b n) : n ∈ tellR a ∨ n ∈ tellR b := by
  have key : ∀ {a b : FR}, Row a → Row b → IsPart a b n → within a.1.l a.2 n = true → n ∈ tellR a := fun {a b} A B h w => by
    have nb : within b.1.l b.2 n ≠ true := fun q => h.2.1 (w.trans q.symm)
    have n0 : 0 < n := by
      rcases Int.lt_or_eq_of_le h.1 with q | q
      · exact q
      · exact absurd (by rw [← q]; exact within_zero B.run) nb
    rcases tell_gen A ⟨h.1, w⟩ n0 with q | q
    · exact q
    · exfalso
      exact nb (B.cls (fun x hx x0 => ⟨x0, by rw [← h.2.2 x x0 hx.2]; exact hx.1.2⟩) q).2
  by_cases w : within a.1.l a.2 n = true
  · exact .inl (key A B h w)
  · have w' : within b.1.l b.2 n = true := by
      cases e : within b.1.l b.2 n with
      | true => rfl
      | false => exact absurd ((by simpa using w : within a.1.l a.2 n = false).trans e.symm) h.2.1
    exact .inr (key B A h.symm w')
/-- how great the runs are -/
theorem eu_loopB {c : List (Int × Int) × List Int → W Bool} {b : List (Int × Int) × List Int → W (Fl (List (Int × Int) × List Int) (List (Int × Int) × List Int) FR)}
    (hc : ∀ R L, EI R L → c (R, L) = W.pure (!L.isEmpty))
    (h1 : ∀ R s L0, EI R (s :: L0) → R.length ≤ 402 → turnsOf (s :: L0) s = [] → b (R, s :: L0) = W.pure (.rt (⟨R⟩, s)))
    (h2 : ∀ R s L0, EI R (s :: L0) → R.length ≤ 402 → turnsOf (s :: L0) s ≠ [] → Step (s :: L0) (leftOf (s :: L0) s (timesOf (s :: L0) s)) s (timesOf (s :: L0) s) → timesOf (s :: L0) s < 2 ^ 200 →
      b (R, s :: L0) = W.pure (.nx (R ++ [(s, timesOf (s :: L0) s)], leftOf (s :: L0) s (timesOf (s :: L0) s)))) :
    ∀ (k : Nat) (R : List (Int × Int)) (s : Int) (L0 : List Int), s.toNat ≤ k → EI R (s :: L0) → ∃ rest e, W.whileF c b (R, s :: L0) = W.pure (.rt ((⟨R ++ rest⟩, e) : FR)) ∧ Good rest e (s :: L0) s ∧ e < 2 ^ 200 ∧ (R ++ rest).length ≤ 402 ∧ ∀ M : Int, (∀ x ∈ s :: L0, x ≤ M) → (∀ x ∈ rest, x.1 * x.2 ≤ M) ∧ e ≤ M := by
  intro k
  induction k with
  | zero =>
    intro R s L0 hk I
    have := (I.po s (List.mem_cons_self ..)).1
    omega
  | succ k ih =>
    intro R s L0 hk I
    have s0 := (I.po s (List.mem_cons_self ..)).1
    have sB := (I.po s (List.mem_cons_self ..)).2
    have LR : R.length ≤ 402 := I.len (by simp)
    have ct : c (R, s :: L0) = W.pure true := hc R _ I
    by_cases hT : turnsOf (s :: L0) s = []
    · have z : ∀ x ∈ s :: L0, x % s = 0 := fun x hx => by
        have nn := Int.emod_nonneg x (show s ≠ 0 by omega)
        rcases Int.decEq (x % s) 0 with q | q
        · exfalso
          have : x / s ∈ turnsOf (s :: L0) s := List.mem_map.mpr ⟨x, List.mem_filter.mpr ⟨hx, decide_eq_true (by omega)⟩, rfl⟩
          rw [hT] at this
          cases this
        · exact q
      exact ⟨[], s, by rw [List.append_nil]; exact whileF_rt ct (h1 R s L0 I LR hT), good_end s0 (List.mem_cons_self ..) z, sB, by rw [List.append_nil]; exact LR, fun M hM => ⟨fun x hx => (by cases hx), hM s (List.mem_cons_self ..)⟩⟩
    · obtain ⟨S, tB⟩ := eu_step I hT
      have nx := h2 R s L0 I LR hT S tB
      have st : s ≤ s * timesOf (s :: L0) s := by
        have := Int.mul_le_mul_of_nonneg_left (show (1 : Int) ≤ timesOf (s :: L0) s from S.t0) (Int.le_of_lt s0)
        omega
      obtain ⟨l1, _⟩ := left_len (L0 := L0) st
      obtain ⟨I', hh⟩ := I.step S tB (left_sorted _ _ _) (Nat.le_trans l1 I.ln)
      have zs : Sz 9000 s := sz_lt s0 sB (by decide)
      have zt : Sz 9000 (timesOf (s :: L0) s) := sz_lt S.t0 tB (by decide)
      rw [whileF_nx ct nx]
      change EI (R ++ [(s, timesOf (s :: L0) s)]) (leftOf (s :: L0) s (timesOf (s :: L0) s)) at I'
      change ∀ h, (leftOf (s :: L0) s (timesOf (s :: L0) s)).head? = some h → h < s at hh
      change Step (s :: L0) (leftOf (s :: L0) s (timesOf (s :: L0) s)) s (timesOf (s :: L0) s) at S
      generalize timesOf (s :: L0) s = t at *
      cases e : leftOf (s :: L0) s t with
      | nil =>
        exfalso
        have := (S.mem s).mpr (.inr rfl)
        rw [e] at this
        cases this
      | cons s' L' =>
        rw [e] at I' hh S
        have hs' := hh s' rfl
        obtain ⟨rest, e', w, g, eB, ln, bd⟩ := ih _ s' L' (by omega) I'
        have pr := I'.so
        refine ⟨(s, t) :: rest, e', ?_, S.good zs zt (head_le pr rfl) g, eB, ?_, ?_⟩
        · rw [w, List.append_assoc]
          rfl
        · rw [List.append_assoc] at ln
          exact ln
        · intro M hM
          obtain ⟨y, hy, y1, _⟩ := S.ne
          have yM := hM y hy
          have ym := S.lo y hy y1
          obtain ⟨b1, b2⟩ := bd M fun x hx => by
            rcases (S.mem x).mp hx with ⟨z, hz, z1, rfl⟩ | rfl
            · have := hM z hz
              have := Int.mul_pos S.s0 S.t0
              omega
            · exact hM x (List.mem_cons_self ..)
          refine ⟨fun x hx => ?_, b2⟩
          rcases List.mem_cons.mp hx with q | q
          · rw [q]
            show s * t ≤ M
            omega
          · exact b1 x q
theorem clos_bd {l : List Int} (h : Cnt l) {M : Int} (hM : ∀ x ∈ l, x ≤ M) (M0 : 0 ≤ M) : (∀ x ∈ (clos l).1.l, x.1 * x.2 ≤ M) ∧ (clos l).2 ≤ M ∧ (clos l).1.l.length ≤ 402 := by
  have I := norm_EI h
  cases e : norm l with
  | nil =>
    obtain ⟨R, C⟩ := row_none e
    rw [clos_eq R C]
    exact ⟨fun x hx => (by cases hx), M0, Nat.zero_le _⟩
  | cons s L0 =>
    rw [e] at I
    let c : List (Int × Int) × List Int → W Bool := fun t => W.pure (!t.2.isEmpty)
    let b : List (Int × Int) × List Int → W (Fl (List (Int × Int) × List Int) (List (Int × Int) × List Int) FR) := fun t => match t.2 with
      | [] => W.stuck
      | s :: L0 => if turnsOf (s :: L0) s = [] then W.pure (.rt (⟨t.1⟩, s)) else W.pure (.nx (t.1 ++ [(s, timesOf (s :: L0) s)], leftOf (s :: L0) s (timesOf (s :: L0) s)))
    have h1 : ∀ R s L0, EI R (s :: L0) → R.length ≤ 402 → turnsOf (s :: L0) s = [] → b (R, s :: L0) = W.pure (.rt (⟨R⟩, s)) := fun R s L0 _ _ hT => if_pos hT
    have h2 : ∀ R s L0, EI R (s :: L0) → R.length ≤ 402 → turnsOf (s :: L0) s ≠ [] → Step (s :: L0) (leftOf (s :: L0) s (timesOf (s :: L0) s)) s (timesOf (s :: L0) s) → timesOf (s :: L0) s < 2 ^ 200 →
      b (R, s :: L0) = W.pure (.nx (R ++ [(s, timesOf (s :: L0) s)], leftOf (s :: L0) s (timesOf (s :: L0) s))) := fun R s L0 _ _ hT _ _ => if_neg hT
    obtain ⟨rest, en, w, g, eB, ln, bd⟩ := eu_loopB (c := c) (b := b) (fun R L _ => rfl) h1 h2 s.toNat [] s L0 (Nat.le_refl _) I
    obtain ⟨rest2, en2, w2, g2, eB2, ln2, ok2⟩ := eu_loop (c := c) (b := b) (fun R L _ => rfl) h1 h2 s.toNat [] s L0 (Nat.le_refl _) I
    have hpure : ∀ {α : Type} {x y : α}, W.pure x = W.pure y → x = y := fun {α x y} q => by
      have := congrArg (fun m : W α => m.wp (fun z => z = y) (fun _ => False)) q
      have : (x = y) = (y = y) := this
      rw [this]
    have q := hpure (w.symm.trans w2)
    injection q with q
    have q1 : rest = rest2 := congrArg (fun r : FR => r.1.l) q
    have q2 : en = en2 := congrArg (fun r : FR => r.2) q
    subst q1 q2
    obtain ⟨R, C⟩ := row_end e g2 eB2 ln2 ok2
    rw [clos_eq R C]
    obtain ⟨b1, b2⟩ := bd M fun x hx => hM x (mem_norm.mp (by rw [e]; exact hx)).1
    exact ⟨b1, b2, ln⟩
/-! two rows compared -/
instance decTup {α : Type} [DecidableEq α] : DecidableEq (Tup α) := fun a b => decidable_of_iff (a.l = b.l) ⟨fun h => by cases a; cases b; exact congrArg Tup.mk h, fun h => congrArg Tup.l h⟩
theorem eqv_int (x y : Int) : PyData.eqv (pd (toD x)) (pd (toD y)) = decide (x = y) := eqD_int x y
theorem eqv_run (x y : Int × Int) : PyData.eqv (pd (toD x)) (pd (toD y)) = decide (x = y) := by
  have e : ∀ z : Int × Int, pd (toD z) = .tuple [.int z.1, .int z.2] := fun _ => rfl
  have h : ∀ a b : Int, PyData.eqv (.int a) (.int b) = decide (a = b) := eqv_int
  rw [e, e]
  simp only [PyData.eqv, PyData.eqvAll, Bool.and_true]
  rw [Bool.eq_iff_iff, Bool.and_eq_true, beq_iff_eq, beq_iff_eq, decide_eq_true_eq]
  exact ⟨fun h => Prod.ext h.1 h.2, fun h => ⟨congrArg Prod.fst h, congrArg Prod.snd h⟩⟩
theorem eqv_runs : ∀ l m : List (Int × Int), PyData.eqvAll (pdL (l.map toD)) (pdL (m.map toD)) = decide (l = m)
  | [], [] => by simp [pdL, PyData.eqvAll]
  | [], y :: m => by simp [pdL, PyData.eqvAll]
  | x :: l, [] => by simp [pdL, PyData.eqvAll]
  | x :: l, y :: m => by
    show PyData.eqvAll (pd (toD x) :: pdL (l.map toD)) (pd (toD y) :: pdL (m.map toD)) = _
    rw [PyData.eqvAll, eqv_run, eqv_runs l m]
    rw [Bool.eq_iff_iff, Bool.and_eq_true, decide_eq_true_eq, decide_eq_true_eq, decide_eq_true_eq, List.cons.injEq]
theorem eqOk_row (r : FR) : eqOk (toD r) = true := by
  obtain ⟨h1, h2, h3⟩ := runs_shaped r.1.l
  show eqOk (.tup [.tup (r.1.l.map toD), .int r.2]) = true
  simp only [eqOk, flat, flatL, h3, pd, pdL, SeqAt.shaped, PyData.canLay0, PyData.canLayAll0, h1, PyData.depth, PyData.depthAll, Bool.true_and, Bool.and_true, Bool.and_eq_true, decide_eq_true_eq, true_and]
  omega
theorem eq_row (a b : FR) : eqWD a b = W.pure (decide (a = b)) := by
  refine (need_pure ⟨eqOk_row a, eqOk_row b⟩).trans ?_
  congr 1
  show PyData.eqv (.tuple [.tuple (pdL (a.1.l.map toD)), .int a.2]) (.tuple [.tuple (pdL (b.1.l.map toD)), .int b.2]) = _
  have h : ∀ a b : Int, PyData.eqv (.int a) (.int b) = decide (a = b) := eqv_int
  simp only [PyData.eqv, PyData.eqvAll, eqv_runs, Bool.and_true]
  rw [Bool.eq_iff_iff, Bool.and_eq_true, decide_eq_true_eq, beq_iff_eq, decide_eq_true_eq]
  obtain ⟨⟨l⟩, e⟩ := a
  obtain ⟨⟨m⟩, f⟩ := b
  constructor
  · rintro ⟨p, q⟩
    have p : l = m := p
    have q : e = f := q
    rw [p, q]
  · intro p
    have p1 := congrArg (fun r : FR => r.1.l) p
    have p2 := congrArg (fun r : FR => r.2) p
    exact ⟨p1, p2⟩
theorem ne_row (a b : FR) : neWD a b = W.pure (!decide (a = b)) := by
  have h := eq_row a b
  have e : eqWD a b = W.pure (eqD (toD a) (toD b)) := need_pure ⟨eqOk_row a, eqOk_row b⟩
  rw [e] at h
  have hpure : ∀ {x y : Bool}, W.pure x = W.pure y → x = y := fun {x y} q => by
    have := congrArg (fun m : W Bool => m.wp (fun z => z = y) (fun _ => False)) q
    have : (x = y) = (y = y) := this
    rw [this]
  refine (need_pure ⟨eqOk_row a, eqOk_row b⟩).trans ?_
  rw [hpure h]
end K

set_option autoImplicit false
set_option Elab.async false
set_option linter.all false
set_option maxRecDepth 100000
set_option maxHeartbeats 1000001
namespace Z
open PySem PySem.Spec L2
open Py (toD)
section
variable {α β γ δ τ ρ μ ν : Type} [Py α] [Py β] [Py γ] [Py δ] [Py ρ]
variable {X : Cx} {P : Par} {Wx : WX} {Γ : List Sl} {N : List Str} {sc : Scope} {k : Nat} {a b c e tg iter elt : Expr} {pos : Pos} {es ifs : List Expr} {st : Stmt} {sts rest body : List Stmt}
/-- a tuple with stars in it: its length is asked -/
theorem ex_tupS {m : W τ} {ty : τ → List D} {f : τ → Tup α} {x1} (h : EA X P Wx Γ es ty m) (hf : ∀ x, (f x).l.map toD = ty x) : EX X P Wx Γ (.Tuple es x1 pos) (W.b1 m fun x => W.need ((f x).l.length ≤ 16777216) (f x)) :=
  PE.imp (pe_tup h) fun σ H Q' h => by
    obtain ⟨G, Q, E, R, w, kk, kx⟩ := h
    refine ⟨G, _, E, R, w, fun vs H1 G1 x g1 d1 w1 => ⟨?_, fun p hp => ?_⟩, kx⟩
    · rw [d1.length, ← hf, List.length_map, sizeLine_eq]
      exact w1.1
    · have g2 := grow_new (o := .tup vs) (R.grow g1).toRelB hp
      refine kk (.ref p) _ _ (f x) (g1.trans g2 (DealAt.there (R.grow g1).dk)) ?_ w1.2
      exact den_tup.mpr ⟨p, vs, rfl, upd_same, DenL.mono g2.g _ _ (by rw [hf]; exact d1), w1.1⟩
/-- a slice of a tuple or a list -/
def sliceD (d : D) (i j : Option Int) : W D := match d with | .tup l => W.pure (.tup (cut l i j)) | .lst l => W.pure (.lst (cut l i j)) | _ => W.stuck
theorem ex_sliceD {d : D} {n o : W (Option Int)} {lo hi : Option Expr} {p2 : Pos} (ha : EX X P Wx Γ a (W.pure d)) (hl : EO X P Wx Γ lo n) (hh : EO X P Wx Γ hi o) :
    EX X P Wx Γ (.Subscript a (.Slice lo hi none p2) pos) (W.b3 (W.need (isSeqD d = true) d) n o sliceD) := by
  by_cases hd : isSeqD d = true
  · have e0 : W.need (isSeqD d = true) d = W.pure d := W.ext' fun Q E => ⟨fun h => h.2, fun h => ⟨hd, h⟩⟩
    rw [e0]
    cases d with
    | tup l =>
      have h1 : EX X P Wx Γ a (W.pure (⟨l⟩ : Tup D)) := ha.other (congrArg D.tup (map_id_D l))
      have h2 := ex_as (f := fun t : Tup D => D.tup t.l) (ex_sliceT (p2 := p2) (pos := pos) h1 hl hh) (fun x => (congrArg D.tup (map_id_D x.l)).symm)
      exact h2
    | lst l =>
      have h1 : EX X P Wx Γ a (W.pure l) := ha.other (congrArg D.lst (map_id_D l))
      have h2 := ex_as (f := fun t : List D => D.lst t) (ex_fz (en_slice (p2 := p2) (pos := pos) h1 hl hh)) (fun x => (congrArg D.lst (map_id_D x)).symm)
      exact h2
    | _ => cases hd
  · have h1 : EX X P Wx Γ a (W.stuck : W (List D)) := PE.imp ha fun σ H Q' h => by
      obtain ⟨G, Q, E, R, w, kk, kx⟩ := h
      exact w.elim
    have h2 := ex_as (f := fun t : List D => D.lst t) (ex_fz (en_slice (p2 := p2) (pos := pos) h1 hl hh)) (fun x => (congrArg D.lst (map_id_D x)).symm)
    exact PE.imp h2 fun σ H Q' h => by
      obtain ⟨G, Q, E, R, w, kk, kx⟩ := h
      exact absurd w.1 hd
/-- y = [..], a list of one's own lent meanwhile -/
theorem s_lcB [Sc β] {l0 : List δ} {m : W (List α)} {f : α → List Sl} {mt : α → W Bool} {me : α → W β} {scope : Scope} {y : Str} {py spos : Pos} (cc : Dok X P Wx N sc k) (i0 i : Nat) (own : List (Str × Nat)) (hi : EI X P Wx (Γ.set i0 (.dat (toD l0))) tg iter m) (ok : blkC N sc scope own = true)
    (hb : ∀ X', Cok X' P NoX N (relS scope sc) k → (∀ x, X'.fn x = (scope.names.lookup x == some .cell)) → GB X' P (wipeΓ (Γ.set i0 (.dat (toD l0))) (own.map fun (z : Str × Nat) => z.2)) (own.map fun (z : Str × Nat) => z.2) tg f ∧ (∀ x, TT1 X' P (f x) ifs (mt x)) ∧ ∀ x, EX X' P NoX (f x) elt (me x))
    (hi0 : Γ[i0]? = some (.own (l0.map toD)) := by rfl)
    (hy : N[i]? = some y := by rfl) (hyl : sc.names.lookup y = some .local := by rfl)
    (hsw : ∀ env : Env, env.scope = sc → swapsWith (.ListComp elt [⟨tg, iter, ifs, 0⟩] scope pos) (some (.Name y py)) spos.line env = pure true := by intro env h; cases env; cases h; rfl)
    (hs : ∀ x, foldedSetIterable iter X.env x = pure x := by intro _; rfl) :
    S1 X P Wx Γ (.Assign [.Name y py] (.ListComp elt [⟨tg, iter, ifs, 0⟩] scope pos) spos) (m.bind fun l => W.filterW (fun x => nx (mt x)) (fun x => nx (me x)) l) (fun l => Γ.set i (.own (l.map toD))) := by
  have B := fun s H C cl fp => hb (X.blk s H scope (compEnvC scope cl C X.env) fp) (cc.toCok.blk s H scope cl C fp) fun _ => rfl
  refine PS.imp (ps_setLc (i := i) cc.calm (by rw [cc.hN]; exact cc.nd) (by rw [cc.hN]; exact hy) (by rw [cc.hsc]; exact hyl) (hsw _ cc.hsc) hi (by rw [cc.hN, cc.hsc]; exact blkOk_by ok) (g := fun v σ H K => ∃ (x : α) (G : Hp) (σ0 : L2.St), L2.wipe σ (own.map fun (z : Str × Nat) => z.2) = L2.wipe σ0 (own.map fun (z : Str × Nat) => z.2) ∧ Rel P (wipeΓ (Γ.set i0 (.dat (toD l0))) (own.map fun (z : Str × Nat) => z.2)) σ G H ∧ Den G (toD x) v ∧ (∀ σ', L2.wipe σ' (own.map fun (z : Str × Nat) => z.2) = L2.wipe σ0 (own.map fun (z : Str × Nat) => z.2) → Rel P (f x) σ' G H → K σ' H))
    (tt := fun σ H K => ∃ x, rdT P NoX (f x) (mt x) σ H K) (te := fun σ H K => ∃ x, rdE P NoX (f x) (me x) σ H K) (fun s H C cl fp => (B s H C cl fp).1) (fun s H C cl fp => ⟨fun pins s' σ' H' Q I ⟨x, q⟩ => ((B s H C cl fp).2.1 x).run pins s' σ' H' Q I q⟩) (fun s H C cl fp => ⟨fun pins s' σ' H' Q I ⟨x, q⟩ => ((B s H C cl fp).2.2 x).run pins s' σ' H' Q I q⟩) hs) fun D σ H h => ?_
  obtain ⟨G, Q, E, R, w, kk, kx⟩ := h
  obtain ⟨p0, vs0, ep, h1, h2, h3, h4, h5, zl0⟩ := R.ownAt hi0
  refine lc_read (P := P) (Wx := Wx) (Γ := Γ.set i0 (.dat (toD l0))) (f := f) (mt := mt) (me := me) (m := m) (fun _ _ _ q => q) (fun _ _ _ _ q => q) (fun _ _ _ q => q) (fun _ _ _ q => q) ⟨upd G p0 (.lst vs0), Q, E, R.lend hi0 ep h1 h2 h3 h4 h5 zl0, w, fun p vs H' G' a g hp gp hv d zl q' => ?_, kx⟩
  have g := Grow.out h2 (fun b n => upd_ne n) h1 g
  refine kk a _ H' _ ((R.grow g).setOwn hv ?_ (R.toRelB.free hp).1 (R.toRelB.free hp).2.1 (denL_sc d) (by rw [List.length_map]; exact zl) fun j l ej z => ?_) g.g q'
  · show (if p = p0 then none else G' p) = none
    split
    · rfl
    · exact gp
  · obtain ⟨o, e1, p', vs', e2, h2, _⟩ := R.slots j _ ej
    rw [z] at e1
    cases e1
    cases e2
    rw [hp] at h2
    cases h2
/-- x.pop() -/
def popL {τ : Type} (l : List τ) : W (τ × List τ) := if h : l ≠ [] then W.pure (l.getLast h, l.dropLast) else W.stuck
theorem ep_pop {l : List α} {x : Str} {p1 p2 p3 : Pos} (cc : Cok X P Wx N sc k) (i : Nat) (hi : Γ[i]? = some (.own (l.map toD)) := by rfl) (hN : N[i]? = some x := by rfl)
    (hv : Vis sc x := by first | exact Or.inl rfl | exact Or.inr (Or.inl rfl) | exact Or.inr (Or.inr rfl)) (hd : (x == ("__debug__" : Str)) = false := by decide)
    (hcd : (x == ("__classdict__" : Str)) = false := by decide) (hline : (p2.endLine == p3.line) = true := by rfl) :
    EP X P Wx Γ (.Call (.Attribute (.Name x p1) "pop" p2) [] [] p3) (popL l) (fun l' => Γ.set i (.own (l'.map toD))) :=
  PE.imp (pe_bm0 PySem.F.plainAttrs_list PySem.F.slot_list_pop PySem.F.type_list_pop mt_pop (pe_var (i := i) (by rw [cc.hN]; exact hN) (by rw [cc.hsc]; exact hv) hd hcd) rfl hline) fun σ H Q' h => by
    obtain ⟨G, Q, E, R, w, kk, kx⟩ := h
    obtain ⟨p, vs, ep, h1, k2, k3, k4, k5, zl⟩ := R.ownAt hi
    have hl : vs.length = l.length := by rw [k5.length, List.length_map]
    refine ⟨.ref p, ep, .inl ⟨rfl, vs, .inl (.inl h1)⟩, ?_⟩
    unfold popL at w
    by_cases hj : l ≠ []
    · rw [dif_pos hj] at w
      have lp := List.length_pos_iff.mpr hj
      obtain ⟨y, ey, dy⟩ := k5.get (i := l.length - 1) (d := toD (l.getLast hj)) (by rw [List.getElem?_map, List.getLast_eq_getElem, List.getElem?_eq_getElem (by omega)]; rfl)
      refine ⟨p, vs, y, rfl, rfl, h1, by rw [hl]; exact ey, ?_⟩
      refine kk y _ G _ _ (R.ownSet hi ep (l' := (l.dropLast).map toD) ?_ (by simp at zl ⊢; omega)) (fun _ _ z => z) dy w
      rw [List.dropLast_eq_take, List.dropLast_eq_take, List.map_take, hl]
      exact k5.take _
    · rw [dif_neg hj] at w
      exact w.elim
end
end Z

set_option autoImplicit false
set_option Elab.async false
set_option linter.all false
set_option maxRecDepth 100000
set_option maxHeartbeats 3000001
/-! sorted(set(a tuple of ints)) -/
namespace L2
open PySem PySem.Spec PyProof.Rows
def tSortSetT (K : PySem.W.Frag) (ta : TE) : TE := fun σ H Q => ta σ H fun x H1 => ∃ (l : Addr) (ns : List Int), x = .ref l ∧ SqT K H1 l (ns.map V.int) ∧ ns.length < 4000 ∧
  ∀ (out : List Int) (p : Addr), out.Pairwise (· < ·) → (∀ k : Int, k ∈ out ↔ k ∈ ns) → H1 p = none → Q (.ref p) (upd H1 p (.lst (out.map V.int)))
theorem pe_sortSetT {X : Cx} {a : Expr} {ta : TE} {p p2 q pos : Pos} (hc : X.calm = true) (hg : Gl X "sorted") (hm : X.mg "sorted" = none) (hg2 : Gl X "set") (hm2 : X.mg "set" = none) (ha : PE X a ta)
    (na : starEach [a] X.env = (false, eval a X.env) :: starEach [] X.env) : PE X (.Call (.Name "sorted" p) [.Call (.Name "set" p2) [a] [] q] [] pos) (tSortSetT X.K ta) := by
  refine ⟨fun pins s σ H Q I h => ?_⟩
  refine Call_ (ld_blt I hg hm (show bootBuiltins "sorted" = some (.builtin "sorted") by decide +kernel) ?_)
  refine PyProof.Rows.callWith_builtin1 (PyProof.Rows.args_cons ?_ rfl) rfl rfl
  refine Call_ (ld_blt I hg2 hm2 PyProof.Rows.boot_set ?_)
  refine PyProof.Rows.callWith_type1 (PyProof.Rows.args_cons (thn (ha.run pins s σ H _ I h) fun v s1 ⟨x, H1, I1, r1, q1⟩ => PyProof.Rows.args_nil ?_) na) na rfl
  obtain ⟨l, ns, rfl, hq, h6, q1⟩ := q1
  cases r1
  obtain ⟨its, r, pl, hz⟩ := I1.tuple hq
  refine call_set_tupI ns (I1.ok.hd hc) (show s1.heap.IsTuple l its.toArray from pl) (ints_of_vals r) (by unfold scanBound; omega) fun h' tk c R hcn k => PyProof.Rows.args_nil ?_
  have I2 : Inv X pins σ H1 { s1 with heap := h', toks := tk } := I1.kept k
  refine sorted_setL (s := { s1 with heap := h', toks := tk }) R (I1.ok.hd hc) fun s' p out c2 out2 k2 g o hp hgp hi hs hme hl => ?_
  have hn : H1 p = none := I2.hok.fresh hp
  have J : Inv X pins σ (upd H1 p (.lst (out2.map V.int))) { { s1 with heap := h', toks := tk } with heap := s'.heap, gens := s'.gens, drawn := s'.drawn, toks := s'.toks } :=
    I2.call (ch := []) (Un.laid k2 hp hn) (I2.hok.laid k2 hp ⟨by rw [List.length_map, hl, sizeLine_eq]; omega, out.toList, c2, vals_of_ints hi, hgp⟩) (by rw [g]; exact I2.bare) (fun _ z => nomatch z)
  have e : s' = { { s1 with heap := h', toks := tk } with heap := s'.heap, gens := s'.gens, drawn := s'.drawn, toks := s'.toks } := by
    cases s'
    cases o
    rfl
  rw [e]
  exact ⟨.ref p, _, J, rfl, q1 out2 p hs (fun k => by rw [hme k, decide_eq_true_eq]) hn⟩
end L2
namespace Z
open PySem PySem.Spec L2
open Py (toD)
section
variable {X : Cx} {P : Par} {Wx : WX} {Γ : List Sl} {N : List Str} {sc : Scope} {k : Nat} {e : Expr} {pos : Pos}
theorem en_sortedSetT {m : W (Tup Int)} {p p2 q : Pos} (cc : Cok X P Wx N sc k) (ha : EX X P Wx Γ e m) (hg : GlS sc "sorted" := by rfl) (hg2 : GlS sc "set" := by rfl) (hs : starEach [e] X.env = (false, eval e X.env) :: starEach [] X.env := by rfl) :
    EN X P Wx Γ (.Call (.Name "sorted" p) [.Call (.Name "set" p2) [e] [] q] [] pos) (W.b1 m fun x => sortSetW x.l) :=
  PE.imp (pe_sortSetT cc.calm (gl cc hg) (blt cc) (gl cc hg2) (blt cc) ha hs) fun σ H Q' h => by
    obtain ⟨G, Q, E, R, w, kk, kx⟩ := h
    refine ⟨G, _, E, R, w, fun v H1 G1 x g1 d1 w1 => ?_, kx⟩
    obtain ⟨l, vs, rfl, gl, dl, zl⟩ := den_tup.mp d1
    rw [DenL.ints] at dl
    subst dl
    have R1 := R.grow g1
    refine ⟨l, x.l, rfl, .inl (.inl (R1.sub _ _ gl)), w1.1, fun out r hsd hme hr => ?_⟩
    have nd : out.Nodup := hsd.imp fun {a b} h => Int.ne_of_lt h
    have e : out = sortI (dedup x.l) := sorted_unique (((List.perm_ext_iff_of_nodup nd (nodup_dedup x.l)).mpr fun z => by rw [hme, mem_dedup]).trans (sortI_perm _).symm) (hsd.imp fun {a b} h => Int.le_of_lt h) (sortI_sorted _)
    subst e
    have g4 := grow_raw (o := .lst ((sortI (dedup x.l)).map V.int)) R1.toRelB hr
    exact kk r _ _ _ _ (g1.trans g4 (DealAt.there R1.dk)) (H_none R.toRelB g1 hr) (R1.toRelB.free hr).2.2 upd_same (DenL.ints.mpr rfl) (by rw [(sortI_perm _).length_eq]; exact Nat.le_trans (dedup_le x.l) zl) w1.2
end
end Z

set_option autoImplicit false
set_option Elab.async false
set_option linter.all false
set_option maxRecDepth 100000
set_option maxHeartbeats 3000001
/-! sorted(a list of alike data), tuples in tuples -/
namespace L2
open PySem PySem.Spec PyProof.Rows
open PySem.W (EachIs AllAlike Sortable dataLe)
theorem each_vals : ∀ {ps : List (V × PyData)} {its : List Value}, Vals (ps.map (·.1)) its → EachIs (fun (u : Value) (p : V × PyData) => RelV p.1 u) its ps
  | [], _, .nil => .nil
  | _ :: _, _, .cons r t => .cons r (each_vals t)
theorem vals_each : ∀ {ps : List (V × PyData)} {its : List Value}, EachIs (fun (u : Value) (p : V × PyData) => RelV p.1 u) its ps → Vals (ps.map (·.1)) its
  | _, _, .nil => .nil
  | _, _, .cons r t => .cons r (vals_each t)
theorem each_reads {X : Cx} {pins : List (Addr × Obj)} {σ : St} {H : Hp} {s : Shared} (I : Inv X pins σ H s) : ∀ {ps : List (V × PyData)} {its : List Value}, (∀ p ∈ ps, Dp X.K H p.1 p.2) → EachIs (fun (u : Value) (p : V × PyData) => RelV p.1 u) its ps → EachIs (fun (u : Value) (p : V × PyData) => ∃ as, Reads s.heap u p.2 as) its ps
  | _, _, _, .nil => .nil
  | p :: ps, _, h, .cons r t => .cons (Dp.reads I _ _ _ (h p (List.mem_cons_self ..)) r) (each_reads I (fun q hq => h q (List.mem_cons_of_mem _ hq)) t)
def rSortedDt (K : PySem.W.Frag) : List V → Hp → VK → Prop := fun us H Q => ∃ (a : Addr) (ps : List (V × PyData)), us = [V.ref a] ∧ SqL K H a (ps.map (·.1)) ∧ (∀ p ∈ ps, Dp K H p.1 p.2) ∧ AllAlike (ps.map (·.2)) ∧ Sortable (ps.map (·.2)) ∧ (∀ p ∈ ps, p.2.depth ≤ 60) ∧
  ∀ p : Addr, H p = none → Q (.ref p) (upd H p (.lst ((ps.mergeSort (dataLe false (·.2))).map (·.1))))
theorem cr_sortedDt {X : Cx} (hu : X.A.units + 64 < cLine) : CallR X (.builtin "sorted") (rSortedDt X.K) := by
  intro pins s σ H vs us Q I r h
  obtain ⟨a, ps, rfl, hs, hd, al, so, dp, q⟩ := h
  obtain ⟨its, rv, hl, hz⟩ := I.list hs
  rw [Vals.ref1 r]
  have e := each_vals rv
  have hz' : ps.length ≤ sizeLine := by rw [List.length_map] at hz; exact hz
  refine PySem.W.sorted_data (vs := its) (bs := ps) (enc := fun p => p.2) hl.isList e (each_reads I hd e) al so hz' (fun b hb => by have := dp b hb; omega) fun out ol eo => ?_
  obtain ⟨ep, he'⟩ := PyProof.Rows.sortedAll_at s.heap its out.toArray
  have vl := vals_each eo
  have hlen : ((ps.mergeSort (dataLe false (·.2))).map (·.1)).length ≤ sizeLine := by
    rw [List.length_map, List.length_mergeSort]
    exact hz'
  exact ⟨.ref _, upd H (s.heap.objs.size + 1) (.lst ((ps.mergeSort (dataLe false (·.2))).map (·.1))), I.laid (t' := s.toks) (fun _ _ => PyProof.Rows.sortedAll_old) (Nat.le_succ _) ⟨hlen, out, ep, vl, he'⟩, rfl, q _ (I.hok.fresh (Nat.le_succ _))⟩
end L2
namespace Z
open PySem PySem.Spec L2
open PySem.W (EachIs AllAlike Sortable dataLe)
open Py (toD)
section
variable {α : Type} [Py α]
variable {X : Cx} {P : Par} {Wx : WX} {Γ : List Sl} {N : List Str} {sc : Scope} {k : Nat} {e : Expr} {pos : Pos}
def encD (x : α) : PyData := pd (toD x)
def leD (a b : α) : Bool := dataLe false (encD (α := α)) a b
def sortable (l : List α) : Prop := (∀ a ∈ l, flat (toD a) = true ∧ (encD a).depth ≤ 60) ∧ AllAlike (l.map encD) ∧ Sortable (l.map encD)
def sortD (l : List α) : W (List α) := W.need (sortable l) (l.mergeSort leD)
theorem den_zip {G : Hp} : ∀ {l : List α} {vs : List V}, DenL G (l.map toD) vs → (∀ p ∈ l.zip vs, Den G (toD p.1) p.2) ∧ (l.zip vs).map (·.2) = vs ∧ (l.zip vs).map (·.1) = l
  | [], vs, h => by
    rw [List.map_nil, DenL.nil_iff] at h
    subst h
    exact ⟨fun p hp => (by cases hp), rfl, rfl⟩
  | x :: l, vs, h => by
    obtain ⟨v, r, rfl, a, b⟩ := DenL.cons_iff.mp h
    obtain ⟨p1, p2, p3⟩ := den_zip b
    refine ⟨fun p hp => ?_, by simp [p2], by simp [p3]⟩
    rcases List.mem_cons.mp hp with q | q
    · subst q; exact a
    · exact p1 p q
theorem zip_den {G : Hp} : ∀ {ps : List (α × V)}, (∀ p ∈ ps, Den G (toD p.1) p.2) → DenL G ((ps.map (·.1)).map toD) (ps.map (·.2))
  | [], _ => DenL.nil_iff.mpr rfl
  | p :: ps, h => DenL.cons_iff.mpr ⟨p.2, _, rfl, h p (List.mem_cons_self ..), zip_den fun q hq => h q (List.mem_cons_of_mem _ hq)⟩
theorem en_sortedD {m : W (List α)} {p : Pos} (cc : Cok X P Wx N sc k) (ha : EX X P Wx Γ e m) (hg : GlS sc "sorted" := by rfl) (hs : starEach [e] X.env = (false, eval e X.env) :: starEach [] X.env := by rfl) :
    EN X P Wx Γ (.Call (.Name "sorted" p) [e] [] pos) (W.b1 m sortD) :=
  en_bf cc (cr_sortedDt cc.room.units) (by decide +kernel) ha (fun σ G H y v Q E Q' R d w kk => by
    obtain ⟨q, vs, rfl, g, t, zl⟩ := den_list.mp d
    obtain ⟨⟨w1, w2, w3⟩, w4⟩ := w
    obtain ⟨z1, z2, z3⟩ := den_zip t
    let ps : List (V × PyData) := (y.zip vs).map fun p => (p.2, encD p.1)
    have e1 : ps.map (·.1) = vs := by
      show ((y.zip vs).map fun p => (p.2, encD p.1)).map (·.1) = vs
      rw [List.map_map]
      exact z2
    have e2 : ps.map (·.2) = y.map encD := by
      show ((y.zip vs).map fun p => (p.2, encD p.1)).map (·.2) = _
      rw [List.map_map]
      have : (y.zip vs).map ((fun p : V × PyData => p.2) ∘ fun p : α × V => (p.2, encD p.1)) = ((y.zip vs).map (·.1)).map encD := by
        rw [List.map_map]
        rfl
      rw [this, z3]
    have mem : ∀ p ∈ y.zip vs, p.1 ∈ y := fun p hp => by
      rw [← z3]
      exact List.mem_map.mpr ⟨p, hp, rfl⟩
    refine ⟨q, ps, rfl, ?_, fun p hp => ?_, by rw [e2]; exact w2, by rw [e2]; exact w3, fun p hp => ?_, fun r hr => ?_⟩
    · rw [e1]
      exact .inl (rd_sub R.sub g)
    · obtain ⟨z, hz, rfl⟩ := List.mem_map.mp hp
      exact den_dp R.sub _ _ (w1 _ (mem z hz)).1 (z1 z hz)
    · obtain ⟨z, hz, rfl⟩ := List.mem_map.mp hp
      exact (w1 _ (mem z hz)).2
    · have ms : ps.mergeSort (dataLe false (·.2)) = ((y.zip vs).mergeSort fun a b => leD a.1 b.1).map fun p => (p.2, encD p.1) :=
        (List.map_mergeSort (f := fun p : α × V => ((p.2, encD p.1) : V × PyData)) (l := y.zip vs) (r := fun a b => leD a.1 b.1) (s := dataLe false fun p : V × PyData => p.2) (fun _ _ _ _ => rfl)).symm
      have my : y.mergeSort leD = ((y.zip vs).mergeSort fun a b => leD a.1 b.1).map (·.1) := by
        rw [List.map_mergeSort (f := fun p : α × V => p.1) (r := fun a b => leD a.1 b.1) (s := leD) (fun _ _ _ _ => rfl), z3]
      rw [ms, List.map_map]
      refine kk r (y.mergeSort leD) _ hr ?_ (by rw [List.length_mergeSort]; exact zl) w4
      rw [my]
      exact zip_den fun p hp => z1 p ((List.mergeSort_perm _ _).mem_iff.mp hp)) (by decide) hg (by decide) (by decide) hs
end
end Z

set_option autoImplicit false
set_option Elab.async false
set_option linter.all false
set_option maxRecDepth 100000
set_option maxHeartbeats 2000003
/-! an if whose ways go on or return -/
namespace Z
open PySem PySem.Spec L2
open Py (toD)
namespace W
variable {τ ρ : Type}
def lpW (m : W (Fl τ Unit ρ)) : W (Lp τ ρ) := m.bind fun z => match z with
  | .nx t => pure (.dn t)
  | .bk _ => stuck
  | .rt r => pure (.rt r)
theorem lpW_nx (t : τ) : lpW (pure (.nx t) : W (Fl τ Unit ρ)) = pure (.dn t) := rfl
theorem lpW_rt (r : ρ) : lpW (pure (.rt r) : W (Fl τ Unit ρ)) = pure (.rt r) := rfl
theorem lpW_wp (m : W (Fl τ Unit ρ)) (Q E) : (lpW m).wp Q E = m.wp (fun z => match z with | .nx t => Q (.dn t) | .bk _ => False | .rt r => Q (.rt r)) E := by
  show m.wp _ E = _
  congr 1
  funext z
  cases z <;> rfl
end W
section
variable {α β γ δ τ ρ μ : Type} [Py α] [Py β] [Py γ] [Py δ] [Py ρ]
variable {X : Cx} {P : Par} {Wx : WX} {Γ : List Sl} {c : Expr} {pos : Pos}
theorem l_if {mc : W Bool} {ma mb : W (Fl τ Unit ρ)} {Nn : τ → List Sl} {A B : List Stmt} (hc : TX X P Wx Γ c mc) (ha : FB X P Wx Γ A ma Nn (fun _ => [])) (hb : FB X P Wx Γ B mb Nn (fun _ => [])) : L1 X P Wx Γ (.If c A B pos) (W.lpW (W.ite mc ma mb)) Nn :=
  PS.imp (ps_if hc ha hb) fun D σ H h => by
    obtain ⟨G, Q, E, R, q, kk, kr, kx⟩ := h
    rw [W.lpW_wp] at q
    refine ⟨G, _, E, R, q, fun H1 G1 x g1 w1 => ?_, kx⟩
    cases x with
    | true => exact ⟨G1, _, E, R.grow g1, w1, fun t σ' H' G' R' s' q' => kk t σ' H' G' R' (g1.g.trans s') q', fun t σ' H' G' R' s' q' => (show False from q').elim, fun r v H' G' R' d q' => kr r v H' G' R' d q', kx⟩
    | false => exact ⟨G1, _, E, R.grow g1, w1, fun t σ' H' G' R' s' q' => kk t σ' H' G' R' (g1.g.trans s') q', fun t σ' H' G' R' s' q' => (show False from q').elim, fun r v H' G' R' d q' => kr r v H' G' R' d q', kx⟩
end
end Z

set_option autoImplicit false
set_option Elab.async false
set_option linter.all false
set_option maxRecDepth 100000
set_option maxHeartbeats 2000003
/-! ranges with a step, list(range(a, b)), x = y.pop(), list.index -/
namespace L2
open PySem PySem.Spec PyProof.Rows
section
variable {X : Cx} {pins : List (Addr × Obj)} {σ : St} {H : Hp} {s : Shared}
theorem star_range {r : Addr} {a b c : Int} {t u v : Tok} {n : Nat} {E : Value → Shared → Prop} {Q : List Value → Shared → Prop} (I : Inv X pins σ H s) (hc : X.calm = true) (hr : IsRange s.heap r a b c t u v) (hsm : Builtin.Range.small a b c = true) (hn : Builtin.Range.rangeSize a b c = n) (hl : n ≤ 2 ^ 24)
    (hQ : ∀ us s', Inv X pins σ H s' → Vals ((List.range n).map fun i => V.int (a + (i : Nat) * c)) us → Q us s') : PySem.W.StarOf (model X.prog X.w) X.A E (.ref r) Q s := by
  have hT : s.TypeIs (.ref r) "range" := ⟨_, hr, rfl⟩
  have z : wpAny (model X.prog X.w) X.A (collect (.ref r)) Q E s := by
    refine collect_range (I.ok.hd hc) hr hsm hn hl fun h' tk acc hk hi => hQ _ _ (I.kept hk) ?_
    have e : acc.toList.length = n := by rw [Array.length_toList]; exact hi.1
    rw [← e]
    refine vals_of_get acc.toList _ fun j u hj => ?_
    obtain ⟨t, rfl⟩ := hi.2 j u (by rw [← hj, Array.getElem?_toList])
    exact ⟨t, rfl⟩
  unfold PySem.W.StarOf notIterableAtAll
  exact wpAny_bind (wpAny_specialOf hT PySem.F.slot_range_iter.lookup (wpAny_pure ⟨rfl, z⟩))
end
def tStarRg (ta t : TA) : TA := fun σ H Q => ta σ H fun vs H1 => ∃ (i j c : Int) (n : Nat), vs = [.int i, .int j, .int c] ∧ RgC i j c n ∧ n ≤ 2 ^ 24 ∧ t σ H1 fun ys H2 => Q (((List.range n).map fun m => V.int (i + (m : Nat) * c)) ++ ys) H2
section
variable {X : Cx}
theorem pa_starRg3 {a b c : Expr} {es : List Expr} {ta t : TA} {p pos sp : Pos} (hc : X.calm = true) (hg : Gl X "range") (hm : X.mg "range" = none) (ha : PA X [a, b, c] ta) (hr : PA X es t)
    (hs : starEach [a, b, c] X.env = (false, eval a X.env) :: starEach [b, c] X.env := by rfl) (hpl : (backTo pos (starEach [b, c] X.env)).any (·.1) = false := by rfl)
    (hst : starEach (.Starred (.Call (.Name "range" p) [a, b, c] [] pos) sp :: es) X.env = (true, eval (.Call (.Name "range" p) [a, b, c] [] pos) X.env) :: starEach es X.env := by rfl) :
    PA X (.Starred (.Call (.Name "range" p) [a, b, c] [] pos) sp :: es) (tStarRg ta t) := by
  refine ⟨fun pos2 pins s σ H Q I h => ?_⟩
  refine PySem.W.items_star (Call_ (ld_blt I hg hm boot_range (PyProof.Rows.callWith_type1 (thn (ha.run pos pins s σ H _ I h) fun us s1 ⟨vs, H1, I1, r1, q1⟩ => ?_) hs hpl))) hst
  obtain ⟨i, j, k, n, e, ⟨c0, c1, c2, c3⟩, nl, q⟩ := q1
  subst e
  cases r1 with
  | cons r rr =>
    cases rr with
    | cons r' rr =>
      cases rr with
      | cons r'' rr =>
        cases rr
        obtain ⟨t, rfl⟩ := r
        obtain ⟨t', rfl⟩ := r'
        obtain ⟨t'', rfl⟩ := r''
        refine call_range_3 c0 ?_ (.inl (PyProof.noPylong_small c1))
        have I2 : Inv X pins σ H1 { s1 with heap := s1.heap.push { cls := .type "range", data := .fields #[.int i t, .int j t', .int k t''] } } := I1.kept (t' := s1.toks) fun b o e => Heap.get?_push_of_some _ e
        refine star_range I2 hc (IsRange.new ..) c2 c3 nl fun us s2 I3 rv => ?_
        exact thn (hr.run pos2 pins s2 σ H1 _ I3 q) fun ws s3 ⟨ys, H3, I4, r3, q3⟩ => ⟨_, H3, I4, rv.append r3, q3⟩
end
end L2
namespace Z
open PySem PySem.Spec L2
open Py (toD)
section
variable {α β γ δ τ ρ μ : Type} [Py α] [Py β] [Py γ] [Py δ] [Py ρ]
variable {X : Cx} {P : Par} {Wx : WX} {Γ : List Sl} {N : List Str} {sc : Scope} {k : Nat} {a b c e tg : Expr} {pos : Pos} {es : List Expr}
/-- how many -/
def n3 (a b c : Int) : Nat := if a < b then ((b - a - 1) / c + 1).toNat else 0
def rng3 (a b c : Int) : List Int := (List.range (n3 a b c)).map fun (i : Nat) => a + (i : Int) * c
def rng3W (a b c : Int) : W (List Int) := W.need ((0 < c ∧ c < 1073741824) ∧ -(2 ^ 61) ≤ a ∧ a < 2 ^ 61 ∧ -(2 ^ 61) ≤ b ∧ b < 2 ^ 61 ∧ b - a ≤ 16777216) (rng3 a b c)
theorem n3_le {a b c : Int} (c0 : 0 < c) (h : b - a ≤ 16777216) : n3 a b c ≤ 16777216 := by
  unfold n3
  split
  · rename_i l
    have := Int.ediv_le_self (b := c) (show 0 ≤ b - a - 1 by omega)
    omega
  · omega
theorem n3_size {a b c : Int} (c0 : 0 < c) : Builtin.Range.rangeSize a b c = (n3 a b c : Nat) := by
  unfold Builtin.Range.rangeSize n3
  rw [if_pos (show c > 0 from c0)]
  split
  · have : 0 ≤ (b - a - 1) / c := Int.ediv_nonneg (by omega) (by omega)
    omega
  · rfl
theorem rgC_ok {a b c : Int} (h : (0 < c ∧ c < 1073741824) ∧ -(2 ^ 61) ≤ a ∧ a < 2 ^ 61 ∧ -(2 ^ 61) ≤ b ∧ b < 2 ^ 61 ∧ b - a ≤ 16777216) : RgC a b c (n3 a b c) := by
  obtain ⟨⟨c0, c1⟩, a1, a2, b1, b2, d⟩ := h
  refine ⟨by omega, by omega, ?_, n3_size c0⟩
  unfold Builtin.Range.small
  rw [n3_size c0]
  have n1 := n3_le (a := a) (b := b) c0 d
  have L : ∀ i : Int, -(2 ^ 63) ≤ i → i < 2 ^ 63 → Builtin.Range.rangeFitsLong i = true := fun i h1 h2 => by
    unfold Builtin.Range.rangeFitsLong
    rw [Bool.and_eq_true, decide_eq_true_eq, decide_eq_true_eq]
    exact ⟨h1, h2⟩
  rw [L a (by omega) (by omega), L b (by omega) (by omega), L c (by omega) (by omega), L _ (by omega) (by omega), if_pos (show c > 0 from c0), L (b + (c - 1)) (by omega) (by omega), Bool.or_true]
  rfl
theorem it_rng3 {lo c : Int} {n : Nat} {G : Hp} (hn : n ≤ 16777216) : ItOk P (Itc lo c n) G (((List.range n).map fun (i : Nat) => lo + (i : Int) * c).map toD) := fun G2 H2 R2 s2 => by
  refine ⟨fun i y hy => ?_, by show n ≤ _; simp, by simpa using hn⟩
  rw [List.getElem?_map, List.getElem?_map] at hy
  by_cases hi : i < n
  · rw [List.getElem?_range hi] at hy
    have hy : some (toD (lo + (i : Int) * c)) = some y := hy
    cases hy
    exact ⟨hi, fun u H' ⟨e1, e2⟩ => by subst e1 e2; exact ⟨G2, Grow.refl R2, den_int.mpr rfl⟩⟩
  · rw [List.getElem?_eq_none (by simpa using hi)] at hy
    cases hy
theorem ei_range3 {m n o : W Int} {p : Pos} (cc : Cok X P Wx N sc k) (ha : EX X P Wx Γ a m) (hb : EX X P Wx Γ b n) (hc : EX X P Wx Γ c o) (hg : GlS sc "range" := by rfl) (hs : starEach [a, b, c] X.env = (false, eval a X.env) :: starEach [b, c] X.env := by rfl) (hs2 : starEach [b, c] X.env = (false, eval b X.env) :: starEach [c] X.env := by rfl) (hs3 : starEach [c] X.env = (false, eval c X.env) :: starEach [] X.env := by rfl) (hpl : (backTo pos (starEach [b, c] X.env)).any (·.1) = false := by rfl) :
    EI X P Wx Γ tg (.Call (.Name "range" p) [a, b, c] [] pos) (W.b3 m n o rng3W) := PI.imp (pi_range3 (gl cc hg) (blt cc) (pa_cons ha (pa_cons hb (pa_cons hc pa_nil hs3) hs2) hs) hs hpl) fun σ H Q' h => by
  obtain ⟨G, Q, E, R, w, kk, kx⟩ := h
  refine ⟨G, _, E, R, w, fun v H1 G1 x g1 d1 w1 => ?_, kx⟩
  have R1 := R.grow g1
  refine ⟨G1, _, E, R1, w1, fun v2 H2 G2 y g2 d2 w2 => ?_, kx⟩
  have R2 := R1.grow g2
  refine ⟨G2, _, E, R2, w2, fun v3 H3 G3 z g3 d3 w3 => ⟨x, y, z, n3 x y z, by rw [den_int.mp d1, den_int.mp d2, den_int.mp d3], rgC_ok w3.1, ?_⟩, kx⟩
  exact kk _ H3 G3 (rng3 x y z) ((g1.trans g2 (DealAt.there R1.dk)).trans g3 (DealAt.there R2.dk)) (it_rng3 (n3_le w3.1.1.1 (by have := w3.1; omega))) w3.2
/-- *range(a, b, c) -/
theorem ea_starRg3 {m n o : W Int} {q : W τ} {ty : τ → List D} {p p2 : Pos} (cc : Cok X P Wx N sc k) (ha : EX X P Wx Γ a m) (hb : EX X P Wx Γ b n) (hc : EX X P Wx Γ c o) (hr : EA X P Wx Γ es ty q) (hg : GlS sc "range" := by rfl) (hs : starEach [a, b, c] X.env = (false, eval a X.env) :: starEach [b, c] X.env := by rfl) (hs2 : starEach [b, c] X.env = (false, eval b X.env) :: starEach [c] X.env := by rfl) (hs3 : starEach [c] X.env = (false, eval c X.env) :: starEach [] X.env := by rfl) (hpl : (backTo pos (starEach [b, c] X.env)).any (·.1) = false := by rfl)
    (hst : starEach (.Starred (.Call (.Name "range" p) [a, b, c] [] pos) p2 :: es) X.env = (true, eval (.Call (.Name "range" p) [a, b, c] [] pos) X.env) :: starEach es X.env := by rfl) :
    EA X P Wx Γ (.Starred (.Call (.Name "range" p) [a, b, c] [] pos) p2 :: es) (fun p : List Int × τ => p.1.map toD ++ ty p.2) (W.b2 (W.b3 m n o rng3W) q fun x y => W.pure (x, y)) :=
  PA.imp (pa_starRg3 cc.calm (gl cc hg) (blt cc) (pa_cons ha (pa_cons hb (pa_cons hc pa_nil hs3) hs2) hs) hr hs hpl hst) fun σ H Q' h => by
    obtain ⟨G, Q, E, R, w, kk, kx⟩ := h
    refine ⟨G, _, E, R, w, fun v H1 G1 x g1 d1 w1 => ?_, kx⟩
    have R1 := R.grow g1
    refine ⟨G1, _, E, R1, w1, fun v2 H2 G2 y g2 d2 w2 => ?_, kx⟩
    have R2 := R1.grow g2
    refine ⟨G2, _, E, R2, w2, fun v3 H3 G3 z g3 d3 w3 => ?_, kx⟩
    have R3 := R2.grow g3
    obtain ⟨w3a, w3⟩ := w3
    refine ⟨x, y, z, n3 x y z, by rw [den_int.mp d1, den_int.mp d2, den_int.mp d3], rgC_ok w3a, n3_le w3a.1.1 (by omega), G3, _, E, R3, w3, fun ws H4 G4 t g4 d4 w4 => ?_, kx⟩
    refine kk _ H4 G4 (rng3 x y z, t) (((g1.trans g2 (DealAt.there R1.dk)).trans g3 (DealAt.there R2.dk)).trans g4 (DealAt.there R3.dk)) (DenL.append ?_ d4) w4
    rw [DenL.ints]
    unfold rng3
    rw [List.map_map]
    rfl
/-- list(range(a, b)) -/
theorem en_listRg2 {m n : W Int} {p p2 pos2 : Pos} (cc : Cok X P Wx N sc k) (ha : EX X P Wx Γ a m) (hb : EX X P Wx Γ b n) (hg : GlS sc "list" := by rfl) (hg2 : GlS sc "range" := by rfl) (hs : starEach [a, b] X.env = (false, eval a X.env) :: starEach [b] X.env := by rfl) (hs3 : starEach [b] X.env = (false, eval b X.env) :: starEach [] X.env := by rfl) (hpl : (backTo pos2 (starEach [b] X.env)).any (·.1) = false := by rfl)
    (hs2 : starEach [.Call (.Name "range" p2) [a, b] [] pos2] X.env = (false, eval (.Call (.Name "range" p2) [a, b] [] pos2) X.env) :: starEach [] X.env := by rfl) :
    EN X P Wx Γ (.Call (.Name "list" p) [.Call (.Name "range" p2) [a, b] [] pos2] [] pos) (W.b2 m n rngW) :=
  PE.imp (pe_listRg cc.calm (gl cc hg) (blt cc) (prg_2 (gl cc hg2) (blt cc) ha hb hs hs3 hpl) hs2) fun σ H Q' h => by
    obtain ⟨G, Q, E, R, w, kk, kx⟩ := h
    refine ⟨G, _, E, R, w, fun v H1 G1 x g1 d1 w1 => ?_, kx⟩
    have R1 := R.grow g1
    refine ⟨G1, _, E, R1, w1, fun v2 H2 G2 y g2 d2 w2 => ⟨x, y, den_int.mp d1, den_int.mp d2, ?_, fun r hr => ?_⟩, kx⟩
    · obtain ⟨⟨_, _, w3, w4⟩, _⟩ := w2
      refine ⟨by omega, by omega, by omega, by omega, by omega⟩
    · have R2 := R1.grow g2
      have g4 := grow_raw (o := .lst (rgV x y)) R2.toRelB hr
      have gg := g1.trans g2 (DealAt.there R1.dk)
      refine kk r _ _ _ (rng x y) (gg.trans g4 (DealAt.there R2.dk)) (H_none R.toRelB gg hr) (R2.toRelB.free hr).2.2 upd_same ?_ ?_ w2.2
      · rw [DenL.ints]
        unfold rgV rng
        rw [List.map_map]
        exact List.map_congr_left fun i _ => rfl
      · have := w2.1.2.2.2
        unfold rng
        rw [List.length_map, List.length_range]
        omega
/-- x = y.pop(..) -/
theorem s_setP {m : W (α × τ)} {f : τ → List Sl} (cc : Dok X P Wx N sc k) (i : Nat) {x : Str} {p' : Pos} (he : EP X P Wx Γ e m f) (hi : N[i]? = some x := by rfl) (hx : Loc sc x := by first | exact Or.inl rfl | exact Or.inr rfl)
    (hs : ∀ env : Env, env.scope = sc → swapsWith e (some (.Name x p')) pos.line env = pure false := by intro env h; first | rfl | (cases env; cases h; rfl)) :
    S1 X P Wx Γ (.Assign [.Name x p'] e pos) m (fun a => (f a.2).set i (.dat (toD a.1))) :=
  PS.imp (ps_set (i := i) (by rw [cc.hN]; exact cc.nd) (by rw [cc.hN]; exact hi) (by rw [cc.hsc]; exact hx) he (hs _ cc.hsc) (.inl (cc.fn x))) fun D σ H h => by
    obtain ⟨G, Q, E, R, q, kk, kx⟩ := h
    exact ⟨G, Q, E, R, q, fun v H' G' a t R' s' d q' => kk (a, t) _ H' G' (R'.set d) s' q', kx⟩
theorem pdL_map : ∀ l : List D, pdL l = l.map pd
  | [] => rfl
  | d :: l => by rw [pdL, pdL_map l, List.map_cons]
/-- the first place of a thing in a list -/
def indexW (l : List α) (y : β) : W Int := match l.findIdx? fun x => eqD (toD x) (toD y) with
  | some j => W.need (eqOk (toD l) = true ∧ eqOk (toD y) = true) ((j : Nat) : Int)
  | none => W.stuck
theorem ex_index {m : W (List α)} {n : W β} {p2 p3 : Pos} (cc : Cok X P Wx N sc k) (ha : EX X P Wx Γ a m) (hb : EX X P Wx Γ b n) (hline : (p2.endLine == p3.line) = true := by rfl) (hs : starEach [b] X.env = (false, eval b X.env) :: starEach [] X.env := by rfl) (hab : attributeBase a "index" X.env (eval a X.env) = eval a X.env := by rfl) :
    EX X P Wx Γ (.Call (.Attribute a "index" p2) [b] [] p3) (W.b2 m n indexW) :=
  PE.imp (pe_bm PySem.F.plainAttrs_list PySem.F.slot_list_index PySem.F.type_list_index (mt_indexD (by have := cc.room.un; omega)) ha (pa_cons hb pa_nil hs) hab (by rw [hs]; rfl) hline hs rfl) fun σ H Q' h => by
    obtain ⟨G, Q, E, R, w, kk, kx⟩ := h
    refine ⟨G, _, E, R, w, fun v H1 G1 l g1 d1 w1 => ?_, kx⟩
    have R1 := R.grow g1
    obtain ⟨p, vs, rfl, gp, t, zl⟩ := den_list.mp d1
    refine ⟨.inl ⟨rfl, vs, .inl (.inl (R1.sub _ _ gp))⟩, G1, _, E, R1, w1, fun u H2 G2 y g2 d2 w2 => ?_, kx⟩
    have R2 := R1.grow g2
    have w2 : (indexW l y).wp Q E := w2
    unfold indexW at w2
    cases ef : l.findIdx? (fun x => eqD (toD x) (toD y)) with
    | none => rw [ef] at w2; exact w2.elim
    | some j =>
      rw [ef] at w2
      obtain ⟨⟨k1, k2⟩, w2⟩ := w2
      simp only [eqOk, Bool.and_eq_true] at k1 k2
      obtain ⟨hj, e1, e2⟩ := List.findIdx?_eq_some_iff_getElem.mp ef
      have get : ∀ (m : Nat) (hm : m < l.length), (pdL (l.map toD))[m]? = some (pd (toD l[m])) := fun m hm => by
        rw [pdL_map, List.getElem?_map, List.getElem?_map, List.getElem?_eq_getElem hm]
        rfl
      refine ⟨p, u, pd (toD y), pdL (l.map toD), j, _, rfl, rfl, den_dp R2.sub (toD l) (V.ref p) k1.1 (Den.mono g2.g _ _ d1), den_dp R2.sub (toD y) u k2.1 d2, k1.2, k2.2, get j hj, e1, fun m z' hm hz => ?_, kk _ _ _ _ (g1.trans g2 (DealAt.there R1.dk)) (den_int.mpr rfl) w2⟩
      have hm' : m < l.length := Nat.lt_trans hm hj
      rw [get m hm'] at hz
      cases hz
      have := e2 m hm
      simpa [eqD] using this
end
end Z

set_option autoImplicit false
set_option Elab.async false
set_option linter.all false
set_option maxRecDepth 100000
set_option maxHeartbeats 2000003
/-! dicts: keys that are ints, or tuples of ints -/
namespace Z
open PySem PySem.Spec L2
open Py (toD)
/-- a dict by its entries -/
structure DI (γ : Type) where
  m : List (Int × γ)
structure DT (γ : Type) where
  m : List (List Int × γ)
instance {γ} [Py γ] : Py (DI γ) := ⟨fun d => .dk (.I (d.m.map (·.1))) (d.m.map fun p => toD p.2)⟩
instance {γ} [Py γ] : Py (DT γ) := ⟨fun d => .dk (.T (d.m.map (·.1))) (d.m.map fun p => toD p.2)⟩
/-- what is a key of ints -/
class KeyT (τ : Type) [Py τ] where
  tk : τ → List Int
  eq : ∀ x, toD x = .tup ((tk x).map fun i => D.int i)
instance : KeyT (Tup Int) := ⟨fun t => t.l, fun _ => rfl⟩
instance : KeyT (Int × Int) := ⟨fun p => [p.1, p.2], fun _ => rfl⟩
instance : KeyT (T3 Int Int Int) := ⟨fun p => [p.a, p.b, p.c], fun _ => rfl⟩
section
variable {κ κ' γ : Type} [DecidableEq κ] [DecidableEq κ']
def getM (m : List (κ × γ)) (k : κ) : Option γ := (m.find? fun p => decide (p.1 = k)).map (·.2)
def putM (m : List (κ × γ)) (k : κ) (v : γ) : List (κ × γ) := if (m.any fun p => decide (p.1 = k)) = true then m.map (fun p => if p.1 = k then (p.1, v) else p) else m ++ [(k, v)]
theorem val_get [Py γ] {G : Hp} {f : κ → κ'} (inj : ∀ a b, f a = f b → a = b) {k : κ} : ∀ {m : List (κ × γ)} {vs : List V}, DenL G (m.map fun p => toD p.2) vs → (getM m k = none ∧ valV ((m.map fun p => f p.1).zip vs) (f k) = none) ∨ ∃ y v, getM m k = some y ∧ valV ((m.map fun p => f p.1).zip vs) (f k) = some v ∧ Den G (toD y) v
  | [], vs, h => .inl ⟨rfl, rfl⟩
  | p :: m, vs, h => by
    obtain ⟨v, r, rfl, q, t⟩ := DenL.cons_iff.mp h
    show (getM (p :: m) k = none ∧ valV ((f p.1, v) :: (m.map fun p => f p.1).zip r) (f k) = none) ∨ ∃ y u, getM (p :: m) k = some y ∧ valV ((f p.1, v) :: (m.map fun p => f p.1).zip r) (f k) = some u ∧ Den G (toD y) u
    by_cases e : p.1 = k
    · refine .inr ⟨p.2, v, ?_, valV_pos (congrArg f e), q⟩
      unfold getM
      rw [List.find?_cons_of_pos (by simp [e])]
      rfl
    · have e1 : getM (p :: m) k = getM m k := by
        unfold getM
        rw [List.find?_cons_of_neg (by simp [e])]
      rw [e1, valV_neg (fun z => e (inj _ _ z))]
      exact val_get inj t
theorem zip_any {f : κ → κ'} (inj : ∀ a b, f a = f b → a = b) {k : κ} : ∀ {m : List (κ × γ)} {vs : List V}, vs.length = m.length → (((m.map fun p => f p.1).zip vs).any fun kv => decide (kv.1 = f k)) = m.any fun p => decide (p.1 = k)
  | [], [], _ => rfl
  | p :: m, v :: vs, h => by
    show (decide (f p.1 = f k) || ((m.map fun p => f p.1).zip vs).any fun kv => decide (kv.1 = f k)) = (decide (p.1 = k) || m.any fun p => decide (p.1 = k))
    rw [zip_any inj (by simpa using h)]
    congr 1
    rw [Bool.eq_iff_iff, decide_eq_true_eq, decide_eq_true_eq]
    exact ⟨inj _ _, fun z => by rw [z]⟩
theorem zip_put [Py γ] {G : Hp} {f : κ → κ'} (inj : ∀ a b, f a = f b → a = b) {k : κ} {y : γ} {v : V} {m : List (κ × γ)} {vs : List V} (h : DenL G (m.map fun p => toD p.2) vs) (d : Den G (toD y) v) :
    ∃ ws, putK ((m.map fun p => f p.1).zip vs) (f k) v = (((putM m k y).map fun p => f p.1).zip ws) ∧ DenL G ((putM m k y).map fun p => toD p.2) ws := by
  have hl : vs.length = m.length := by rw [h.length, List.length_map]
  unfold putK putM
  rw [zip_any inj hl]
  by_cases c : (m.any fun p => decide (p.1 = k)) = true
  · rw [if_pos c, if_pos c]
    have : ∀ (m : List (κ × γ)) (vs : List V), DenL G (m.map fun p => toD p.2) vs → ∃ ws, ((m.map fun p => f p.1).zip vs).map (fun kv => if kv.1 = f k then (kv.1, v) else kv) = ((m.map fun p => if p.1 = k then (p.1, y) else p).map fun p => f p.1).zip ws ∧ DenL G ((m.map fun p => if p.1 = k then (p.1, y) else p).map fun p => toD p.2) ws := fun m => by
      induction m with
      | nil =>
        intro vs h
        rw [List.map_nil, DenL.nil_iff] at h
        subst h
        exact ⟨[], rfl, DenL.nil_iff.mpr rfl⟩
      | cons p m ih =>
        intro vs h
        obtain ⟨u, r, rfl, q, t⟩ := DenL.cons_iff.mp h
        obtain ⟨ws, e, dw⟩ := ih r t
        by_cases e2 : p.1 = k
        · refine ⟨v :: ws, ?_, ?_⟩
          · simp only [List.map_cons, List.zip_cons_cons, e2, if_true]
            rw [← e]
          · simp only [List.map_cons, e2, if_true]
            exact DenL.cons_iff.mpr ⟨v, ws, rfl, d, dw⟩
        · refine ⟨u :: ws, ?_, ?_⟩
          · simp only [List.map_cons, List.zip_cons_cons, if_neg e2, if_neg (fun z => e2 (inj _ _ z))]
            rw [← e]
          · simp only [List.map_cons, if_neg e2]
            exact DenL.cons_iff.mpr ⟨u, ws, rfl, q, dw⟩
    exact this m vs h
  · rw [if_neg c, if_neg c]
    refine ⟨vs ++ [v], ?_, ?_⟩
    · rw [List.map_append, List.zip_append (by rw [List.length_map, hl])]
      rfl
    · rw [List.map_append]
      exact DenL.append h (DenL.one d)
theorem putM_len (m : List (κ × γ)) (k : κ) (v : γ) : (putM m k v).length ≤ m.length + 1 := by
  unfold putM
  split <;> simp
end
theorem inlI : ∀ a b : Int, (Sum.inl a : L2.Key) = Sum.inl b → a = b := fun a b h => Sum.inl.inj h
theorem inlT : ∀ a b : List Int, (a.map Sum.inl : List L2.Key) = b.map Sum.inl → a = b
  | [], [], _ => rfl
  | [], _ :: _, h => by cases h
  | _ :: _, [], h => by cases h
  | x :: a, y :: b, h => by
    have h := List.cons.inj h
    rw [Sum.inl.inj h.1, inlT a b h.2]
section
variable {α β γ δ τ ρ μ : Type} [Py α] [Py β] [Py γ] [Py δ] [Py ρ]
variable {X : Cx} {P : Par} {Wx : WX} {Γ : List Sl} {N : List Str} {sc : Scope} {k : Nat} {a b c e tg : Expr} {pos : Pos} {es : List Expr} {sts : List Stmt}
/-- the slot of a dict of one's own -/
abbrev slI (m : List (Int × γ)) : Sl := .ownK (.dk (.I (m.map (·.1)))) (m.map fun p => toD p.2)
abbrev slT (m : List (List Int × γ)) : Sl := .ownK (.dk (.T (m.map (·.1)))) (m.map fun p => toD p.2)
theorem objI (m : List (Int × γ)) (vs : List V) : (OK.dk (.I (m.map (·.1)))).obj vs = .dK ((m.map fun p => (Sum.inl p.1 : L2.Key)).zip vs) := by
  show HO.dK (((m.map (·.1)).map Sum.inl).zip vs) = _
  rw [List.map_map]
  rfl
theorem objT (m : List (List Int × γ)) (vs : List V) : (OK.dk (.T (m.map (·.1)))).obj vs = .dT ((m.map fun p => (p.1.map Sum.inl : List L2.Key)).zip vs) := by
  show HO.dT (((m.map (·.1)).map fun k => k.map Sum.inl).zip vs) = _
  rw [List.map_map]
  rfl
/-! new ones -/
theorem ev_dictI : EV X P Wx Γ (.Dict [] [] pos) (W.pure ([] : List (Int × γ))) (fun m => slI m) := PE.imp pe_dnewK fun σ H Q' h => by
  obtain ⟨G, Q, E, R, w, kk, kx⟩ := h
  intro p hp
  have g := grow_raw (o := .dK []) R.toRelB hp
  exact kk (.ref p) _ G [] g ⟨p, [], rfl, hp, (R.toRelB.free hp).2.2, upd_same, DenL.nil_iff.mpr rfl, by simp, True.intro⟩ w
theorem ev_dictT : EV X P Wx Γ (.Dict [] [] pos) (W.pure ([] : List (List Int × γ))) (fun m => slT m) := PE.imp pe_dnewT fun σ H Q' h => by
  obtain ⟨G, Q, E, R, w, kk, kx⟩ := h
  intro p hp
  have g := grow_raw (o := .dT []) R.toRelB hp
  exact kk (.ref p) _ G [] g ⟨p, [], rfl, hp, (R.toRelB.free hp).2.2, upd_same, DenL.nil_iff.mpr rfl, by simp, True.intro⟩ w
/-- x = a new thing of one's own -/
theorem s_ev {m : W τ} {w : τ → Sl} (cc : Dok X P Wx N sc k) (i : Nat) {x : Str} {p' : Pos} (he : EV X P Wx Γ e m w) (hi : N[i]? = some x := by rfl) (hx : Loc sc x := by first | exact Or.inl rfl | exact Or.inr rfl)
    (hs : ∀ env : Env, env.scope = sc → swapsWith e (some (.Name x p')) pos.line env = pure false := by intro env h; first | rfl | (cases env; cases h; rfl)) :
    S1 X P Wx Γ (.Assign [.Name x p'] e pos) m (fun a => Γ.set i (w a)) :=
  PS.imp (ps_set (i := i) (by rw [cc.hN]; exact cc.nd) (by rw [cc.hN]; exact hi) (by rw [cc.hsc]; exact hx) he (hs _ cc.hsc) (.inl (cc.fn x))) fun D σ H h => by
    obtain ⟨G, Q, E, R, q, kk, kx⟩ := h
    exact ⟨G, Q, E, R, q, fun v H' G' a g d q' => kk a _ H' G' (R.setNew (R.grow g) d) g.g q', kx⟩
/-! x[k] = e -/
theorem s_putI {mm : List (Int × γ)} {n : W Int} {m : W γ} {x : Str} {p1 p2 pos : Pos} (cc : Cok X P Wx N sc k) (i : Nat) (he : EX X P Wx Γ e m) (hb : EX X P Wx Γ b n) (hi : Γ[i]? = some (slI mm) := by rfl) (hN : N[i]? = some x := by rfl)
    (hv : Vis sc x := by first | exact Or.inl rfl | exact Or.inr (Or.inl rfl) | exact Or.inr (Or.inr rfl)) (hd : (x == ("__debug__" : Str)) = false := by decide)
    (hcd : (x == ("__classdict__" : Str)) = false := by decide)
    (hs : ∀ env : Env, env.scope = sc → swapsWith e (some (.Subscript (.Name x p1) b p2)) pos.line env = pure false := by intro env h; first | rfl | (cases env; cases h; rfl)) :
    S1 X P Wx Γ (.Assign [.Subscript (.Name x p1) b p2] e pos) (W.b2 m n fun a k => W.need (mm.length < 16777216) (putM mm k a)) (fun m' => Γ.set i (slI m')) :=
  PS.imp (ps_dput (by have := cc.room.units; omega) (pe_var (i := i) (by rw [cc.hN]; exact hN) (by rw [cc.hsc]; exact hv) hd hcd) hb he (hs _ cc.hsc)) fun D σ H h => by
    obtain ⟨G, Q, E, R, w, kk, kx⟩ := h
    refine ⟨G, _, E, R, w, fun v H1 G1 y g1 d1 w1 => ?_, kx⟩
    have R1 := R.grow g1
    obtain ⟨p, vs, ep, h1, _⟩ := R1.ownAtK hi
    refine ⟨.ref p, ep, G1, _, E, R1, w1, fun u H2 G2 j g2 d2 w2 => ?_, kx⟩
    have R2 := R1.grow g2
    obtain ⟨p', vs', ep', k1, k2, k3, k4, k5, zl⟩ := R2.ownAtK hi
    rw [ep] at ep'
    cases ep'
    rw [objI] at k1
    obtain ⟨ws, e1, e2⟩ := zip_put (f := fun i : Int => (Sum.inl i : L2.Key)) inlI (k := j) k5 (Den.mono g2.g _ _ d1)
    have hl : vs'.length = mm.length := by rw [k5.length, List.length_map]
    refine ⟨p, _, rfl, .inl ⟨_, Sum.inl j, k1, den_int.mp d2, ?_, rfl⟩, ?_⟩
    · rw [List.length_zip, List.length_map, hl, Nat.min_self, sizeLine_eq]
      exact w2.1
    · rw [e1, ← objI]
      refine kk (putM mm j y) σ _ G2 (R2.ownSetK (.dk (.I ((putM mm j y).map (·.1)))) hi ep (l' := (putM mm j y).map fun p => toD p.2) e2 ?_) (g1.g.trans g2.g) w2.2
      have := putM_len mm j y
      have := w2.1
      rw [List.length_map]
      omega
theorem key_den {τ : Type} [Py τ] [KeyT τ] {G : Hp} {x : τ} {v : V} (h : Den G (toD x) v) : ∃ q, v = .ref q ∧ G q = some (.tup (((KeyT.tk x).map Sum.inl : List L2.Key).map kV)) := by
  rw [KeyT.eq x] at h
  simp only [Den] at h
  obtain ⟨q, vs, e, g, t, _⟩ := h
  rw [DenL.ints.mp t] at g
  refine ⟨q, e, ?_⟩
  rw [g, List.map_map]
  rfl
theorem s_putT {κ : Type} [Py κ] [KeyT κ] {mm : List (List Int × γ)} {n : W κ} {m : W γ} {x : Str} {p1 p2 pos : Pos} (cc : Cok X P Wx N sc k) (i : Nat) (he : EX X P Wx Γ e m) (hb : EX X P Wx Γ b n) (hi : Γ[i]? = some (slT mm) := by rfl) (hN : N[i]? = some x := by rfl)
    (hv : Vis sc x := by first | exact Or.inl rfl | exact Or.inr (Or.inl rfl) | exact Or.inr (Or.inr rfl)) (hd : (x == ("__debug__" : Str)) = false := by decide)
    (hcd : (x == ("__classdict__" : Str)) = false := by decide)
    (hs : ∀ env : Env, env.scope = sc → swapsWith e (some (.Subscript (.Name x p1) b p2)) pos.line env = pure false := by intro env h; first | rfl | (cases env; cases h; rfl)) :
    S1 X P Wx Γ (.Assign [.Subscript (.Name x p1) b p2] e pos) (W.b2 m n fun a k => W.need (mm.length < 16777216) (putM mm (KeyT.tk k) a)) (fun m' => Γ.set i (slT m')) :=
  PS.imp (ps_dput (by have := cc.room.units; omega) (pe_var (i := i) (by rw [cc.hN]; exact hN) (by rw [cc.hsc]; exact hv) hd hcd) hb he (hs _ cc.hsc)) fun D σ H h => by
    obtain ⟨G, Q, E, R, w, kk, kx⟩ := h
    refine ⟨G, _, E, R, w, fun v H1 G1 y g1 d1 w1 => ?_, kx⟩
    have R1 := R.grow g1
    obtain ⟨p, vs, ep, h1, _⟩ := R1.ownAtK hi
    refine ⟨.ref p, ep, G1, _, E, R1, w1, fun u H2 G2 j g2 d2 w2 => ?_, kx⟩
    have R2 := R1.grow g2
    obtain ⟨p', vs', ep', k1, k2, k3, k4, k5, zl⟩ := R2.ownAtK hi
    rw [ep] at ep'
    cases ep'
    rw [objT] at k1
    obtain ⟨q, rfl, gq⟩ := key_den d2
    obtain ⟨ws, e1, e2⟩ := zip_put (f := fun i : List Int => (i.map Sum.inl : List L2.Key)) inlT (k := KeyT.tk j) k5 (Den.mono g2.g _ _ d1)
    have hl : vs'.length = mm.length := by rw [k5.length, List.length_map]
    refine ⟨p, _, rfl, .inr ⟨_, (KeyT.tk j).map Sum.inl, q, k1, rfl, R2.sub _ _ gq, ?_, rfl⟩, ?_⟩
    · rw [List.length_zip, List.length_map, hl, Nat.min_self, sizeLine_eq]
      exact w2.1
    · rw [e1, ← objT]
      refine kk (putM mm (KeyT.tk j) y) σ _ G2 (R2.ownSetK (.dk (.T ((putM mm (KeyT.tk j) y).map (·.1)))) hi ep (l' := (putM mm (KeyT.tk j) y).map fun p => toD p.2) e2 ?_) (g1.g.trans g2.g) w2.2
      have := putM_len mm (KeyT.tk j) y
      have := w2.1
      rw [List.length_map]
      omega
/-! dicts as data -/
def getW {κ : Type} [DecidableEq κ] (m : List (κ × γ)) (k : κ) : W γ := match getM m k with
  | some y => W.pure y
  | none => W.stuck
theorem getW_wp {κ : Type} [DecidableEq κ] {m : List (κ × γ)} {k : κ} {Q E} (h : (getW m k).wp Q E) : ∃ y, getM m k = some y ∧ Q y := by
  unfold getW at h
  cases e : getM m k with
  | none => rw [e] at h; exact h.elim
  | some y => rw [e] at h; exact ⟨y, rfl, h⟩
theorem den_DI {G : Hp} {d : DI γ} {v : V} (h : Den G (toD d) v) : ∃ a vs, v = .ref a ∧ G a = some (.dK ((d.m.map fun p => (Sum.inl p.1 : L2.Key)).zip vs)) ∧ DenL G (d.m.map fun p => toD p.2) vs := by
  have h : Den G (.dk (.I (d.m.map (·.1))) (d.m.map fun p => toD p.2)) v := h
  simp only [Den] at h
  obtain ⟨a, vs, e, g, t, _⟩ := h
  exact ⟨a, vs, e, by rw [g]; exact congrArg some (objI d.m vs), t⟩
theorem den_DT {G : Hp} {d : DT γ} {v : V} (h : Den G (toD d) v) : ∃ a vs, v = .ref a ∧ G a = some (.dT ((d.m.map fun p => (p.1.map Sum.inl : List L2.Key)).zip vs)) ∧ DenL G (d.m.map fun p => toD p.2) vs := by
  have h : Den G (.dk (.T (d.m.map (·.1))) (d.m.map fun p => toD p.2)) v := h
  simp only [Den] at h
  obtain ⟨a, vs, e, g, t, _⟩ := h
  exact ⟨a, vs, e, by rw [g]; exact congrArg some (objT d.m vs), t⟩
theorem ex_getI {m : W (DI γ)} {n : W Int} (cc : Cok X P Wx N sc k) (ha : EX X P Wx Γ a m) (hb : EX X P Wx Γ b n) (hs : NoSl b := by intro _ _; rfl) : EX X P Wx Γ (.Subscript a b pos) (W.b2 m n fun d k => getW d.m k) :=
  PE.imp (pe_dget (by have := cc.room.units; omega) ha hb hs) fun σ H Q' h => by
    obtain ⟨G, Q, E, R, w, kk, kx⟩ := h
    refine ⟨G, _, E, R, w, fun v H1 G1 x g1 d1 w1 => ?_, kx⟩
    have R1 := R.grow g1
    refine ⟨G1, _, E, R1, w1, fun u H2 G2 j g2 d2 w2 => ?_, kx⟩
    have R2 := R1.grow g2
    obtain ⟨p, vs, rfl, gp, t⟩ := den_DI (Den.mono g2.g _ _ d1)
    obtain ⟨y, ey, qy⟩ := getW_wp w2
    rcases val_get (f := fun i : Int => (Sum.inl i : L2.Key)) inlI (k := j) t with ⟨z, _⟩ | ⟨y', v', z, e2, d3⟩
    · rw [ey] at z; cases z
    · rw [ey] at z
      cases z
      exact ⟨p, v', rfl, .inl ⟨_, Sum.inl j, .inl (R2.sub _ _ gp), den_int.mp d2, e2.symm⟩, kk _ _ _ _ (g1.trans g2 (DealAt.there R1.dk)) d3 qy⟩
theorem ex_getT {κ : Type} [Py κ] [KeyT κ] {m : W (DT γ)} {n : W κ} (cc : Cok X P Wx N sc k) (ha : EX X P Wx Γ a m) (hb : EX X P Wx Γ b n) (hs : NoSl b := by intro _ _; rfl) : EX X P Wx Γ (.Subscript a b pos) (W.b2 m n fun d k => getW d.m (KeyT.tk k)) :=
  PE.imp (pe_dget (by have := cc.room.units; omega) ha hb hs) fun σ H Q' h => by
    obtain ⟨G, Q, E, R, w, kk, kx⟩ := h
    refine ⟨G, _, E, R, w, fun v H1 G1 x g1 d1 w1 => ?_, kx⟩
    have R1 := R.grow g1
    refine ⟨G1, _, E, R1, w1, fun u H2 G2 j g2 d2 w2 => ?_, kx⟩
    have R2 := R1.grow g2
    obtain ⟨p, vs, rfl, gp, t⟩ := den_DT (Den.mono g2.g _ _ d1)
    obtain ⟨q, rfl, gq⟩ := key_den d2
    obtain ⟨y, ey, qy⟩ := getW_wp w2
    rcases val_get (f := fun i : List Int => (i.map Sum.inl : List L2.Key)) inlT (k := KeyT.tk j) t with ⟨z, _⟩ | ⟨y', v', z, e2, d3⟩
    · rw [ey] at z; cases z
    · rw [ey] at z
      cases z
      exact ⟨p, v', rfl, .inr ⟨_, (KeyT.tk j).map Sum.inl, q, .inl (R2.sub _ _ gp), rfl, R2.sub _ _ gq, e2.symm⟩, kk _ _ _ _ (g1.trans g2 (DealAt.there R1.dk)) d3 qy⟩
theorem some_of {κ κ' : Type} [DecidableEq κ] [DecidableEq κ'] {G : Hp} {f : κ → κ'} (inj : ∀ a b, f a = f b → a = b) {k : κ} {m : List (κ × γ)} {vs : List V} (t : DenL G (m.map fun p => toD p.2) vs) : (valV ((m.map fun p => f p.1).zip vs) (f k)).isSome = (getM m k).isSome := by
  rcases val_get inj (k := k) t with ⟨z, e⟩ | ⟨y, v, z, e, _⟩ <;> rw [z, e] <;> rfl
theorem ex_inI {m : W (DI γ)} {n : W Int} (cc : Cok X P Wx N sc k) (hb : EX X P Wx Γ a n) (ha : EX X P Wx Γ b m) (h1 : behindInMarks .In b = false := by rfl) : EX X P Wx Γ (.Compare a [.In] [b] pos) (W.b2 n m fun k d => W.pure (getM d.m k).isSome) :=
  PE.imp (pe_cmp (pc_din (by have := cc.room.units; omega) hb ha) h1) fun σ H Q' h => by
    obtain ⟨G, Q, E, R, w, kk, kx⟩ := h
    refine ⟨G, _, E, R, w, fun u H1 G1 j g1 d1 w1 => ?_, kx⟩
    have R1 := R.grow g1
    refine ⟨G1, _, E, R1, w1, fun v H2 G2 x g2 d2 w2 => ?_, kx⟩
    have R2 := R1.grow g2
    obtain ⟨p, vs, rfl, gp, t⟩ := den_DI d2
    refine ⟨p, _, rfl, .inl ⟨_, Sum.inl j, .inl (R2.sub _ _ gp), den_int.mp d1, rfl⟩, kk _ _ _ _ (g1.trans g2 (DealAt.there R1.dk)) (den_bool.mpr ?_) w2⟩
    rw [some_of (f := fun i : Int => (Sum.inl i : L2.Key)) inlI t]
theorem ex_notinI {m : W (DI γ)} {n : W Int} (cc : Cok X P Wx N sc k) (hb : EX X P Wx Γ a n) (ha : EX X P Wx Γ b m) (h1 : behindInMarks .NotIn b = false := by rfl) : EX X P Wx Γ (.Compare a [.NotIn] [b] pos) (W.b2 n m fun k d => W.pure (!(getM d.m k).isSome)) :=
  PE.imp (pe_cmp (pc_dnotin (by have := cc.room.units; omega) hb ha) h1) fun σ H Q' h => by
    obtain ⟨G, Q, E, R, w, kk, kx⟩ := h
    refine ⟨G, _, E, R, w, fun u H1 G1 j g1 d1 w1 => ?_, kx⟩
    have R1 := R.grow g1
    refine ⟨G1, _, E, R1, w1, fun v H2 G2 x g2 d2 w2 => ?_, kx⟩
    have R2 := R1.grow g2
    obtain ⟨p, vs, rfl, gp, t⟩ := den_DI d2
    refine ⟨p, _, rfl, .inl ⟨_, Sum.inl j, .inl (R2.sub _ _ gp), den_int.mp d1, rfl⟩, kk _ _ _ _ (g1.trans g2 (DealAt.there R1.dk)) (den_bool.mpr ?_) w2⟩
    rw [some_of (f := fun i : Int => (Sum.inl i : L2.Key)) inlI t]
theorem ex_inT {κ : Type} [Py κ] [KeyT κ] {m : W (DT γ)} {n : W κ} (cc : Cok X P Wx N sc k) (hb : EX X P Wx Γ a n) (ha : EX X P Wx Γ b m) (h1 : behindInMarks .In b = false := by rfl) : EX X P Wx Γ (.Compare a [.In] [b] pos) (W.b2 n m fun k d => W.pure (getM d.m (KeyT.tk k)).isSome) :=
  PE.imp (pe_cmp (pc_din (by have := cc.room.units; omega) hb ha) h1) fun σ H Q' h => by
    obtain ⟨G, Q, E, R, w, kk, kx⟩ := h
    refine ⟨G, _, E, R, w, fun u H1 G1 j g1 d1 w1 => ?_, kx⟩
    have R1 := R.grow g1
    refine ⟨G1, _, E, R1, w1, fun v H2 G2 x g2 d2 w2 => ?_, kx⟩
    have R2 := R1.grow g2
    obtain ⟨p, vs, rfl, gp, t⟩ := den_DT d2
    obtain ⟨q, rfl, gq⟩ := key_den (Den.mono g2.g _ _ d1)
    refine ⟨p, _, rfl, .inr ⟨_, (KeyT.tk j).map Sum.inl, q, .inl (R2.sub _ _ gp), rfl, R2.sub _ _ gq, rfl⟩, kk _ _ _ _ (g1.trans g2 (DealAt.there R1.dk)) (den_bool.mpr ?_) w2⟩
    rw [some_of (f := fun i : List Int => (i.map Sum.inl : List L2.Key)) inlT t]
theorem ex_notinT {κ : Type} [Py κ] [KeyT κ] {m : W (DT γ)} {n : W κ} (cc : Cok X P Wx N sc k) (hb : EX X P Wx Γ a n) (ha : EX X P Wx Γ b m) (h1 : behindInMarks .NotIn b = false := by rfl) : EX X P Wx Γ (.Compare a [.NotIn] [b] pos) (W.b2 n m fun k d => W.pure (!(getM d.m (KeyT.tk k)).isSome)) :=
  PE.imp (pe_cmp (pc_dnotin (by have := cc.room.units; omega) hb ha) h1) fun σ H Q' h => by
    obtain ⟨G, Q, E, R, w, kk, kx⟩ := h
    refine ⟨G, _, E, R, w, fun u H1 G1 j g1 d1 w1 => ?_, kx⟩
    have R1 := R.grow g1
    refine ⟨G1, _, E, R1, w1, fun v H2 G2 x g2 d2 w2 => ?_, kx⟩
    have R2 := R1.grow g2
    obtain ⟨p, vs, rfl, gp, t⟩ := den_DT d2
    obtain ⟨q, rfl, gq⟩ := key_den (Den.mono g2.g _ _ d1)
    refine ⟨p, _, rfl, .inr ⟨_, (KeyT.tk j).map Sum.inl, q, .inl (R2.sub _ _ gp), rfl, R2.sub _ _ gq, rfl⟩, kk _ _ _ _ (g1.trans g2 (DealAt.there R1.dk)) (den_bool.mpr ?_) w2⟩
    rw [some_of (f := fun i : List Int => (i.map Sum.inl : List L2.Key)) inlT t]
/-! frozen, lent -/
theorem Rel.frz {σ : L2.St} {G H : Hp} {d : DKy} {l : List D} {i : Nat} (hk : d.len = l.length) (R : Rel P Γ σ G H) (hi : Γ[i]? = some (.ownK (.dk d) l)) : ∃ p vs, σ[i]? = some (some (.ref p)) ∧ H p = some (d.obj vs) ∧ G p = none ∧ Same G (upd G p (d.obj vs)) ∧ Rel P (Γ.set i (.dat (.dk d l))) σ (upd G p (d.obj vs)) H := by
  obtain ⟨p, vs, ep, h1, h2, h3, h4, h5, zl⟩ := R.ownAtK hi
  have h1 : H p = some (d.obj vs) := h1
  have hs : Same G (upd G p (d.obj vs)) := fun b u z => by
    rw [upd_ne (ne_of_none z h2)]
    exact z
  refine ⟨p, vs, ep, h1, h2, hs, ⟨fun b u z => ?_, R.fr, fun b u z => hs b u (R.gr b u z), fun b u z n => ?_, R.dk, fun b d => ?_, R.nt⟩, by rw [List.length_set]; exact R.len, fun j s ej => ?_, fun {k1 k2} j1 j2 x l1 l2 n12 e1 e2 z1 z2 => ?_⟩
  · by_cases q : b = p
    · subst q
      rw [upd_same] at z
      rw [h1]
      exact z
    · rw [upd_ne q] at z
      exact R.sub b u z
  · by_cases q : b = p
    · subst q
      rw [h3] at z
      cases z
    · rw [upd_ne q]
      exact R.ng b u z n
  · by_cases q : b = p
    · subst q
      exact (h4 d).elim
    · rw [upd_ne q]
      exact R.gd b d
  · by_cases q : i = j
    · subst q
      have hi2 : i < Γ.length := (List.getElem?_eq_some_iff.mp hi).1
      rw [List.getElem?_set_self hi2] at ej
      cases ej
      refine ⟨_, ep, .ref p, rfl, ?_⟩
      simp only [Den]
      exact ⟨p, vs, rfl, upd_same, DenL.mono hs _ _ h5, hk, zl⟩
    · rw [List.getElem?_set_ne q] at ej
      obtain ⟨o, eo, so⟩ := R.slots j s ej
      refine ⟨o, eo, ?_⟩
      cases s with
      | un => trivial
      | dat dd =>
        obtain ⟨v, rfl, d⟩ := so
        exact ⟨v, rfl, Den.mono hs _ _ d⟩
      | deal => exact so
      | vl v => exact so
      | ownK _ m =>
        obtain ⟨p2, vs2, rfl, k1, k2, k3, k4, k5⟩ := so
        have n2 : p2 ≠ p := fun z => by
          subst z
          exact R.sep i j p2 _ m q hi ej ep eo
        exact ⟨p2, vs2, rfl, k1, by rw [upd_ne n2]; exact k2, k3, k4, DenL.mono hs _ _ k5.1, k5.2⟩
  · have back : ∀ {ko : OK} (j : Nat) (m : List D), (Γ.set i (.dat (.dk d l)))[j]? = some (.ownK ko m) → Γ[j]? = some (.ownK ko m) := fun {ko} j m z => by
      by_cases q : i = j
      · subst q
        have hi2 : i < Γ.length := (List.getElem?_eq_some_iff.mp hi).1
        rw [List.getElem?_set_self hi2] at z
        cases z
      · rw [List.getElem?_set_ne q] at z
        exact z
    exact R.sep j1 j2 x l1 l2 n12 (back j1 l1 e1) (back j2 l2 e2) z1 z2
theorem lenI (m : List (Int × γ)) : (DKy.I (m.map (·.1))).len = (m.map fun p => toD p.2).length := by show (m.map (·.1)).length = _; simp
theorem lenT (m : List (List Int × γ)) : (DKy.T (m.map (·.1))).len = (m.map fun p => toD p.2).length := by show (m.map (·.1)).length = _; simp
theorem tb_fzK {d : DKy} {l : List D} {m : W ρ} (hk : d.len = l.length) (i : Nat) (h : TB X P Wx (Γ.set i (.dat (.dk d l))) sts m) (hi : Γ[i]? = some (.ownK (.dk d) l) := by rfl) : TB X P Wx Γ sts m := PSs.imp h fun D σ H h => by
  obtain ⟨G, Q, E, R, q, kk, kx⟩ := h
  obtain ⟨p, vs, _, _, _, hs, R'⟩ := R.frz hk hi
  exact ⟨_, Q, E, R', q, kk, kx⟩
theorem bb_fzK {d : DKy} {l : List D} {m : W τ} {Nn : τ → List Sl} (hk : d.len = l.length) (i : Nat) (h : BB X P Wx (Γ.set i (.dat (.dk d l))) sts m Nn) (hi : Γ[i]? = some (.ownK (.dk d) l) := by rfl) : BB X P Wx Γ sts m Nn := PSs.imp h fun D σ H h => by
  obtain ⟨G, Q, E, R, q, kk, kx⟩ := h
  obtain ⟨p, vs, _, _, _, hs, R'⟩ := R.frz hk hi
  exact ⟨_, Q, E, R', q, fun t σ' H' G2 R2 s2 => kk t σ' H' G2 R2 (hs.trans s2), kx⟩
theorem fb_fzK {d : DKy} {l : List D} {m : W (Fl τ μ ρ)} {Nn : τ → List Sl} {Lb : μ → List Sl} (hk : d.len = l.length) (i : Nat) (h : FB X P Wx (Γ.set i (.dat (.dk d l))) sts m Nn Lb) (hi : Γ[i]? = some (.ownK (.dk d) l) := by rfl) : FB X P Wx Γ sts m Nn Lb := PSs.imp h fun D σ H h => by
  obtain ⟨G, Q, E, R, q, kk, kb, kr, kx⟩ := h
  obtain ⟨p, vs, _, _, _, hs, R'⟩ := R.frz hk hi
  exact ⟨_, Q, E, R', q, fun t σ' H' G2 R2 s2 => kk t σ' H' G2 R2 (hs.trans s2), fun t σ' H' G2 R2 s2 => kb t σ' H' G2 R2 (hs.trans s2), kr, kx⟩
theorem xb_fzK {d : DKy} {l : List D} {m : W (Fl τ μ ρ)} {Lb : μ → List Sl} (hk : d.len = l.length) (i : Nat) (h : XB X P Wx (Γ.set i (.dat (.dk d l))) sts m Lb) (hi : Γ[i]? = some (.ownK (.dk d) l) := by rfl) : XB X P Wx Γ sts m Lb := PSs.imp h fun D σ H h => by
  obtain ⟨G, Q, E, R, q, kb, kr, kx⟩ := h
  obtain ⟨p, vs, _, _, _, hs, R'⟩ := R.frz hk hi
  exact ⟨_, Q, E, R', q, fun t σ' H' G2 R2 s2 => kb t σ' H' G2 R2 (hs.trans s2), kr, kx⟩
/-- reckoned with a dict of one's own as if it were frozen -/
theorem ex_borK [Sc β] {d : DKy} {l : List D} {m : W β} (hk : d.len = l.length) (i : Nat) (h : EX X P Wx (Γ.set i (.dat (.dk d l))) e m) (hi : Γ[i]? = some (.ownK (.dk d) l) := by rfl) : EX X P Wx Γ e m := PE.imp h fun σ H Q' h => by
  obtain ⟨G, Q, E, R, q, kk, kx⟩ := h
  obtain ⟨p, vs, ep, h1, h2, hs, R'⟩ := R.frz hk hi
  refine ⟨upd G p (d.obj vs), Q, E, R', q, fun v H' G' a g d qq => ?_, kx⟩
  exact kk v H' _ a (Grow.out h2 (fun b n => upd_ne n) h1 g) (Sc.any _ _ _ _ d) qq
theorem en_borK [Sc β] {d : DKy} {l : List D} {m : W (List β)} (hk : d.len = l.length) (i : Nat) (h : EN X P Wx (Γ.set i (.dat (.dk d l))) e m) (hi : Γ[i]? = some (.ownK (.dk d) l) := by rfl) : EN X P Wx Γ e m := PE.imp h fun σ H Q' h => by
  obtain ⟨G, Q, E, R, q, kk, kx⟩ := h
  obtain ⟨p, vs, ep, h1, h2, hs, R'⟩ := R.frz hk hi
  refine ⟨upd G p (d.obj vs), Q, E, R', q, fun r ws H' G' a g hr gr hv d za qq => ?_, kx⟩
  refine kk r ws H' _ a (Grow.out h2 (fun b n => upd_ne n) h1 g) hr ?_ hv (denL_sc d) za qq
  show (if r = p then none else G' r) = none
  split
  · rfl
  · exact gr
end
end Z

set_option autoImplicit false
set_option Elab.async false
set_option linter.all false
set_option maxRecDepth 100000
set_option maxHeartbeats 2000003
/-! a thing among things -/
namespace Z
open PySem PySem.Spec L2
open Py (toD)
section
variable {α β γ τ ρ : Type} [Py α] [Py β] [Py γ]
variable {X : Cx} {P : Par} {Wx : WX} {Γ : List Sl} {N : List Str} {sc : Scope} {k : Nat} {a b c e : Expr} {pos : Pos}
def inWD (x : α) (l : List β) : W Bool := W.need (eqOk (toD x) = true ∧ eqOk (toD l) = true) (l.any fun y => eqD (toD y) (toD x))
def notinWD (x : α) (l : List β) : W Bool := W.need (eqOk (toD x) = true ∧ eqOk (toD l) = true) (!l.any fun y => eqD (toD y) (toD x))
theorem any_pd (x : α) (l : List β) : ((pdL (l.map toD)).any fun z => PyData.eqv z (pd (toD x))) = l.any fun y => eqD (toD y) (toD x) := by
  rw [pdL_map, List.map_map, List.any_map]
  rfl
theorem c_inD (cc : Cok X P Wx N sc k) : CmpR X P Γ .In (inWD (α := α) (β := β)) := ⟨_, op_inD (by have := cc.room.un; omega), fun _ G H x l v u Q E Q' R d1 d2 w kk => by
  simp only [inWD, eqOk, Bool.and_eq_true] at w
  obtain ⟨⟨⟨f1, s1⟩, f2, s2⟩, w⟩ := w
  refine ⟨_, _, den_dp R.sub _ _ f1 d1, den_dp R.sub _ _ f2 d2, s1, s2, ?_⟩
  rw [any_pd]
  exact kk _ w⟩
theorem c_notinD (cc : Cok X P Wx N sc k) : CmpR X P Γ .NotIn (notinWD (α := α) (β := β)) := ⟨_, op_notInD (by have := cc.room.un; omega), fun _ G H x l v u Q E Q' R d1 d2 w kk => by
  simp only [notinWD, eqOk, Bool.and_eq_true] at w
  obtain ⟨⟨⟨f1, s1⟩, f2, s2⟩, w⟩ := w
  refine ⟨_, _, den_dp R.sub _ _ f1 d1, den_dp R.sub _ _ f2 d2, s1, s2, ?_⟩
  rw [any_pd]
  exact kk _ w⟩
end
end Z

set_option autoImplicit false
set_option Elab.async false
set_option linter.all false
set_option maxRecDepth 100000
set_option maxHeartbeats 2000003
/-! t[::-1] of a tuple; in, max of a tuple or list of ints -/
namespace HT
open PySem PySem.Spec PyProof.Rows
section
variable {prog : Program} {w : World} {A : Around} {E : Value → Shared → Prop} {s : Shared}
theorem adjust_rev (n : Nat) : Builtin.Slice.sliceAdjust none none (-1) (n : Int) = ((n : Int) - 1, -1) := by
  have h1 : ((-1 : Int) < 0) := by omega
  unfold Builtin.Slice.sliceAdjust
  simp only [h1, if_true]
theorem places_rev (n : Nat) : Builtin.Slice.slicePlaces ((n : Int) - 1) (-1) (-1) = n := by
  unfold Builtin.Slice.slicePlaces
  have h1 : ¬ ((-1 : Int) > 0) := by omega
  simp only [h1, if_false]
  split <;> simp <;> omega
theorem sliceApplied_rev {sl : Addr} {vs : Value} {n : Nat} {Q : Int × Int × Nat → Shared → Prop} (hs : s.heap.IsSliceOf sl .none .none vs) (ps : IsPart vs (some (-1)))
    (h : Q ((n : Int) - 1, -1, n) s) : wpAny (model prog w) A (Builtin.Slice.sliceApplied (.ref sl) (pure (n : Int))) Q E s := by
  obtain ⟨os, hos, hcs, hds⟩ := id hs
  unfold Builtin.Slice.sliceApplied Builtin.Slice.sliceFields
  refine wpAny_bind (wpAny_bind (wpAny_field hos hds (x := .none) rfl (wpAny_bind (wpAny_field hos hds (x := .none) rfl (wpAny_bind (wpAny_field hos hds (x := vs) rfl (wpAny_pure ?_)))))))
  refine wpAny_bind (slicePart_ ps ?_)
  show wpAny _ _ (if ((-1 : Int) == 0) = true then _ else _) _ _ s
  rw [if_neg (by decide)]
  refine wpAny_bind (slicePart_none (wpAny_bind (slicePart_none (wpAny_bind (wpAny_pure ?_)))))
  show wpAny _ _ (match Builtin.Slice.sliceAdjust none none (-1) (n : Int) with | (lo, hi) => pure (lo, (-1 : Int), Builtin.Slice.slicePlaces lo hi (-1))) _ _ s
  rw [adjust_rev n]
  show wpAny _ _ (pure ((n : Int) - 1, (-1 : Int), Builtin.Slice.slicePlaces ((n : Int) - 1) (-1) (-1))) _ _ s
  rw [places_rev]
  exact wpAny_pure h
theorem fmap_some {α β : Type} {f : α → Option β} {g : α → β} : ∀ {l : List α}, (∀ x ∈ l, f x = some (g x)) → l.filterMap f = l.map g
  | [], _ => rfl
  | x :: l, h => by
    rw [List.filterMap_cons_some (h x (List.mem_cons_self ..)), fmap_some fun y hy => h y (List.mem_cons_of_mem _ hy)]
    rfl
theorem pick_rev (xs : Array Value) : ((List.range xs.size).filterMap fun (m : Nat) => xs[(((xs.size : Int) - 1) + (m : Int) * (-1)).toNat]?).toArray = xs.toList.reverse.toArray := by
  congr 1
  have e : ∀ m ∈ List.range xs.size, xs[(((xs.size : Int) - 1) + (m : Int) * (-1)).toNat]? = some (xs.toList.reverse.getD m .none) := fun m hm => by
    have hm := List.mem_range.mp hm
    have h2 : (((xs.size : Int) - 1) + (m : Int) * (-1)).toNat = xs.size - 1 - m := by omega
    rw [h2, List.getD_eq_getElem?_getD, List.getElem?_reverse (by simpa using hm), ← Array.getElem?_toList, Array.length_toList, List.getElem?_eq_getElem (by rw [Array.length_toList]; omega)]
    rfl
  rw [fmap_some e]
  refine List.ext_getElem (by simp) fun i h1 h2 => ?_
  simp only [List.getElem_map, List.getElem_range]
  rw [List.getD_eq_getElem?_getD, List.getElem?_eq_getElem h2]
  rfl
theorem getItem_tuple_rev {t sl : Addr} {items : Array Value} {vs : Value} {Q : Value → Shared → Prop} (ht : IsTup s.heap t items) (hs : s.heap.IsSliceOf sl .none .none vs) (ps : IsPart vs (some (-1)))
    (h : Q (.ref s.heap.objs.size) { s with heap := s.heap.push { cls := .type "tuple", data := .seq items.toList.reverse.toArray } })
    (hsz : items.size ≤ sizeLine) : wpAny (model prog w) A (getItem (.ref t) (.ref sl)) Q E s := by
  have htake : sizeOk (.seq items.toList.reverse.toArray) := by
    show items.toList.reverse.toArray.size ≤ sizeLine
    rw [List.size_toArray, List.length_reverse, Array.length_toList]
    exact hsz
  obtain ⟨os, hos, hcs, hds⟩ := id hs
  have hTs : s.TypeIs (.ref sl) "slice" := ⟨os, hos, hcs⟩
  unfold getItem
  try with_reducible refine wpAny_holding ?_
  first | refine wpAny_bind (wpAny_pure ?_) | skip
  refine wpAny_bind (wpAny_sequenceKey ht.typeIs (by decide) ?_)
  refine wpAny_bind (wpAny_callSpecial?_slot (name := Str.ofString "__getitem__") ht.typeIs PyProof.Rows.slot_tuple_getitem
    (wpAny_call_entry PyProof.Rows.slot_tuple_getitem ht.typeIs entry_tuple_getitem ?_ (args_tuple_getitem _ _)))
  show wpAny _ _ (Builtin.Tuple.tupleItemsOf (.ref t) >>= _) _ _ s
  refine wpAny_bind (tupleItemsOf_ ht ?_)
  refine wpAny_bind (wpAny_typeOf hTs ?_)
  rw [if_pos (by decide)]
  refine wpAny_bind (sliceApplied_rev hs ps ?_)
  have hno : ¬ ((((items.size : Int) - 1) == 0 && (-1 : Int) == 1 && items.size == items.size) = true) := by
    intro q
    rw [Bool.and_eq_true, Bool.and_eq_true] at q
    exact absurd q.1.2 (by decide)
  show wpAny _ _ (if (((items.size : Int) - 1) == 0 && (-1 : Int) == 1 && items.size == items.size) = true then _ else _) _ _ s
  rw [if_neg hno, pick_rev]
  first
    | exact wpAny_bind (m := Builtin.Tuple.tupleExact _) (wpAny_newObj_type (wpAny_pure ⟨_, rfl, wpAny_pure h⟩) htake)
    | exact wpAny_bind (m := Builtin.Tuple.tupleExact _) (wpAny_newObj_type (wpAny_bind (wpAny_pure (wpAny_pure ⟨_, rfl, wpAny_pure h⟩))) htake)
    | exact wpAny_bind (wpAny_bind (m := Builtin.Tuple.tupleExact _) (wpAny_newObj_type (wpAny_pure (wpAny_pure ⟨_, rfl, wpAny_pure h⟩)) htake))
    | exact wpAny_bind (wpAny_bind (m := Builtin.Tuple.tupleExact _) (wpAny_newObj_type (wpAny_pure ⟨_, rfl, wpAny_pure h⟩) htake))
end
end HT

namespace L2
open PySem PySem.Spec PyProof.Rows
section
variable {X : Cx}
/-- t[::-1] -/
def tRevT (K : PySem.W.Frag) (te : TE) : TE := fun σ H Q => te σ H fun x H1 => ∃ a xs, x = .ref a ∧ SqT K H1 a xs ∧ ∀ p, H1 p = none → Q (.ref p) (upd H1 p (.tup xs.reverse))
theorem pe_revT {e : Expr} {te : TE} {k : Nat} {p1 p2 p3 pos : Pos} (he : PE X e te) : PE X (.Subscript e (.Slice none none (some (.UnaryOp .USub (.Constant (.int 1) k p1) p2)) p3) pos) (tRevT X.K te) := by
  refine ⟨fun pins s σ H Q I h => ?_⟩
  refine Subscript_ (thn (he.run pins s σ H _ I h) fun v s1 ⟨x, H1, I1, r1, q1⟩ => ?_)
  obtain ⟨a, xs, ex, hx, q⟩ := q1
  subst ex
  cases r1
  have hst : PO X (some (.UnaryOp .USub (.Constant (.int 1) k p1) p2)) (tPart (tUn (rU fun i => .int (-i)) (tC (.int 1)))) := po_some (pe_un un_neg pe_int)
  refine wpAny_Slice (thn (po_none.run pins s1 σ H1 (fun o H2 => o = none ∧ H2 = H1) I1 ⟨rfl, rfl⟩) fun vl s2 ⟨l, H2, I2, pl, el, e2⟩ => ?_)
  subst el e2
  refine thn (po_none.run pins s2 σ H2 (fun o H3 => o = none ∧ H3 = H2) I2 ⟨rfl, rfl⟩) fun vu s3 ⟨u, H3, I3, pu, eu, e3⟩ => ?_
  subst eu e3
  refine thn (hst.run pins s3 σ H3 (fun o H4 => o = some (-1) ∧ H4 = H3) I3 ⟨1, rfl, -1, rfl, rfl, rfl⟩) fun vs s4 ⟨o, H4, I4, ps, eo, e4⟩ => ?_
  subst eo e4
  have I5 : Inv X pins σ H4 { s4 with heap := s4.heap.push { cls := .type "slice", data := .fields #[vl, vu, vs] } } := I4.kept (t' := s4.toks) fun b ob q => Heap.get?_push_of_some _ q
  obtain ⟨its, r, ht, hz⟩ := I5.tuple hx
  have hlen : its.toArray.size = xs.length := by rw [List.size_toArray]; exact r.length.symm
  cases pl
  cases pu
  show wpAny (model X.prog X.w) X.A (subscriptTail e (.Slice none none (some (.UnaryOp .USub (.Constant (.int 1) k p1) p2)) p3) (.ref a) (.ref s4.heap.objs.size)) (EP X pins σ Q) X.xe { s4 with heap := s4.heap.push { cls := .type "slice", data := .fields #[.none, .none, vs] } }
  refine tail_any (ops := [.ref a, .ref s4.heap.objs.size]) ht.typeIs PyProof.Rows.slot_tuple_getitem.lookup ?_ (by with_unfolding_all rfl)
  refine HT.getItem_tuple_rev ht (Heap.IsSliceOf.new _ .none .none vs) ps ?_ (by rw [hlen]; exact hz)
  refine ⟨.ref _, _, I5.laid (t' := s4.toks) (o := .tup xs.reverse) (fun b ob q => Heap.get?_push_of_some _ q) (Nat.le_refl _) ?_, rfl, q _ (I5.hok.fresh (Nat.le_refl _))⟩
  exact ⟨by rw [List.length_reverse]; exact hz, _, r.reverse, IsTup.new _ _⟩
end
end L2
namespace Z
open PySem PySem.Spec L2
open Py (toD)
section
variable {α β γ τ ρ : Type} [Py α] [Py β] [Py γ]
variable {X : Cx} {P : Par} {Wx : WX} {Γ : List Sl} {N : List Str} {sc : Scope} {k : Nat} {a b c e : Expr} {pos p : Pos}
theorem ex_revT {m : W (Tup α)} {j : Nat} {p1 p2 p3 : Pos} (ha : EX X P Wx Γ a m) : EX X P Wx Γ (.Subscript a (.Slice none none (some (.UnaryOp .USub (.Constant (.int 1) j p1) p2)) p3) pos) (W.b1 m fun l => W.pure (⟨l.l.reverse⟩ : Tup α)) :=
  PE.imp (pe_revT ha) fun σ H Q' h => by
    obtain ⟨G, Q, E, R, w, kk, kx⟩ := h
    refine ⟨G, _, E, R, w, fun v H1 G1 x g1 d1 w1 => ?_, kx⟩
    have R1 := R.grow g1
    obtain ⟨q, vs, rfl, g, t, zl⟩ := den_tup.mp d1
    refine ⟨q, vs, rfl, .inl (.inl (R1.sub _ _ g)), fun r hr => ?_⟩
    have g4 := grow_new (o := .tup vs.reverse) R1.toRelB hr
    refine kk (.ref r) _ _ (⟨x.l.reverse⟩ : Tup α) (g1.trans g4 (DealAt.there R1.dk)) ?_ w1
    have rv : ∀ (l : List D) (vs : List V), DenL G1 l vs → DenL G1 l.reverse vs.reverse := by
      intro l
      induction l with
      | nil => intro vs h; rw [DenL.nil_iff] at h; subst h; exact DenL.nil_iff.mpr rfl
      | cons d l ih =>
        intro vs h
        obtain ⟨v, r, rfl, a, b⟩ := DenL.cons_iff.mp h
        rw [List.reverse_cons, List.reverse_cons]
        exact DenL.append (ih r b) (DenL.one a)
    refine den_tup.mpr ⟨r, vs.reverse, rfl, upd_same, ?_, ?_⟩
    · show DenL _ (x.l.reverse.map toD) _
      rw [List.map_reverse]
      exact DenL.mono g4.g _ _ (rv _ _ t)
    · show x.l.reverse.length ≤ _
      rw [List.length_reverse]
      exact zl
/-- a tuple or list of ints as it stands -/
def inC (x : Int) (d : D) : W Bool := (seqC Int d).bind fun l => W.pure (decide (x ∈ l))
def notinC (x : Int) (d : D) : W Bool := (seqC Int d).bind fun l => W.pure (!decide (x ∈ l))
theorem c_inC : CmpR X P Γ .In (inC) := ⟨_, op_in_seq, fun _ G H x l v u Q E Q' R d1 d2 w kk => by
  obtain ⟨z, hd | hd, w⟩ := w
  · have d : Den G (toD (⟨z⟩ : Tup Int)) u := by rw [show toD (⟨z⟩ : Tup Int) = l from hd.symm]; exact d2
    obtain ⟨p, vs, rfl, g, t, zl⟩ := den_tup.mp d
    rw [DenL.ints] at t
    subst t
    refine ⟨p, _, rfl, .inr (.inl (.inl (R.sub _ _ g))), by rw [den_int.mp d1]; rfl, flat_ints z, ?_⟩
    rw [if_neg Bool.false_ne_true, den_int.mp d1, inV_ints]
    exact kk _ w
  · have d : Den G (toD z) u := by rw [show toD z = l from hd.symm]; exact d2
    obtain ⟨p, vs, rfl, g, t, zl⟩ := den_list.mp d
    rw [DenL.ints] at t
    subst t
    refine ⟨p, _, rfl, .inl (.inl (.inl (R.sub _ _ g))), by rw [den_int.mp d1]; rfl, flat_ints z, ?_⟩
    rw [if_neg Bool.false_ne_true, den_int.mp d1, inV_ints]
    exact kk _ w⟩
theorem c_notinC : CmpR X P Γ .NotIn (notinC) := ⟨_, op_notIn_seq, fun _ G H x l v u Q E Q' R d1 d2 w kk => by
  obtain ⟨z, hd | hd, w⟩ := w
  · have d : Den G (toD (⟨z⟩ : Tup Int)) u := by rw [show toD (⟨z⟩ : Tup Int) = l from hd.symm]; exact d2
    obtain ⟨p, vs, rfl, g, t, zl⟩ := den_tup.mp d
    rw [DenL.ints] at t
    subst t
    refine ⟨p, _, rfl, .inr (.inl (.inl (R.sub _ _ g))), by rw [den_int.mp d1]; rfl, flat_ints z, ?_⟩
    rw [if_pos rfl, den_int.mp d1, inV_ints]
    exact kk _ w
  · have d : Den G (toD z) u := by rw [show toD z = l from hd.symm]; exact d2
    obtain ⟨p, vs, rfl, g, t, zl⟩ := den_list.mp d
    rw [DenL.ints] at t
    subst t
    refine ⟨p, _, rfl, .inl (.inl (.inl (R.sub _ _ g))), by rw [den_int.mp d1]; rfl, flat_ints z, ?_⟩
    rw [if_pos rfl, den_int.mp d1, inV_ints]
    exact kk _ w⟩
end
end Z

set_option autoImplicit false
set_option Elab.async false
set_option linter.all false
set_option maxRecDepth 100000
set_option maxHeartbeats 2000003
/-! max of a tuple or list of ints -/
namespace L2
open PySem PySem.Spec PyProof.Rows
theorem maxOf_int : ∀ (xs : List Int) (x : Int), (PySem.W.maxOf x xs) ∈ x :: xs ∧ ∀ y ∈ x :: xs, y ≤ PySem.W.maxOf x xs := fun xs => by
  induction xs with
  | nil => exact fun x => ⟨List.mem_cons_self .., fun y hy => by rw [List.mem_singleton.mp hy]; exact Int.le_refl _⟩
  | cons z xs ih =>
    intro x
    have e : PySem.W.maxOf x (z :: xs) = PySem.W.maxOf (if x < z then z else x) xs := by
      show List.foldl _ (if PySem.W.DatumOrd.lt x z = true then z else x) xs = _
      have : (PySem.W.DatumOrd.lt x z = true) = (x < z) := by
        show (decide (x < z) = true) = _
        simp
      rw [show (if PySem.W.DatumOrd.lt x z = true then z else x) = (if x < z then z else x) by simp only [this]]
      rfl
    rw [e]
    obtain ⟨a, b⟩ := ih (if x < z then z else x)
    have b0 := b _ (List.mem_cons_self ..)
    have b1 : x ≤ PySem.W.maxOf (if x < z then z else x) xs ∧ z ≤ PySem.W.maxOf (if x < z then z else x) xs := by
      generalize PySem.W.maxOf (if x < z then z else x) xs = M at b0
      by_cases c : x < z
      · rw [if_pos c] at b0
        omega
      · rw [if_neg c] at b0
        omega
    refine ⟨?_, fun y hy => ?_⟩
    · rcases List.mem_cons.mp a with q | q
      · rw [q]
        split
        · exact List.mem_cons_of_mem _ (List.mem_cons_self ..)
        · exact List.mem_cons_self ..
      · exact List.mem_cons_of_mem _ (List.mem_cons_of_mem _ q)
    · rcases List.mem_cons.mp hy with q | hy
      · rw [q]
        exact b1.1
      · rcases List.mem_cons.mp hy with q | q
        · rw [q]
          exact b1.2
        · exact b y (List.mem_cons_of_mem _ q)
def rMaxT (K : PySem.W.Frag) : List V → Hp → VK → Prop := fun vs H Q => ∃ (a : Addr) (ns : List Int), vs = [V.ref a] ∧ (SqL K H a (ns.map V.int) ∨ SqT K H a (ns.map V.int)) ∧ 0 < ns.length ∧ ∀ m, m ∈ ns → (∀ y, y ∈ ns → y ≤ m) → Q (.int m) H
theorem cr_maxT {X : Cx} (hc : X.calm = true) (hu : X.A.units + 1 < cLine) : CallR X (.builtin "max") (rMaxT X.K) := by
  intro pins s σ H vs us Q I r h
  obtain ⟨a, ns, rfl, hs | hs, hne, q⟩ := h
  · exact cr_max hc pins s σ H _ us Q I r ⟨a, ns, rfl, hs, hne, q⟩
  · obtain ⟨its, rv, ht, hz⟩ := I.tuple hs
    rw [Vals.ref1 r]
    cases ns with
    | nil => exact absurd hne (by decide)
    | cons x xs =>
      have hA : PySem.W.HoldAll s.heap its.toArray.toList (x :: xs) := PySem.W.HoldAll.of_ints rv.ints
      refine PySem.W.max_tuple_datum (I.ok.hd hc) (by exact ht) hA (by show X.A.units + 1 + 0 < cLine; omega) fun i v h' tk hi hv hk => ?_
      obtain ⟨hm, hle⟩ := maxOf_int xs x
      have hi2 := PySem.W.HoldAll.toInts (PySem.W.HoldAll.cons hv PySem.W.HoldAll.nil)
      cases hi2 with
      | cons n t _ => exact ⟨.int _, H, I.kept hk, ⟨_, rfl⟩, q _ hm hle⟩
end L2
namespace Z
open PySem PySem.Spec L2
open Py (toD)
section
variable {α β γ τ ρ : Type} [Py α] [Py β] [Py γ]
variable {X : Cx} {P : Par} {Wx : WX} {Γ : List Sl} {N : List Str} {sc : Scope} {k : Nat} {a b c e : Expr} {pos p : Pos}
theorem ex_maxC {m : W D} (cc : Cok X P Wx N sc k) (ha : EX X P Wx Γ e m) (hg : GlS sc "max" := by rfl) (hs : starEach [e] X.env = (false, eval e X.env) :: starEach [] X.env := by rfl) :
    EX X P Wx Γ (.Call (.Name "max" p) [e] [] pos) (W.b1 m fun d => (seqC Int d).bind maxW) :=
  ex_bf1 cc (cr_maxT cc.calm (by have := cc.room.un; omega)) (by decide +kernel) ha (fun σ G H y v Q E Q' R d w kk => by
    obtain ⟨z, hd | hd, w⟩ := w
    · have d : Den G (toD (⟨z⟩ : Tup Int)) v := by rw [show toD (⟨z⟩ : Tup Int) = y from hd.symm]; exact d
      obtain ⟨q, vs, rfl, g, t, zl⟩ := den_tup.mp d
      rw [DenL.ints] at t
      subst t
      refine ⟨q, z, rfl, .inr (.inl (.inl (R.sub _ _ g))), List.length_pos_iff.mpr w.1, fun u hz hle => kk _ _ _ _ (Grow.refl R.toRelB) (den_int.mpr rfl) ?_⟩
      have e : z.max? = some u := List.max?_eq_some_iff.mpr ⟨hz, hle⟩
      have w2 := w.2
      rw [e] at w2
      exact w2
    · have d : Den G (toD z) v := by rw [show toD z = y from hd.symm]; exact d
      obtain ⟨q, vs, rfl, g, t, zl⟩ := den_list.mp d
      rw [DenL.ints] at t
      subst t
      refine ⟨q, z, rfl, .inl (.inl (rd_sub R.sub g)), List.length_pos_iff.mpr w.1, fun u hz hle => kk _ _ _ _ (Grow.refl R.toRelB) (den_int.mpr rfl) ?_⟩
      have e : z.max? = some u := List.max?_eq_some_iff.mpr ⟨hz, hle⟩
      have w2 := w.2
      rw [e] at w2
      exact w2) (by decide) hg (by decide) (by decide) hs
end
end Z

set_option autoImplicit false
set_option Elab.async false
set_option linter.all false
set_option maxRecDepth 100000
set_option maxHeartbeats 2000003
/-! loops over a list of one's own, which stays as it is -/
namespace Z
open PySem PySem.Spec L2
open Py (toD)
section
variable {α β τ ρ μ : Type} [Py α] [Py β] [Py ρ]
variable {X : Cx} {P : Par} {Wx : WX} {Γ : List Sl} {N : List Str} {sc : Scope} {k : Nat} {a b c e tg iter : Expr} {pos : Pos} {body : List Stmt}
theorem Rel.rek {σ : L2.St} {G H : Hp} {i : Nat} {ko : OK} (kn : OK) {l : List D} (R : Rel P Γ σ G H) (hi : Γ[i]? = some (.ownK ko l)) (h : ∀ p vs, σ[i]? = some (some (.ref p)) → kn.obj vs = ko.obj vs ∧ kn.okAt p) : Rel P (Γ.set i (.ownK kn l)) σ G H := by
  have hl : i < Γ.length := (List.getElem?_eq_some_iff.mp hi).1
  refine ⟨R.toRelB, by rw [List.length_set]; exact R.len, fun j s ej => ?_, fun {k1 k2} j1 j2 x l1 l2 n12 e1 e2 z1 z2 => ?_⟩
  · by_cases q : i = j
    · subst q
      rw [List.getElem?_set_self hl] at ej
      cases ej
      obtain ⟨p, vs, ep, h1, h2, h3, h4, h5, h6⟩ := R.ownAtK hi
      obtain ⟨a, b⟩ := h p vs ep
      exact ⟨_, ep, p, vs, rfl, by rw [a]; exact h1, h2, h3, h4, h5, h6, b⟩
    · rw [List.getElem?_set_ne q] at ej
      exact R.slots j s ej
  · have back : ∀ {ko' : OK} (j : Nat) (m : List D), (Γ.set i (.ownK kn l))[j]? = some (.ownK ko' m) → ∃ k', Γ[j]? = some (.ownK k' m) := fun {ko'} j m z => by
      by_cases q : i = j
      · subst q
        rw [List.getElem?_set_self hl] at z
        cases z
        exact ⟨ko, hi⟩
      · rw [List.getElem?_set_ne q] at z
        exact ⟨_, z⟩
    obtain ⟨_, f1⟩ := back j1 l1 e1
    obtain ⟨_, f2⟩ := back j2 l2 e2
    exact R.sep j1 j2 x l1 l2 n12 f1 f2 z1 z2
def ItO (P : Par) (J : It) (p : Addr) (l xs : List D) : Prop := ∀ G H vs, RelB P G H → H p = some (.lst vs) → DenL G l vs → (∀ (i : Nat) (x : D), xs[i]? = some x → J.go i H ∧ ∀ v H', J.yld i H v H' → ∃ G', Grow P G H G' H' ∧ Den G' x v) ∧ J.stop xs.length H ∧ xs.length ≤ 16777216
def rdO2 (P : Par) (Γ : List Sl) (i : Nat) (l xs : List D) : TI := fun σ H R => ∃ (G : Hp) (p : Addr), Rel P Γ σ G H ∧ σ[i]? = some (some (.ref p)) ∧ ∀ J, ItO P J p l xs → R J H
/-- for x in found -/
theorem eio_list {ko : OK} {l : List α} {x : Str} (cc : Cok X P Wx N sc k) (i : Nat) (hi : Γ[i]? = some (.ownK ko (l.map toD)) := by rfl) (hN : N[i]? = some x := by rfl)
    (hv : Vis sc x := by first | exact Or.inl rfl | exact Or.inr (Or.inl rfl) | exact Or.inr (Or.inr rfl)) (hd : (x == ("__debug__" : Str)) = false := by decide) (hcd : (x == ("__classdict__" : Str)) = false := by decide) (hk : ∀ vs, ko.obj vs = .lst vs := by intro _; rfl) :
    PI X tg (.Name x pos) (rdO2 P Γ i (l.map toD) (l.map toD)) :=
  PI.imp (pi_list (pe_var (i := i) (by rw [cc.hN]; exact hN) (by rw [cc.hsc]; exact hv) hd hcd)) fun σ H R' h => by
    obtain ⟨G, p, R, ep, kk⟩ := h
    obtain ⟨p', vs, ep', h1, h2, h3, h4, h5, zl⟩ := R.ownAtL hi hk
    rw [ep] at ep'
    cases ep'
    refine ⟨.ref p, ep, p, rfl, ⟨vs, .inl (.inl h1)⟩, kk _ fun G2 H2 vs2 R2 g2 t2 => ?_⟩
    have hl : vs2.length = (l.map toD).length := t2.length
    have sq : SqL X.K H2 p vs2 := .inl (.inl g2)
    refine ⟨fun i y hy => ?_, ⟨vs2, sq, by omega⟩, zl⟩
    obtain ⟨v, ev, dv⟩ := t2.get hy
    exact ⟨⟨vs2, v, sq, ev⟩, fun u H' ⟨e1, e2⟩ => by
      subst e1
      have z := e2 vs2 sq
      rw [ev] at z
      cases z
      exact ⟨G2, Grow.refl R2, dv⟩⟩
/-- for i, x in enumerate(found) -/
theorem eio_enum {ko : OK} {l : List α} {x : Str} {p1 p2 tpos : Pos} {elts : List Expr} {kk' : Nat} (cc : Cok X P Wx N sc k) (i : Nat) (hi : Γ[i]? = some (.ownK ko (l.map toD)) := by rfl) (hN : N[i]? = some x := by rfl)
    (hv : Vis sc x := by first | exact Or.inl rfl | exact Or.inr (Or.inl rfl) | exact Or.inr (Or.inr rfl)) (hd : (x == ("__debug__" : Str)) = false := by decide) (hcd : (x == ("__classdict__" : Str)) = false := by decide) (hk : ∀ vs, ko.obj vs = .lst vs := by intro _; rfl)
    (hg : GlS sc "enumerate" := by rfl) (hs : starEach [.Name x p2] X.env = (false, eval (.Name x p2) X.env) :: starEach [] X.env := by rfl) :
    PI X (.Tuple elts kk' tpos) (.Call (.Name "enumerate" p1) [.Name x p2] [] pos) (rdO2 P Γ i (l.map toD) ((enumL l).map toD)) :=
  PI.imp (pi_enum (gl cc hg) (blt cc) (pa_cons (pe_var (i := i) (by rw [cc.hN]; exact hN) (by rw [cc.hsc]; exact hv) hd hcd) pa_nil hs) hs) fun σ H R' h => by
    obtain ⟨G, p, R, ep, kk⟩ := h
    obtain ⟨p', vs, ep', h1, h2, h3, h4, h5, zl⟩ := R.ownAtL hi hk
    rw [ep] at ep'
    cases ep'
    refine ⟨.ref p, ep, p, vs, rfl, .inl (.inl h1), kk _ fun G2 H2 vs2 R2 g2 t2 => ?_⟩
    have l1 : vs.length = l.length := by rw [h5.length, List.length_map]
    have l2 : vs2.length = l.length := by rw [t2.length, List.length_map]
    have wk := walk_enum (K := X.K) (a := p) (xs := vs2)
    have sq : SqL X.K H2 p vs2 := .inl (.inl g2)
    have hlen : ((enumL l).map toD).length = vs2.length := by rw [List.length_map, enumL_length, l2]
    refine ⟨fun i z hz => ?_, by rw [hlen]; exact wk.stops H2 sq, by rw [hlen, l2]; simpa using zl⟩
    have hi : i < vs2.length := by
      rw [← hlen]
      exact (List.getElem?_eq_some_iff.mp hz).1
    have hx : i < l.length := by omega
    refine ⟨wk.goes i H2 hi sq, fun v' H' hyl => ?_⟩
    obtain ⟨T, v1, v2, rfl, hT, rfl, e1, e2⟩ := wk.yields i H2 v' H' hi sq hyl
    have g4 := grow_new (o := .tup [v1, v2]) R2 hT
    rw [List.getElem?_map, enumL_get l i hx] at hz
    cases hz
    refine ⟨_, g4, ?_⟩
    show Den _ (.tup [toD ((i : Nat) : Int), toD l[i]]) _
    simp only [Den, DenL]
    refine ⟨T, _, rfl, upd_same, ⟨v1, _, rfl, ?_, v2, _, rfl, Den.mono g4.g _ _ (den_get t2 (by rw [List.getElem?_map, List.getElem?_eq_getElem hx]; rfl) e2), rfl⟩, by simp⟩
    have e1 : some (V.int (i : Nat)) = some v1 := e1
    cases e1
    exact den_int.mpr rfl
theorem s_forO {l : List α} {xs : List β} {f : Addr → β → τ → List Sl} {Nn : Addr → τ → List Sl} {N0 : τ → List Sl} {mb : β → τ → W τ} (cc : Dok X P Wx N sc k) (i : Nat) (t0 : τ) (it : PI X tg iter (rdO2 P Γ i (l.map toD) (xs.map toD))) (w0 : ∀ p, Wk (Γ.set i (.ownK (.pin p) (l.map toD))) (Nn p t0))
    (hg : ∀ p t, GT X P (Nn p t) tg (fun x => f p x t)) (hb : ∀ p x t, BB X P Wx (f p x t) body (mb x t) (Nn p)) (hi : Γ[i]? = some (.own (l.map toD)) := by rfl) (hN : ∀ p t, (Nn p t)[i]? = some (.ownK (.pin p) (l.map toD)) := by intro _ _; rfl)
    (hz : ∀ p t, (Nn p t).set i (.own (l.map toD)) = N0 t := by intro _ _; rfl) (hs : ∀ x, foldedSetIterable iter X.env x = pure x := by intro _; rfl) : S1 X P Wx Γ (.For tg iter body [] pos) (W.forW xs mb t0) N0 := by
  have hg' : PG X tg (fun v σ H K => ∃ p t, rdG P (Nn p t) (fun x => f p x t) v σ H K) := ⟨fun pins s σ H v u K I r ⟨p, x, q⟩ => (hg p x).run pins s σ H v u K I r q⟩
  have hb' : PSs X body (fun D σ H => ∃ p x t, rdS P Wx (f p x t) (mb x t) (Nn p) D σ H) := ⟨fun pins s σ H D I ⟨p, x, t, q⟩ => (hb p x t).run pins s σ H D I q⟩
  refine PS.imp (ps_for cc.po cc.calm it hg' hb' hs) fun D σ H h => ?_
  obtain ⟨G, Q, E, R, w, kk, kx⟩ := h
  obtain ⟨p, vs0, ep, _⟩ := R.ownAt hi
  have Rp : Rel P (Γ.set i (.ownK (.pin p) (l.map toD))) σ G H := R.rek (.pin p) hi fun q vs eq => ⟨rfl, by rw [ep] at eq; cases eq; rfl⟩
  refine ⟨G, p, R, ep, fun J ito => ?_⟩
  refine ⟨fun i n σ H => n = xs.length - i ∧ i ≤ xs.length ∧ ∃ G2 t, Rel P (Nn p t) σ G2 H ∧ Same G G2 ∧ (W.forW (xs.drop i) mb t).wp Q E, ⟨_, rfl, Nat.zero_le _, G, t0, Rp.wk (w0 p), fun _ _ z => z, w⟩, ?_⟩
  rintro j n σ2 H2 ⟨rfl, hle, G2, t, R2, s2, w2⟩
  obtain ⟨vs2, _, h2, _, _, _, d2, _⟩ := R2.ownPin (hN p t)
  obtain ⟨tr, sp⟩ := ito G2 H2 vs2 R2.toRelB h2 d2
  by_cases hlt : j < xs.length
  · right
    have ed : xs.drop j = xs[j] :: xs.drop (j + 1) := List.drop_eq_getElem_cons hlt
    obtain ⟨go, yl⟩ := tr j (toD xs[j]) (by rw [List.getElem?_map, List.getElem?_eq_getElem hlt]; rfl)
    rw [ed] at w2
    refine ⟨go, fun σ' H' => ∃ G' t', Rel P (Nn p t') σ' G' H' ∧ Same G G' ∧ (W.forW (xs.drop (j + 1)) mb t').wp Q E, fun σ' H' ⟨G', t', R', s', w'⟩ => ⟨xs.length - (j + 1), by omega, rfl, hlt, G', t', R', s', w'⟩, fun v H3 hy => ?_⟩
    obtain ⟨G3, g3, d3⟩ := yl v H3 hy
    refine ⟨p, t, xs[j], G3, R2.grow g3, d3, fun σ4 R4 => ⟨p, xs[j], t, G3, _, E, R4, w2, fun t' σ' H' G' R' s' w' => ⟨G', t', R', (s2.trans g3.g).trans s', w'⟩, kx⟩⟩
  · left
    have e : j = xs.length := by omega
    subst e
    rw [List.length_map] at sp
    rw [List.drop_length] at w2
    refine ⟨sp.1, kk t σ2 H2 G2 ?_ s2 w2⟩
    rw [← hz p t]
    exact R2.rek .lst (hN p t) fun _ _ _ => ⟨rfl, True.intro⟩
theorem l_forO {l : List α} {xs : List β} {f : Addr → β → τ → List Sl} {Nn : Addr → τ → List Sl} {N0 : τ → List Sl} {mb : β → τ → W (Fl τ τ ρ)} (cc : Dok X P Wx N sc k) (i : Nat) (t0 : τ) (it : PI X tg iter (rdO2 P Γ i (l.map toD) (xs.map toD))) (w0 : ∀ p, Wk (Γ.set i (.ownK (.pin p) (l.map toD))) (Nn p t0))
    (hg : ∀ p t, GT X P (Nn p t) tg (fun x => f p x t)) (hb : ∀ p x t, FB X P Wx (f p x t) body (mb x t) (Nn p) (Nn p)) (hi : Γ[i]? = some (.own (l.map toD)) := by rfl) (hN : ∀ p t, (Nn p t)[i]? = some (.ownK (.pin p) (l.map toD)) := by intro _ _; rfl)
    (hz : ∀ p t, (Nn p t).set i (.own (l.map toD)) = N0 t := by intro _ _; rfl) (hs : ∀ x, foldedSetIterable iter X.env x = pure x := by intro _; rfl) : L1 X P Wx Γ (.For tg iter body [] pos) (W.forF xs mb t0) N0 := by
  have hg' : PG X tg (fun v σ H K => ∃ p t, rdG P (Nn p t) (fun x => f p x t) v σ H K) := ⟨fun pins s σ H v u K I r ⟨p, x, q⟩ => (hg p x).run pins s σ H v u K I r q⟩
  have hb' : PSs X body (fun D σ H => ∃ p x t, rdF P Wx (f p x t) (mb x t) (Nn p) (Nn p) D σ H) := ⟨fun pins s σ H D I ⟨p, x, t, q⟩ => (hb p x t).run pins s σ H D I q⟩
  refine PS.imp (ps_for cc.po cc.calm it hg' hb' hs) fun D σ H h => ?_
  obtain ⟨G, Q, E, R, w, kk, kr, kx⟩ := h
  obtain ⟨p, vs0, ep, _⟩ := R.ownAt hi
  have Rp : Rel P (Γ.set i (.ownK (.pin p) (l.map toD))) σ G H := R.rek (.pin p) hi fun q vs eq => ⟨rfl, by rw [ep] at eq; cases eq; rfl⟩
  have un : ∀ {t σ' H' G'}, Rel P (Nn p t) σ' G' H' → Rel P (N0 t) σ' G' H' := fun {t σ' H' G'} R' => by
    rw [← hz p t]
    exact R'.rek .lst (hN p t) fun _ _ _ => ⟨rfl, True.intro⟩
  refine ⟨G, p, R, ep, fun J ito => ?_⟩
  refine ⟨fun i n σ H => n = xs.length - i ∧ i ≤ xs.length ∧ ∃ G2 t, Rel P (Nn p t) σ G2 H ∧ Same G G2 ∧ (W.forF (xs.drop i) mb t).wp Q E, ⟨_, rfl, Nat.zero_le _, G, t0, Rp.wk (w0 p), fun _ _ z => z, w⟩, ?_⟩
  rintro j n σ2 H2 ⟨rfl, hle, G2, t, R2, s2, w2⟩
  obtain ⟨vs2, _, h2, _, _, _, d2, _⟩ := R2.ownPin (hN p t)
  obtain ⟨tr, sp⟩ := ito G2 H2 vs2 R2.toRelB h2 d2
  by_cases hlt : j < xs.length
  · right
    have ed : xs.drop j = xs[j] :: xs.drop (j + 1) := List.drop_eq_getElem_cons hlt
    obtain ⟨go, yl⟩ := tr j (toD xs[j]) (by rw [List.getElem?_map, List.getElem?_eq_getElem hlt]; rfl)
    rw [ed] at w2
    refine ⟨go, fun σ' H' => ∃ G' t', Rel P (Nn p t') σ' G' H' ∧ Same G G' ∧ (W.forF (xs.drop (j + 1)) mb t').wp Q E, fun σ' H' ⟨G', t', R', s', w'⟩ => ⟨xs.length - (j + 1), by omega, rfl, hlt, G', t', R', s', w'⟩, fun v H3 hy => ?_⟩
    obtain ⟨G3, g3, d3⟩ := yl v H3 hy
    refine ⟨p, t, xs[j], G3, R2.grow g3, d3, fun σ4 R4 => ⟨p, xs[j], t, G3, _, E, R4, w2, fun t' σ' H' G' R' s' w' => ⟨G', t', R', (s2.trans g3.g).trans s', w'⟩, fun t' σ' H' G' R' s' w' => kk t' σ' H' G' (un R') ((s2.trans g3.g).trans s') w', fun r v H' G' R' d w' => kr r v H' G' R' d w', kx⟩⟩
  · left
    have e : j = xs.length := by omega
    subst e
    rw [List.length_map] at sp
    rw [List.drop_length] at w2
    exact ⟨sp.1, kk t σ2 H2 G2 (un R2) s2 w2⟩
end
end Z

set_option autoImplicit false
set_option Elab.async false
set_option linter.all false
set_option maxRecDepth 100000
set_option maxHeartbeats 2000003
/-! places of a triple; a call by place and by names -/
namespace Z
open PySem PySem.Spec L2
open Py (toD)
section
variable {α β γ τ ρ : Type} [Py α] [Py β] [Py γ]
variable {X : Cx} {P : Par} {Wx : WX} {Γ : List Sl} {N : List Str} {sc : Scope} {k : Nat} {a b c e : Expr} {pos : Pos}
theorem ex_t3a {m : W (T3 α β γ)} {j p2} (ha : EX X P Wx Γ a m) : EX X P Wx Γ (.Subscript a (.Constant (.int 0) j p2) pos) (W.b1 m fun x => W.pure x.a) := ex_place ha fun G x v h => by
  obtain ⟨p, v1, v2, v3, rfl, g, d1, d2, d3⟩ := tri_v h
  exact ⟨p, _, v1, rfl, g, rfl, d1⟩
theorem ex_t3b {m : W (T3 α β γ)} {j p2} (ha : EX X P Wx Γ a m) : EX X P Wx Γ (.Subscript a (.Constant (.int 1) j p2) pos) (W.b1 m fun x => W.pure x.b) := ex_place ha fun G x v h => by
  obtain ⟨p, v1, v2, v3, rfl, g, d1, d2, d3⟩ := tri_v h
  exact ⟨p, _, v2, rfl, g, rfl, d2⟩
theorem ex_t3c {m : W (T3 α β γ)} {j p2} (ha : EX X P Wx Γ a m) : EX X P Wx Γ (.Subscript a (.Constant (.int 2) j p2) pos) (W.b1 m fun x => W.pure x.c) := ex_place ha fun G x v h => by
  obtain ⟨p, v1, v2, v3, rfl, g, d1, d2, d3⟩ := tri_v h
  exact ⟨p, _, v3, rfl, g, rfl, d3⟩
end
end Z

set_option autoImplicit false
set_option Elab.async false
set_option linter.all false
set_option maxRecDepth 100000
set_option maxHeartbeats 2000003
/-! [elt for target in iter if .. for target in iter if ..] -/
namespace Z
open PySem PySem.Spec L2
open Py (toD)
namespace W
variable {α β γ : Type}
/-- the inner turns -/
def in2 (mt : β → W Bool) (me : β → W γ) : List β → List γ → W (List γ)
  | [], acc => pure acc
  | y :: l, acc => (mt y).bind fun b => bif b then (me y).bind fun z => (need (acc.length < 16777216) ()).bind fun _ => in2 mt me l (acc ++ [z]) else in2 mt me l acc
/-- the outer turns -/
def out2 (mt : α → W Bool) (m1 : α → W (List β)) (mt1 : α → β → W Bool) (me : α → β → W γ) : List α → List γ → W (List γ)
  | [], acc => pure acc
  | x :: l, acc => (mt x).bind fun b => bif b then (m1 x).bind fun l1 => (in2 (mt1 x) (me x) l1 acc).bind fun acc' => out2 mt m1 mt1 me l acc' else out2 mt m1 mt1 me l acc
end W
section
variable {α β γ δ τ ρ μ : Type} [Py α] [Py β] [Py γ] [Py δ] [Py ρ]
variable {X : Cx} {P : Par} {Wx : WX} {Γ : List Sl} {N : List Str} {sc : Scope} {k : Nat} {a b c e tg iter tg1 iter1 elt : Expr} {pos : Pos} {ifs ifs1 : List Expr} {scope : Scope}
def ownB : Sl → Bool
  | .ownK _ _ => true
  | _ => false
theorem lc2_read {wi wi1 : TI} {f : α → List Sl} {f1 : α → β → List Sl} {mt : α → W Bool} {m1 : α → W (List β)} {mt1 : α → β → W Bool} {me : α → β → W γ} {vs vs1 : List Nat} {m : W (List α)} {σ : L2.St} {H : Hp} {Q' : VK} (hwi : ∀ σ H R, rdI P Wx Γ m σ H R → wi σ H R)
    {gg gg1 : TG} {tt tt1 : TT} {te : TE} (hgg : ∀ v σ H K, (∃ (x : α) (G : Hp) (σ0 : L2.St), L2.wipe σ vs = L2.wipe σ0 vs ∧ Rel P (wipeΓ Γ vs) σ G H ∧ Den G (toD x) v ∧ (∀ σ', L2.wipe σ' vs = L2.wipe σ0 vs → Rel P (f x) σ' G H → K σ' H)) → gg v σ H K)
    (htt : ∀ σ H K, (∃ x, rdT P NoX (f x) (mt x) σ H K) → tt σ H K) (hwi1 : ∀ σ H R, (∃ x, rdI P NoX (f x) (m1 x) σ H R) → wi1 σ H R)
    (hgg1 : ∀ v σ H K, (∃ (x : α) (y : β) (G : Hp) (σ0 : L2.St), L2.wipe σ vs1 = L2.wipe σ0 vs1 ∧ Rel P (wipeΓ (f x) vs1) σ G H ∧ Den G (toD y) v ∧ (∀ σ', L2.wipe σ' vs1 = L2.wipe σ0 vs1 → Rel P (f1 x y) σ' G H → K σ' H)) → gg1 v σ H K)
    (htt1 : ∀ σ H K, (∃ x y, rdT P NoX (f1 x y) (mt1 x y) σ H K) → tt1 σ H K) (hte : ∀ σ H K, (∃ x y, rdE P NoX (f1 x y) (me x y) σ H K) → te σ H K)
    (hown : ∀ (x : α) (j : Nat) (ko : OK) (l : List D), (f x)[j]? = some (.ownK ko l) → j ∉ vs ∧ ∃ ko' l', Γ[j]? = some (.ownK ko' l'))
    (h : rdN P Wx Γ (m.bind fun l => W.out2 (fun x => nx (mt x)) (fun x => nx (m1 x)) (fun x y => nx (mt1 x y)) (fun x y => nx (me x y)) l []) σ H Q') : tLc2 wi gg tt wi1 gg1 tt1 te vs vs1 σ H Q' := by
  obtain ⟨G, Q, E, R, w, kk, kx⟩ := h
  refine hwi _ _ _ ⟨G, _, E, R, w, fun J H1 G1 l g1 it w1 D' hD => ?_, kx⟩
  have R1 := R.grow g1
  have nxc : XC P NoX (fun _ => False) := fun _ _ _ _ _ _ _ _ z => z
  have fH : H D' = none := H_none R.toRelB g1 hD
  have fr1 := R1.toRelB.free hD
  have L0 : Lc P Γ σ G1 H1 D' [] G1 (upd H1 D' (.lst [])) := by
    refine ⟨R1.grow (grow_raw R1.toRelB hD), ⟨[], upd_same, DenL.nil_iff.mpr rfl⟩, fr1.2.2, fr1.1, fr1.2.1, fun j m ej z => ?_, fun _ _ z => z, fun b o z d => ?_, fun b o z n => n⟩
    · obtain ⟨o, eo, p, vs', e2, h1, _⟩ := R1.slots j _ ej
      rw [z] at eo
      cases eo
      cases e2
      rw [hD] at h1
      cases h1
    · rw [upd_ne (ne_of_none z hD)]
      exact z
  refine ⟨fun i n H => n = l.length - i ∧ i ≤ l.length ∧ ∃ (G2 : Hp) (acc : List γ), Lc P Γ σ G1 H1 D' (acc.map toD) G2 H ∧ acc.length ≤ 16777216 ∧
    (W.out2 (fun x => nx (mt x)) (fun x => nx (m1 x)) (fun x y => nx (mt1 x y)) (fun x y => nx (me x y)) (l.drop i) acc).wp Q E, ⟨_, rfl, Nat.zero_le _, G1, [], L0, Nat.zero_le _, w1⟩, ?_⟩
  rintro i n H2 ⟨rfl, hle, G2, acc, L, hacc, w2⟩
  obtain ⟨tr, sp, zl⟩ := it G2 H2 L.rel.toRelB L.sg
  rw [List.length_map] at zl
  by_cases hlt : i < l.length
  · right
    have ed : l.drop i = l[i] :: l.drop (i + 1) := List.drop_eq_getElem_cons hlt
    obtain ⟨go, yl⟩ := tr i (toD l[i]) (by rw [List.getElem?_map, List.getElem?_eq_getElem hlt]; rfl)
    rw [ed] at w2
    refine ⟨go, fun H' => ∃ (G' : Hp) (acc' : List γ), Lc P Γ σ G1 H1 D' (acc'.map toD) G' H' ∧ acc'.length ≤ 16777216 ∧ (W.out2 (fun x => nx (mt x)) (fun x => nx (m1 x)) (fun x y => nx (mt1 x y)) (fun x y => nx (me x y)) (l.drop (i + 1)) acc').wp Q E,
      fun H' ⟨G', acc', L', hl', w'⟩ => ⟨l.length - (i + 1), by omega, rfl, hlt, G', acc', L', hl', w'⟩, fun v H3 hy => ?_⟩
    obtain ⟨G3, g3, d3⟩ := yl v H3 hy
    have L3 := L.grow g3
    refine hgg _ _ _ _ ⟨l[i], G3, σ, wipe_wipe σ vs, L3.rel.wipe vs, d3, fun σ4 hw4 R4 => ⟨hw4, ?_⟩⟩
    refine htt _ _ _ ⟨l[i], G3, _, _, R4, w2, fun H5 G5 b g5 w5 => ?_, nxc⟩
    have L5 := L3.grow g5
    have R5 := R4.grow g5
    cases b with
    | false => exact ⟨G5, acc, L5, hacc, w5⟩
    | true =>
      refine hwi1 _ _ _ ⟨l[i], G5, _, _, R5, w5, fun J1 H6 G6 l1 g6 it1 w6 => ?_, nxc⟩
      have L6 := L5.grow g6
      have R6 := R5.grow g6
      refine ⟨fun j n H => n = l1.length - j ∧ j ≤ l1.length ∧ ∃ (G7 : Hp) (acc : List γ), Lc P Γ σ G1 H1 D' (acc.map toD) G7 H ∧ acc.length ≤ 16777216 ∧ Rel P (f l[i]) σ4 G7 H ∧ Same G6 G7 ∧
        ((W.in2 (fun y => nx (mt1 l[i] y)) (fun y => nx (me l[i] y)) (l1.drop j) acc).bind fun acc' => W.out2 (fun x => nx (mt x)) (fun x => nx (m1 x)) (fun x y => nx (mt1 x y)) (fun x y => nx (me x y)) (l.drop (i + 1)) acc').wp Q E, ⟨_, rfl, Nat.zero_le _, G6, acc, L6, hacc, R6, fun _ _ z => z, w6⟩, ?_⟩
      rintro j n H7 ⟨rfl, hle1, G7, acc7, L7, hacc7, R7, s7, w7⟩
      obtain ⟨tr1, sp1, zl1⟩ := it1 G7 H7 L7.rel.toRelB s7
      rw [List.length_map] at zl1
      by_cases hlt1 : j < l1.length
      · right
        have ed1 : l1.drop j = l1[j] :: l1.drop (j + 1) := List.drop_eq_getElem_cons hlt1
        obtain ⟨go1, yl1⟩ := tr1 j (toD l1[j]) (by rw [List.getElem?_map, List.getElem?_eq_getElem hlt1]; rfl)
        rw [ed1] at w7
        refine ⟨go1, fun H' => ∃ (G7 : Hp) (acc : List γ), Lc P Γ σ G1 H1 D' (acc.map toD) G7 H' ∧ acc.length ≤ 16777216 ∧ Rel P (f l[i]) σ4 G7 H' ∧ Same G6 G7 ∧
          ((W.in2 (fun y => nx (mt1 l[i] y)) (fun y => nx (me l[i] y)) (l1.drop (j + 1)) acc).bind fun acc' => W.out2 (fun x => nx (mt x)) (fun x => nx (m1 x)) (fun x y => nx (mt1 x y)) (fun x y => nx (me x y)) (l.drop (i + 1)) acc').wp Q E,
          fun H' ⟨G', acc', L', hl', R', s', w'⟩ => ⟨l1.length - (j + 1), by omega, rfl, hlt1, G', acc', L', hl', R', s', w'⟩, fun v H8 hy8 => ?_⟩
        obtain ⟨G8, g8, d8⟩ := yl1 v H8 hy8
        refine hgg1 _ _ _ _ ⟨l[i], l1[j], G8, σ4, wipe_wipe σ4 vs1, (R7.grow g8).wipe vs1, d8, fun σ9 hw9 R9 => ⟨hw9, ?_⟩⟩
        refine htt1 _ _ _ ⟨l[i], l1[j], G8, _, _, R9, w7, fun H9 G9 b g9 w9 => ?_, nxc⟩
        cases b with
        | false => exact ⟨G9, acc7, (L7.grow g8).grow g9, hacc7, (R7.grow g8).grow g9, (s7.trans g8.g).trans g9.g, w9⟩
        | true =>
          refine hte _ _ _ ⟨l[i], l1[j], G9, _, _, R9.grow g9, w9, fun u H10 G10 y g10 d10 w10 => ?_, nxc⟩
          have L10 := ((L7.grow g8).grow g9).grow g10
          have R10 := ((R7.grow g8).grow g9).grow g10
          obtain ⟨ws, hws, tws⟩ := L10.at_
          have hlen : ws.length = acc7.length := by rw [tws.length, List.length_map]
          obtain ⟨lt, w10⟩ := w10
          refine ⟨ws, hws, by rw [hlen, sizeLine_eq]; exact lt, G10, acc7 ++ [y], ?_, by simp; omega, ?_, ((s7.trans g8.g).trans g9.g).trans g10.g, w10⟩
          · rw [List.map_append]
            exact L10.app hws d10 hD
          · refine R10.other (Grow.app R10.toRelB hws L10.gn L10.h0 L10.nd) fun {ko} q m eq z => ?_
            obtain ⟨nv, ko', l', eg⟩ := hown l[i] q ko m eq
            have z2 : σ[q]? = some (some (.ref D')) := by
              rw [← z, ← L2.wipe_out nv, ← L2.wipe_out (σ := σ4) nv, hw4]
            exact L10.no q l' eg z2
      · left
        have e1 : j = l1.length := by omega
        subst e1
        rw [List.length_map] at sp1
        rw [List.drop_length] at w7
        exact ⟨sp1, G7, acc7, L7, hacc7, w7⟩
  · left
    have e : i = l.length := by omega
    subst e
    rw [List.length_map] at sp
    rw [List.drop_length] at w2
    have w2 : Q acc := w2
    obtain ⟨ws, hws, tws⟩ := L.at_
    refine ⟨sp, kk D' ws H2 G2 acc ⟨g1.g.trans L.sg, L.rel.sub, fun b o z d => L.hh b o (g1.h b o z d) d, fun b o z n => ?_, L.rel.dk, R.toRelB.tH L.rel.toRelB⟩ fH L.gn hws tws (by omega) w2⟩
    by_cases q : P.dl b
    · obtain ⟨o', z'⟩ := DealAt.there R1.dk b q
      exact L.hn b o' z' (g1.n b o z n)
    · exact L.hn b o (g1.h b o z q) (g1.n b o z n)
def ownC (vs : List Nat) : Nat → List Sl → List Sl → Bool
  | _, _, [] => true
  | j, [], s :: r => !ownB s && ownC vs (j + 1) [] r
  | j, g :: G, s :: r => (!ownB s || (ownB g && !decide (j ∈ vs))) && ownC vs (j + 1) G r
theorem ownC_get {vs : List Nat} {ko : OK} {l : List D} : ∀ {Γ' Γ : List Sl} {j i : Nat}, ownC vs j Γ Γ' = true → Γ'[i]? = some (.ownK ko l) → (j + i) ∉ vs ∧ ∃ ko' l', Γ[i]? = some (.ownK ko' l')
  | [], _, _, i, _, e => by simp at e
  | s :: r, [], j, i, h, e => by
    simp only [ownC, Bool.and_eq_true] at h
    cases i with
    | zero =>
      simp at e
      subst e
      exact absurd h.1 (by simp [ownB])
    | succ i =>
      have := ownC_get (Γ := []) (i := i) h.2 (by simpa using e)
      obtain ⟨_, ko', l', z⟩ := this
      simp at z
  | s :: r, g :: G, j, i, h, e => by
    simp only [ownC, Bool.and_eq_true] at h
    cases i with
    | zero =>
      simp at e
      subst e
      have h1 := h.1
      simp [ownB] at h1
      refine ⟨by simpa using h1.2, ?_⟩
      cases g with
      | ownK k' l' => exact ⟨k', l', rfl⟩
      | _ => simp [ownB] at h1
    | succ i =>
      obtain ⟨a, b⟩ := ownC_get (i := i) h.2 (by simpa using e)
      exact ⟨by rw [show j + (i + 1) = j + 1 + i by omega]; exact a, by simpa using b⟩
theorem en_lc2 {m : W (List α)} {f : α → List Sl} {f1 : α → β → List Sl} {mt : α → W Bool} {m1 : α → W (List β)} {mt1 : α → β → W Bool} {me : α → β → W γ} (cc : Cok X P Wx N sc k) (own : List (Str × Nat)) (vs1 : List Nat) (hi : EI X P Wx Γ tg iter m) (ok : blkC N sc scope own = true)
    (hb : ∀ X', Cok X' P NoX N (relS scope sc) k → (∀ x, X'.fn x = (scope.names.lookup x == some .cell)) → GB X' P (wipeΓ Γ (own.map fun (z : Str × Nat) => z.2)) (own.map fun (z : Str × Nat) => z.2) tg f ∧ (∀ x, TT1 X' P (f x) ifs (mt x)) ∧ (∀ x, EI X' P NoX (f x) tg1 iter1 (m1 x)) ∧
      (∀ x, GB X' P (wipeΓ (f x) vs1) vs1 tg1 (fun y => f1 x y)) ∧ (∀ x y, TT1 X' P (f1 x y) ifs1 (mt1 x y)) ∧ ∀ x y, EX X' P NoX (f1 x y) elt (me x y))
    (hv : ∀ i ∈ vs1, i ∈ own.map (·.2) := by decide) (hown : ∀ x, ownC (own.map fun (z : Str × Nat) => z.2) 0 Γ (f x) = true := by intro _; rfl)
    (hs : ∀ x, foldedSetIterable iter X.env x = pure x := by intro _; rfl) (hs1 : ∀ env x, foldedSetIterable iter1 env x = pure x := by intro _ _; rfl) :
    EN X P Wx Γ (.ListComp elt [⟨tg, iter, ifs, 0⟩, ⟨tg1, iter1, ifs1, 0⟩] scope pos) (m.bind fun l => W.out2 (fun x => nx (mt x)) (fun x => nx (m1 x)) (fun x y => nx (mt1 x y)) (fun x y => nx (me x y)) l []) := by
  have B := fun s H C cl fp => hb (X.blk s H scope (compEnvC scope cl C X.env) fp) (cc.blk s H scope cl C fp) fun _ => rfl
  refine PE.imp (pe_lc2 (vs1 := vs1) cc.calm (by rw [cc.hN]; exact cc.nd) hi (by rw [cc.hN, cc.hsc]; exact blkOk_by ok) hv
    (g := fun v σ H K => ∃ (x : α) (G : Hp) (σ0 : L2.St), L2.wipe σ (own.map fun (z : Str × Nat) => z.2) = L2.wipe σ0 (own.map fun (z : Str × Nat) => z.2) ∧ Rel P (wipeΓ Γ (own.map fun (z : Str × Nat) => z.2)) σ G H ∧ Den G (toD x) v ∧ (∀ σ', L2.wipe σ' (own.map fun (z : Str × Nat) => z.2) = L2.wipe σ0 (own.map fun (z : Str × Nat) => z.2) → Rel P (f x) σ' G H → K σ' H))
    (tt := fun σ H K => ∃ x, rdT P NoX (f x) (mt x) σ H K) (wi1 := fun σ H R => ∃ x, rdI P NoX (f x) (m1 x) σ H R)
    (g1 := fun v σ H K => ∃ (x : α) (y : β) (G : Hp) (σ0 : L2.St), L2.wipe σ vs1 = L2.wipe σ0 vs1 ∧ Rel P (wipeΓ (f x) vs1) σ G H ∧ Den G (toD y) v ∧ (∀ σ', L2.wipe σ' vs1 = L2.wipe σ0 vs1 → Rel P (f1 x y) σ' G H → K σ' H))
    (tt1 := fun σ H K => ∃ x y, rdT P NoX (f1 x y) (mt1 x y) σ H K) (te := fun σ H K => ∃ x y, rdE P NoX (f1 x y) (me x y) σ H K)
    (fun s H C cl fp => (B s H C cl fp).1) (fun s H C cl fp => ⟨fun pins s' σ' H' Q I ⟨x, q⟩ => ((B s H C cl fp).2.1 x).run pins s' σ' H' Q I q⟩)
    (fun s H C cl fp => ⟨fun pins s' σ' H' R I ⟨x, q⟩ => ((B s H C cl fp).2.2.1 x).run pins s' σ' H' R I q⟩)
    (fun s H C cl fp => ⟨fun pins s' σ' H' v u K I r ⟨x, q⟩ => ((B s H C cl fp).2.2.2.1 x).run pins s' σ' H' v u K I r q⟩)
    (fun s H C cl fp => ⟨fun pins s' σ' H' Q I ⟨x, y, q⟩ => ((B s H C cl fp).2.2.2.2.1 x y).run pins s' σ' H' Q I q⟩)
    (fun s H C cl fp => ⟨fun pins s' σ' H' Q I ⟨x, y, q⟩ => ((B s H C cl fp).2.2.2.2.2 x y).run pins s' σ' H' Q I q⟩) hs hs1) fun σ H Q' h => ?_
  exact lc2_read (fun _ _ _ q => q) (fun _ _ _ _ q => q) (fun _ _ _ q => q) (fun _ _ _ q => q) (fun _ _ _ _ q => q) (fun _ _ _ q => q) (fun _ _ _ q => q) (fun x j ko l e => by
    obtain ⟨a, b⟩ := ownC_get (j := 0) (hown x) e
    exact ⟨by simpa using a, b⟩) h
end
end Z

set_option autoImplicit false
set_option Elab.async false
set_option linter.all false
set_option maxRecDepth 100000
set_option maxHeartbeats 2000003
/-! sum of a tuple of ints -/
namespace L2
open PySem PySem.Spec PyProof.Rows
def rSumT (K : PySem.W.Frag) : List V → Hp → VK → Prop := fun vs H Q => ∃ (a : Addr) (ns : List Int), vs = [V.ref a] ∧ SqT K H a (ns.map V.int) ∧ Q (.int ns.sum) H
theorem cr_sumT {X : Cx} (hc : X.calm = true) : CallR X (.builtin "sum") (rSumT X.K) := by
  intro pins s σ H vs us Q I r h
  obtain ⟨a, ns, rfl, hs, q⟩ := h
  obtain ⟨its, rv, ht, hz⟩ := I.tuple hs
  rw [Vals.ref1 r]
  obtain ⟨xs, e⟩ := rv.ints.allInts.items
  have hn : numsOf (intItems xs).toList = ns := by rw [← e]; exact rv.ints.numsOf
  rw [nums_intItems] at hn
  rw [e] at ht
  refine PySem.W.ktm_sumG (I.ok.hd hc) ht fun h' tk t' hk => ?_
  rw [preSum_eq, List.take_of_length_le (by simp), hn]
  exact ⟨.int _, H, I.kept hk, ⟨_, rfl⟩, q⟩
end L2
namespace Z
open PySem PySem.Spec L2
open Py (toD)
section
variable {α β γ τ ρ : Type} [Py α] [Py β] [Py γ]
variable {X : Cx} {P : Par} {Wx : WX} {Γ : List Sl} {N : List Str} {sc : Scope} {k : Nat} {a b c e : Expr} {pos p : Pos}
theorem ex_sumT {m : W (Tup Int)} (cc : Cok X P Wx N sc k) (ha : EX X P Wx Γ e m) (hg : GlS sc "sum" := by rfl) (hs : starEach [e] X.env = (false, eval e X.env) :: starEach [] X.env := by rfl) :
    EX X P Wx Γ (.Call (.Name "sum" p) [e] [] pos) (W.b1 m fun t => W.pure t.l.sum) :=
  ex_bf1 cc (cr_sumT cc.calm) (by decide +kernel) ha (fun σ G H y v Q E Q' R d w kk => by
    obtain ⟨q, vs, rfl, g, t, zl⟩ := den_tup.mp d
    rw [DenL.ints] at t
    subst t
    exact ⟨q, y.l, rfl, .inl (.inl (R.sub _ _ g)), kk _ _ _ _ (Grow.refl R.toRelB) (den_int.mpr rfl) w⟩) (by decide) hg (by decide) (by decide) hs
end
end Z

set_option autoImplicit false
set_option Elab.async false
set_option linter.all false
set_option maxRecDepth 100000
set_option maxHeartbeats 2000003
/-! a call by place and by names -/
namespace L2
open PySem PySem.Spec PyProof.Rows
def tCallM (sp : Sp) (na : Nat) (ks : List Str) (ix : List Nat) (E : St → XK) (t tk : TA) : TE := fun σ H Q => t σ H fun vs H1 => tk σ H1 fun zs H2 => vs.length = na ∧ zs.length = ks.length ∧ sp (pick ix (vs ++ zs)) H2 Q (E σ)
theorem Vals.app {xs ys : List V} {us ws : List Value} (r : Vals xs us) (t : Vals ys ws) : Vals (xs ++ ys) (us ++ ws) := by
  induction r with
  | nil => exact t
  | cons r _ ih => exact .cons r ih
section
variable {X : Cx} {CX : CXT} {k : Nat} {f : Addr} {fd : FuncData} {ps ks : List Str} {sp : Sp} {E : St → XK} {x : Str} {p pos : Pos} {kws : List Keyword} {t tk : TA} {ix : List Nat} {na : Nat} {e : Expr} {es : List Expr}
theorem pe_callM (F : FnOk X.prog X.w X.K X.mg X.base CX k f fd ps sp) (hr : Room k X.A) (hg : Gl X x) (hm : X.mg x = some (.ref f)) (hk : PySem.W.keepIn X.K (.ref f) = true)
    (hb : ∀ (s : Shared) (us ws : List Value), X.K.In s.heap → us.length = na → ws.length = ks.length → BindsTo s fd ⟨us, ks.zip ws⟩ (ps.zip (pick ix (us ++ ws)))) (hx : ∀ σ, PassesAt CX X σ (E σ))
    (ha : PA X (e :: es) t) (hkw : PK X kws tk) (hall : (backToKw pos (keywordEach kws X.env)).all (·.1.isSome) = true) (hks : (backToKw pos (keywordEach kws X.env)).filterMap (·.1) = ks) (hdb : (x == ("__debug__" : Str)) = false)
    (he : starEach (e :: es) X.env = (false, eval e X.env) :: starEach es X.env)
    (hpl : ((backTo pos (starEach (e :: es) X.env)).any (·.1) || (backToKw pos (keywordEach kws X.env)).any (·.1.isNone)) = false) :
    PE X (.Call (.Name x p) (e :: es) kws pos) (tCallM sp na ks ix E t tk) := by
  refine ⟨fun pins s σ H Q I h => ?_⟩
  refine wpAny_Call_Name_kw (ld_glob I hg hm ?_ hdb)
  refine PySem.W.callWith_KW (h₀ := X.base) I.ok.mod.kin hk hall (thn (ha.run pos pins s σ H _ I h) fun us s1 ⟨vs, H1, I1, r, q⟩ => ?_) hpl he
  refine thn (hkw.run pos pins s1 σ H1 _ I1 q) fun ws s2 ⟨zs, H2, I2, rz, hl1, hl2, q2⟩ => ⟨I2.kIn, ?_⟩
  rw [hks]
  show wpAny _ _ (call (.ref f) us (ks.zip ws)) _ _ s2
  refine wpAny_call (codeAny_mono (F.run X.A X.stack s2 H2 ⟨us, ks.zip ws⟩ (pick ix (us ++ ws)) (pick ix (vs ++ zs)) Q (E σ) hr I2.env0 (hb s2 us ws I2.kIn (by rw [← r.length]; exact hl1) (by rw [← rz.length]; exact hl2)) (pick_vals (Vals.app r rz)) q2) fun r s' hq => ?_)
  cases r with
  | error e => exact hx σ pins H2 s2 e s' I2 hq
  | ok fl =>
    cases fl with
    | ret u => exact I2.after hq
    | next => exact hq.elim
    | brk => exact hq.elim
    | cont => exact hq.elim
end
end L2
namespace Z
open PySem PySem.Spec L2
open Py (toD)
/-- how a def binds na values by place and the keywords ks -/
structure KmB (u : Wd) (x : Str) (ps : List Str) (na : Nat) (ks : List Str) (ix : List Nat) : Prop where
  ok : ∃ (f : Addr) (fd : FuncData) (oc : Value) (od : Option Addr) (osl : Array (Option Value)), u.mg x = some (.ref f) ∧ u.K.lookup f = some ⟨oc, od, .func fd, osl⟩ ∧
    ∀ (s : Shared) (us ws : List Value), u.K.In s.heap → us.length = na → ws.length = ks.length → BindsTo s fd ⟨us, ks.zip ws⟩ (ps.zip (pick ix (us ++ ws)))
theorem kmb_of {u : Wd} {x qual : Str} {st : Stmt} {f : Addr} {fd : FuncData} {ps ks : List Str} {ix : List Nat} {na : Nat} (hF : Fun u.K x qual st f fd) (hm : u.mg x = some (.ref f))
    (h : ∀ (kV doc pm : Value) (an : Option Addr) (cdv ct : Value) (us ws : List Value), us.length = na → ws.length = ks.length → bindArgs (PySem.W.fnOf x qual (defArgs st) (defBody st) (defScope st) .none kV doc pm an cdv ct) ⟨us, ks.zip ws⟩ = pure (ps.zip (pick ix (us ++ ws)))) : KmB u x ps na ks ix := by
  obtain ⟨oc, od, kV, doc, pm, an, cdv, ct, osl, rfl, lk, _⟩ := hF.ex
  exact ⟨f, _, oc, od, osl, hm, lk, fun s us ws _ h1 h2 => .of_eq (h kV doc pm an cdv ct us ws h1 h2)⟩
section
variable {α β γ δ τ ρ μ : Type} [Py α] [Py β] [Py γ] [Py δ] [Py ρ]
variable {X : Cx} {P : Par} {Wx : WX} {Γ : List Sl} {N : List Str} {sc : Scope} {k : Nat} {a b c e tg iter elt : Expr} {pos : Pos} {es : List Expr} {kws : List Keyword}
theorem DenA.app {G : Hp} : ∀ {l m : List (Option D)} {vs ws : List V}, DenA P G l vs → DenA P G m ws → DenA P G (l ++ m) (vs ++ ws)
  | [], m, vs, ws, h, t => by
    have h : vs = [] := h
    rw [h]
    exact t
  | some d :: l, m, vs, ws, ⟨v, r, e, a, b⟩, t => ⟨v, r ++ ws, by rw [e]; rfl, a, DenA.app b t⟩
  | none :: l, m, vs, ws, ⟨r, e, hb, b⟩, t => ⟨r ++ ws, by rw [e]; rfl, hb, DenA.app b t⟩
/-- f(e, .., x=e, ..) -/
theorem ex_callM {τ1 τ2 : Type} {k' : Nat} {x : Str} {ps ks : List Str} {ix : List Nat} {na : Nat} {bd : Bool} {ty : τ → List (Option D)} {t1 : τ1 → List (Option D)} {t2 : τ2 → List (Option D)} {F : τ → W ρ} {n1 : W τ1} {n2 : W τ2} {p : Pos} (perm : τ1 × τ2 → τ) (cc : Cok X P Wx N sc k) (fn : Fn P.u k' x ps bd ty F) (kb : KmB P.u x ps na ks ix) (hk : k' ≤ k)
    (hb : bd = true → P.b = true) (ha : EAo X P Wx Γ (e :: es) t1 n1) (hkw : EK X P Wx Γ kws t2 n2) (hp : ∀ z, pick ix (t1 z.1 ++ t2 z.2) = ty (perm z) := by intro _; rfl) (hl1 : ∀ z, (t1 z).length = na := by intro _; rfl) (hl2 : ∀ z, (t2 z).length = ks.length := by intro _; rfl)
    (hty : ∀ y, none ∈ ty y → bd = true := by intro _; simp) (hg : GlS sc x := by rfl) (hdb : (x == ("__debug__" : Str)) = false := by decide)
    (hall : (backToKw pos (keywordEach kws X.env)).all (·.1.isSome) = true := by rfl) (hks : (backToKw pos (keywordEach kws X.env)).filterMap (·.1) = ks := by rfl)
    (he : starEach (e :: es) X.env = (false, eval e X.env) :: starEach es X.env := by rfl)
    (hpl : ((backTo pos (starEach (e :: es) X.env)).any (·.1) || (backToKw pos (keywordEach kws X.env)).any (·.1.isNone)) = false := by rfl) : EX X P Wx Γ (.Call (.Name x p) (e :: es) kws pos) ((W.b2 n1 n2 fun x y => W.pure (x, y)).bind fun z => F (perm z)) := by
  obtain ⟨f, fd, hm, hkp, hbi, fo, oc, od, osl, lk⟩ := fn.ok
  obtain ⟨f2, fd2, oc2, od2, osl2, hm2, lk2, kb⟩ := kb.ok
  rw [hm] at hm2
  cases hm2
  rw [lk] at lk2
  cases lk2
  have fo' : FnOk X.prog X.w X.K X.mg X.base (L2.CX X.prog X.w) k' f fd ps (spOf P.u bd ty F) := by
    rw [cc.hprog, cc.hw, cc.hK, cc.hmg, cc.hbase]
    exact fo
  refine PE.imp (pe_callM (ix := ix) fo' (cc.room.mono hk) (gl cc hg) (by rw [cc.hmg]; exact hm) (by rw [cc.hK]; exact hkp) (by rw [cc.hK]; exact kb) (fun σ => passAt cc.tk σ) ha hkw hall hks hdb he hpl) fun σ H Q' h => ?_
  have key := call_read (P := P) (Wx := Wx) (Γ := Γ) (bd := bd) (ty := ty) (F := F) (n := (W.b2 n1 n2 fun x y => W.pure (x, y)).bind fun z => W.pure (perm z)) (ta := fun σ H K => rdAo P Wx Γ t1 n1 σ H fun vs H1 => rdAo P Wx Γ t2 n2 σ H1 fun zs H2 => vs.length = na ∧ zs.length = ks.length ∧ K (pick ix (vs ++ zs)) H2) hb hty (fun σ H K h => ?_) h
  · exact key
  · obtain ⟨G, Q, E, R, w, kk, kx⟩ := h
    refine ⟨G, _, E, R, w, fun vs H1 G1 y g1 d1 w1 => ⟨G1, _, E, R.grow g1, w1, fun zs H2 G2 z g2 d2 w2 => ⟨by rw [DenA.length _ _ d1, hl1], by rw [DenA.length _ _ d2, hl2], kk (pick ix (vs ++ zs)) H2 G2 (perm (y, z)) (g1.trans g2 (DealAt.there (R.grow g1).dk)) ?_ w2⟩, kx⟩, kx⟩
    rw [← hp]
    exact denA_pick (DenA.app (DenA.mono g2.g _ _ d1) d2)
end
end Z

set_option autoImplicit false
set_option Elab.async false
set_option linter.all false
set_option maxRecDepth 100000
set_option maxHeartbeats 3000001
/-! a lambda without parameters is made: what becomes of the tables, exactly -/
namespace Z
open PySem PySem.Spec PyProof.Rows L2 LamX
/-- behind the making: only the table at b0 has changed, no further table is there -/
structure Made (J J' : Hp) (b0 : Addr) (qn : Str) : Prop where
  keep : ∀ b o, J b = some o → b ≠ b0 → J' b = some o
  tab : TabS J' b0 qn
  none : ∀ b ps, J' b = some (.tbl ps) → ∃ ps', J b = some (.tbl ps')
section
variable {X : Cx} {pl : List (Addr × Obj)} {τ : L2.St} {J : Hp} {t : Shared}
theorem make_lam {b0 c0 : Addr} {ar : Arguments} {bd : Expr} {sc : Scope} {pz : Pos} {K1 K2 : Value → Shared → Prop} (IJ : Inv X pl τ J t) (TB0 : TabB X.base X.mg c0 b0) (hco : X.env.code = .ref c0) (tb0 : TabS J b0 (X.env.qual ++ "<lambda>")) (hdf : defaultsOf ar X.env = ([], []))
    (hfr : ∀ y ∈ sc.names, y.2 = .free → ∃ c, X.env.cells.lookup y.1 = some c)
    (kk : ∀ (fz cz : Addr) (mo tv : Value) (J' : Hp) (t' : Shared), Inv X pl τ J' t' → Made J J' b0 (X.env.qual ++ "<lambda>") →
      t'.heap.get? fz = some (PySem.W.kla_obj "<lambda>" (X.env.qual ++ "<lambda>") ar bd sc (cloFrom X.env.cells sc.names []) mo cz tv) → J' fz = none → fz ∉ frs X.stack → J' cz = some (CodeO cz (X.env.qual ++ "<lambda>")) → K1 (.ref fz) t') :
    wpAny (model X.prog X.w) X.A (eval (.Lambda ar bd sc pz) X.env) K1 K2 t := by
  obtain ⟨us, atP, tri, all⟩ := tb0
  have bins := TB0.bm.keeps IJ.bk
  have objP : t.heap.get? b0 = some { cls := .none, data := .fields us } := IJ.hok b0 _ atP
  have newFr : ∀ fz, t.heap.objs.size ≤ fz → fz ∉ frs X.stack := fun fz ge m => by
    rcases List.mem_cons.mp (IJ.stkSub _ m) with e | e
    · have lt := IJ.lt
      rw [← e] at lt
      exact Nat.lt_irrefl _ (Nat.lt_of_lt_of_le lt ge)
    · exact IJ.nofs ge e
  refine PySem.W.kla_eval hdf ?_
  cases e0 : codeAmong pz us.toList with
  | some cv =>
    obtain ⟨cz, ecv, isC⟩ := all pz cv e0
    subst ecv
    refine PySem.W.kla_makeFunctionHit (mg := X.mg) (c := c0) (P := b0) (ps := us) (closure_ok hfr) IJ.ok.glob (IJ.mod.glob.keeps IJ.bk) hco (TB0.code.keeps IJ.bk) objP tri e0 bins fun tv h2 tk2 up ge => ?_
    refine kk h2.objs.size cz ((X.mg "__name__").getD .none) tv J _ (IJ.kept fun b o e => Heap.get?_push_of_some _ (up b o e)) ⟨fun b o e _ => e, ⟨us, atP, tri, all⟩, fun b ps e => ⟨ps, e⟩⟩ (Heap.get?_push_size _ rfl) (IJ.hok.fresh ge) (newFr _ ge) isC
  | none =>
    refine PySem.W.kla_makeFunction (mg := X.mg) (c := c0) (P := b0) (ps := us) (closure_ok hfr) IJ.ok.glob (IJ.mod.glob.keeps IJ.bk) hco (TB0.code.keeps IJ.bk) objP tri e0 TB0.gP bins fun cz tv h2 tk2 but ge lt rec tab2 => ?_
    obtain ⟨cq, oc, ws, tq, eq, hoc, hdat, hnm⟩ := rec
    cases eq
    have big : t.heap.objs.size ≤ h2.objs.size := Nat.le_trans ge (Nat.le_of_lt lt)
    have freshC : J cz = none := IJ.hok.fresh ge
    have neC : ∀ {b : Addr} {o : HO}, J b = some o → b ≠ cz := fun e => ne_of_none e freshC
    let J2 := upd (upd J b0 (.tbl (us ++ #[rawInt pz.line, rawInt pz.col, .ref cz]))) cz (CodeO cz (X.env.qual ++ "<lambda>"))
    have I2 : Inv X pl τ J2 { t with heap := h2.push (PySem.W.kla_obj "<lambda>" (X.env.qual ++ "<lambda>") ar bd sc (cloFrom X.env.cells sc.names []) ((X.mg "__name__").getD .none) cz tv), toks := tk2 } :=
      inv_table (t' := tk2) (more := #[rawInt pz.line, rawInt pz.col, .ref cz]) IJ atP (fun b o ne e => Heap.get?_push_of_some _ (but b o ne e)) (Heap.get?_push_of_some _ tab2) ge ⟨oc, ws, tq, Heap.get?_push_of_some _ hoc, hdat, hnm⟩
    have keep : ∀ b o, J b = some o → b ≠ b0 → J2 b = some o := fun b o e ne => (upd_ne (neC e)).trans ((upd_ne ne).trans e)
    have atC : J2 cz = some (CodeO cz (X.env.qual ++ "<lambda>")) := upd_same
    refine kk h2.objs.size cz ((X.mg "__name__").getD .none) tv J2 _ I2 ⟨keep, ⟨_, (upd_ne (neC atP)).trans upd_same, ?_, fun p' cv hcv => ?_⟩, fun b ps e => ?_⟩ (Heap.get?_push_size _ rfl) ?_ (newFr _ big) atC
    · rw [Array.toList_append]
      exact PySem.TriplesOk_snoc _ _ _ _ tri
    · rw [Array.toList_append] at hcv
      rcases among_app _ tri hcv with z | z
      · obtain ⟨c1, e1, e2⟩ := all p' cv z
        refine ⟨c1, e1, ?_⟩
        by_cases q : c1 = b0
        · rw [q, atP] at e2
          exact absurd (Option.some.inj e2).symm (codeO_ne us)
        · exact keep _ _ e2 q
      · exact ⟨cz, z, atC⟩
    · by_cases q : b = cz
      · rw [q, atC] at e
        exact absurd (Option.some.inj e) (codeO_ne ps)
      · have e : upd J b0 (.tbl (us ++ #[rawInt pz.line, rawInt pz.col, .ref cz])) b = some (.tbl ps) := (upd_ne q).symm.trans e
        by_cases q2 : b = b0
        · exact ⟨us, q2 ▸ atP⟩
        · exact ⟨ps, (upd_ne q2).symm.trans e⟩
    · show upd (upd J b0 _) cz _ h2.objs.size = none
      rw [upd_ne (Nat.ne_of_gt lt), upd_ne (Nat.ne_of_gt (Nat.lt_of_lt_of_le (Heap.lt_size objP) big))]
      exact IJ.hok.fresh big
/-- what the lambda's making hands on -/
def tMade (b0 : Addr) (qn : Str) (TT : (XK → Hp → VK → Prop) → Hp → VK → Prop) (ta : XK → TE) : TE := fun τ J Q => TabS J b0 qn ∧ ∀ J1, Made J J1 b0 qn → TT (fun E J' Q' => ta E τ J' Q') J1 Q
theorem pe_lamM {TT : (XK → Hp → VK → Prop) → Hp → VK → Prop} {x a : Str} {g c0 b0 : Addr} {k : Nat} {pg : Arguments} {bg : List Stmt} {sg : Scope} {dv kv dc pm cdv ct oc : Value} {an od : Option Addr} {ol : Array (Option Value)} {Ng : List Str} {ar : Arguments} {bd : Expr} {sc : Scope} {ta : XK → TE} {p lp pz : Pos}
    (hg : Gl X x) (hm : X.mg x = some (.ref g)) (hk : PySem.W.keepIn X.K (.ref g) = true) (lk : X.K.lookup g = some ⟨oc, od, .func (PySem.W.fnOf x x pg bg sg dv kv dc pm an cdv ct), ol⟩) (hcg : PySem.W.codeIn X.K cdv x = true) (hb : L2.Binds X.K (PySem.W.fnOf x x pg bg sg dv kv dc pm an cdv ct) [a] [])
    (Sg : FnScope Ng [a] sg) (hNg : Ng[0]? = some a) (hva : Vis sg a) (hG : GivesTo X Ng x sg g cdv bg a (X.env.qual ++ "<lambda>") TT) (TB0 : TabB X.base X.mg c0 b0) (hco : X.env.code = .ref c0) (hr : Room (k + 2) X.A) (Ls : LamS X.env.scope sc) (hdf : defaultsOf ar X.env = ([], []))
    (hbi : ∀ (q : Str) (cl : List (Str × Addr)) (pm cv tv : Value), bindArgs (PySem.W.kla_fn "<lambda>" q ar bd sc cl pm cv tv) ⟨[], []⟩ = pure [])
    (hbody : ∀ (A : Around) (outer : List Env) (s : Shared) (J : Hp) (E : XK) (fz cz : Addr), Room k (A.deeper (lamEnv X sc s.heap.objs.size fz cz)) → PE (lamCx X A outer s J E sc fz cz) bd (ta E))
    (hdb : (x == ("__debug__" : Str)) = false := by decide) (hd : (a == ("__debug__" : Str)) = false := by decide) (hcd : (a == ("__classdict__" : Str)) = false := by decide) :
    PE X (.Call (.Name x p) [.Lambda ar bd sc lp] [] pz) (tMade b0 (X.env.qual ++ "<lambda>") TT ta) := by
  refine ⟨fun pl t τ J Q IJ hh => ?_⟩
  obtain ⟨tb0, go⟩ := hh
  refine wpAny_Call_Name_kw (ld_glob IJ hg hm ?_ hdb)
  refine PySem.W.callWith_K (h₀ := X.base) IJ.ok.mod.kin hk ?_ (by rfl) (by rfl)
  show wpAny _ _ (spliced ((false, eval (.Lambda ar bd sc lp) X.env) :: backTo pz (starEach [] X.env))) _ _ t
  refine Calls.spliced_cons (make_lam IJ TB0 hco tb0 hdf (Ls.has IJ.ok) fun fz cz mo tv J1 t1 I1 md atF nF frF isC => ?_)
  refine Calls.spliced_nil ⟨I1.kIn, ?_⟩
  have runs : codeAny (model X.prog X.w) X.A (.call (.ref g) ⟨[.ref fz], []⟩) (CR C8.CX0 X.stack X.prog X.w J1 t1 Q C8.E0) t1 :=
    run_ofS (N := Ng) (ps := [a]) (us := [.ref fz]) (vs := [.ref fz]) lk hcg Sg hr I1.env0 (hb t1 [.ref fz] I1.kIn rfl) (.cons rfl .nil) rfl fun room => by
      obtain ⟨tt, h1, h2⟩ := hG fz cz t1 J1 Q (fun E J' Q' => ta E τ J' Q') (fun W pn xe E q1 q2 tk hW => pe_act (i := 0) I1 Ls atF nF frF (hbi _ _ _ _ _) tk hW room (fun A outer s J' room2 => hbody A outer s J' E fz cz room2) hNg hva hd hcd) isC (go J1 md)
      exact ⟨tt, h1.nox, h2⟩
  refine wpAny_call (codeAny_mono runs fun r t2 hq => ?_)
  cases r with
  | error e => exact (show False from hq).elim
  | ok fl =>
    cases fl with
    | ret u => exact I1.after hq
    | next => exact hq.elim
    | brk => exact hq.elim
    | cont => exact hq.elim
end
end Z

set_option autoImplicit false
set_option Elab.async false
set_option linter.all false
set_option maxRecDepth 100000
set_option maxHeartbeats 3000001
/-! a def that is handed a lambda and calls it within a try: its reading, the call's reading -/
namespace Z
open PySem PySem.Spec L2
open Py (toD)
def unown : Sl → Sl
  | .ownK _ _ => .un
  | s => s
theorem slOk_unown {P P1 : Par} {G H H1 : Hp} (hb : P1.b = P.b) (hda : P1.da = P.da) : ∀ (s : Sl) (o : Option V), SlOk P G H s o → SlOk P1 G H1 (unown s) o
  | .un, _, _ => trivial
  | .dat _, _, h => h
  | .ownK _ _, _, _ => trivial
  | .deal, o, ⟨h, e⟩ => ⟨hb.trans h, by rw [hda]; exact e⟩
  | .vl _, _, h => h
/-- what is asked of the lambda's reading, and what is promised -/
def TTz (u : Wd) (F : W D → W D) : (XK → Hp → VK → Prop) → Hp → VK → Prop := fun tl H Q => ∃ (P1 : Par) (m : W D) (Qr : D → Prop), P1.u = u ∧ P1.H0 = H ∧ RelB P1 P1.G0 H ∧ (F m).wp Qr (fun _ => False) ∧
  (∀ (E1 : XK) (G H' : Hp) (Q' : VK) (Qm : D → Prop) (Em : Ex → Prop), RelB P1 G H' → m.wp Qm Em → (∀ v H2 G2 d, Grow P1 G H' G2 H2 → Den G2 d v → Qm d → Q' v H2) → XC P1 (fun cls d _ H2 => E1 cls d H2) Em → tl E1 H' Q') ∧
  (∀ v H' G' d, RelB P1 G' H' → Den G' d v → Qr d → Q v H')
/-- the def that is handed a lambda: its body by what the lambda is -/
structure AskOk (u : Wd) (k : Nat) (x a : Str) (F : W D → W D) : Prop where
  ok : ∃ (g : Addr) (oc : Value) (od : Option Addr) (pg : Arguments) (bg : List Stmt) (sg : Scope) (dV kV doc pm cdv ct : Value) (an : Option Addr) (osl : Array (Option Value)) (Ng : List Str) (n : Nat),
    u.mg x = some (.ref g) ∧ PySem.W.keepIn u.K (.ref g) = true ∧ u.K.lookup g = some ⟨oc, od, .func (PySem.W.fnOf x x pg bg sg dV kV doc pm an cdv ct), osl⟩ ∧ PySem.W.codeIn u.K cdv x = true ∧
    L2.Binds u.K (PySem.W.fnOf x x pg bg sg dV kV doc pm an cdv ct) [a] [] ∧ FnScope Ng [a] sg ∧ Ng[0]? = some a ∧ Ng.length = n + 1 ∧ Vis sg a ∧
    ∀ (X : Cx) (P : Par) (Wx : WX) (f : Addr) (m : W D), P.u = u → Dok X P Wx Ng sg k →
      (∀ (W' : WX) (pn : List (Addr × Obj)) (xe : Value → Shared → Prop), Dok (X.tr pn xe) P W' Ng sg k → ∀ (Γ : List Sl) (p1 p2 : Pos), Γ[0]? = some (.vl (.ref f)) → EX (X.tr pn xe) P W' Γ (.Call (.Name a p1) [] [] p2) m) →
      TB X P Wx (.vl (.ref f) :: List.replicate n .un) bg (F m)
section
variable {α β γ δ τ ρ μ : Type} [Py α] [Py β] [Py γ] [Py δ] [Py ρ]
variable {X : Cx} {P : Par} {Wx : WX} {Γ : List Sl} {N : List Str} {sc : Scope} {k : Nat} {a b c e : Expr} {pos pos2 : Pos} {es : List Expr} {st : Stmt} {sts rest : List Stmt}
theorem codeO_lst {c : Addr} {q : Str} (xs : List V) : LamX.CodeO c q ≠ .lst xs := fun z => by
  unfold LamX.CodeO at z
  cases z
theorem ask_gives {u : Wd} {F : W D → W D} {k k0 : Nat} {Ng : List Str} {n : Nat} {x a q : Str} {sg : Scope} {g : Addr} {cdg : Value} {bg : List Stmt} (cc : Cok X P Wx N sc k0) (hu : P.u = u) (S : FnScope Ng [a] sg) (hn : Ng.length = n + 1)
    (hroom : ∀ s H, Room k (cxOf C8.CX0 X.prog X.w X.K X.mg X.base Ng x sg g cdg X.A X.stack s H C8.E0).A)
    (hbody : ∀ (X : Cx) (P : Par) (Wx : WX) (f : Addr) (m : W D), P.u = u → Dok X P Wx Ng sg k →
      (∀ (W' : WX) (pn : List (Addr × Obj)) (xe : Value → Shared → Prop), Dok (X.tr pn xe) P W' Ng sg k → ∀ (Γ : List Sl) (p1 p2 : Pos), Γ[0]? = some (.vl (.ref f)) → EX (X.tr pn xe) P W' Γ (.Call (.Name a p1) [] [] p2) m) →
      TB X P Wx (.vl (.ref f) :: List.replicate n .un) bg (F m)) :
    LamX.GivesTo X Ng x sg g cdg bg a q (TTz u F) := by
  intro f c' s H Q tl act hc h
  obtain ⟨P1, m, Qr, e1, e2, B, w, ask, ret⟩ := h
  subst hu
  have D0 : Dok (cxOf C8.CX0 X.prog X.w X.K X.mg X.base Ng x sg g cdg X.A X.stack s H C8.E0).nox P1 (fun _ _ _ _ => False) Ng sg k := by
    refine ⟨⟨rfl, rfl, ?_, ?_, ?_, ?_, ?_, ?_, rfl, S.nd, hroom s H, LamX.takes0⟩, fun _ => rfl, fun _ _ h => h.elim, rfl, rfl⟩
    · rw [e1]; exact cc.hprog
    · rw [e1]; exact cc.hw
    · rw [e1]; exact cc.hK
    · rw [e1]; exact cc.hmg
    · rw [e1]; exact cc.hbase
    · rw [e1]; exact cc.bl
  have notDl : ¬ P1.dl c' := fun z => by
    obtain ⟨hb, z | z | z⟩ := z
    · obtain ⟨⟨_, xs, n, h1, _⟩, _⟩ := B.dk hb
      rw [z, h1] at hc
      exact codeO_lst _ (Option.some.inj hc).symm
    · obtain ⟨⟨_, xs, n, _, h1, _⟩, _⟩ := B.dk hb
      rw [z, h1] at hc
      exact codeO_lst _ (Option.some.inj hc).symm
    · obtain ⟨p, hp, ep⟩ := List.mem_map.mp z
      obtain ⟨ps, h1, _⟩ := (B.dk hb).2 p hp
      rw [← ep, h1] at hc
      exact LamX.codeO_ne _ (Option.some.inj hc).symm
  refine ⟨_, hbody _ P1 _ f m e1 D0 (fun W' pn xe D' Γ' p1 p2 hΓ => ?_), P1.G0, Qr, fun _ => False, ?_, w, fun r v H2 G2 B2 d e => ret v H2 G2 r B2 d e, fun _ _ _ _ _ _ _ _ z => z.elim⟩
  · refine PE.imp (act W' pn xe (fun cls d H' => ∀ σ', W' cls d σ' H') p1 p2 D'.tk fun cls d σ' H' z => z σ') fun σ H2 Q2 h2 => ?_
    obtain ⟨G, Qm, Em, R, wm, kk, kx⟩ := h2
    obtain ⟨o, eo, rfl⟩ := R.slots 0 _ hΓ
    refine ⟨eo, R.fr c' _ (by rw [e2]; exact hc) notDl, ask _ G H2 Q2 Qm Em R.toRelB wm (fun v H3 G3 d g3 d3 q3 => kk v H3 G3 d g3 d3 q3) fun cls d σ' H3 G3 e3 B3 x3 q3 σ2 => kx cls d σ2 H3 G3 e3 B3 x3 q3⟩
  · refine ⟨B, ?_, fun i s e => ?_, fun i j p l m _ e1 => ?_⟩
    · unfold L2.start
      simp only [List.length_append, List.length_map, List.length_cons, List.length_nil, List.length_replicate]
      omega
    · match i, e with
      | 0, e => cases e; exact ⟨_, rfl, rfl⟩
      | i + 1, e =>
        have e : (List.replicate n Sl.un)[i]? = some s := e
        rw [List.getElem?_replicate] at e
        split at e
        · cases e
          rename_i hi
          refine ⟨none, ?_, trivial⟩
          show (List.replicate (Ng.length - 1) none)[i]? = _
          rw [List.getElem?_replicate, if_pos]
          omega
        · cases e
    · match i, e1 with
      | 0, e => cases e
      | i + 1, e =>
        have e : (List.replicate n Sl.un)[i]? = some (.ownK _ l) := e
        rw [List.getElem?_replicate] at e
        split at e <;> cases e
/-- where the tables of the code objects lie, in the def that makes the lambda -/
structure TabAt (X : Cx) (P : Par) : Prop where
  at_ : ∃ c0 b0, LamX.TabB X.base X.mg c0 b0 ∧ X.env.code = .ref c0 ∧ P.tb = [(b0, X.env.qual ++ "<lambda>")]
  h0 : ∀ b ps, P.H0 b = some (.tbl ps) → b ∈ P.tb.map (·.1)
  b : P.b = true
/-- ask(lambda: body) -/
theorem ex_ask {m : W α} {F : W D → W D} {k' : Nat} {x a : Str} {ar : Arguments} {bd : Expr} {lsc : Scope} {lp p : Pos} (cc : Cok X P Wx N sc k) (ta : TabAt X P) (ak : AskOk P.u k' x a F) (hk : k' + 2 ≤ k) 
    (hbody : ∀ (X' : Cx) (da dq : Addr) (H0 G0 : Hp) (tb : List (Addr × Str)) (W' : WX), Cok X' ⟨P.u, true, da, dq, H0, G0, tb⟩ W' N lsc k' → EX X' ⟨P.u, true, da, dq, H0, G0, tb⟩ W' (Γ.map unown) bd m)
    (hg : GlS sc x := by rfl) (Ls : LamX.lamSB sc lsc = true := by decide +kernel) (hdf : defaultsOf ar X.env = ([], []) := by rfl)
    (hbi : ∀ (q : Str) (cl : List (Str × Addr)) (pm cv tv : Value), bindArgs (PySem.W.kla_fn "<lambda>" q ar bd lsc cl pm cv tv) ⟨[], []⟩ = pure [] := by intro _ _ _ _ _; rfl)
    (hdb : (x == ("__debug__" : Str)) = false := by decide) (hd : (a == ("__debug__" : Str)) = false := by decide) (hcd : (a == ("__classdict__" : Str)) = false := by decide) :
    EX X P Wx Γ (.Call (.Name x p) [.Lambda ar bd lsc lp] [] pos) (nx (F (W.b1 m fun x => W.pure (toD x)))) := by
  obtain ⟨g, oc, od, pg, bg, sg, dV, kV, doc, pm, cdv, ct, an, osl, Ng, n, hm, hkp, lk, hcg, hbn, Sg, hNg, hln, hva, hB⟩ := ak.ok
  obtain ⟨c0, b0, TB0, hco, htb⟩ := ta.at_
  have hb := ta.b
  have room : Room (k' + 2) X.A := cc.room.mono hk
  have LS : LamX.LamS X.env.scope lsc := by rw [cc.hsc]; exact LamX.lamS_by Ls
  refine PE.imp (pe_lamM (TT := TTz P.u F) (ta := fun E => fun σ H' Q' => ∃ (da dq : Addr) (H0 G0 : Hp) (tb : List (Addr × Str)), rdE ⟨P.u, true, da, dq, H0, G0, tb⟩ (fun cls d _ H2 => E cls d H2) (Γ.map unown) m σ H' Q') (k := k')
    (gl cc hg) (by rw [cc.hmg]; exact hm) (by rw [cc.hK]; exact hkp) (by rw [cc.hK]; exact lk) (by rw [cc.hK]; exact hcg) (by rw [cc.hK]; exact hbn) Sg hNg hva
    (ask_gives cc rfl Sg hln (fun s H => (room.deeper _).mono (Nat.le_succ _)) hB) TB0 hco room LS hdf hbi (fun A outer s H E fz cz hr => ?_) hdb hd hcd) fun σ H Q' h => ?_
  · refine ⟨fun pins s' σ H' Q' I ⟨da, dq, H0, G0, tb, q⟩ => ?_⟩
    have C1 : Cok (LamX.lamCx X A outer s H E lsc fz cz) ⟨P.u, true, da, dq, H0, G0, tb⟩ (fun cls d _ H2 => E cls d H2) N lsc k' :=
      ⟨cc.hN, rfl, cc.hprog, cc.hw, cc.hK, cc.hmg, cc.hbase, cc.bl, rfl, cc.nd, hr, takes_of rfl rfl rfl rfl⟩
    exact (hbody _ da dq H0 G0 tb _ C1).run pins s' σ H' Q' I q
  · obtain ⟨G, Q, E, R, w, kk, kx⟩ := h
    have dk := R.dk hb
    have t0 : LamX.TabS H b0 (X.env.qual ++ "<lambda>") := dk.2 (b0, X.env.qual ++ "<lambda>") (by rw [htb]; exact List.mem_cons_self ..)
    have dl0 : P.dl b0 := ⟨hb, .inr (.inr (by rw [htb]; exact List.mem_cons_self ..))⟩
    have isDl : ∀ b ps, H b = some (.tbl ps) → b = b0 := fun b ps z => by
      obtain ⟨qs, z'⟩ := R.nt b ps z
      have := ta.h0 b qs z'
      rw [htb] at this
      simpa using this
    refine ⟨t0, fun J1 md => ?_⟩
    let P1 : Par := ⟨P.u, true, P.da, P.dq, J1, G, P.tb⟩
    have gne : ∀ b o, G b = some o → b ≠ b0 := fun b o z q => by
      rw [q, R.gd b0 dl0] at z
      cases z
    have dk1 : DkAt P1 J1 := by
      obtain ⟨⟨ne, xs, n, h1, h2, h3⟩, _⟩ := dk
      obtain ⟨us, at0, _⟩ := t0
      refine ⟨⟨ne, xs, n, md.keep _ _ h1 fun q => ?_, md.keep _ _ h2 fun q => ?_, h3⟩, fun r hr => ?_⟩
      · rw [q, at0] at h1
        cases h1
      · rw [q, at0] at h2
        cases h2
      · have hr : r ∈ P.tb := hr
        rw [htb, List.mem_singleton] at hr
        rw [hr]
        exact md.tab
    have B1 : RelB P1 G J1 := ⟨fun b o z => md.keep b o (R.sub b o z) (gne b o z), fun b o z _ => z, fun b o z => z, fun b o _ z => z, fun _ => dk1, fun b z => R.gd b ⟨hb, z.2⟩, fun b ps z => ⟨ps, z⟩⟩
    have back : ∀ {G2 H2 : Hp}, RelB P1 G2 H2 → Grow P1 G J1 G2 H2 := fun B => ⟨B.gr, B.sub, B.fr, B.ng, B.dk, B.nt⟩
    have back0 : ∀ {G2 H2 : Hp}, RelB P1 G2 H2 → Grow P G H G2 H2 := fun B => ⟨B.gr, B.sub, fun b o z d => B.fr b o (md.keep b o z fun q => d (q ▸ dl0)) fun z => d ⟨hb, z.2⟩, fun b o z n => by
      by_cases q : b = b0
      · rw [q]
        exact B.gd b0 ⟨rfl, dl0.2⟩
      · exact B.ng b o (md.keep b o z q) n, fun _ => B.dk rfl, fun b ps z => by
      obtain ⟨qs, z'⟩ := B.nt b ps z
      exact md.none b qs z'⟩
    refine ⟨P1, _, Q, rfl, rfl, B1, w, fun E1 G2 H2 Q2 Qm Em B2 wm kk2 kx2 => ?_, fun v H2 G2 d B2 dd q => kk v H2 G2 d (back0 B2) dd q⟩
    refine ⟨P.da, P.dq, J1, G, P.tb, G2, _, Em, ?_, wm, fun v H3 G3 x g3 d3 q3 => kk2 v H3 G3 (toD x) g3 d3 q3, kx2⟩
    have R1 : Rel P1 (Γ.map unown) σ G J1 := by
      refine ⟨B1, by rw [List.length_map]; exact R.len, fun i s e => ?_, fun i j p l m ne e1 => ?_⟩
      · rw [List.getElem?_map] at e
        cases hs : Γ[i]? with
        | none => rw [hs] at e; cases e
        | some s0 =>
          rw [hs] at e
          obtain ⟨o, eo, so⟩ := R.slots i s0 hs
          cases e
          exact ⟨o, eo, slOk_unown (P := P) (P1 := P1) (H := H) (H1 := J1) hb.symm rfl s0 o so⟩
      · rw [List.getElem?_map] at e1
        cases hs : Γ[i]? with
        | none => rw [hs] at e1; cases e1
        | some s0 =>
          rw [hs] at e1
          cases s0 <;> cases e1
    exact R1.grow (back B2)
end
end Z

set_option autoImplicit false
set_option Elab.async false
set_option linter.all false
set_option maxRecDepth 100000
set_option maxHeartbeats 3000001
/-! a law's own def that makes lambdas, called by the judge's caller -/
namespace L2
open PySem PySem.Spec PyProof.Rows
/-- the judge's call of a law whose def makes lambdas: its code object at c0, the table at b0 -/
theorem law_callT {P : Program} {w : World} {F : PySem.W.Frag} {mg mb : Str → Option Value} {CX : CXT} {fa a c0 b0 : Addr} {fd : FuncData} {x : Str} {sp : Sp} {t₁ : Shared} {ws : List Value} {ns : List Int}
    (hK : F.In t₁.heap) (hns : t₁.heap.Ns mainGlobals mg) (hbl : t₁.heap.Ns builtinsNs mb) (hbb : ∀ y : Str, y ≠ "__name__" → mb y = bootBuiltins y) (hlim : t₁.heap.NoLimit) (hgen : t₁.gens = #[])
    (hT : t₁.heap.get? b0 = some { cls := .none, data := .fields #[] }) (nT : F.lookup b0 = none) (hC : PySem.W.CodeHd t₁.heap c0 b0)
    (hbm : ∃ (bm : Addr) (ob : Obj), mg "__builtins__" = some (.ref bm) ∧ bm ≠ builtinsNs ∧ t₁.heap.get? bm = some ob ∧ ob.cls = .type "module" ∧ ob.dict = some builtinsNs ∧ ob.data = .plain)
    (ha : t₁.heap.get? a = some { cls := .type "list", data := .seq ws.toArray }) (hi : IntsAre ws ns) (hl : ns.length ≤ sizeLine) (hfd : ∃ oc od osl, F.lookup fa = some ⟨oc, od, .func fd, osl⟩)
    (run : ∀ ba : Heap, F.In ba → ba.Ns mainGlobals mg → LamX.TabB ba mg c0 b0 → RunAt callerA P w F mg ba CX fa [x] sp) (hbind : ∀ (t : Shared) (u : Value), BindsTo t fd ⟨[u], []⟩ [(x, u)])
    (hsp : ∀ J : Hp, J b0 = some (.tbl #[]) → (∀ b ps, J b = some (.tbl ps) → b = b0) → SqL F J a (ns.map V.int) → sp [.ref a] J (fun v _ => v = .bl true) fun _ _ _ => False)
    (hCX : ∀ J e t', CX [] J t₁ (fun _ _ _ => False) e t' → False) :
    codeAny (model P w) callerA (.call (.ref fa) ⟨[.ref a], []⟩) (fun r t' => r = .ok (.ret (.bool true)) ∧ OldK t₁.heap t'.heap ∧ t'.os = t₁.os ∧ AllBare t'.gens) t₁ := by
  have vals := vals_ints hi
  have lw := hi.length
  have nab : a ≠ b0 := fun z => by
    rw [z, hT] at ha
    have zz : Data.fields #[] = Data.seq ws.toArray _ := congrArg Obj.data (Option.some.inj ha)
    cases zz
  have main : ∀ J : Hp, J b0 = some (.tbl #[]) → (∀ b ps, J b = some (.tbl ps) → b = b0) → (∀ b, J b = none ∨ b = b0 ∨ ∃ ob xs, J b = some (.frz ob (.lst xs))) → SqL F J a (ns.map V.int) → HOk P w J t₁.heap → (∀ b, J b ≠ none → b = a ∨ b = b0) → (J a ≠ none → F.lookup a = none) →
      codeAny (model P w) callerA (.call (.ref fa) ⟨[.ref a], []⟩) (fun r t' => r = .ok (.ret (.bool true)) ∧ OldK t₁.heap t'.heap ∧ t'.os = t₁.os ∧ AllBare t'.gens) t₁ := by
    intro J atT onlyT only sq hok justA notK
    have inBase : ∀ {b : Addr} {o : Obj}, t₁.heap.get? b = some o → J b = none → (hidT t₁.heap J).get? b = some o := fun e n => hidT_get e n
    have untracked : ∀ {b : Addr} {o : Obj}, t₁.heap.get? b = some o → (∀ vs n, o.data ≠ .seq vs n) → o.data ≠ .fields #[] → J b = none := fun {b o} e d1 d2 => by
      cases q : J b with
      | none => rfl
      | some u =>
        rcases justA b (by rw [q]; simp) with eb | eb
        · subst eb
          rw [ha] at e; cases e
          exact (d1 _ _ rfl).elim
        · subst eb
          rw [hT] at e; cases e
          exact (d2 rfl).elim
    have noDict : ∀ {b : Addr} {o : Obj} {es : Array DictEntry} {ep : Nat}, t₁.heap.get? b = some o → o.data = .dict es ep → J b = none := fun {b o es ep} e d => untracked e (fun vs n z => by rw [d] at z; cases z) fun z => by rw [d] at z; cases z
    have nsB : ∀ {b : Addr} {m : Str → Option Value}, t₁.heap.Ns b m → (hidT t₁.heap J).Ns b m := fun {b m} ⟨o, es, ep, e, d, r⟩ => ⟨o, es, ep, inBase e (noDict e d), d, r⟩
    have inB : F.In (hidT t₁.heap J) := fun b o e => inBase (hK b o e) (by
      cases q : J b with
      | none => rfl
      | some u =>
        rcases justA b (by rw [q]; simp) with eb | eb
        · subst eb
          rw [notK (by rw [q]; simp)] at e; cases e
        · subst eb
          rw [nT] at e; cases e)
    have tabB : LamX.TabB (hidT t₁.heap J) mg c0 b0 := by
      refine ⟨?_, ?_, fun z => ?_⟩
      · obtain ⟨o, us, file, tf, flags, tg, inF, text, tt, e1, r1, r2, r3, r⟩ := hC
        refine ⟨o, us, file, tf, flags, tg, inF, text, tt, inBase e1 (untracked e1 (fun vs n z => by rw [r2] at z; cases z) fun z => ?_), r1, r2, r3, r⟩
        rw [r2] at z
        cases z
        simp at r3
      · obtain ⟨bm, ob, g1, g2, g3, g4, g5, g6⟩ := hbm
        refine ⟨bm, ob, g1, g2, fun q => ?_, fun q => ?_, inBase g3 (untracked g3 (fun vs n z => by rw [g6] at z; cases z) fun z => by rw [g6] at z; cases z), g4, g5, g6⟩
        · obtain ⟨o, es, ep, e, d, _⟩ := hns
          rw [q, e] at g3
          cases g3
          rw [d] at g6
          cases g6
        · rw [q, hT] at g3
          cases g3
          cases g6
      · obtain ⟨o, es, ep, e, d, _⟩ := hns
        rw [z, hT] at e
        cases e
        cases d
    have md : Mod F mg (hidT t₁.heap J) := ⟨inB, nsB hns, ⟨mb, nsB hbl, hbb⟩, let ⟨mc, g1, g2⟩ := hlim; ⟨mc, nsB g1, g2⟩⟩
    have env0 : Env0 P w F mg (hidT t₁.heap J) callerA [] t₁ J := ⟨rfl, md, fun b o e => of_hidT e, Nat.le_of_eq (hidT_size _ _), trivial, fun b hb => absurd (show b ∈ ([] : List Addr) from hb) (by simp), hok, .of_eq hgen⟩
    refine codeAny_mono (run _ inB (nsB hns) tabB [] t₁ J ⟨[.ref a], []⟩ [.ref a] [.ref a] _ _ fd hfd env0 (hbind t₁ (.ref a)) (.cons rfl .nil) (hsp J atT onlyT sq)) fun r t' h => ?_
    cases r with
    | error e => exact (hCX J e t' h).elim
    | ok fl =>
      cases fl with
      | next => exact False.elim h
      | brk => exact False.elim h
      | cont => exact False.elim h
      | ret u =>
        obtain ⟨v, J', os', bare', un, hok', rl, q⟩ := h
        have qv : v = .bl true := q
        subst qv
        obtain rfl : u = Value.bool true := rl
        have kept : ∀ b o, b ≠ b0 → t₁.heap.get? b = some o → t'.heap.get? b = some o := fun b o nb e => by
          cases q : J b with
          | none => exact un.keep b o e q (by intro z; exact absurd (show b ∈ ([] : List Addr) from z) (by simp)) (by simp)
          | some u =>
            rcases only b with z | z | ⟨ob, xs, z⟩
            · rw [q] at z; cases z
            · exact absurd z nb
            · have fz := un.frzs b ob _ z
              obtain ⟨g1, _⟩ := hok b _ z
              obtain ⟨g2, _⟩ := hok' b _ fz
              rw [e] at g1; cases g1
              exact g2
        obtain ⟨more, gm⟩ := un.tbls b0 #[] atT
        have atB : t'.heap.get? b0 = some { cls := .none, data := .fields (#[] ++ more) } := hok' b0 _ gm
        refine ⟨rfl, ⟨fun b o e => ?_, fun b o e => ?_⟩, os', bare'⟩
        · by_cases nb : b = b0
          · subst nb
            rw [hT] at e
            cases e
            exact .inr (.inl ⟨(hC.tab hT).isCodeTable, rfl, #[], more, rfl, atB⟩)
          · exact .inl (kept b o nb e)
        · by_cases nb : b = b0
          · subst nb
            exact ⟨_, atB⟩
          · exact ⟨o, kept b o nb e⟩
  cases hk : F.lookup a with
  | some o =>
    have e := hK a o hk
    rw [ha] at e
    cases e
    refine main (fun b => if b = b0 then some (.tbl #[]) else none) (if_pos rfl) (fun b ps z => ?_) (fun b => ?_) (.inr ⟨_, ws.toArray, _, hk, rfl, rfl, rfl, by rw [List.size_toArray, lw]; exact hl, by simpa using vals⟩) (fun b u z => ?_) (fun b z => ?_) fun z => absurd (show (if a = b0 then some (HO.tbl #[]) else none) = none from if_neg nab) z
    · by_cases nb : b = b0
      · exact nb
      · exact nomatch (if_neg nb).symm.trans z
    · by_cases nb : b = b0
      · exact .inr (.inl nb)
      · exact .inl (if_neg nb)
    · by_cases nb : b = b0
      · have z2 := (if_pos nb).symm.trans z
        cases z2
        rw [nb]
        exact hT
      · exact nomatch (if_neg nb).symm.trans z
    · by_cases nb : b = b0
      · exact .inr nb
      · exact absurd (if_neg nb) z
  | none =>
    have nba : b0 ≠ a := fun z => nab z.symm
    refine main (fun b => if b = b0 then some (.tbl #[]) else if b = a then some (.frz { cls := .type "list", data := .seq ws.toArray } (.lst (ns.map V.int))) else none) (if_pos rfl) (fun b ps z => ?_) (fun b => ?_)
      (.inl (.inr ⟨{ cls := .type "list", data := .seq ws.toArray }, (if_neg nab).trans (if_pos rfl)⟩)) (fun b u z => ?_) (fun b z => ?_) fun _ => hk
    · by_cases nb : b = b0
      · exact nb
      · have z1 := (if_neg nb).symm.trans z
        by_cases eb : b = a
        · exact nomatch (if_pos eb).symm.trans z1
        · exact nomatch (if_neg eb).symm.trans z1
    · by_cases nb : b = b0
      · exact .inr (.inl nb)
      · by_cases eb : b = a
        · exact .inr (.inr ⟨_, _, (if_neg nb).trans (if_pos eb)⟩)
        · exact .inl ((if_neg nb).trans (if_neg eb))
    · by_cases nb : b = b0
      · have z2 := (if_pos nb).symm.trans z
        cases z2
        rw [nb]
        exact hT
      · have z1 := (if_neg nb).symm.trans z
        by_cases eb : b = a
        · have z2 := (if_pos eb).symm.trans z1
          cases z2
          subst eb
          exact ⟨ha, by rw [List.length_map]; exact hl, ws, _, vals, ha⟩
        · exact nomatch (if_neg eb).symm.trans z1
    · by_cases nb : b = b0
      · exact .inr nb
      · by_cases eb : b = a
        · exact .inl eb
        · exact absurd ((if_neg nb).trans (if_neg eb)) z
theorem walk_ofT {l : PySem.W.OpenLaw} {n : Nat} {q : Program} {loose : List Str} {XP : (Str → Option Value) → Heap → Prop} {YP : World → Heap → Prop} {d : DefRec} {F : Params → PySem.W.Frag} {CX : World → CXT} {sp : World → Addr → Sp} {x : Str}
    (hn : l.most = some n) (hn2 : n ≤ sizeLine) (hdf : d.params.defaults = []) (hrec : ((recsOf q).any fun e => e.name == d.name) = true) (hY : ∀ (w : World) (h : Heap), YP w h → (F w.params).In h)
    (main : ∀ (w : World) (mg : Str → Option Value) (fa : Addr) (h : Heap), (F w.params).In h → h.Ns mainGlobals mg → mg d.name = some (.ref fa) →
      ∃ (fd : FuncData) (c0 b0 : Addr), (∃ oc od osl, (F w.params).lookup fa = some ⟨oc, od, .func fd, osl⟩) ∧ fd.code = .ref c0 ∧ (F w.params).lookup b0 = none ∧ PySem.W.codeHdIn (F w.params) c0 b0 = true ∧ (∀ (t : Shared) (u : Value), BindsTo t fd ⟨[u], []⟩ [(x, u)]) ∧
        ∀ ba : Heap, (F w.params).In ba → ba.Ns mainGlobals mg → LamX.TabB ba mg c0 b0 → RunAt callerA l.prog w (F w.params) mg ba (CX w) fa [x] (sp w b0))
    (hsp : ∀ (w : World) (J : Hp) (a b0 : Addr) (ns : List Int), ns.length ≤ n → J b0 = some (.tbl #[]) → (∀ b ps, J b = some (.tbl ps) → b = b0) → SqL (F w.params) J a (ns.map V.int) → sp w b0 [.ref a] J (fun v _ => v = .bl true) fun _ _ _ => False)
    (hCX : ∀ (w : World) (J : Hp) (t : Shared) (e : Value) (t' : Shared), CX w [] J t (fun _ _ _ => False) e t' → False) :
    PySem.W.WalkO q loose XP YP l.row.toRowW d [] (fun f vs => PySem.call f vs) := by
  refine Att.attach_call hn hdf fun w t₀ t₁ mg mb fa o pm cd doc a ws ns G Y ho hd hcd hmg hobj hints hlen hgen => ?_
  have hK := hY w _ Y
  obtain ⟨fd, c0, b0, lk, hfc, nT, hC, bind, run⟩ := main w mg fa _ hK G.T.g hmg
  have hd0 := PySem.W.codeHd_of_K hK hC
  have tab0 : t₁.heap.get? b0 = some { cls := .none, data := .fields #[] } := by
    obtain ⟨oc, od, osl, lk⟩ := lk
    obtain ⟨dL, hm, hn1⟩ := List.any_eq_true.mp hrec
    have hn2 : dL.name = d.name := beq_iff_eq.mp hn1
    obtain ⟨a', o', fd', c', P', h1, h2, h3, h4, h5, h6⟩ := G.T.tab dL hm
    rw [hn2, hmg] at h1
    cases h1
    have g1 := hK _ _ lk
    rw [g1] at h2
    cases h2
    cases h3
    rw [hfc] at h4
    cases h4
    obtain ⟨⟨o2, vc, e1, _, e3, e4⟩, hP⟩ := h6
    obtain ⟨o3, vs, file, tf, flags, tg, inF, text, tt, f1, f2, f3, f4, _⟩ := hd0
    rw [f1] at e1
    cases e1
    rw [f3] at e3
    cases e3
    rw [f4] at e4
    cases e4
    exact hP
  exact law_callT hK G.T.g G.T.b G.T.builtins G.T.nolimit hgen tab0 nT hd0 G.T.bmain hobj hints (Nat.le_trans hlen hn2) lk run bind (fun J h1 h2 sq => hsp w J a b0 ns hlen h1 h2 sq) fun J e t' => hCX w J t₁ e t'
end L2

set_option autoImplicit false
set_option Elab.async false
set_option linter.all false
set_option maxRecDepth 100000
set_option maxHeartbeats 3000001
/-! a law whose own def makes lambdas; the defs that are handed them -/
namespace Z
open PySem PySem.Spec L2
open Py (toD)
/-- law's promise; the table of its own code object is at b0 -/
def spLawT (K : PySem.W.Frag) (b0 : Addr) : Sp := fun vs H Q _ => ∃ (a : Addr) (ns : List Int), vs = [.ref a] ∧ SqL K H a (ns.map V.int) ∧ ns.length ≤ 63 ∧ H b0 = some (.tbl #[]) ∧ (∀ b ps, H b = some (.tbl ps) → b = b0) ∧ ∀ H', Q (.bl true) H'
theorem law_okT {u : Wd} {k kd : Nat} {st : Stmt} {f fD c0 b0 : Addr} {fd fdD : FuncData} {N : List Str} {n : Nat} {m : W Bool} {rest : List Stmt} {salt : Int} {j : Nat} {p1 p2 p3 p4 p5 p6 : Pos} (wo : WOk u) (hF : Fun u.K "law" "law" st f fd) (hfc : fd.code = .ref c0) (TB0 : LamX.TabB u.base u.mg c0 b0) (S : FnScope N ["script"] (defScope st))
    (hmD : u.mg "_law_draw" = some (.ref fD)) (kpD : PySem.W.keepIn u.K (.ref fD) = true) (hbD : Binds u.K fdD ["script", "salt"] []) (FD : FnOk u.prog u.w u.K u.mg u.base (L2.CX u.prog u.w) kd fD fdD ["script", "salt"] (spDraw u.K)) (hkd : kd ≤ k)
    (hst : defBody st = .Assign [.Name "deal" p1] (.Call (.Name "_law_draw" p2) [.Name "script" p3, .Constant (.int salt) j p4] [] p5) p6 :: rest) (hz : 0 ≤ salt ∧ salt ≤ 1000) (hN0 : N[0]? = some ("script" : Str)) (hN1 : N[1]? = some ("deal" : Str)) (hn : N.length = n + 2)
    (hv0 : Vis (defScope st) "script") (hl1 : L2.Loc (defScope st) "deal") (hg : GlS (defScope st) "_law_draw")
    (hr0 : Room (k + 1) callerA) (hbody : ∀ (X : Cx) (P : Par) (Wx : WX), P.u = u → P.b = true → X.A.guards = some [] → TabAt X P → Dok X P Wx N (defScope st) k → TB X P Wx (.un :: .deal :: List.replicate n .un) rest m) (hm : m.wp (fun r => r = true) fun _ => False) :
    RunAt callerA u.prog u.w u.K u.mg u.base (L2.CX u.prog u.w) f ["script"] (spLawT u.K b0) := by
  refine runAt_of hF S hr0 (fun vs H Q E h => ?_) (fun cdv hcv outer s H vs Q E hr h => ?_)
  · obtain ⟨a, ns, rfl, _⟩ := h
    rfl
  · obtain ⟨a, ns, rfl, hS, hl, atT, onlyT, kk⟩ := h
    have ecd : cdv = .ref c0 := hcv.symm.trans hfc
    subst ecd
    let X := cxOf (L2.CX u.prog u.w) u.prog u.w u.K u.mg u.base N "law" (defScope st) f (.ref c0) callerA outer s H E
    let PT : Addr → Addr → Hp → Par := fun da dq H0 => ⟨u, true, da, dq, H0, fun _ => none, [(b0, X.env.qual ++ "<lambda>")]⟩
    have D0 : ∀ da dq H0, Dok X (PT da dq H0) (fun cls d _ H => E cls d H) N (defScope st) k := fun da dq H0 =>
      ⟨⟨rfl, rfl, rfl, rfl, rfl, rfl, rfl, wo.bl, rfl, S.nd, hr, takes_of rfl rfl rfl rfl⟩, fun _ => rfl, passes_of rfl, rfl, rfl⟩
    have c0' := (D0 0 0 H).toCok
    have A1 : PS X (.Assign [.Name "deal" p1] (.Call (.Name "_law_draw" p2) [.Name "script" p3, .Constant (.int salt) j p4] [] p5) p6) (tAsg (tCallS (spDraw u.K) (WE fun cls d _ H => E cls d H) (tCons (tVar 0) (tCons (tC (.int salt)) tNil))) (gName 1)) :=
      ps_set (i := 1) S.nd hN1 hl1 (pe_callS FD (hr.mono hkd) (gl c0' hg) hmD kpD hbD (fun σ => passAt c0'.tk σ) (pa_cons (pe_var hN0 hv0) (pa_cons pe_int pa_nil)) (by decide) rfl rfl) rfl (.inl rfl)
    have A2 : PSs X rest (fun D σ H' => ∃ da dq H0, (∀ b ps, H0 b = some (.tbl ps) → b = b0) ∧ rdR (PT da dq H0) (fun cls d _ H => E cls d H) (.un :: .deal :: List.replicate n .un) m D σ H') :=
      ⟨fun pins s σ H D I ⟨da, dq, H0, t0, q⟩ => (hbody X _ _ rfl rfl rfl ⟨⟨c0, b0, TB0, rfl, rfl⟩, fun b ps z => (t0 b ps z) ▸ List.mem_cons_self .., rfl⟩ (D0 da dq H0)).run pins s σ H D I q⟩
    rw [hst]
    refine ⟨_, pss_cons A1 A2, ?_⟩
    refine ⟨_, rfl, a, ns, salt, rfl, hS, hl, hz, fun da dq H' k2 k3 h1 h2 dk => ?_⟩
    have onlyT' : ∀ b ps, H' b = some (.tbl ps) → b = b0 := fun b ps z => by
      obtain ⟨qs, z'⟩ := k3 b ps z
      exact onlyT b qs z'
    refine ⟨da, dq, H', onlyT', fun _ => none, fun r => r = true, fun _ => False, ?_, hm, fun r v H2 G2 B d e => ?_, fun _ _ _ _ _ _ _ _ z => z.elim⟩
    · refine ⟨⟨fun b o z => (nomatch z), fun b o z _ => z, fun b o z => z, fun b o z n => n, fun z => ⟨dk, fun p hp => ?_⟩, fun b z => rfl, fun _ ps z => ⟨ps, z⟩⟩, ?_, fun i s e => ?_, fun i j p l m _ e1 => ?_⟩
      · rw [List.mem_singleton.mp hp]
        exact LamX.TabS.nil (k2 b0 _ atT)
      · unfold L2.start
        simp only [List.length_set, List.length_append, List.length_map, List.length_cons, List.length_nil, List.length_replicate]
        omega
      · match i, e with
        | 0, e => cases e; exact ⟨_, rfl, trivial⟩
        | 1, e =>
          cases e
          have h1 : 1 < (L2.start N [V.ref a]).length := by
            unfold L2.start
            simp only [List.length_append, List.length_map, List.length_cons, List.length_nil, List.length_replicate]
            omega
          exact ⟨_, List.getElem?_set_self h1, rfl, rfl⟩
        | i + 2, e =>
          have e : (List.replicate n Sl.un)[i]? = some s := e
          rw [List.getElem?_replicate] at e
          split at e
          · cases e
            rename_i hi
            have h2 : i + 2 < ((L2.start N [V.ref a]).set 1 (some (V.ref da))).length := by
              unfold L2.start
              simp only [List.length_set, List.length_append, List.length_map, List.length_cons, List.length_nil, List.length_replicate]
              omega
            exact ⟨_, List.getElem?_eq_getElem h2, trivial⟩
          · cases e
      · match i, e1 with
        | 0, e => cases e
        | 1, e => cases e
        | i + 2, e =>
          have e : (List.replicate n Sl.un)[i]? = some (.ownK _ l) := e
          rw [List.getElem?_replicate] at e
          split at e <;> cases e
    · have ev : v = .bl r := den_bool.mp d
      subst ev
      rw [e]
      exact kk H2
theorem TabAt.tr {X : Cx} {P : Par} {pn : List (Addr × Obj)} {xe : Value → Shared → Prop} (t : TabAt X P) : TabAt (X.tr pn xe) P := ⟨t.at_, t.h0, t.b⟩
/-- THE RULE for a def that is handed a lambda -/
theorem ask_ok {u : Wd} {k : Nat} {x a : Str} {st : Stmt} {f : Addr} {fd : FuncData} {N : List Str} {F : W D → W D} {n : Nat} (wo : WOk u) (hF : Fun u.K x x st f fd) (hm : u.mg x = some (.ref f)) (S : FnScope N [a] (defScope st)) (hbi : Binds u.K fd [a] []) (hN : N[0]? = some a) (hn : N.length = n + 1) (hv : Vis (defScope st) a)
    (hbody : ∀ (X : Cx) (P : Par) (Wx : WX) (f : Addr) (m : W D), P.u = u → Dok X P Wx N (defScope st) k →
      (∀ (W' : WX) (pn : List (Addr × Obj)) (xe : Value → Shared → Prop), Dok (X.tr pn xe) P W' N (defScope st) k → ∀ (Γ : List Sl) (p1 p2 : Pos), Γ[0]? = some (.vl (.ref f)) → EX (X.tr pn xe) P W' Γ (.Call (.Name a p1) [] [] p2) m) →
      TB X P Wx (.vl (.ref f) :: List.replicate n .un) (defBody st) (F m)) : AskOk u k x a F := by
  obtain ⟨oc, od, kV, doc, pm, an, cdv, ct, osl, e1, lk, hcd⟩ := hF.ex
  subst e1
  exact ⟨f, oc, od, _, _, _, _, kV, doc, pm, cdv, ct, an, osl, N, n, hm, hF.kp, lk, hcd, hbi, S, hN, hn, hv, hbody⟩
end Z

set_option autoImplicit false
set_option Elab.async false
set_option linter.all false
set_option maxRecDepth 100000
set_option maxHeartbeats 3000001
/-! tuple(range(..)), the length of a dict, d[i], x = e, f -/
namespace Z
open PySem PySem.Spec L2
open Py (toD)
section
variable {α β γ δ τ ρ μ : Type} [Py α] [Py β] [Py γ] [Py δ] [Py ρ]
variable {X : Cx} {P : Par} {Wx : WX} {Γ : List Sl} {N : List Str} {sc : Scope} {k : Nat} {a b c e e1 e2 : Expr} {pos pos2 : Pos} {es : List Expr} {st : Stmt} {sts rest : List Stmt}
/-- tuple(range(e)) -/
theorem ex_tupRg {m : W Int} {p p2 pos2 : Pos} (cc : Cok X P Wx N sc k) (ha : EX X P Wx Γ e m) (hg : GlS sc "tuple" := by rfl) (hg2 : GlS sc "range" := by rfl) (hs : starEach [e] X.env = (false, eval e X.env) :: starEach [] X.env := by rfl)
    (hs2 : starEach [.Call (.Name "range" p2) [e] [] pos2] X.env = (false, eval (.Call (.Name "range" p2) [e] [] pos2) X.env) :: starEach [] X.env := by rfl) :
    EX X P Wx Γ (.Call (.Name "tuple" p) [.Call (.Name "range" p2) [e] [] pos2] [] pos) (W.b1 (W.b1 m fun n => rngW 0 n) fun l => W.pure (⟨l⟩ : Tup Int)) :=
  PE.imp (pe_tupRg cc.calm (gl cc hg) (blt cc) (prg_1 (gl cc hg2) (blt cc) ha hs) hs2) fun σ H Q' h => by
    obtain ⟨G, Q, E, R, w, kk, kx⟩ := h
    refine ⟨G, _, E, R, w, fun v H1 G1 x g1 d1 w1 => ⟨x, den_int.mp d1, ?_, fun r hr => ?_⟩, kx⟩
    · obtain ⟨⟨_, _, w3, w4⟩, _⟩ := w1
      refine ⟨by omega, by omega, by omega, by omega, by omega⟩
    · have R1 := R.grow g1
      have g4 := grow_new (o := .tup (rgV 0 x)) R1.toRelB hr
      refine kk (.ref r) _ _ (⟨rng 0 x⟩ : Tup Int) (g1.trans g4 (DealAt.there R1.dk)) ?_ w1.2
      refine den_tup.mpr ⟨r, rgV 0 x, rfl, upd_same, ?_, ?_⟩
      · show DenL _ ((rng 0 x).map toD) _
        rw [DenL.ints]
        unfold rgV rng
        rw [List.map_map]
        exact List.map_congr_left fun i _ => rfl
      · have := w1.1.2.2.2
        show (rng 0 x).length ≤ _
        unfold rng
        rw [List.length_map, List.length_range]
        omega
/-- len(d), d a dict keyed by ints -/
theorem ex_lenI {m : W (DI γ)} {p : Pos} (cc : Cok X P Wx N sc k) (ha : EX X P Wx Γ e m) (hg : GlS sc "len" := by rfl) (hs : starEach [e] X.env = (false, eval e X.env) :: starEach [] X.env := by rfl) :
    EX X P Wx Γ (.Call (.Name "len" p) [e] [] pos) (W.b1 m fun d => W.pure (d.m.length : Int)) :=
  ex_bf1 cc call_lenD PySem.boot_len ha (fun σ G H y v Q E Q' R d w kk => by
    obtain ⟨p, vs, rfl, gp, t⟩ := den_DI d
    refine ⟨p, _, rfl, R.sub _ _ gp, kk _ _ _ (y.m.length : Int) (Grow.refl R.toRelB) (den_int.mpr ?_) w⟩
    have hl : vs.length = y.m.length := by rw [t.length, List.length_map]
    rw [List.length_zip, List.length_map, hl, Nat.min_self]) (by decide) hg (by decide) (by decide) hs
/-- d[i], x = e, f -/
theorem s_putA {mm : List (Int × γ)} {n : W Int} {m : W γ} {o : W β} {x y : Str} {px py pt ps : Pos} {kt k2 : Nat} {pt2 : Pos} (cc : Dok X P Wx N sc k) (i j : Nat) (ha : EX X P Wx Γ e1 m) (hb : EX X P Wx Γ e2 o) (hix : EX X P Wx Γ b n) (hΓ : Γ[i]? = some (slI mm) := by rfl) (hi : N[i]? = some x := by rfl) (hj : N[j]? = some y := by rfl)
    (hv : Vis sc x := by first | exact Or.inl rfl | exact Or.inr (Or.inl rfl) | exact Or.inr (Or.inr rfl)) (hy : Loc sc y := by first | exact Or.inl rfl | exact Or.inr rfl) (hd : (x == ("__debug__" : Str)) = false := by decide) (hcd : (x == ("__classdict__" : Str)) = false := by decide)
    (hs : starEach [e1, e2] X.env = (false, eval e1 X.env) :: starEach [e2] X.env := by rfl) (hs2 : starEach [e2] X.env = (false, eval e2 X.env) :: starEach [] X.env := by rfl)
    (hsw : ∀ env : Env, env.scope = sc → swapsWithSole [.Tuple [.Subscript (.Name x px) b ps, .Name y py] kt pt] (.Tuple [e1, e2] k2 pt2) pos.line env = pure false := by intro env h; first | rfl | (cases env; cases h; rfl))
    (hw : ∀ env : Env, env.scope = sc → swappedStores [.Tuple [.Subscript (.Name x px) b ps, .Name y py] kt pt] (.Tuple [e1, e2] k2 pt2) env = pure none := by intro env h; first | rfl | (cases env; cases h; rfl))
    (h1 : (assignEach [.Tuple [.Subscript (.Name x px) b ps, .Name y py] kt pt] X.env).map (·.2) = [assign (.Tuple [.Subscript (.Name x px) b ps, .Name y py] kt pt) X.env] := by rfl)
    (q1 : (assignEach [.Subscript (.Name x px) b ps, .Name y py] X.env).map (·.2) = assign (.Subscript (.Name x px) b ps) X.env :: (assignEach [.Name y py] X.env).map (·.2) := by rfl) (q2 : (assignEach [.Name y py] X.env).map (·.2) = assign (.Name y py) X.env :: (assignEach [] X.env).map (·.2) := by rfl)
    (hsub : ∀ (v : Value), assign (.Subscript (.Name x px) b ps) X.env v = (do
      let ov ← holding [v] (eval (.Name x px) X.env)
      let iv ← holding [v, ov] (eval b X.env)
      standAt ps
      holding [v, ov, iv] (setItem ov iv v)
      release [v, ov, iv] []) := by intro _; rfl)
    (hn : (assignEach [.Subscript (.Name x px) b ps, .Name y py] X.env).length = 2 := by rfl) (hst : (assignEach [.Subscript (.Name x px) b ps, .Name y py] X.env).findIdx? (·.1) = none := by rfl) :
    S1 X P Wx Γ (.Assign [.Tuple [.Subscript (.Name x px) b ps, .Name y py] kt pt] (.Tuple [e1, e2] k2 pt2) pos) ((W.b2 m o fun x y => W.pure (x, y)).bind fun p => n.bind fun k => W.need (mm.length < 16777216) (putM mm k p.1, p.2)) (fun p => (Γ.set i (slI p.1)).set j (.dat (toD p.2))) :=
  PS.imp (ps_asg (pe_tup (pa_cons ha (pa_cons hb pa_nil hs2) hs)) (pg_tup cc.calm (pgs_cons (pg_sub (pe_var (i := i) (by rw [cc.hN]; exact hi) (by rw [cc.hsc]; exact hv) hd hcd) hix (set_dict (by have := cc.room.units; omega)) hsub) (pgs_cons (pg_name (i := j) (by rw [cc.hN]; exact cc.nd) (by rw [cc.hN]; exact hj) (by rw [cc.hsc]; exact hy) (.inl (cc.fn y))) pgs_nil q2) q1) hn hst) (hsw _ cc.hsc) (hw _ cc.hsc) h1) fun D σ H h => by
    obtain ⟨G, Q, E, R, ww, kk, kx⟩ := h
    refine ⟨G, _, E, R, ww, fun v1 H1 G1 x1 g1 d1 w1 => ?_, kx⟩
    have R1 := R.grow g1
    refine ⟨G1, _, E, R1, w1, fun v2 H2 G2 x2 g2 d2 w2 => ⟨by show (2 : Nat) ≤ sizeLine; decide, fun p hp => ?_⟩, kx⟩
    have R2 := R1.grow g2
    have g4 := grow_raw (o := .tup [v1, v2]) R2.toRelB hp
    have R4 := R2.grow g4
    obtain ⟨p', vs, ep, _⟩ := R4.ownAtK hΓ
    refine ⟨p, _, rfl, .inl (.inl upd_same), rfl, v1, [v2], rfl, .ref p', ep, G2, _, E, R4, w2, fun u H5 G5 jx g5 d5 w5 => ?_, kx⟩
    have R5 := R4.grow g5
    obtain ⟨p2, vs2, ep2, k1, _, _, _, k5, zl⟩ := R5.ownAtK hΓ
    rw [ep] at ep2
    cases ep2
    rw [objI] at k1
    have dv1 : Den G5 (toD x1) v1 := Den.mono g5.g _ _ (Den.mono g2.g _ _ d1)
    have dv2 : Den G5 (toD x2) v2 := Den.mono g5.g _ _ d2
    obtain ⟨ws, z1, z2⟩ := zip_put (f := fun i : Int => (Sum.inl i : L2.Key)) inlI (k := jx) k5 dv1
    have hl : vs2.length = mm.length := by rw [k5.length, List.length_map]
    refine ⟨p', _, rfl, .inl ⟨_, Sum.inl jx, k1, den_int.mp d5, ?_, rfl⟩, v2, [], rfl, ?_⟩
    · rw [List.length_zip, List.length_map, hl, Nat.min_self, sizeLine_eq]
      exact w5.1
    · rw [z1, ← objI]
      refine ⟨rfl, kk (putM mm jx x1, x2) _ _ G5 ((R5.ownSetK (.dk (.I ((putM mm jx x1).map (·.1)))) hΓ ep (l' := (putM mm jx x1).map fun p => toD p.2) z2 ?_).set dv2) (g1.g.trans (g2.g.trans (g4.g.trans g5.g))) w5.2⟩
      have := putM_len mm jx x1
      have := w5.1
      rw [List.length_map]
      omega
end
end Z

set_option autoImplicit false
set_option Elab.async false
set_option linter.all false
set_option maxRecDepth 100000
set_option maxHeartbeats 10000021
/-! (x, ..) * n -/
namespace L2
open PySem PySem.Spec PyProof.Rows
/-- once: the same tuple -/
theorem tup_once (a0 : Addr) (ws : Array Value) (n : Nat) (dd : Option Addr) (sl : Array (Option Value)) (j : Int) (u : Tok) (h0 : (decide (j < -(2 ^ 63)) || decide (j ≥ 2 ^ 63)) = false) (h1 : (ws.isEmpty || j == 1) = true) :
    Meets (Builtin.«tuple.__mul__» ⟨[.ref a0, .int j u], []⟩) (fun _ R s => s.heap.get? a0 = some { cls := .type "tuple", dict := dd, data := .seq ws n, slots := sl } ∧ R (.ok (.ret (Value.ref a0))) s) :=
  .of_wp fun prog w A R s hh => by
    obtain ⟨hp, g, d, tk, os⟩ := s
    obtain ⟨hat, hh⟩ := hh
    have ixi := AutoSeq1.idx_int
    wp_walk using wpAny_loadPart' hat
    repeat (first
      | (refine wpAny_ite_false (decide_eq_false (by rw [h0]; exact Bool.false_ne_true)) ?_; wp_walk using wpAny_loadPart' hat)
      | (refine wpAny_ite_true (decide_eq_true h1) ?_; wp_walk using wpAny_loadPart' hat))
    exact ⟨_, rfl, hh⟩
def rRep1 (K : PySem.W.Frag) : R2 := fun x y H Q => ∃ a0 ys, x = .ref a0 ∧ y = .int 1 ∧ SqT K H a0 ys ∧ Q (.ref a0) H
theorem op_rep1 {X : Cx} : OpR X (binaryOp .Mult) (rRep1 X.K) := by
  intro pl t τ J x y v u Q IJ rx ry hh
  obtain ⟨a0, ys, rfl, rfl, hT, q⟩ := hh
  cases rx
  obtain ⟨tk, rfl⟩ := ry
  obtain ⟨ws, rel, ⟨⟨cls, dd, data, sl⟩, atO, hc, n, hd⟩, hs⟩ := IJ.tuple hT
  simp only at hc hd
  subst hc hd
  refine wpAny_binaryOp_repeat_ref (T := "tuple") (U := "int") (by decide) ⟨_, atO, rfl⟩ (fun s' => typeIs_int s' 1 tk) noFill_tuple_mul F.fills_int_mul F.slot_int_rmul repeat_tuple F.slot_int_index.lookup
    (call_meets F.slot_int_rmul (typeIs_int t 1 tk) F.entry_int_rmul (F.args_int_rmul_2 _ _) (int_rmul_tuple 1 tk a0 ws.toArray n dd sl)
      ⟨atO, rfl, ⟨_, atO, rfl⟩, call_meets F.slot_tuple_mul ⟨_, atO, rfl⟩ F.entry_tuple_mul (F.args_tuple_mul_2 _ _) (tup_once a0 ws.toArray n dd sl 1 tk (by decide) (by simp)) ⟨atO, ?_⟩⟩)
  exact ⟨.ref a0, J, IJ, rfl, q⟩
end L2
namespace L2
open PySem PySem.Spec PyProof.Rows
theorem op_rep2 {X : Cx} : OpR X (binaryOp .Mult) (fun x y H Q => rRep1 X.K x y H Q ∨ rRepT X.K x y H Q) := fun pins s σ H x y v u Q I rx ry h => h.elim (fun h => op_rep1 pins s σ H x y v u Q I rx ry h) (fun h => op_repT pins s σ H x y v u Q I rx ry h)
end L2
namespace Z
open PySem PySem.Spec L2
open Py (toD)
section
variable {α β γ δ τ ρ μ : Type} [Py α] [Py β] [Py γ] [Py δ] [Py ρ]
variable {X : Cx} {P : Par} {Wx : WX} {Γ : List Sl} {N : List Str} {sc : Scope} {k : Nat} {a b c e : Expr} {pos : Pos}
def repT (x : Tup α) (n : Int) : W (Tup α) := W.need (1 ≤ n ∧ n ≤ 1000 ∧ x.l ≠ [] ∧ x.l.length ≤ 1000) ⟨(List.replicate n.toNat x.l).flatten⟩
theorem rep_map {f : α → D} : ∀ (n : Nat) (l : List α), (List.replicate n (l.map f)).flatten = ((List.replicate n l).flatten).map f
  | 0, l => rfl
  | n + 1, l => by rw [List.replicate_succ, List.replicate_succ, List.flatten_cons, List.flatten_cons, List.map_append, rep_map n l]
theorem ex_repT {m : W (Tup α)} {n : W Int} (ha : EX X P Wx Γ a m) (hb : EX X P Wx Γ b n) : EX X P Wx Γ (.BinOp a .Mult b pos) (W.b2 m n repT) :=
  PE.imp (pe_op op_rep2 ha hb) fun σ H Q' h => by
    obtain ⟨G, Q, E, R, w, kk, kx⟩ := h
    refine ⟨G, _, E, R, w, fun v H1 G1 x g1 d1 w1 => ?_, kx⟩
    have R1 := R.grow g1
    refine ⟨G1, _, E, R1, w1, fun u H2 G2 y g2 d2 w2 => ?_, kx⟩
    have R2 := R1.grow g2
    have g12 := g1.trans g2 (DealAt.there R1.dk)
    obtain ⟨p, vs, rfl, g, t, zl⟩ := den_tup.mp (Den.mono g2.g _ _ d1)
    have l1 : vs.length = x.l.length := by rw [t.length, List.length_map]
    have w2 : (repT x y).wp Q E := w2
    obtain ⟨⟨y1, y2, ne, xl⟩, w3⟩ := w2
    by_cases q : y = 1
    · subst q
      left
      refine ⟨p, vs, rfl, den_int.mp d2, .inl (.inl (R2.sub _ _ g)), kk (.ref p) _ _ _ g12 ?_ w3⟩
      have e : (⟨(List.replicate (1 : Int).toNat x.l).flatten⟩ : Tup α) = x := by
        obtain ⟨l⟩ := x
        show (⟨(List.replicate 1 l).flatten⟩ : Tup α) = ⟨l⟩
        simp
      rw [e]
      exact Den.mono g2.g _ _ d1
    · right
      refine ⟨p, y, vs, rfl, den_int.mp d2, .inl (.inl (R2.sub _ _ g)), fun z => ne (List.length_eq_zero_iff.mp (by rw [← l1, z]; rfl)), by omega, y2, by omega, fun r hr => ?_⟩
      have g4 := grow_new (o := .tup (List.replicate y.toNat vs).flatten) R2.toRelB hr
      refine kk (.ref r) _ _ _ (g12.trans g4 (DealAt.there R2.dk)) (den_tup.mpr ⟨r, _, rfl, upd_same, ?_, ?_⟩) w3
      · show DenL _ (((List.replicate y.toNat x.l).flatten).map toD) _
        rw [← rep_map]
        exact (DenL.mono g4.g _ _ t).rep _
      · rw [List.length_flatten, List.map_replicate, List.sum_replicate_nat]
        have : y.toNat * x.l.length ≤ 1000 * 1000 := Nat.mul_le_mul (by omega) xl
        omega
end
end Z

set_option autoImplicit false
set_option Elab.async false
set_option linter.all false
set_option maxRecDepth 100000
set_option maxHeartbeats 3000001
/-! a dict of one's own, lent to a test -/
namespace Z
open PySem PySem.Spec L2
open Py (toD)
section
variable {X : Cx} {P : Par} {Wx : WX} {Γ : List Sl} {e a b : Expr} {γ : Type} [Py γ] {N : List Str} {sc : Scope} {k : Nat} {pos : Pos}
theorem tx_borK {d : DKy} {l : List D} {m : W Bool} (hk : d.len = l.length) (i : Nat) (h : TX X P Wx (Γ.set i (.dat (.dk d l))) e m) (hi : Γ[i]? = some (.ownK (.dk d) l) := by rfl) : TX X P Wx Γ e m := PT.imp h fun σ H Q' h => by
  obtain ⟨G, Q, E, R, q, kk, kx⟩ := h
  obtain ⟨p, vs, ep, h1, h2, hs, R'⟩ := R.frz hk hi
  refine ⟨upd G p (d.obj vs), Q, E, R', q, fun H' G' a g qq => ?_, kx⟩
  exact kk H' _ a (Grow.out h2 (fun b n => upd_ne n) h1 g) qq
theorem tx_inI {m : W (DI γ)} {n : W Int} (cc : Cok X P Wx N sc k) (hb : EX X P Wx Γ a n) (ha : EX X P Wx Γ b m) (h1 : behindInMarks .In b = false := by rfl) : TX X P Wx Γ (.Compare a [.In] [b] pos) (W.b2 n m fun k d => W.pure ((getM d.m k).isSome)) :=
  PT.imp (pt_cmp (pc_din (by have := cc.room.units; omega) hb ha) h1) fun σ H Q' h => by
    obtain ⟨G, Q, E, R, w, kk, kx⟩ := h
    refine ⟨G, _, E, R, w, fun u H1 G1 j g1 d1 w1 => ?_, kx⟩
    have R1 := R.grow g1
    refine ⟨G1, _, E, R1, w1, fun v H2 G2 x g2 d2 w2 => ?_, kx⟩
    have R2 := R1.grow g2
    obtain ⟨p, vs, rfl, gp, t⟩ := den_DI d2
    refine ⟨p, _, rfl, .inl ⟨_, Sum.inl j, .inl (R2.sub _ _ gp), den_int.mp d1, rfl⟩, ?_⟩
    refine ⟨_, rfl, kk _ _ _ (g1.trans g2 (DealAt.there R1.dk)) ?_⟩
    have w2 : Q ((getM x.m j).isSome) := w2
    rw [← some_of (f := fun i : Int => (Sum.inl i : L2.Key)) inlI t] at w2
    exact w2
theorem tx_inT {κ : Type} [Py κ] [KeyT κ] {m : W (DT γ)} {n : W κ} (cc : Cok X P Wx N sc k) (hb : EX X P Wx Γ a n) (ha : EX X P Wx Γ b m) (h1 : behindInMarks .In b = false := by rfl) : TX X P Wx Γ (.Compare a [.In] [b] pos) (W.b2 n m fun k d => W.pure ((getM d.m (KeyT.tk k)).isSome)) :=
  PT.imp (pt_cmp (pc_din (by have := cc.room.units; omega) hb ha) h1) fun σ H Q' h => by
    obtain ⟨G, Q, E, R, w, kk, kx⟩ := h
    refine ⟨G, _, E, R, w, fun u H1 G1 j g1 d1 w1 => ?_, kx⟩
    have R1 := R.grow g1
    refine ⟨G1, _, E, R1, w1, fun v H2 G2 x g2 d2 w2 => ?_, kx⟩
    have R2 := R1.grow g2
    obtain ⟨p, vs, rfl, gp, t⟩ := den_DT d2
    obtain ⟨q, rfl, gq⟩ := key_den (Den.mono g2.g _ _ d1)
    refine ⟨p, _, rfl, .inr ⟨_, (KeyT.tk j).map Sum.inl, q, .inl (R2.sub _ _ gp), rfl, R2.sub _ _ gq, rfl⟩, ?_⟩
    refine ⟨_, rfl, kk _ _ _ (g1.trans g2 (DealAt.there R1.dk)) ?_⟩
    have w2 : Q ((getM x.m (KeyT.tk j)).isSome) := w2
    rw [← some_of (f := fun i : List Int => (i.map Sum.inl : List L2.Key)) inlT t] at w2
    exact w2
theorem tx_notinI {m : W (DI γ)} {n : W Int} (cc : Cok X P Wx N sc k) (hb : EX X P Wx Γ a n) (ha : EX X P Wx Γ b m) (h1 : behindInMarks .NotIn b = false := by rfl) : TX X P Wx Γ (.Compare a [.NotIn] [b] pos) (W.b2 n m fun k d => W.pure (!(getM d.m k).isSome)) :=
  PT.imp (pt_cmp (pc_dnotin (by have := cc.room.units; omega) hb ha) h1) fun σ H Q' h => by
    obtain ⟨G, Q, E, R, w, kk, kx⟩ := h
    refine ⟨G, _, E, R, w, fun u H1 G1 j g1 d1 w1 => ?_, kx⟩
    have R1 := R.grow g1
    refine ⟨G1, _, E, R1, w1, fun v H2 G2 x g2 d2 w2 => ?_, kx⟩
    have R2 := R1.grow g2
    obtain ⟨p, vs, rfl, gp, t⟩ := den_DI d2
    refine ⟨p, _, rfl, .inl ⟨_, Sum.inl j, .inl (R2.sub _ _ gp), den_int.mp d1, rfl⟩, ?_⟩
    refine ⟨_, rfl, kk _ _ _ (g1.trans g2 (DealAt.there R1.dk)) ?_⟩
    have w2 : Q (!(getM x.m j).isSome) := w2
    rw [← some_of (f := fun i : Int => (Sum.inl i : L2.Key)) inlI t] at w2
    exact w2
theorem tx_notinT {κ : Type} [Py κ] [KeyT κ] {m : W (DT γ)} {n : W κ} (cc : Cok X P Wx N sc k) (hb : EX X P Wx Γ a n) (ha : EX X P Wx Γ b m) (h1 : behindInMarks .NotIn b = false := by rfl) : TX X P Wx Γ (.Compare a [.NotIn] [b] pos) (W.b2 n m fun k d => W.pure (!(getM d.m (KeyT.tk k)).isSome)) :=
  PT.imp (pt_cmp (pc_dnotin (by have := cc.room.units; omega) hb ha) h1) fun σ H Q' h => by
    obtain ⟨G, Q, E, R, w, kk, kx⟩ := h
    refine ⟨G, _, E, R, w, fun u H1 G1 j g1 d1 w1 => ?_, kx⟩
    have R1 := R.grow g1
    refine ⟨G1, _, E, R1, w1, fun v H2 G2 x g2 d2 w2 => ?_, kx⟩
    have R2 := R1.grow g2
    obtain ⟨p, vs, rfl, gp, t⟩ := den_DT d2
    obtain ⟨q, rfl, gq⟩ := key_den (Den.mono g2.g _ _ d1)
    refine ⟨p, _, rfl, .inr ⟨_, (KeyT.tk j).map Sum.inl, q, .inl (R2.sub _ _ gp), rfl, R2.sub _ _ gq, rfl⟩, ?_⟩
    refine ⟨_, rfl, kk _ _ _ (g1.trans g2 (DealAt.there R1.dk)) ?_⟩
    have w2 : Q (!(getM x.m (KeyT.tk j)).isSome) := w2
    rw [← some_of (f := fun i : List Int => (i.map Sum.inl : List L2.Key)) inlT t] at w2
    exact w2
end
end Z

set_option autoImplicit false
set_option Elab.async false
set_option linter.all false
set_option maxRecDepth 100000
set_option maxHeartbeats 2000001
namespace K
open PySem PySem.Spec L2 Z
open Py (toD)
def topS (i : Nat) : Stmt := PySem.Challenge.pw_bodiesalike_k02_powers_tails_and_rings.main.body.getD i (.Pass ⟨0, 0, 0, 0⟩)
abbrev s_law_any : Stmt := topS 24
theorem sc_law_any : FnScope ["deal", "bound", "rest"] ["deal", "bound"] (defScope s_law_any) := ⟨rfl, rfl, rfl, by decide +kernel, rfl, by decide +kernel, by decide +kernel⟩
abbrev m_law_any : Int → W Int := anyW
theorem ok_law_any {u : Wd} (wo : WOk u) {f : Addr} {fd : FuncData} (hF : Fun u.K "_law_any" "_law_any" s_law_any f fd) (hm : u.mg "_law_any" = some (.ref f)) (hbi : Binds u.K fd ["deal", "bound"] []) :
    Fn u 1 "_law_any" ["deal", "bound"] true (fun y : Int => [none, some (toD y)]) m_law_any := by
  refine fn_ok (n := 1) wo hF hm sc_law_any hbi (fun _ => rfl) rfl (fun _ h => by cases h) fun X P Wx hu hbd d y => ?_
  have c := d.toCok
  subst hu
  refine tb_ref (tb_cons (s_dwhile d 0) fun _ => tb_dif (b := y) d 0 1 2 (tb_cons (s_dset d 0 (ex_mod (ex_intI c (ex_add (ex_mul (ex_d1 c 0) ex_int) ex_int)) ex_int)) fun _ => tb_ret (ex_mod (ex_intI c (ex_fdiv (ex_d1 c 0) ex_int)) (ex_var c 1)))) fun Q E w => ?_
  obtain ⟨⟨b0, bs⟩, w⟩ := w
  refine ⟨⟨⟨b0, bs⟩, w⟩, fun n hn => ?_⟩
  have z1 : Sz 400000 n := by
    unfold Sz
    have : n.natAbs < 2147483647 := by omega
    exact Nat.lt_of_lt_of_le this (Nat.le_trans (by decide : 2147483647 ≤ 2 ^ 31) (Nat.pow_le_pow_right (by decide) (by decide)))
  have z2 : Sz 400000 40693 := by
    unfold Sz
    exact Nat.lt_of_lt_of_le (by decide : (40693 : Int).natAbs < 2 ^ 31) (Nat.pow_le_pow_right (by decide) (by decide))
  refine ⟨⟨z1, z2⟩, by decide, ⟨Int.emod_nonneg _ (by decide), Int.emod_lt_of_pos _ (by decide)⟩, fun n2 hn2 => ⟨⟨by decide, ?_⟩, b0, w _ (Int.emod_nonneg _ (Int.ne_of_gt b0)) (Int.emod_lt_of_pos _ b0)⟩⟩
  unfold Sz
  exact Nat.lt_of_lt_of_le (by decide : (64 : Int).natAbs < 2 ^ 31) (Nat.pow_le_pow_right (by decide) (by decide))
abbrev s_law_of : Stmt := topS 25
theorem sc_law_of : FnScope ["deal", "some"] ["deal", "some"] (defScope s_law_of) := ⟨rfl, rfl, rfl, by decide +kernel, rfl, by decide +kernel, by decide +kernel⟩
abbrev m_law_of {α : Type} : List α → W α := ofW
theorem ok_law_of {u : Wd} (wo : WOk u) {f : Addr} {fd : FuncData} (hF : Fun u.K "_law_of" "_law_of" s_law_of f fd) (hm : u.mg "_law_of" = some (.ref f)) (hbi : Binds u.K fd ["deal", "some"] []) (h_law_any : Fn u 1 "_law_any" ["deal", "bound"] true (fun y : Int => [none, some (toD y)]) m_law_any) :
    ∀ {α : Type} [Py α], Fn u 2 "_law_of" ["deal", "some"] true (fun y : List α => [none, some (toD y)]) (m_law_of (α := α)) := by
  intro α _
  refine fn_ok (n := 0) wo hF hm sc_law_of hbi (fun _ => rfl) rfl (fun _ h => by cases h) fun X P Wx hu hbd d y => ?_
  have c := d.toCok
  subst hu
  refine tb_ref (tb_ret (ex_ix ixL (ex_var (y := y) c 1) (ex_call c h_law_any (by decide) (fun _ => hbd) (ao_deal c 0 (ao_one (ex_lenL c (ex_var (y := y) c 1))))))) fun Q E w => ?_
  obtain ⟨⟨hne, hk⟩, w⟩ := w
  have hl : (0 : Int) < y.length := by
    have := List.length_pos_iff.mpr hne
    omega
  refine ⟨⟨hl, ?_⟩, fun r h0 h1 => ?_⟩
  · unfold Sz
    have : (y.length : Int).natAbs < 2 ^ 10 := by simp; omega
    exact Nat.lt_of_lt_of_le this (Nat.pow_le_pow_right (by decide) (by decide))
  · obtain ⟨j, rfl⟩ : ∃ j : Nat, r = j := ⟨r.toNat, by omega⟩
    have hj : j < y.length := by omega
    have e : L2.atI y (j : Int) = some y[j] := by
      unfold L2.atI L2.ixN
      rw [if_pos (by omega), if_pos h1]
      simp [hj]
    show (ixW y (j : Int)).wp Q E
    unfold ixW
    rw [e]
    exact w _ (List.getElem_mem hj)
abbrev m_law_ofD : D → W D := ofDW
theorem ok_law_ofD {u : Wd} (wo : WOk u) {f : Addr} {fd : FuncData} (hF : Fun u.K "_law_of" "_law_of" s_law_of f fd) (hm : u.mg "_law_of" = some (.ref f)) (hbi : Binds u.K fd ["deal", "some"] []) (h_law_any : Fn u 1 "_law_any" ["deal", "bound"] true (fun y : Int => [none, some (toD y)]) m_law_any) :
    Fn u 2 "_law_of" ["deal", "some"] true (fun y : D => [none, some (toD y)]) m_law_ofD := by
  refine fn_ok (n := 0) wo hF hm sc_law_of hbi (fun _ => rfl) rfl (fun _ h => by cases h) fun X P Wx hu hbd d y => ?_
  have c := d.toCok
  subst hu
  refine tb_ref (tb_ret (ex_ix ixDF (ex_var (y := y) c 1) (ex_call c h_law_any (by decide) (fun _ => hbd) (ao_deal c 0 (ao_one (ex_lenD c (ex_var (y := y) c 1))))))) fun Q E w => ?_
  obtain ⟨l, hd, hne, hk, w⟩ := w
  have hl : (0 : Int) < l.length := by
    have := List.length_pos_iff.mpr hne
    omega
  have key : ∀ r : Int, 0 ≤ r → r < l.length → ∃ x ∈ l, ixW l r = W.pure x := fun r h0 h1 => by
    obtain ⟨j, rfl⟩ : ∃ j : Nat, r = j := ⟨r.toNat, by omega⟩
    have hj : j < l.length := by omega
    refine ⟨l[j], List.getElem_mem hj, ?_⟩
    have e : L2.atI l (j : Int) = some l[j] := by
      unfold L2.atI L2.ixN
      rw [if_pos (by omega), if_pos h1]
      simp [hj]
    unfold ixW
    rw [e]
  have sz : Sz 9000 (l.length : Int) := by
    unfold Sz
    have : (l.length : Int).natAbs < 2 ^ 10 := by simp; omega
    exact Nat.lt_of_lt_of_le this (Nat.pow_le_pow_right (by decide) (by decide))
  rcases hd with rfl | rfl
  · refine ⟨⟨hl, sz⟩, fun r h0 h1 => ?_⟩
    obtain ⟨x, hx, e⟩ := key r h0 h1
    show (ixW l r).wp Q E
    rw [e]
    exact w x hx
  · refine ⟨⟨hl, sz⟩, fun r h0 h1 => ?_⟩
    obtain ⟨x, hx, e⟩ := key r h0 h1
    show (ixW l r).wp Q E
    rw [e]
    exact w x hx
abbrev s_law_draw : Stmt := topS 23
theorem sc_law_draw : FnScope ["script", "salt", "cell", "cells", "blend"] ["script", "salt"] (defScope s_law_draw) := ⟨rfl, rfl, rfl, by decide +kernel, rfl, by decide +kernel, by decide +kernel⟩
theorem ok_law_draw {u : Wd} (wo : WOk u) {f : Addr} {fd : FuncData} (hF : Fun u.K "_law_draw" "_law_draw" s_law_draw f fd) : FnOk u.prog u.w u.K u.mg u.base (L2.CX u.prog u.w) 1 f fd ["script", "salt"] (spDraw u.K) := by
  refine draw_ok (n := 3) wo hF sc_law_draw rfl fun X P Wx s ns salt hb hS hl hz d => ?_
  have c := d.toCok
  refine db_ref (db_cons (s_fz (Γ' := fun _ => [.vl (.ref s), .dat (toD salt), .un, .un, .un]) 3 (s_lc (f := fun x : Int => [.vl (.ref s), .dat (toD salt), .dat (toD x), .un, .un]) (me := fun x => W.b1 (W.b1 (W.pure x) fun i => W.pure i) fun i => W.pure (if i < 0 then -i else i)) d 3 [("cell", 2)]
    (ei_list (ex_fz (en_scr c 0 hb hS (by omega) (eo_some ex_int)))) (by rfl) (fun X' c' _ => ⟨gbn c' 2, fun x => t_nil, fun x => ex_abs c' (ex_intI c' (ex_var c' 2))⟩))) fun cells =>
    db_cons (s_set d 4 (ex_add ex_int (ex_mul ex_int (ex_var (y := salt) c 1)))) fun blend =>
    db_cons (s_for (f := fun (x : Int) (t : Int) => [.vl (.ref s), .dat (toD salt), .dat (toD x), .dat (toD cells), .dat (toD t)]) (Nn := fun t : Int => [.vl (.ref s), .dat (toD salt), .un, .dat (toD cells), .dat (toD t)]) d blend (ei_list (ex_var (y := cells) c 3)) (.keep (.keep (.keep (.keep (.keep .nil))))) (fun t => gt_name d 2)
      (fun x t => bb_cons (s_set d 4 (ex_mod (ex_intI c (ex_add (ex_add (ex_mul (ex_var (y := t) c 4) ex_int) (ex_mod (ex_var (y := x) c 2) ex_int)) ex_int)) ex_int)) fun t2 => bb_nil (.keep (.keep (.drop (.keep (.keep .nil))))))) fun t =>
    db_ret hb (en_rev (ex_fz (en_lc (f := fun x : Int => [.vl (.ref s), .dat (toD salt), .dat (toD x), .dat (toD cells), .dat (toD t)]) (mt := fun x => W.b2 (W.pure x) (W.b2 (W.pure 10) (W.pure 18) powW) fun x y => W.pure (decide (y ≤ x))) (me := fun x => W.pure x) c [("cell", 2)] (ei_list (ex_var (y := cells) c 3)) (by rfl)
      (fun X' c' _ => ⟨gbn c' 2, fun x => t_one (tx_c c_ge (ex_var (y := x) c' 2) (ex_pow ex_int ex_int)), fun x => ex_var (y := x) c' 2⟩)))) (ex_var (y := t) c 4)) fun Q E w => ?_
  have w : ∀ p, DealOk p → Q p := w
  have e1 : ∀ l : List Int, W.filterW (fun x : Int => nx (W.pure true)) (fun x => nx (W.b1 (W.b1 (W.pure x) fun i => W.pure i) fun i => W.pure (if i < 0 then -i else i))) l = W.pure ((l.filter fun _ => true).map fun i => if i < 0 then -i else i) := fun l =>
    W.filterW_pure _ _ (fun _ => true) (fun i => if i < 0 then -i else i) l (fun _ _ => rfl) (fun _ _ _ => rfl)
  have e2 : ∀ l : List Int, W.filterW (fun x => nx (W.b2 (W.pure x) (W.b2 (W.pure 10) (W.pure 18) powW) fun x y => W.pure (decide (y ≤ x)))) (fun x => nx (W.pure x)) l = W.pure ((l.filter fun x => decide ((10 : Int) ^ 18 ≤ x)).map id) := fun l =>
    W.filterW_pure _ _ (fun x => decide ((10 : Int) ^ 18 ≤ x)) id l (fun x _ => by
      show nx ((powW 10 18).bind fun y => W.pure (decide (y ≤ x))) = _
      unfold powW
      rw [need_pure (by decide)]
      rfl) (fun _ _ _ => rfl)
  show (W.bind _ _).wp Q E
  have cl : (cut ns none (some 48)).length ≤ 48 := by
    unfold cut
    rw [List.length_take]
    have : HT.sIx ns.length ns.length (some 48) - HT.sIx ns.length 0 none ≤ 48 := by
      show HT.sIx ns.length ns.length (some ((48 : Nat) : Int)) - _ ≤ 48
      rw [HT.sIx_nat]
      omega
    omega
  show ((W.filterW (fun x : Int => nx (W.pure true)) (fun x => nx (W.b1 (W.b1 (W.pure x) fun i => W.pure i) fun i => W.pure (if i < 0 then -i else i))) (cut ns none (some 48))).bind _).wp Q E
  rw [e1, W.pure_bind]
  obtain ⟨z0, z1⟩ := hz
  have m1 : mulW 104729 salt = W.pure (104729 * salt) := need_pure ⟨sz_of (n := 31) (by decide) (by decide), sz_of (n := 31) (by omega) (by decide)⟩
  simp only [W.b1, W.b2, W.pure_bind, m1]
  refine forW_inv (fun t : Int => 0 ≤ t ∧ t < 2147483647) (by omega) (fun x hx t ht => ?_) (fun t ht => ?_)
  · have m2 : mulW t 48271 = W.pure (t * 48271) := need_pure ⟨sz_of (n := 31) (by omega) (by decide), sz_of (n := 31) (by decide) (by decide)⟩
    have m3 : modW x 2147483549 = W.pure (x % 2147483549) := need_pure (by decide)
    have m4 : ∀ y, modW y 2147483647 = W.pure (y % 2147483647) := fun y => need_pure (by decide)
    simp only [m2, m3, m4, W.pure_bind]
    exact ⟨Int.emod_nonneg _ (by decide), Int.emod_lt_of_pos _ (by decide)⟩
  · rw [show ∀ l : List Int, W.filterW (fun x => nx ((powW 10 18).bind fun y => W.pure (decide (y ≤ x)))) (fun x => nx (W.pure x)) l = _ from e2]
    refine w _ ⟨?_, fun y hy => ?_, ht.1, ht.2⟩
    · show (List.reverse _).length ≤ 63
      rw [List.length_reverse, List.length_map]
      refine Nat.le_trans (List.length_filter_le ..) ?_
      rw [List.length_map]
      exact Nat.le_trans (List.length_filter_le ..) (by omega)
    · have hy : y ∈ List.reverse _ := hy
      rw [List.mem_reverse, List.map_id] at hy
      have := of_decide_eq_true (List.mem_filter.mp hy).2
      omega
abbrev s_is_integer : Stmt := topS 4
theorem sc_is_integer : FnScope ["value"] ["value"] (defScope s_is_integer) := ⟨rfl, rfl, rfl, by decide +kernel, rfl, by decide +kernel, by decide +kernel⟩
def m_is_integer (y : D) : W Bool :=
  (W.and (W.b1 (W.pure y) (isiW isInt)) (W.not (W.b1 (W.pure y) (isiW isBool))))
theorem ok_is_integer {u : Wd} (wo : WOk u) {f : Addr} {fd : FuncData} (hF : Fun u.K "is_integer" "is_integer" s_is_integer f fd) (hm : u.mg "is_integer" = some (.ref f)) (hbi : Binds u.K fd ["value"] []) :
    Fn u 1 "is_integer" ["value"] false (fun y : D => [some (toD y)]) m_is_integer := by
  refine fn_ok (n := 0) wo hF hm sc_is_integer hbi (fun _ => rfl) rfl (fun _ _ => by simp) fun X P Wx hu hbd d y => ?_
  have c := d.toCok
  subst hu
  unfold m_is_integer
  exact tb_ret (ex_and (ex_isi c ty_int (ex_var c 0)) (ex_one (ex_not (ex_isi c ty_bool (ex_var c 0)))))
abbrev s_is_number : Stmt := topS 5
theorem sc_is_number : FnScope ["value"] ["value"] (defScope s_is_number) := ⟨rfl, rfl, rfl, by decide +kernel, rfl, by decide +kernel, by decide +kernel⟩
def m_is_number (y : D) : W Bool :=
  (W.and ((W.pure y).bind m_is_integer) (W.b2 (W.b1 (W.pure y) (castW (α := Int))) (W.pure (0 : Int)) (fun x y => W.pure (decide (y ≤ x)))))
theorem ok_is_number {u : Wd} (wo : WOk u) {f : Addr} {fd : FuncData} (hF : Fun u.K "is_number" "is_number" s_is_number f fd) (hm : u.mg "is_number" = some (.ref f)) (hbi : Binds u.K fd ["value"] []) (h_is_integer : Fn u 1 "is_integer" ["value"] false (fun y : D => [some (toD y)]) m_is_integer) :
    Fn u 2 "is_number" ["value"] false (fun y : D => [some (toD y)]) m_is_number := by
  refine fn_ok (n := 0) wo hF hm sc_is_number hbi (fun _ => rfl) rfl (fun _ _ => by simp) fun X P Wx hu hbd d y => ?_
  have c := d.toCok
  subst hu
  unfold m_is_number
  exact tb_ret (ex_and (ex_call c h_is_integer (by decide) (fun h => by cases h) (ao_one (ex_var c 0))) (ex_one (ex_c c_ge (ex_cast (ex_var c 0)) (ex_int))))
abbrev s_is_index : Stmt := topS 6
theorem sc_is_index : FnScope ["value", "many"] ["value", "many"] (defScope s_is_index) := ⟨rfl, rfl, rfl, by decide +kernel, rfl, by decide +kernel, by decide +kernel⟩
def m_is_index (y : D × Int) : W Bool :=
  (W.and ((W.pure y.1).bind m_is_number) (W.b2 (W.b1 (W.pure y.1) (castW (α := Int))) (W.pure y.2) (fun x y => W.pure (decide (x < y)))))
theorem ok_is_index {u : Wd} (wo : WOk u) {f : Addr} {fd : FuncData} (hF : Fun u.K "is_index" "is_index" s_is_index f fd) (hm : u.mg "is_index" = some (.ref f)) (hbi : Binds u.K fd ["value", "many"] []) (h_is_number : Fn u 2 "is_number" ["value"] false (fun y : D => [some (toD y)]) m_is_number) :
    Fn u 3 "is_index" ["value", "many"] false (fun y : D × Int => [some (toD y.1), some (toD y.2)]) m_is_index := by
  refine fn_ok (n := 0) wo hF hm sc_is_index hbi (fun _ => rfl) rfl (fun _ _ => by simp) fun X P Wx hu hbd d y => ?_
  have c := d.toCok
  subst hu
  unfold m_is_index
  exact tb_ret (ex_and (ex_call c h_is_number (by decide) (fun h => by cases h) (ao_one (ex_var c 0))) (ex_one (ex_c c_lt (ex_cast (ex_var c 0)) (ex_var c 1))))
abbrev s_common_divisor : Stmt := topS 7
theorem sc_common_divisor : FnScope ["one", "other"] ["one", "other"] (defScope s_common_divisor) := ⟨rfl, rfl, rfl, by decide +kernel, rfl, by decide +kernel, by decide +kernel⟩
def m_common_divisor (y : Int × Int) : W Int :=
  ((W.whileW (fun t_1 => (W.b2 (W.pure t_1.2) (W.pure (0 : Int)) (fun x y => W.pure (!decide (x = y))))) (fun t_1 => ((W.b2 (W.pure t_1.2) (W.b2 (W.pure t_1.1) (W.pure t_1.2) modW) fun x y => W.pure (x, y)).bind fun p_2 => W.pure (p_2.1, p_2.2))) (y.1, y.2)).bind fun t_1 => (W.pure t_1.1))
theorem ok_common_divisor {u : Wd} (wo : WOk u) {f : Addr} {fd : FuncData} (hF : Fun u.K "common_divisor" "common_divisor" s_common_divisor f fd) (hm : u.mg "common_divisor" = some (.ref f)) (hbi : Binds u.K fd ["one", "other"] []) :
    Fn u 1 "common_divisor" ["one", "other"] false (fun y : Int × Int => [some (toD y.1), some (toD y.2)]) m_common_divisor := by
  refine fn_ok (n := 0) wo hF hm sc_common_divisor hbi (fun _ => rfl) rfl (fun _ _ => by simp) fun X P Wx hu hbd d y => ?_
  have c := d.toCok
  subst hu
  unfold m_common_divisor
  exact tb_cons (s_while (Nn := fun t_1 : Int × Int => [.dat (toD t_1.1), .dat (toD t_1.2)]) d (y.1, y.2) (.keep (.keep .nil)) (fun t_1 => tx_c c_neI (ex_var c 1) (ex_int)) (fun t_1 => bb_cons (s_par2 d 0 1 (ev_dat (ex_var c 1)) (ev_dat (ex_mod (ex_var c 0) (ex_var c 1)))) fun p_2 => bb_nil (.keep (.keep .nil)))) fun t_1 => tb_ret (ex_var c 0)
abbrev s_common_multiple : Stmt := topS 8
theorem sc_common_multiple : FnScope ["one", "other"] ["one", "other"] (defScope s_common_multiple) := ⟨rfl, rfl, rfl, by decide +kernel, rfl, by decide +kernel, by decide +kernel⟩
def m_common_multiple (y : Int × Int) : W Int :=
  (W.b2 (W.b2 (W.pure y.1) ((W.b2 (W.pure y.1) (W.pure y.2) fun x y => W.pure (x, y)).bind m_common_divisor) fdivW) (W.pure y.2) mulW)
theorem ok_common_multiple {u : Wd} (wo : WOk u) {f : Addr} {fd : FuncData} (hF : Fun u.K "common_multiple" "common_multiple" s_common_multiple f fd) (hm : u.mg "common_multiple" = some (.ref f)) (hbi : Binds u.K fd ["one", "other"] []) (h_common_divisor : Fn u 1 "common_divisor" ["one", "other"] false (fun y : Int × Int => [some (toD y.1), some (toD y.2)]) m_common_divisor) :
    Fn u 2 "common_multiple" ["one", "other"] false (fun y : Int × Int => [some (toD y.1), some (toD y.2)]) m_common_multiple := by
  refine fn_ok (n := 0) wo hF hm sc_common_multiple hbi (fun _ => rfl) rfl (fun _ _ => by simp) fun X P Wx hu hbd d y => ?_
  have c := d.toCok
  subst hu
  unfold m_common_multiple
  exact tb_ret (ex_mul (ex_fdiv (ex_var c 0) (ex_call c h_common_divisor (by decide) (fun h => by cases h) (ao_cons (ex_var c 0) (ao_one (ex_var c 1))))) (ex_var c 1))
abbrev s_checked_change : Stmt := topS 10
theorem sc_checked_change : FnScope ["states", "value", "state"] ["states", "value"] (defScope s_checked_change) := ⟨rfl, rfl, rfl, by decide +kernel, rfl, by decide +kernel, by decide +kernel⟩
def m_checked_change (y : Int × D) : W D :=
  (W.ite (W.or (W.not (W.b1 (W.pure y.2) (isiW isTup))) (W.or (W.b2 (W.b1 (W.pure y.2) lenD) (W.pure y.1) (fun x y => W.pure (!decide (x = y)))) (W.b2 (W.pure y.1) (W.pure (0 : Int)) (fun x y => W.pure (decide (x = y)))))) (raiseW "InvalidChange" (W.pure (0 : Int))) (W.ite (W.not (W.b1 ((seqC D y.2).bind fun l => W.filterW (fun x_3 => nx (W.pure true)) (fun x_3 => nx ((W.b2 (W.pure x_3) (W.pure y.1) fun x y => W.pure (x, y)).bind m_is_index)) l) fun l => W.pure (l.all id))) (raiseW "InvalidChange" (W.pure (0 : Int))) (W.pure y.2)))
theorem ok_checked_change {u : Wd} (wo : WOk u) {f : Addr} {fd : FuncData} (hF : Fun u.K "checked_change" "checked_change" s_checked_change f fd) (hm : u.mg "checked_change" = some (.ref f)) (hbi : Binds u.K fd ["states", "value"] []) (h_is_index : Fn u 3 "is_index" ["value", "many"] false (fun y : D × Int => [some (toD y.1), some (toD y.2)]) m_is_index) {C_InvalidChange : Addr} (hx_InvalidChange : XOk u "InvalidChange" C_InvalidChange) :
    Fn u 4 "checked_change" ["states", "value"] false (fun y : Int × D => [some (toD y.1), some (toD y.2)]) m_checked_change := by
  refine fn_ok (n := 1) wo hF hm sc_checked_change hbi (fun _ => rfl) rfl (fun _ _ => by simp) fun X P Wx hu hbd d y => ?_
  have c := d.toCok
  subst hu
  unfold m_checked_change
  exact tb_if (B := []) (tw (tw_or (tx_not (tx_val (ex_isi c ty_tup (ex_var c 1)))) (tw_or (tx_c c_neI (ex_lenD c (ex_var c 1)) (ex_var c 0)) (tw_or1 (tx_c c_eqI (ex_var c 0) (ex_int)))))) (tb_raise c hx_InvalidChange (ex_int)) (tb_if (B := []) (tx_not (tx_val (ex_all c (ex_fz (en_lc (f := fun x_3 : D => [.dat (toD y.1), .dat (toD y.2), .dat (toD x_3)]) (me := fun x_3 => ((W.b2 (W.pure x_3) (W.pure y.1) fun x y => W.pure (x, y)).bind m_is_index)) c [("state", 2)] (ei_seqC (ex_var c 1)) (by rfl) (fun X_6 c_4 f_5 => ⟨gbn c_4 2, fun x_3 => t_nil, fun x_3 => ex_call c_4 h_is_index (by decide) (fun h => by cases h) (ao_cons (ex_var c_4 2) (ao_one (ex_var c_4 0)))⟩)))))) (tb_raise c hx_InvalidChange (ex_int)) (tb_ret (ex_var c 1)))
abbrev s_idle : Stmt := topS 11
theorem sc_idle : FnScope ["states"] ["states"] (defScope s_idle) := ⟨rfl, rfl, rfl, by decide +kernel, rfl, by decide +kernel, by decide +kernel⟩
def m_idle (y : Int) : W (Tup Int) :=
  (W.b1 (W.b1 (W.pure y) fun n => rngW 0 n) fun l => W.pure (⟨l⟩ : Tup Int))
theorem ok_idle {u : Wd} (wo : WOk u) {f : Addr} {fd : FuncData} (hF : Fun u.K "idle" "idle" s_idle f fd) (hm : u.mg "idle" = some (.ref f)) (hbi : Binds u.K fd ["states"] []) :
    Fn u 1 "idle" ["states"] false (fun y : Int => [some (toD y)]) m_idle := by
  refine fn_ok (n := 0) wo hF hm sc_idle hbi (fun _ => rfl) rfl (fun _ _ => by simp) fun X P Wx hu hbd d y => ?_
  have c := d.toCok
  subst hu
  unfold m_idle
  exact tb_ret (ex_tupRg c (ex_var c 0))
abbrev s_after : Stmt := topS 12
theorem sc_after : FnScope ["one", "other", "state"] ["one", "other"] (defScope s_after) := ⟨rfl, rfl, rfl, by decide +kernel, rfl, by decide +kernel, by decide +kernel⟩
def m_after (y : (Tup Int) × (Tup Int)) : W (Tup Int) :=
  (W.b1 ((W.b1 (W.pure y.1) fun t => W.pure t.l).bind fun l => W.filterW (fun x_7 => nx (W.pure true)) (fun x_7 => nx (W.b2 (W.pure y.2) (W.pure x_7) fun l i => ixW l.l i)) l) fun l => W.pure (⟨l⟩ : Tup Int))
theorem ok_after {u : Wd} (wo : WOk u) {f : Addr} {fd : FuncData} (hF : Fun u.K "after" "after" s_after f fd) (hm : u.mg "after" = some (.ref f)) (hbi : Binds u.K fd ["one", "other"] []) :
    Fn u 1 "after" ["one", "other"] false (fun y : (Tup Int) × (Tup Int) => [some (toD y.1), some (toD y.2)]) m_after := by
  refine fn_ok (n := 1) wo hF hm sc_after hbi (fun _ => rfl) rfl (fun _ _ => by simp) fun X P Wx hu hbd d y => ?_
  have c := d.toCok
  subst hu
  unfold m_after
  exact tb_ret (ex_tupleL c (ex_fz (en_lc (f := fun x_7 : Int => [.dat (toD y.1), .dat (toD y.2), .dat (toD x_7)]) (me := fun x_7 => (W.b2 (W.pure y.2) (W.pure x_7) fun l i => ixW l.l i)) c [("state", 2)] (ei_tup (ex_var c 0)) (by rfl) (fun X_10 c_8 f_9 => ⟨gbn c_8 2, fun x_7 => t_nil, fun x_7 => ex_ix ixT (ex_var c_8 1) (ex_var c_8 2)⟩))))
abbrev s_raised : Stmt := topS 13
theorem sc_raised : FnScope ["change", "count", "step", "found", "left"] ["change", "count"] (defScope s_raised) := ⟨rfl, rfl, rfl, by decide +kernel, rfl, by decide +kernel, by decide +kernel⟩
def m_raised (y : (Tup Int) × Int) : W (Tup Int) :=
  ((W.b3 (W.pure y.1) ((W.b1 (W.pure y.1) (fun l => W.pure (l.l.length : Int))).bind m_idle) (W.pure y.2) fun x y z => W.pure (x, y, z)).bind fun p_11 => ((W.whileW (fun t_12 => (W.b2 (W.pure t_12.2.2) (W.pure (0 : Int)) (fun x y => W.pure (decide (y < x))))) (fun t_12 => ((W.ite (W.b2 (W.b2 (W.pure t_12.2.2) (W.pure (2 : Int)) modW) (W.pure (1 : Int)) (fun x y => W.pure (decide (x = y)))) (((W.b2 (W.pure t_12.1) (W.pure t_12.2.1) fun x y => W.pure (x, y)).bind m_after).bind fun found_15 => W.pure found_15) (W.pure t_12.1)).bind fun t_14 => ((W.b2 ((W.b2 (W.pure t_12.2.1) (W.pure t_12.2.1) fun x y => W.pure (x, y)).bind m_after) (W.b2 (W.pure t_12.2.2) (W.pure (2 : Int)) fdivW) fun x y => W.pure (x, y)).bind fun p_16 => W.pure (t_14, p_16.1, p_16.2)))) (p_11.2.1, p_11.1, p_11.2.2)).bind fun t_12 => (W.pure t_12.1)))
theorem ok_raised {u : Wd} (wo : WOk u) {f : Addr} {fd : FuncData} (hF : Fun u.K "raised" "raised" s_raised f fd) (hm : u.mg "raised" = some (.ref f)) (hbi : Binds u.K fd ["change", "count"] []) (h_after : Fn u 1 "after" ["one", "other"] false (fun y : (Tup Int) × (Tup Int) => [some (toD y.1), some (toD y.2)]) m_after) (h_idle : Fn u 1 "idle" ["states"] false (fun y : Int => [some (toD y)]) m_idle) :
    Fn u 2 "raised" ["change", "count"] false (fun y : (Tup Int) × Int => [some (toD y.1), some (toD y.2)]) m_raised := by
  refine fn_ok (n := 3) wo hF hm sc_raised hbi (fun _ => rfl) rfl (fun _ _ => by simp) fun X P Wx hu hbd d y => ?_
  have c := d.toCok
  subst hu
  unfold m_raised
  exact tb_cons (s_par3 d 2 3 4 (ev_dat (ex_var c 0)) (ev_dat (ex_call c h_idle (by decide) (fun h => by cases h) (ao_one (ex_lenT c (ex_var c 0))))) (ev_dat (ex_var c 1))) fun p_11 => tb_cons (s_while (Nn := fun t_12 : (Tup Int) × (Tup Int) × Int => [.dat (toD y.1), .dat (toD y.2), .dat (toD t_12.2.1), .dat (toD t_12.1), .dat (toD t_12.2.2)]) d (p_11.2.1, p_11.1, p_11.2.2) (.keep (.keep (.keep (.keep (.keep .nil))))) (fun t_12 => tx_c c_gt (ex_var c 4) (ex_int)) (fun t_12 => bb_cons (s_if (Nn := fun t_14 : (Tup Int) => [.dat (toD y.1), .dat (toD y.2), .dat (toD t_12.2.1), .dat (toD t_14), .dat (toD t_12.2.2)]) (tx_c c_eqI (ex_mod (ex_var c 4) (ex_int)) (ex_int)) (bb_cons (s_set d 3 (ex_call c h_after (by decide) (fun h => by cases h) (ao_cons (ex_var c 3) (ao_one (ex_var c 2))))) fun found_15 => bb_nil (.keep (.keep (.keep (.keep (.keep .nil)))))) (bb_nil (.keep (.keep (.keep (.keep (.keep .nil))))))) fun t_14 => bb_cons (s_par2 d 2 4 (ev_dat (ex_call c h_after (by decide) (fun h => by cases h) (ao_cons (ex_var c 2) (ao_one (ex_var c 2))))) (ev_dat (ex_fdiv (ex_var c 4) (ex_int)))) fun p_16 => bb_nil (.keep (.keep (.keep (.keep (.keep .nil))))))) fun t_12 => tb_ret (ex_var c 3)
abbrev s_size_of : Stmt := topS 14
theorem sc_size_of : FnScope ["change"] ["change"] (defScope s_size_of) := ⟨rfl, rfl, rfl, by decide +kernel, rfl, by decide +kernel, by decide +kernel⟩
def m_size_of (y : D) : W Int :=
  (W.ite (W.b1 (W.pure y) (isiW isTup)) (W.b1 (W.pure y) lenD) (W.pure (0 : Int)))
theorem ok_size_of {u : Wd} (wo : WOk u) {f : Addr} {fd : FuncData} (hF : Fun u.K "size_of" "size_of" s_size_of f fd) (hm : u.mg "size_of" = some (.ref f)) (hbi : Binds u.K fd ["change"] []) :
    Fn u 1 "size_of" ["change"] false (fun y : D => [some (toD y)]) m_size_of := by
  refine fn_ok (n := 0) wo hF hm sc_size_of hbi (fun _ => rfl) rfl (fun _ _ => by simp) fun X P Wx hu hbd d y => ?_
  have c := d.toCok
  subst hu
  unfold m_size_of
  exact tb_ret (ex_if (tx_val (ex_isi c ty_tup (ex_var c 0))) (ex_lenD c (ex_var c 0)) (ex_int))
abbrev s_checked : Stmt := topS 15
theorem sc_checked : FnScope ["change"] ["change"] (defScope s_checked) := ⟨rfl, rfl, rfl, by decide +kernel, rfl, by decide +kernel, by decide +kernel⟩
def m_checked (y : D) : W (Tup Int) :=
  (W.b1 ((W.b2 ((W.pure y).bind m_size_of) (W.pure y) fun x y => W.pure (x, y)).bind m_checked_change) (castW (α := (Tup Int))))
theorem ok_checked {u : Wd} (wo : WOk u) {f : Addr} {fd : FuncData} (hF : Fun u.K "checked" "checked" s_checked f fd) (hm : u.mg "checked" = some (.ref f)) (hbi : Binds u.K fd ["change"] []) (h_checked_change : Fn u 4 "checked_change" ["states", "value"] false (fun y : Int × D => [some (toD y.1), some (toD y.2)]) m_checked_change) (h_size_of : Fn u 1 "size_of" ["change"] false (fun y : D => [some (toD y)]) m_size_of) :
    Fn u 5 "checked" ["change"] false (fun y : D => [some (toD y)]) m_checked := by
  refine fn_ok (n := 0) wo hF hm sc_checked hbi (fun _ => rfl) rfl (fun _ _ => by simp) fun X P Wx hu hbd d y => ?_
  have c := d.toCok
  subst hu
  unfold m_checked
  exact tb_ret (ex_cast (ex_call c h_checked_change (by decide) (fun h => by cases h) (ao_cons (ex_call c h_size_of (by decide) (fun h => by cases h) (ao_one (ex_var c 0))) (ao_one (ex_var c 0)))))
abbrev s_power : Stmt := topS 16
theorem sc_power : FnScope ["change", "count"] ["change", "count"] (defScope s_power) := ⟨rfl, rfl, rfl, by decide +kernel, rfl, by decide +kernel, by decide +kernel⟩
def m_power (y : D × Int) : W (Tup Int) :=
  ((W.b2 ((W.pure y.1).bind m_checked) (W.pure y.2) fun x y => W.pure (x, y)).bind m_raised)
theorem ok_power {u : Wd} (wo : WOk u) {f : Addr} {fd : FuncData} (hF : Fun u.K "power" "power" s_power f fd) (hm : u.mg "power" = some (.ref f)) (hbi : Binds u.K fd ["change", "count"] []) (h_checked : Fn u 5 "checked" ["change"] false (fun y : D => [some (toD y)]) m_checked) (h_raised : Fn u 2 "raised" ["change", "count"] false (fun y : (Tup Int) × Int => [some (toD y.1), some (toD y.2)]) m_raised) :
    Fn u 6 "power" ["change", "count"] false (fun y : D × Int => [some (toD y.1), some (toD y.2)]) m_power := by
  refine fn_ok (n := 0) wo hF hm sc_power hbi (fun _ => rfl) rfl (fun _ _ => by simp) fun X P Wx hu hbd d y => ?_
  have c := d.toCok
  subst hu
  unfold m_power
  exact tb_ret (ex_call c h_raised (by decide) (fun h => by cases h) (ao_cons (ex_call c h_checked (by decide) (fun h => by cases h) (ao_one (ex_var c 0))) (ao_one (ex_var c 1))))
abbrev s_tail_and_ring : Stmt := topS 17
theorem sc_tail_and_ring : FnScope ["change", "longest", "length", "state", "steps", "at"] ["change"] (defScope s_tail_and_ring) := ⟨rfl, rfl, rfl, by decide +kernel, rfl, by decide +kernel, by decide +kernel⟩
def m_tail_and_ring (y : (Tup Int)) : W (Int × Int) :=
  ((W.b1 (W.b2 (W.pure (0 : Int)) (W.pure (1 : Int)) fun x y => W.pure (x, y)) fun x => W.pure x).bind fun p_17 => (((W.b1 (W.b1 (W.pure y) (fun l => W.pure (l.l.length : Int))) fun n => rngW 0 n).bind fun l => W.forW l (fun x_19 t_18 => ((W.b2 (W.pure ([] : List (Int × Int))) (W.pure x_19) fun x y => W.pure (x, y)).bind fun p_20 => ((W.whileW (fun t_21 => (W.b2 (W.pure t_21.2) (W.pure (⟨t_21.1⟩ : DI Int)) fun k d => W.pure (!(getM d.m k).isSome))) (fun t_21 => (((W.b2 (W.b1 (W.pure (⟨t_21.1⟩ : DI Int)) fun d => W.pure (d.m.length : Int)) (W.b2 (W.pure y) (W.pure t_21.2) fun l i => ixW l.l i) fun x y => W.pure (x, y)).bind fun p => (W.pure t_21.2).bind fun k => W.need (t_21.1.length < 16777216) (putM t_21.1 k p.1, p.2)).bind fun p_22 => W.pure (p_22.1, p_22.2))) (p_20.1, p_20.2)).bind fun t_21 => ((W.b2 (W.pure t_18.1) (W.b2 (W.pure (⟨t_21.1⟩ : DI Int)) (W.pure t_21.2) fun d k => getW d.m k) fun i j => W.pure (max i j)).bind fun longest_23 => (((W.b2 (W.pure t_18.2) (W.b2 (W.b1 (W.pure (⟨t_21.1⟩ : DI Int)) fun d => W.pure (d.m.length : Int)) (W.b2 (W.pure (⟨t_21.1⟩ : DI Int)) (W.pure t_21.2) fun d k => getW d.m k) fun x y => W.pure (x - y)) fun x y => W.pure (x, y)).bind m_common_multiple).bind fun length_24 => W.pure (longest_23, length_24)))))) (p_17.1, p_17.2)).bind fun t_18 => (W.b1 (W.b2 (W.pure t_18.1) (W.pure t_18.2) fun x y => W.pure (x, y)) fun x => W.pure x)))
theorem ok_tail_and_ring {u : Wd} (wo : WOk u) {f : Addr} {fd : FuncData} (hF : Fun u.K "tail_and_ring" "tail_and_ring" s_tail_and_ring f fd) (hm : u.mg "tail_and_ring" = some (.ref f)) (hbi : Binds u.K fd ["change"] []) (h_common_multiple : Fn u 2 "common_multiple" ["one", "other"] false (fun y : Int × Int => [some (toD y.1), some (toD y.2)]) m_common_multiple) :
    Fn u 3 "tail_and_ring" ["change"] false (fun y : (Tup Int) => [some (toD y)]) m_tail_and_ring := by
  refine fn_ok (n := 5) wo hF hm sc_tail_and_ring hbi (fun _ => rfl) rfl (fun _ _ => by simp) fun X P Wx hu hbd d y => ?_
  have c := d.toCok
  subst hu
  unfold m_tail_and_ring
  exact tb_cons (s_unp (f := fun p_17 : (Int × Int) => [.dat (toD y), .dat (toD p_17.1), .dat (toD p_17.2), .un, .un, .un]) d (ex_tup (f := fun x : (Int × Int) => x) (ea_cons (ex_int) (ea_one (ex_int))) (fun _ => rfl)) (gt_pair c (gt_name d 1) fun _ => gt_name d 2)) fun p_17 => tb_cons (s_for (f := fun (x_19 : Int) (t_18 : Int × Int) => [.dat (toD y), .dat (toD t_18.1), .dat (toD t_18.2), .dat (toD x_19), .un, .un]) (Nn := fun t_18 : Int × Int => [.dat (toD y), .dat (toD t_18.1), .dat (toD t_18.2), .un, .un, .un]) d (p_17.1, p_17.2) (ei_range1 c (ex_lenT c (ex_var c 0))) (.keep (.keep (.keep (.keep (.keep (.keep .nil)))))) (fun t_18 => gt_name d 3) (fun x_19 t_18 => bb_cons (s_par2 d 4 5 (ev_dictI (γ := Int)) (ev_dat (ex_var c 3))) fun p_20 => bb_cons (s_while (Nn := fun t_21 : (List (Int × Int)) × Int => [.dat (toD y), .dat (toD t_18.1), .dat (toD t_18.2), .dat (toD x_19), slI t_21.1, .dat (toD t_21.2)]) d (p_20.1, p_20.2) (.keep (.keep (.keep (.keep (.keep (.keep .nil)))))) (fun t_21 => tx_borK (lenI t_21.1) 4 (tx_notinI c (ex_var c 5) (ex_var c 4))) (fun t_21 => bb_cons (s_putA d 4 5 (ex_borK (lenI t_21.1) 4 (ex_lenI c (ex_var c 4))) (ex_ix ixT (ex_var c 0) (ex_var c 5)) (ex_var c 5)) fun p_22 => bb_nil (.keep (.keep (.keep (.keep (.keep (.keep .nil)))))))) fun t_21 => bb_cons (s_set d 1 (ex_borK (lenI t_21.1) 4 (ex_max2 c (ex_var c 1) (ex_getI c (ex_var c 4) (ex_var c 5))))) fun longest_23 => bb_cons (s_set d 2 (ex_borK (lenI t_21.1) 4 (ex_call c h_common_multiple (by decide) (fun h => by cases h) (ao_cons (ex_var c 2) (ao_one (ex_sub (ex_lenI c (ex_var c 4)) (ex_getI c (ex_var c 4) (ex_var c 5)))))))) fun length_24 => bb_nil (.keep (.keep (.keep (.drop (.drop (.drop .nil)))))))) fun t_18 => tb_ret (ex_tup (f := fun x : (Int × Int) => x) (ea_cons (ex_var c 1) (ea_one (ex_var c 2))) (fun _ => rfl))
abbrev s_tail : Stmt := topS 18
theorem sc_tail : FnScope ["change"] ["change"] (defScope s_tail) := ⟨rfl, rfl, rfl, by decide +kernel, rfl, by decide +kernel, by decide +kernel⟩
def m_tail (y : D) : W Int :=
  (W.b1 (((W.pure y).bind m_checked).bind m_tail_and_ring) fun x => W.pure x.1)
theorem ok_tail {u : Wd} (wo : WOk u) {f : Addr} {fd : FuncData} (hF : Fun u.K "tail" "tail" s_tail f fd) (hm : u.mg "tail" = some (.ref f)) (hbi : Binds u.K fd ["change"] []) (h_checked : Fn u 5 "checked" ["change"] false (fun y : D => [some (toD y)]) m_checked) (h_tail_and_ring : Fn u 3 "tail_and_ring" ["change"] false (fun y : (Tup Int) => [some (toD y)]) m_tail_and_ring) :
    Fn u 6 "tail" ["change"] false (fun y : D => [some (toD y)]) m_tail := by
  refine fn_ok (n := 0) wo hF hm sc_tail hbi (fun _ => rfl) rfl (fun _ _ => by simp) fun X P Wx hu hbd d y => ?_
  have c := d.toCok
  subst hu
  unfold m_tail
  exact tb_ret (ex_fst (ex_call c h_tail_and_ring (by decide) (fun h => by cases h) (ao_one (ex_call c h_checked (by decide) (fun h => by cases h) (ao_one (ex_var c 0))))))
abbrev s_ring : Stmt := topS 19
theorem sc_ring : FnScope ["change"] ["change"] (defScope s_ring) := ⟨rfl, rfl, rfl, by decide +kernel, rfl, by decide +kernel, by decide +kernel⟩
def m_ring (y : D) : W Int :=
  (W.b1 (((W.pure y).bind m_checked).bind m_tail_and_ring) fun x => W.pure x.2)
theorem ok_ring {u : Wd} (wo : WOk u) {f : Addr} {fd : FuncData} (hF : Fun u.K "ring" "ring" s_ring f fd) (hm : u.mg "ring" = some (.ref f)) (hbi : Binds u.K fd ["change"] []) (h_checked : Fn u 5 "checked" ["change"] false (fun y : D => [some (toD y)]) m_checked) (h_tail_and_ring : Fn u 3 "tail_and_ring" ["change"] false (fun y : (Tup Int) => [some (toD y)]) m_tail_and_ring) :
    Fn u 6 "ring" ["change"] false (fun y : D => [some (toD y)]) m_ring := by
  refine fn_ok (n := 0) wo hF hm sc_ring hbi (fun _ => rfl) rfl (fun _ _ => by simp) fun X P Wx hu hbd d y => ?_
  have c := d.toCok
  subst hu
  unfold m_ring
  exact tb_ret (ex_snd (ex_call c h_tail_and_ring (by decide) (fun h => by cases h) (ao_one (ex_call c h_checked (by decide) (fun h => by cases h) (ao_one (ex_var c 0))))))
abbrev s_least_count : Stmt := topS 20
theorem sc_least_count : FnScope ["change", "count", "first", "length"] ["change", "count"] (defScope s_least_count) := ⟨rfl, rfl, rfl, by decide +kernel, rfl, by decide +kernel, by decide +kernel⟩
def m_least_count (y : D × Int) : W Int :=
  ((((W.pure y.1).bind m_checked).bind m_tail_and_ring).bind fun p_25 => (W.ite (W.b2 (W.pure y.2) (W.pure p_25.1) (fun x y => W.pure (decide (x < y)))) (W.pure y.2) (W.b2 (W.pure p_25.1) (W.b2 (W.b2 (W.pure y.2) (W.pure p_25.1) fun x y => W.pure (x - y)) (W.pure p_25.2) modW) fun x y => W.pure (x + y))))
theorem ok_least_count {u : Wd} (wo : WOk u) {f : Addr} {fd : FuncData} (hF : Fun u.K "least_count" "least_count" s_least_count f fd) (hm : u.mg "least_count" = some (.ref f)) (hbi : Binds u.K fd ["change", "count"] []) (h_checked : Fn u 5 "checked" ["change"] false (fun y : D => [some (toD y)]) m_checked) (h_tail_and_ring : Fn u 3 "tail_and_ring" ["change"] false (fun y : (Tup Int) => [some (toD y)]) m_tail_and_ring) :
    Fn u 6 "least_count" ["change", "count"] false (fun y : D × Int => [some (toD y.1), some (toD y.2)]) m_least_count := by
  refine fn_ok (n := 2) wo hF hm sc_least_count hbi (fun _ => rfl) rfl (fun _ _ => by simp) fun X P Wx hu hbd d y => ?_
  have c := d.toCok
  subst hu
  unfold m_least_count
  exact tb_cons (s_unp (f := fun p_25 : (Int × Int) => [.dat (toD y.1), .dat (toD y.2), .dat (toD p_25.1), .dat (toD p_25.2)]) d (ex_call c h_tail_and_ring (by decide) (fun h => by cases h) (ao_one (ex_call c h_checked (by decide) (fun h => by cases h) (ao_one (ex_var c 0))))) (gt_pair c (gt_name d 2) fun _ => gt_name d 3)) fun p_25 => tb_ret (ex_if (tx_c c_lt (ex_var c 1) (ex_var c 2)) (ex_var c 1) (ex_add (ex_var c 2) (ex_mod (ex_sub (ex_var c 1) (ex_var c 2)) (ex_var c 3))))
abbrev s_law_same : Stmt := topS 22
theorem sc_law_same : FnScope ["told", "due", "one", "other"] ["told", "due"] (defScope s_law_same) := ⟨rfl, rfl, rfl, by decide +kernel, rfl, by decide +kernel, by decide +kernel⟩
def m_same0 (y : D × D) : W Bool :=
  (W.ite (W.b1 (W.pure y.2) (isiW fun d => isTup d || isLst d)) W.stuck (W.ite (W.or (W.b2 (W.pure y.2) (W.pure ()) (fun (x : D) (_ : Unit) => W.pure (isNon (toD x)))) (W.b1 (W.pure y.2) (isiW isBool))) (W.ite (W.b2 (W.pure y.2) (W.pure ()) (fun (x : D) (_ : Unit) => W.pure (isNon (toD x)))) (W.b2 (W.pure y.1) (W.pure ()) (fun (x : D) (_ : Unit) => W.pure (isNon (toD x)))) (W.and (W.b1 (W.pure y.1) (isiW isBool)) (W.b2 (W.pure y.1) (W.pure y.2) eqWD))) (W.ite (W.b1 (W.pure y.2) (isiW isStr)) (W.and (W.b1 (W.pure y.1) (isiW isStr)) (W.b2 (W.pure y.1) (W.pure y.2) eqWD)) (W.and (W.b1 (W.pure y.2) (isiW isInt)) (W.and (W.b1 (W.pure y.1) (isiW isInt)) (W.and (W.not (W.b1 (W.pure y.1) (isiW isBool))) (W.b2 (W.pure y.1) (W.pure y.2) eqWD)))))))
def m_same1 (rc : D × D → W Bool) (y : D × D) : W Bool :=
  (W.ite (W.b1 (W.pure y.2) (isiW fun d => isTup d || isLst d)) (W.ite (W.or (W.b2 (W.b1 (W.pure y.2) (isiW isTup)) (W.b1 (W.pure y.1) (isiW isTup)) (fun x y => W.pure (!decide (x = y)))) (W.or (W.not (W.b1 (W.pure y.1) (isiW fun d => isTup d || isLst d))) (W.b2 (W.b1 (W.pure y.1) lenD) (W.b1 (W.pure y.2) lenD) (fun x y => W.pure (!decide (x = y)))))) (W.pure false) (W.b1 ((W.b2 (W.pure y.1) (W.pure y.2) zipD).bind fun l => W.filterW (fun x_26 => nx (W.pure true)) (fun x_26 => nx ((W.b2 (W.pure x_26.1) (W.pure x_26.2) fun x y => W.pure (x, y)).bind rc)) l) fun l => W.pure (l.all id))) (W.ite (W.or (W.b2 (W.pure y.2) (W.pure ()) (fun (x : D) (_ : Unit) => W.pure (isNon (toD x)))) (W.b1 (W.pure y.2) (isiW isBool))) (W.ite (W.b2 (W.pure y.2) (W.pure ()) (fun (x : D) (_ : Unit) => W.pure (isNon (toD x)))) (W.b2 (W.pure y.1) (W.pure ()) (fun (x : D) (_ : Unit) => W.pure (isNon (toD x)))) (W.and (W.b1 (W.pure y.1) (isiW isBool)) (W.b2 (W.pure y.1) (W.pure y.2) eqWD))) (W.ite (W.b1 (W.pure y.2) (isiW isStr)) (W.and (W.b1 (W.pure y.1) (isiW isStr)) (W.b2 (W.pure y.1) (W.pure y.2) eqWD)) (W.and (W.b1 (W.pure y.2) (isiW isInt)) (W.and (W.b1 (W.pure y.1) (isiW isInt)) (W.and (W.not (W.b1 (W.pure y.1) (isiW isBool))) (W.b2 (W.pure y.1) (W.pure y.2) eqWD)))))))
def m_sameN : Nat → D × D → W Bool | 0 => m_same0 | n + 1 => m_same1 (m_sameN n)
abbrev m_law_same : D × D → W Bool := m_sameN 11
theorem ok_same0 {u : Wd} (wo : WOk u) {f : Addr} {fd : FuncData} (hF : Fun u.K "_law_same" "_law_same" s_law_same f fd) (hm : u.mg "_law_same" = some (.ref f)) (hbi : Binds u.K fd ["told", "due"] []) : Fn u 1 "_law_same" ["told", "due"] false (fun y : D × D => [some (toD y.1), some (toD y.2)]) m_same0 := by
  refine fn_ok (n := 2) wo hF hm sc_law_same hbi (fun _ => rfl) rfl (fun _ _ => by simp) fun X P Wx hu hbd d y => ?_
  have c := d.toCok
  subst hu
  unfold m_same0
  exact tb_if (B := []) (tx_val (ex_isi2 c ty_tup ty_lst (ex_var c 1))) tb_stuck (tb_if (B := []) (tw (tw_or (tx_c c_isN (ex_var c 1) (ex_non)) (tw_or1 (tx_val (ex_isi c ty_bool (ex_var c 1)))))) (tb_ret (ex_if (tx_c c_isN (ex_var c 1) (ex_non)) (ex_c c_isN (ex_var c 0) (ex_non)) (ex_and (ex_isi c ty_bool (ex_var c 0)) (ex_one (ex_c (c_eqD c) (ex_var c 0) (ex_var c 1)))))) (tb_if (B := []) (tx_val (ex_isi c ty_str (ex_var c 1))) (tb_ret (ex_and (ex_isi c ty_str (ex_var c 0)) (ex_one (ex_c (c_eqD c) (ex_var c 0) (ex_var c 1))))) (tb_ret (ex_and (ex_isi c ty_int (ex_var c 1)) (ex_and (ex_isi c ty_int (ex_var c 0)) (ex_and (ex_not (ex_isi c ty_bool (ex_var c 0))) (ex_one (ex_c (c_eqD c) (ex_var c 0) (ex_var c 1)))))))))
theorem ok_same1 {u : Wd} (wo : WOk u) {f : Addr} {fd : FuncData} (hF : Fun u.K "_law_same" "_law_same" s_law_same f fd) (hm : u.mg "_law_same" = some (.ref f)) (hbi : Binds u.K fd ["told", "due"] []) {k : Nat} {rc : D × D → W Bool} (h_law_same : Fn u k "_law_same" ["told", "due"] false (fun y : D × D => [some (toD y.1), some (toD y.2)]) rc) : Fn u (k + 1) "_law_same" ["told", "due"] false (fun y : D × D => [some (toD y.1), some (toD y.2)]) (m_same1 rc) := by
  refine fn_ok (n := 2) wo hF hm sc_law_same hbi (fun _ => rfl) rfl (fun _ _ => by simp) fun X P Wx hu hbd d y => ?_
  have c := d.toCok
  subst hu
  unfold m_same1
  exact tb_if (B := []) (tx_val (ex_isi2 c ty_tup ty_lst (ex_var c 1))) (tb_if (B := []) (tw (tw_or (tx_c c_neB (ex_isi c ty_tup (ex_var c 1)) (ex_isi c ty_tup (ex_var c 0))) (tw_or (tx_not (tx_val (ex_isi2 c ty_tup ty_lst (ex_var c 0)))) (tw_or1 (tx_c c_neI (ex_lenD c (ex_var c 0)) (ex_lenD c (ex_var c 1))))))) (tb_ret (ex_bl)) (tb_ret (ex_all c (ex_fz (en_lc (f := fun x_26 : (D × D) => [.dat (toD y.1), .dat (toD y.2), .dat (toD x_26.1), .dat (toD x_26.2)]) (me := fun x_26 => ((W.b2 (W.pure x_26.1) (W.pure x_26.2) fun x y => W.pure (x, y)).bind rc)) c [("one", 2), ("other", 3)] (ei_zipD c (ex_var c 0) (ex_var c 1)) (by rfl) (fun X_29 c_27 f_28 => ⟨gb_pair c_27.calm (gbn c_27 2) fun _ => gbn c_27 3, fun x_26 => t_nil, fun x_26 => ex_call c_27 h_law_same (Nat.le_refl _) (fun h => by cases h) (ao_cons (ex_var c_27 2) (ao_one (ex_var c_27 3)))⟩)))))) (tb_if (B := []) (tw (tw_or (tx_c c_isN (ex_var c 1) (ex_non)) (tw_or1 (tx_val (ex_isi c ty_bool (ex_var c 1)))))) (tb_ret (ex_if (tx_c c_isN (ex_var c 1) (ex_non)) (ex_c c_isN (ex_var c 0) (ex_non)) (ex_and (ex_isi c ty_bool (ex_var c 0)) (ex_one (ex_c (c_eqD c) (ex_var c 0) (ex_var c 1)))))) (tb_if (B := []) (tx_val (ex_isi c ty_str (ex_var c 1))) (tb_ret (ex_and (ex_isi c ty_str (ex_var c 0)) (ex_one (ex_c (c_eqD c) (ex_var c 0) (ex_var c 1))))) (tb_ret (ex_and (ex_isi c ty_int (ex_var c 1)) (ex_and (ex_isi c ty_int (ex_var c 0)) (ex_and (ex_not (ex_isi c ty_bool (ex_var c 0))) (ex_one (ex_c (c_eqD c) (ex_var c 0) (ex_var c 1)))))))))
theorem ok_law_same {u : Wd} (wo : WOk u) {f : Addr} {fd : FuncData} (hF : Fun u.K "_law_same" "_law_same" s_law_same f fd) (hm : u.mg "_law_same" = some (.ref f)) (hbi : Binds u.K fd ["told", "due"] []) : Fn u 12 "_law_same" ["told", "due"] false (fun y : D × D => [some (toD y.1), some (toD y.2)]) m_law_same := by
  have key : ∀ n, Fn u (n + 1) "_law_same" ["told", "due"] false (fun y : D × D => [some (toD y.1), some (toD y.2)]) (m_sameN n) := fun n => by
    induction n with
    | zero => exact ok_same0 wo hF hm hbi
    | succ n ih => exact ok_same1 wo hF hm hbi ih
  exact key 11
abbrev s_law_mixed : Stmt := topS 26
theorem sc_law_mixed : FnScope ["deal", "some", "left", "found"] ["deal", "some"] (defScope s_law_mixed) := ⟨rfl, rfl, rfl, by decide +kernel, rfl, by decide +kernel, by decide +kernel⟩
def m_law_mixed {α : Type} [Py α] (y : (List α)) : W (List α) :=
  ((W.b2 (W.b1 (W.pure y) fun l => W.pure l) (W.b1 (W.pure ()) fun x => W.pure ([] : List α)) fun x y => W.pure (x, y)).bind fun p_30 => ((W.whileW (fun t_31 => (W.b2 (W.pure t_31.2) (W.b1 (W.pure ()) fun x => W.pure ([] : List α)) neWD)) (fun t_31 => (((((W.b1 (W.pure t_31.2) (fun l => W.pure (l.length : Int))).bind m_law_any).bind fun j => popW t_31.2 j).bind fun a => W.need (t_31.1.length < 16777216) a).bind fun found_32 => W.pure ((t_31.1 ++ [found_32.1]), found_32.2))) (p_30.2, p_30.1)).bind fun t_31 => (W.pure t_31.1)))
theorem ok_law_mixed {u : Wd} (wo : WOk u) {f : Addr} {fd : FuncData} (hF : Fun u.K "_law_mixed" "_law_mixed" s_law_mixed f fd) (hm : u.mg "_law_mixed" = some (.ref f)) (hbi : Binds u.K fd ["deal", "some"] []) (h_law_any : Fn u 1 "_law_any" ["deal", "bound"] true (fun y : Int => [none, some (toD y)]) m_law_any) :
    ∀ {α : Type} [Py α], Fn u 2 "_law_mixed" ["deal", "some"] true (fun y : (List α) => [none, some (toD y)]) (m_law_mixed (α := α)) := by
  intro α _
  refine fn_ok (n := 2) wo hF hm sc_law_mixed hbi (fun _ => rfl) rfl (fun _ h => by cases h) fun X P Wx hu hbd d y => ?_
  have c := d.toCok
  subst hu
  unfold m_law_mixed
  exact tb_cons (s_par2 d 2 3 (ev_own (en_listL c (ex_var c 1))) (ev_own (en_lst (f := fun x : Unit => ([] : List α)) (ea_nil) (fun _ => rfl)))) fun p_30 => tb_cons (s_while (Nn := fun t_31 : (List α) × (List α) => [.deal, .dat (toD y), .own (t_31.2.map toD), .own (t_31.1.map toD)]) d (p_30.2, p_30.1) (.keep (.keep (.keep (.keep .nil)))) (fun t_31 => tx_bor 2 (tx_c (c_neD c) (ex_var c 2) (ex_fz (en_lst (f := fun x : Unit => ([] : List α)) (ea_nil) (fun _ => rfl))))) (fun t_31 => bb_cons (s_appendP c 3 (ep_popAt c 2 (ex_bor 2 (ex_call c h_law_any (by decide) (fun _ => hbd) (ao_deal c 0 (ao_one (ex_lenL c (ex_var c 2)))))))) fun found_32 => bb_nil (.keep (.keep (.keep (.keep .nil)))))) fun t_31 => tb_fz (l := t_31.1) 3 (tb_ret (ex_var c 3))
abbrev s_law_then : Stmt := topS 27
theorem sc_law_then : FnScope ["one", "other", "state"] ["one", "other"] (defScope s_law_then) := ⟨rfl, rfl, rfl, by decide +kernel, rfl, by decide +kernel, by decide +kernel⟩
def m_law_then (y : (Tup Int) × (Tup Int)) : W (Tup Int) :=
  (W.b1 ((W.b1 (W.pure y.1) fun t => W.pure t.l).bind fun l => W.filterW (fun x_33 => nx (W.pure true)) (fun x_33 => nx (W.b2 (W.pure y.2) (W.pure x_33) fun l i => ixW l.l i)) l) fun l => W.pure (⟨l⟩ : Tup Int))
theorem ok_law_then {u : Wd} (wo : WOk u) {f : Addr} {fd : FuncData} (hF : Fun u.K "_law_then" "_law_then" s_law_then f fd) (hm : u.mg "_law_then" = some (.ref f)) (hbi : Binds u.K fd ["one", "other"] []) :
    Fn u 1 "_law_then" ["one", "other"] false (fun y : (Tup Int) × (Tup Int) => [some (toD y.1), some (toD y.2)]) m_law_then := by
  refine fn_ok (n := 1) wo hF hm sc_law_then hbi (fun _ => rfl) rfl (fun _ _ => by simp) fun X P Wx hu hbd d y => ?_
  have c := d.toCok
  subst hu
  unfold m_law_then
  exact tb_ret (ex_tupleL c (ex_fz (en_lc (f := fun x_33 : Int => [.dat (toD y.1), .dat (toD y.2), .dat (toD x_33)]) (me := fun x_33 => (W.b2 (W.pure y.2) (W.pure x_33) fun l i => ixW l.l i)) c [("state", 2)] (ei_tup (ex_var c 0)) (by rfl) (fun X_36 c_34 f_35 => ⟨gbn c_34 2, fun x_33 => t_nil, fun x_33 => ex_ix ixT (ex_var c_34 1) (ex_var c_34 2)⟩))))
abbrev s_law_power : Stmt := topS 28
theorem sc_law_power : FnScope ["one", "count", "found", "state", "path", "back"] ["one", "count"] (defScope s_law_power) := ⟨rfl, rfl, rfl, by decide +kernel, rfl, by decide +kernel, by decide +kernel⟩
def m_law_power (y : (Tup Int) × Int) : W (Tup Int) :=
  ((W.b1 (W.pure ()) fun x => W.pure ([] : List Int)).bind fun found_37 => (((W.b1 (W.b1 (W.pure y.1) (fun l => W.pure (l.l.length : Int))) fun n => rngW 0 n).bind fun l => W.forW l (fun x_39 t_38 => ((W.b1 (W.pure x_39) fun x => W.pure ([x] : List Int)).bind fun path_40 => ((W.whileW (fun t_41 => (W.and (W.b2 (W.b1 (W.pure t_41) (fun l => W.pure (l.length : Int))) (W.pure y.2) (fun x y => W.pure (decide (x ≤ y)))) (W.b2 (W.b2 (W.pure y.1) (W.b2 (W.pure t_41) (W.b1 (W.pure (1 : Int)) fun x => W.pure (-x)) fun l i => ixW l i) fun l i => ixW l.l i) (W.pure t_41) (fun (x : Int) (l : (List Int)) => W.pure (!decide (x ∈ l)))))) (fun t_41 => (((W.b2 (W.pure y.1) (W.b1 (W.b1 (W.pure (1 : Int)) fun x => W.pure (-x)) fun j => ixW t_41 j) fun l i => ixW l.l i).bind fun a => W.need (t_41.length < 16777216) a).bind fun path_42 => W.pure (t_41 ++ [path_42]))) path_40).bind fun t_41 => ((W.ite (W.b2 (W.pure y.2) (W.b1 (W.pure t_41) (fun l => W.pure (l.length : Int))) (fun x y => W.pure (decide (x < y)))) (((W.b1 (W.pure y.2) fun j => ixW t_41 j).bind fun a => W.need (t_38.length < 16777216) a).bind fun found_47 => W.pure (t_38 ++ [found_47])) ((W.b2 (W.pure t_41) (W.b2 (W.pure y.1) (W.b2 (W.pure t_41) (W.b1 (W.pure (1 : Int)) fun x => W.pure (-x)) fun l i => ixW l i) fun l i => ixW l.l i) indexW).bind fun back_48 => (((W.b1 (W.b2 (W.pure back_48) (W.b2 (W.b1 (W.b2 (W.pure y.2) (W.pure back_48) fun x y => W.pure (x - y)) fun i => W.pure i) (W.b2 (W.b1 (W.pure t_41) (fun l => W.pure (l.length : Int))) (W.pure back_48) fun x y => W.pure (x - y)) modW) fun x y => W.pure (x + y)) fun j => ixW t_41 j).bind fun a => W.need (t_38.length < 16777216) a).bind fun found_49 => W.pure (t_38 ++ [found_49])))).bind fun t_46 => W.pure t_46)))) found_37).bind fun t_38 => (W.b1 (W.pure t_38) fun l => W.pure (⟨l⟩ : Tup Int))))
theorem ok_law_power {u : Wd} (wo : WOk u) {f : Addr} {fd : FuncData} (hF : Fun u.K "_law_power" "_law_power" s_law_power f fd) (hm : u.mg "_law_power" = some (.ref f)) (hbi : Binds u.K fd ["one", "count"] []) :
    Fn u 1 "_law_power" ["one", "count"] false (fun y : (Tup Int) × Int => [some (toD y.1), some (toD y.2)]) m_law_power := by
  refine fn_ok (n := 4) wo hF hm sc_law_power hbi (fun _ => rfl) rfl (fun _ _ => by simp) fun X P Wx hu hbd d y => ?_
  have c := d.toCok
  subst hu
  unfold m_law_power
  exact tb_cons (s_own d 2 (en_lst (f := fun x : Unit => ([] : List Int)) (ea_nil) (fun _ => rfl))) fun found_37 => tb_cons (s_for (f := fun (x_39 : Int) (t_38 : (List Int)) => [.dat (toD y.1), .dat (toD y.2), .own (t_38.map toD), .dat (toD x_39), .un, .un]) (Nn := fun t_38 : (List Int) => [.dat (toD y.1), .dat (toD y.2), .own (t_38.map toD), .un, .un, .un]) d found_37 (ei_range1 c (ex_lenT c (ex_var c 0))) (.keep (.keep (.keep (.keep (.keep (.keep .nil)))))) (fun t_38 => gt_name d 3) (fun x_39 t_38 => bb_cons (s_own d 4 (en_lst (f := fun x : Int => ([x] : List Int)) (ea_one (ex_var c 3)) (fun _ => rfl))) fun path_40 => bb_cons (s_while (Nn := fun t_41 : (List Int) => [.dat (toD y.1), .dat (toD y.2), .own (t_38.map toD), .dat (toD x_39), .own (t_41.map toD), .un]) d path_40 (.keep (.keep (.keep (.keep (.keep (.keep .nil)))))) (fun t_41 => tw (tw_and (tx_bor 4 (tx_c c_le (ex_lenL c (ex_var c 4)) (ex_var c 1))) (tw_and1 (tx_bor 4 (tx_c c_notinL (ex_ix ixT (ex_var c 0) (ex_ix ixL (ex_var c 4) (ex_neg (ex_int)))) (ex_var c 4)))))) (fun t_41 => bb_cons (s_append c 4 (ex_ix ixT (ex_var c 0) (ex_ownIx c 4 (ex_neg (ex_int))))) fun path_42 => bb_nil (.keep (.keep (.keep (.keep (.keep (.keep .nil)))))))) fun t_41 => bb_cons (s_if (Nn := fun t_46 : (List Int) => [.dat (toD y.1), .dat (toD y.2), .own (t_46.map toD), .dat (toD x_39), .own (t_41.map toD), .un]) (tx_bor 4 (tx_c c_lt (ex_var c 1) (ex_lenL c (ex_var c 4)))) (bb_cons (s_append c 2 (ex_ownIx c 4 (ex_var c 1))) fun found_47 => bb_nil (.keep (.keep (.keep (.keep (.keep (.keep .nil))))))) (bb_cons (s_set d 5 (ex_bor 4 (ex_index c (ex_var c 4) (ex_ix ixT (ex_var c 0) (ex_ix ixL (ex_var c 4) (ex_neg (ex_int))))))) fun back_48 => bb_cons (s_append c 2 (ex_ownIx c 4 (ex_bor 4 (ex_add (ex_var c 5) (ex_mod (ex_intI c (ex_sub (ex_var c 1) (ex_var c 5))) (ex_sub (ex_lenL c (ex_var c 4)) (ex_var c 5))))))) fun found_49 => bb_nil (.keep (.keep (.keep (.keep (.keep (.drop .nil)))))))) fun t_46 => bb_nil (.keep (.keep (.keep (.drop (.drop (.keep .nil)))))))) fun t_38 => tb_fz (l := t_38) 2 (tb_ret (ex_tupleL c (ex_var c 2)))
abbrev s_law_place : Stmt := topS 29
theorem sc_law_place : FnScope ["many", "s", "q", "r", "side"] ["many", "s", "q", "r", "side"] (defScope s_law_place) := ⟨rfl, rfl, rfl, by decide +kernel, rfl, by decide +kernel, by decide +kernel⟩
def m_law_place (y : Int × Int × Int × Int × Int) : W Int :=
  (W.ite (W.b2 (W.pure y.2.2.2.1) (W.pure (0 : Int)) (fun x y => W.pure (decide (x = y)))) (W.pure y.2.2.1) (W.b2 (W.b2 (W.b2 (W.pure (2 : Int)) (W.pure y.1) mulW) (W.b2 (W.pure (2 : Int)) (W.b2 (W.b2 (W.b2 (W.pure y.2.2.1) (W.b2 (W.pure y.2.1) (W.pure (1 : Int)) fun x y => W.pure (x - y)) mulW) (W.pure y.2.2.2.1) fun x y => W.pure (x + y)) (W.pure (1 : Int)) fun x y => W.pure (x - y)) mulW) fun x y => W.pure (x + y)) (W.pure y.2.2.2.2) fun x y => W.pure (x + y)))
theorem ok_law_place {u : Wd} (wo : WOk u) {f : Addr} {fd : FuncData} (hF : Fun u.K "_law_place" "_law_place" s_law_place f fd) (hm : u.mg "_law_place" = some (.ref f)) (hbi : Binds u.K fd ["many", "s", "q", "r", "side"] []) :
    Fn u 1 "_law_place" ["many", "s", "q", "r", "side"] false (fun y : Int × Int × Int × Int × Int => [some (toD y.1), some (toD y.2.1), some (toD y.2.2.1), some (toD y.2.2.2.1), some (toD y.2.2.2.2)]) m_law_place := by
  refine fn_ok (n := 0) wo hF hm sc_law_place hbi (fun _ => rfl) rfl (fun _ _ => by simp) fun X P Wx hu hbd d y => ?_
  have c := d.toCok
  subst hu
  unfold m_law_place
  exact tb_ret (ex_if (tx_c c_eqI (ex_var c 3) (ex_int)) (ex_var c 2) (ex_add (ex_add (ex_mul (ex_int) (ex_var c 0)) (ex_mul (ex_int) (ex_sub (ex_add (ex_mul (ex_var c 2) (ex_sub (ex_var c 1) (ex_int))) (ex_var c 3)) (ex_int)))) (ex_var c 4)))
abbrev s_law_two : Stmt := topS 30
theorem sc_law_two : FnScope ["firsts", "end", "one", "other", "s", "many", "r", "ones", "others", "q", "longer", "second", "state"] ["firsts", "end"] (defScope s_law_two) := ⟨rfl, rfl, rfl, by decide +kernel, rfl, by decide +kernel, by decide +kernel⟩
def m_law_two (y : (Tup Int) × Int) : W (List (Tup Int)) :=
  ((W.b2 (W.b1 (W.pure y.2) fun n => rngW 0 n) ((W.b1 (W.pure y.2) fun n => rngW 0 n).bind fun l => W.filterW (fun x_51 => nx (W.pure true)) (fun x_51 => nx (W.b2 (W.b1 (W.b2 (W.pure x_51) (W.pure (1 : Int)) fun x y => W.pure (x + y)) fun i => W.pure i) (W.pure y.2) modW)) l) fun x y => W.pure (x, y)).bind fun p_50 => (((W.b1 (W.b1 (W.pure y.1) fun l => W.pure (⟨l.l.reverse⟩ : (Tup Int))) fun t => W.pure t.l).bind fun l => W.forW l (fun x_56 t_55 => ((W.b1 (W.pure t_55.1) (fun l => W.pure (l.length : Int))).bind fun many_57 => ((W.b2 ((W.b1 (W.pure x_56) fun n => rngW 0 n).bind fun l => W.filterW (fun x_59 => nx (W.pure true)) (fun x_59 => nx ((W.b2 (W.b1 (W.pure t_55.1) fun l => W.pure (⟨l⟩ : Tup Int)) (W.b2 (W.pure x_56) (W.pure x_59) fun x y => W.pure (x - y)) fun x y => W.pure (x, y)).bind m_law_power)) l) ((W.b1 (W.pure x_56) fun n => rngW 0 n).bind fun l => W.filterW (fun x_63 => nx (W.pure true)) (fun x_63 => nx ((W.b2 (W.b1 (W.pure t_55.2) fun l => W.pure (⟨l⟩ : Tup Int)) (W.b2 (W.pure x_56) (W.pure x_63) fun x y => W.pure (x - y)) fun x y => W.pure (x, y)).bind m_law_power)) l) fun x y => W.pure (x, y)).bind fun p_58 => ((W.b2 (W.pure t_55.1) ((W.b1 (W.pure many_57) fun n => rngW 0 n).bind fun l => W.filterW (fun x_68 => nx (W.pure true)) (fun x_68 => nx ((W.b2 (W.pure many_57) (W.b2 (W.pure x_56) (W.b2 (W.pure x_68) (W.b2 (W.b2 (W.pure x_56) (W.pure (1 : Int)) fun x y => W.pure (x - y)) (W.pure (0 : Int)) fun x y => W.pure (x, y)) fun x y => W.pure (x, y)) fun x y => W.pure (x, y)) fun x y => W.pure (x, y)).bind m_law_place)) l) catW).bind fun longer_67 => ((W.b2 (W.pure t_55.2) ((W.b1 (W.pure many_57) fun n => rngW 0 n).bind fun l => W.filterW (fun x_73 => nx (W.pure true)) (fun x_73 => nx ((W.b2 (W.pure many_57) (W.b2 (W.pure x_56) (W.b2 (W.pure x_73) (W.b2 (W.b2 (W.pure x_56) (W.pure (1 : Int)) fun x y => W.pure (x - y)) (W.pure (1 : Int)) fun x y => W.pure (x, y)) fun x y => W.pure (x, y)) fun x y => W.pure (x, y)) fun x y => W.pure (x, y)).bind m_law_place)) l) catW).bind fun second_72 => (((W.b1 (W.pure many_57) fun n => rngW 0 n).bind fun l => W.forW l (fun x_78 t_77 => (((W.b2 (W.pure (1 : Int)) (W.pure x_56) rngW).bind fun l => W.forW l (fun x_80 t_79 => ((((W.b2 (W.pure many_57) (W.b2 (W.pure x_56) (W.b2 (W.pure x_78) (W.b2 (W.b2 (W.pure x_80) (W.pure (1 : Int)) fun x y => W.pure (x - y)) (W.pure (0 : Int)) fun x y => W.pure (x, y)) fun x y => W.pure (x, y)) fun x y => W.pure (x, y)) fun x y => W.pure (x, y)).bind m_law_place).bind fun a => W.need (t_79.1.length < 16777216) a).bind fun longer_81 => ((((W.b2 (W.pure many_57) (W.b2 (W.pure x_56) (W.b2 (W.b2 (W.b2 (W.pure p_58.1) (W.pure x_80) fun l i => ixW l i) (W.pure x_78) fun l i => ixW l.l i) (W.b2 (W.b2 (W.pure x_56) (W.pure (1 : Int)) fun x y => W.pure (x - y)) (W.pure (1 : Int)) fun x y => W.pure (x, y)) fun x y => W.pure (x, y)) fun x y => W.pure (x, y)) fun x y => W.pure (x, y)).bind m_law_place).bind fun a => W.need (t_79.2.length < 16777216) a).bind fun second_82 => ((((W.b2 (W.pure many_57) (W.b2 (W.pure x_56) (W.b2 (W.b2 (W.b2 (W.pure p_58.2) (W.pure x_80) fun l i => ixW l i) (W.pure x_78) fun l i => ixW l.l i) (W.b2 (W.b2 (W.pure x_56) (W.pure (1 : Int)) fun x y => W.pure (x - y)) (W.pure (0 : Int)) fun x y => W.pure (x, y)) fun x y => W.pure (x, y)) fun x y => W.pure (x, y)) fun x y => W.pure (x, y)).bind m_law_place).bind fun a => W.need ((t_79.1 ++ [longer_81]).length < 16777216) a).bind fun longer_83 => ((((W.b2 (W.pure many_57) (W.b2 (W.pure x_56) (W.b2 (W.pure x_78) (W.b2 (W.b2 (W.pure x_80) (W.pure (1 : Int)) fun x y => W.pure (x - y)) (W.pure (1 : Int)) fun x y => W.pure (x, y)) fun x y => W.pure (x, y)) fun x y => W.pure (x, y)) fun x y => W.pure (x, y)).bind m_law_place).bind fun a => W.need ((t_79.2 ++ [second_82]).length < 16777216) a).bind fun second_84 => W.pure (((t_79.1 ++ [longer_81]) ++ [longer_83]), ((t_79.2 ++ [second_82]) ++ [second_84]))))))) (t_77.1, t_77.2)).bind fun t_79 => W.pure (t_79.1, t_79.2))) (longer_67, second_72)).bind fun t_77 => ((W.b2 (W.pure t_77.1) (W.pure t_77.2) fun x y => W.pure (x, y)).bind fun p_85 => W.pure (p_85.1, p_85.2)))))))) (p_50.1, p_50.2)).bind fun t_55 => (W.b1 (W.b2 (W.b1 (W.pure t_55.1) fun l => W.pure (⟨l⟩ : Tup Int)) (W.b1 (W.pure t_55.2) fun l => W.pure (⟨l⟩ : Tup Int)) fun x y => W.pure (x, y)) fun x => W.pure ([x.1, x.2] : List (Tup Int)))))
theorem ok_law_two {u : Wd} (wo : WOk u) {f : Addr} {fd : FuncData} (hF : Fun u.K "_law_two" "_law_two" s_law_two f fd) (hm : u.mg "_law_two" = some (.ref f)) (hbi : Binds u.K fd ["firsts", "end"] []) (h_law_place : Fn u 1 "_law_place" ["many", "s", "q", "r", "side"] false (fun y : Int × Int × Int × Int × Int => [some (toD y.1), some (toD y.2.1), some (toD y.2.2.1), some (toD y.2.2.2.1), some (toD y.2.2.2.2)]) m_law_place) (h_law_power : Fn u 1 "_law_power" ["one", "count"] false (fun y : (Tup Int) × Int => [some (toD y.1), some (toD y.2)]) m_law_power) :
    Fn u 2 "_law_two" ["firsts", "end"] false (fun y : (Tup Int) × Int => [some (toD y.1), some (toD y.2)]) m_law_two := by
  refine fn_ok (n := 11) wo hF hm sc_law_two hbi (fun _ => rfl) rfl (fun _ _ => by simp) fun X P Wx hu hbd d y => ?_
  have c := d.toCok
  subst hu
  unfold m_law_two
  exact tb_cons (s_asg2 d 2 3 (ev_dat (ex_fz (en_listRg c (ex_var c 1)))) (ev_dat (ex_fz (en_lc (f := fun x_51 : Int => [.dat (toD y.1), .dat (toD y.2), .un, .un, .un, .un, .un, .un, .un, .un, .un, .un, .dat (toD x_51)]) (me := fun x_51 => (W.b2 (W.b1 (W.b2 (W.pure x_51) (W.pure (1 : Int)) fun x y => W.pure (x + y)) fun i => W.pure i) (W.pure y.2) modW)) c [("state", 12)] (ei_range1 c (ex_var c 1)) (by rfl) (fun X_54 c_52 f_53 => ⟨gbn c_52 12, fun x_51 => t_nil, fun x_51 => ex_mod (ex_intI c_52 (ex_add (ex_var c_52 12) (ex_int))) (ex_var c_52 1)⟩))))) fun p_50 => tb_cons (s_for (f := fun (x_56 : Int) (t_55 : (List Int) × (List Int)) => [.dat (toD y.1), .dat (toD y.2), .dat (toD t_55.1), .dat (toD t_55.2), .dat (toD x_56), .un, .un, .un, .un, .un, .un, .un, .un]) (Nn := fun t_55 : (List Int) × (List Int) => [.dat (toD y.1), .dat (toD y.2), .dat (toD t_55.1), .dat (toD t_55.2), .un, .un, .un, .un, .un, .un, .un, .un, .un]) d (p_50.1, p_50.2) (ei_tup (ex_revT (ex_var c 0))) (.keep (.keep (.keep (.keep (.keep (.keep (.keep (.keep (.keep (.keep (.keep (.keep (.keep .nil))))))))))))) (fun t_55 => gt_name d 4) (fun x_56 t_55 => bb_cons (s_set d 5 (ex_lenL c (ex_var c 2))) fun many_57 => bb_cons (s_par2 d 7 8 (ev_dat (ex_fz (en_lc (f := fun x_59 : Int => [.dat (toD y.1), .dat (toD y.2), .dat (toD t_55.1), .dat (toD t_55.2), .dat (toD x_56), .dat (toD many_57), .dat (toD x_59), .un, .un, .un, .un, .un, .un]) (me := fun x_59 => ((W.b2 (W.b1 (W.pure t_55.1) fun l => W.pure (⟨l⟩ : Tup Int)) (W.b2 (W.pure x_56) (W.pure x_59) fun x y => W.pure (x - y)) fun x y => W.pure (x, y)).bind m_law_power)) c [("r", 6)] (ei_range1 c (ex_var c 4)) (by rfl) (fun X_62 c_60 f_61 => ⟨gbn c_60 6, fun x_59 => t_nil, fun x_59 => ex_call c_60 h_law_power (by decide) (fun h => by cases h) (ao_cons (ex_tupleL c_60 (ex_var c_60 2)) (ao_one (ex_sub (ex_var c_60 4) (ex_var c_60 6))))⟩)))) (ev_dat (ex_fz (en_lc (f := fun x_63 : Int => [.dat (toD y.1), .dat (toD y.2), .dat (toD t_55.1), .dat (toD t_55.2), .dat (toD x_56), .dat (toD many_57), .dat (toD x_63), .un, .un, .un, .un, .un, .un]) (me := fun x_63 => ((W.b2 (W.b1 (W.pure t_55.2) fun l => W.pure (⟨l⟩ : Tup Int)) (W.b2 (W.pure x_56) (W.pure x_63) fun x y => W.pure (x - y)) fun x y => W.pure (x, y)).bind m_law_power)) c [("r", 6)] (ei_range1 c (ex_var c 4)) (by rfl) (fun X_66 c_64 f_65 => ⟨gbn c_64 6, fun x_63 => t_nil, fun x_63 => ex_call c_64 h_law_power (by decide) (fun h => by cases h) (ao_cons (ex_tupleL c_64 (ex_var c_64 3)) (ao_one (ex_sub (ex_var c_64 4) (ex_var c_64 6))))⟩))))) fun p_58 => bb_cons (s_own d 10 (en_cat (ex_var c 2) (ex_fz (en_lc (f := fun x_68 : Int => [.dat (toD y.1), .dat (toD y.2), .dat (toD t_55.1), .dat (toD t_55.2), .dat (toD x_56), .dat (toD many_57), .un, .dat (toD p_58.1), .dat (toD p_58.2), .dat (toD x_68), .un, .un, .un]) (me := fun x_68 => ((W.b2 (W.pure many_57) (W.b2 (W.pure x_56) (W.b2 (W.pure x_68) (W.b2 (W.b2 (W.pure x_56) (W.pure (1 : Int)) fun x y => W.pure (x - y)) (W.pure (0 : Int)) fun x y => W.pure (x, y)) fun x y => W.pure (x, y)) fun x y => W.pure (x, y)) fun x y => W.pure (x, y)).bind m_law_place)) c [("q", 9)] (ei_range1 c (ex_var c 5)) (by rfl) (fun X_71 c_69 f_70 => ⟨gbn c_69 9, fun x_68 => t_nil, fun x_68 => ex_call c_69 h_law_place (by decide) (fun h => by cases h) (ao_cons (ex_var c_69 5) (ao_cons (ex_var c_69 4) (ao_cons (ex_var c_69 9) (ao_cons (ex_sub (ex_var c_69 4) (ex_int)) (ao_one (ex_int))))))⟩))))) fun longer_67 => bb_cons (s_own d 11 (en_cat (ex_var c 3) (ex_fz (en_lc (f := fun x_73 : Int => [.dat (toD y.1), .dat (toD y.2), .dat (toD t_55.1), .dat (toD t_55.2), .dat (toD x_56), .dat (toD many_57), .un, .dat (toD p_58.1), .dat (toD p_58.2), .dat (toD x_73), .own (longer_67.map toD), .un, .un]) (me := fun x_73 => ((W.b2 (W.pure many_57) (W.b2 (W.pure x_56) (W.b2 (W.pure x_73) (W.b2 (W.b2 (W.pure x_56) (W.pure (1 : Int)) fun x y => W.pure (x - y)) (W.pure (1 : Int)) fun x y => W.pure (x, y)) fun x y => W.pure (x, y)) fun x y => W.pure (x, y)) fun x y => W.pure (x, y)).bind m_law_place)) c [("q", 9)] (ei_range1 c (ex_var c 5)) (by rfl) (fun X_76 c_74 f_75 => ⟨gbn c_74 9, fun x_73 => t_nil, fun x_73 => ex_call c_74 h_law_place (by decide) (fun h => by cases h) (ao_cons (ex_var c_74 5) (ao_cons (ex_var c_74 4) (ao_cons (ex_var c_74 9) (ao_cons (ex_sub (ex_var c_74 4) (ex_int)) (ao_one (ex_int))))))⟩))))) fun second_72 => bb_cons (s_for (f := fun (x_78 : Int) (t_77 : (List Int) × (List Int)) => [.dat (toD y.1), .dat (toD y.2), .dat (toD t_55.1), .dat (toD t_55.2), .dat (toD x_56), .dat (toD many_57), .un, .dat (toD p_58.1), .dat (toD p_58.2), .dat (toD x_78), .own (t_77.1.map toD), .own (t_77.2.map toD), .un]) (Nn := fun t_77 : (List Int) × (List Int) => [.dat (toD y.1), .dat (toD y.2), .dat (toD t_55.1), .dat (toD t_55.2), .dat (toD x_56), .dat (toD many_57), .un, .dat (toD p_58.1), .dat (toD p_58.2), .un, .own (t_77.1.map toD), .own (t_77.2.map toD), .un]) d (longer_67, second_72) (ei_range1 c (ex_var c 5)) (.keep (.keep (.keep (.keep (.keep (.keep (.keep (.keep (.keep (.keep (.keep (.keep (.keep .nil))))))))))))) (fun t_77 => gt_name d 9) (fun x_78 t_77 => bb_cons (s_for (f := fun (x_80 : Int) (t_79 : (List Int) × (List Int)) => [.dat (toD y.1), .dat (toD y.2), .dat (toD t_55.1), .dat (toD t_55.2), .dat (toD x_56), .dat (toD many_57), .dat (toD x_80), .dat (toD p_58.1), .dat (toD p_58.2), .dat (toD x_78), .own (t_79.1.map toD), .own (t_79.2.map toD), .un]) (Nn := fun t_79 : (List Int) × (List Int) => [.dat (toD y.1), .dat (toD y.2), .dat (toD t_55.1), .dat (toD t_55.2), .dat (toD x_56), .dat (toD many_57), .un, .dat (toD p_58.1), .dat (toD p_58.2), .dat (toD x_78), .own (t_79.1.map toD), .own (t_79.2.map toD), .un]) d (t_77.1, t_77.2) (ei_range2 c (ex_int) (ex_var c 4)) (.keep (.keep (.keep (.keep (.keep (.keep (.keep (.keep (.keep (.keep (.keep (.keep (.keep .nil))))))))))))) (fun t_79 => gt_name d 6) (fun x_80 t_79 => bb_cons (s_append c 10 (ex_call c h_law_place (by decide) (fun h => by cases h) (ao_cons (ex_var c 5) (ao_cons (ex_var c 4) (ao_cons (ex_var c 9) (ao_cons (ex_sub (ex_var c 6) (ex_int)) (ao_one (ex_int)))))))) fun longer_81 => bb_cons (s_append c 11 (ex_call c h_law_place (by decide) (fun h => by cases h) (ao_cons (ex_var c 5) (ao_cons (ex_var c 4) (ao_cons (ex_ix ixT (ex_ix ixL (ex_var c 7) (ex_var c 6)) (ex_var c 9)) (ao_cons (ex_sub (ex_var c 4) (ex_int)) (ao_one (ex_int)))))))) fun second_82 => bb_cons (s_append c 10 (ex_call c h_law_place (by decide) (fun h => by cases h) (ao_cons (ex_var c 5) (ao_cons (ex_var c 4) (ao_cons (ex_ix ixT (ex_ix ixL (ex_var c 8) (ex_var c 6)) (ex_var c 9)) (ao_cons (ex_sub (ex_var c 4) (ex_int)) (ao_one (ex_int)))))))) fun longer_83 => bb_cons (s_append c 11 (ex_call c h_law_place (by decide) (fun h => by cases h) (ao_cons (ex_var c 5) (ao_cons (ex_var c 4) (ao_cons (ex_var c 9) (ao_cons (ex_sub (ex_var c 6) (ex_int)) (ao_one (ex_int)))))))) fun second_84 => bb_nil (.keep (.keep (.keep (.keep (.keep (.keep (.drop (.keep (.keep (.keep (.keep (.keep (.keep .nil))))))))))))))) fun t_79 => bb_nil (.keep (.keep (.keep (.keep (.keep (.keep (.keep (.keep (.keep (.drop (.keep (.keep (.keep .nil))))))))))))))) fun t_77 => bb_fz (l := t_77.1) 10 (bb_fz (l := t_77.2) 11 (bb_cons (s_asg2 d 2 3 (ev_dat (ex_var c 10)) (ev_dat (ex_var c 11))) fun p_85 => bb_nil (.keep (.keep (.keep (.keep (.drop (.drop (.keep (.drop (.drop (.keep (.drop (.drop (.keep .nil))))))))))))))))) fun t_55 => tb_ret (ex_fz (en_lst (f := fun x : ((Tup Int) × (Tup Int)) => ([x.1, x.2] : List (Tup Int))) (ea_cons (ex_tupleL c (ex_var c 2)) (ea_one (ex_tupleL c (ex_var c 3)))) (fun _ => rfl)))
abbrev s_law_members : Stmt := topS 31
theorem sc_law_members : FnScope ["firsts", "end", "most", "found", "at", "s", "one"] ["firsts", "end", "most"] (defScope s_law_members) := ⟨rfl, rfl, rfl, by decide +kernel, rfl, by decide +kernel, by decide +kernel⟩
def m_law_members (y : (List Int) × Int × Int) : W (List Int) :=
  ((W.b2 (W.b1 (W.pure ()) fun x => W.pure ([] : List Int)) (W.pure (0 : Int)) fun x y => W.pure (x, y)).bind fun p_86 => (((W.pure y.1).bind fun l => W.forW l (fun x_88 t_87 => (((W.pure t_87.2).bind fun a => W.need (t_87.1.length < 16777216) a).bind fun found_89 => ((W.b2 (W.pure t_87.2) (W.pure x_88) fun x y => W.pure (x + y)).bind fun at_90 => W.pure ((t_87.1 ++ [found_89]), at_90)))) (p_86.1, p_86.2)).bind fun t_87 => ((W.whileW (fun t_91 => (W.b2 (W.pure t_91.2) (W.pure y.2.2) (fun x y => W.pure (decide (x ≤ y))))) (fun t_91 => (((W.pure t_91.2).bind fun a => W.need (t_91.1.length < 16777216) a).bind fun found_92 => ((W.b2 (W.pure t_91.2) (W.pure y.2.1) fun x y => W.pure (x + y)).bind fun at_93 => W.pure ((t_91.1 ++ [found_92]), at_93)))) (t_87.1, t_87.2)).bind fun t_91 => ((W.pure t_91.1).bind fun l => W.filterW (fun x_94 => nx (W.b2 (W.pure x_94) (W.pure y.2.2) (fun x y => W.pure (decide (x ≤ y))))) (fun x_94 => nx (W.pure x_94)) l))))
theorem ok_law_members {u : Wd} (wo : WOk u) {f : Addr} {fd : FuncData} (hF : Fun u.K "_law_members" "_law_members" s_law_members f fd) (hm : u.mg "_law_members" = some (.ref f)) (hbi : Binds u.K fd ["firsts", "end", "most"] []) :
    Fn u 1 "_law_members" ["firsts", "end", "most"] false (fun y : (List Int) × Int × Int => [some (toD y.1), some (toD y.2.1), some (toD y.2.2)]) m_law_members := by
  refine fn_ok (n := 4) wo hF hm sc_law_members hbi (fun _ => rfl) rfl (fun _ _ => by simp) fun X P Wx hu hbd d y => ?_
  have c := d.toCok
  subst hu
  unfold m_law_members
  exact tb_cons (s_par2 d 3 4 (ev_own (en_lst (f := fun x : Unit => ([] : List Int)) (ea_nil) (fun _ => rfl))) (ev_dat (ex_int))) fun p_86 => tb_cons (s_for (f := fun (x_88 : Int) (t_87 : (List Int) × Int) => [.dat (toD y.1), .dat (toD y.2.1), .dat (toD y.2.2), .own (t_87.1.map toD), .dat (toD t_87.2), .dat (toD x_88), .un]) (Nn := fun t_87 : (List Int) × Int => [.dat (toD y.1), .dat (toD y.2.1), .dat (toD y.2.2), .own (t_87.1.map toD), .dat (toD t_87.2), .un, .un]) d (p_86.1, p_86.2) (ei_list (ex_var c 0)) (.keep (.keep (.keep (.keep (.keep (.keep (.keep .nil))))))) (fun t_87 => gt_name d 5) (fun x_88 t_87 => bb_cons (s_append c 3 (ex_var c 4)) fun found_89 => bb_cons (s_set d 4 (ex_add (ex_var c 4) (ex_var c 5))) fun at_90 => bb_nil (.keep (.keep (.keep (.keep (.keep (.drop (.keep .nil))))))))) fun t_87 => tb_cons (s_while (Nn := fun t_91 : (List Int) × Int => [.dat (toD y.1), .dat (toD y.2.1), .dat (toD y.2.2), .own (t_91.1.map toD), .dat (toD t_91.2), .un, .un]) d (t_87.1, t_87.2) (.keep (.keep (.keep (.keep (.keep (.keep (.keep .nil))))))) (fun t_91 => tx_c c_le (ex_var c 4) (ex_var c 2)) (fun t_91 => bb_cons (s_append c 3 (ex_var c 4)) fun found_92 => bb_cons (s_set d 4 (ex_add (ex_var c 4) (ex_var c 1))) fun at_93 => bb_nil (.keep (.keep (.keep (.keep (.keep (.keep (.keep .nil))))))))) fun t_91 => tb_fz (l := t_91.1) 3 (tb_ret (ex_fz (en_lc (f := fun x_94 : Int => [.dat (toD y.1), .dat (toD y.2.1), .dat (toD y.2.2), .dat (toD t_91.1), .dat (toD t_91.2), .un, .dat (toD x_94)]) (me := fun x_94 => (W.pure x_94)) c [("one", 6)] (ei_list (ex_var c 3)) (by rfl) (fun X_97 c_95 f_96 => ⟨gbn c_95 6, fun x_94 => t_one (tx_c c_le (ex_var c_95 6) (ex_var c_95 2)), fun x_94 => ex_var c_95 6⟩))))
abbrev s_law_falling : Stmt := topS 32
theorem sc_law_falling : FnScope ["deal", "most", "end", "firsts", "turn", "some", "one"] ["deal", "most"] (defScope s_law_falling) := ⟨rfl, rfl, rfl, by decide +kernel, rfl, by decide +kernel, by decide +kernel⟩
def m_law_falling (y : Int) : W ((Tup Int) × Int) :=
  ((W.b2 ((W.b1 (W.b2 (W.pure (1 : Int)) (W.b2 (W.pure (1 : Int)) (W.b2 (W.pure (1 : Int)) (W.b2 (W.pure (2 : Int)) (W.b2 (W.pure (3 : Int)) (W.pure (4 : Int)) fun x y => W.pure (x, y)) fun x y => W.pure (x, y)) fun x y => W.pure (x, y)) fun x y => W.pure (x, y)) fun x y => W.pure (x, y)) fun x => W.pure ([x.1, x.2.1, x.2.2.1, x.2.2.2.1, x.2.2.2.2.1, x.2.2.2.2.2] : List Int)).bind (m_law_of (α := Int))) (W.b1 (W.pure ()) fun x => W.pure ([] : List Int)) fun x y => W.pure (x, y)).bind fun p_98 => (((W.b1 ((W.pure (4 : Int)).bind m_law_any) fun n => rngW 0 n).bind fun l => W.forW l (fun x_100 t_99 => ((((W.b2 (W.pure t_99) (W.b2 (W.pure p_98.1) (W.b2 (W.pure y) (W.b1 (W.pure t_99) fun l => W.pure l.sum) fun x y => W.pure (x - y)) fun x y => W.pure (x, y)) fun x y => W.pure (x, y)).bind m_law_members).bind fun l => W.filterW (fun x_102 => nx (W.b2 (W.pure x_102) (W.pure (0 : Int)) (fun x y => W.pure (decide (y < x))))) (fun x_102 => nx (W.pure x_102)) l).bind fun some_101 => ((W.ite (W.and (W.b2 (W.pure some_101) (W.b1 (W.pure ()) fun x => W.pure ([] : List Int)) neWD) (W.or (W.b2 (W.pure t_99) (W.b1 (W.pure ()) fun x => W.pure ([] : List Int)) neWD) (W.b2 (W.pure some_101) (W.b1 (W.pure p_98.1) fun x => W.pure ([x] : List Int)) neWD))) ((W.b2 (W.b1 ((W.b3 (W.pure some_101) (W.pure none) (W.b1 (W.pure (6 : Int)) fun i => W.pure (some i)) fun l i j => W.pure (cut l i j)).bind (m_law_of (α := Int))) fun x => W.pure ([x] : List Int)) (W.pure t_99) catW).bind fun firsts_108 => W.pure firsts_108) (W.pure t_99)).bind fun t_107 => W.pure t_107))) p_98.2).bind fun t_99 => ((W.whileW (fun t_109 => (W.and (W.b2 (W.pure t_109) (W.b1 (W.pure ()) fun x => W.pure ([] : List Int)) neWD) (W.b2 (W.b1 (W.b1 (W.pure (1 : Int)) fun x => W.pure (-x)) fun j => ixW t_109 j) (W.pure p_98.1) (fun x y => W.pure (decide (x = y)))))) (fun t_109 => (((popL t_109).bind fun a => W.pure a.2).bind fun firsts_110 => W.pure firsts_110)) t_99).bind fun t_109 => (W.b1 (W.b2 (W.b1 (W.pure t_109) fun l => W.pure (⟨l⟩ : Tup Int)) (W.pure p_98.1) fun x y => W.pure (x, y)) fun x => W.pure x))))
theorem ok_law_falling {u : Wd} (wo : WOk u) {f : Addr} {fd : FuncData} (hF : Fun u.K "_law_falling" "_law_falling" s_law_falling f fd) (hm : u.mg "_law_falling" = some (.ref f)) (hbi : Binds u.K fd ["deal", "most"] []) (h_law_any : Fn u 1 "_law_any" ["deal", "bound"] true (fun y : Int => [none, some (toD y)]) m_law_any) (h_law_members : Fn u 1 "_law_members" ["firsts", "end", "most"] false (fun y : (List Int) × Int × Int => [some (toD y.1), some (toD y.2.1), some (toD y.2.2)]) m_law_members) (h_law_of : ∀ {α : Type} [Py α], Fn u 2 "_law_of" ["deal", "some"] true (fun y : (List α) => [none, some (toD y)]) (m_law_of (α := α))) :
    Fn u 3 "_law_falling" ["deal", "most"] true (fun y : Int => [none, some (toD y)]) m_law_falling := by
  refine fn_ok (n := 5) wo hF hm sc_law_falling hbi (fun _ => rfl) rfl (fun _ h => by cases h) fun X P Wx hu hbd d y => ?_
  have c := d.toCok
  subst hu
  unfold m_law_falling
  exact tb_cons (s_par2 d 2 3 (ev_dat (ex_call c (h_law_of (α := Int)) (by decide) (fun _ => hbd) (ao_deal c 0 (ao_one (ex_fz (en_lst (f := fun x : (Int × (Int × (Int × (Int × (Int × Int))))) => ([x.1, x.2.1, x.2.2.1, x.2.2.2.1, x.2.2.2.2.1, x.2.2.2.2.2] : List Int)) (ea_cons (ex_int) (ea_cons (ex_int) (ea_cons (ex_int) (ea_cons (ex_int) (ea_cons (ex_int) (ea_one (ex_int))))))) (fun _ => rfl))))))) (ev_own (en_lst (f := fun x : Unit => ([] : List Int)) (ea_nil) (fun _ => rfl)))) fun p_98 => tb_cons (s_for (f := fun (x_100 : Int) (t_99 : (List Int)) => [.deal, .dat (toD y), .dat (toD p_98.1), .own (t_99.map toD), .dat (toD x_100), .un, .un]) (Nn := fun t_99 : (List Int) => [.deal, .dat (toD y), .dat (toD p_98.1), .own (t_99.map toD), .un, .un, .un]) d p_98.2 (ei_range1 c (ex_call c h_law_any (by decide) (fun _ => hbd) (ao_deal c 0 (ao_one (ex_int))))) (.keep (.keep (.keep (.keep (.keep (.keep (.keep .nil))))))) (fun t_99 => gt_name d 4) (fun x_100 t_99 => bb_cons (s_fz (Γ' := fun _ => [.deal, .dat (toD y), .dat (toD p_98.1), .own (t_99.map toD), .dat (toD x_100), .un, .un]) 5 (s_lcB (f := fun x_102 : Int => [.deal, .dat (toD y), .dat (toD p_98.1), .dat (toD t_99), .dat (toD x_100), .un, .dat (toD x_102)]) (me := fun x_102 => (W.pure x_102)) d 3 5 [("one", 6)] (ei_list (ex_call c h_law_members (by decide) (fun h => by cases h) (ao_cons (ex_var c 3) (ao_cons (ex_var c 2) (ao_one (ex_sub (ex_var c 1) (ex_sum c (ex_var c 3)))))))) (by rfl) (fun X_105 c_103 f_104 => ⟨gbn c_103 6, fun x_102 => t_one (tx_c c_gt (ex_var c_103 6) (ex_int)), fun x_102 => ex_var c_103 6⟩))) fun some_101 => bb_cons (s_if (Nn := fun t_107 : (List Int) => [.deal, .dat (toD y), .dat (toD p_98.1), .own (t_107.map toD), .dat (toD x_100), .dat (toD some_101), .un]) (tw (tw_and (tx_c (c_neD c) (ex_var c 5) (ex_fz (en_lst (f := fun x : Unit => ([] : List Int)) (ea_nil) (fun _ => rfl)))) (tw_and1 (tw (tw_or (tx_bor 3 (tx_c (c_neD c) (ex_var c 3) (ex_fz (en_lst (f := fun x : Unit => ([] : List Int)) (ea_nil) (fun _ => rfl))))) (tw_or1 (tx_c (c_neD c) (ex_var c 5) (ex_fz (en_lst (f := fun x : Int => ([x] : List Int)) (ea_one (ex_var c 2)) (fun _ => rfl)))))))))) (bb_fz (l := t_99) 3 (bb_cons (s_own d 3 (en_cat (ex_fz (en_lst (f := fun x : Int => ([x] : List Int)) (ea_one (ex_call c (h_law_of (α := Int)) (by decide) (fun _ => hbd) (ao_deal c 0 (ao_one (ex_fz (en_slice (ex_var c 5) (eo_none) (eo_some (ex_int)))))))) (fun _ => rfl))) (ex_var c 3))) fun firsts_108 => bb_nil (.keep (.keep (.keep (.keep (.keep (.keep (.keep .nil))))))))) (bb_nil (.keep (.keep (.keep (.keep (.keep (.keep (.keep .nil))))))))) fun t_107 => bb_nil (.keep (.keep (.keep (.keep (.drop (.drop (.keep .nil))))))))) fun t_99 => tb_cons (s_while (Nn := fun t_109 : (List Int) => [.deal, .dat (toD y), .dat (toD p_98.1), .own (t_109.map toD), .un, .un, .un]) d t_99 (.keep (.keep (.keep (.keep (.keep (.keep (.keep .nil))))))) (fun t_109 => tw (tw_and (tx_bor 3 (tx_c (c_neD c) (ex_var c 3) (ex_fz (en_lst (f := fun x : Unit => ([] : List Int)) (ea_nil) (fun _ => rfl))))) (tw_and1 (tx_c c_eqI (ex_ownIx c 3 (ex_neg (ex_int))) (ex_var c 2))))) (fun t_109 => bb_cons (s_pop (ep_pop c 3)) fun firsts_110 => bb_nil (.keep (.keep (.keep (.keep (.keep (.keep (.keep .nil))))))))) fun t_109 => tb_fz (l := t_109) 3 (tb_ret (ex_tup (f := fun x : ((Tup Int) × Int) => x) (ea_cons (ex_tupleL c (ex_var c 3)) (ea_one (ex_var c 2))) (fun _ => rfl)))
abbrev s_law_columns : Stmt := topS 33
theorem sc_law_columns : FnScope ["many", "deal", "form", "to", "state"] ["many", "deal", "form"] (defScope s_law_columns) := ⟨rfl, rfl, rfl, by decide +kernel, rfl, by decide +kernel, by decide +kernel⟩
def m_law_columns (y : Int × Int) : W (Tup Int) :=
  (((W.pure y.1).bind m_law_any).bind fun to_111 => (W.ite (W.b2 (W.pure y.2) (W.pure (0 : Int)) (fun x y => W.pure (decide (x = y)))) (W.b1 ((W.b1 (W.pure y.1) fun n => rngW 0 n).bind fun l => W.filterW (fun x_112 => nx (W.pure true)) (fun x_112 => nx (W.b2 (W.pure (0 : Int)) (W.b2 (W.pure x_112) (W.pure (1 : Int)) fun x y => W.pure (x - y)) fun i j => W.pure (max i j))) l) fun l => W.pure (⟨l⟩ : Tup Int)) (W.ite (W.b2 (W.pure y.2) (W.pure (1 : Int)) (fun x y => W.pure (decide (x = y)))) (W.b1 ((W.b1 (W.pure y.1) fun n => rngW 0 n).bind fun l => W.filterW (fun x_116 => nx (W.pure true)) (fun x_116 => nx (W.b2 (W.b2 (W.pure y.1) (W.pure (1 : Int)) fun x y => W.pure (x - y)) (W.b2 (W.b2 (W.pure x_116) (W.pure (1 : Int)) fun x y => W.pure (x + y)) (W.b2 (W.pure to_111) (W.pure (2 : Int)) modW) fun x y => W.pure (x + y)) fun i j => W.pure (min i j))) l) fun l => W.pure (⟨l⟩ : Tup Int)) (W.ite (W.b2 (W.pure y.2) (W.pure (2 : Int)) (fun x y => W.pure (decide (x = y)))) (W.b1 ((W.b1 (W.pure y.1) fun n => rngW 0 n).bind fun l => W.filterW (fun x_120 => nx (W.pure true)) (fun x_120 => nx (W.b2 (W.b1 (W.b2 (W.pure x_120) (W.pure to_111) fun x y => W.pure (x + y)) fun i => W.pure i) (W.pure y.1) modW)) l) fun l => W.pure (⟨l⟩ : Tup Int)) (W.ite (W.b2 (W.pure y.2) (W.pure (3 : Int)) (fun x y => W.pure (decide (x = y)))) (W.b1 (W.b2 (W.b1 (W.pure to_111) fun x => W.pure ([x] : List Int)) (W.pure y.1) repW) fun l => W.pure (⟨l⟩ : Tup Int)) (W.ite (W.b2 (W.pure y.2) (W.pure (4 : Int)) (fun x y => W.pure (decide (x = y)))) (W.b1 ((W.b1 (W.pure y.1) fun n => rngW 0 n).bind (m_law_mixed (α := Int))) fun l => W.pure (⟨l⟩ : Tup Int)) (W.ite (W.b2 (W.pure y.2) (W.pure (5 : Int)) (fun x y => W.pure (decide (x = y)))) (W.b1 ((W.b1 (W.pure y.1) fun n => rngW 0 n).bind fun l => W.filterW (fun x_124 => nx (W.pure true)) (fun x_124 => nx (W.b2 (W.pure (0 : Int)) (W.b2 (W.b2 (W.pure x_124) (W.pure (1 : Int)) fun x y => W.pure (x - y)) (W.b2 (W.pure to_111) (W.pure (2 : Int)) modW) fun x y => W.pure (x - y)) fun i j => W.pure (max i j))) l) fun l => W.pure (⟨l⟩ : Tup Int)) (W.b1 ((W.b1 (W.pure y.1) fun n => rngW 0 n).bind fun l => W.filterW (fun x_128 => nx (W.pure true)) (fun x_128 => nx ((W.pure y.1).bind m_law_any)) l) fun l => W.pure (⟨l⟩ : Tup Int)))))))))
theorem ok_law_columns {u : Wd} (wo : WOk u) {f : Addr} {fd : FuncData} (hF : Fun u.K "_law_columns" "_law_columns" s_law_columns f fd) (hm : u.mg "_law_columns" = some (.ref f)) (hbi : Binds u.K fd ["many", "deal", "form"] []) (h_law_any : Fn u 1 "_law_any" ["deal", "bound"] true (fun y : Int => [none, some (toD y)]) m_law_any) (h_law_mixed : ∀ {α : Type} [Py α], Fn u 2 "_law_mixed" ["deal", "some"] true (fun y : (List α) => [none, some (toD y)]) (m_law_mixed (α := α))) :
    Fn u 3 "_law_columns" ["many", "deal", "form"] true (fun y : Int × Int => [some (toD y.1), none, some (toD y.2)]) m_law_columns := by
  refine fn_ok (n := 2) wo hF hm sc_law_columns hbi (fun _ => rfl) rfl (fun _ h => by cases h) fun X P Wx hu hbd d y => ?_
  have c := d.toCok
  subst hu
  unfold m_law_columns
  exact tb_cons (s_set d 3 (ex_call c h_law_any (by decide) (fun _ => hbd) (ao_deal c 1 (ao_one (ex_var c 0))))) fun to_111 => tb_if (B := []) (tx_c c_eqI (ex_var c 2) (ex_int)) (tb_ret (ex_tupleL c (ex_fz (en_lc (f := fun x_112 : Int => [.dat (toD y.1), .deal, .dat (toD y.2), .dat (toD to_111), .dat (toD x_112)]) (me := fun x_112 => (W.b2 (W.pure (0 : Int)) (W.b2 (W.pure x_112) (W.pure (1 : Int)) fun x y => W.pure (x - y)) fun i j => W.pure (max i j))) c [("state", 4)] (ei_range1 c (ex_var c 0)) (by rfl) (fun X_115 c_113 f_114 => ⟨gbn c_113 4, fun x_112 => t_nil, fun x_112 => ex_max2 c_113 (ex_int) (ex_sub (ex_var c_113 4) (ex_int))⟩))))) (tb_if (B := []) (tx_c c_eqI (ex_var c 2) (ex_int)) (tb_ret (ex_tupleL c (ex_fz (en_lc (f := fun x_116 : Int => [.dat (toD y.1), .deal, .dat (toD y.2), .dat (toD to_111), .dat (toD x_116)]) (me := fun x_116 => (W.b2 (W.b2 (W.pure y.1) (W.pure (1 : Int)) fun x y => W.pure (x - y)) (W.b2 (W.b2 (W.pure x_116) (W.pure (1 : Int)) fun x y => W.pure (x + y)) (W.b2 (W.pure to_111) (W.pure (2 : Int)) modW) fun x y => W.pure (x + y)) fun i j => W.pure (min i j))) c [("state", 4)] (ei_range1 c (ex_var c 0)) (by rfl) (fun X_119 c_117 f_118 => ⟨gbn c_117 4, fun x_116 => t_nil, fun x_116 => ex_min2 c_117 (ex_sub (ex_var c_117 0) (ex_int)) (ex_add (ex_add (ex_var c_117 4) (ex_int)) (ex_mod (ex_var c_117 3) (ex_int)))⟩))))) (tb_if (B := []) (tx_c c_eqI (ex_var c 2) (ex_int)) (tb_ret (ex_tupleL c (ex_fz (en_lc (f := fun x_120 : Int => [.dat (toD y.1), .deal, .dat (toD y.2), .dat (toD to_111), .dat (toD x_120)]) (me := fun x_120 => (W.b2 (W.b1 (W.b2 (W.pure x_120) (W.pure to_111) fun x y => W.pure (x + y)) fun i => W.pure i) (W.pure y.1) modW)) c [("state", 4)] (ei_range1 c (ex_var c 0)) (by rfl) (fun X_123 c_121 f_122 => ⟨gbn c_121 4, fun x_120 => t_nil, fun x_120 => ex_mod (ex_intI c_121 (ex_add (ex_var c_121 4) (ex_var c_121 3))) (ex_var c_121 0)⟩))))) (tb_if (B := []) (tx_c c_eqI (ex_var c 2) (ex_int)) (tb_ret (ex_tupleL c (ex_fz (en_rep (ex_fz (en_lst (f := fun x : Int => ([x] : List Int)) (ea_one (ex_var c 3)) (fun _ => rfl))) (ex_var c 0))))) (tb_if (B := []) (tx_c c_eqI (ex_var c 2) (ex_int)) (tb_ret (ex_tupleL c (ex_call c (h_law_mixed (α := Int)) (by decide) (fun _ => hbd) (ao_deal c 1 (ao_one (ex_fz (en_listRg c (ex_var c 0)))))))) (tb_if (B := []) (tx_c c_eqI (ex_var c 2) (ex_int)) (tb_ret (ex_tupleL c (ex_fz (en_lc (f := fun x_124 : Int => [.dat (toD y.1), .deal, .dat (toD y.2), .dat (toD to_111), .dat (toD x_124)]) (me := fun x_124 => (W.b2 (W.pure (0 : Int)) (W.b2 (W.b2 (W.pure x_124) (W.pure (1 : Int)) fun x y => W.pure (x - y)) (W.b2 (W.pure to_111) (W.pure (2 : Int)) modW) fun x y => W.pure (x - y)) fun i j => W.pure (max i j))) c [("state", 4)] (ei_range1 c (ex_var c 0)) (by rfl) (fun X_127 c_125 f_126 => ⟨gbn c_125 4, fun x_124 => t_nil, fun x_124 => ex_max2 c_125 (ex_int) (ex_sub (ex_sub (ex_var c_125 4) (ex_int)) (ex_mod (ex_var c_125 3) (ex_int)))⟩))))) (tb_ret (ex_tupleL c (ex_fz (en_lc (f := fun x_128 : Int => [.dat (toD y.1), .deal, .dat (toD y.2), .dat (toD to_111), .dat (toD x_128)]) (me := fun x_128 => ((W.pure y.1).bind m_law_any)) c [("state", 4)] (ei_range1 c (ex_var c 0)) (by rfl) (fun X_131 c_129 f_130 => ⟨gbn c_129 4, fun x_128 => t_nil, fun x_128 => ex_call c_129 h_law_any (by decide) (fun _ => hbd) (ao_deal c_129 1 (ao_one (ex_var c_129 0)))⟩))))))))))
abbrev s_law_rings : Stmt := topS 39
theorem sc_law_rings : FnScope ["deal", "found", "turn", "size", "many", "names", "turned", "state", "to", "at"] ["deal"] (defScope s_law_rings) := ⟨rfl, rfl, rfl, by decide +kernel, rfl, by decide +kernel, by decide +kernel⟩
def m_law_rings (y : Unit) : W (Tup Int) :=
  ((W.b1 (W.pure ()) fun x => W.pure ([] : List Int)).bind fun found_132 => (((W.b1 (W.pure (9 : Int)) fun n => rngW 0 n).bind fun l => W.forW l (fun x_134 t_133 => ((W.b2 (W.b2 (W.pure (1 : Int)) ((W.pure (13 : Int)).bind m_law_any) fun x y => W.pure (x + y)) (W.b1 (W.pure t_133) (fun l => W.pure (l.length : Int))) fun x y => W.pure (x, y)).bind fun p_135 => ((W.ite (W.b2 (W.b2 (W.pure p_135.2) (W.pure p_135.1) fun x y => W.pure (x + y)) (W.pure (41 : Int)) (fun x y => W.pure (decide (x < y)))) ((W.b2 (W.pure t_133) ((W.b1 (W.pure p_135.1) fun n => rngW 0 n).bind fun l => W.filterW (fun x_143 => nx (W.pure true)) (fun x_143 => nx (W.b2 (W.pure p_135.2) (W.b2 (W.b1 (W.b2 (W.pure x_143) (W.pure (1 : Int)) fun x y => W.pure (x + y)) fun i => W.pure i) (W.pure p_135.1) modW) fun x y => W.pure (x + y))) l) catW).bind fun found_142 => W.pure found_142) (W.pure t_133)).bind fun t_141 => W.pure t_141))) found_132).bind fun t_133 => ((W.whileW (fun t_147 => (W.and (W.b2 (W.b1 (W.pure t_147) (fun l => W.pure (l.length : Int))) (W.pure (40 : Int)) (fun x y => W.pure (decide (x < y)))) (W.b2 ((W.pure (5 : Int)).bind m_law_any) (W.pure (0 : Int)) (fun x y => W.pure (decide (y < x)))))) (fun t_147 => ((((W.b1 (W.b2 ((W.b1 (W.pure t_147) (fun l => W.pure (l.length : Int))).bind m_law_any) (W.b2 (W.b2 (W.b1 (W.pure t_147) (fun l => W.pure (l.length : Int))) (W.pure (1 : Int)) fun x y => W.pure (x - y)) (W.b2 (W.b1 (W.pure t_147) (fun l => W.pure (l.length : Int))) (W.pure (1 : Int)) fun x y => W.pure (x - y)) fun x y => W.pure (x, y)) fun x y => W.pure (x, y)) fun x => W.pure ([x.1, x.2.1, x.2.2] : List Int)).bind (m_law_of (α := Int))).bind fun a => W.need (t_147.length < 16777216) a).bind fun found_148 => W.pure (t_147 ++ [found_148]))) t_133).bind fun t_147 => ((W.b2 ((W.b1 (W.b1 (W.pure t_147) (fun l => W.pure (l.length : Int))) fun n => rngW 0 n).bind (m_law_mixed (α := Int))) (W.b2 (W.b1 (W.pure (0 : Int)) fun x => W.pure ([x] : List Int)) (W.b1 (W.pure t_147) (fun l => W.pure (l.length : Int))) repW) fun x y => W.pure (x, y)).bind fun p_149 => (((W.b1 (W.pure t_147) fun x => W.pure (enumL x)).bind fun l => W.forW l (fun x_151 t_150 => ((W.b2 (W.b2 (W.pure p_149.1) (W.pure x_151.2) fun l i => ixW l i) (W.b2 (W.pure p_149.1) (W.pure x_151.1) fun l i => ixW l i) fun a j => setW t_150 j a).bind fun turned_152 => W.pure turned_152)) p_149.2).bind fun t_150 => (W.b1 (W.pure t_150) fun l => W.pure (⟨l⟩ : Tup Int)))))))
theorem ok_law_rings {u : Wd} (wo : WOk u) {f : Addr} {fd : FuncData} (hF : Fun u.K "_law_rings" "_law_rings" s_law_rings f fd) (hm : u.mg "_law_rings" = some (.ref f)) (hbi : Binds u.K fd ["deal"] []) (h_law_any : Fn u 1 "_law_any" ["deal", "bound"] true (fun y : Int => [none, some (toD y)]) m_law_any) (h_law_mixed : ∀ {α : Type} [Py α], Fn u 2 "_law_mixed" ["deal", "some"] true (fun y : (List α) => [none, some (toD y)]) (m_law_mixed (α := α))) (h_law_of : ∀ {α : Type} [Py α], Fn u 2 "_law_of" ["deal", "some"] true (fun y : (List α) => [none, some (toD y)]) (m_law_of (α := α))) :
    Fn u 3 "_law_rings" ["deal"] true (fun y : Unit => [none]) m_law_rings := by
  refine fn_ok (n := 9) wo hF hm sc_law_rings hbi (fun _ => rfl) rfl (fun _ h => by cases h) fun X P Wx hu hbd d y => ?_
  have c := d.toCok
  subst hu
  unfold m_law_rings
  exact tb_cons (s_own d 1 (en_lst (f := fun x : Unit => ([] : List Int)) (ea_nil) (fun _ => rfl))) fun found_132 => tb_cons (s_for (f := fun (x_134 : Int) (t_133 : (List Int)) => [.deal, .own (t_133.map toD), .dat (toD x_134), .un, .un, .un, .un, .un, .un, .un]) (Nn := fun t_133 : (List Int) => [.deal, .own (t_133.map toD), .un, .un, .un, .un, .un, .un, .un, .un]) d found_132 (ei_range1 c (ex_int)) (.keep (.keep (.keep (.keep (.keep (.keep (.keep (.keep (.keep (.keep .nil)))))))))) (fun t_133 => gt_name d 2) (fun x_134 t_133 => bb_cons (s_asg2 d 3 4 (ev_dat (ex_add (ex_int) (ex_call c h_law_any (by decide) (fun _ => hbd) (ao_deal c 0 (ao_one (ex_int)))))) (ev_dat (ex_bor 1 (ex_lenL c (ex_var c 1))))) fun p_135 => bb_cons (s_if (Nn := fun t_141 : (List Int) => [.deal, .own (t_141.map toD), .dat (toD x_134), .dat (toD p_135.1), .dat (toD p_135.2), .un, .un, .un, .un, .un]) (tx_c c_lt (ex_add (ex_var c 4) (ex_var c 3)) (ex_int)) (bb_fz (l := t_133) 1 (bb_cons (s_own d 1 (en_cat (ex_var c 1) (ex_fz (en_lc (f := fun x_143 : Int => [.deal, .dat (toD t_133), .dat (toD x_134), .dat (toD p_135.1), .dat (toD p_135.2), .un, .un, .un, .un, .dat (toD x_143)]) (me := fun x_143 => (W.b2 (W.pure p_135.2) (W.b2 (W.b1 (W.b2 (W.pure x_143) (W.pure (1 : Int)) fun x y => W.pure (x + y)) fun i => W.pure i) (W.pure p_135.1) modW) fun x y => W.pure (x + y))) c [("at", 9)] (ei_range1 c (ex_var c 3)) (by rfl) (fun X_146 c_144 f_145 => ⟨gbn c_144 9, fun x_143 => t_nil, fun x_143 => ex_add (ex_var c_144 4) (ex_mod (ex_intI c_144 (ex_add (ex_var c_144 9) (ex_int))) (ex_var c_144 3))⟩))))) fun found_142 => bb_nil (.keep (.keep (.keep (.keep (.keep (.keep (.keep (.keep (.keep (.keep .nil)))))))))))) (bb_nil (.keep (.keep (.keep (.keep (.keep (.keep (.keep (.keep (.keep (.keep .nil)))))))))))) fun t_141 => bb_nil (.keep (.keep (.drop (.drop (.drop (.keep (.keep (.keep (.keep (.keep .nil)))))))))))) fun t_133 => tb_cons (s_while (Nn := fun t_147 : (List Int) => [.deal, .own (t_147.map toD), .un, .un, .un, .un, .un, .un, .un, .un]) d t_133 (.keep (.keep (.keep (.keep (.keep (.keep (.keep (.keep (.keep (.keep .nil)))))))))) (fun t_147 => tw (tw_and (tx_bor 1 (tx_c c_lt (ex_lenL c (ex_var c 1)) (ex_int))) (tw_and1 (tx_c c_gt (ex_call c h_law_any (by decide) (fun _ => hbd) (ao_deal c 0 (ao_one (ex_int)))) (ex_int))))) (fun t_147 => bb_cons (s_append c 1 (ex_bor 1 (ex_call c (h_law_of (α := Int)) (by decide) (fun _ => hbd) (ao_deal c 0 (ao_one (ex_fz (en_lst (f := fun x : (Int × (Int × Int)) => ([x.1, x.2.1, x.2.2] : List Int)) (ea_cons (ex_call c h_law_any (by decide) (fun _ => hbd) (ao_deal c 0 (ao_one (ex_lenL c (ex_var c 1))))) (ea_cons (ex_sub (ex_lenL c (ex_var c 1)) (ex_int)) (ea_one (ex_sub (ex_lenL c (ex_var c 1)) (ex_int))))) (fun _ => rfl)))))))) fun found_148 => bb_nil (.keep (.keep (.keep (.keep (.keep (.keep (.keep (.keep (.keep (.keep .nil)))))))))))) fun t_147 => tb_fz (l := t_147) 1 (tb_cons (s_par2 d 5 6 (ev_dat (ex_call c (h_law_mixed (α := Int)) (by decide) (fun _ => hbd) (ao_deal c 0 (ao_one (ex_fz (en_listRg c (ex_lenL c (ex_var c 1)))))))) (ev_own (en_rep (ex_fz (en_lst (f := fun x : Int => ([x] : List Int)) (ea_one (ex_int)) (fun _ => rfl))) (ex_lenL c (ex_var c 1))))) fun p_149 => tb_cons (s_for (f := fun (x_151 : (Int × Int)) (t_150 : (List Int)) => [.deal, .dat (toD t_147), .un, .un, .un, .dat (toD p_149.1), .own (t_150.map toD), .dat (toD x_151.1), .dat (toD x_151.2), .un]) (Nn := fun t_150 : (List Int) => [.deal, .dat (toD t_147), .un, .un, .un, .dat (toD p_149.1), .own (t_150.map toD), .un, .un, .un]) d p_149.2 (ei_enumL c (ex_var c 1)) (.keep (.keep (.keep (.keep (.keep (.keep (.keep (.keep (.keep (.keep .nil)))))))))) (fun t_150 => gt_pair c (gt_name d 7) fun _ => gt_name d 8) (fun x_151 t_150 => bb_cons (s_setI c 6 (ex_ix ixL (ex_var c 5) (ex_var c 8)) (ex_ix ixL (ex_var c 5) (ex_var c 7))) fun turned_152 => bb_nil (.keep (.keep (.keep (.keep (.keep (.keep (.keep (.drop (.drop (.keep .nil)))))))))))) fun t_150 => tb_fz (l := t_150) 6 (tb_ret (ex_tupleL c (ex_var c 6))))
abbrev s_law_change : Stmt := topS 34
theorem sc_law_change : FnScope ["deal", "firsts", "end", "two", "many"] ["deal"] (defScope s_law_change) := ⟨rfl, rfl, rfl, by decide +kernel, rfl, by decide +kernel, by decide +kernel⟩
def m_law_change (y : Unit) : W (Tup Int) :=
  (W.thenR (W.lpW (W.ite (W.b2 ((W.pure (3 : Int)).bind m_law_any) (W.pure (0 : Int)) (fun x y => W.pure (decide (x = y)))) (((W.pure (6 : Int)).bind m_law_falling).bind fun p_156 => (((W.b2 (W.pure p_156.1) (W.pure p_156.2) fun x y => W.pure (x, y)).bind m_law_two).bind fun two_157 => (W.ite (W.b2 (W.b1 (W.b2 (W.pure two_157) (W.pure (0 : Int)) fun l i => ixW l i) (fun l => W.pure (l.l.length : Int))) (W.pure (41 : Int)) (fun x y => W.pure (decide (x < y)))) ((W.b2 (W.pure two_157) ((W.pure (2 : Int)).bind m_law_any) fun l i => ixW l i).bind fun r => W.pure (.rt r)) (W.pure (.nx ()))))) (W.pure (.nx ())))) fun t_155 => (W.ite (W.b2 ((W.pure (2 : Int)).bind m_law_any) (W.pure (0 : Int)) (fun x y => W.pure (decide (x = y)))) ((W.pure ()).bind m_law_rings) ((W.b2 (W.pure (1 : Int)) (((W.b1 (W.b2 (W.pure (3 : Int)) (W.b2 (W.pure (8 : Int)) (W.pure (40 : Int)) fun x y => W.pure (x, y)) fun x y => W.pure (x, y)) fun x => W.pure ([x.1, x.2.1, x.2.2] : List Int)).bind (m_law_of (α := Int))).bind m_law_any) fun x y => W.pure (x + y)).bind fun many_158 => ((W.b2 (W.pure many_158) ((W.pure (8 : Int)).bind m_law_any) fun x y => W.pure (x, y)).bind m_law_columns))))
theorem ok_law_change {u : Wd} (wo : WOk u) {f : Addr} {fd : FuncData} (hF : Fun u.K "_law_change" "_law_change" s_law_change f fd) (hm : u.mg "_law_change" = some (.ref f)) (hbi : Binds u.K fd ["deal"] []) (h_law_any : Fn u 1 "_law_any" ["deal", "bound"] true (fun y : Int => [none, some (toD y)]) m_law_any) (h_law_columns : Fn u 3 "_law_columns" ["many", "deal", "form"] true (fun y : Int × Int => [some (toD y.1), none, some (toD y.2)]) m_law_columns) (h_law_falling : Fn u 3 "_law_falling" ["deal", "most"] true (fun y : Int => [none, some (toD y)]) m_law_falling) (h_law_of : ∀ {α : Type} [Py α], Fn u 2 "_law_of" ["deal", "some"] true (fun y : (List α) => [none, some (toD y)]) (m_law_of (α := α))) (h_law_rings : Fn u 3 "_law_rings" ["deal"] true (fun y : Unit => [none]) m_law_rings) (h_law_two : Fn u 2 "_law_two" ["firsts", "end"] false (fun y : (Tup Int) × Int => [some (toD y.1), some (toD y.2)]) m_law_two) :
    Fn u 4 "_law_change" ["deal"] true (fun y : Unit => [none]) m_law_change := by
  refine fn_ok (n := 4) wo hF hm sc_law_change hbi (fun _ => rfl) rfl (fun _ h => by cases h) fun X P Wx hu hbd d y => ?_
  have c := d.toCok
  subst hu
  unfold m_law_change
  exact tb_loop (l_if (Nn := fun t_155 : Unit => [.deal, .un, .un, .un, .un]) (tx_c c_eqI (ex_call c h_law_any (by decide) (fun _ => hbd) (ao_deal c 0 (ao_one (ex_int)))) (ex_int)) (fb_cons (s_unp (f := fun p_156 : ((Tup Int) × Int) => [.deal, .dat (toD p_156.1), .dat (toD p_156.2), .un, .un]) d (ex_call c h_law_falling (by decide) (fun _ => hbd) (ao_deal c 0 (ao_one (ex_int)))) (gt_pair c (gt_name d 1) fun _ => gt_name d 2)) fun p_156 => fb_cons (s_set d 3 (ex_call c h_law_two (by decide) (fun h => by cases h) (ao_cons (ex_var c 1) (ao_one (ex_var c 2))))) fun two_157 => fb_ifx (tx_c c_lt (ex_lenT c (ex_ix ixL (ex_var c 3) (ex_int))) (ex_int)) (xb_ret (ex_ix ixL (ex_var c 3) (ex_call c h_law_any (by decide) (fun _ => hbd) (ao_deal c 0 (ao_one (ex_int)))))) (fb_nil (.keep (.drop (.drop (.drop (.keep .nil))))))) (fb_nil (.keep (.keep (.keep (.keep (.keep .nil))))))) fun t_155 => tb_if (B := []) (tx_c c_eqI (ex_call c h_law_any (by decide) (fun _ => hbd) (ao_deal c 0 (ao_one (ex_int)))) (ex_int)) (tb_ret (ex_call c h_law_rings (by decide) (fun _ => hbd) (ao_deal c 0 (ao_nil)))) (tb_cons (s_set d 4 (ex_add (ex_int) (ex_call c h_law_any (by decide) (fun _ => hbd) (ao_deal c 0 (ao_one (ex_call c (h_law_of (α := Int)) (by decide) (fun _ => hbd) (ao_deal c 0 (ao_one (ex_fz (en_lst (f := fun x : (Int × (Int × Int)) => ([x.1, x.2.1, x.2.2] : List Int)) (ea_cons (ex_int) (ea_cons (ex_int) (ea_one (ex_int)))) (fun _ => rfl))))))))))) fun many_158 => tb_ret (ex_call c h_law_columns (by decide) (fun _ => hbd) (ao_cons (ex_var c 4) (ao_deal c 0 (ao_one (ex_call c h_law_any (by decide) (fun _ => hbd) (ao_deal c 0 (ao_one (ex_int)))))))))
abbrev s_law_walk : Stmt := topS 35
theorem sc_law_walk : FnScope ["change", "seen", "found", "count"] ["change"] (defScope s_law_walk) := ⟨rfl, rfl, rfl, by decide +kernel, rfl, by decide +kernel, by decide +kernel⟩
def m_law_walk (y : (Tup Int)) : W (Int × Int) :=
  ((W.b3 (W.pure ([] : List (List Int × Int))) (W.b1 (W.b1 (W.b1 (W.pure y) (fun l => W.pure (l.l.length : Int))) fun n => rngW 0 n) fun l => W.pure (⟨l⟩ : Tup Int)) (W.pure (0 : Int)) fun x y z => W.pure (x, y, z)).bind fun p_159 => ((W.whileW (fun t_160 => (W.b2 (W.pure t_160.2.1) (W.pure (⟨t_160.1⟩ : DT Int)) fun k d => W.pure (!(getM d.m (KeyT.tk k)).isSome))) (fun t_160 => ((W.b2 (W.pure t_160.2.2) (W.pure t_160.2.1) fun a k => W.need (t_160.1.length < 16777216) (putM t_160.1 (KeyT.tk k) a)).bind fun seen_161 => ((W.b2 ((W.b2 (W.pure t_160.2.1) (W.pure y) fun x y => W.pure (x, y)).bind m_law_then) (W.b2 (W.pure t_160.2.2) (W.pure (1 : Int)) fun x y => W.pure (x + y)) fun x y => W.pure (x, y)).bind fun p_162 => W.pure (seen_161, p_162.1, p_162.2)))) (p_159.1, p_159.2.1, p_159.2.2)).bind fun t_160 => (W.b1 (W.b2 (W.b2 (W.pure (⟨t_160.1⟩ : DT Int)) (W.pure t_160.2.1) fun d k => getW d.m (KeyT.tk k)) (W.b2 (W.pure t_160.2.2) (W.b2 (W.pure (⟨t_160.1⟩ : DT Int)) (W.pure t_160.2.1) fun d k => getW d.m (KeyT.tk k)) fun x y => W.pure (x - y)) fun x y => W.pure (x, y)) fun x => W.pure x)))
theorem ok_law_walk {u : Wd} (wo : WOk u) {f : Addr} {fd : FuncData} (hF : Fun u.K "_law_walk" "_law_walk" s_law_walk f fd) (hm : u.mg "_law_walk" = some (.ref f)) (hbi : Binds u.K fd ["change"] []) (h_law_then : Fn u 1 "_law_then" ["one", "other"] false (fun y : (Tup Int) × (Tup Int) => [some (toD y.1), some (toD y.2)]) m_law_then) :
    Fn u 2 "_law_walk" ["change"] false (fun y : (Tup Int) => [some (toD y)]) m_law_walk := by
  refine fn_ok (n := 3) wo hF hm sc_law_walk hbi (fun _ => rfl) rfl (fun _ _ => by simp) fun X P Wx hu hbd d y => ?_
  have c := d.toCok
  subst hu
  unfold m_law_walk
  exact tb_cons (s_par3g d 1 2 3 (ev_dictT (γ := Int)) (ev_dat (ex_tupleL c (ex_fz (en_listRg c (ex_lenT c (ex_var c 0)))))) (ev_dat (ex_int))) fun p_159 => tb_cons (s_while (Nn := fun t_160 : (List (List Int × Int)) × (Tup Int) × Int => [.dat (toD y), slT t_160.1, .dat (toD t_160.2.1), .dat (toD t_160.2.2)]) d (p_159.1, p_159.2.1, p_159.2.2) (.keep (.keep (.keep (.keep .nil)))) (fun t_160 => tx_borK (lenT t_160.1) 1 (tx_notinT c (ex_var c 2) (ex_var c 1))) (fun t_160 => bb_cons (s_putT c 1 (ex_var c 3) (ex_var c 2)) fun seen_161 => bb_cons (s_par2 d 2 3 (ev_dat (ex_call c h_law_then (by decide) (fun h => by cases h) (ao_cons (ex_var c 2) (ao_one (ex_var c 0))))) (ev_dat (ex_add (ex_var c 3) (ex_int)))) fun p_162 => bb_nil (.keep (.keep (.keep (.keep .nil)))))) fun t_160 => tb_fzK (lenT t_160.1) 1 (tb_ret (ex_tup (f := fun x : (Int × Int) => x) (ea_cons (ex_getT c (ex_var c 1) (ex_var c 2)) (ea_one (ex_sub (ex_var c 3) (ex_getT c (ex_var c 1) (ex_var c 2))))) (fun _ => rfl)))
abbrev s_law_by_states : Stmt := topS 36
theorem sc_law_by_states : FnScope ["change", "first", "length", "state", "seen", "at", "whole"] ["change"] (defScope s_law_by_states) := ⟨rfl, rfl, rfl, by decide +kernel, rfl, by decide +kernel, by decide +kernel⟩
def m_law_by_states (y : (Tup Int)) : W (Int × Int) :=
  ((W.b1 (W.b2 (W.pure (0 : Int)) (W.pure (1 : Int)) fun x y => W.pure (x, y)) fun x => W.pure x).bind fun p_163 => (((W.b1 (W.b1 (W.pure y) (fun l => W.pure (l.l.length : Int))) fun n => rngW 0 n).bind fun l => W.forW l (fun x_165 t_164 => ((W.b2 (W.b1 (W.pure ()) fun x => W.pure ([] : List Int)) (W.pure x_165) fun x y => W.pure (x, y)).bind fun p_166 => ((W.whileW (fun t_167 => (W.b2 (W.pure t_167.2) (W.pure t_167.1) (fun (x : Int) (l : (List Int)) => W.pure (!decide (x ∈ l))))) (fun t_167 => (((W.pure t_167.2).bind fun a => W.need (t_167.1.length < 16777216) a).bind fun seen_168 => ((W.b2 (W.pure y) (W.pure t_167.2) fun l i => ixW l.l i).bind fun at_169 => W.pure ((t_167.1 ++ [seen_168]), at_169)))) (p_166.1, p_166.2)).bind fun t_167 => ((W.b2 (W.b2 (W.pure t_164.1) (W.b2 (W.pure t_167.1) (W.pure t_167.2) indexW) fun i j => W.pure (max i j)) (W.pure t_164.2) fun x y => W.pure (x, y)).bind fun p_170 => ((W.whileW (fun t_171 => (W.b2 (W.b2 (W.b1 (W.pure t_171) fun i => W.pure i) (W.b2 (W.b1 (W.pure t_167.1) (fun l => W.pure (l.length : Int))) (W.b2 (W.pure t_167.1) (W.pure t_167.2) indexW) fun x y => W.pure (x - y)) modW) (W.pure (0 : Int)) (fun x y => W.pure (!decide (x = y))))) (fun t_171 => ((W.b2 (W.pure t_171) (W.pure t_164.2) fun x y => W.pure (x + y)).bind fun whole_172 => W.pure whole_172)) p_170.2).bind fun t_171 => ((W.pure t_171).bind fun length_173 => W.pure (p_170.1, length_173))))))) (p_163.1, p_163.2)).bind fun t_164 => (W.b1 (W.b2 (W.pure t_164.1) (W.pure t_164.2) fun x y => W.pure (x, y)) fun x => W.pure x)))
theorem ok_law_by_states {u : Wd} (wo : WOk u) {f : Addr} {fd : FuncData} (hF : Fun u.K "_law_by_states" "_law_by_states" s_law_by_states f fd) (hm : u.mg "_law_by_states" = some (.ref f)) (hbi : Binds u.K fd ["change"] []) :
    Fn u 1 "_law_by_states" ["change"] false (fun y : (Tup Int) => [some (toD y)]) m_law_by_states := by
  refine fn_ok (n := 6) wo hF hm sc_law_by_states hbi (fun _ => rfl) rfl (fun _ _ => by simp) fun X P Wx hu hbd d y => ?_
  have c := d.toCok
  subst hu
  unfold m_law_by_states
  exact tb_cons (s_unp (f := fun p_163 : (Int × Int) => [.dat (toD y), .dat (toD p_163.1), .dat (toD p_163.2), .un, .un, .un, .un]) d (ex_tup (f := fun x : (Int × Int) => x) (ea_cons (ex_int) (ea_one (ex_int))) (fun _ => rfl)) (gt_pair c (gt_name d 1) fun _ => gt_name d 2)) fun p_163 => tb_cons (s_for (f := fun (x_165 : Int) (t_164 : Int × Int) => [.dat (toD y), .dat (toD t_164.1), .dat (toD t_164.2), .dat (toD x_165), .un, .un, .un]) (Nn := fun t_164 : Int × Int => [.dat (toD y), .dat (toD t_164.1), .dat (toD t_164.2), .un, .un, .un, .un]) d (p_163.1, p_163.2) (ei_range1 c (ex_lenT c (ex_var c 0))) (.keep (.keep (.keep (.keep (.keep (.keep (.keep .nil))))))) (fun t_164 => gt_name d 3) (fun x_165 t_164 => bb_cons (s_par2 d 4 5 (ev_own (en_lst (f := fun x : Unit => ([] : List Int)) (ea_nil) (fun _ => rfl))) (ev_dat (ex_var c 3))) fun p_166 => bb_cons (s_while (Nn := fun t_167 : (List Int) × Int => [.dat (toD y), .dat (toD t_164.1), .dat (toD t_164.2), .dat (toD x_165), .own (t_167.1.map toD), .dat (toD t_167.2), .un]) d (p_166.1, p_166.2) (.keep (.keep (.keep (.keep (.keep (.keep (.keep .nil))))))) (fun t_167 => tx_bor 4 (tx_c c_notinL (ex_var c 5) (ex_var c 4))) (fun t_167 => bb_cons (s_append c 4 (ex_var c 5)) fun seen_168 => bb_cons (s_set d 5 (ex_ix ixT (ex_var c 0) (ex_var c 5))) fun at_169 => bb_nil (.keep (.keep (.keep (.keep (.keep (.keep (.keep .nil))))))))) fun t_167 => bb_cons (s_par2 d 1 6 (ev_dat (ex_bor 4 (ex_max2 c (ex_var c 1) (ex_index c (ex_var c 4) (ex_var c 5))))) (ev_dat (ex_var c 2))) fun p_170 => bb_cons (s_while (Nn := fun t_171 : Int => [.dat (toD y), .dat (toD p_170.1), .dat (toD t_164.2), .dat (toD x_165), .own (t_167.1.map toD), .dat (toD t_167.2), .dat (toD t_171)]) d p_170.2 (.keep (.keep (.keep (.keep (.keep (.keep (.keep .nil))))))) (fun t_171 => tx_bor 4 (tx_c c_neI (ex_mod (ex_intI c (ex_var c 6)) (ex_sub (ex_lenL c (ex_var c 4)) (ex_index c (ex_var c 4) (ex_var c 5)))) (ex_int))) (fun t_171 => bb_cons (s_set d 6 (ex_add (ex_var c 6) (ex_var c 2))) fun whole_172 => bb_nil (.keep (.keep (.keep (.keep (.keep (.keep (.keep .nil))))))))) fun t_171 => bb_cons (s_set d 2 (ex_var c 6)) fun length_173 => bb_nil (.keep (.keep (.keep (.drop (.drop (.drop (.drop .nil))))))))) fun t_164 => tb_ret (ex_tup (f := fun x : (Int × Int) => x) (ea_cons (ex_var c 1) (ea_one (ex_var c 2))) (fun _ => rfl))
abbrev s_law_least : Stmt := topS 37
theorem sc_law_least : FnScope ["first", "length", "count"] ["first", "length", "count"] (defScope s_law_least) := ⟨rfl, rfl, rfl, by decide +kernel, rfl, by decide +kernel, by decide +kernel⟩
def m_law_least (y : Int × Int × Int) : W Int :=
  ((W.whileW (fun t_174 => (W.b2 (W.pure t_174) (W.b2 (W.pure y.1) (W.pure y.2.1) fun x y => W.pure (x + y)) (fun x y => W.pure (decide (y ≤ x))))) (fun t_174 => ((W.b2 (W.pure y.1) (W.b2 (W.b1 (W.b2 (W.pure t_174) (W.pure y.1) fun x y => W.pure (x - y)) fun i => W.pure i) (W.pure y.2.1) modW) fun x y => W.pure (x + y)).bind fun count_175 => W.pure count_175)) y.2.2).bind fun t_174 => (W.pure t_174))
theorem ok_law_least {u : Wd} (wo : WOk u) {f : Addr} {fd : FuncData} (hF : Fun u.K "_law_least" "_law_least" s_law_least f fd) (hm : u.mg "_law_least" = some (.ref f)) (hbi : Binds u.K fd ["first", "length", "count"] []) :
    Fn u 1 "_law_least" ["first", "length", "count"] false (fun y : Int × Int × Int => [some (toD y.1), some (toD y.2.1), some (toD y.2.2)]) m_law_least := by
  refine fn_ok (n := 0) wo hF hm sc_law_least hbi (fun _ => rfl) rfl (fun _ _ => by simp) fun X P Wx hu hbd d y => ?_
  have c := d.toCok
  subst hu
  unfold m_law_least
  exact tb_cons (s_while (Nn := fun t_174 : Int => [.dat (toD y.1), .dat (toD y.2.1), .dat (toD t_174)]) d y.2.2 (.keep (.keep (.keep .nil))) (fun t_174 => tx_c c_ge (ex_var c 2) (ex_add (ex_var c 0) (ex_var c 1))) (fun t_174 => bb_cons (s_set d 2 (ex_add (ex_var c 0) (ex_mod (ex_intI c (ex_sub (ex_var c 2) (ex_var c 0))) (ex_var c 1)))) fun count_175 => bb_nil (.keep (.keep (.keep .nil))))) fun t_174 => tb_ret (ex_var c 2)
abbrev s_law_refused : Stmt := topS 38
theorem sc_law_refused : FnScope ["work", "wrong"] ["work"] (defScope s_law_refused) := ⟨rfl, rfl, rfl, by decide +kernel, rfl, by decide +kernel, by decide +kernel⟩
def m_law_refused (y : W D) : W D :=
  (tryR ((y.bind fun u_176 => W.pure (.nx ())) : W (Fl Unit Unit D)) "InvalidChange" (fun d : D => d) fun t_177 => (W.b1 (W.pure ()) fun x => W.pure (toD x)))
theorem ok_law_refused {u : Wd} (wo : WOk u) {f : Addr} {fd : FuncData} (hF : Fun u.K "_law_refused" "_law_refused" s_law_refused f fd) (hm : u.mg "_law_refused" = some (.ref f)) (hbi : Binds u.K fd ["work"] []) {C_InvalidChange : Addr} (hx_InvalidChange : XOk u "InvalidChange" C_InvalidChange) :
    ∀ k, AskOk u k "_law_refused" "work" m_law_refused := by
  intro k
  refine ask_ok (n := 1) wo hF hm sc_law_refused hbi rfl rfl (Or.inl rfl) fun X P Wx fz y hu d hw => ?_
  have c := d.toCok
  subst hu
  unfold m_law_refused
  exact tb_tryR (Nn := fun _ : Unit => [.vl (.ref fz), .un]) d 1 hx_InvalidChange (fun W_t pn_t xe_t d_t => have c_t := d_t.toCok; fb_cons (s_expr (hw _ _ _ d_t _ _ _ rfl)) fun u_176 => fb_nil (.keep (.keep .nil))) (su_at d 1 hx_InvalidChange) fun t_177 => tb_ret (ex_as (f := fun x : Unit => toD x) (ex_non))
abbrev s_law : Stmt := topS 40
theorem sc_law : FnScope ["script", "deal", "change", "many", "count", "done", "short", "turn", "first", "length", "late", "other", "same", "told", "bad"] ["script"] (defScope s_law) := ⟨rfl, rfl, rfl, by decide +kernel, rfl, by decide +kernel, by decide +kernel⟩
def m_law : W Bool :=
  (((W.pure ()).bind m_law_change).bind fun change_178 => ((W.b2 (W.b1 (W.pure change_178) (fun l => W.pure (l.l.length : Int))) ((W.b1 (W.b2 (W.pure (0 : Int)) (W.b2 (W.pure (1 : Int)) (W.b2 (W.pure (2 : Int)) (W.b2 (W.pure (3 : Int)) (W.b2 (W.pure (7 : Int)) (W.b2 (W.pure (30 : Int)) (W.b2 (W.b2 (W.pure (10 : Int)) (W.pure (18 : Int)) powW) (W.b2 (W.b2 (W.b2 (W.pure (10 : Int)) (W.pure (30 : Int)) powW) (W.pure (1 : Int)) fun x y => W.pure (x - y)) ((W.b2 (W.pure (10 : Int)) (W.pure (9 : Int)) powW).bind m_law_any) fun x y => W.pure (x - y)) fun x y => W.pure (x, y)) fun x y => W.pure (x, y)) fun x y => W.pure (x, y)) fun x y => W.pure (x, y)) fun x y => W.pure (x, y)) fun x y => W.pure (x, y)) fun x y => W.pure (x, y)) fun x => W.pure ([x.1, x.2.1, x.2.2.1, x.2.2.2.1, x.2.2.2.2.1, x.2.2.2.2.2.1, x.2.2.2.2.2.2.1, x.2.2.2.2.2.2.2] : List Int)).bind (m_law_of (α := Int))) fun x y => W.pure (x, y)).bind fun p_179 => (W.ite (W.not ((W.b2 (W.b1 ((W.b2 (W.pure p_179.2) (W.b1 (W.pure change_178) fun x => W.pure (toD x)) fun x y => W.pure (x, y)).bind fun z => m_power (z.2, z.1)) fun x => W.pure (toD x)) (W.b1 ((W.b2 (W.pure change_178) (W.pure p_179.2) fun x y => W.pure (x, y)).bind m_law_power) fun x => W.pure (toD x)) fun x y => W.pure (x, y)).bind m_law_same)) (W.pure false) ((W.b2 (W.b1 (W.b1 (W.pure p_179.1) fun n => rngW 0 n) fun l => W.pure (⟨l⟩ : Tup Int)) ((W.pure (12 : Int)).bind m_law_any) fun x y => W.pure (x, y)).bind fun p_180 => (((W.b1 (W.pure p_180.2) fun n => rngW 0 n).bind fun l => W.forW l (fun x_182 t_181 => (((W.b2 (W.pure t_181) (W.pure change_178) fun x y => W.pure (x, y)).bind m_law_then).bind fun done_183 => W.pure done_183)) p_180.1).bind fun t_181 => (W.ite (W.or (W.not ((W.b2 (W.b1 ((W.b2 (W.b1 (W.pure change_178) fun x => W.pure (toD x)) (W.pure p_180.2) fun x y => W.pure (x, y)).bind m_power) fun x => W.pure (toD x)) (W.b1 (W.pure t_181) fun x => W.pure (toD x)) fun x y => W.pure (x, y)).bind m_law_same)) (W.not ((W.b2 (W.b1 ((W.b2 (W.b1 (W.pure t_181) fun x => W.pure (toD x)) (W.pure (3 : Int)) fun x y => W.pure (x, y)).bind m_power) fun x => W.pure (toD x)) (W.b1 ((W.b2 (W.pure change_178) (W.b2 (W.pure (3 : Int)) (W.pure p_180.2) mulW) fun x y => W.pure (x, y)).bind m_law_power) fun x => W.pure (toD x)) fun x y => W.pure (x, y)).bind m_law_same))) (W.pure false) (((W.pure change_178).bind m_law_by_states).bind fun p_184 => (W.ite (W.and (W.b2 (W.pure p_179.1) (W.pure (13 : Int)) (fun x y => W.pure (decide (x < y)))) (W.b2 (W.b1 (W.b2 (W.pure p_184.1) (W.pure p_184.2) fun x y => W.pure (x, y)) fun x => W.pure x) ((W.pure change_178).bind m_law_walk) neWD)) (W.pure false) (W.ite (W.or (W.not ((W.b2 (W.b1 (W.b2 ((W.b1 (W.pure change_178) fun x => W.pure (toD x)).bind fun z => m_tail z) ((W.b1 (W.pure change_178) fun x => W.pure (toD x)).bind fun z => m_ring z) fun x y => W.pure (x, y)) fun x => W.pure (D.tup [toD x.1, toD x.2])) (W.b1 (W.b2 (W.pure p_184.1) (W.pure p_184.2) fun x y => W.pure (x, y)) fun x => W.pure (D.tup [toD x.1, toD x.2])) fun x y => W.pure (x, y)).bind m_law_same)) (W.and (W.b2 (W.pure p_184.1) (W.pure p_179.1) (fun x y => W.pure (decide (y ≤ x)))) (W.b2 (W.pure p_184.1) (W.pure (0 : Int)) (fun x y => W.pure (decide (y < x)))))) (W.pure false) ((W.b2 (W.pure p_184.1) (W.b2 (W.pure p_184.2) (W.b2 (W.b2 (W.pure (10 : Int)) (W.pure (25 : Int)) powW) ((W.b2 (W.pure (10 : Int)) (W.pure (9 : Int)) powW).bind m_law_any) fun x y => W.pure (x + y)) mulW) fun x y => W.pure (x + y)).bind fun late_185 => (W.thenR ((W.b1 (W.b2 (W.pure p_179.2) (W.b2 (W.b2 (W.pure (0 : Int)) (W.b2 (W.pure p_184.1) (W.pure (1 : Int)) fun x y => W.pure (x - y)) fun i j => W.pure (max i j)) (W.b2 (W.pure p_184.1) (W.b2 (W.b2 (W.pure p_184.1) (W.pure (1 : Int)) fun x y => W.pure (x + y)) (W.b2 (W.b2 (W.b2 (W.pure p_184.1) (W.pure p_184.2) fun x y => W.pure (x + y)) (W.pure (1 : Int)) fun x y => W.pure (x - y)) (W.b2 (W.b2 (W.pure p_184.1) (W.pure p_184.2) fun x y => W.pure (x + y)) (W.b2 (W.b2 (W.pure late_185) (W.pure (1 : Int)) fun x y => W.pure (x - y)) (W.pure late_185) fun x y => W.pure (x, y)) fun x y => W.pure (x, y)) fun x y => W.pure (x, y)) fun x y => W.pure (x, y)) fun x y => W.pure (x, y)) fun x y => W.pure (x, y)) fun x y => W.pure (x, y)) fun x => W.pure ([x.1, x.2.1, x.2.2.1, x.2.2.2.1, x.2.2.2.2.1, x.2.2.2.2.2.1, x.2.2.2.2.2.2.1, x.2.2.2.2.2.2.2] : List Int)).bind fun l => W.forF l (fun x_187 t_186 => (W.ite (W.not ((W.b2 (W.b1 ((W.b2 (W.pure x_187) (W.b1 (W.pure change_178) fun x => W.pure (toD x)) fun x y => W.pure (x, y)).bind fun z => m_least_count (z.2, z.1)) fun x => W.pure (toD x)) (W.b1 ((W.b2 (W.pure p_184.1) (W.b2 (W.pure p_184.2) (W.pure x_187) fun x y => W.pure (x, y)) fun x y => W.pure (x, y)).bind m_law_least) fun x => W.pure (toD x)) fun x y => W.pure (x, y)).bind m_law_same)) ((W.pure false).bind fun r => W.pure (.rt r)) (W.ite (W.not ((W.b2 (W.b1 ((W.b2 (W.b1 (W.pure change_178) fun x => W.pure (toD x)) (W.pure x_187) fun x y => W.pure (x, y)).bind m_power) fun x => W.pure (toD x)) (W.b1 ((W.b2 (W.pure change_178) (W.pure x_187) fun x y => W.pure (x, y)).bind m_law_power) fun x => W.pure (toD x)) fun x y => W.pure (x, y)).bind m_law_same)) ((W.pure false).bind fun r => W.pure (.rt r)) (W.pure (.nx ()))))) ()) fun t_186 => (((W.pure (60 : Int)).bind m_law_any).bind fun other_188 => ((W.b2 ((W.b2 (W.pure p_184.1) (W.b2 (W.pure p_184.2) (W.pure p_180.2) fun x y => W.pure (x, y)) fun x y => W.pure (x, y)).bind m_law_least) ((W.b2 (W.pure p_184.1) (W.b2 (W.pure p_184.2) (W.pure other_188) fun x y => W.pure (x, y)) fun x y => W.pure (x, y)).bind m_law_least) (fun x y => W.pure (decide (x = y)))).bind fun same_189 => (W.ite (W.b2 (W.b2 ((W.b2 (W.pure change_178) (W.pure p_180.2) fun x y => W.pure (x, y)).bind m_law_power) ((W.b2 (W.pure change_178) (W.pure other_188) fun x y => W.pure (x, y)).bind m_law_power) eqWD) (W.pure same_189) (fun x y => W.pure (!decide (x = y)))) (W.pure false) (W.ite (W.not ((W.b2 (W.b1 (W.b1 (W.b2 ((W.b2 (W.b1 (W.pure change_178) fun x => W.pure (toD x)) (W.pure p_180.2) fun x y => W.pure (x, y)).bind m_least_count) ((W.b2 (W.b1 (W.pure change_178) fun x => W.pure (toD x)) (W.pure other_188) fun x y => W.pure (x, y)).bind m_least_count) fun x y => W.pure (x, y)) fun x => W.pure ([x.1, x.2] : List Int)) fun x => W.pure (toD x)) (W.b1 (W.b1 (W.b2 ((W.b2 (W.pure p_184.1) (W.b2 (W.pure p_184.2) (W.pure p_180.2) fun x y => W.pure (x, y)) fun x y => W.pure (x, y)).bind m_law_least) ((W.b2 (W.pure p_184.1) (W.b2 (W.pure p_184.2) (W.pure other_188) fun x y => W.pure (x, y)) fun x y => W.pure (x, y)).bind m_law_least) fun x y => W.pure (x, y)) fun x => W.pure ([x.1, x.2] : List Int)) fun x => W.pure (toD x)) fun x y => W.pure (x, y)).bind m_law_same)) (W.pure false) (((W.b1 (W.b2 (W.b1 (W.b1 (W.pure change_178) fun l => W.pure l.l) fun x => W.pure (toD x)) (W.b2 (W.b1 (W.b2 (W.b3 (W.pure change_178) (W.pure none) (W.b1 (W.pure (39 : Int)) fun i => W.pure (some i)) fun l i j => W.pure (⟨cut l.l i j⟩ : (Tup Int))) (W.b1 (W.b2 (W.pure p_179.1) (W.pure (1 : Int)) fun x y => W.pure (x + y)) fun x => W.pure (⟨[x]⟩ : Tup Int)) catT) fun x => W.pure (toD x)) (W.b2 (W.b1 (W.b2 (W.b1 (W.pure p_179.1) fun x => W.pure (⟨[x]⟩ : Tup Int)) (W.b3 (W.pure change_178) (W.b1 (W.pure (1 : Int)) fun i => W.pure (some i)) (W.pure none) fun l i j => W.pure (⟨cut l.l i j⟩ : (Tup Int))) catT) fun x => W.pure (toD x)) (W.b2 (W.b1 (W.b2 (W.b1 (W.pure true) fun x => W.pure (⟨[x]⟩ : Tup Bool)) (W.pure p_179.1) repT) fun x => W.pure (toD x)) (W.b2 (W.b1 (W.pure ()) fun x => W.pure (toD x)) (W.b2 (W.b1 (W.b1 (W.pure ()) fun x => W.pure (⟨[]⟩ : Tup Int)) fun x => W.pure (toD x)) (W.b2 (W.b1 (W.pure ("0" : Str)) fun x => W.pure (toD x)) (W.b2 (W.b1 (W.pure (7 : Int)) fun x => W.pure (toD x)) (W.b1 (W.b2 (W.b1 (W.b1 (W.pure (1 : Int)) fun x => W.pure (-x)) fun x => W.pure (⟨[x]⟩ : Tup Int)) (W.b3 (W.pure change_178) (W.b1 (W.pure (1 : Int)) fun i => W.pure (some i)) (W.pure none) fun l i j => W.pure (⟨cut l.l i j⟩ : (Tup Int))) catT) fun x => W.pure (toD x)) fun x y => W.pure (x, y)) fun x y => W.pure (x, y)) fun x y => W.pure (x, y)) fun x y => W.pure (x, y)) fun x y => W.pure (x, y)) fun x y => W.pure (x, y)) fun x y => W.pure (x, y)) fun x y => W.pure (x, y)) fun x => W.pure ([x.1, x.2.1, x.2.2.1, x.2.2.2.1, x.2.2.2.2.1, x.2.2.2.2.2.1, x.2.2.2.2.2.2.1, x.2.2.2.2.2.2.2.1, x.2.2.2.2.2.2.2.2] : List D)).bind (m_law_of (α := D))).bind fun bad_190 => ((W.b1 (nx (m_law_refused (W.b1 ((W.b2 (W.pure bad_190) (W.pure (2 : Int)) fun x y => W.pure (x, y)).bind m_power) fun x => W.pure (toD x)))) fun x => W.pure ([x] : List D)).bind fun told_191 => (((nx (m_law_refused (W.b1 ((W.pure bad_190).bind m_tail) fun x => W.pure (toD x)))).bind fun a => W.need (told_191.length < 16777216) a).bind fun told_192 => (((nx (m_law_refused (W.b1 ((W.pure bad_190).bind m_ring) fun x => W.pure (toD x)))).bind fun a => W.need ((told_191 ++ [told_192]).length < 16777216) a).bind fun told_193 => (((nx (m_law_refused (W.b1 ((W.b2 (W.pure bad_190) (W.pure (0 : Int)) fun x y => W.pure (x, y)).bind m_least_count) fun x => W.pure (toD x)))).bind fun a => W.need (((told_191 ++ [told_192]) ++ [told_193]).length < 16777216) a).bind fun told_194 => ((W.b2 (W.b1 (W.pure (((told_191 ++ [told_192]) ++ [told_193]) ++ [told_194])) fun x => W.pure (toD x)) (W.b1 (W.b2 (W.b1 (W.pure (0 : Int)) fun x => W.pure ([x] : List Int)) (W.pure (4 : Int)) repW) fun x => W.pure (toD x)) fun x y => W.pure (x, y)).bind m_law_same)))))))))))))))))))))
theorem tb_law {u : Wd} (wo : WOk u) (h_law_any : Fn u 1 "_law_any" ["deal", "bound"] true (fun y : Int => [none, some (toD y)]) m_law_any) (h_law_by_states : Fn u 1 "_law_by_states" ["change"] false (fun y : (Tup Int) => [some (toD y)]) m_law_by_states) (h_law_change : Fn u 4 "_law_change" ["deal"] true (fun y : Unit => [none]) m_law_change) (h_law_least : Fn u 1 "_law_least" ["first", "length", "count"] false (fun y : Int × Int × Int => [some (toD y.1), some (toD y.2.1), some (toD y.2.2)]) m_law_least) (h_law_of : ∀ {α : Type} [Py α], Fn u 2 "_law_of" ["deal", "some"] true (fun y : (List α) => [none, some (toD y)]) (m_law_of (α := α))) (h_law_power : Fn u 1 "_law_power" ["one", "count"] false (fun y : (Tup Int) × Int => [some (toD y.1), some (toD y.2)]) m_law_power) (h_law_refused : ∀ k, AskOk u k "_law_refused" "work" m_law_refused) (h_law_same : Fn u 12 "_law_same" ["told", "due"] false (fun y : D × D => [some (toD y.1), some (toD y.2)]) m_law_same) (h_law_then : Fn u 1 "_law_then" ["one", "other"] false (fun y : (Tup Int) × (Tup Int) => [some (toD y.1), some (toD y.2)]) m_law_then) (h_law_walk : Fn u 2 "_law_walk" ["change"] false (fun y : (Tup Int) => [some (toD y)]) m_law_walk) (h_least_count : Fn u 6 "least_count" ["change", "count"] false (fun y : D × Int => [some (toD y.1), some (toD y.2)]) m_least_count) (h_power : Fn u 6 "power" ["change", "count"] false (fun y : D × Int => [some (toD y.1), some (toD y.2)]) m_power) (h_ring : Fn u 6 "ring" ["change"] false (fun y : D => [some (toD y)]) m_ring) (h_tail : Fn u 6 "tail" ["change"] false (fun y : D => [some (toD y)]) m_tail) (hk_least_count_count_change : KwB u "least_count" ["change", "count"] ["count", "change"] [1, 0]) (hk_power_count_change : KwB u "power" ["change", "count"] ["count", "change"] [1, 0]) (hk_ring_change : KwB u "ring" ["change"] ["change"] [0]) (hk_tail_change : KwB u "tail" ["change"] ["change"] [0]) (X : Cx) (P : Par) (Wx : WX) (hu : P.u = u) (hbd : P.b = true) (hgd : X.A.guards = some []) (ta : TabAt X P) (d : Dok X P Wx ["script", "deal", "change", "many", "count", "done", "short", "turn", "first", "length", "late", "other", "same", "told", "bad"] (defScope s_law) 14) :
    TB X P Wx (.un :: .deal :: List.replicate 13 .un) ((defBody s_law).drop 1) m_law := by
  have c := d.toCok
  subst hu
  unfold m_law
  exact tb_cons (s_set d 2 (ex_call c h_law_change (by decide) (fun _ => hbd) (ao_deal c 1 (ao_nil)))) fun change_178 => tb_cons (s_par2 d 3 4 (ev_dat (ex_lenT c (ex_var c 2))) (ev_dat (ex_call c (h_law_of (α := Int)) (by decide) (fun _ => hbd) (ao_deal c 1 (ao_one (ex_fz (en_lst (f := fun x : (Int × (Int × (Int × (Int × (Int × (Int × (Int × Int))))))) => ([x.1, x.2.1, x.2.2.1, x.2.2.2.1, x.2.2.2.2.1, x.2.2.2.2.2.1, x.2.2.2.2.2.2.1, x.2.2.2.2.2.2.2] : List Int)) (ea_cons (ex_int) (ea_cons (ex_int) (ea_cons (ex_int) (ea_cons (ex_int) (ea_cons (ex_int) (ea_cons (ex_int) (ea_cons (ex_pow (ex_int) (ex_int)) (ea_one (ex_sub (ex_sub (ex_pow (ex_int) (ex_int)) (ex_int)) (ex_call c h_law_any (by decide) (fun _ => hbd) (ao_deal c 1 (ao_one (ex_pow (ex_int) (ex_int)))))))))))))) (fun _ => rfl)))))))) fun p_179 => tb_if (B := []) (tx_not (tx_val (ex_call c h_law_same (by decide) (fun h => by cases h) (ao_cons (ex_as (f := fun x : (Tup Int) => toD x) (ex_callK (F := m_power) (fun z : Int × D => (z.2, z.1)) c h_power hk_power_count_change (by decide) (fun h => by cases h) (ek_cons (ex_var c 4) (ek_one (ex_as (f := fun x : (Tup Int) => toD x) (ex_var c 2)))))) (ao_one (ex_as (f := fun x : (Tup Int) => toD x) (ex_call c h_law_power (by decide) (fun h => by cases h) (ao_cons (ex_var c 2) (ao_one (ex_var c 4)))))))))) (tb_ret (ex_bl)) (tb_cons (s_par2 d 5 6 (ev_dat (ex_tupleL c (ex_fz (en_listRg c (ex_var c 3))))) (ev_dat (ex_call c h_law_any (by decide) (fun _ => hbd) (ao_deal c 1 (ao_one (ex_int)))))) fun p_180 => tb_cons (s_for (f := fun (x_182 : Int) (t_181 : (Tup Int)) => [.un, .deal, .dat (toD change_178), .dat (toD p_179.1), .dat (toD p_179.2), .dat (toD t_181), .dat (toD p_180.2), .dat (toD x_182), .un, .un, .un, .un, .un, .un, .un]) (Nn := fun t_181 : (Tup Int) => [.un, .deal, .dat (toD change_178), .dat (toD p_179.1), .dat (toD p_179.2), .dat (toD t_181), .dat (toD p_180.2), .un, .un, .un, .un, .un, .un, .un, .un]) d p_180.1 (ei_range1 c (ex_var c 6)) (.keep (.keep (.keep (.keep (.keep (.keep (.keep (.keep (.keep (.keep (.keep (.keep (.keep (.keep (.keep .nil))))))))))))))) (fun t_181 => gt_name d 7) (fun x_182 t_181 => bb_cons (s_set d 5 (ex_call c h_law_then (by decide) (fun h => by cases h) (ao_cons (ex_var c 5) (ao_one (ex_var c 2))))) fun done_183 => bb_nil (.keep (.keep (.keep (.keep (.keep (.keep (.keep (.drop (.keep (.keep (.keep (.keep (.keep (.keep (.keep .nil))))))))))))))))) fun t_181 => tb_if (B := []) (tw (tw_or (tx_not (tx_val (ex_call c h_law_same (by decide) (fun h => by cases h) (ao_cons (ex_as (f := fun x : (Tup Int) => toD x) (ex_call c h_power (by decide) (fun h => by cases h) (ao_cons (ex_as (f := fun x : (Tup Int) => toD x) (ex_var c 2)) (ao_one (ex_var c 6))))) (ao_one (ex_as (f := fun x : (Tup Int) => toD x) (ex_var c 5))))))) (tw_or1 (tx_not (tx_val (ex_call c h_law_same (by decide) (fun h => by cases h) (ao_cons (ex_as (f := fun x : (Tup Int) => toD x) (ex_call c h_power (by decide) (fun h => by cases h) (ao_cons (ex_as (f := fun x : (Tup Int) => toD x) (ex_var c 5)) (ao_one (ex_int))))) (ao_one (ex_as (f := fun x : (Tup Int) => toD x) (ex_call c h_law_power (by decide) (fun h => by cases h) (ao_cons (ex_var c 2) (ao_one (ex_mul (ex_int) (ex_var c 6)))))))))))))) (tb_ret (ex_bl)) (tb_cons (s_unp (f := fun p_184 : (Int × Int) => [.un, .deal, .dat (toD change_178), .dat (toD p_179.1), .dat (toD p_179.2), .dat (toD t_181), .dat (toD p_180.2), .un, .dat (toD p_184.1), .dat (toD p_184.2), .un, .un, .un, .un, .un]) d (ex_call c h_law_by_states (by decide) (fun h => by cases h) (ao_one (ex_var c 2))) (gt_pair c (gt_name d 8) fun _ => gt_name d 9)) fun p_184 => tb_if (B := []) (tw (tw_and (tx_c c_lt (ex_var c 3) (ex_int)) (tw_and1 (tx_c (c_neD c) (ex_tup (f := fun x : (Int × Int) => x) (ea_cons (ex_var c 8) (ea_one (ex_var c 9))) (fun _ => rfl)) (ex_call c h_law_walk (by decide) (fun h => by cases h) (ao_one (ex_var c 2))))))) (tb_ret (ex_bl)) (tb_if (B := []) (tw (tw_or (tx_not (tx_val (ex_call c h_law_same (by decide) (fun h => by cases h) (ao_cons (ex_tup (f := fun x : (Int × Int) => D.tup [toD x.1, toD x.2]) (ea_cons (ex_callK (F := m_tail) (fun z : D => z) c h_tail hk_tail_change (by decide) (fun h => by cases h) (ek_one (ex_as (f := fun x : (Tup Int) => toD x) (ex_var c 2)))) (ea_one (ex_callK (F := m_ring) (fun z : D => z) c h_ring hk_ring_change (by decide) (fun h => by cases h) (ek_one (ex_as (f := fun x : (Tup Int) => toD x) (ex_var c 2)))))) (fun _ => rfl)) (ao_one (ex_tup (f := fun x : (Int × Int) => D.tup [toD x.1, toD x.2]) (ea_cons (ex_var c 8) (ea_one (ex_var c 9))) (fun _ => rfl))))))) (tw_or1 (tw (tw_and (tx_c c_ge (ex_var c 8) (ex_var c 3)) (tw_and1 (tx_c c_gt (ex_var c 8) (ex_int)))))))) (tb_ret (ex_bl)) (tb_cons (s_set d 10 (ex_add (ex_var c 8) (ex_mul (ex_var c 9) (ex_add (ex_pow (ex_int) (ex_int)) (ex_call c h_law_any (by decide) (fun _ => hbd) (ao_deal c 1 (ao_one (ex_pow (ex_int) (ex_int))))))))) fun late_185 => tb_loop (l_for (f := fun (x_187 : Int) (t_186 : Unit) => [.un, .deal, .dat (toD change_178), .dat (toD p_179.1), .dat (toD x_187), .dat (toD t_181), .dat (toD p_180.2), .un, .dat (toD p_184.1), .dat (toD p_184.2), .dat (toD late_185), .un, .un, .un, .un]) (Nn := fun t_186 : Unit => [.un, .deal, .dat (toD change_178), .dat (toD p_179.1), .un, .dat (toD t_181), .dat (toD p_180.2), .un, .dat (toD p_184.1), .dat (toD p_184.2), .dat (toD late_185), .un, .un, .un, .un]) d () (ei_list (ex_fz (en_lst (f := fun x : (Int × (Int × (Int × (Int × (Int × (Int × (Int × Int))))))) => ([x.1, x.2.1, x.2.2.1, x.2.2.2.1, x.2.2.2.2.1, x.2.2.2.2.2.1, x.2.2.2.2.2.2.1, x.2.2.2.2.2.2.2] : List Int)) (ea_cons (ex_var c 4) (ea_cons (ex_max2 c (ex_int) (ex_sub (ex_var c 8) (ex_int))) (ea_cons (ex_var c 8) (ea_cons (ex_add (ex_var c 8) (ex_int)) (ea_cons (ex_sub (ex_add (ex_var c 8) (ex_var c 9)) (ex_int)) (ea_cons (ex_add (ex_var c 8) (ex_var c 9)) (ea_cons (ex_sub (ex_var c 10) (ex_int)) (ea_one (ex_var c 10))))))))) (fun _ => rfl)))) (.keep (.keep (.keep (.keep (.drop (.keep (.keep (.keep (.keep (.keep (.keep (.keep (.keep (.keep (.keep .nil))))))))))))))) (fun t_186 => gt_name d 4) (fun x_187 t_186 => fb_ifx (tx_not (tx_val (ex_call c h_law_same (by decide) (fun h => by cases h) (ao_cons (ex_as (f := fun x : Int => toD x) (ex_callK (F := m_least_count) (fun z : Int × D => (z.2, z.1)) c h_least_count hk_least_count_count_change (by decide) (fun h => by cases h) (ek_cons (ex_var c 4) (ek_one (ex_as (f := fun x : (Tup Int) => toD x) (ex_var c 2)))))) (ao_one (ex_as (f := fun x : Int => toD x) (ex_call c h_law_least (by decide) (fun h => by cases h) (ao_cons (ex_var c 8) (ao_cons (ex_var c 9) (ao_one (ex_var c 4))))))))))) (xb_ret (ex_bl)) (fb_ifx (tx_not (tx_val (ex_call c h_law_same (by decide) (fun h => by cases h) (ao_cons (ex_as (f := fun x : (Tup Int) => toD x) (ex_call c h_power (by decide) (fun h => by cases h) (ao_cons (ex_as (f := fun x : (Tup Int) => toD x) (ex_var c 2)) (ao_one (ex_var c 4))))) (ao_one (ex_as (f := fun x : (Tup Int) => toD x) (ex_call c h_law_power (by decide) (fun h => by cases h) (ao_cons (ex_var c 2) (ao_one (ex_var c 4)))))))))) (xb_ret (ex_bl)) (fb_nil (.keep (.keep (.keep (.keep (.drop (.keep (.keep (.keep (.keep (.keep (.keep (.keep (.keep (.keep (.keep .nil))))))))))))))))))) fun t_186 => tb_cons (s_set d 11 (ex_call c h_law_any (by decide) (fun _ => hbd) (ao_deal c 1 (ao_one (ex_int))))) fun other_188 => tb_cons (s_set d 12 (ex_c c_eqI (ex_call c h_law_least (by decide) (fun h => by cases h) (ao_cons (ex_var c 8) (ao_cons (ex_var c 9) (ao_one (ex_var c 6))))) (ex_call c h_law_least (by decide) (fun h => by cases h) (ao_cons (ex_var c 8) (ao_cons (ex_var c 9) (ao_one (ex_var c 11))))))) fun same_189 => tb_if (B := []) (tx_c c_neB (ex_c (c_eqD c) (ex_call c h_law_power (by decide) (fun h => by cases h) (ao_cons (ex_var c 2) (ao_one (ex_var c 6)))) (ex_call c h_law_power (by decide) (fun h => by cases h) (ao_cons (ex_var c 2) (ao_one (ex_var c 11))))) (ex_var c 12)) (tb_ret (ex_bl)) (tb_if (B := []) (tx_not (tx_val (ex_call c h_law_same (by decide) (fun h => by cases h) (ao_cons (ex_as (f := fun x : (List Int) => toD x) (ex_fz (en_lst (f := fun x : (Int × Int) => ([x.1, x.2] : List Int)) (ea_cons (ex_call c h_least_count (by decide) (fun h => by cases h) (ao_cons (ex_as (f := fun x : (Tup Int) => toD x) (ex_var c 2)) (ao_one (ex_var c 6)))) (ea_one (ex_call c h_least_count (by decide) (fun h => by cases h) (ao_cons (ex_as (f := fun x : (Tup Int) => toD x) (ex_var c 2)) (ao_one (ex_var c 11)))))) (fun _ => rfl)))) (ao_one (ex_as (f := fun x : (List Int) => toD x) (ex_fz (en_lst (f := fun x : (Int × Int) => ([x.1, x.2] : List Int)) (ea_cons (ex_call c h_law_least (by decide) (fun h => by cases h) (ao_cons (ex_var c 8) (ao_cons (ex_var c 9) (ao_one (ex_var c 6))))) (ea_one (ex_call c h_law_least (by decide) (fun h => by cases h) (ao_cons (ex_var c 8) (ao_cons (ex_var c 9) (ao_one (ex_var c 11))))))) (fun _ => rfl))))))))) (tb_ret (ex_bl)) (tb_cons (s_set d 14 (ex_call c (h_law_of (α := D)) (by decide) (fun _ => hbd) (ao_deal c 1 (ao_one (ex_fz (en_lst (f := fun x : (D × (D × (D × (D × (D × (D × (D × (D × D)))))))) => ([x.1, x.2.1, x.2.2.1, x.2.2.2.1, x.2.2.2.2.1, x.2.2.2.2.2.1, x.2.2.2.2.2.2.1, x.2.2.2.2.2.2.2.1, x.2.2.2.2.2.2.2.2] : List D)) (ea_cons (ex_as (f := fun x : (List Int) => toD x) (ex_fz (en_listT c (ex_var c 2)))) (ea_cons (ex_as (f := fun x : (Tup Int) => toD x) (ex_catT (ex_sliceT (ex_var c 2) (eo_none) (eo_some (ex_int))) (ex_tup (f := fun x : Int => (⟨[x]⟩ : Tup Int)) (ea_one (ex_add (ex_var c 3) (ex_int))) (fun _ => rfl)))) (ea_cons (ex_as (f := fun x : (Tup Int) => toD x) (ex_catT (ex_tup (f := fun x : Int => (⟨[x]⟩ : Tup Int)) (ea_one (ex_var c 3)) (fun _ => rfl)) (ex_sliceT (ex_var c 2) (eo_some (ex_int)) (eo_none)))) (ea_cons (ex_as (f := fun x : (Tup Bool) => toD x) (ex_repT (ex_tup (f := fun x : Bool => (⟨[x]⟩ : Tup Bool)) (ea_one (ex_bl)) (fun _ => rfl)) (ex_var c 3))) (ea_cons (ex_as (f := fun x : Unit => toD x) (ex_non)) (ea_cons (ex_as (f := fun x : (Tup Int) => toD x) (ex_tup (f := fun x : Unit => (⟨[]⟩ : Tup Int)) (ea_nil) (fun _ => rfl))) (ea_cons (ex_as (f := fun x : Str => toD x) (ex_str)) (ea_cons (ex_as (f := fun x : Int => toD x) (ex_int)) (ea_one (ex_as (f := fun x : (Tup Int) => toD x) (ex_catT (ex_tup (f := fun x : Int => (⟨[x]⟩ : Tup Int)) (ea_one (ex_neg (ex_int))) (fun _ => rfl)) (ex_sliceT (ex_var c 2) (eo_some (ex_int)) (eo_none))))))))))))) (fun _ => rfl))))))) fun bad_190 => tb_cons (s_own d 13 (en_lst (f := fun x : D => ([x] : List D)) (ea_one (ex_ask c ta (h_law_refused 12) (by decide) (fun X_l da_l dq_l H0_l G0_l tb_l W_l c_l => ex_call c_l h_power (by decide) (fun h => by cases h) (ao_cons (ex_var c_l 14) (ao_one (ex_int)))))) (fun _ => rfl))) fun told_191 => tb_cons (s_append c 13 (ex_ask c ta (h_law_refused 12) (by decide) (fun X_l da_l dq_l H0_l G0_l tb_l W_l c_l => ex_call c_l h_tail (by decide) (fun h => by cases h) (ao_one (ex_var c_l 14))))) fun told_192 => tb_cons (s_append c 13 (ex_ask c ta (h_law_refused 12) (by decide) (fun X_l da_l dq_l H0_l G0_l tb_l W_l c_l => ex_call c_l h_ring (by decide) (fun h => by cases h) (ao_one (ex_var c_l 14))))) fun told_193 => tb_cons (s_append c 13 (ex_ask c ta (h_law_refused 12) (by decide) (fun X_l da_l dq_l H0_l G0_l tb_l W_l c_l => ex_call c_l h_least_count (by decide) (fun h => by cases h) (ao_cons (ex_var c_l 14) (ao_one (ex_int)))))) fun told_194 => tb_fz (l := (((told_191 ++ [told_192]) ++ [told_193]) ++ [told_194])) 13 (tb_ret (ex_call c h_law_same (by decide) (fun h => by cases h) (ao_cons (ex_as (f := fun x : (List D) => toD x) (ex_var c 13)) (ao_one (ex_as (f := fun x : (List Int) => toD x) (ex_fz (en_rep (ex_fz (en_lst (f := fun x : Int => ([x] : List Int)) (ea_one (ex_int)) (fun _ => rfl))) (ex_int))))))))))))))
set_option autoImplicit false
set_option exponentiation.threshold 10000
set_option maxHeartbeats 1000001
theorem c_is_integer (Y : D) : m_is_integer Y = ((isiW isInt Y).bind fun v1 => bif v1 then ((isiW isBool Y).bind fun v2 => W.pure (!v2)) else W.pure false) := rfl
theorem c_is_number (Y : D) : m_is_number Y = ((m_is_integer Y).bind fun v3 => bif v3 then ((castW (α := Int) Y).bind fun v4 => W.pure (decide ((0 : Int) ≤ v4))) else W.pure false) := rfl
theorem c_is_index (Y : D × Int) : m_is_index Y = ((m_is_number Y.1).bind fun v3 => bif v3 then ((castW (α := Int) Y.1).bind fun v4 => W.pure (decide (v4 < Y.2))) else W.pure false) := rfl
theorem c_common_divisor (Y : Int × Int) : m_common_divisor Y = ((W.whileW (fun t_1 => W.pure (!decide (t_1.2 = (0 : Int)))) (fun t_1 => (modW t_1.1 t_1.2).bind fun v5 => W.pure (t_1.2, v5)) (Y.1, Y.2)).bind fun v6 => W.pure v6.1) := rfl
theorem c_common_multiple (Y : Int × Int) : m_common_multiple Y = ((m_common_divisor (Y.1, Y.2)).bind fun v3 => (fdivW Y.1 v3).bind fun v4 => mulW v4 Y.2) := rfl
theorem c_checked_change (Y : Int × D) : m_checked_change Y = ((isiW isTup Y.2).bind fun v9 => (bif !v9 then W.pure true else ((lenD Y.2).bind fun v10 => bif !decide (v10 = Y.1) then W.pure true else (W.pure (decide (Y.1 = (0 : Int)))))).bind fun v11 => bif v11 then (raiseW "InvalidChange" (W.pure (0 : Int))) else ((seqC D Y.2).bind fun v12 => (W.filterW (fun x_3 => nx (W.pure true)) (fun x_3 => nx (m_is_index (x_3, Y.1))) v12).bind fun v13 => bif !(v13.all id) then (raiseW "InvalidChange" (W.pure (0 : Int))) else (W.pure Y.2))) := rfl
theorem c_idle (Y : Int) : m_idle Y = ((rngW 0 Y).bind fun v3 => W.pure (⟨v3⟩ : Tup Int)) := rfl
theorem c_after (Y : (Tup Int) × (Tup Int)) : m_after Y = ((W.filterW (fun x_7 => nx (W.pure true)) (fun x_7 => nx (ixW Y.2.l x_7)) Y.1.l).bind fun v6 => W.pure (⟨v6⟩ : Tup Int)) := rfl
theorem c_raised (Y : (Tup Int) × Int) : m_raised Y = ((m_idle (Y.1.l.length : Int)).bind fun v15 => (W.whileW (fun t_12 => W.pure (decide ((0 : Int) < t_12.2.2))) (fun t_12 => (modW t_12.2.2 (2 : Int)).bind fun v16 => (bif decide (v16 = (1 : Int)) then (m_after (t_12.1, t_12.2.1)) else (W.pure t_12.1)).bind fun v18 => (m_after (t_12.2.1, t_12.2.1)).bind fun v19 => (fdivW t_12.2.2 (2 : Int)).bind fun v20 => W.pure (v18, v19, v20)) (v15, Y.1, Y.2)).bind fun v21 => W.pure v21.1) := rfl
theorem c_size_of (Y : D) : m_size_of Y = ((isiW isTup Y).bind fun v1 => bif v1 then (lenD Y) else (W.pure (0 : Int))) := rfl
theorem c_checked (Y : D) : m_checked Y = ((m_size_of Y).bind fun v3 => (m_checked_change (v3, Y)).bind fun v4 => castW (α := (Tup Int)) v4) := rfl
theorem c_power (Y : D × Int) : m_power Y = ((m_checked Y.1).bind fun v3 => m_raised (v3, Y.2)) := rfl
theorem c_tail_and_ring (Y : (Tup Int)) : m_tail_and_ring Y = ((rngW 0 (Y.l.length : Int)).bind fun v32 => (W.forW v32 (fun x_19 t_18 => (W.whileW (fun t_21 => W.pure (!(getM (⟨t_21.1⟩ : DI Int).m t_21.2).isSome)) (fun t_21 => (ixW Y.l t_21.2).bind fun v33 => (W.need (t_21.1.length < 16777216) (putM t_21.1 t_21.2 ((⟨t_21.1⟩ : DI Int).m.length : Int), v33)).bind fun v34 => W.pure (v34.1, v34.2)) (([] : List (Int × Int)), x_19)).bind fun v35 => (getW (⟨v35.1⟩ : DI Int).m v35.2).bind fun v36 => (getW (⟨v35.1⟩ : DI Int).m v35.2).bind fun v37 => (m_common_multiple (t_18.2, ((⟨v35.1⟩ : DI Int).m.length : Int) - v37)).bind fun v38 => W.pure (max t_18.1 v36, v38)) ((0 : Int), (1 : Int))).bind fun v39 => W.pure (v39.1, v39.2)) := rfl
theorem c_tail (Y : D) : m_tail Y = ((m_checked Y).bind fun v2 => (m_tail_and_ring v2).bind fun v3 => W.pure v3.1) := rfl
theorem c_ring (Y : D) : m_ring Y = ((m_checked Y).bind fun v2 => (m_tail_and_ring v2).bind fun v3 => W.pure v3.2) := rfl
theorem c_least_count (Y : D × Int) : m_least_count Y = ((m_checked Y.1).bind fun v7 => (m_tail_and_ring v7).bind fun v8 => bif decide (Y.2 < v8.1) then (W.pure Y.2) else ((modW (Y.2 - v8.1) v8.2).bind fun v9 => W.pure (v8.1 + v9))) := rfl
theorem c_same0 (Y : D × D) : m_same0 Y = (((isiW fun d1 => isTup d1 || isLst d1) Y.2).bind fun v5 => bif v5 then W.stuck else ((bif isNon (toD Y.2) then W.pure true else (isiW isBool Y.2)).bind fun v6 => bif v6 then (bif isNon (toD Y.2) then (W.pure (isNon (toD Y.1))) else ((isiW isBool Y.1).bind fun v7 => bif v7 then (eqWD Y.1 Y.2) else W.pure false)) else ((isiW isStr Y.2).bind fun v8 => bif v8 then ((isiW isStr Y.1).bind fun v9 => bif v9 then (eqWD Y.1 Y.2) else W.pure false) else ((isiW isInt Y.2).bind fun v10 => bif v10 then ((isiW isInt Y.1).bind fun v11 => bif v11 then ((isiW isBool Y.1).bind fun v12 => bif !v12 then (eqWD Y.1 Y.2) else W.pure false) else W.pure false) else W.pure false)))) := rfl
theorem c_law_then (Y : (Tup Int) × (Tup Int)) : m_law_then Y = ((W.filterW (fun x_33 => nx (W.pure true)) (fun x_33 => nx (ixW Y.2.l x_33)) Y.1.l).bind fun v6 => W.pure (⟨v6⟩ : Tup Int)) := rfl
theorem c_law_power (Y : (Tup Int) × Int) : m_law_power Y = ((rngW 0 (Y.1.l.length : Int)).bind fun v42 => (W.forW v42 (fun x_39 t_38 => (W.whileW (fun t_41 => bif decide ((t_41.length : Int) ≤ Y.2) then ((ixW t_41 (-(1 : Int))).bind fun v43 => (ixW Y.1.l v43).bind fun v44 => W.pure (!decide (v44 ∈ t_41))) else W.pure false) (fun t_41 => (ixW t_41 (-(1 : Int))).bind fun v45 => (ixW Y.1.l v45).bind fun v46 => (W.need (t_41.length < 16777216) v46).bind fun v47 => W.pure (t_41 ++ [v47])) ([x_39] : List Int)).bind fun v48 => bif decide (Y.2 < (v48.length : Int)) then ((ixW v48 Y.2).bind fun v49 => (W.need (t_38.length < 16777216) v49).bind fun v50 => W.pure (t_38 ++ [v50])) else ((ixW v48 (-(1 : Int))).bind fun v51 => (ixW Y.1.l v51).bind fun v52 => (indexW v48 v52).bind fun v53 => (modW (Y.2 - v53) ((v48.length : Int) - v53)).bind fun v54 => (ixW v48 (v53 + v54)).bind fun v55 => (W.need (t_38.length < 16777216) v55).bind fun v56 => W.pure (t_38 ++ [v56]))) ([] : List Int)).bind fun v58 => W.pure (⟨v58⟩ : Tup Int)) := rfl
theorem c_law_place (Y : Int × Int × Int × Int × Int) : m_law_place Y = (bif decide (Y.2.2.2.1 = (0 : Int)) then (W.pure Y.2.2.1) else ((mulW (2 : Int) Y.1).bind fun v13 => (mulW Y.2.2.1 (Y.2.1 - (1 : Int))).bind fun v14 => (mulW (2 : Int) ((v14 + Y.2.2.2.1) - (1 : Int))).bind fun v15 => W.pure ((v13 + v15) + Y.2.2.2.2))) := rfl
theorem c_law_two (Y : (Tup Int) × Int) : m_law_two Y = ((rngW 0 Y.2).bind fun v115 => (rngW 0 Y.2).bind fun v116 => (W.filterW (fun x_51 => nx (W.pure true)) (fun x_51 => nx (modW (x_51 + (1 : Int)) Y.2)) v116).bind fun v117 => (W.forW Y.1.l.reverse (fun x_56 t_55 => (rngW 0 x_56).bind fun v118 => (W.filterW (fun x_59 => nx (W.pure true)) (fun x_59 => nx (m_law_power ((⟨t_55.1⟩ : Tup Int), x_56 - x_59))) v118).bind fun v119 => (rngW 0 x_56).bind fun v120 => (W.filterW (fun x_63 => nx (W.pure true)) (fun x_63 => nx (m_law_power ((⟨t_55.2⟩ : Tup Int), x_56 - x_63))) v120).bind fun v121 => (rngW 0 (t_55.1.length : Int)).bind fun v122 => (W.filterW (fun x_68 => nx (W.pure true)) (fun x_68 => nx (m_law_place ((t_55.1.length : Int), (x_56, (x_68, (x_56 - (1 : Int), (0 : Int))))))) v122).bind fun v123 => (catW t_55.1 v123).bind fun v124 => (rngW 0 (t_55.1.length : Int)).bind fun v125 => (W.filterW (fun x_73 => nx (W.pure true)) (fun x_73 => nx (m_law_place ((t_55.1.length : Int), (x_56, (x_73, (x_56 - (1 : Int), (1 : Int))))))) v125).bind fun v126 => (catW t_55.2 v126).bind fun v127 => (rngW 0 (t_55.1.length : Int)).bind fun v128 => (W.forW v128 (fun x_78 t_77 => (rngW (1 : Int) x_56).bind fun v129 => (W.forW v129 (fun x_80 t_79 => (m_law_place ((t_55.1.length : Int), (x_56, (x_78, (x_80 - (1 : Int), (0 : Int)))))).bind fun v130 => (W.need (t_79.1.length < 16777216) v130).bind fun v131 => (ixW v119 x_80).bind fun v132 => (ixW v132.l x_78).bind fun v133 => (m_law_place ((t_55.1.length : Int), (x_56, (v133, (x_56 - (1 : Int), (1 : Int)))))).bind fun v134 => (W.need (t_79.2.length < 16777216) v134).bind fun v135 => (ixW v121 x_80).bind fun v136 => (ixW v136.l x_78).bind fun v137 => (m_law_place ((t_55.1.length : Int), (x_56, (v137, (x_56 - (1 : Int), (0 : Int)))))).bind fun v138 => (W.need ((t_79.1 ++ [v131]).length < 16777216) v138).bind fun v139 => (m_law_place ((t_55.1.length : Int), (x_56, (x_78, (x_80 - (1 : Int), (1 : Int)))))).bind fun v140 => (W.need ((t_79.2 ++ [v135]).length < 16777216) v140).bind fun v141 => W.pure (((t_79.1 ++ [v131]) ++ [v139]), ((t_79.2 ++ [v135]) ++ [v141]))) (t_77.1, t_77.2)).bind fun v142 => W.pure (v142.1, v142.2)) (v124, v127)).bind fun v143 => W.pure (v143.1, v143.2)) (v115, v117)).bind fun v144 => W.pure ([(⟨v144.1⟩ : Tup Int), (⟨v144.2⟩ : Tup Int)] : List (Tup Int))) := rfl
theorem c_law_members (Y : (List Int) × Int × Int) : m_law_members Y = ((W.forW Y.1 (fun x_88 t_87 => (W.need (t_87.1.length < 16777216) t_87.2).bind fun v16 => W.pure ((t_87.1 ++ [v16]), t_87.2 + x_88)) (([] : List Int), (0 : Int))).bind fun v17 => (W.whileW (fun t_91 => W.pure (decide (t_91.2 ≤ Y.2.2))) (fun t_91 => (W.need (t_91.1.length < 16777216) t_91.2).bind fun v18 => W.pure ((t_91.1 ++ [v18]), t_91.2 + Y.2.1)) (v17.1, v17.2)).bind fun v19 => W.filterW (fun x_94 => nx (W.pure (decide (x_94 ≤ Y.2.2)))) (fun x_94 => nx (W.pure x_94)) v19.1) := rfl
theorem c_law_falling (Y : Int) : m_law_falling Y = ((m_law_of (α := Int) ([(1 : Int), (1 : Int), (1 : Int), (2 : Int), (3 : Int), (4 : Int)] : List Int)).bind fun v45 => (m_law_any (4 : Int)).bind fun v46 => (rngW 0 v46).bind fun v47 => (W.forW v47 (fun x_100 t_99 => (m_law_members (t_99, (v45, Y - t_99.sum))).bind fun v48 => (W.filterW (fun x_102 => nx (W.pure (decide ((0 : Int) < x_102)))) (fun x_102 => nx (W.pure x_102)) v48).bind fun v49 => (neWD v49 ([] : List Int)).bind fun v50 => (bif v50 then ((neWD t_99 ([] : List Int)).bind fun v51 => bif v51 then W.pure true else (neWD v49 ([v45] : List Int))) else W.pure false).bind fun v52 => bif v52 then ((m_law_of (α := Int) (cut v49 none (some (6 : Int)))).bind fun v53 => catW ([v53] : List Int) t_99) else (W.pure t_99)) ([] : List Int)).bind fun v56 => (W.whileW (fun t_109 => (neWD t_109 ([] : List Int)).bind fun v57 => bif v57 then ((ixW t_109 (-(1 : Int))).bind fun v58 => W.pure (decide (v58 = v45))) else W.pure false) (fun t_109 => (popL t_109).bind fun v59 => W.pure v59.2) v56).bind fun v60 => W.pure ((⟨v60⟩ : Tup Int), v45)) := rfl
theorem c_law_columns (Y : Int × Int) : m_law_columns Y = ((m_law_any Y.1).bind fun v53 => bif decide (Y.2 = (0 : Int)) then ((rngW 0 Y.1).bind fun v54 => (W.filterW (fun x_112 => nx (W.pure true)) (fun x_112 => nx (W.pure (max (0 : Int) (x_112 - (1 : Int))))) v54).bind fun v55 => W.pure (⟨v55⟩ : Tup Int)) else (bif decide (Y.2 = (1 : Int)) then ((rngW 0 Y.1).bind fun v56 => (W.filterW (fun x_116 => nx (W.pure true)) (fun x_116 => nx ((modW v53 (2 : Int)).bind fun v57 => W.pure (min (Y.1 - (1 : Int)) ((x_116 + (1 : Int)) + v57)))) v56).bind fun v58 => W.pure (⟨v58⟩ : Tup Int)) else (bif decide (Y.2 = (2 : Int)) then ((rngW 0 Y.1).bind fun v59 => (W.filterW (fun x_120 => nx (W.pure true)) (fun x_120 => nx (modW (x_120 + v53) Y.1)) v59).bind fun v60 => W.pure (⟨v60⟩ : Tup Int)) else (bif decide (Y.2 = (3 : Int)) then ((repW ([v53] : List Int) Y.1).bind fun v61 => W.pure (⟨v61⟩ : Tup Int)) else (bif decide (Y.2 = (4 : Int)) then ((rngW 0 Y.1).bind fun v62 => (m_law_mixed (α := Int) v62).bind fun v63 => W.pure (⟨v63⟩ : Tup Int)) else (bif decide (Y.2 = (5 : Int)) then ((rngW 0 Y.1).bind fun v64 => (W.filterW (fun x_124 => nx (W.pure true)) (fun x_124 => nx ((modW v53 (2 : Int)).bind fun v65 => W.pure (max (0 : Int) ((x_124 - (1 : Int)) - v65)))) v64).bind fun v66 => W.pure (⟨v66⟩ : Tup Int)) else ((rngW 0 Y.1).bind fun v67 => (W.filterW (fun x_128 => nx (W.pure true)) (fun x_128 => nx (m_law_any Y.1)) v67).bind fun v68 => W.pure (⟨v68⟩ : Tup Int)))))))) := rfl
theorem c_law_rings (Y : Unit) : m_law_rings Y = ((rngW 0 (9 : Int)).bind fun v53 => (W.forW v53 (fun x_134 t_133 => (m_law_any (13 : Int)).bind fun v54 => bif decide (((t_133.length : Int) + ((1 : Int) + v54)) < (41 : Int)) then ((rngW 0 ((1 : Int) + v54)).bind fun v55 => (W.filterW (fun x_143 => nx (W.pure true)) (fun x_143 => nx ((modW (x_143 + (1 : Int)) ((1 : Int) + v54)).bind fun v56 => W.pure ((t_133.length : Int) + v56))) v55).bind fun v57 => catW t_133 v57) else (W.pure t_133)) ([] : List Int)).bind fun v60 => (W.whileW (fun t_147 => bif decide ((t_147.length : Int) < (40 : Int)) then ((m_law_any (5 : Int)).bind fun v61 => W.pure (decide ((0 : Int) < v61))) else W.pure false) (fun t_147 => (m_law_any (t_147.length : Int)).bind fun v62 => (m_law_of (α := Int) ([v62, (t_147.length : Int) - (1 : Int), (t_147.length : Int) - (1 : Int)] : List Int)).bind fun v63 => (W.need (t_147.length < 16777216) v63).bind fun v64 => W.pure (t_147 ++ [v64])) v60).bind fun v65 => (rngW 0 (v65.length : Int)).bind fun v66 => (m_law_mixed (α := Int) v66).bind fun v67 => (repW ([(0 : Int)] : List Int) (v65.length : Int)).bind fun v68 => (W.forW (enumL v65) (fun x_151 t_150 => (ixW v67 x_151.2).bind fun v69 => (ixW v67 x_151.1).bind fun v70 => setW t_150 v70 v69) v68).bind fun v72 => W.pure (⟨v72⟩ : Tup Int)) := (by unfold m_law_rings; simp only [b1_pure, b2_pure, b3_pure, bind_pureE, ite_pure, and_pure, or_pure, not_pure, W.pure_bind]; rfl)
theorem c_law_change (Y : Unit) : m_law_change Y = (W.thenR (W.lpW ((m_law_any (3 : Int)).bind fun v24 => bif decide (v24 = (0 : Int)) then ((m_law_falling (6 : Int)).bind fun v25 => (m_law_two (v25.1, v25.2)).bind fun v26 => (ixW v26 (0 : Int)).bind fun v27 => bif decide ((v27.l.length : Int) < (41 : Int)) then ((m_law_any (2 : Int)).bind fun v28 => (ixW v26 v28).bind fun v29 => W.pure (.rt v29)) else (W.pure (.nx ()))) else (W.pure (.nx ())))) fun t_155 => (m_law_any (2 : Int)).bind fun v30 => bif decide (v30 = (0 : Int)) then (m_law_rings ()) else ((m_law_of (α := Int) ([(3 : Int), (8 : Int), (40 : Int)] : List Int)).bind fun v31 => (m_law_any v31).bind fun v32 => (m_law_any (8 : Int)).bind fun v33 => m_law_columns ((1 : Int) + v32, v33))) := (by unfold m_law_change; simp only [b1_pure, b2_pure, b3_pure, bind_pureE, ite_pure, and_pure, or_pure, not_pure, W.pure_bind]; rfl)
theorem c_law_walk (Y : (Tup Int)) : m_law_walk Y = ((rngW 0 (Y.l.length : Int)).bind fun v26 => (W.whileW (fun t_160 => W.pure (!(getM (⟨t_160.1⟩ : DT Int).m (KeyT.tk t_160.2.1)).isSome)) (fun t_160 => (W.need (t_160.1.length < 16777216) (putM t_160.1 (KeyT.tk t_160.2.1) t_160.2.2)).bind fun v27 => (m_law_then (t_160.2.1, Y)).bind fun v28 => W.pure (v27, v28, t_160.2.2 + (1 : Int))) (([] : List (List Int × Int)), (⟨v26⟩ : Tup Int), (0 : Int))).bind fun v29 => (getW (⟨v29.1⟩ : DT Int).m (KeyT.tk v29.2.1)).bind fun v30 => (getW (⟨v29.1⟩ : DT Int).m (KeyT.tk v29.2.1)).bind fun v31 => W.pure (v30, v29.2.2 - v31)) := rfl
theorem c_law_by_states (Y : (Tup Int)) : m_law_by_states Y = ((rngW 0 (Y.l.length : Int)).bind fun v30 => (W.forW v30 (fun x_165 t_164 => (W.whileW (fun t_167 => W.pure (!decide (t_167.2 ∈ t_167.1))) (fun t_167 => (W.need (t_167.1.length < 16777216) t_167.2).bind fun v31 => (ixW Y.l t_167.2).bind fun v32 => W.pure ((t_167.1 ++ [v31]), v32)) (([] : List Int), x_165)).bind fun v33 => (indexW v33.1 v33.2).bind fun v34 => (W.whileW (fun t_171 => (indexW v33.1 v33.2).bind fun v35 => (modW t_171 ((v33.1.length : Int) - v35)).bind fun v36 => W.pure (!decide (v36 = (0 : Int)))) (fun t_171 => W.pure (t_171 + t_164.2)) t_164.2).bind fun v37 => W.pure (max t_164.1 v34, v37)) ((0 : Int), (1 : Int))).bind fun v38 => W.pure (v38.1, v38.2)) := rfl
theorem c_law_least (Y : Int × Int × Int) : m_law_least Y = (W.whileW (fun t_174 => W.pure (decide ((Y.1 + Y.2.1) ≤ t_174))) (fun t_174 => (modW (t_174 - Y.1) Y.2.1).bind fun v10 => W.pure (Y.1 + v10)) Y.2.2) := rfl
theorem c_law_refused (Y : W D) : m_law_refused Y = (tryR ((Y.bind fun u_176 => W.pure (.nx ())) : W (Fl Unit Unit D)) "InvalidChange" (fun (d1 : D) => d1) fun t_177 => W.pure (toD ())) := rfl
theorem c_law : m_law = ((m_law_change ()).bind fun v239 => (powW (10 : Int) (18 : Int)).bind fun v240 => (powW (10 : Int) (30 : Int)).bind fun v241 => (powW (10 : Int) (9 : Int)).bind fun v242 => (m_law_any v242).bind fun v243 => (m_law_of (α := Int) ([(0 : Int), (1 : Int), (2 : Int), (3 : Int), (7 : Int), (30 : Int), v240, (v241 - (1 : Int)) - v243] : List Int)).bind fun v244 => (m_power (toD v239, v244)).bind fun v245 => (m_law_power (v239, v244)).bind fun v246 => (m_law_same (toD v245, toD v246)).bind fun v247 => bif !v247 then (W.pure false) else ((rngW 0 (v239.l.length : Int)).bind fun v248 => (m_law_any (12 : Int)).bind fun v249 => (rngW 0 v249).bind fun v250 => (W.forW v250 (fun x_182 t_181 => m_law_then (t_181, v239)) (⟨v248⟩ : Tup Int)).bind fun v252 => (m_power (toD v239, v249)).bind fun v253 => (m_law_same (toD v253, toD v252)).bind fun v254 => (bif !v254 then W.pure true else ((m_power (toD v252, (3 : Int))).bind fun v255 => (mulW (3 : Int) v249).bind fun v256 => (m_law_power (v239, v256)).bind fun v257 => (m_law_same (toD v255, toD v257)).bind fun v258 => W.pure (!v258))).bind fun v259 => bif v259 then (W.pure false) else ((m_law_by_states v239).bind fun v260 => (bif decide ((v239.l.length : Int) < (13 : Int)) then ((m_law_walk v239).bind fun v261 => neWD (v260.1, v260.2) v261) else W.pure false).bind fun v262 => bif v262 then (W.pure false) else ((m_tail (toD v239)).bind fun v263 => (m_ring (toD v239)).bind fun v264 => (m_law_same (D.tup [toD v263, toD v264], D.tup [toD v260.1, toD v260.2])).bind fun v265 => (bif !v265 then W.pure true else (bif decide ((v239.l.length : Int) ≤ v260.1) then (W.pure (decide ((0 : Int) < v260.1))) else W.pure false)).bind fun v266 => bif v266 then (W.pure false) else ((powW (10 : Int) (25 : Int)).bind fun v267 => (powW (10 : Int) (9 : Int)).bind fun v268 => (m_law_any v268).bind fun v269 => (mulW v260.2 (v267 + v269)).bind fun v270 => W.thenR (W.forF ([v244, max (0 : Int) (v260.1 - (1 : Int)), v260.1, v260.1 + (1 : Int), (v260.1 + v260.2) - (1 : Int), v260.1 + v260.2, (v260.1 + v270) - (1 : Int), v260.1 + v270] : List Int) (fun x_187 t_186 => (m_least_count (toD v239, x_187)).bind fun v271 => (m_law_least (v260.1, (v260.2, x_187))).bind fun v272 => (m_law_same (toD v271, toD v272)).bind fun v273 => bif !v273 then (W.pure (.rt false)) else ((m_power (toD v239, x_187)).bind fun v274 => (m_law_power (v239, x_187)).bind fun v275 => (m_law_same (toD v274, toD v275)).bind fun v276 => bif !v276 then (W.pure (.rt false)) else (W.pure (.nx ())))) ()) fun t_186 => (m_law_any (60 : Int)).bind fun v277 => (m_law_least (v260.1, (v260.2, v249))).bind fun v278 => (m_law_least (v260.1, (v260.2, v277))).bind fun v279 => (m_law_power (v239, v249)).bind fun v280 => (m_law_power (v239, v277)).bind fun v281 => (eqWD v280 v281).bind fun v282 => bif !decide (v282 = (decide (v278 = v279))) then (W.pure false) else ((m_least_count (toD v239, v249)).bind fun v283 => (m_least_count (toD v239, v277)).bind fun v284 => (m_law_least (v260.1, (v260.2, v249))).bind fun v285 => (m_law_least (v260.1, (v260.2, v277))).bind fun v286 => (m_law_same (toD ([v283, v284] : List Int), toD ([v285, v286] : List Int))).bind fun v287 => bif !v287 then (W.pure false) else ((catT (⟨cut v239.l none (some (39 : Int))⟩ : (Tup Int)) (⟨[(v239.l.length : Int) + (1 : Int)]⟩ : Tup Int)).bind fun v288 => (catT (⟨[(v239.l.length : Int)]⟩ : Tup Int) (⟨cut v239.l (some (1 : Int)) none⟩ : (Tup Int))).bind fun v289 => (repT (⟨[true]⟩ : Tup Bool) (v239.l.length : Int)).bind fun v290 => (catT (⟨[-(1 : Int)]⟩ : Tup Int) (⟨cut v239.l (some (1 : Int)) none⟩ : (Tup Int))).bind fun v291 => (m_law_of (α := D) ([toD v239.l, toD v288, toD v289, toD v290, toD (), toD (⟨[]⟩ : Tup Int), toD ("0" : Str), toD (7 : Int), toD v291] : List D)).bind fun v292 => (nx (m_law_refused ((m_power (v292, (2 : Int))).bind fun v293 => W.pure (toD v293)))).bind fun v294 => (nx (m_law_refused ((m_tail v292).bind fun v295 => W.pure (toD v295)))).bind fun v296 => (W.need (([v294] : List D).length < 16777216) v296).bind fun v297 => (nx (m_law_refused ((m_ring v292).bind fun v298 => W.pure (toD v298)))).bind fun v299 => (W.need ((([v294] : List D) ++ [v297]).length < 16777216) v299).bind fun v300 => (nx (m_law_refused ((m_least_count (v292, (0 : Int))).bind fun v301 => W.pure (toD v301)))).bind fun v302 => (W.need (((([v294] : List D) ++ [v297]) ++ [v300]).length < 16777216) v302).bind fun v303 => (repW ([(0 : Int)] : List Int) (4 : Int)).bind fun v304 => m_law_same (toD (((([v294] : List D) ++ [v297]) ++ [v300]) ++ [v303]), toD v304)))))))) := rfl
def numD : D → Bool | .int i => decide (0 ≤ i) | _ => false
def posD : D → Bool | .int i => decide (0 < i) | _ => false
theorem m_integer {d : D} (h : isObj d = false) : m_is_integer d = W.pure (match d with | .int _ => true | _ => false) := by
  unfold m_is_integer isiW
  simp only [b1_pure]
  have e : toD d = d := rfl
  rw [e, need_pure h, need_pure h]
  cases d <;> rfl
theorem m_number {d : D} (h : isObj d = false) : m_is_number d = W.pure (numD d) := by
  unfold m_is_number
  simp only [b1_pure, W.pure_bind]
  rw [m_integer h]
  cases d <;> first | rfl | skip
  rename_i i
  simp only [and_pure, cond_true, cast_int, b2_pure]
  rfl
/-! a thing is the same as itself -/
mutual
def dep : D → Nat
  | .tup l | .lst l => depL l + 1
  | _ => 0
def depL : List D → Nat
  | [] => 0
  | d :: l => max (dep d) (depL l)
end
/-! plain data whose texts can be laid -/
mutual
def fine : D → Bool
  | .non | .bl _ | .int _ => true
  | .str s => PyData.strOk s
  | .tup l | .lst l => fineL l
  | .dct | .scr _ | .obj _ _ _ | .dk _ _ => false
def fineL : List D → Bool
  | [] => true
  | d :: l => fine d && fineL l
end
mutual
theorem fine_flat : ∀ {d : D}, fine d = true → flat d = true
  | .non, _ | .bl _, _ | .int _, _ | .str _, _ => rfl
  | .tup l, h | .lst l, h => by
    have := fineL_flat (l := l) (by simpa [fine] using h)
    simpa [flat] using this
  | .dct, h | .scr _, h | .obj _ _ _, h | .dk _ _, h => by simp [fine] at h
theorem fineL_flat : ∀ {l : List D}, fineL l = true → flatL l = true
  | [], _ => rfl
  | d :: l, h => by
    simp only [fineL, Bool.and_eq_true] at h
    simp [flatL, fine_flat h.1, fineL_flat h.2]
end
theorem fineL_mem {l : List D} (h : fineL l = true) {d : D} (hd : d ∈ l) : fine d = true := by
  induction l with
  | nil => cases hd
  | cons x l ih =>
    simp only [fineL, Bool.and_eq_true] at h
    rcases List.mem_cons.mp hd with e | e
    · rw [e]; exact h.1
    · exact ih h.2 e
theorem fineL_of : ∀ {l : List D}, (∀ d ∈ l, fine d = true) → fineL l = true
  | [], _ => rfl
  | d :: l, h => by
    unfold fineL
    rw [h d (List.mem_cons_self ..), fineL_of fun x hx => h x (List.mem_cons_of_mem _ hx)]
    rfl
theorem depL_le {n : Nat} : ∀ {l : List D}, (∀ d ∈ l, dep d ≤ n) → depL l ≤ n
  | [], _ => Nat.zero_le _
  | d :: l, h => by
    have a := h d (List.mem_cons_self ..)
    have b := depL_le fun x hx => h x (List.mem_cons_of_mem _ hx)
    simp only [depL]
    omega
theorem depL_mem {l : List D} {d : D} (h : d ∈ l) : dep d ≤ depL l := by
  induction l with
  | nil => cases h
  | cons x l ih =>
    simp only [depL]
    rcases List.mem_cons.mp h with e | e
    · rw [e]; omega
    · have := ih e; omega
theorem eq_leaf {d : D} (h : fine d = true) (h0 : dep d = 0) : eqWD d d = W.pure true := by
  have k1 : eqOk d = true := by
    cases d <;> first | (simp [dep] at h0; done) | (simp [fine] at h; done) | (simp [fine] at h; simp [h, eqOk, flat, flatL, pd, pdL, SeqAt.shaped, PyData.canLay0, PyData.canLayAll0, PyData.depth, PyData.depthAll]; done) | (simp [eqOk, flat, flatL, pd, pdL, SeqAt.shaped, PyData.canLay0, PyData.canLayAll0, PyData.depth, PyData.depthAll]; done)
  have k2 : eqD d d = true := by
    cases d <;> first | (simp [dep] at h0; done) | (simp [fine] at h; done) | (simp [eqD, pd, PyData.eqv]; done)
  refine (need_pure ⟨k1, k1⟩).trans ?_
  show W.pure (eqD d d) = _
  rw [k2]
theorem same_kids {n : Nat} {l : List D} (h : ∀ d ∈ l, m_sameN n (d, d) = W.pure true) : W.filterW (fun x : D × D => nx (W.pure true)) (fun x => nx (m_sameN n (x.1, x.2))) (l.zip l) = W.pure ((l.zip l).map fun _ => true) := by
  refine filt_all fun x hx => ?_
  obtain ⟨i, hi, e⟩ := List.mem_iff_getElem.mp hx
  rw [List.getElem_zip] at e
  rw [← e]
  exact h _ (List.getElem_mem _)
theorem all_true {α : Type} (l : List α) : (l.map fun _ => true).all id = true := by
  induction l with
  | nil => rfl
  | cons a l ih => simpa using ih
theorem same_refl : ∀ (n : Nat) {d : D}, fine d = true → dep d ≤ n → m_sameN n (d, d) = W.pure true
  | 0, d, h, hd => by
    have e := eq_leaf h (by omega)
    have i : ∀ f, isiW f d = W.pure (f d) := fun f => isi_pure (x := d) (flat_nobj (fine_flat h))
    show m_same0 (d, d) = _
    unfold m_same0
    simp only [b1_pure, b2_pure, i, ite_pure, and_pure, or_pure, not_pure, e]
    cases d <;> first | rfl | (simp [fine] at h; done) | (simp [dep] at hd; done)
  | n + 1, d, h, hd => by
    have i : ∀ f, isiW f d = W.pure (f d) := fun f => isi_pure (x := d) (flat_nobj (fine_flat h))
    show m_same1 (m_sameN n) (d, d) = _
    by_cases h0 : dep d = 0
    · have e := eq_leaf h h0
      unfold m_same1
      simp only [b1_pure, b2_pure, i, ite_pure, and_pure, or_pure, not_pure, e]
      cases d <;> first | rfl | (simp [fine] at h; done) | (simp [dep] at h0; done)
    · have key : ∀ l, (d = .tup l ∨ d = .lst l) → m_same1 (m_sameN n) (d, d) = W.pure true := fun l hl => by
        have kids : ∀ x ∈ l, m_sameN n (x, x) = W.pure true := fun x hx => same_refl n (by
          rcases hl with e | e <;> (subst e; exact fineL_mem (by simpa [fine] using h) hx)) (by
          have := depL_mem hx
          rcases hl with e | e <;> (subst e; simp only [dep] at hd; omega))
        have kk := same_kids kids
        unfold m_same1
        rcases hl with e | e
        · subst e
          have z : zipD (.tup l) (.tup l) = W.pure (l.zip l) := rfl
          have ll : lenD (.tup l) = W.pure (l.length : Int) := rfl
          simp only [b1_pure, b2_pure, i, ite_pure, and_pure, or_pure, not_pure, z, ll, W.pure_bind, kk, all_true, isTup, isLst]
          simp
        · subst e
          have z : zipD (.lst l) (.lst l) = W.pure (l.zip l) := rfl
          have ll : lenD (.lst l) = W.pure (l.length : Int) := rfl
          simp only [b1_pure, b2_pure, i, ite_pure, and_pure, or_pure, not_pure, z, ll, W.pure_bind, kk, all_true, isTup, isLst]
          simp
      cases d with
      | tup l => exact key l (.inl rfl)
      | lst l => exact key l (.inr rfl)
      | _ => exact absurd rfl h0
/-- two things that are one -/
theorem same_eq {x y : D} (e : x = y) (h : fine y = true) (hd : dep y ≤ 11) : m_law_same (x, y) = W.pure true := by
  subst e
  exact same_refl 11 h hd
theorem fine_ints (l : List Int) : fineL (l.map toD) = true := fineL_of fun d hd => by
  obtain ⟨x, _, rfl⟩ := List.mem_map.mp hd
  rfl
theorem dep_ints (l : List Int) : depL (l.map toD) = 0 := by
  induction l with
  | nil => rfl
  | cons a l ih =>
    show max (dep (.int a)) (depL (l.map toD)) = 0
    rw [ih]
    rfl
theorem fine_runs (l : List (Int × Int)) : fineL (l.map toD) = true := fineL_of fun d hd => by
  obtain ⟨x, _, rfl⟩ := List.mem_map.mp hd
  rfl
theorem dep_runs (l : List (Int × Int)) : depL (l.map toD) ≤ 1 := by
  induction l with
  | nil => exact Nat.zero_le _
  | cons a l ih =>
    show max (dep (.tup [.int a.1, .int a.2])) (depL (l.map toD)) ≤ 1
    have : dep (.tup [.int a.1, .int a.2]) = 1 := rfl
    omega
theorem same_ok {x : D} (h : fine x = true := by first | rfl | (simp only [fine, fineL, toD, List.map, Bool.and_true, Bool.true_and, Bool.and_self]; decide +kernel)) (hd : Nat.ble (dep x) 11 = true := by rfl) : m_law_same (x, x) = W.pure true := same_refl 11 h (Nat.le_of_ble_eq_true hd)
theorem try_told {ν ρ : Type} {t : String} {e : D} {f : D → ρ} {mk : ν → W ρ} : tryR (W.raise t e) t f mk = W.pure (f e) := W.ext' fun Q E => ⟨fun q => q.1 rfl, fun q => ⟨fun _ => q, fun n => absurd rfl n⟩⟩
theorem seq_short {d : D} {l : List Int} (hd : SeqI d l) (h : ∀ x ∈ l, Sz 200 x) : (pd d).showable = true ∧ (pd d).leavesShort 62 = true ∧ (pd d).weight ≤ 202 * l.length + 300 ∧ (pd d).hasDict = false ∧ (pd d).depth ≤ 6 ∧ isObj d = false ∧ flat d = true := by
  obtain ⟨a, b, c, e⟩ := ints_short h
  have dp := (ints_shaped l).2.1
  rcases hd with rfl | rfl
  · refine ⟨by simpa [pd, PyData.showable] using a, by simpa [pd, PyData.leavesShort] using b, ?_, by simpa [pd, PyData.hasDict] using e, ?_, rfl, by simpa [flat] using (ints_shaped l).2.2⟩
    · simp only [pd, PyData.weight]; omega
    · simp only [pd, PyData.depth]; omega
  · refine ⟨by simpa [pd, PyData.showable] using a, by simpa [pd, PyData.leavesShort] using b, ?_, by simpa [pd, PyData.hasDict] using e, ?_, rfl, by simpa [flat] using (ints_shaped l).2.2⟩
    · simp only [pd, PyData.weight]; omega
    · simp only [pd, PyData.depth]; omega
theorem repr_pair {d d' : D} {l l' : List Int} (hd : SeqI d l) (hd' : SeqI d' l') (h : ∀ x ∈ l, Sz 200 x) (h' : ∀ x ∈ l', Sz 200 x) (hl : l.length ≤ 500) (hl' : l'.length ≤ 500) : reprOk (D.tup [d, d']) := by
  obtain ⟨a, b, c, e, f, g, i⟩ := seq_short hd h
  obtain ⟨a', b', c', e', f', g', i'⟩ := seq_short hd' h'
  have sl : (16777216 : Nat) = sizeLine := by decide
  have fin : ∀ p : PyData, p.leavesShort 62 = true → p.weight ≤ 202 * l.length + 202 * l'.length + 1000 → p.shown.length ≤ sizeLine := fun p h1 h2 => by
    have := PyData.shown_le 62 (by decide) p h1
    rw [← sl]
    have := Nat.mul_le_mul_left 64 h2
    omega
  refine ⟨rfl, by simp [flat, flatL, i, i'], by simp [pd, pdL, PyData.showable, PyData.showableAll, a, a'], by simp [pd, pdL, PyData.hasDict, PyData.hasDictAll, e, e'], ?_, fin _ (by simp [pd, pdL, PyData.leavesShort, PyData.leavesShortAll, b, b']) ?_⟩
  · simp only [pd, pdL, PyData.depth, PyData.depthAll]
    omega
  · simp only [pd, pdL, PyData.weight, PyData.weightAll]
    omega
theorem set_nat {τ : Type} {l : List τ} {k : Nat} (h : k < l.length) (a : τ) : setW l (k : Int) a = W.pure (l.set k a) := by
  have e : L2.ixN l.length (k : Int) = some k := by
    unfold L2.ixN
    rw [if_pos (by omega), if_pos (by omega)]
    simp
  unfold setW
  rw [e]
theorem cut_take {τ : Type} (l : List τ) (k : Nat) : cut l none (some (k : Int)) = l.take k := by
  by_cases h : k ≤ l.length
  · exact cut_upto l h
  · unfold cut
    rw [HT.sIx_nat, HT.sIx_none, List.drop_zero, Nat.sub_zero, List.take_of_length_le (by omega), List.take_of_length_le (by omega)]
/-! draws, in wp -/
theorem any_b {β : Type} {b : Int} {f : Int → W β} {Q : β → Prop} {E : Ex → Prop} (hb : 0 < b ∧ b < 2 ^ 200) (h : ∀ r, 0 ≤ r → r < b → (f r).wp Q E) : ((anyW b).bind f).wp Q E := ⟨⟨hb.1, sz_lt hb.1 hb.2 (by decide)⟩, h⟩
theorem any_t {b : Int} {Q : Int → Prop} {E : Ex → Prop} (hb : 0 < b ∧ b < 2 ^ 200) (h : ∀ r, 0 ≤ r → r < b → Q r) : (anyW b).wp Q E := ⟨⟨hb.1, sz_lt hb.1 hb.2 (by decide)⟩, h⟩
theorem of_b {α β : Type} {l : List α} {f : α → W β} {Q : β → Prop} {E : Ex → Prop} (hl : l ≠ [] ∧ l.length ≤ 1000) (h : ∀ x ∈ l, (f x).wp Q E) : ((ofW l).bind f).wp Q E := ⟨hl, h⟩
theorem of_t {α : Type} {l : List α} {Q : α → Prop} {E : Ex → Prop} (hl : l ≠ [] ∧ l.length ≤ 1000) (h : ∀ x ∈ l, Q x) : (ofW l).wp Q E := ⟨hl, h⟩
/-- a pure choice -/
theorem bif_wp {α : Type} {p : Prop} [Decidable p] {a b : W α} {Q : α → Prop} {E : Ex → Prop} (ha : p → a.wp Q E) (hb : ¬ p → b.wp Q E) : (bif decide p then a else b).wp Q E := by
  by_cases c : p
  · rw [decide_eq_true c]; exact ha c
  · rw [decide_eq_false c]; exact hb c
/-- a pure value, then the rest -/
theorem pure_b {α β : Type} {a : α} {m : W α} {f : α → W β} {Q : β → Prop} {E : Ex → Prop} (e : m = W.pure a) (h : (f a).wp Q E) : (m.bind f).wp Q E := by rw [e]; exact h
theorem whileW_wp {τ : Type} {c : τ → W Bool} {b : τ → W τ} {Q : τ → Prop} {E : Ex → Prop} (I : τ → Prop) (μ : τ → Nat) (h : ∀ t, I t → (c t).wp (fun r => if r = true then (b t).wp (fun t' => I t' ∧ μ t' < μ t) E else Q t) E) {t : τ} (h0 : I t) : (W.whileW c b t).wp Q E := by
  refine ⟨μ t + 1, ?_⟩
  have key : ∀ (n : Nat) (t : τ), I t → μ t < n → (W.whN c b n t).wp Q E := by
    intro n
    induction n with
    | zero => intro t _ hn; exact absurd hn (Nat.not_lt_zero _)
    | succ n ih =>
      intro t ht hn
      show ((c t).bind fun x => bif x then (b t).bind (W.whN c b n) else W.pure t).wp Q E
      refine (c t).mono (fun r hr => ?_) (fun e z => z) (h t ht)
      cases r with
      | true =>
        rw [if_pos rfl] at hr
        show ((b t).bind (W.whN c b n)).wp Q E
        exact (b t).mono (fun t' ⟨a, b⟩ => ih t' a (by omega)) (fun e z => z) hr
      | false =>
        rw [if_neg (by decide)] at hr
        exact hr
  exact key _ t h0 (Nat.lt_succ_self _)
/-! changes of some states -/
def Chg (n : Nat) (c : List Int) : Prop := c.length = n ∧ ∀ x ∈ c, 0 ≤ x ∧ x < (n : Int)
def apC (c : List Int) (i : Int) : Int := c.getD i.toNat 0
theorem Chg.at {n : Nat} {c : List Int} (h : Chg n c) {i : Int} (i0 : 0 ≤ i) (i1 : i < (n : Int)) : ixW c i = W.pure (apC c i) ∧ 0 ≤ apC c i ∧ apC c i < (n : Int) := by
  obtain ⟨k, rfl⟩ := Int.eq_ofNat_of_zero_le i0
  have hk : k < c.length := by rw [h.1]; omega
  have e : c[k]? = some (apC c (k : Int)) := by
    unfold apC
    rw [Int.toNat_natCast, List.getD_eq_getElem?_getD, List.getElem?_eq_getElem hk]
    rfl
  exact ⟨ixW_nat e, h.2 _ (List.mem_of_getElem? e)⟩
def thenL (a b : List Int) : List Int := a.map fun s => apC b s
theorem then_chg {n : Nat} {a b : List Int} (ha : Chg n a) (hb : Chg n b) : Chg n (thenL a b) := by
  refine ⟨by unfold thenL; rw [List.length_map]; exact ha.1, fun x hx => ?_⟩
  obtain ⟨s, hs, rfl⟩ := List.mem_map.mp hx
  obtain ⟨s0, s1⟩ := ha.2 s hs
  exact (hb.at s0 s1).2
theorem m_then {n : Nat} {a b : List Int} (ha : Chg n a) (hb : Chg n b) : m_law_then (⟨a⟩, ⟨b⟩) = W.pure ⟨thenL a b⟩ := by
  unfold m_law_then
  simp only [b1_pure, b2_pure, bind_pureE]
  rw [filt_all (g := fun s => apC b s) fun s hs => (hb.at (ha.2 s hs).1 (ha.2 s hs).2).1]
  rfl
def idC (n : Nat) : List Int := (List.range n).map fun (i : Nat) => (i : Int)
theorem id_chg (n : Nat) : Chg n (idC n) := by
  refine ⟨by simp [idC], fun x hx => ?_⟩
  obtain ⟨i, hi, rfl⟩ := mem_rng hx
  omega
theorem ap_id {n : Nat} {i : Int} (i0 : 0 ≤ i) (i1 : i < (n : Int)) : apC (idC n) i = i := by
  obtain ⟨k, rfl⟩ := Int.eq_ofNat_of_zero_le i0
  have hk : k < n := by omega
  simp [apC, idC, hk]
theorem chg_ext {n : Nat} {a b : List Int} (ha : a.length = n) (hb : b.length = n) (h : ∀ i : Int, 0 ≤ i → i < (n : Int) → apC a i = apC b i) : a = b := by
  refine List.ext_getElem (by rw [ha, hb]) fun i h1 h2 => ?_
  have := h (i : Int) (by omega) (by omega)
  simpa [apC, h1, h2] using this
theorem ap_then {n : Nat} {a b : List Int} (ha : Chg n a) {i : Int} (i0 : 0 ≤ i) (i1 : i < (n : Int)) : apC (thenL a b) i = apC b (apC a i) := by
  obtain ⟨k, rfl⟩ := Int.eq_ofNat_of_zero_le i0
  have hk : k < a.length := by rw [ha.1]; omega
  simp [apC, thenL, hk]
theorem last_ix {l : List Int} {x : Int} (h : l ≠ []) : ∃ y, ixW l (-1) = W.pure y ∧ y ∈ l := by
  have e := List.dropLast_concat_getLast h
  refine ⟨l.getLast h, ?_, List.getLast_mem h⟩
  have := ix_last l.dropLast (l.getLast h)
  rw [e] at this
  exact this
/-- a power, whatever it is -/
theorem power_wp {n : Nat} {a : List Int} (ha : Chg n a) (hn : n ≤ 5000) {count : Int} (c0 : 0 ≤ count) (c1 : count ≤ 5000) {Q : Tup Int → Prop} {E} (hQ : ∀ l, Chg n l → Q ⟨l⟩) : (m_law_power (⟨a⟩, count)).wp Q E := by
  unfold m_law_power
  simp only [b1_pure, b2_pure, bind_pureE]
  rw [rngE _ (by omega) (by rw [ha.1]; omega)]
  simp only [bind_pureE]
  refine bind_mono (fun t : List Int => Chg n t) ?_ fun t ht => hQ t ht
  refine forW_pre (fun A t => t.length = A.length ∧ ∀ x ∈ t, 0 ≤ x ∧ x < (n : Int)) _ [] [] ⟨rfl, fun x hx => by cases hx⟩ (fun A s B t hA I => ?_) fun t I => ⟨by
    have := I.1
    simp [ha.1] at this
    exact this, I.2⟩
  obtain ⟨I1, I2⟩ := I
  have hs : 0 ≤ s ∧ s < (n : Int) := by
    have : s ∈ (List.range (a.length : Int).toNat).map fun (i : Nat) => (i : Int) := by
      rw [List.nil_append] at hA
      rw [hA]
      simp
    obtain ⟨i, hi, rfl⟩ := mem_rng this
    rw [ha.1] at hi
    omega
  have hlen : A.length < n := by
    have := congrArg List.length hA
    simp [ha.1] at this
    omega
  have app : ∀ {m : W Int}, m.wp (fun x => 0 ≤ x ∧ x < (n : Int)) E → ((m.bind fun a => W.need (t.length < 16777216) a).bind fun a => W.pure (t ++ [a])).wp (fun t : List Int => t.length = (A ++ [s]).length ∧ ∀ x ∈ t, 0 ≤ x ∧ x < (n : Int)) E := fun {m} h => by
    refine bind_mono (fun x => 0 ≤ x ∧ x < (n : Int)) (bind_mono _ h fun a ha => ⟨by omega, ha⟩) fun a ha => ?_
    refine ⟨by simp [I1], fun y hy => ?_⟩
    rcases List.mem_append.mp hy with q | q
    · exact I2 y q
    · rw [List.mem_singleton.mp q]
      exact ha
  refine bind_mono (fun p : List Int => (p ≠ [] ∧ ∀ x ∈ p, 0 ≤ x ∧ x < (n : Int)) ∧ (count < p.length ∨ ∀ y, ixW p (-1) = W.pure y → apC a y ∈ p)) ?_ fun p hp => ?_
  · refine whileW_wp (fun p => (p ≠ [] ∧ ∀ x ∈ p, 0 ≤ x ∧ x < (n : Int)) ∧ (p.length : Int) ≤ count + 1) (fun p => (count + 1 - p.length).toNat) (fun p hp => ?_) ⟨⟨by simp, fun x hx => by rw [List.mem_singleton.mp hx]; exact hs⟩, by simp; omega⟩
    obtain ⟨⟨p0, p1⟩, p2⟩ := hp
    obtain ⟨y, ey, hy⟩ := last_ix (x := 0) p0
    obtain ⟨k1, k2⟩ := ha.at (p1 y hy).1 (p1 y hy).2
    have ea : W.b2 (W.pure (⟨a⟩ : Tup Int)) (ixW p (-1)) (fun l i => ixW l.l i) = W.pure (apC a y) := by
      rw [ey]
      exact k1
    rw [ea]
    simp only [b2_pure, and_pure]
    by_cases c : (p.length : Int) ≤ count
    · rw [decide_eq_true c]
      simp only [cond_true, pureE]
      by_cases m : apC a y ∈ p
      · rw [if_neg (by simp [m])]
        refine ⟨⟨p0, p1⟩, .inr fun z ez => ?_⟩
        rw [ey] at ez
        have ez : (W.pure y : W Int) = W.pure z := ez
        have := congrArg (fun w : W Int => w.wp (fun r => r = z) (fun _ => False)) ez
        have : (y = z) = (z = z) := this
        have : y = z := by rw [this]
        rw [← this]
        exact m
      · rw [if_pos (by simp [m])]
        simp only [bind_pureE]
        rw [show W.need (p.length < 16777216) (apC a y) = W.pure (apC a y) from need_pure (by omega)]
        refine ⟨⟨⟨by simp, fun x hx => ?_⟩, by simp; omega⟩, by simp; omega⟩
        rcases List.mem_append.mp hx with q | q
        · exact p1 x q
        · rw [List.mem_singleton.mp q]; exact k2
    · rw [decide_eq_false c]
      simp only [cond_false, pureE]
      rw [if_neg (by decide)]
      exact ⟨⟨p0, p1⟩, .inl (by omega)⟩
  · obtain ⟨⟨p0, p1⟩, p2⟩ := hp
    refine bind_mono (fun t : List Int => t.length = (A ++ [s]).length ∧ ∀ x ∈ t, 0 ≤ x ∧ x < (n : Int)) ?_ fun t h => h
    rw [iteE]
    split
    · rename_i c
      have c := of_decide_eq_true c
      refine app ?_
      obtain ⟨k, rfl⟩ := Int.eq_ofNat_of_zero_le c0
      rw [ix_at (l := p) (i := k) (by omega)]
      exact p1 _ (List.getElem_mem _)
    · rename_i c
      have c : ¬ count < (p.length : Int) := fun z => c (decide_eq_true z)
      have p2 := p2.resolve_left c
      obtain ⟨y, ey, hy⟩ := last_ix (x := 0) p0
      have p2 := p2 y ey
      obtain ⟨k1, k2⟩ := ha.at (p1 y hy).1 (p1 y hy).2
      have ea : W.b2 (W.pure (⟨a⟩ : Tup Int)) (ixW p (-1)) (fun l i => ixW l.l i) = W.pure (apC a y) := by
        rw [ey]
        exact k1
      rw [ea]
      simp only [b2_pure]
      refine bind_mono (fun b : Int => 0 ≤ b ∧ b < p.length) ?_ fun b hb => ?_
      · unfold indexW
        have : ∃ j, p.findIdx? (fun x => eqD (toD x) (toD (apC a y))) = some j := by
          cases q : p.findIdx? (fun x => eqD (toD x) (toD (apC a y))) with
          | some j => exact ⟨j, rfl⟩
          | none =>
            have := List.findIdx?_eq_none_iff.mp q _ p2
            rw [show eqD (toD (apC a y)) (toD (apC a y)) = decide (apC a y = apC a y) from eqD_int _ _] at this
            simp at this
        obtain ⟨j, hj⟩ := this
        rw [hj]
        have hj2 := (List.findIdx?_eq_some_iff_getElem.mp hj).1
        refine ⟨⟨eqOk_ints p, ?_⟩, by omega, by omega⟩
        show eqOk (D.int _) = true
        simp [eqOk, flat, flatL, toD, pd, pdL, SeqAt.shaped, PyData.canLay0, PyData.canLayAll0, PyData.depth, PyData.depthAll]
      · obtain ⟨b0, b1⟩ := hb
        refine app ?_
        have m0 := Int.emod_nonneg (count - b) (show ((p.length : Int) - b) ≠ 0 by omega)
        have m1 := Int.emod_lt_of_pos (count - b) (show 0 < ((p.length : Int) - b) by omega)
        rw [show modW (count - b) ((p.length : Int) - b) = W.pure ((count - b) % ((p.length : Int) - b)) from need_pure (by omega)]
        simp only [b1_pure, b2_pure]
        obtain ⟨k, hk⟩ := Int.eq_ofNat_of_zero_le (show 0 ≤ b + (count - b) % ((p.length : Int) - b) by omega)
        show (W.bind (W.pure (b + (count - b) % ((p.length : Int) - b))) fun j => ixW p j).wp _ _
        rw [bind_pureE, hk, ix_at (l := p) (i := k) (by omega)]
        exact p1 _ (List.getElem_mem _)
/-! bodies done several times -/
def itC (n : Nat) (a : List Int) : Nat → List Int
  | 0 => idC n
  | k + 1 => thenL (itC n a k) a
theorem it_chg {n : Nat} {a : List Int} (ha : Chg n a) : ∀ k, Chg n (itC n a k)
  | 0 => id_chg n
  | k + 1 => then_chg (it_chg ha k) ha
theorem ap_rg {n : Nat} {a : List Int} (ha : Chg n a) {i : Int} (i0 : 0 ≤ i) (i1 : i < (n : Int)) : 0 ≤ apC a i ∧ apC a i < (n : Int) := (ha.at i0 i1).2
theorem it_add {n : Nat} {a : List Int} (ha : Chg n a) (i : Nat) : ∀ j, itC n a (i + j) = thenL (itC n a i) (itC n a j)
  | 0 => by
    refine chg_ext (it_chg ha _).1 (then_chg (it_chg ha i) (id_chg n)).1 fun s s0 s1 => ?_
    have r := ap_rg (it_chg ha i) s0 s1
    show _ = apC (thenL (itC n a i) (idC n)) s
    rw [ap_then (it_chg ha i) s0 s1, ap_id r.1 r.2]
    rfl
  | j + 1 => by
    refine chg_ext (it_chg ha _).1 (then_chg (it_chg ha i) (it_chg ha (j + 1))).1 fun s s0 s1 => ?_
    have r := ap_rg (it_chg ha i) s0 s1
    show apC (thenL (itC n a (i + j)) a) s = _
    rw [ap_then (it_chg ha (i + j)) s0 s1, it_add ha i j, ap_then (it_chg ha i) s0 s1, ap_then (it_chg ha i) s0 s1]
    show _ = apC (thenL (itC n a j) a) (apC (itC n a i) s)
    rw [ap_then (it_chg ha j) r.1 r.2]
theorem then_assoc {n : Nat} {a b c : List Int} (ha : Chg n a) (hb : Chg n b) (hc : Chg n c) : thenL (thenL a b) c = thenL a (thenL b c) := by
  refine chg_ext (then_chg (then_chg ha hb) hc).1 (then_chg ha (then_chg hb hc)).1 fun s s0 s1 => ?_
  have r := ap_rg ha s0 s1
  rw [ap_then (then_chg ha hb) s0 s1, ap_then ha s0 s1, ap_then ha s0 s1, ap_then hb r.1 r.2]
theorem nodup_le : ∀ {n : Nat} {l : List Int}, l.Nodup → (∀ x ∈ l, 0 ≤ x ∧ x < (n : Int)) → l.length ≤ n
  | 0, l, h, hr => by
    cases l with
    | nil => exact Nat.le_refl _
    | cons x l => have := hr x (List.mem_cons_self ..); omega
  | n + 1, l, h, hr => by
    have k := nodup_le (n := n) (h.erase (n : Int)) fun x hx => by
      obtain ⟨a, b⟩ := h.mem_erase_iff.mp hx
      have := hr x b
      omega
    have e := List.length_erase (a := (n : Int)) (l := l)
    split at e <;> omega
/-! where a state is led: its way until it comes round -/
def orb (a : List Int) (s : Int) : Nat → Int
  | 0 => s
  | k + 1 => apC a (orb a s k)
theorem orb_rg {n : Nat} {a : List Int} (ha : Chg n a) {s : Int} (s0 : 0 ≤ s) (s1 : s < (n : Int)) : ∀ k, 0 ≤ orb a s k ∧ orb a s k < (n : Int)
  | 0 => ⟨s0, s1⟩
  | k + 1 => let r := orb_rg ha s0 s1 k; ap_rg ha r.1 r.2
theorem orb_it {n : Nat} {a : List Int} (ha : Chg n a) {s : Int} (s0 : 0 ≤ s) (s1 : s < (n : Int)) : ∀ k, apC (itC n a k) s = orb a s k
  | 0 => ap_id s0 s1
  | k + 1 => by
    show apC (thenL (itC n a k) a) s = _
    rw [ap_then (it_chg ha k) s0 s1, orb_it ha s0 s1 k]
    rfl
theorem orb_add (a : List Int) (s : Int) (i : Nat) : ∀ j, orb a s (i + j) = orb a (orb a s i) j
  | 0 => rfl
  | j + 1 => congrArg (apC a) (orb_add a s i j)
theorem it_eq {n : Nat} {a : List Int} (ha : Chg n a) (i j : Nat) : itC n a i = itC n a j ↔ ∀ s : Int, 0 ≤ s → s < (n : Int) → orb a s i = orb a s j := by
  constructor
  · intro h s s0 s1
    rw [← orb_it ha s0 s1, ← orb_it ha s0 s1, h]
  · intro h
    refine chg_ext (it_chg ha i).1 (it_chg ha j).1 fun s s0 s1 => ?_
    rw [orb_it ha s0 s1, orb_it ha s0 s1, h s s0 s1]
def pthL (a : List Int) (s : Int) (k : Nat) : List Int := (List.range k).map (orb a s)
theorem pth_len (a : List Int) (s : Int) (k : Nat) : (pthL a s k).length = k := by simp [pthL]
theorem pth_succ (a : List Int) (s : Int) (k : Nat) : pthL a s (k + 1) = pthL a s k ++ [orb a s k] := by simp [pthL, List.range_succ]
theorem pth_mem {a : List Int} {s x : Int} {k : Nat} : x ∈ pthL a s k ↔ ∃ i, i < k ∧ orb a s i = x := by
  unfold pthL
  rw [List.mem_map]
  constructor
  · rintro ⟨i, hi, e⟩
    exact ⟨i, List.mem_range.mp hi, e⟩
  · rintro ⟨i, hi, e⟩
    exact ⟨i, List.mem_range.mpr hi, e⟩
theorem pth_get {a : List Int} {s : Int} {k i : Nat} (h : i < k) : (pthL a s k)[i]? = some (orb a s i) := by simp [pthL, h]
structure Cyc (a : List Int) (s : Int) (t c : Nat) : Prop where
  c0 : 0 < c
  nd : (pthL a s (t + c)).Nodup
  back : orb a s (t + c) = orb a s t
theorem cyc_ex {n : Nat} {a : List Int} (ha : Chg n a) {s : Int} (s0 : 0 ≤ s) (s1 : s < (n : Int)) : ∃ t c, Cyc a s t c ∧ t + c ≤ n := by
  have key : ∀ m, (pthL a s m).Nodup ∨ ∃ t c, Cyc a s t c ∧ t + c < m := by
    intro m
    induction m with
    | zero => exact .inl (by simp [pthL])
    | succ m ih =>
      rcases ih with h | ⟨t, c, h, l⟩
      · by_cases q : orb a s m ∈ pthL a s m
        · obtain ⟨t, ht, e⟩ := pth_mem.mp q
          refine .inr ⟨t, m - t, ⟨by omega, ?_, ?_⟩, by omega⟩
          · rw [show t + (m - t) = m by omega]; exact h
          · rw [show t + (m - t) = m by omega]; exact e.symm
        · left
          rw [pth_succ]
          rw [List.nodup_append]
          refine ⟨h, by simp, fun x hx y hy e => ?_⟩
          rw [List.mem_singleton.mp hy] at e
          exact q (e ▸ hx)
      · exact .inr ⟨t, c, h, by omega⟩
  rcases key (n + 1) with h | ⟨t, c, h, l⟩
  · have := nodup_le h fun x hx => by
      obtain ⟨i, _, rfl⟩ := pth_mem.mp hx
      exact orb_rg ha s0 s1 i
    rw [pth_len] at this
    omega
  · exact ⟨t, c, h, by omega⟩
theorem Cyc.inj {a : List Int} {s : Int} {t c : Nat} (h : Cyc a s t c) {i j : Nat} (hi : i < t + c) (hj : j < t + c) (e : orb a s i = orb a s j) : i = j := by
  have nd := h.nd
  rcases Nat.lt_trichotomy i j with q | q | q
  · have := List.pairwise_iff_getElem.mp nd i j (by rw [pth_len]; exact hi) (by rw [pth_len]; exact hj) q
    simp [pthL] at this
    exact absurd e this
  · exact q
  · have := List.pairwise_iff_getElem.mp nd j i (by rw [pth_len]; exact hj) (by rw [pth_len]; exact hi) q
    simp [pthL] at this
    exact absurd e.symm this
theorem Cyc.per {a : List Int} {s : Int} {t c : Nat} (h : Cyc a s t c) (x : Nat) : ∀ m, orb a s (t + x + c * m) = orb a s (t + x)
  | 0 => rfl
  | m + 1 => by
    rw [show t + x + c * (m + 1) = (t + c) + (x + c * m) by rw [Nat.mul_succ]; omega, orb_add, h.back, ← orb_add, show t + (x + c * m) = t + x + c * m by omega, Cyc.per h x m]
theorem Cyc.mod {a : List Int} {s : Int} {t c : Nat} (h : Cyc a s t c) {k : Nat} (hk : t ≤ k) : orb a s k = orb a s (t + (k - t) % c) := by
  have := h.per ((k - t) % c) ((k - t) / c)
  rw [← this]
  congr 1
  have := Nat.mod_add_div (k - t) c
  omega
theorem Cyc.iff {a : List Int} {s : Int} {t c : Nat} (h : Cyc a s t c) {i j : Nat} (hij : i < j) : orb a s i = orb a s j ↔ t ≤ i ∧ c ∣ j - i := by
  have c0 := h.c0
  constructor
  · intro e
    by_cases ti : t ≤ i
    · refine ⟨ti, ?_⟩
      rw [h.mod ti, h.mod (show t ≤ j by omega)] at e
      have m1 := Nat.mod_lt (i - t) c0
      have m2 := Nat.mod_lt (j - t) c0
      have e2 := h.inj (by omega) (by omega) e
      have e3 : (i - t) % c = (j - t) % c := by omega
      have d1 := Nat.mod_add_div (i - t) c
      have d2 := Nat.mod_add_div (j - t) c
      have le : (i - t) / c ≤ (j - t) / c := Nat.div_le_div_right (by omega)
      refine ⟨(j - t) / c - (i - t) / c, ?_⟩
      rw [Nat.mul_sub]
      omega
    · exfalso
      by_cases tj : t ≤ j
      · rw [h.mod tj] at e
        have m2 := Nat.mod_lt (j - t) c0
        have := h.inj (by omega) (by omega) e
        omega
      · have := h.inj (by omega) (by omega) e
        omega
  · rintro ⟨ti, m, hm⟩
    have := h.per (i - t) m
    rw [show t + (i - t) + c * m = j by omega, show t + (i - t) = i by omega] at this
    exact this.symm
/-- no number of the way comes twice before it comes round -/
theorem Cyc.new {a : List Int} {s : Int} {t c : Nat} (h : Cyc a s t c) {k : Nat} (hk : k < t + c) : orb a s k ∉ pthL a s k := fun m => by
  obtain ⟨i, hi, e⟩ := pth_mem.mp m
  have := h.inj (by omega) hk e
  omega
theorem Cyc.old {a : List Int} {s : Int} {t c : Nat} (h : Cyc a s t c) : orb a s (t + c) ∈ pthL a s (t + c) := by
  have := h.c0
  rw [h.back]
  exact pth_mem.mpr ⟨t, by omega, rfl⟩
/-- where it stands in the way -/
theorem pth_ix {a : List Int} {s : Int} {t c : Nat} (h : Cyc a s t c) : (pthL a s (t + c)).findIdx? (fun x => x == orb a s (t + c)) = some t := by
  have c0 := h.c0
  rw [List.findIdx?_eq_some_iff_getElem]
  refine ⟨by rw [pth_len]; omega, ?_, fun j hj => ?_⟩
  · simp [pthL, h.back]
  · rw [h.back]
    simp [pthL]
    intro e
    have := h.inj (i := j) (j := t) (by omega) (by omega) e
    omega
/-! the loops that find where a way comes round -/
section
variable {κ : Type} [DecidableEq κ]
def dctF (f : Nat → κ) (k : Nat) : List (κ × Int) := (List.range k).map fun i => (f i, (i : Int))
theorem dct_len (f : Nat → κ) (k : Nat) : (dctF f k).length = k := by simp [dctF]
theorem dct_succ (f : Nat → κ) (k : Nat) : dctF f (k + 1) = dctF f k ++ [(f k, (k : Int))] := by simp [dctF, List.range_succ]
theorem get_none {f : Nat → κ} {k : Nat} {x : κ} (h : ∀ i, i < k → f i ≠ x) : getM (dctF f k) x = none := by
  unfold getM
  rw [Option.map_eq_none_iff, List.find?_eq_none]
  intro p hp
  obtain ⟨i, hi, rfl⟩ := List.mem_map.mp hp
  simpa using h i (List.mem_range.mp hi)
theorem get_some {f : Nat → κ} {x : κ} {i : Nat} (e : f i = x) (h : ∀ j, j < i → f j ≠ x) : ∀ {k : Nat}, i < k → getM (dctF f k) x = some (i : Int)
  | 0, hk => absurd hk (Nat.not_lt_zero _)
  | k + 1, hk => by
    unfold getM
    rw [dct_succ, List.find?_append]
    rcases Nat.lt_succ_iff_lt_or_eq.mp hk with q | q
    · have := get_some e h q
      unfold getM at this
      cases hf : (dctF f k).find? (fun p => decide (p.1 = x)) with
      | none => rw [hf] at this; cases this
      | some p => rw [hf] at this; exact this
    · subst q
      have := get_none (k := i) h
      unfold getM at this
      rw [Option.map_eq_none_iff] at this
      rw [this]
      simp [e]
theorem put_new {f : Nat → κ} {k : Nat} (h : ∀ i, i < k → f i ≠ f k) : putM (dctF f k) (f k) (k : Int) = dctF f (k + 1) := by
  unfold putM
  rw [if_neg, dct_succ]
  intro z
  obtain ⟨p, hp, hq⟩ := List.any_eq_true.mp z
  obtain ⟨i, hi, rfl⟩ := List.mem_map.mp hp
  exact h i (List.mem_range.mp hi) (of_decide_eq_true hq)
end
theorem m_index {l : List Int} {y : Int} {j : Nat} (h : l.findIdx? (fun x => x == y) = some j) : indexW l y = W.pure (j : Int) := by
  have e : (fun x : Int => eqD (toD x) (toD y)) = fun x => x == y := funext fun x => by
    show eqD (.int x) (.int y) = _
    rw [eqD_int, Bool.eq_iff_iff]
    simp
  unfold indexW
  rw [e, h]
  exact need_pure ⟨eqOk_ints l, rfl⟩
theorem Cyc.ne {a : List Int} {s : Int} {t c : Nat} (h : Cyc a s t c) {k : Nat} (hk : k < t + c) : ∀ i, i < k → orb a s i ≠ orb a s k := fun i hi e => by
  have := h.inj (by omega) hk e
  omega
/-- seen states in a list -/
theorem seen_list {n : Nat} {a : List Int} (ha : Chg n a) (hn : n ≤ 5000) {s : Int} (s0 : 0 ≤ s) (s1 : s < (n : Int)) {t c : Nat} (h : Cyc a s t c) (hb : t + c ≤ n) : ∀ m k, k + m = t + c → W.whileW (fun t_167 : List Int × Int => W.pure (!decide (t_167.2 ∈ t_167.1))) (fun t_167 => (W.need (t_167.1.length < 16777216) t_167.2).bind fun v31 => (ixW a t_167.2).bind fun v32 => W.pure ((t_167.1 ++ [v31]), v32)) (pthL a s k, orb a s k) = W.pure (pthL a s (t + c), orb a s (t + c)) := by
  intro m
  induction m with
  | zero =>
    intro k hk
    have e : k = t + c := by omega
    subst e
    exact whileW_dn (by rw [decide_eq_true h.old]; rfl)
  | succ m ih =>
    intro k hk
    have r := orb_rg ha s0 s1 k
    rw [whileW_nx (t' := (pthL a s (k + 1), orb a s (k + 1))) (by rw [decide_eq_false (h.new (by omega))]; rfl) ?_]
    · exact ih (k + 1) (by omega)
    · show (W.need ((pthL a s k).length < 16777216) (orb a s k)).bind _ = _
      rw [need_pure (by rw [pth_len]; omega), bind_pureE, (ha.at r.1 r.2).1, bind_pureE, pth_succ]
      rfl
/-- seen states in a dict -/
theorem seen_dict {n : Nat} {a : List Int} (ha : Chg n a) (hn : n ≤ 5000) {s : Int} (s0 : 0 ≤ s) (s1 : s < (n : Int)) {t c : Nat} (h : Cyc a s t c) (hb : t + c ≤ n) : ∀ m k, k + m = t + c → W.whileW (fun t_21 : List (Int × Int) × Int => W.pure (!(getM (⟨t_21.1⟩ : DI Int).m t_21.2).isSome)) (fun t_21 => (ixW a t_21.2).bind fun v33 => (W.need (t_21.1.length < 16777216) (putM t_21.1 t_21.2 ((⟨t_21.1⟩ : DI Int).m.length : Int), v33)).bind fun v34 => W.pure (v34.1, v34.2)) (dctF (orb a s) k, orb a s k) = W.pure (dctF (orb a s) (t + c), orb a s (t + c)) := by
  intro m
  induction m with
  | zero =>
    intro k hk
    have e : k = t + c := by omega
    subst e
    have g : getM (dctF (orb a s) (t + c)) (orb a s (t + c)) = some (t : Int) := get_some h.back.symm (fun j hj => by
      rw [h.back]
      exact h.ne (by have := h.c0; omega) j hj) (by have := h.c0; omega)
    refine whileW_dn ?_
    show W.pure (!(getM (dctF (orb a s) (t + c)) (orb a s (t + c))).isSome) = _
    rw [g]
    rfl
  | succ m ih =>
    intro k hk
    have r := orb_rg ha s0 s1 k
    have g : getM (dctF (orb a s) k) (orb a s k) = none := get_none (h.ne (by omega))
    rw [whileW_nx (t' := (dctF (orb a s) (k + 1), orb a s (k + 1))) ?_ ?_]
    · exact ih (k + 1) (by omega)
    · show W.pure (!(getM (dctF (orb a s) k) (orb a s k)).isSome) = _
      rw [g]
      rfl
    · show (ixW a (orb a s k)).bind _ = _
      rw [(ha.at r.1 r.2).1, bind_pureE]
      show (W.need ((dctF (orb a s) k).length < 16777216) (putM (dctF (orb a s) k) (orb a s k) ((dctF (orb a s) k).length : Int), apC a (orb a s k))).bind _ = _
      rw [need_pure (by rw [dct_len]; omega), dct_len, put_new (h.ne (by omega))]
      rfl
/-- the way of _law_power -/
theorem path_loop {n : Nat} {a : List Int} (ha : Chg n a) (hn : n ≤ 5000) {s : Int} (s0 : 0 ≤ s) (s1 : s < (n : Int)) {t c : Nat} (h : Cyc a s t c) (hb : t + c ≤ n) (N : Nat) : ∀ m k, k + 1 + m = min (N + 1) (t + c) → W.whileW (fun t_1 : List Int => bif decide ((t_1.length : Int) ≤ (N : Int)) then ((ixW t_1 (-(1 : Int))).bind fun v1 => (ixW a v1).bind fun v2 => W.pure (!decide (v2 ∈ t_1))) else W.pure false) (fun t_1 => (ixW t_1 (-(1 : Int))).bind fun v3 => (ixW a v3).bind fun v4 => (W.need (t_1.length < 16777216) v4).bind fun v5 => W.pure (t_1 ++ [v5])) (pthL a s (k + 1)) = W.pure (pthL a s (min (N + 1) (t + c))) := by
  have c0 := h.c0
  have last : ∀ k, ixW (pthL a s (k + 1)) (-(1 : Int)) = W.pure (orb a s k) := fun k => by
    rw [pth_succ]
    exact ix_last _ _
  intro m
  induction m with
  | zero =>
    intro k hk
    rw [← show k + 1 = min (N + 1) (t + c) by omega]
    refine whileW_dn ?_
    have r := orb_rg ha s0 s1 k
    show (bif decide (((pthL a s (k + 1)).length : Int) ≤ (N : Int)) then _ else _) = _
    rw [pth_len]
    by_cases q : ((k + 1 : Nat) : Int) ≤ (N : Int)
    · rw [decide_eq_true q]
      show (ixW (pthL a s (k + 1)) (-(1 : Int))).bind _ = _
      rw [last, bind_pureE, (ha.at r.1 r.2).1, bind_pureE]
      have e : k + 1 = t + c := by omega
      have : apC a (orb a s k) ∈ pthL a s (k + 1) := by
        show orb a s (k + 1) ∈ _
        rw [e]
        exact h.old
      rw [decide_eq_true this]
      rfl
    · rw [decide_eq_false q]
      rfl
  | succ m ih =>
    intro k hk
    have r := orb_rg ha s0 s1 k
    rw [whileW_nx (t' := pthL a s (k + 2)) ?_ ?_]
    · exact ih (k + 1) (by omega)
    · show (bif decide (((pthL a s (k + 1)).length : Int) ≤ (N : Int)) then _ else _) = _
      rw [pth_len, decide_eq_true (by omega)]
      show (ixW (pthL a s (k + 1)) (-(1 : Int))).bind _ = _
      rw [last, bind_pureE, (ha.at r.1 r.2).1, bind_pureE]
      have : ¬ apC a (orb a s k) ∈ pthL a s (k + 1) := h.new (k := k + 1) (by omega)
      rw [decide_eq_false this]
      rfl
    · show (ixW (pthL a s (k + 1)) (-(1 : Int))).bind _ = _
      rw [last, bind_pureE, (ha.at r.1 r.2).1, bind_pureE]
      show (W.need ((pthL a s (k + 1)).length < 16777216) _).bind _ = _
      rw [need_pure (by rw [pth_len]; omega), bind_pureE, pth_succ a s (k + 1)]
      rfl
/-! what the law's own power tells, and the program's -/
theorem forW_gg {α τ : Type} {f : α → τ → W τ} (g : List α → τ) : ∀ (l A : List α), (∀ A' x B, A ++ l = A' ++ x :: B → f x (g A') = W.pure (g (A' ++ [x]))) → W.forW l f (g A) = W.pure (g (A ++ l))
  | [], A, _ => by rw [List.append_nil]; rfl
  | x :: l, A, h => by
    rw [forW_cons (h A x l rfl), forW_gg g l (A ++ [x]) (fun A' y B e => h A' y B (by rw [← e]; simp))]
    simp
theorem it_map {n : Nat} {a : List Int} (ha : Chg n a) (N : Nat) : itC n a N = (idC n).map fun s => orb a s N := by
  refine chg_ext (n := n) (it_chg ha N).1 (by simp [idC]) fun s s0 s1 => ?_
  rw [orb_it ha s0 s1]
  obtain ⟨k, rfl⟩ := Int.eq_ofNat_of_zero_le s0
  have hk : k < n := by omega
  simp [apC, idC, hk]
theorem rngC {n : Nat} (hn : n ≤ 5000) : rngW 0 (n : Int) = W.pure (idC n) := rngW_ok (by omega)
theorem mem_id {n : Nat} {s : Int} : s ∈ idC n ↔ 0 ≤ s ∧ s < (n : Int) := by
  constructor
  · exact (id_chg n).2 s
  · rintro ⟨a, b⟩
    obtain ⟨k, rfl⟩ := Int.eq_ofNat_of_zero_le a
    exact List.mem_map.mpr ⟨k, List.mem_range.mpr (by omega), rfl⟩
theorem m_lpow {n : Nat} {a : List Int} (ha : Chg n a) (hn : n ≤ 5000) (N : Nat) : m_law_power (⟨a⟩, (N : Int)) = W.pure ⟨itC n a N⟩ := by
  rw [c_law_power]
  show (rngW 0 (a.length : Int)).bind _ = _
  rw [ha.1, rngC hn, bind_pureE]
  have key := forW_gg (f := fun x_39 (t_38 : List Int) => (W.whileW (fun t_41 : List Int => bif decide ((t_41.length : Int) ≤ (N : Int)) then ((ixW t_41 (-(1 : Int))).bind fun v43 => (ixW a v43).bind fun v44 => W.pure (!decide (v44 ∈ t_41))) else W.pure false) (fun t_41 => (ixW t_41 (-(1 : Int))).bind fun v45 => (ixW a v45).bind fun v46 => (W.need (t_41.length < 16777216) v46).bind fun v47 => W.pure (t_41 ++ [v47])) ([x_39] : List Int)).bind fun v48 => bif decide ((N : Int) < (v48.length : Int)) then ((ixW v48 (N : Int)).bind fun v49 => (W.need (t_38.length < 16777216) v49).bind fun v50 => W.pure (t_38 ++ [v50])) else ((ixW v48 (-(1 : Int))).bind fun v51 => (ixW a v51).bind fun v52 => (indexW v48 v52).bind fun v53 => (modW ((N : Int) - v53) ((v48.length : Int) - v53)).bind fun v54 => (ixW v48 (v53 + v54)).bind fun v55 => (W.need (t_38.length < 16777216) v55).bind fun v56 => W.pure (t_38 ++ [v56]))) (fun A : List Int => A.map fun s => orb a s N) (idC n) [] ?_
  · have key : W.forW (idC n) _ ([] : List Int) = _ := key
    rw [key, bind_pureE, it_map ha N]
    rfl
  · intro A s B hA
    have hs : 0 ≤ s ∧ s < (n : Int) := mem_id.mp (by rw [← List.nil_append (idC n), hA]; simp)
    have hlen : A.length ≤ 5000 := by
      have := congrArg List.length hA
      have e := (id_chg n).1
      simp [e] at this
      omega
    obtain ⟨t, c, cy, hb⟩ := cyc_ex ha hs.1 hs.2
    have c0 := cy.c0
    have app : ∀ x : Int, ((W.need ((A.map fun s => orb a s N).length < 16777216) x).bind fun v50 => W.pure ((A.map fun s => orb a s N) ++ [v50])) = W.pure ((A.map fun s => orb a s N) ++ [x]) := fun x => by
      rw [need_pure (by rw [List.length_map]; omega)]
      rfl
    have pl := path_loop ha hn hs.1 hs.2 cy hb N (min (N + 1) (t + c) - 1) 0 (by omega)
    have pl : W.whileW _ _ [s] = _ := pl
    show (W.whileW _ _ [s]).bind _ = _
    rw [pl, bind_pureE]
    by_cases q : N + 1 ≤ t + c
    · rw [show min (N + 1) (t + c) = N + 1 by omega, pth_len, decide_eq_true (show (N : Int) < ((N + 1 : Nat) : Int) by omega)]
      show (ixW (pthL a s (N + 1)) (N : Int)).bind _ = _
      rw [ixW_nat (pth_get (show N < N + 1 by omega)), bind_pureE, app, List.map_append]
      rfl
    · obtain ⟨d, hd⟩ : ∃ d, t + c = d + 1 := ⟨t + c - 1, by omega⟩
      have old := pth_ix cy
      have back : orb a s (t + c) = apC a (orb a s d) := by rw [hd]; rfl
      have r := orb_rg ha hs.1 hs.2 d
      rw [show min (N + 1) (t + c) = t + c by omega, pth_len, decide_eq_false (show ¬ (N : Int) < ((t + c : Nat) : Int) by omega)]
      show (ixW (pthL a s (t + c)) (-(1 : Int))).bind _ = _
      rw [show ixW (pthL a s (t + c)) (-(1 : Int)) = W.pure (orb a s d) by rw [hd, pth_succ]; exact ix_last _ _, bind_pureE, (ha.at r.1 r.2).1, bind_pureE, ← back, m_index old, bind_pureE]
      have lt := Nat.mod_lt (N - t) c0
      rw [show modW ((N : Int) - (t : Int)) (((t + c : Nat) : Int) - (t : Int)) = W.pure (((N - t) % c : Nat) : Int) from by
        rw [show ((t + c : Nat) : Int) - (t : Int) = (c : Int) by omega, show (N : Int) - (t : Int) = ((N - t : Nat) : Int) by omega, Int.natCast_emod]
        exact need_pure (by omega)]
      rw [bind_pureE, show (t : Int) + (((N - t) % c : Nat) : Int) = ((t + (N - t) % c : Nat) : Int) by omega, ixW_nat (pth_get (show t + (N - t) % c < t + c by omega)), bind_pureE, app, ← cy.mod (by omega), List.map_append]
      rfl
theorem then_id {n : Nat} {a : List Int} (ha : Chg n a) : thenL a (idC n) = a := by
  refine chg_ext (then_chg ha (id_chg n)).1 ha.1 fun s s0 s1 => ?_
  have r := ap_rg ha s0 s1
  rw [ap_then ha s0 s1, ap_id r.1 r.2]
theorem id_then {n : Nat} {a : List Int} (ha : Chg n a) : thenL (idC n) a = a := by
  refine chg_ext (then_chg (id_chg n) ha).1 ha.1 fun s s0 s1 => ?_
  rw [ap_then (id_chg n) s0 s1, ap_id s0 s1]
theorem m_aft {n : Nat} {a b : List Int} (ha : Chg n a) (hb : Chg n b) : m_after (⟨a⟩, ⟨b⟩) = W.pure ⟨thenL a b⟩ := by
  rw [c_after]
  show (W.filterW _ _ a).bind _ = _
  rw [filt_all (g := fun s => apC b s) fun s hs => (hb.at (ha.2 s hs).1 (ha.2 s hs).2).1]
  rfl
theorem raise_loop {n : Nat} {a : List Int} (ha : Chg n a) : ∀ (m k j : Nat) (F : List Int), k ≤ m → Chg n F → ∃ st, W.whileW (fun t_12 : Tup Int × Tup Int × Int => W.pure (decide ((0 : Int) < t_12.2.2))) (fun t_12 => (modW t_12.2.2 (2 : Int)).bind fun v16 => (bif decide (v16 = (1 : Int)) then (m_after (t_12.1, t_12.2.1)) else (W.pure t_12.1)).bind fun v18 => (m_after (t_12.2.1, t_12.2.1)).bind fun v19 => (fdivW t_12.2.2 (2 : Int)).bind fun v20 => W.pure (v18, v19, v20)) (⟨F⟩, ⟨itC n a j⟩, (k : Int)) = W.pure (⟨thenL F (itC n a (j * k))⟩, st) := by
  intro m
  induction m with
  | zero =>
    intro k j F hk hF
    have e : k = 0 := by omega
    subst e
    refine ⟨(⟨itC n a j⟩, ((0 : Nat) : Int)), ?_⟩
    refine (whileW_dn (by rfl)).trans ?_
    show _ = W.pure ((⟨thenL F (itC n a (j * 0))⟩ : Tup Int), _)
    rw [Nat.mul_zero, show itC n a 0 = idC n from rfl, then_id hF]
  | succ m ih =>
    intro k j F hk hF
    by_cases z : k = 0
    · subst z
      refine ⟨(⟨itC n a j⟩, ((0 : Nat) : Int)), ?_⟩
      refine (whileW_dn (by rfl)).trans ?_
      show _ = W.pure ((⟨thenL F (itC n a (j * 0))⟩ : Tup Int), _)
      rw [Nat.mul_zero, show itC n a 0 = idC n from rfl, then_id hF]
    · have hj := it_chg ha j
      have F' : ∃ G, Chg n G ∧ (bif decide ((k : Int) % 2 = 1) then m_after (⟨F⟩, ⟨itC n a j⟩) else W.pure (⟨F⟩ : Tup Int)) = W.pure ⟨G⟩ ∧ thenL G (itC n a ((j + j) * (k / 2))) = thenL F (itC n a (j * k)) := by
        by_cases o : (k : Int) % 2 = 1
        · refine ⟨_, then_chg hF hj, by rw [decide_eq_true o]; exact m_aft hF hj, ?_⟩
          rw [then_assoc hF hj (it_chg ha _), ← it_add ha]
          congr 2
          have e : k = 2 * (k / 2) + 1 := by omega
          generalize k / 2 = h at e
          subst e
          rw [Nat.add_mul, Nat.mul_add, Nat.mul_one, Nat.mul_left_comm, Nat.two_mul]
          omega
        · refine ⟨F, hF, by rw [decide_eq_false o]; rfl, ?_⟩
          congr 2
          have e : k = 2 * (k / 2) := by omega
          generalize k / 2 = h at e
          subst e
          rw [Nat.add_mul, Nat.mul_left_comm, Nat.two_mul]
      obtain ⟨G, hG, e1, e2⟩ := F'
      obtain ⟨st, e3⟩ := ih (k / 2) (j + j) G (by omega) hG
      refine ⟨st, ?_⟩
      rw [whileW_nx (t' := (⟨G⟩, ⟨itC n a (j + j)⟩, ((k / 2 : Nat) : Int))) (by rw [decide_eq_true (show (0 : Int) < (k : Int) by omega)]) ?_, e3, e2]
      show (modW (k : Int) 2).bind _ = _
      rw [show modW (k : Int) 2 = W.pure ((k : Int) % 2) from need_pure (by decide), bind_pureE, e1, bind_pureE]
      show (m_after (⟨itC n a j⟩, ⟨itC n a j⟩)).bind _ = _
      rw [m_aft hj hj, bind_pureE, it_add ha]
      show (fdivW (k : Int) 2).bind _ = _
      rw [show fdivW (k : Int) 2 = W.pure ((k : Int) / 2) from need_pure ⟨by decide, sz_i (by decide) (by decide) (by decide)⟩, bind_pureE, Int.natCast_ediv]
      rfl
theorem m_rais {n : Nat} {a : List Int} (ha : Chg n a) (hn : n ≤ 5000) (N : Nat) : m_raised (⟨a⟩, (N : Int)) = W.pure ⟨itC n a N⟩ := by
  rw [c_raised]
  show (m_idle (a.length : Int)).bind _ = _
  rw [ha.1, show m_idle (n : Int) = W.pure ⟨idC n⟩ by rw [c_idle, rngC hn]; rfl, bind_pureE]
  obtain ⟨st, e⟩ := raise_loop ha N N 1 (idC n) (Nat.le_refl _) (id_chg n)
  have e1 : itC n a 1 = a := id_then ha
  rw [e1] at e
  show (W.whileW _ _ ((⟨idC n⟩ : Tup Int), (⟨a⟩ : Tup Int), (N : Int))).bind _ = _
  rw [e, bind_pureE, id_then (it_chg ha _), Nat.one_mul]
theorem gcd_loop {c : Int × Int → W Bool} {b : Int × Int → W (Int × Int)} (hc : ∀ x y, c (x, y) = W.pure (!decide (y = 0))) (hb : ∀ x y : Int, 0 < y → b (x, y) = W.pure (y, x % y)) :
    ∀ (n k m : Nat), k ≤ n → W.whileW c b ((m : Int), (k : Int)) = W.pure (((Nat.gcd m k : Nat) : Int), 0) := by
  intro n
  induction n with
  | zero =>
    intro k m hk
    have : k = 0 := by omega
    subst this
    rw [whileW_dn (hc _ _), Nat.gcd_zero_right]
    rfl
  | succ n ih =>
    intro k m hk
    by_cases z : k = 0
    · subst z
      rw [whileW_dn (hc _ _), Nat.gcd_zero_right]
      rfl
    · have k0 : 0 < k := Nat.pos_of_ne_zero z
      have lt := Nat.mod_lt m k0
      rw [whileW_nx (by rw [hc, decide_eq_false (by omega)]; rfl) (hb _ _ (by omega)), show ((m : Int) % (k : Int)) = ((m % k : Nat) : Int) from (Int.natCast_emod m k).symm, ih (m % k) k (by omega)]
      congr 2
      rw [Nat.gcd_comm k, ← Nat.gcd_rec, Nat.gcd_comm]
def gcdI (a b : Int) : Int := ((Nat.gcd a.toNat b.toNat : Nat) : Int)
theorem gcd_loopI {c : Int × Int → W Bool} {b : Int × Int → W (Int × Int)} (hc : ∀ x y, c (x, y) = W.pure (!decide (y = 0))) (hb : ∀ x y : Int, 0 < y → b (x, y) = W.pure (y, x % y)) {x y : Int} (x0 : 0 ≤ x) (y0 : 0 ≤ y) : W.whileW c b (x, y) = W.pure (gcdI x y, 0) := by
  have := gcd_loop hc hb y.toNat y.toNat x.toNat (Nat.le_refl _)
  rwa [show ((x.toNat : Nat) : Int) = x by omega, show ((y.toNat : Nat) : Int) = y by omega] at this
theorem gcdI_nn (a b : Int) : 0 ≤ gcdI a b := by unfold gcdI; omega
theorem dvd_gcdI {a b d : Int} (a0 : 0 ≤ a) (b0 : 0 ≤ b) (d0 : 0 ≤ d) : d ∣ gcdI a b ↔ d ∣ a ∧ d ∣ b := by
  obtain ⟨m, rfl⟩ := Int.eq_ofNat_of_zero_le a0
  obtain ⟨n, rfl⟩ := Int.eq_ofNat_of_zero_le b0
  obtain ⟨k, rfl⟩ := Int.eq_ofNat_of_zero_le d0
  unfold gcdI
  rw [Int.natCast_dvd_natCast, Int.natCast_dvd_natCast, Int.natCast_dvd_natCast]
  exact Nat.dvd_gcd_iff
theorem gcdI_pos {a b : Int} (a0 : 0 ≤ a) (b0 : 0 ≤ b) (h : 0 < a ∨ 0 < b) : 0 < gcdI a b := by
  have n := gcdI_nn a b
  rcases Int.lt_or_eq_of_le n with q | q
  · exact q
  · have := (dvd_gcdI a0 b0 n).mp (Int.dvd_refl _)
    rw [← q] at this
    have z1 := Int.zero_dvd.mp this.1
    have z2 := Int.zero_dvd.mp this.2
    omega
theorem m_gcd {x y : Int} (x0 : 0 ≤ x) (y0 : 0 ≤ y) : m_common_divisor (x, y) = W.pure (gcdI x y) := by
  unfold m_common_divisor
  simp only [b1_pure, b2_pure, bind_pureE]
  rw [gcd_loopI (fun x y => rfl) (fun x y h => by
    have md : modW x y = W.pure (x % y) := need_pure h
    simp only [md, b2_pure, bind_pureE]) x0 y0]
  simp only [bind_pureE]
def gcdL (l : List Int) : Int := l.foldl gcdI 0
theorem gcdL_nn (l : List Int) : 0 ≤ gcdL l := by
  unfold gcdL
  have : ∀ (l : List Int) (a : Int), 0 ≤ a → 0 ≤ l.foldl gcdI a := fun l => by
    induction l with
    | nil => intro a h; exact h
    | cons x l ih => intro a _; exact ih _ (gcdI_nn _ _)
  exact this l 0 (Int.le_refl 0)
theorem dvd_gcdL {l : List Int} (h : ∀ x ∈ l, 0 ≤ x) {d : Int} (d0 : 0 ≤ d) : d ∣ gcdL l ↔ ∀ x ∈ l, d ∣ x := by
  have : ∀ (l : List Int) (a : Int), 0 ≤ a → (∀ x ∈ l, 0 ≤ x) → (d ∣ l.foldl gcdI a ↔ d ∣ a ∧ ∀ x ∈ l, d ∣ x) := fun l => by
    induction l with
    | nil => intro a _ _; simp
    | cons x l ih =>
      intro a a0 hl
      rw [List.foldl_cons, ih _ (gcdI_nn _ _) fun y hy => hl y (List.mem_cons_of_mem _ hy), dvd_gcdI a0 (hl x (List.mem_cons_self ..)) d0]
      simp only [List.mem_cons, forall_eq_or_imp]
      exact and_assoc
  have := this l 0 (Int.le_refl 0) h
  rw [gcdL, this]
  exact ⟨fun z => z.2, fun z => ⟨Int.dvd_zero d, z⟩⟩
theorem gcdL_app (l : List Int) (n : Int) : gcdL (l ++ [n]) = gcdI (gcdL l) n := by unfold gcdL; simp
theorem gcdL_le {l : List Int} (h : ∀ x ∈ l, 0 ≤ x) {x : Int} (hx : x ∈ l) (x0 : 0 < x) : 0 < gcdL l ∧ gcdL l ≤ x := by
  have n := gcdL_nn l
  have d := (dvd_gcdL h n).mp (Int.dvd_refl _) x hx
  have le := Int.le_of_dvd x0 d
  refine ⟨?_, le⟩
  rcases Int.lt_or_eq_of_le n with q | q
  · exact q
  · rw [← q] at d
    have := Int.zero_dvd.mp d
    omega
theorem gcdL_zero {l : List Int} (h : ∀ x ∈ l, x = 0) : gcdL l = 0 := by
  have : ∀ x ∈ l, 0 ≤ x := fun x hx => by rw [h x hx]; exact Int.le_refl 0
  have := (dvd_gcdL this (Int.le_refl 0)).mpr fun x hx => by rw [h x hx]; exact Int.dvd_refl 0
  exact Int.zero_dvd.mp this
theorem gcdL_perm {l m : List Int} (hl : ∀ x ∈ l, 0 ≤ x) (hm : ∀ x ∈ m, 0 ≤ x) (h : ∀ x, x ∈ l ↔ x ∈ m) : gcdL l = gcdL m := by
  have a := gcdL_nn l
  have b := gcdL_nn m
  exact Int.dvd_antisymm a b ((dvd_gcdL hm a).mpr fun x hx => (dvd_gcdL hl a).mp (Int.dvd_refl _) x ((h x).mpr hx)) ((dvd_gcdL hl b).mpr fun x hx => (dvd_gcdL hm b).mp (Int.dvd_refl _) x ((h x).mp hx))
theorem fold_gcd {f : Int → Int → W Int} (hf : ∀ x t, 0 ≤ x → 0 ≤ t → f x t = W.pure (gcdI t x)) : ∀ {l : List Int} {a : Int}, 0 ≤ a → (∀ x ∈ l, 0 ≤ x) → W.forW l f a = W.pure (l.foldl gcdI a)
  | [], a, _, _ => forW_nil
  | x :: l, a, a0, h => by
    rw [forW_cons (hf x a (h x (List.mem_cons_self ..)) a0), fold_gcd hf (gcdI_nn _ _) fun y hy => h y (List.mem_cons_of_mem _ hy)]
    rfl
/-! tails and rings of all states -/
def CycF (n : Nat) (a : List Int) (f : Int → Nat × Nat) : Prop := ∀ s : Int, 0 ≤ s → s < (n : Int) → Cyc a s (f s).1 (f s).2 ∧ (f s).1 + (f s).2 ≤ n
theorem cycF_ex {n : Nat} {a : List Int} (ha : Chg n a) : ∃ f, CycF n a f := by
  have : ∀ s : Int, ∃ p : Nat × Nat, 0 ≤ s → s < (n : Int) → Cyc a s p.1 p.2 ∧ p.1 + p.2 ≤ n := fun s => by
    by_cases q : 0 ≤ s ∧ s < (n : Int)
    · obtain ⟨t, c, h, hb⟩ := cyc_ex ha q.1 q.2
      exact ⟨(t, c), fun _ _ => ⟨h, hb⟩⟩
    · exact ⟨(0, 0), fun x y => absurd ⟨x, y⟩ q⟩
  exact ⟨fun s => Classical.choose (this s), fun s => Classical.choose_spec (this s)⟩
def TL (f : Int → Nat × Nat) (A : List Int) : Nat × Nat := A.foldl (fun p s => (max p.1 (f s).1, Nat.lcm p.2 (f s).2)) (0, 1)
theorem TL_app (f : Int → Nat × Nat) (A : List Int) (s : Int) : TL f (A ++ [s]) = (max (TL f A).1 (f s).1, Nat.lcm (TL f A).2 (f s).2) := by
  unfold TL
  rw [List.foldl_append]
  rfl
theorem snoc_ind {α : Type} {P : List α → Prop} (h0 : P []) (h1 : ∀ A s, P A → P (A ++ [s])) (A : List α) : P A := by
  have : ∀ B : List α, P B.reverse := fun B => by
    induction B with
    | nil => exact h0
    | cons x B ih => rw [List.reverse_cons]; exact h1 _ _ ih
  rw [← List.reverse_reverse A]
  exact this _
theorem TL_le {f : Int → Nat × Nat} {i : Nat} : ∀ A, (TL f A).1 ≤ i ↔ ∀ s ∈ A, (f s).1 ≤ i := by
  refine snoc_ind ?_ fun A s ih => ?_
  · exact ⟨fun _ s hs => (by cases hs), fun _ => Nat.zero_le _⟩
  · rw [TL_app]
    show max _ _ ≤ i ↔ _
    rw [Nat.max_le, ih]
    constructor
    · rintro ⟨h1, h2⟩ x hx
      rcases List.mem_append.mp hx with q | q
      · exact h1 x q
      · rw [List.mem_singleton.mp q]; exact h2
    · exact fun h => ⟨fun x hx => h x (List.mem_append_left _ hx), h s (List.mem_append_right _ (List.mem_singleton.mpr rfl))⟩
theorem TL_dvd {f : Int → Nat × Nat} {m : Nat} : ∀ A, (TL f A).2 ∣ m ↔ ∀ s ∈ A, (f s).2 ∣ m := by
  refine snoc_ind ?_ fun A s ih => ?_
  · exact ⟨fun _ s hs => (by cases hs), fun _ => Nat.one_dvd _⟩
  · rw [TL_app]
    show Nat.lcm _ _ ∣ m ↔ _
    rw [Nat.lcm_dvd_iff, ih]
    constructor
    · rintro ⟨h1, h2⟩ x hx
      rcases List.mem_append.mp hx with q | q
      · exact h1 x q
      · rw [List.mem_singleton.mp q]; exact h2
    · exact fun h => ⟨fun x hx => h x (List.mem_append_left _ hx), h s (List.mem_append_right _ (List.mem_singleton.mpr rfl))⟩
theorem TL_pos {f : Int → Nat × Nat} : ∀ A : List Int, (∀ s ∈ A, 0 < (f s).2) → 0 < (TL f A).2 := by
  refine snoc_ind (fun _ => Nat.one_pos) fun A s ih h => ?_
  rw [TL_app]
  exact Nat.lcm_pos (ih fun x hx => h x (List.mem_append_left _ hx)) (h s (List.mem_append_right _ (List.mem_singleton.mpr rfl)))
theorem TL_big {f : Int → Nat × Nat} : ∀ A : List Int, (∀ s ∈ A, 0 < (f s).2 ∧ (f s).2 ≤ 40) → (TL f A).2 ≤ 40 ^ A.length := by
  refine snoc_ind (fun _ => Nat.le_refl _) fun A s ih h => ?_
  rw [TL_app, List.length_append]
  have i := ih fun x hx => h x (List.mem_append_left _ hx)
  have j := h s (List.mem_append_right _ (List.mem_singleton.mpr rfl))
  have p := TL_pos A fun x hx => (h x (List.mem_append_left _ hx)).1
  have := Nat.le_of_dvd (Nat.mul_pos p j.1) (Nat.lcm_dvd_mul (TL f A).2 (f s).2)
  refine Nat.le_trans this ?_
  rw [show A.length + [s].length = A.length + 1 from rfl, Nat.pow_succ]
  exact Nat.mul_le_mul i j.2
theorem it_iff {n : Nat} {a : List Int} (ha : Chg n a) {f : Int → Nat × Nat} (hf : CycF n a f) {i j : Nat} (hij : i < j) : itC n a i = itC n a j ↔ (TL f (idC n)).1 ≤ i ∧ (TL f (idC n)).2 ∣ j - i := by
  rw [it_eq ha, TL_le, TL_dvd]
  constructor
  · intro h
    exact ⟨fun s hs => let r := mem_id.mp hs; ((hf s r.1 r.2).1.iff hij).mp (h s r.1 r.2) |>.1, fun s hs => let r := mem_id.mp hs; ((hf s r.1 r.2).1.iff hij).mp (h s r.1 r.2) |>.2⟩
  · rintro ⟨h1, h2⟩ s s0 s1
    exact ((hf s s0 s1).1.iff hij).mpr ⟨h1 s (mem_id.mpr ⟨s0, s1⟩), h2 s (mem_id.mpr ⟨s0, s1⟩)⟩
theorem sz_sub {k x y : Nat} (h : Sz k (x : Int)) (l : y ≤ x) : Sz k (y : Int) := by
  unfold Sz at h ⊢
  rw [Int.natAbs_natCast] at h ⊢
  exact Nat.lt_of_le_of_lt l h
theorem big_sz {x : Nat} (h : x ≤ 40 ^ 40) : Sz 400000 (x : Int) := sz_up (n := 300) (by
  unfold Sz
  rw [Int.natAbs_natCast]
  exact Nat.lt_of_le_of_lt h (by decide)) (by decide)
theorem m_cmul {x y : Nat} (x0 : 0 < x) (y0 : 0 < y) (hx : Sz 400000 (x : Int)) (hy : y ≤ 5000) : m_common_multiple ((x : Int), (y : Int)) = W.pure ((Nat.lcm x y : Nat) : Int) := by
  rw [c_common_multiple]
  show (m_common_divisor ((x : Int), (y : Int))).bind _ = _
  rw [m_gcd (by omega) (by omega), bind_pureE]
  have e : gcdI (x : Int) (y : Int) = ((Nat.gcd x y : Nat) : Int) := rfl
  have gp : 0 < Nat.gcd x y := Nat.gcd_pos_of_pos_left _ x0
  have gl : Nat.gcd x y ≤ y := Nat.le_of_dvd y0 (Nat.gcd_dvd_right x y)
  rw [e]
  show (fdivW (x : Int) _).bind _ = _
  rw [show fdivW (x : Int) ((Nat.gcd x y : Nat) : Int) = W.pure ((x : Int) / ((Nat.gcd x y : Nat) : Int)) from need_pure ⟨by omega, sz_i (by omega) (by omega) (by decide)⟩, bind_pureE]
  show mulW ((x : Int) / ((Nat.gcd x y : Nat) : Int)) (y : Int) = _
  rw [← Int.natCast_ediv]
  rw [show mulW ((x / Nat.gcd x y : Nat) : Int) (y : Int) = W.pure (((x / Nat.gcd x y : Nat) : Int) * (y : Int)) from need_pure ⟨?_, sz_i (by omega) (by omega) (by decide)⟩]
  · rw [← Int.natCast_mul, Nat.div_mul_right_comm (Nat.gcd_dvd_left x y)]
    rfl
  · exact sz_sub hx (Nat.div_le_self _ _)
theorem tr_loop {n : Nat} {a : List Int} (ha : Chg n a) (n40 : n ≤ 40) {f : Int → Nat × Nat} (hf : CycF n a f) : m_tail_and_ring ⟨a⟩ = W.pure (((TL f (idC n)).1 : Int), ((TL f (idC n)).2 : Int)) := by
  rw [c_tail_and_ring]
  show (rngW 0 (a.length : Int)).bind _ = _
  rw [ha.1, rngC (by omega), bind_pureE]
  have key := forW_gg (f := fun x_19 (t_18 : Int × Int) => (W.whileW (fun t_21 : List (Int × Int) × Int => W.pure (!(getM (⟨t_21.1⟩ : DI Int).m t_21.2).isSome)) (fun t_21 => (ixW a t_21.2).bind fun v33 => (W.need (t_21.1.length < 16777216) (putM t_21.1 t_21.2 ((⟨t_21.1⟩ : DI Int).m.length : Int), v33)).bind fun v34 => W.pure (v34.1, v34.2)) (([] : List (Int × Int)), x_19)).bind fun v35 => (getW (⟨v35.1⟩ : DI Int).m v35.2).bind fun v36 => (getW (⟨v35.1⟩ : DI Int).m v35.2).bind fun v37 => (m_common_multiple (t_18.2, ((⟨v35.1⟩ : DI Int).m.length : Int) - v37)).bind fun v38 => W.pure (max t_18.1 v36, v38)) (fun A : List Int => (((TL f A).1 : Int), ((TL f A).2 : Int))) (idC n) [] ?_
  · have key : W.forW (idC n) _ ((0 : Int), (1 : Int)) = _ := key
    rw [key, bind_pureE]
    rfl
  · intro A s B hA
    rw [List.nil_append] at hA
    have hm : ∀ x ∈ A, 0 ≤ x ∧ x < (n : Int) := fun x hx => mem_id.mp (by rw [hA]; exact List.mem_append_left _ hx)
    have hs : 0 ≤ s ∧ s < (n : Int) := mem_id.mp (by rw [hA]; simp)
    have hlen : A.length ≤ 40 := by
      have := congrArg List.length hA
      have e := (id_chg n).1
      simp [e] at this
      omega
    obtain ⟨cy, hb⟩ := hf s hs.1 hs.2
    have c0 := cy.c0
    have sl : W.whileW _ _ (([] : List (Int × Int)), s) = _ := seen_dict ha (by omega) hs.1 hs.2 cy hb ((f s).1 + (f s).2) 0 (by omega)
    have gt : getM (dctF (orb a s) ((f s).1 + (f s).2)) (orb a s ((f s).1 + (f s).2)) = some ((f s).1 : Int) := get_some cy.back.symm (fun j hj => by
      rw [cy.back]
      exact cy.ne (by omega) j hj) (by omega)
    have gw : getW (dctF (orb a s) ((f s).1 + (f s).2)) (orb a s ((f s).1 + (f s).2)) = W.pure ((f s).1 : Int) := by
      unfold getW
      rw [gt]
    show (W.whileW _ _ (([] : List (Int × Int)), s)).bind _ = _
    rw [sl, bind_pureE]
    show (getW (dctF (orb a s) ((f s).1 + (f s).2)) _).bind _ = _
    rw [gw, bind_pureE, bind_pureE]
    show (m_common_multiple (((TL f A).2 : Int), ((dctF (orb a s) ((f s).1 + (f s).2)).length : Int) - ((f s).1 : Int))).bind _ = _
    have pos := TL_pos (f := f) A fun x hx => (hf x (hm x hx).1 (hm x hx).2).1.c0
    have big := TL_big (f := f) A fun x hx => by
      have q := hf x (hm x hx).1 (hm x hx).2
      exact ⟨q.1.c0, by omega⟩
    rw [dct_len, show (((f s).1 + (f s).2 : Nat) : Int) - ((f s).1 : Int) = ((f s).2 : Int) by omega, m_cmul pos c0 (big_sz (Nat.le_trans big (Nat.pow_le_pow_right (by decide) hlen))) (by omega), bind_pureE, TL_app]
    have : max ((TL f A).1 : Int) ((f s).1 : Int) = ((max (TL f A).1 (f s).1 : Nat) : Int) := by omega
    rw [this]
theorem add_loop {x c : Nat} (x0 : 0 < x) (c0 : 0 < c) {C : Int → W Bool} (hC : ∀ t : Int, C t = W.pure (!decide (t % (c : Int) = 0))) : ∀ m k : Nat, 1 ≤ k → (k + m) * x = Nat.lcm x c → W.whileW C (fun t => W.pure (t + (x : Int))) ((k * x : Nat) : Int) = W.pure ((Nat.lcm x c : Nat) : Int) := by
  intro m
  induction m with
  | zero =>
    intro k hk e
    rw [Nat.add_zero] at e
    rw [e]
    refine whileW_dn ?_
    rw [hC, decide_eq_true (Int.emod_eq_zero_of_dvd (Int.natCast_dvd_natCast.mpr (Nat.dvd_lcm_right x c)))]
    rfl
  | succ m ih =>
    intro k hk e
    have no : ¬ c ∣ k * x := fun d => by
      have := Nat.le_of_dvd (Nat.mul_pos hk x0) (Nat.lcm_dvd (Nat.dvd_mul_left x k) d)
      rw [← e] at this
      have := Nat.le_of_mul_le_mul_right this x0
      omega
    rw [whileW_nx (c := C) (b := fun t => W.pure (t + (x : Int))) (t := ((k * x : Nat) : Int)) (t' := ((k * x : Nat) : Int) + (x : Int)) (by
      rw [hC, decide_eq_false fun z => no (Int.natCast_dvd_natCast.mp (Int.dvd_of_emod_eq_zero z))]
      rfl) rfl]
    have := ih (k + 1) (by omega) (by rw [← e]; congr 1; omega)
    rwa [show (((k + 1) * x : Nat) : Int) = ((k * x : Nat) : Int) + (x : Int) by rw [Nat.succ_mul]; omega] at this
theorem bs_loop {n : Nat} {a : List Int} (ha : Chg n a) (n40 : n ≤ 40) {f : Int → Nat × Nat} (hf : CycF n a f) : m_law_by_states ⟨a⟩ = W.pure (((TL f (idC n)).1 : Int), ((TL f (idC n)).2 : Int)) := by
  rw [c_law_by_states]
  show (rngW 0 (a.length : Int)).bind _ = _
  rw [ha.1, rngC (by omega), bind_pureE]
  have key := forW_gg (f := fun x_165 (t_164 : Int × Int) => (W.whileW (fun t_167 : List Int × Int => W.pure (!decide (t_167.2 ∈ t_167.1))) (fun t_167 => (W.need (t_167.1.length < 16777216) t_167.2).bind fun v31 => (ixW a t_167.2).bind fun v32 => W.pure ((t_167.1 ++ [v31]), v32)) (([] : List Int), x_165)).bind fun v33 => (indexW v33.1 v33.2).bind fun v34 => (W.whileW (fun t_171 => (indexW v33.1 v33.2).bind fun v35 => (modW t_171 ((v33.1.length : Int) - v35)).bind fun v36 => W.pure (!decide (v36 = (0 : Int)))) (fun t_171 => W.pure (t_171 + t_164.2)) t_164.2).bind fun v37 => W.pure (max t_164.1 v34, v37)) (fun A : List Int => (((TL f A).1 : Int), ((TL f A).2 : Int))) (idC n) [] ?_
  · have key : W.forW (idC n) _ ((0 : Int), (1 : Int)) = _ := key
    rw [key, bind_pureE]
    rfl
  · intro A s B hA
    rw [List.nil_append] at hA
    have hm : ∀ x ∈ A, 0 ≤ x ∧ x < (n : Int) := fun x hx => mem_id.mp (by rw [hA]; exact List.mem_append_left _ hx)
    have hs : 0 ≤ s ∧ s < (n : Int) := mem_id.mp (by rw [hA]; simp)
    obtain ⟨cy, hb⟩ := hf s hs.1 hs.2
    have c0 := cy.c0
    have sl : W.whileW _ _ (([] : List Int), s) = _ := seen_list ha (by omega) hs.1 hs.2 cy hb ((f s).1 + (f s).2) 0 (by omega)
    have ix := m_index (pth_ix cy)
    have pos := TL_pos (f := f) A fun x hx => (hf x (hm x hx).1 (hm x hx).2).1.c0
    show (W.whileW _ _ (([] : List Int), s)).bind _ = _
    rw [sl, bind_pureE]
    show (indexW (pthL a s ((f s).1 + (f s).2)) _).bind _ = _
    rw [ix, bind_pureE]
    obtain ⟨q, hq⟩ := Nat.dvd_lcm_left (TL f A).2 (f s).2
    have q0 : 0 < q := by
      rcases Nat.eq_zero_or_pos q with z | z
      · have := Nat.lcm_pos pos c0
        rw [hq, z] at this
        omega
      · exact z
    have al := add_loop (x := (TL f A).2) (c := (f s).2) pos c0 (C := fun t_171 => (W.pure ((f s).1 : Int)).bind fun v35 => (modW t_171 (((pthL a s ((f s).1 + (f s).2)).length : Int) - v35)).bind fun v36 => W.pure (!decide (v36 = (0 : Int)))) (fun t => by
      rw [bind_pureE, pth_len, show (((f s).1 + (f s).2 : Nat) : Int) - ((f s).1 : Int) = ((f s).2 : Int) by omega, show modW t ((f s).2 : Int) = W.pure (t % ((f s).2 : Int)) from need_pure (by omega)]
      rfl) (q - 1) 1 (Nat.le_refl _) (by rw [hq, show 1 + (q - 1) = q by omega, Nat.mul_comm])
    rw [Nat.one_mul] at al
    show (W.whileW (fun t_171 => (W.pure ((f s).1 : Int)).bind fun v35 => (modW t_171 (((pthL a s ((f s).1 + (f s).2)).length : Int) - v35)).bind fun v36 => W.pure (!decide (v36 = (0 : Int)))) (fun t_171 => W.pure (t_171 + ((TL f A).2 : Int))) ((TL f A).2 : Int)).bind _ = _
    rw [al, bind_pureE, TL_app]
    have : max ((TL f A).1 : Int) ((f s).1 : Int) = ((max (TL f A).1 (f s).1 : Nat) : Int) := by omega
    show W.pure (max ((TL f A).1 : Int) ((f s).1 : Int), _) = _
    rw [this]
/-- the walk through the powers -/
theorem walk_loop {n : Nat} {a : List Int} (ha : Chg n a) {T L : Nat} (L0 : 0 < L) (iff : ∀ i j, i < j → (itC n a i = itC n a j ↔ T ≤ i ∧ L ∣ j - i)) (hb : T + L ≤ 1000000) : ∀ m k, k + m = T + L → W.whileW (fun t_160 : List (List Int × Int) × Tup Int × Int => W.pure (!(getM (⟨t_160.1⟩ : DT Int).m (KeyT.tk t_160.2.1)).isSome)) (fun t_160 => (W.need (t_160.1.length < 16777216) (putM t_160.1 (KeyT.tk t_160.2.1) t_160.2.2)).bind fun v27 => (m_law_then (t_160.2.1, ⟨a⟩)).bind fun v28 => W.pure (v27, v28, t_160.2.2 + (1 : Int))) (dctF (itC n a) k, ⟨itC n a k⟩, (k : Int)) = W.pure (dctF (itC n a) (T + L), ⟨itC n a (T + L)⟩, ((T + L : Nat) : Int)) ∧ getM (dctF (itC n a) (T + L)) (itC n a (T + L)) = some (T : Int) := by
  have ne : ∀ k, k < T + L → ∀ i, i < k → itC n a i ≠ itC n a k := fun k hk i hi e => by
    obtain ⟨h1, h2⟩ := (iff i k hi).mp e
    have := Nat.le_of_dvd (by omega) h2
    omega
  have back : itC n a T = itC n a (T + L) := (iff T (T + L) (by omega)).mpr ⟨Nat.le_refl _, by rw [show T + L - T = L by omega]; exact Nat.dvd_refl _⟩
  have g : getM (dctF (itC n a) (T + L)) (itC n a (T + L)) = some (T : Int) := get_some back (fun j hj => by
    rw [← back]
    exact ne T (by omega) j hj) (by omega)
  intro m
  induction m with
  | zero =>
    intro k hk
    have e : k = T + L := by omega
    subst e
    refine ⟨whileW_dn ?_, g⟩
    show W.pure (!(getM (dctF (itC n a) (T + L)) (itC n a (T + L))).isSome) = _
    rw [g]
    rfl
  | succ m ih =>
    intro k hk
    have g' : getM (dctF (itC n a) k) (itC n a k) = none := get_none (ne k (by omega))
    refine ⟨?_, g⟩
    rw [whileW_nx (t' := (dctF (itC n a) (k + 1), ⟨itC n a (k + 1)⟩, ((k + 1 : Nat) : Int))) ?_ ?_]
    · exact (ih (k + 1) (by omega)).1
    · show W.pure (!(getM (dctF (itC n a) k) (itC n a k)).isSome) = _
      rw [g']
      rfl
    · show (W.need ((dctF (itC n a) k).length < 16777216) (putM (dctF (itC n a) k) (itC n a k) (k : Int))).bind _ = _
      rw [need_pure (by rw [dct_len]; omega), bind_pureE, put_new (ne k (by omega))]
      show (m_law_then (⟨itC n a k⟩, ⟨a⟩)).bind _ = _
      rw [m_then (it_chg ha k) ha, bind_pureE]
      rfl
theorem m_walk {n : Nat} {a : List Int} (ha : Chg n a) (hn : n ≤ 40) {T L : Nat} (L0 : 0 < L) (iff : ∀ i j, i < j → (itC n a i = itC n a j ↔ T ≤ i ∧ L ∣ j - i)) (hb : T + L ≤ 1000000) : m_law_walk ⟨a⟩ = W.pure ((T : Int), (L : Int)) := by
  rw [c_law_walk]
  show (rngW 0 (a.length : Int)).bind _ = _
  rw [ha.1, rngC (by omega), bind_pureE]
  obtain ⟨w, g⟩ := walk_loop ha L0 iff hb (T + L) 0 (by omega)
  have w : W.whileW _ _ (([] : List (List Int × Int)), (⟨idC n⟩ : Tup Int), (0 : Int)) = _ := w
  rw [w, bind_pureE]
  have gw : getW (dctF (itC n a) (T + L)) (itC n a (T + L)) = W.pure (T : Int) := by
    unfold getW
    rw [g]
  show (getW (dctF (itC n a) (T + L)) (itC n a (T + L))).bind _ = _
  rw [gw, bind_pureE]
  show (getW (dctF (itC n a) (T + L)) (itC n a (T + L))).bind _ = _
  rw [gw, bind_pureE]
  show W.pure ((T : Int), ((T + L : Nat) : Int) - (T : Int)) = _
  rw [show ((T + L : Nat) : Int) - (T : Int) = (L : Int) by omega]
/-! least counts -/
def lstN (T L N : Nat) : Nat := if N < T then N else T + (N - T) % L
theorem m_least {T L N : Nat} (L0 : 0 < L) : m_law_least ((T : Int), (L : Int), (N : Int)) = W.pure ((lstN T L N : Nat) : Int) := by
  rw [c_law_least]
  have stop : ∀ k : Nat, k < T + L → W.whileW (fun t_174 : Int => W.pure (decide (((T : Int) + (L : Int)) ≤ t_174))) (fun t_174 => (modW (t_174 - (T : Int)) (L : Int)).bind fun v10 => W.pure ((T : Int) + v10)) (k : Int) = W.pure (k : Int) := fun k hk => whileW_dn (by rw [decide_eq_false (by omega)])
  by_cases q : N < T + L
  · have e : lstN T L N = N := by
      unfold lstN
      split
      · rfl
      · rw [Nat.mod_eq_of_lt (by omega)]; omega
    rw [e]
    exact stop N q
  · have lt := Nat.mod_lt (N - T) L0
    have e : lstN T L N = T + (N - T) % L := if_neg (by omega)
    rw [e]
    show W.whileW (fun t_174 : Int => W.pure (decide (((T : Int) + (L : Int)) ≤ t_174))) (fun t_174 => (modW (t_174 - (T : Int)) (L : Int)).bind fun v10 => W.pure ((T : Int) + v10)) (N : Int) = _
    rw [whileW_nx (t' := ((T + (N - T) % L : Nat) : Int)) (by rw [decide_eq_true (by omega)]) ?_]
    · exact stop _ (by omega)
    · rw [show modW ((N : Int) - (T : Int)) (L : Int) = W.pure (((N - T) % L : Nat) : Int) from by
        rw [show (N : Int) - (T : Int) = ((N - T : Nat) : Int) by omega, Int.natCast_emod]
        exact need_pure (by omega)]
      rfl
theorem lst_iff {n : Nat} {a : List Int} {T L : Nat} (iff : ∀ i j, i < j → (itC n a i = itC n a j ↔ T ≤ i ∧ L ∣ j - i)) (L0 : 0 < L) (i j : Nat) : itC n a i = itC n a j ↔ lstN T L i = lstN T L j := by
  have key : ∀ i j, i < j → (itC n a i = itC n a j ↔ lstN T L i = lstN T L j) := fun i j hij => by
    rw [iff i j hij]
    unfold lstN
    by_cases ti : i < T
    · rw [if_pos ti]
      constructor
      · omega
      · intro e
        split at e <;> omega
    · rw [if_neg ti, if_neg (by omega)]
      have d1 := Nat.mod_add_div (i - T) L
      have d2 := Nat.mod_add_div (j - T) L
      constructor
      · rintro ⟨_, m, hm⟩
        have : j - T = (i - T) + L * m := by omega
        rw [this, Nat.add_mul_mod_self_left]
      · intro e
        refine ⟨by omega, (j - T) / L - (i - T) / L, ?_⟩
        have le : (i - T) / L ≤ (j - T) / L := Nat.div_le_div_right (by omega)
        rw [Nat.mul_sub]
        omega
  rcases Nat.lt_trichotomy i j with q | q | q
  · exact key i j q
  · subst q
    exact ⟨fun _ => rfl, fun _ => rfl⟩
  · exact ⟨fun e => ((key j i q).mp e.symm).symm, fun e => ((key j i q).mpr e.symm).symm⟩
/-! checks -/
def idxD (n : Int) : D → Bool | .int i => decide (0 ≤ i) && decide (i < n) | _ => false
theorem m_idxD {d : D} {n : Int} (h : isObj d = false) : m_is_index (d, n) = W.pure (idxD n d) := by
  rw [c_is_index, m_number h]
  cases d <;> first | rfl | skip
  rename_i i
  show (bif decide (0 ≤ i) then ((castW (α := Int) (D.int i)).bind fun v4 => W.pure (decide (v4 < n))) else W.pure false) = W.pure (decide (0 ≤ i) && decide (i < n))
  rw [cast_int]
  cases decide (0 ≤ i) <;> rfl
theorem chk_tup {l : List D} (ho : ∀ d ∈ l, isObj d = false) : m_checked (.tup l) = if (!l.isEmpty && l.all (idxD l.length)) = true then castW (α := Tup Int) (.tup l) else W.raise "InvalidChange" (.int 0) := by
  rw [c_checked, show m_size_of (.tup l) = W.pure (l.length : Int) by
    rw [c_size_of, show isiW isTup (D.tup l) = W.pure true from isi_pure (x := D.tup l) rfl]
    rfl, bind_pureE, c_checked_change]
  show ((isiW isTup (D.tup l)).bind _).bind _ = _
  rw [show isiW isTup (D.tup l) = W.pure true from isi_pure (x := D.tup l) rfl, bind_pureE]
  show ((W.bind (W.bind (W.pure (l.length : Int)) fun v10 => bif !decide (v10 = (l.length : Int)) then W.pure true else (W.pure (decide ((l.length : Int) = (0 : Int))))) fun v11 => bif v11 then (raiseW "InvalidChange" (W.pure (0 : Int))) else ((seqC D (D.tup l)).bind fun v12 => (W.filterW (fun x_3 => nx (W.pure true)) (fun x_3 => nx (m_is_index (x_3, (l.length : Int)))) v12).bind fun v13 => bif !(v13.all id) then (raiseW "InvalidChange" (W.pure (0 : Int))) else (W.pure (D.tup l)))).bind _) = _
  rw [bind_pureE, decide_eq_true (rfl : (l.length : Int) = (l.length : Int))]
  show ((W.pure (decide ((l.length : Int) = 0))).bind _).bind _ = _
  rw [bind_pureE]
  by_cases z : l = []
  · subst z
    rfl
  · have z1 : ¬ (l.length : Int) = 0 := fun e => z (List.length_eq_zero_iff.mp (by omega))
    rw [decide_eq_false z1]
    show ((seqC D (D.tup l)).bind _).bind _ = _
    rw [seqD_C (.inl rfl), bind_pureE, filt_all (g := idxD l.length) fun d hd => m_idxD (ho d hd), bind_pureE]
    have e : (l.map (idxD l.length)).all id = l.all (idxD l.length) := by rw [List.all_map]; rfl
    have e2 : l.isEmpty = false := by cases l with | nil => exact absurd rfl z | cons => rfl
    rw [e, e2]
    cases l.all (idxD l.length) <;> rfl
theorem chk_ok {n : Nat} {a : List Int} (ha : Chg n a) (n1 : 1 ≤ n) : m_checked (toD (⟨a⟩ : Tup Int)) = W.pure ⟨a⟩ := by
  show m_checked (.tup (a.map toD)) = _
  rw [chk_tup (fun d hd => by obtain ⟨x, _, rfl⟩ := List.mem_map.mp hd; rfl), if_pos]
  · exact cast_ints a
  · rw [Bool.and_eq_true]
    constructor
    · cases a with
      | nil => have := ha.1; simp at this; omega
      | cons => rfl
    · rw [List.all_eq_true]
      intro d hd
      obtain ⟨x, hx, rfl⟩ := List.mem_map.mp hd
      have r := ha.2 x hx
      show (decide (0 ≤ x) && decide (x < ((a.map toD).length : Int))) = true
      rw [List.length_map, ha.1, decide_eq_true r.1, decide_eq_true r.2]
      rfl
/-- what no change is -/
def BadD (d : D) : Prop := isObj d = false ∧ (isTup d = false ∨ ∃ l, d = .tup l ∧ (∀ x ∈ l, isObj x = false) ∧ (!l.isEmpty && l.all (idxD l.length)) = false)
theorem chk_bad {d : D} (h : BadD d) : m_checked d = W.raise "InvalidChange" (.int 0) := by
  obtain ⟨h0, h | ⟨l, rfl, ho, h⟩⟩ := h
  · rw [c_checked, show m_size_of d = W.pure 0 by
      rw [c_size_of, show isiW isTup d = W.pure false from (isi_pure (x := d) h0).trans (congrArg W.pure h)]
      rfl, bind_pureE, c_checked_change]
    show ((isiW isTup d).bind _).bind _ = _
    rw [show isiW isTup d = W.pure false from (isi_pure (x := d) h0).trans (congrArg W.pure h)]
    rfl
  · rw [chk_tup ho, if_neg (by rw [h]; decide)]
theorem bad_in {l : List D} (ho : ∀ x ∈ l, isObj x = false) {x : D} (hx : x ∈ l) (h : idxD l.length x = false) : BadD (.tup l) :=
  ⟨rfl, .inr ⟨l, rfl, ho, by
    rw [Bool.and_eq_false_iff]
    right
    rw [← Bool.not_eq_true, List.all_eq_true]
    intro z
    rw [z x hx] at h
    cases h⟩⟩
theorem ref_bad {m : W D} (h : m = W.raise "InvalidChange" (.int 0)) : nx (m_law_refused m) = W.pure (.int 0) := by
  subst h
  rw [c_law_refused]
  show nx (tryR (W.raise "InvalidChange" (.int 0)) "InvalidChange" _ _) = _
  rw [try_told]
  rfl
theorem pow_bad {d : D} (h : BadD d) (N : Int) : m_power (d, N) = W.raise "InvalidChange" (.int 0) := by
  rw [c_power]
  show (m_checked d).bind _ = _
  rw [chk_bad h]
  rfl
theorem tail_bad {d : D} (h : BadD d) : m_tail d = W.raise "InvalidChange" (.int 0) := by
  rw [c_tail, chk_bad h]
  rfl
theorem ring_bad {d : D} (h : BadD d) : m_ring d = W.raise "InvalidChange" (.int 0) := by
  rw [c_ring, chk_bad h]
  rfl
theorem lc_bad {d : D} (h : BadD d) (N : Int) : m_least_count (d, N) = W.raise "InvalidChange" (.int 0) := by
  rw [c_least_count]
  show (m_checked d).bind _ = _
  rw [chk_bad h]
  rfl
/-! the program's answers -/
theorem pow_ok {n : Nat} {a : List Int} (ha : Chg n a) (n1 : 1 ≤ n) (n2 : n ≤ 40) (N : Nat) : m_power (toD (⟨a⟩ : Tup Int), (N : Int)) = W.pure ⟨itC n a N⟩ := by
  rw [c_power]
  show (m_checked (toD (⟨a⟩ : Tup Int))).bind _ = _
  rw [chk_ok ha n1, bind_pureE]
  exact m_rais ha (by omega) N
theorem tail_ok {n : Nat} {a : List Int} (ha : Chg n a) (n1 : 1 ≤ n) (n2 : n ≤ 40) {f : Int → Nat × Nat} (hf : CycF n a f) : m_tail (toD (⟨a⟩ : Tup Int)) = W.pure ((TL f (idC n)).1 : Int) := by
  rw [c_tail, chk_ok ha n1, bind_pureE, tr_loop ha n2 hf]
  rfl
theorem ring_ok {n : Nat} {a : List Int} (ha : Chg n a) (n1 : 1 ≤ n) (n2 : n ≤ 40) {f : Int → Nat × Nat} (hf : CycF n a f) : m_ring (toD (⟨a⟩ : Tup Int)) = W.pure ((TL f (idC n)).2 : Int) := by
  rw [c_ring, chk_ok ha n1, bind_pureE, tr_loop ha n2 hf]
  rfl
theorem lc_ok {n : Nat} {a : List Int} (ha : Chg n a) (n1 : 1 ≤ n) (n2 : n ≤ 40) {f : Int → Nat × Nat} (hf : CycF n a f) (L0 : 0 < (TL f (idC n)).2) (N : Nat) : m_least_count (toD (⟨a⟩ : Tup Int), (N : Int)) = W.pure ((lstN (TL f (idC n)).1 (TL f (idC n)).2 N : Nat) : Int) := by
  rw [c_least_count]
  show (m_checked (toD (⟨a⟩ : Tup Int))).bind _ = _
  rw [chk_ok ha n1, bind_pureE, tr_loop ha n2 hf, bind_pureE]
  generalize (TL f (idC n)).1 = T at *
  generalize (TL f (idC n)).2 = L at *
  show (bif decide ((N : Int) < (T : Int)) then W.pure (N : Int) else (modW ((N : Int) - (T : Int)) (L : Int)).bind fun v9 => W.pure ((T : Int) + v9)) = _
  unfold lstN
  by_cases q : N < T
  · rw [if_pos q, decide_eq_true (by omega)]
    rfl
  · rw [if_neg q, decide_eq_false (by omega), show modW ((N : Int) - (T : Int)) (L : Int) = W.pure (((N - T) % L : Nat) : Int) from by
      rw [show (N : Int) - (T : Int) = ((N - T : Nat) : Int) by omega, Int.natCast_emod]
      exact need_pure (by omega)]
    rfl
/-! sets built by firsts: numbers 0, f, f + g, .. and from there on by the end -/
def inS : List Int → Int → Int → Prop
  | [], e, n => ∃ k : Nat, n = e * k
  | f :: fs, e, n => n = 0 ∨ inS fs e (n - f)
def SCl (T : Int → Prop) : Prop := T 0 ∧ (∀ n, T n → 0 ≤ n) ∧ ∀ x y z, T x → T y → T z → z ≤ x → z ≤ y → T (x + y - z)
theorem SCl.cls {T S : Int → Prop} (h : SCl T) (hm : ∀ x, S x → T x) {n : Int} (c : Cls S n) : T n := c.le h.1 (fun x y z a b c _ i j => h.2.2 x y z a b c i j) fun x a _ => hm x a
theorem scl_base {e : Int} (he : 0 < e) : SCl (inS [] e) := by
  refine ⟨⟨0, by simp⟩, ?_, ?_⟩
  · rintro n ⟨k, rfl⟩
    exact Int.mul_nonneg (by omega) (by omega)
  · rintro x y z ⟨a, rfl⟩ ⟨b, rfl⟩ ⟨c, rfl⟩ h1 h2
    have ca : c ≤ a := by
      have := Int.le_of_mul_le_mul_left h1 he
      omega
    refine ⟨a + b - c, ?_⟩
    rw [show ((a + b - c : Nat) : Int) = (a : Int) + b - c by omega, Int.mul_sub, Int.mul_add]
theorem scl_cons {f e : Int} {fs : List Int} (h : SCl (inS fs e)) (hf : inS fs e f) (f0 : 0 < f) : SCl (inS (f :: fs) e) := by
  obtain ⟨h0, hn, hs⟩ := h
  refine ⟨.inl rfl, ?_, ?_⟩
  · rintro n (rfl | q)
    · decide
    · have := hn _ q
      omega
  · rintro x y z hx hy hz h1 h2
    rcases hz with rfl | hz
    · rcases hx with rfl | hx
      · rw [show (0 : Int) + y - 0 = y by omega]; exact hy
      rcases hy with rfl | hy
      · rw [show x + (0 : Int) - 0 = x by omega]; exact .inr hx
      refine .inr ?_
      have a := hs _ _ _ hx hy h0 (hn _ hx) (hn _ hy)
      have b := hs _ _ _ a hf h0 (hn _ a) (by omega)
      rw [show x + y - 0 - f = x - f + (y - f) - 0 + f - 0 by omega]
      exact b
    · have z0 := hn _ hz
      rcases hx with rfl | hx
      · omega
      rcases hy with rfl | hy
      · omega
      refine .inr ?_
      rw [show x + y - z - f = (x - f) + (y - f) - (z - f) by omega]
      exact hs _ _ _ hx hy hz (by omega) (by omega)
theorem inS_end {e : Int} : ∀ {fs : List Int} {n : Int}, inS (fs ++ [e]) e n ↔ inS fs e n
  | [], n => by
    show (n = 0 ∨ ∃ k : Nat, n - e = e * k) ↔ ∃ k : Nat, n = e * k
    constructor
    · rintro (rfl | ⟨k, h⟩)
      · exact ⟨0, by simp⟩
      · refine ⟨k + 1, ?_⟩
        rw [Int.natCast_add, Int.mul_add]
        simp
        omega
    · rintro ⟨k, h⟩
      cases k with
      | zero => exact .inl (by simpa using h)
      | succ k =>
        refine .inr ⟨k, ?_⟩
        rw [Int.natCast_add, Int.mul_add] at h
        simp at h
        omega
  | f :: fs, n => or_congr Iff.rfl (inS_end (fs := fs))
def preS : Int → List Int → List Int
  | _, [] => []
  | a, f :: fs => a :: preS (a + f) fs
theorem preS_len : ∀ (a : Int) (fs : List Int), (preS a fs).length = fs.length
  | _, [] => rfl
  | a, f :: fs => by simp [preS, preS_len]
theorem preS_in {e : Int} : ∀ (fs : List Int) (a n : Int), (n ∈ preS a fs ∨ ∃ k : Nat, n = a + fs.sum + e * k) ↔ inS fs e (n - a)
  | [], a, n => by
    simp only [preS, List.not_mem_nil, false_or, List.sum_nil, Int.add_zero]
    exact exists_congr fun k => by omega
  | f :: fs, a, n => by
    have ih := preS_in (e := e) fs (a + f) n
    simp only [preS, List.mem_cons, List.sum_cons]
    show _ ↔ n - a = 0 ∨ inS fs e (n - a - f)
    rw [show n - a - f = n - (a + f) by omega, ← ih, show a + (f + fs.sum) = a + f + fs.sum by omega, or_assoc]
    refine or_congr (by omega) Iff.rfl
theorem m_members {l : List Int} {e most : Int} (he : 0 < e) (hl : l.length ≤ 1000) (hm : most ≤ 1000) (h0 : ∀ x ∈ l, 0 ≤ x) : ∃ L, m_law_members (l, e, most) = W.pure L ∧ L.length ≤ l.length + (most + 1).toNat ∧ ∀ n, n ∈ L ↔ inS l e n ∧ n ≤ most := by
  have k1 : ∀ (l F : List Int) (a : Int), F.length + l.length ≤ 1000 → W.forW l (fun (x : Int) (t : List Int × Int) => (W.need (t.1.length < 16777216) t.2).bind fun a => W.pure (t.1 ++ [a], t.2 + x)) (F, a) = W.pure (F ++ preS a l, a + l.sum) := by
    intro l
    induction l with
    | nil => intro F a _; simp [forW_nil, preS]
    | cons x l ih =>
      intro F a h
      simp only [List.length_cons] at h
      have n1 : W.need (F.length < 16777216) a = W.pure a := need_pure (by omega)
      rw [forW_cons (t' := (F ++ [a], a + x)) (by simp only [n1, bind_pureE]), ih _ _ (by simp; omega)]
      simp only [preS, List.sum_cons, List.append_assoc, List.singleton_append]
      rw [Int.add_assoc]
  have k2 : ∀ (m : Nat) (F : List Int) (a : Int), 0 ≤ a → (most + 1 - a).toNat ≤ m → F.length + m ≤ 3000 → ∃ G a', W.whileW (fun t : List Int × Int => W.pure (decide (t.2 ≤ most))) (fun t => (W.need (t.1.length < 16777216) t.2).bind fun b => W.pure (t.1 ++ [b], t.2 + e)) (F, a) = W.pure (F ++ G, a') ∧ G.length ≤ m ∧ ∀ n, n ∈ G ↔ (∃ k : Nat, n = a + e * k) ∧ n ≤ most := by
    intro m
    induction m with
    | zero =>
      intro F a a0 h hF
      have lt : ¬ a ≤ most := by omega
      refine ⟨[], a, ?_, by simp, fun n => ⟨fun h => (by cases h), fun ⟨⟨k, hk⟩, hn⟩ => ?_⟩⟩
      · rw [whileW_dn (by simp [lt])]
        simp
      · have := Int.mul_nonneg (show 0 ≤ e by omega) (show (0 : Int) ≤ k by omega)
        omega
    | succ m ih =>
      intro F a a0 h hF
      by_cases q : a ≤ most
      · obtain ⟨G, a', g1, g2, g3⟩ := ih (F ++ [a]) (a + e) (by omega) (by omega) (by simp; omega)
        refine ⟨a :: G, a', ?_, by simp; omega, fun n => ?_⟩
        · have n1 : W.need (F.length < 16777216) a = W.pure a := need_pure (by omega)
          rw [whileW_nx (t' := (F ++ [a], a + e)) (by simp [q]) (by simp only [n1, bind_pureE]), g1]
          simp
        · rw [List.mem_cons, g3]
          constructor
          · rintro (rfl | ⟨⟨k, hk⟩, hn⟩)
            · exact ⟨⟨0, by simp⟩, q⟩
            · refine ⟨⟨k + 1, ?_⟩, hn⟩
              rw [Int.natCast_add, Int.mul_add]
              simp
              omega
          · rintro ⟨⟨k, hk⟩, hn⟩
            cases k with
            | zero => exact .inl (by simpa using hk)
            | succ k =>
              refine .inr ⟨⟨k, ?_⟩, hn⟩
              rw [Int.natCast_add, Int.mul_add] at hk
              simp at hk
              omega
      · refine ⟨[], a, ?_, by simp, fun n => ⟨fun h => (by cases h), fun ⟨⟨k, hk⟩, hn⟩ => ?_⟩⟩
        · rw [whileW_dn (by simp [q])]
          simp
        · have := Int.mul_nonneg (show 0 ≤ e by omega) (show (0 : Int) ≤ k by omega)
          omega
  have s0 : 0 ≤ l.sum := by
    have : ∀ l : List Int, (∀ x ∈ l, 0 ≤ x) → 0 ≤ l.sum := fun l => by
      induction l with
      | nil => intro _; simp
      | cons x l ih =>
        intro h
        have := h x (List.mem_cons_self ..)
        have := ih fun y hy => h y (List.mem_cons_of_mem _ hy)
        simp only [List.sum_cons]
        omega
    exact this l h0
  obtain ⟨G, a', g1, g2, g3⟩ := k2 (most + 1).toNat (preS 0 l) (0 + l.sum) (by omega) (by omega) (by rw [preS_len]; omega)
  refine ⟨(preS 0 l ++ G).filter fun x => decide (x ≤ most), ?_, ?_, fun n => ?_⟩
  · unfold m_law_members
    simp only [b1_pure, b2_pure, bind_pureE]
    rw [show W.forW l _ _ = _ from k1 l [] 0 (by simpa using hl)]
    simp only [bind_pureE, List.nil_append]
    rw [show W.whileW _ _ _ = _ from g1]
    simp only [bind_pureE]
    exact filt_id fun x _ => rfl
  · refine Nat.le_trans (List.length_filter_le ..) ?_
    rw [List.length_append, preS_len]
    omega
  · rw [List.mem_filter, List.mem_append, g3, decide_eq_true_eq]
    have := preS_in (e := e) l 0 n
    rw [Int.sub_zero] at this
    rw [← this]
    constructor
    · rintro ⟨p | ⟨p, _⟩, q⟩
      · exact ⟨.inl p, q⟩
      · exact ⟨.inr p, q⟩
    · rintro ⟨p | p, q⟩
      · exact ⟨.inl p, q⟩
      · exact ⟨.inr ⟨p, q⟩, q⟩
/-! firsts drawn: each is a number of the set of those behind it -/
def Fst (e M : Int) (t : List Int) : Prop := (∀ f ∈ t, 0 < f) ∧ t.sum ≤ M ∧ SCl (inS t e)
theorem Fst.len {e M : Int} {t : List Int} (h : Fst e M t) : (t.length : Int) ≤ M := by
  have : ∀ t : List Int, (∀ f ∈ t, 0 < f) → (t.length : Int) ≤ t.sum := fun t => by
    induction t with
    | nil => intro _; simp
    | cons x l ih =>
      intro h
      have := h x (List.mem_cons_self ..)
      have := ih fun y hy => h y (List.mem_cons_of_mem _ hy)
      simp only [List.sum_cons, List.length_cons]
      omega
  have := this t h.1
  have := h.2.1
  omega
theorem Fst.nn {e M : Int} {t : List Int} (h : Fst e M t) : ∀ f ∈ t, 0 ≤ f := fun f hf => Int.le_of_lt (h.1 f hf)
theorem neq_ints (l l' : List Int) : ∃ b, neWD l l' = W.pure b := ⟨_, need_pure ⟨eqOk_ints l, eqOk_ints l'⟩⟩
theorem falling_wp {M : Int} (M0 : 0 ≤ M) (hM : M ≤ 900) {Q : (Tup Int) × Int → Prop} {E} (hQ : ∀ t e, 0 < e → e ≤ 4 → Fst e M t → Q (⟨t⟩, e)) : (m_law_falling M).wp Q E := by
  unfold m_law_falling
  simp only [b1_pure, b2_pure, b3_pure, bind_pureE]
  refine bind_mono (fun p : Int × List Int => (0 < p.1 ∧ p.1 ≤ 4) ∧ p.2 = []) ⟨⟨by simp, by simp⟩, fun e he => ⟨?_, rfl⟩⟩ fun p hp => ?_
  · simp only [List.mem_cons, List.not_mem_nil, or_false] at he
    show 0 < e ∧ e ≤ 4
    omega
  obtain ⟨e, t0⟩ := p
  obtain ⟨⟨e0, e4⟩, ht⟩ := hp
  have e0 : 0 < e := e0
  have e4 : e ≤ 4 := e4
  have ht : t0 = [] := ht
  subst ht
  refine bind_mono (Fst e M) ?_ fun t ht => ?_
  · simp only [bindE, b1E]
    refine ⟨⟨by decide, sz_i (by decide) (by decide) (by decide)⟩, fun r r0 r1 => ?_⟩
    show (rngW 0 r).wp _ E
    rw [rngE _ (by omega) (by omega), pureE]
    refine forW_inv (Fst e M) ⟨fun f hf => (by cases hf), M0, scl_base e0⟩ (fun x _ t ht => ?_) fun t h => h
    have hl := ht.len
    obtain ⟨L, m1, m2, m3⟩ := m_members (l := t) (most := M - t.sum) e0 (by omega) (by
      have : 0 ≤ t.sum := by
        have : ∀ l : List Int, (∀ x ∈ l, 0 ≤ x) → 0 ≤ l.sum := fun l => by
          induction l with
          | nil => intro _; simp
          | cons x l ih =>
            intro h
            have := h x (List.mem_cons_self ..)
            have := ih fun y hy => h y (List.mem_cons_of_mem _ hy)
            simp only [List.sum_cons]
            omega
        exact this t ht.nn
      omega) ht.nn
    have fl : W.filterW (fun x : Int => nx (W.pure (decide (0 < x)))) (fun x => nx (W.pure x)) L = W.pure (L.filter fun x => decide (0 < x)) := filt_id fun x _ => rfl
    simp only [m1, bind_pureE, fl, ne_ints]
    obtain ⟨b, hb⟩ := neq_ints (L.filter fun x => decide (0 < x)) [e]
    simp only [hb, or_pure, and_pure]
    refine bind_mono (Fst e M) ?_ fun t h => h
    have key : ∀ c : Bool, (c = true → (L.filter fun x => decide (0 < x)) ≠ []) → (W.ite (W.pure c) ((W.b2 (W.b1 (ofW (cut (L.filter fun x => decide (0 < x)) none (some 6))) fun x => W.pure [x]) (W.pure t) catW).bind fun f => W.pure f) (W.pure t)).wp (Fst e M) E := fun c hc => by
      rw [iteE]
      split
      · rename_i h
        have ne := hc h
        have hx : ∀ x ∈ cut (L.filter fun x => decide (0 < x)) none (some 6), 0 < x ∧ inS t e x ∧ x ≤ M - t.sum := fun x hx => by
          have := List.mem_filter.mp (mem_cut hx)
          have q := (m3 x).mp this.1
          exact ⟨of_decide_eq_true this.2, q⟩
        have c6 : cut (L.filter fun x => decide (0 < x)) none (some 6) = (L.filter fun x => decide (0 < x)).take 6 := cut_take _ 6
        have cl : (cut (L.filter fun x => decide (0 < x)) none (some 6)).length ≤ 1000 := by
          rw [c6, List.length_take]
          omega
        have cn : cut (L.filter fun x => decide (0 < x)) none (some 6) ≠ [] := by
          rw [c6]
          cases q : (L.filter fun x => decide (0 < x)) with
          | nil => exact absurd q ne
          | cons a b => simp
        simp only [bindE, b2E, b1E, pureE]
        refine ⟨⟨cn, cl⟩, fun f hf => ?_⟩
        obtain ⟨f0, fi, fm⟩ := hx f hf
        rw [show catW [f] t = W.pure ([f] ++ t) from need_pure (by simp; omega)]
        refine ⟨fun x m => ?_, ?_, scl_cons ht.2.2 fi f0⟩
        · rcases List.mem_cons.mp m with q | q
          · rw [q]; exact f0
          · exact ht.1 x q
        · show (f :: t).sum ≤ M
          simp only [List.sum_cons]
          omega
      · exact ht
    have ce : ∀ a d : Bool, (bif a then (bif d then W.pure true else W.pure b) else W.pure false) = W.pure (a && (d || b)) := fun a d => by cases a <;> cases d <;> rfl
    rw [ce]
    refine key _ fun h z => ?_
    rw [z] at h
    cases h
  · have key : ∀ (n : Nat) (t : List Int), t.length = n → Fst e M t → ∃ t', W.whileW (fun t : List Int => W.and (neWD t ([] : List Int)) (W.b2 (ixW t (-1)) (W.pure e) fun x y => W.pure (decide (x = y)))) (fun t => (((popL t).bind fun a => W.pure a.2).bind fun z => W.pure z)) t = W.pure t' ∧ Fst e M t' := by
      intro n
      induction n with
      | zero =>
        intro t hn h
        have : t = [] := List.length_eq_zero_iff.mp hn
        subst this
        exact ⟨[], whileW_dn (by rw [ne_ints]; rfl), h⟩
      | succ n ih =>
        intro t hn h
        have hne : t ≠ [] := fun z => by rw [z] at hn; cases hn
        obtain ⟨l, z, rfl⟩ : ∃ l z, t = l ++ [z] := ⟨t.dropLast, t.getLast hne, (List.dropLast_concat_getLast hne).symm⟩
        have ce : W.and (neWD (l ++ [z]) ([] : List Int)) (W.b2 (ixW (l ++ [z]) (-1)) (W.pure e) fun x y => W.pure (decide (x = y))) = W.pure (decide (z = e)) := by
          rw [ne_ints, ix_last]
          simp only [b2_pure]
          have : (l ++ [z]).isEmpty = false := by simp
          rw [this]
          rfl
        by_cases q : z = e
        · subst q
          have pp : popL (l ++ [z]) = W.pure (z, l) := by
            unfold popL
            rw [dif_pos (by simp)]
            simp
          have F : Fst z M l := by
            refine ⟨fun f hf => h.1 f (List.mem_append_left _ hf), ?_, ?_⟩
            · have := h.2.1
              simp at this
              omega
            · have := h.2.2
              have e1 : inS (l ++ [z]) z = inS l z := funext fun n => propext inS_end
              rw [e1] at this
              exact this
          obtain ⟨t', a, b⟩ := ih l (by simp at hn; exact hn) F
          refine ⟨t', ?_, b⟩
          rw [whileW_nx (t' := l) (by rw [ce]; simp) (by simp only [pp, bind_pureE])]
          exact a
        · exact ⟨l ++ [z], whileW_dn (by rw [ce]; simp [q]), h⟩
    obtain ⟨t', a, b⟩ := key t.length t rfl ht
    have a' : W.whileW (fun t : List Int => W.and (neWD t ([] : List Int)) (W.b2 (ixW t (-1)) (W.pure e) fun x y => W.pure (decide (x = y)))) (fun t => (((popL t).bind fun a => W.pure a.2).bind fun z => W.pure z)) t = _ := a
    rw [show W.whileW _ _ t = _ from a']
    simp only [bind_pureE, b1_pure, b2_pure]
    exact hQ t' e e0 e4 b
theorem mixed_wp {l : List Int} {Q : List Int → Prop} {E} (hl : l.length ≤ 1000) (hQ : ∀ y : List Int, y.length = l.length → (∀ x ∈ y, x ∈ l) → Q y) : (m_law_mixed l).wp Q E := by
  unfold m_law_mixed
  simp only [b1_pure, b2_pure, bind_pureE, W.bind_pure]
  refine bind_mono (fun t => t.1.length = l.length ∧ ∀ x ∈ t.1, x ∈ l) ?_ fun t h => hQ _ h.1 h.2
  refine W.whileW_by (fun t => t.1.length + t.2.length = l.length ∧ (∀ x ∈ t.1, x ∈ l) ∧ ∀ x ∈ t.2, x ∈ l) (fun t => t.2.length) _ ⟨by simp, fun x hx => by (cases hx), fun x hx => hx⟩ fun t I => ?_
  obtain ⟨A, L⟩ := t
  obtain ⟨i1, i2, i3⟩ := I
  have i1 : A.length + L.length = l.length := i1
  simp only [ne_ints]
  cases L with
  | nil =>
    refine ⟨?_, i2⟩
    simp at i1
    exact i1
  | cons a L =>
    show ((((m_law_any ((a :: L).length : Int)).bind fun j => popW (a :: L) j).bind fun z => W.need (A.length < 16777216) z).bind fun z => W.pure (A ++ [z.1], z.2)).wp _ _
    have hl2 : (a :: L).length ≤ 1000 := by omega
    refine bind_mono (fun p : Int × List Int => p.1 ∈ l ∧ (∀ x ∈ p.2, x ∈ l) ∧ p.2.length + 1 = (a :: L).length) ?_ fun p hp => ?_
    · refine bind_mono (fun p : Int × List Int => p.1 ∈ l ∧ (∀ x ∈ p.2, x ∈ l) ∧ p.2.length + 1 = (a :: L).length) ?_ fun p hp => ⟨by omega, hp⟩
      refine bind_mono (fun j : Int => 0 ≤ j ∧ j < (a :: L).length) ⟨⟨by simp, sz_i (by omega) (by omega) (by decide)⟩, fun r a b => ⟨a, b⟩⟩ fun j hj => ?_
      have e : popW (a :: L) j = W.pure ((a :: L)[j.toNat]'(by omega), (a :: L).eraseIdx j.toNat) := by
        unfold popW
        rw [dif_pos ⟨hj.1, by omega, by omega⟩]
      rw [e]
      refine ⟨i3 _ (List.getElem_mem _), fun x hx => i3 x (List.mem_of_mem_eraseIdx hx), ?_⟩
      show ((a :: L).eraseIdx j.toNat).length + 1 = _
      rw [List.length_eraseIdx_of_lt (by omega)]
      simp
    · obtain ⟨p1, p2, p3⟩ := hp
      refine ⟨⟨?_, fun x hx => ?_, p2⟩, ?_⟩
      · show (A ++ [p.1]).length + p.2.length = _
        rw [List.length_append, List.length_singleton]
        omega
      · rcases List.mem_append.mp hx with q | q
        · exact i2 x q
        · rw [List.mem_singleton.mp q]
          exact p1
      · show p.2.length < (a :: L).length
        omega
def plc (many s q r side : Int) : Int := if r = 0 then q else 2 * many + 2 * (q * (s - 1) + r - 1) + side
theorem m_place {many s q r side : Int} (m0 : 0 ≤ many) (m1 : many ≤ 5000) (s0 : 1 ≤ s) (s1 : s ≤ 5000) (q0 : 0 ≤ q) (q1 : q ≤ 5000) (r0 : 0 ≤ r) (r1 : r ≤ 5000) : m_law_place (many, s, q, r, side) = W.pure (plc many s q r side) := by
  have k0 := Int.mul_nonneg q0 (show 0 ≤ s - 1 by omega)
  have k1 := Int.mul_le_mul q1 (show s - 1 ≤ 5000 by omega) (by omega) (by decide)
  unfold m_law_place plc
  simp only [b2_pure]
  rw [mulE (sz_i (by decide) (by decide) (by decide)) (sz_i m0 (by omega) (by decide)), mulE (sz_i q0 (by omega) (by decide)) (sz_i (by omega) (by omega) (by decide))]
  simp only [b2_pure]
  by_cases h : r = 0
  · rw [if_pos h, decide_eq_true h]
    rfl
  · rw [if_neg h, decide_eq_false h, mulE (sz_i (by decide) (by decide) (by decide)) (sz_i (by omega) (by omega) (by decide))]
    rfl
theorem plc_rg {many s q r side : Int} (s0 : 1 ≤ s) (q0 : 0 ≤ q) (q1 : q < many) (r0 : 0 ≤ r) (r1 : r ≤ s - 1) (sd0 : 0 ≤ side) (sd1 : side ≤ 1) : 0 ≤ plc many s q r side ∧ plc many s q r side < 2 * (many * s) := by
  have k0 := Int.mul_nonneg q0 (show 0 ≤ s - 1 by omega)
  have k1 := Int.mul_le_mul_of_nonneg_right (show q ≤ many - 1 by omega) (show 0 ≤ s - 1 by omega)
  have e1 : (many - 1) * (s - 1) = many * s - many - s + 1 := by
    rw [Int.sub_mul, Int.mul_sub, Int.mul_one, Int.one_mul]
    omega
  have k2 := Int.mul_le_mul_of_nonneg_left s0 (show 0 ≤ many by omega)
  rw [Int.mul_one] at k2
  unfold plc
  split <;> omega
def szP : Nat → List Int → Nat
  | n, [] => n
  | n, f :: fs => szP (n * (2 * f.toNat)) fs
theorem szP_app : ∀ (A B : List Int) (n : Nat), szP n (A ++ B) = szP (szP n A) B
  | [], B, n => rfl
  | f :: A, B, n => szP_app A B _
theorem szP_le : ∀ (A : List Int) (n : Nat), (∀ f ∈ A, 1 ≤ f) → n ≤ szP n A
  | [], n, _ => Nat.le_refl _
  | f :: A, n, h => by
    have h1 := h f (List.mem_cons_self ..)
    have := szP_le A (n * (2 * f.toNat)) fun g hg => h g (List.mem_cons_of_mem _ hg)
    have : n * 1 ≤ n * (2 * f.toNat) := Nat.mul_le_mul_left n (by omega)
    show n ≤ szP (n * (2 * f.toNat)) A
    omega
theorem szP_mul : ∀ (A : List Int) (n : Nat), szP n A = n * szP 1 A
  | [], n => by show n = n * 1; omega
  | f :: A, n => by
    show szP (n * (2 * f.toNat)) A = n * szP (1 * (2 * f.toNat)) A
    rw [szP_mul A (n * (2 * f.toNat)), szP_mul A (1 * (2 * f.toNat)), Nat.one_mul, Nat.mul_assoc]
theorem szP_rev (A : List Int) (n : Nat) : szP n A.reverse = szP n A := by
  induction A generalizing n with
  | nil => rfl
  | cons f A ih =>
    rw [List.reverse_cons, szP_app, ih]
    show szP n A * (2 * f.toNat) = szP (n * (2 * f.toNat)) A
    rw [szP_mul A n, szP_mul A (n * (2 * f.toNat)), Nat.mul_assoc, Nat.mul_assoc, Nat.mul_comm (szP 1 A)]
theorem two_wp {fs : List Int} {e : Int} (e0 : 1 ≤ e) (hf : ∀ f ∈ fs, 1 ≤ f) (hs : szP e.toNat fs ≤ 1000) {Q : List (Tup Int) → Prop} {E} (hQ : ∀ n a b, 1 ≤ n → n = szP e.toNat fs → Chg n a → Chg n b → Q [⟨a⟩, ⟨b⟩]) : (m_law_two (⟨fs⟩, e)).wp Q E := by
  have el : e.toNat ≤ szP e.toNat fs := szP_le fs _ hf
  unfold m_law_two
  simp only [b1_pure, b2_pure, bind_pureE]
  rw [rngE e (by omega) (by omega)]
  simp only [bind_pureE]
  rw [filt_all (f := fun i => modW (i + 1) e) (g := fun i => (i + 1) % e) fun i _ => need_pure (show 0 < e by omega)]
  simp only [b2_pure, bind_pureE]
  refine bind_mono (fun t : List Int × List Int => ∃ n, 1 ≤ n ∧ n = szP e.toNat fs.reverse ∧ Chg n t.1 ∧ Chg n t.2) ?_ fun t ht => ?_
  rotate_left
  · obtain ⟨n, n1, hn, ca, cb⟩ := ht
    rw [szP_rev] at hn
    exact hQ n t.1 t.2 n1 hn ca cb
  refine forW_pre (fun (A : List Int) (t : List Int × List Int) => ∃ n, 1 ≤ n ∧ n = szP e.toNat A ∧ Chg n t.1 ∧ Chg n t.2) fs.reverse [] _ ⟨e.toNat, by omega, rfl, id_chg _, by simp, fun x hx => ?_⟩ (fun A s B t hA I => ?_) fun t I => I
  · obtain ⟨i, _, rfl⟩ := List.mem_map.mp hx
    have := Int.emod_nonneg (i + 1) (show e ≠ 0 by omega)
    have := Int.emod_lt_of_pos (i + 1) (show 0 < e by omega)
    omega
  obtain ⟨n, n1, hn, ca, cb⟩ := I
  rw [List.nil_append] at hA
  have sf : s ∈ fs := by
    rw [← List.mem_reverse, hA]
    simp
  have s1 := hf s sf
  have hB : ∀ f ∈ B, 1 ≤ f := fun f h => hf f (by
    rw [← List.mem_reverse, hA]
    simp [h])
  have step : szP e.toNat (A ++ [s]) = n * (2 * s.toNat) := by
    rw [szP_app, ← hn]
    rfl
  have tot : n * (2 * s.toNat) ≤ 1000 := by
    have h1 := szP_le B (szP e.toNat (A ++ [s])) hB
    rw [← szP_app, List.append_assoc, List.singleton_append, ← hA, szP_rev] at h1
    omega
  have ns : n * 1 ≤ n * (2 * s.toNat) := Nat.mul_le_mul_left n (by omega)
  have sn : 1 * (2 * s.toNat) ≤ n * (2 * s.toNat) := Nat.mul_le_mul_right _ n1
  obtain ⟨w, rfl⟩ : ∃ w : Nat, s = (w : Int) + 1 := ⟨(s - 1).toNat, by omega⟩
  have ew : ((w : Int) + 1).toNat = w + 1 := by omega
  rw [ew] at tot ns sn step
  have nz : (n : Int) * ((w : Int) + 1) = ((n * (w + 1) : Nat) : Int) := by rw [Int.natCast_mul]; rfl
  have tot2 : 2 * (n * (w + 1)) ≤ 1000 := by
    have : n * (2 * (w + 1)) = 2 * (n * (w + 1)) := by rw [Nat.mul_left_comm]
    omega
  have stp2 : szP e.toNat (A ++ [(w : Int) + 1]) = 2 * (n * (w + 1)) := by rw [step, Nat.mul_left_comm]
  obtain ⟨a, b⟩ := t
  have ca : Chg n a := ca
  have cb : Chg n b := cb
  have la := ca.1
  have lb := cb.1
  have big : ∀ {x : Int}, 0 ≤ x ∧ x < (n : Int) → 0 ≤ x ∧ x < ((2 * (n * (w + 1)) : Nat) : Int) := fun {x} h => by
    have : n * 1 ≤ n * (w + 1) := Nat.mul_le_mul_left n (by omega)
    omega
  have pr : ∀ {q r side : Int}, 0 ≤ q → q < (n : Int) → 0 ≤ r → r ≤ w → 0 ≤ side → side ≤ 1 → m_law_place ((n : Int), (w : Int) + 1, q, r, side) = W.pure (plc n ((w : Int) + 1) q r side) ∧ 0 ≤ plc n ((w : Int) + 1) q r side ∧ plc n ((w : Int) + 1) q r side < ((2 * (n * (w + 1)) : Nat) : Int) := fun {q r side} q0 q1 r0 r1 sd0 sd1 => by
    have := plc_rg (many := n) (s := (w : Int) + 1) (side := side) (by omega) q0 q1 r0 (by omega) sd0 sd1
    exact ⟨m_place (by omega) (by omega) (by omega) (by omega) q0 (by omega) r0 (by omega), by omega, by omega⟩
  simp only [la]
  rw [rngE ((w : Int) + 1) (by omega) (by omega), rngE (n : Int) (by omega) (by omega)]
  simp only [bind_pureE]
  have pw : ∀ {c : List Int}, Chg n c → ∀ {K : List (Tup Int) → Prop} {E}, (∀ ys : List (Tup Int), ys.length = w + 1 → (∀ y ∈ ys, Chg n y.l) → K ys) → (W.filterW (fun _ : Int => nx (W.pure true)) (fun x => nx (m_law_power (⟨c⟩, (w : Int) + 1 - x))) ((List.range ((w : Int) + 1).toNat).map fun (i : Nat) => (i : Int))).wp K E := fun {c} hc {K E} hK => by
    refine filt_wp (P := fun y : Tup Int => Chg n y.l) (fun x hx => ?_) fun ys l1 l2 => hK ys (by rw [l1]; simp <;> omega) l2
    obtain ⟨i, hi, rfl⟩ := mem_rng hx
    exact power_wp hc (by omega) (by omega) (by omega) fun l hl => hl
  refine bind_mono (fun p : List (Tup Int) × List (Tup Int) => (p.1.length = w + 1 ∧ ∀ y ∈ p.1, Chg n y.l) ∧ p.2.length = w + 1 ∧ ∀ y ∈ p.2, Chg n y.l) ?_ fun p hp => ?_
  · exact pw ca fun ys l1 h1 => pw cb fun zs l2 h2 => ⟨⟨l1, h1⟩, l2, h2⟩
  obtain ⟨⟨o1, o2⟩, o3, o4⟩ := hp
  have pl : ∀ side : Int, 0 ≤ side → side ≤ 1 → W.filterW (fun _ : Int => nx (W.pure true)) (fun x => nx (m_law_place ((n : Int), (w : Int) + 1, x, (w : Int) + 1 - 1, side))) ((List.range ((n : Int)).toNat).map fun (i : Nat) => (i : Int)) = W.pure (((List.range ((n : Int)).toNat).map fun (i : Nat) => (i : Int)).map fun q => plc n ((w : Int) + 1) q ((w : Int) + 1 - 1) side) := fun side sd0 sd1 => filt_all fun x hx => by
    obtain ⟨i, hi, rfl⟩ := mem_rng hx
    exact (pr (by omega) (by omega) (by omega) (by omega) sd0 sd1).1
  rw [pl 0 (by decide) (by decide), pl 1 (by decide) (by decide)]
  simp only [b2_pure]
  have ct : ∀ {c : List Int} {side : Int}, c.length = n → catW c (((List.range ((n : Int)).toNat).map fun (i : Nat) => (i : Int)).map fun q => plc n ((w : Int) + 1) q ((w : Int) + 1 - 1) side) = W.pure (c ++ (((List.range ((n : Int)).toNat).map fun (i : Nat) => (i : Int)).map fun q => plc n ((w : Int) + 1) q ((w : Int) + 1 - 1) side)) := fun {c side} h => need_pure (by simp [h] <;> omega)
  rw [ct la, ct lb]
  simp only [bind_pureE]
  have st0 : ∀ {c : List Int} {side : Int}, Chg n c → 0 ≤ side → side ≤ 1 → (c ++ (((List.range ((n : Int)).toNat).map fun (i : Nat) => (i : Int)).map fun q => plc n ((w : Int) + 1) q ((w : Int) + 1 - 1) side)).length = 2 * n ∧ ∀ x ∈ (c ++ (((List.range ((n : Int)).toNat).map fun (i : Nat) => (i : Int)).map fun q => plc n ((w : Int) + 1) q ((w : Int) + 1 - 1) side)), 0 ≤ x ∧ x < ((2 * (n * (w + 1)) : Nat) : Int) := fun {c side} hc sd0 sd1 => by
    refine ⟨by simp [hc.1] <;> omega, fun x hx => ?_⟩
    rcases List.mem_append.mp hx with q | q
    · exact big (hc.2 x q)
    · obtain ⟨i, hi, rfl⟩ := List.mem_map.mp q
      obtain ⟨j, hj, rfl⟩ := mem_rng hi
      exact (pr (by omega) (by omega) (by omega) (by omega) sd0 sd1).2
  have sa := st0 ca (side := 0) (by decide) (by decide)
  have sb := st0 cb (side := 1) (by decide) (by decide)
  generalize (a ++ (((List.range ((n : Int)).toNat).map fun (i : Nat) => (i : Int)).map fun q => plc n ((w : Int) + 1) q ((w : Int) + 1 - 1) 0)) = L1 at sa
  generalize (b ++ (((List.range ((n : Int)).toNat).map fun (i : Nat) => (i : Int)).map fun q => plc n ((w : Int) + 1) q ((w : Int) + 1 - 1) 1)) = L2 at sb
  refine bind_mono (fun t : List Int × List Int => (t.1.length = 2 * n + 2 * w * n ∧ ∀ x ∈ t.1, 0 ≤ x ∧ x < ((2 * (n * (w + 1)) : Nat) : Int)) ∧ t.2.length = 2 * n + 2 * w * n ∧ ∀ x ∈ t.2, 0 ≤ x ∧ x < ((2 * (n * (w + 1)) : Nat) : Int)) ?_ fun t ht => ?_
  rotate_left
  · obtain ⟨⟨t1, t2⟩, t3, t4⟩ := ht
    have en : 2 * n + 2 * w * n = 2 * (n * (w + 1)) := by
      rw [Nat.mul_add, Nat.mul_one, Nat.mul_assoc, Nat.mul_comm w n]
      omega
    refine ⟨2 * (n * (w + 1)), ?_, stp2.symm, ⟨by rw [t1, en], t2⟩, by rw [t3, en], t4⟩
    have : n * 1 ≤ n * (w + 1) := Nat.mul_le_mul_left n (by omega)
    omega
  refine forW_pre (fun A t => (t.1.length = 2 * n + 2 * w * A.length ∧ ∀ x ∈ t.1, 0 ≤ x ∧ x < ((2 * (n * (w + 1)) : Nat) : Int)) ∧ t.2.length = 2 * n + 2 * w * A.length ∧ ∀ x ∈ t.2, 0 ≤ x ∧ x < ((2 * (n * (w + 1)) : Nat) : Int)) _ [] _ ⟨⟨by simpa using sa.1, sa.2⟩, by simpa using sb.1, sb.2⟩ (fun A2 q B2 t hA2 I => ?_) fun t I => by
      simpa using I
  have hq : 0 ≤ q ∧ q < (n : Int) := by
    have : q ∈ (List.range ((n : Int)).toNat).map fun (i : Nat) => (i : Int) := by
      rw [List.nil_append] at hA2
      rw [hA2]
      simp
    obtain ⟨i, hi, rfl⟩ := mem_rng this
    omega
  have hlq : A2.length < n := by
    have := congrArg List.length hA2
    simp at this
    omega
  have rg1 : rngW 1 ((w : Int) + 1) = W.pure (rng 1 ((w : Int) + 1)) := need_pure (by omega)
  have lg1 : (rng 1 ((w : Int) + 1)).length = w := by
    unfold rng
    simp
  rw [rg1]
  simp only [bind_pureE]
  have wA : 2 * w * A2.length ≤ 1000 := by
    have h1 : 2 * w * A2.length ≤ 2 * w * n := Nat.mul_le_mul_left _ (by omega)
    have h2 : 2 * w * n ≤ 2 * (n * (w + 1)) := by
      rw [Nat.mul_add, Nat.mul_one, Nat.mul_assoc, Nat.mul_comm w n]
      omega
    omega
  obtain ⟨⟨i1, i2⟩, i3, i4⟩ := I
  refine bind_mono (fun t : List Int × List Int => (t.1.length = 2 * n + 2 * w * A2.length + 2 * w ∧ ∀ x ∈ t.1, 0 ≤ x ∧ x < ((2 * (n * (w + 1)) : Nat) : Int)) ∧ t.2.length = 2 * n + 2 * w * A2.length + 2 * w ∧ ∀ x ∈ t.2, 0 ≤ x ∧ x < ((2 * (n * (w + 1)) : Nat) : Int)) ?_ fun t ht => ?_
  rotate_left
  · have en : 2 * w * (A2 ++ [q]).length = 2 * w * A2.length + 2 * w := by
      rw [List.length_append]
      show 2 * w * (A2.length + 1) = _
      rw [Nat.mul_add, Nat.mul_one]
    obtain ⟨⟨t1, t2⟩, t3, t4⟩ := ht
    exact ⟨⟨by show t.1.length = _; rw [en]; omega, t2⟩, by show t.2.length = _; rw [en]; omega, t4⟩
  refine forW_pre (fun A t => (t.1.length = 2 * n + 2 * w * A2.length + 2 * A.length ∧ ∀ x ∈ t.1, 0 ≤ x ∧ x < ((2 * (n * (w + 1)) : Nat) : Int)) ∧ t.2.length = 2 * n + 2 * w * A2.length + 2 * A.length ∧ ∀ x ∈ t.2, 0 ≤ x ∧ x < ((2 * (n * (w + 1)) : Nat) : Int)) _ [] _ ⟨⟨by simpa using i1, i2⟩, by simpa using i3, i4⟩ (fun A3 r B3 t hA3 I => ?_) fun t I => by
      rw [List.nil_append, lg1] at I
      exact I
  have hr : 1 ≤ r ∧ r ≤ w := by
    have : r ∈ rng 1 ((w : Int) + 1) := by
      rw [List.nil_append] at hA3
      rw [hA3]
      simp
    unfold rng at this
    obtain ⟨i, hi, rfl⟩ := List.mem_map.mp this
    have := List.mem_range.mp hi
    omega
  have hl3 : A3.length < w := by
    have := congrArg List.length hA3
    rw [List.nil_append, lg1] at this
    simp at this
    omega
  obtain ⟨t1, t2⟩ := t
  obtain ⟨⟨j1, j2⟩, j3, j4⟩ := I
  have j1 : t1.length = 2 * n + 2 * w * A2.length + 2 * A3.length := j1
  have j3 : t2.length = 2 * n + 2 * w * A2.length + 2 * A3.length := j3
  have pick : ∀ {o : List (Tup Int)}, o.length = w + 1 → (∀ y ∈ o, Chg n y.l) → ∃ v, W.b2 (ixW o r) (W.pure q) (fun l i => ixW l.l i) = W.pure v ∧ 0 ≤ v ∧ v < (n : Int) := fun {o} ho hc => by
    obtain ⟨k, hk⟩ := Int.eq_ofNat_of_zero_le (show 0 ≤ r by omega)
    have hk2 : k < o.length := by omega
    obtain ⟨z1, z2⟩ := (hc _ (List.getElem_mem hk2)).at hq.1 hq.2
    refine ⟨_, ?_, z2⟩
    rw [hk, ix_at hk2]
    exact z1
  obtain ⟨v1, e1, v10, v11⟩ := pick o1 o2
  obtain ⟨v2, e2, v20, v21⟩ := pick o3 o4
  have pa := pr (q := q) (r := r - 1) (side := 0) hq.1 hq.2 (by omega) (by omega) (by decide) (by decide)
  have pb := pr (q := v1) (r := (w : Int) + 1 - 1) (side := 1) v10 v11 (by omega) (by omega) (by decide) (by decide)
  have pc := pr (q := v2) (r := (w : Int) + 1 - 1) (side := 0) v20 v21 (by omega) (by omega) (by decide) (by decide)
  have pd := pr (q := q) (r := r - 1) (side := 1) hq.1 hq.2 (by omega) (by omega) (by decide) (by decide)
  simp only [e1, e2, b2_pure, bind_pureE, pa.1, pb.1, pc.1, pd.1]
  have nd : ∀ {l : List Int} {x : Int}, l.length ≤ 100000 → W.need (l.length < 16777216) x = W.pure x := fun {l x} h => need_pure (by omega)
  rw [nd (l := t1) (by omega)]
  simp only [bind_pureE]
  rw [nd (l := t2) (by omega)]
  simp only [bind_pureE]
  rw [nd (by rw [List.length_append]; show t1.length + 1 ≤ _; omega)]
  simp only [bind_pureE]
  rw [nd (by rw [List.length_append]; show t2.length + 1 ≤ _; omega)]
  simp only [bind_pureE]
  have two : ∀ {l : List Int} {x y : Int}, (∀ z ∈ l, 0 ≤ z ∧ z < ((2 * (n * (w + 1)) : Nat) : Int)) → (0 ≤ x ∧ x < ((2 * (n * (w + 1)) : Nat) : Int)) → (0 ≤ y ∧ y < ((2 * (n * (w + 1)) : Nat) : Int)) → ∀ z ∈ (l ++ [x]) ++ [y], 0 ≤ z ∧ z < ((2 * (n * (w + 1)) : Nat) : Int) := fun {l x y} h hx hy z hz => by
    rcases List.mem_append.mp hz with q | q
    · rcases List.mem_append.mp q with q | q
      · exact h z q
      · rw [List.mem_singleton.mp q]; exact hx
    · rw [List.mem_singleton.mp q]; exact hy
  refine ⟨⟨?_, two j2 pa.2 pc.2⟩, ?_, two j4 pb.2 pd.2⟩
  · simp [j1]
    omega
  · simp [j3]
    omega
theorem range_ascN (m : Nat) : ((List.range m).map fun (i : Nat) => (i : Int)).Pairwise (· < ·) := by
  rw [List.pairwise_map]
  exact List.pairwise_lt_range.imp fun h => by omega
theorem mixedI_wp {l : List Int} {Q : List Int → Prop} {E} (hl : l.length ≤ 1000) (hQ : ∀ y : List Int, y.length = l.length → (∀ x ∈ y, x ∈ l) → Q y) : (m_law_mixed (α := Int) l).wp Q E := mixed_wp hl hQ
theorem columns_wp {n : Nat} (n1 : 1 ≤ n) (n2 : n ≤ 1000) {form : Int} {Q : Tup Int → Prop} {E} (hQ : ∀ l, Chg n l → Q ⟨l⟩) : (m_law_columns ((n : Int), form)).wp Q E := by
  have rg : rngW 0 (n : Int) = W.pure ((List.range n).map fun (i : Nat) => (i : Int)) := by
    rw [rngE _ (by omega) (by omega)]
    rfl
  have lg : ((List.range n).map fun (i : Nat) => (i : Int)).length = n := by simp
  have mp : ∀ g : Int → Int, (∀ i : Int, 0 ≤ i → i < n → 0 ≤ g i ∧ g i < (n : Int)) → Chg n (((List.range n).map fun (i : Nat) => (i : Int)).map g) := fun g h => by
    refine ⟨by rw [List.length_map, lg], fun x hx => ?_⟩
    obtain ⟨y, hy, rfl⟩ := List.mem_map.mp hx
    obtain ⟨i, hi, rfl⟩ := mem_rng hy
    exact h _ (by omega) (by omega)
  unfold m_law_columns
  simp only [b1_pure, b2_pure, bind_pureE, rg]
  refine ⟨⟨by omega, sz_i (by omega) (by omega) (by decide)⟩, fun to t0 t1 => ?_⟩
  have m2 : modW to 2 = W.pure (to % 2) := need_pure (by decide)
  have f1 : W.filterW (fun _ : Int => nx (W.pure true)) (fun x => nx (W.pure (max 0 (x - 1)))) ((List.range n).map fun (i : Nat) => (i : Int)) = W.pure (((List.range n).map fun (i : Nat) => (i : Int)).map fun x => max 0 (x - 1)) := filt_all fun _ _ => rfl
  have f2 : W.filterW (fun _ : Int => nx (W.pure true)) (fun x => nx (W.pure (min ((n : Int) - 1) (x + 1 + to % 2)))) ((List.range n).map fun (i : Nat) => (i : Int)) = W.pure (((List.range n).map fun (i : Nat) => (i : Int)).map fun x => min ((n : Int) - 1) (x + 1 + to % 2)) := filt_all fun _ _ => rfl
  have f3 : W.filterW (fun _ : Int => nx (W.pure true)) (fun x => nx (modW (x + to) (n : Int))) ((List.range n).map fun (i : Nat) => (i : Int)) = W.pure (((List.range n).map fun (i : Nat) => (i : Int)).map fun x => (x + to) % (n : Int)) := filt_all fun _ _ => need_pure (by omega)
  have f6 : W.filterW (fun _ : Int => nx (W.pure true)) (fun x => nx (W.pure (max 0 (x - 1 - to % 2)))) ((List.range n).map fun (i : Nat) => (i : Int)) = W.pure (((List.range n).map fun (i : Nat) => (i : Int)).map fun x => max 0 (x - 1 - to % 2)) := filt_all fun _ _ => rfl
  have f4 : repW [to] (n : Int) = W.pure (List.replicate n [to]).flatten := need_pure ⟨by omega, by omega, by show 1 * _ ≤ _; omega⟩
  have h2 := Int.emod_nonneg to (show (2 : Int) ≠ 0 by decide)
  simp only [m2, b2_pure, f1, f2, f3, f4, f6, b1_pure]
  rw [iteE]
  split
  · exact hQ _ (mp _ fun i a b => by omega)
  rw [iteE]
  split
  · exact hQ _ (mp _ fun i a b => by omega)
  rw [iteE]
  split
  · exact hQ _ (mp _ fun i a b => ⟨Int.emod_nonneg _ (by omega), Int.emod_lt_of_pos _ (by omega)⟩)
  rw [iteE]
  split
  · refine hQ _ ⟨by simp, fun x hx => ?_⟩
    have : x = to := by
      rw [List.mem_flatten] at hx
      obtain ⟨l, hl, hx⟩ := hx
      rw [(List.mem_replicate.mp hl).2] at hx
      exact List.mem_singleton.mp hx
    omega
  rw [iteE]
  split
  · show (m_law_mixed (α := Int) _).wp (fun l => Q ⟨l⟩) E
    refine mixedI_wp (by rw [lg]; omega) fun y h1 h2 => hQ y ⟨by rw [h1, lg], fun x hx => ?_⟩
    obtain ⟨i, hi, rfl⟩ := mem_rng (h2 x hx)
    omega
  rw [iteE]
  split
  · exact hQ _ (mp _ fun i a b => by omega)
  · show (W.filterW _ _ _).wp (fun l => Q ⟨l⟩) E
    refine filt_wp (P := fun x => 0 ≤ x ∧ x < (n : Int)) (fun x _ => ⟨⟨by omega, sz_i (by omega) (by omega) (by decide)⟩, fun r a b => ⟨a, b⟩⟩) fun ys h1 h2 => hQ ys ⟨by rw [h1, lg], h2⟩
/-- a mark: ascending, from 0 to its top, which is there -/
structure Mrk (top : Int) (m : List Int) : Prop where
  so : m.Pairwise (· ≤ ·)
  mem : top ∈ m
  rg : ∀ x ∈ m, 0 ≤ x ∧ x ≤ top
/-! the drawn changes -/
theorem szP_pow : ∀ (A : List Int) (n : Nat), (∀ f ∈ A, 1 ≤ f) → szP n A ≤ n * 2 ^ A.sum.toNat
  | [], n, _ => by show n ≤ n * 1; omega
  | f :: A, n, h => by
    have f1 := h f (List.mem_cons_self ..)
    have ih := szP_pow A (n * (2 * f.toNat)) fun g hg => h g (List.mem_cons_of_mem _ hg)
    have s0 : 0 ≤ A.sum := by
      have : ∀ l : List Int, (∀ x ∈ l, 1 ≤ x) → 0 ≤ l.sum := fun l => by
        induction l with
        | nil => intro _; simp
        | cons x l ih =>
          intro h
          have := h x (List.mem_cons_self ..)
          have := ih fun y hy => h y (List.mem_cons_of_mem _ hy)
          simp only [List.sum_cons]
          omega
      exact this A fun g hg => h g (List.mem_cons_of_mem _ hg)
    have p2 : ∀ k : Nat, 1 ≤ k → 2 * k ≤ 2 ^ k := fun k hk => by
      induction k with
      | zero => omega
      | succ k ih =>
        rw [Nat.pow_succ]
        by_cases q : 1 ≤ k
        · have := ih q
          omega
        · have : k = 0 := by omega
          subst this
          decide
    have := p2 f.toNat (by omega)
    refine Nat.le_trans ih ?_
    rw [List.sum_cons, show (f + A.sum).toNat = f.toNat + A.sum.toNat by omega, Nat.pow_add, Nat.mul_assoc n]
    exact Nat.mul_le_mul_left _ (Nat.mul_le_mul_right _ this)
theorem mem_enumC {τ : Type} {l : List τ} {x : Int × τ} (hx : x ∈ enumL l) : ∃ (i : Nat) (hi : i < l.length), x = ((i : Int), l[i]) := by
  obtain ⟨i, hi⟩ := List.mem_iff_getElem?.mp hx
  have hl : i < l.length := by
    have := (List.getElem?_eq_some_iff.mp hi).1
    rwa [enumL_length] at this
  rw [enumL_get l i hl] at hi
  exact ⟨i, hl, (Option.some.inj hi).symm⟩
def RI (t : List Int) : Prop := t.length ≤ 40 ∧ ∀ x ∈ t, 0 ≤ x ∧ x < (t.length : Int)
theorem ix_in {l : List Int} {i : Int} (h0 : 0 ≤ i) (h1 : i < (l.length : Int)) : ∃ y, ixW l i = W.pure y ∧ y ∈ l := by
  obtain ⟨k, rfl⟩ := Int.eq_ofNat_of_zero_le h0
  have hk : k < l.length := by omega
  exact ⟨l[k], ixW_nat (List.getElem?_eq_getElem hk), List.getElem_mem hk⟩
theorem rings_wp {Q : Tup Int → Prop} {E} (hQ : ∀ n a, 1 ≤ n → n ≤ 40 → Chg n a → Q ⟨a⟩) : (m_law_rings ()).wp Q E := by
  rw [c_law_rings, show rngW 0 (9 : Int) = W.pure ((List.range 9).map fun (i : Nat) => (i : Int)) from rngW_ok (n := 9) (by decide), bind_pureE]
  refine bind_mono (fun t => RI t ∧ t ≠ []) ?_ fun t ht => ?_
  · refine forW_pre (fun A t => RI t ∧ (A ≠ [] → t ≠ [])) _ [] [] ⟨⟨by simp, fun x hx => by cases hx⟩, fun h => absurd rfl h⟩ (fun A s B t hA I => ?_) fun t I => ⟨I.1, I.2 (by simp)⟩
    obtain ⟨⟨i1, i2⟩, _⟩ := I
    refine any_b (by decide) fun v v0 v1 => ?_
    refine bif_wp (fun q => ?_) fun q => ?_
    · rw [rngE _ (by omega) (by omega), bind_pureE]
      have fl : W.filterW (fun x_143 : Int => nx (W.pure true)) (fun x_143 => nx ((modW (x_143 + (1 : Int)) ((1 : Int) + v)).bind fun v56 => W.pure ((t.length : Int) + v56))) ((List.range (1 + v).toNat).map fun (i : Nat) => (i : Int)) = W.pure (((List.range (1 + v).toNat).map fun (i : Nat) => (i : Int)).map fun x => (t.length : Int) + (x + 1) % (1 + v)) := filt_all fun x _ => by
        rw [show modW (x + 1) (1 + v) = W.pure ((x + 1) % (1 + v)) from need_pure (by omega)]
        rfl
      rw [fl, bind_pureE, show ∀ l : List Int, l.length ≤ 1000 → catW t l = W.pure (t ++ l) from fun l hl => need_pure (by omega)]
      · refine ⟨⟨?_, fun x hx => ?_⟩, fun _ z => ?_⟩
        · simp only [List.length_append, List.length_map, List.length_range]
          omega
        · simp only [List.length_append, List.length_map, List.length_range]
          rcases List.mem_append.mp hx with p | p
          · have := i2 x p
            omega
          · obtain ⟨y, hy, rfl⟩ := List.mem_map.mp p
            have a1 := Int.emod_nonneg (y + 1) (show 1 + v ≠ 0 by omega)
            have a2 := Int.emod_lt_of_pos (y + 1) (show 0 < 1 + v by omega)
            omega
        · have := congrArg List.length z
          simp only [List.length_append, List.length_map, List.length_range, List.length_nil] at this
          omega
      · simp only [List.length_map, List.length_range]
        omega
    · refine ⟨⟨i1, i2⟩, fun _ z => ?_⟩
      rw [z] at q
      simp only [List.length_nil] at q
      omega
  · refine bind_mono (fun t => RI t ∧ t ≠ []) ?_ fun t ht => ?_
    · refine whileW_wp (fun t => RI t ∧ t ≠ []) (fun t => 40 - t.length) (fun t I => ?_) ht
      obtain ⟨⟨i1, i2⟩, i3⟩ := I
      have l0 : 0 < t.length := List.length_pos_iff.mpr i3
      refine bif_wp (fun q => ?_) fun q => ?_
      · refine any_b (by decide) fun v v0 v1 => ?_
        show (if decide (0 < v) = true then _ else _)
        split
        · refine any_b ⟨by omega, by omega⟩ fun w w0 w1 => ?_
          refine of_b ⟨by simp, by simp⟩ fun z hz => ?_
          rw [need_pure (by omega), bind_pureE]
          have zr : 0 ≤ z ∧ z < (t.length : Int) := by
            simp only [List.mem_cons, List.not_mem_nil, or_false] at hz
            omega
          refine ⟨⟨⟨?_, fun x hx => ?_⟩, by simp⟩, ?_⟩
          · rw [List.length_append, List.length_singleton]
            omega
          · rw [List.length_append, List.length_singleton]
            rcases List.mem_append.mp hx with p | p
            · have := i2 x p
              omega
            · rw [List.mem_singleton.mp p]
              omega
          · show 40 - (t ++ [z]).length < 40 - t.length
            rw [List.length_append, List.length_singleton]
            omega
        · exact ⟨⟨i1, i2⟩, i3⟩
      · show RI t ∧ t ≠ []
        exact ⟨⟨i1, i2⟩, i3⟩
    · obtain ⟨⟨i1, i2⟩, i3⟩ := ht
      have l0 : 0 < t.length := List.length_pos_iff.mpr i3
      rw [rngC (by omega), bind_pureE]
      refine bind_mono (fun y => Chg t.length y) (mixedI_wp (by rw [(id_chg _).1]; omega) fun y h1 h2 => ⟨by rw [h1, (id_chg _).1], fun x hx => mem_id.mp (h2 x hx)⟩) fun y hy => ?_
      rw [show repW [(0 : Int)] (t.length : Int) = W.pure (List.replicate t.length [(0 : Int)]).flatten from need_pure ⟨by omega, by omega, by show 1 * _ ≤ _; omega⟩, bind_pureE]
      refine bind_mono (fun z => Chg t.length z) ?_ fun z hz => hQ _ _ l0 i1 hz
      refine forW_inv (fun z => Chg t.length z) ⟨by simp, fun x hx => ?_⟩ (fun x hx z hz => ?_) fun z hz => hz
      · have : x = 0 := by
          rw [List.mem_flatten] at hx
          obtain ⟨l, hl, hx⟩ := hx
          rw [(List.mem_replicate.mp hl).2] at hx
          exact List.mem_singleton.mp hx
        omega
      · obtain ⟨i, hi, rfl⟩ := mem_enumC hx
        have r := i2 t[i] (List.getElem_mem hi)
        obtain ⟨p, ep, hp⟩ := ix_in (l := y) r.1 (by rw [hy.1]; exact r.2)
        obtain ⟨q, eq, hq⟩ := ix_in (l := y) (i := (i : Int)) (by omega) (by rw [hy.1]; omega)
        have hp := hy.2 p hp
        have hq := hy.2 q hq
        show ((ixW y t[i]).bind _).wp _ _
        rw [ep, bind_pureE]
        show ((ixW y (i : Int)).bind _).wp _ _
        rw [eq, bind_pureE]
        obtain ⟨k, rfl⟩ := Int.eq_ofNat_of_zero_le hq.1
        rw [set_nat (show k < z.length by rw [hz.1]; omega)]
        refine ⟨by rw [List.length_set]; exact hz.1, fun x hx => ?_⟩
        rcases List.mem_or_eq_of_mem_set hx with m | m
        · exact hz.2 x m
        · rw [m]; exact hp
theorem change_wp {Q : Tup Int → Prop} {E} (hQ : ∀ n a, 1 ≤ n → n ≤ 40 → Chg n a → Q ⟨a⟩) : (m_law_change ()).wp Q E := by
  rw [c_law_change]
  refine bind_mono (fun z => z = .dn () ∨ ∃ n a, 1 ≤ n ∧ n ≤ 40 ∧ Chg n a ∧ z = .rt ⟨a⟩) ?_ fun z hz => ?_
  · refine bind_mono (fun z => z = .nx () ∨ ∃ n a, 1 ≤ n ∧ n ≤ 40 ∧ Chg n a ∧ z = .rt ⟨a⟩) ?_ fun z hz => ?_
    · refine any_b (by decide) fun v v0 v1 => ?_
      refine bif_wp (fun _ => ?_) fun _ => .inl rfl
      refine bind_mono (fun p => ∃ t e, p = ((⟨t⟩ : Tup Int), e) ∧ 0 < e ∧ e ≤ 4 ∧ Fst e 6 t) (falling_wp (by decide) (by decide) fun t e h1 h2 h3 => ⟨t, e, rfl, h1, h2, h3⟩) fun p hp => ?_
      obtain ⟨t, e, rfl, e0, e4, hF⟩ := hp
      have t1 : ∀ f ∈ t, 1 ≤ f := fun f hf => hF.1 f hf
      have sz := szP_pow t e.toNat t1
      have sz2 : 2 ^ t.sum.toNat ≤ 2 ^ 6 := Nat.pow_le_pow_right (by decide) (by have := hF.2.1; omega)
      have sz3 : e.toNat * 2 ^ t.sum.toNat ≤ 4 * 2 ^ 6 := Nat.mul_le_mul (by omega) sz2
      refine bind_mono (fun l => ∃ n a b, 1 ≤ n ∧ Chg n a ∧ Chg n b ∧ l = [(⟨a⟩ : Tup Int), ⟨b⟩]) (two_wp (fs := t) (e := e) (by omega) t1 (by omega) fun n a b n1 _ ca cb => ⟨n, a, b, n1, ca, cb, rfl⟩) fun l hl => ?_
      obtain ⟨n, a, b, n1, ca, cb, rfl⟩ := hl
      rw [show ixW [(⟨a⟩ : Tup Int), ⟨b⟩] (0 : Int) = W.pure ⟨a⟩ from ixW_nat (i := 0) rfl, bind_pureE]
      refine bif_wp (fun q => ?_) fun _ => .inl rfl
      have q : (a.length : Int) < 41 := q
      refine any_b (by decide) fun w w0 w1 => ?_
      rcases (show w = 0 ∨ w = 1 by omega) with rfl | rfl
      · rw [show ixW [(⟨a⟩ : Tup Int), ⟨b⟩] (0 : Int) = W.pure ⟨a⟩ from ixW_nat (i := 0) rfl, bind_pureE]
        exact .inr ⟨n, a, n1, by have := ca.1; omega, ca, rfl⟩
      · rw [show ixW [(⟨a⟩ : Tup Int), ⟨b⟩] (1 : Int) = W.pure ⟨b⟩ from ixW_nat (i := 1) rfl, bind_pureE]
        exact .inr ⟨n, b, n1, by have := ca.1; omega, cb, rfl⟩
    · rcases hz with rfl | ⟨n, a, h1, h2, h3, rfl⟩
      · exact .inl rfl
      · exact .inr ⟨n, a, h1, h2, h3, rfl⟩
  · rcases hz with rfl | ⟨n, a, h1, h2, h3, rfl⟩
    · show ((m_law_any 2).bind _).wp Q E
      refine any_b (by decide) fun v v0 v1 => ?_
      refine bif_wp (fun _ => rings_wp hQ) fun _ => ?_
      refine of_b ⟨by simp, by simp⟩ fun z hz => ?_
      have zr : 3 ≤ z ∧ z ≤ 40 := by
        simp only [List.mem_cons, List.not_mem_nil, or_false] at hz
        omega
      refine any_b ⟨by omega, by omega⟩ fun w w0 w1 => ?_
      refine any_b (by decide) fun u u0 u1 => ?_
      obtain ⟨k, rfl⟩ := Int.eq_ofNat_of_zero_le w0
      rw [show (1 : Int) + (k : Int) = ((1 + k : Nat) : Int) by omega]
      exact columns_wp (by omega) (by omega) fun l hl => hQ (1 + k) l (by omega) (by omega) hl
    · exact hQ n a h1 h2 h3
/-! the law -/
theorem eq_intsT (l m : List Int) : eqWD (⟨l⟩ : Tup Int) (D.tup (m.map toD)) = W.pure (decide (l = m)) := by
  have ok : ∀ l : List Int, eqOk (.tup (l.map toD)) = true := fun l => by
    obtain ⟨h1, h2, h3⟩ := ints_shaped l
    simp only [eqOk, flat, h3, pd, SeqAt.shaped, PyData.canLay0, h1, PyData.depth, Bool.true_and, Bool.and_eq_true, decide_eq_true_eq, true_and]
    omega
  have eqv : ∀ l m : List Int, PyData.eqvAll (pdL (l.map toD)) (pdL (m.map toD)) = decide (l = m) := by
    intro l
    induction l with
    | nil => intro m; cases m <;> rfl
    | cons x l ih =>
      intro m
      cases m with
      | nil => rfl
      | cons y m =>
        show (PyData.eqv (.int x) (.int y) && PyData.eqvAll (pdL (l.map toD)) (pdL (m.map toD))) = _
        rw [ih m]
        have : PyData.eqv (.int x) (.int y) = decide (x = y) := eqD_int x y
        rw [this]
        by_cases q : x = y
        · by_cases q2 : l = m <;> simp [q, q2]
        · simp [q]
  refine (need_pure ⟨ok l, ok m⟩).trans ?_
  show W.pure (eqD (.tup (l.map toD)) (.tup (m.map toD))) = _
  congr 1
  exact eqv l m
theorem it_it {n : Nat} {a : List Int} (ha : Chg n a) (j : Nat) : ∀ m, itC n (itC n a j) m = itC n a (j * m)
  | 0 => rfl
  | m + 1 => by
    show thenL (itC n (itC n a j) m) (itC n a j) = _
    rw [it_it ha j m, ← it_add ha]
    rfl
theorem then_loop {n : Nat} {a : List Int} (ha : Chg n a) (j : Nat) : W.forW (idC j) (fun (x_182 : Int) (t_181 : Tup Int) => m_law_then (t_181, ⟨a⟩)) (⟨idC n⟩ : Tup Int) = W.pure ⟨itC n a j⟩ := by
  have key := forW_gg (f := fun (x_182 : Int) (t_181 : Tup Int) => m_law_then (t_181, ⟨a⟩)) (fun A : List Int => (⟨itC n a A.length⟩ : Tup Int)) (idC j) [] fun A s B _ => by
    show m_law_then (⟨itC n a A.length⟩, ⟨a⟩) = _
    rw [m_then (it_chg ha _) ha, List.length_append]
    rfl
  have key : W.forW (idC j) _ (⟨idC n⟩ : Tup Int) = _ := key
  rw [key, List.nil_append, (id_chg j).1]
theorem same_T {x y : Tup Int} (e : x = y) : m_law_same (toD x, toD y) = W.pure true := by
  subst e
  refine same_eq rfl ?_ ?_
  · show fineL (x.l.map toD) = true
    exact fine_ints _
  · show depL (x.l.map toD) + 1 ≤ 11
    rw [dep_ints]
    decide
theorem same_I {x y : Int} (e : x = y) : m_law_same (toD x, toD y) = W.pure true := same_eq (congrArg toD e) rfl (Nat.le_of_ble_eq_true rfl)
theorem bif_f {α : Type} {a b : W α} {Q : α → Prop} {E : Ex → Prop} (h : b.wp Q E) : (bif !true then a else b).wp Q E := h
theorem bif_ff {α : Type} {a b : W α} {Q : α → Prop} {E : Ex → Prop} (h : b.wp Q E) : (bif false then a else b).wp Q E := h
theorem ne_pair (x y : Int) : neWD (x, y) (x, y) = W.pure false := by
  refine (need_pure ⟨rfl, rfl⟩).trans ?_
  show W.pure (!(PyData.eqv (.int x) (.int x) && (PyData.eqv (.int y) (.int y) && true))) = _
  rw [show PyData.eqv (.int x) (.int x) = true from (eqD_int x x).trans (decide_eq_true rfl), show PyData.eqv (.int y) (.int y) = true from (eqD_int y y).trans (decide_eq_true rfl)]
  rfl
theorem dvd_27720 : ∀ c : Nat, c < 13 → 0 < c → c ∣ 27720 := by decide
theorem bad_int {l : List Int} {x : Int} (hx : x ∈ l) (h : x < 0 ∨ (l.length : Int) ≤ x) : BadD (toD (⟨l⟩ : Tup Int)) := by
  refine bad_in (l := l.map toD) (fun d hd => by obtain ⟨y, _, rfl⟩ := List.mem_map.mp hd; rfl) (List.mem_map_of_mem hx) ?_
  show (decide (0 ≤ x) && decide (x < ((l.map toD).length : Int))) = false
  rw [List.length_map]
  rcases h with h | h
  · rw [decide_eq_false (by omega)]
    rfl
  · rw [decide_eq_false (show ¬ x < (l.length : Int) by omega)]
    exact Bool.and_false _
theorem m_law_true : m_law.wp (fun r => r = true) (fun _ => False) := by
  rw [c_law]
  refine bind_mono (fun z => ∃ n a, 1 ≤ n ∧ n ≤ 40 ∧ Chg n a ∧ z = (⟨a⟩ : Tup Int)) (change_wp fun n a h1 h2 h3 => ⟨n, a, h1, h2, h3, rfl⟩) fun z hz => ?_
  obtain ⟨n, a, n1, n2, ha, rfl⟩ := hz
  obtain ⟨f, hf⟩ := cycF_ex ha
  have p18 : powW (10 : Int) (18 : Int) = W.pure 1000000000000000000 := need_pure ⟨by decide, by decide, by decide⟩
  have p30 : powW (10 : Int) (30 : Int) = W.pure 1000000000000000000000000000000 := need_pure ⟨by decide, by decide, by decide⟩
  have p9 : powW (10 : Int) (9 : Int) = W.pure 1000000000 := need_pure ⟨by decide, by decide, by decide⟩
  have p25 : powW (10 : Int) (25 : Int) = W.pure 10000000000000000000000000 := need_pure ⟨by decide, by decide, by decide⟩
  refine pure_b p18 (pure_b p30 (pure_b p9 ?_))
  refine any_b (by decide) fun v v0 v1 => ?_
  refine of_b ⟨by simp, by simp⟩ fun N hN => ?_
  have N0 : 0 ≤ N := by
    simp only [List.mem_cons, List.not_mem_nil, or_false] at hN
    omega
  clear hN
  obtain ⟨N, rfl⟩ := Int.eq_ofNat_of_zero_le N0
  have L0 : 0 < (TL f (idC n)).2 := TL_pos _ fun s hs => let r := mem_id.mp hs; (hf s r.1 r.2).1.c0
  have Tn : (TL f (idC n)).1 ≤ n - 1 := (TL_le _).mpr fun s hs => by
    have r := mem_id.mp hs
    have := hf s r.1 r.2
    have := this.1.c0
    omega
  have Lb : (TL f (idC n)).2 ≤ 40 ^ 40 := by
    refine Nat.le_trans (TL_big _ fun s hs => ?_) (Nat.pow_le_pow_right (by decide) (by rw [(id_chg n).1]; exact n2))
    have r := mem_id.mp hs
    have := hf s r.1 r.2
    exact ⟨this.1.c0, by omega⟩
  have L13 : n < 13 → (TL f (idC n)).2 ≤ 27720 := fun h => Nat.le_of_dvd (by decide) ((TL_dvd _).mpr fun s hs => by
    have r := mem_id.mp hs
    have := hf s r.1 r.2
    exact dvd_27720 _ (by omega) this.1.c0)
  have iff : ∀ i j, i < j → (itC n a i = itC n a j ↔ (TL f (idC n)).1 ≤ i ∧ (TL f (idC n)).2 ∣ j - i) := fun i j h => it_iff ha hf h
  have kP : ∀ k : Nat, m_power (toD (⟨a⟩ : Tup Int), (k : Int)) = W.pure ⟨itC n a k⟩ := pow_ok ha n1 n2
  have kL : ∀ k : Nat, m_law_power ((⟨a⟩ : Tup Int), (k : Int)) = W.pure ⟨itC n a k⟩ := m_lpow ha (by omega)
  have kT := tail_ok ha n1 n2 hf
  have kR := ring_ok ha n1 n2 hf
  have kC := lc_ok ha n1 n2 hf L0
  have kB := bs_loop ha n2 hf
  have kS : ∀ k : Nat, m_law_least (((TL f (idC n)).1 : Int), ((TL f (idC n)).2 : Int), (k : Int)) = _ := fun k => m_least L0
  have li := lst_iff iff L0
  generalize (TL f (idC n)).1 = T at *
  generalize (TL f (idC n)).2 = L at *
  refine pure_b (kP N) (pure_b (kL N) (pure_b (same_T rfl) (bif_f ?_)))
  refine pure_b (by rw [show ((⟨a⟩ : Tup Int).l.length : Int) = (n : Int) by rw [← ha.1]]; exact rngC (by omega)) ?_
  refine any_b (by decide) fun k k0 k1 => ?_
  obtain ⟨k, rfl⟩ := Int.eq_ofNat_of_zero_le k0
  refine pure_b (rngC (by omega)) (pure_b (then_loop ha k) (pure_b (kP k) (pure_b (same_T rfl) ?_)))
  have m3 : mulW (3 : Int) (k : Int) = W.pure ((k * 3 : Nat) : Int) := by
    rw [show ((k * 3 : Nat) : Int) = 3 * (k : Int) by omega]
    exact need_pure ⟨sz_i (by decide) (by decide) (by decide), sz_i (by omega) (by omega) (by decide)⟩
  have q3 : m_power (toD (⟨itC n a k⟩ : Tup Int), (3 : Int)) = W.pure ⟨itC n a (k * 3)⟩ := by
    rw [← it_it ha]
    exact pow_ok (it_chg ha k) n1 n2 3
  refine bind_mono (fun b => b = false) ?_ fun b hb => ?_
  · exact bif_f (pure_b q3 (pure_b m3 (pure_b (kL (k * 3)) (pure_b (same_T rfl) rfl))))
  subst hb
  refine bif_ff (pure_b kB ?_)
  refine bind_mono (fun b => b = false) ?_ fun b hb => ?_
  · refine bif_wp (fun q => ?_) fun _ => rfl
    have q : (a.length : Int) < 13 := q
    have q : n < 13 := by have := ha.1; omega
    refine pure_b (m_walk ha n2 L0 iff (by have := L13 q; omega)) ?_
    show (neWD ((T : Int), (L : Int)) ((T : Int), (L : Int))).wp _ _
    rw [ne_pair]
    rfl
  subst hb
  refine bif_ff (pure_b kT (pure_b kR (pure_b (same_ok) ?_)))
  refine bind_mono (fun b => b = false) ?_ fun b hb => ?_
  · refine bif_f (bif_wp (fun q => ?_) fun _ => rfl)
    have q : (a.length : Int) ≤ (T : Int) := q
    have := ha.1
    omega
  subst hb
  refine bif_ff (pure_b p25 (pure_b p9 ?_))
  refine any_b (by decide) fun u u0 u1 => ?_
  obtain ⟨u, rfl⟩ := Int.eq_ofNat_of_zero_le u0
  have mL : mulW ((L : Nat) : Int) (10000000000000000000000000 + (u : Int)) = W.pure ((L * (10000000000000000000000000 + u) : Nat) : Int) := by
    rw [Int.natCast_mul, Int.natCast_add]
    exact need_pure ⟨big_sz Lb, sz_i (by omega) (by omega) (by decide)⟩
  refine pure_b mL ?_
  have L1 : L ≤ L * (10000000000000000000000000 + u) := Nat.le_mul_of_pos_right _ (by omega)
  generalize L * (10000000000000000000000000 + u) = M at *
  refine bind_mono (fun z => ∃ t', z = .dn t' ∧ True) (forF_wp (fun _ => True) trivial fun x hx t _ => ?_) fun z hz => ?_
  · have x0 : 0 ≤ x := by
      simp only [List.mem_cons, List.not_mem_nil, or_false] at hx
      omega
    clear hx
    obtain ⟨x, rfl⟩ := Int.eq_ofNat_of_zero_le x0
    refine pure_b (kC x) (pure_b (kS x) (pure_b (same_I rfl) (bif_f ?_)))
    exact pure_b (kP x) (pure_b (kL x) (pure_b (same_T rfl) (bif_f ⟨(), rfl, trivial⟩)))
  obtain ⟨_, rfl, _⟩ := hz
  show ((m_law_any 60).bind _).wp _ _
  refine any_b (by decide) fun w w0 w1 => ?_
  obtain ⟨w, rfl⟩ := Int.eq_ofNat_of_zero_le w0
  refine pure_b (kS k) (pure_b (kS w) (pure_b (kL k) (pure_b (kL w) (pure_b (eq_intsT (itC n a k) (itC n a w)) ?_))))
  have ed : decide (decide (itC n a k = itC n a w) = decide ((lstN T L k : Int) = (lstN T L w : Int))) = true := by
    refine decide_eq_true ?_
    rw [decide_eq_decide, li k w]
    omega
  rw [ed]
  refine bif_f (pure_b (kC k) (pure_b (kC w) (pure_b (kS k) (pure_b (kS w) (pure_b same_ok (bif_f ?_))))))
  have l0 := ha.1
  have c1 : catT (⟨cut a none (some (39 : Int))⟩ : Tup Int) (⟨[(a.length : Int) + (1 : Int)]⟩ : Tup Int) = W.pure ⟨a.take 39 ++ [(a.length : Int) + 1]⟩ := by
    rw [show cut a none (some (39 : Int)) = a.take 39 from cut_take a 39]
    exact need_pure (by show (a.take 39).length + 1 ≤ _; rw [List.length_take]; omega)
  have cf : cut a (some (1 : Int)) none = a.drop 1 := cut_from a 0
  have c2 : ∀ x : Int, catT (⟨[x]⟩ : Tup Int) (⟨cut a (some (1 : Int)) none⟩ : Tup Int) = W.pure ⟨[x] ++ a.drop 1⟩ := fun x => by
    rw [cf]
    exact need_pure (by show 1 + (a.drop 1).length ≤ _; rw [List.length_drop]; omega)
  have c3 : repT (⟨[true]⟩ : Tup Bool) (a.length : Int) = W.pure ⟨(List.replicate a.length [true]).flatten⟩ := need_pure ⟨by omega, by omega, by simp, by simp⟩
  refine pure_b c1 (pure_b (c2 _) (pure_b c3 (pure_b (c2 _) ?_)))
  refine of_b ⟨by simp, by simp⟩ fun d hd => ?_
  have bd : BadD d := by
    simp only [List.mem_cons, List.not_mem_nil, or_false] at hd
    rcases hd with rfl | rfl | rfl | rfl | rfl | rfl | rfl | rfl | rfl
    · exact ⟨rfl, .inl rfl⟩
    · exact bad_int (x := (a.length : Int) + 1) (by simp) (.inr (by simp only [List.length_append, List.length_take, List.length_singleton]; omega))
    · exact bad_int (x := (a.length : Int)) (by simp) (.inr (by simp only [List.length_append, List.length_drop, List.length_singleton]; omega))
    · refine bad_in (fun x hx => ?_) (x := .bl true) ?_ rfl
      · obtain ⟨y, _, rfl⟩ := List.mem_map.mp hx
        rfl
      · refine List.mem_map.mpr ⟨true, ?_, rfl⟩
        refine List.mem_flatten.mpr ⟨[true], List.mem_replicate.mpr ⟨by omega, rfl⟩, by simp⟩
    · exact ⟨rfl, .inl rfl⟩
    · exact ⟨rfl, .inr ⟨[], rfl, fun x hx => (by cases hx), rfl⟩⟩
    · exact ⟨rfl, .inl rfl⟩
    · exact ⟨rfl, .inl rfl⟩
    · exact bad_int (x := -1) (by simp) (.inl (by decide))
  have rb : ∀ {α : Type} [Py α] {m : W α}, m = W.raise "InvalidChange" (.int 0) → nx (m_law_refused (m.bind fun v => W.pure (toD v))) = W.pure (.int 0) := fun {α} _ {m} h => ref_bad (by rw [h]; rfl)
  refine pure_b (rb (pow_bad bd 2)) (pure_b (rb (tail_bad bd)) (pure_b (need_pure (by decide)) ?_))
  refine pure_b (rb (ring_bad bd)) (pure_b (need_pure (by decide)) ?_)
  refine pure_b (rb (lc_bad bd 0)) (pure_b (need_pure (by decide)) ?_)
  refine pure_b (show repW [(0 : Int)] (4 : Int) = W.pure [0, 0, 0, 0] from need_pure ⟨by decide, by decide, by decide⟩) ?_
  show (m_law_same (D.lst [.int 0, .int 0, .int 0, .int 0], D.lst [.int 0, .int 0, .int 0, .int 0])).wp _ _
  rw [same_ok]
  rfl
set_option maxHeartbeats 2000001
theorem exm_sub {K : PySem.W.Frag} {A S : Addr} {r : Bool} (h1 : PySem.W.subIn K (.ref S) (.type "BaseException") = some true) (h2 : PySem.W.isClsIn K S = true) (h3 : PySem.W.typeIn K (.ref S) = some (.type "type")) (h4 : PySem.W.subIn K (.ref A) (.ref S) = some r) : PySem.W.exmOne K (.ref A) (.ref S) = some r := by
  have e1 : (PySem.W.subIn K (.ref S) (.type "BaseException") == some true) = true := by rw [h1] <;> rfl
  have e2 : ((PySem.W.clsIn K S).isSome && PySem.W.typeIn K (.ref S) == some (.type "type")) = true := by
    have h2' : (PySem.W.clsIn K S).isSome = true := h2
    rw [h2', h3] <;> rfl
  show (if (PySem.W.subIn K (.ref S) (.type "BaseException") == some true) = true then (if ((PySem.W.clsIn K S).isSome && PySem.W.typeIn K (.ref S) == some (.type "type")) = true then PySem.W.subIn K (.ref A) (.ref S) else none) else none) = some r
  rw [if_pos e1, if_pos e2]
  exact h4
theorem all_mk {l : PySem.W.OpenLaw} {w : World} {K : PySem.W.Frag} {h : Heap} {mg : Str → Option Value} {fa f0 f1 f2 f3 f4 f5 f6 f7 f8 f9 f10 f11 f12 f13 f14 f15 f16 f17 f18 f19 f20 f21 f22 f23 f24 f25 f26 f27 f28 f29 f30 f31 f32 f33 f34 : Addr} (X : K.In h) (G : h.Ns mainGlobals mg) (hfa : mg "law" = some (.ref fa)) (htop : (l.prog.main.scope.names.lookup ("super" : Str)).isSome = false)
    {od0 an0 od1 an1 od2 an2 od3 an3 od4 an4 od5 an5 od6 an6 od7 an7 od8 an8 od9 an9 od10 an10 od11 an11 od12 an12 od13 an13 od14 an14 od15 an15 od16 an16 od17 an17 od18 an18 od19 an19 od20 an20 od21 an21 od22 an22 od23 an23 od24 an24 od25 an25 od26 an26 od27 an27 od28 an28 od29 an29 od30 an30 od31 an31 od32 an32 od33 an33 od34 an34 : Option Addr} {sl0 sl1 sl2 sl3 sl4 sl5 sl6 sl7 sl8 sl9 sl10 sl11 sl12 sl13 sl14 sl15 sl16 sl17 sl18 sl19 sl20 sl21 sl22 sl23 sl24 sl25 sl26 sl27 sl28 sl29 sl30 sl31 sl32 sl33 sl34 : Array (Option Value)} {oc0 kV0 dc0 pm0 cd0 ct0 oc1 kV1 dc1 pm1 cd1 ct1 oc2 kV2 dc2 pm2 cd2 ct2 oc3 kV3 dc3 pm3 cd3 ct3 oc4 kV4 dc4 pm4 cd4 ct4 oc5 kV5 dc5 pm5 cd5 ct5 oc6 kV6 dc6 pm6 cd6 ct6 oc7 kV7 dc7 pm7 cd7 ct7 oc8 kV8 dc8 pm8 cd8 ct8 oc9 kV9 dc9 pm9 cd9 ct9 oc10 kV10 dc10 pm10 cd10 ct10 oc11 kV11 dc11 pm11 cd11 ct11 oc12 kV12 dc12 pm12 cd12 ct12 oc13 kV13 dc13 pm13 cd13 ct13 oc14 kV14 dc14 pm14 cd14 ct14 oc15 kV15 dc15 pm15 cd15 ct15 oc16 kV16 dc16 pm16 cd16 ct16 oc17 kV17 dc17 pm17 cd17 ct17 oc18 kV18 dc18 pm18 cd18 ct18 oc19 kV19 dc19 pm19 cd19 ct19 oc20 kV20 dc20 pm20 cd20 ct20 oc21 kV21 dc21 pm21 cd21 ct21 oc22 kV22 dc22 pm22 cd22 ct22 oc23 kV23 dc23 pm23 cd23 ct23 oc24 kV24 dc24 pm24 cd24 ct24 oc25 kV25 dc25 pm25 cd25 ct25 oc26 kV26 dc26 pm26 cd26 ct26 oc27 kV27 dc27 pm27 cd27 ct27 oc28 kV28 dc28 pm28 cd28 ct28 oc29 kV29 dc29 pm29 cd29 ct29 oc30 kV30 dc30 pm30 cd30 ct30 oc31 kV31 dc31 pm31 cd31 ct31 oc32 kV32 dc32 pm32 cd32 ct32 oc33 kV33 dc33 pm33 cd33 ct33 oc34 kV34 dc34 pm34 ct34 : Value}
    {C_InvalidChange fI_InvalidChange cda_InvalidChange cc_InvalidChange : Addr} {nm_InvalidChange q_InvalidChange : Str} {N_InvalidChange : Addr} {bs_InvalidChange : List Value} {sn_InvalidChange : List Str} {sub_InvalidChange : List Value} {ab_InvalidChange : Bool} {col_InvalidChange : Option Bool} {dd_InvalidChange : Option Addr} {m0_InvalidChange m1_InvalidChange m2_InvalidChange m3_InvalidChange m5_InvalidChange : Option Value} {bm_InvalidChange : List Value} {qual_InvalidChange msg_InvalidChange : Str} {oc_InvalidChange doc_InvalidChange pm_InvalidChange ct_InvalidChange : Value} {od_InvalidChange an_InvalidChange : Option Addr} {osl_InvalidChange : Array (Option Value)} {j_InvalidChange : Nat} {p1_InvalidChange p2_InvalidChange q0_InvalidChange q1_InvalidChange q2_InvalidChange q3_InvalidChange q4_InvalidChange q5_InvalidChange q6_InvalidChange q7_InvalidChange q8_InvalidChange q9_InvalidChange : Pos} {ccl_InvalidChange : Value} {cdd_InvalidChange : Option Addr} {vs_InvalidChange : Array Value} {ccs_InvalidChange : Array (Option Value)} {file_InvalidChange : Str} {tf_InvalidChange : Tok} {cl_InvalidChange : Value} {cld_InvalidChange : Option Addr} {csl_InvalidChange : Array (Option Value)}
    {cL bL : Addr} {ddL : Option Addr} {vsL : Array Value} {slL : Array (Option Value)}
    (a0 : PySem.W.nsIn K mainGlobals "is_integer" = some (some (.ref f0))) (l0 : K.lookup f0 = some ⟨oc0, od0, .func (PySem.W.fnOf "is_integer" "is_integer" (defArgs s_is_integer) (defBody s_is_integer) (defScope s_is_integer) .none kV0 dc0 pm0 an0 cd0 ct0), sl0⟩) (c0 : PySem.W.codeIn K cd0 "is_integer" = true) (k0 : PySem.W.keepIn K (.ref f0) = true)
    (a1 : PySem.W.nsIn K mainGlobals "is_number" = some (some (.ref f1))) (l1 : K.lookup f1 = some ⟨oc1, od1, .func (PySem.W.fnOf "is_number" "is_number" (defArgs s_is_number) (defBody s_is_number) (defScope s_is_number) .none kV1 dc1 pm1 an1 cd1 ct1), sl1⟩) (c1 : PySem.W.codeIn K cd1 "is_number" = true) (k1 : PySem.W.keepIn K (.ref f1) = true)
    (a2 : PySem.W.nsIn K mainGlobals "is_index" = some (some (.ref f2))) (l2 : K.lookup f2 = some ⟨oc2, od2, .func (PySem.W.fnOf "is_index" "is_index" (defArgs s_is_index) (defBody s_is_index) (defScope s_is_index) .none kV2 dc2 pm2 an2 cd2 ct2), sl2⟩) (c2 : PySem.W.codeIn K cd2 "is_index" = true) (k2 : PySem.W.keepIn K (.ref f2) = true)
    (a3 : PySem.W.nsIn K mainGlobals "common_divisor" = some (some (.ref f3))) (l3 : K.lookup f3 = some ⟨oc3, od3, .func (PySem.W.fnOf "common_divisor" "common_divisor" (defArgs s_common_divisor) (defBody s_common_divisor) (defScope s_common_divisor) .none kV3 dc3 pm3 an3 cd3 ct3), sl3⟩) (c3 : PySem.W.codeIn K cd3 "common_divisor" = true) (k3 : PySem.W.keepIn K (.ref f3) = true)
    (a4 : PySem.W.nsIn K mainGlobals "common_multiple" = some (some (.ref f4))) (l4 : K.lookup f4 = some ⟨oc4, od4, .func (PySem.W.fnOf "common_multiple" "common_multiple" (defArgs s_common_multiple) (defBody s_common_multiple) (defScope s_common_multiple) .none kV4 dc4 pm4 an4 cd4 ct4), sl4⟩) (c4 : PySem.W.codeIn K cd4 "common_multiple" = true) (k4 : PySem.W.keepIn K (.ref f4) = true)
    (a5 : PySem.W.nsIn K mainGlobals "checked_change" = some (some (.ref f5))) (l5 : K.lookup f5 = some ⟨oc5, od5, .func (PySem.W.fnOf "checked_change" "checked_change" (defArgs s_checked_change) (defBody s_checked_change) (defScope s_checked_change) .none kV5 dc5 pm5 an5 cd5 ct5), sl5⟩) (c5 : PySem.W.codeIn K cd5 "checked_change" = true) (k5 : PySem.W.keepIn K (.ref f5) = true)
    (a6 : PySem.W.nsIn K mainGlobals "idle" = some (some (.ref f6))) (l6 : K.lookup f6 = some ⟨oc6, od6, .func (PySem.W.fnOf "idle" "idle" (defArgs s_idle) (defBody s_idle) (defScope s_idle) .none kV6 dc6 pm6 an6 cd6 ct6), sl6⟩) (c6 : PySem.W.codeIn K cd6 "idle" = true) (k6 : PySem.W.keepIn K (.ref f6) = true)
    (a7 : PySem.W.nsIn K mainGlobals "after" = some (some (.ref f7))) (l7 : K.lookup f7 = some ⟨oc7, od7, .func (PySem.W.fnOf "after" "after" (defArgs s_after) (defBody s_after) (defScope s_after) .none kV7 dc7 pm7 an7 cd7 ct7), sl7⟩) (c7 : PySem.W.codeIn K cd7 "after" = true) (k7 : PySem.W.keepIn K (.ref f7) = true)
    (a8 : PySem.W.nsIn K mainGlobals "raised" = some (some (.ref f8))) (l8 : K.lookup f8 = some ⟨oc8, od8, .func (PySem.W.fnOf "raised" "raised" (defArgs s_raised) (defBody s_raised) (defScope s_raised) .none kV8 dc8 pm8 an8 cd8 ct8), sl8⟩) (c8 : PySem.W.codeIn K cd8 "raised" = true) (k8 : PySem.W.keepIn K (.ref f8) = true)
    (a9 : PySem.W.nsIn K mainGlobals "size_of" = some (some (.ref f9))) (l9 : K.lookup f9 = some ⟨oc9, od9, .func (PySem.W.fnOf "size_of" "size_of" (defArgs s_size_of) (defBody s_size_of) (defScope s_size_of) .none kV9 dc9 pm9 an9 cd9 ct9), sl9⟩) (c9 : PySem.W.codeIn K cd9 "size_of" = true) (k9 : PySem.W.keepIn K (.ref f9) = true)
    (a10 : PySem.W.nsIn K mainGlobals "checked" = some (some (.ref f10))) (l10 : K.lookup f10 = some ⟨oc10, od10, .func (PySem.W.fnOf "checked" "checked" (defArgs s_checked) (defBody s_checked) (defScope s_checked) .none kV10 dc10 pm10 an10 cd10 ct10), sl10⟩) (c10 : PySem.W.codeIn K cd10 "checked" = true) (k10 : PySem.W.keepIn K (.ref f10) = true)
    (a11 : PySem.W.nsIn K mainGlobals "power" = some (some (.ref f11))) (l11 : K.lookup f11 = some ⟨oc11, od11, .func (PySem.W.fnOf "power" "power" (defArgs s_power) (defBody s_power) (defScope s_power) .none kV11 dc11 pm11 an11 cd11 ct11), sl11⟩) (c11 : PySem.W.codeIn K cd11 "power" = true) (k11 : PySem.W.keepIn K (.ref f11) = true)
    (a12 : PySem.W.nsIn K mainGlobals "tail_and_ring" = some (some (.ref f12))) (l12 : K.lookup f12 = some ⟨oc12, od12, .func (PySem.W.fnOf "tail_and_ring" "tail_and_ring" (defArgs s_tail_and_ring) (defBody s_tail_and_ring) (defScope s_tail_and_ring) .none kV12 dc12 pm12 an12 cd12 ct12), sl12⟩) (c12 : PySem.W.codeIn K cd12 "tail_and_ring" = true) (k12 : PySem.W.keepIn K (.ref f12) = true)
    (a13 : PySem.W.nsIn K mainGlobals "tail" = some (some (.ref f13))) (l13 : K.lookup f13 = some ⟨oc13, od13, .func (PySem.W.fnOf "tail" "tail" (defArgs s_tail) (defBody s_tail) (defScope s_tail) .none kV13 dc13 pm13 an13 cd13 ct13), sl13⟩) (c13 : PySem.W.codeIn K cd13 "tail" = true) (k13 : PySem.W.keepIn K (.ref f13) = true)
    (a14 : PySem.W.nsIn K mainGlobals "ring" = some (some (.ref f14))) (l14 : K.lookup f14 = some ⟨oc14, od14, .func (PySem.W.fnOf "ring" "ring" (defArgs s_ring) (defBody s_ring) (defScope s_ring) .none kV14 dc14 pm14 an14 cd14 ct14), sl14⟩) (c14 : PySem.W.codeIn K cd14 "ring" = true) (k14 : PySem.W.keepIn K (.ref f14) = true)
    (a15 : PySem.W.nsIn K mainGlobals "least_count" = some (some (.ref f15))) (l15 : K.lookup f15 = some ⟨oc15, od15, .func (PySem.W.fnOf "least_count" "least_count" (defArgs s_least_count) (defBody s_least_count) (defScope s_least_count) .none kV15 dc15 pm15 an15 cd15 ct15), sl15⟩) (c15 : PySem.W.codeIn K cd15 "least_count" = true) (k15 : PySem.W.keepIn K (.ref f15) = true)
    (a16 : PySem.W.nsIn K mainGlobals "_law_same" = some (some (.ref f16))) (l16 : K.lookup f16 = some ⟨oc16, od16, .func (PySem.W.fnOf "_law_same" "_law_same" (defArgs s_law_same) (defBody s_law_same) (defScope s_law_same) .none kV16 dc16 pm16 an16 cd16 ct16), sl16⟩) (c16 : PySem.W.codeIn K cd16 "_law_same" = true) (k16 : PySem.W.keepIn K (.ref f16) = true)
    (a17 : PySem.W.nsIn K mainGlobals "_law_draw" = some (some (.ref f17))) (l17 : K.lookup f17 = some ⟨oc17, od17, .func (PySem.W.fnOf "_law_draw" "_law_draw" (defArgs s_law_draw) (defBody s_law_draw) (defScope s_law_draw) .none kV17 dc17 pm17 an17 cd17 ct17), sl17⟩) (c17 : PySem.W.codeIn K cd17 "_law_draw" = true) (k17 : PySem.W.keepIn K (.ref f17) = true)
    (a18 : PySem.W.nsIn K mainGlobals "_law_any" = some (some (.ref f18))) (l18 : K.lookup f18 = some ⟨oc18, od18, .func (PySem.W.fnOf "_law_any" "_law_any" (defArgs s_law_any) (defBody s_law_any) (defScope s_law_any) .none kV18 dc18 pm18 an18 cd18 ct18), sl18⟩) (c18 : PySem.W.codeIn K cd18 "_law_any" = true) (k18 : PySem.W.keepIn K (.ref f18) = true)
    (a19 : PySem.W.nsIn K mainGlobals "_law_of" = some (some (.ref f19))) (l19 : K.lookup f19 = some ⟨oc19, od19, .func (PySem.W.fnOf "_law_of" "_law_of" (defArgs s_law_of) (defBody s_law_of) (defScope s_law_of) .none kV19 dc19 pm19 an19 cd19 ct19), sl19⟩) (c19 : PySem.W.codeIn K cd19 "_law_of" = true) (k19 : PySem.W.keepIn K (.ref f19) = true)
    (a20 : PySem.W.nsIn K mainGlobals "_law_mixed" = some (some (.ref f20))) (l20 : K.lookup f20 = some ⟨oc20, od20, .func (PySem.W.fnOf "_law_mixed" "_law_mixed" (defArgs s_law_mixed) (defBody s_law_mixed) (defScope s_law_mixed) .none kV20 dc20 pm20 an20 cd20 ct20), sl20⟩) (c20 : PySem.W.codeIn K cd20 "_law_mixed" = true) (k20 : PySem.W.keepIn K (.ref f20) = true)
    (a21 : PySem.W.nsIn K mainGlobals "_law_then" = some (some (.ref f21))) (l21 : K.lookup f21 = some ⟨oc21, od21, .func (PySem.W.fnOf "_law_then" "_law_then" (defArgs s_law_then) (defBody s_law_then) (defScope s_law_then) .none kV21 dc21 pm21 an21 cd21 ct21), sl21⟩) (c21 : PySem.W.codeIn K cd21 "_law_then" = true) (k21 : PySem.W.keepIn K (.ref f21) = true)
    (a22 : PySem.W.nsIn K mainGlobals "_law_power" = some (some (.ref f22))) (l22 : K.lookup f22 = some ⟨oc22, od22, .func (PySem.W.fnOf "_law_power" "_law_power" (defArgs s_law_power) (defBody s_law_power) (defScope s_law_power) .none kV22 dc22 pm22 an22 cd22 ct22), sl22⟩) (c22 : PySem.W.codeIn K cd22 "_law_power" = true) (k22 : PySem.W.keepIn K (.ref f22) = true)
    (a23 : PySem.W.nsIn K mainGlobals "_law_place" = some (some (.ref f23))) (l23 : K.lookup f23 = some ⟨oc23, od23, .func (PySem.W.fnOf "_law_place" "_law_place" (defArgs s_law_place) (defBody s_law_place) (defScope s_law_place) .none kV23 dc23 pm23 an23 cd23 ct23), sl23⟩) (c23 : PySem.W.codeIn K cd23 "_law_place" = true) (k23 : PySem.W.keepIn K (.ref f23) = true)
    (a24 : PySem.W.nsIn K mainGlobals "_law_two" = some (some (.ref f24))) (l24 : K.lookup f24 = some ⟨oc24, od24, .func (PySem.W.fnOf "_law_two" "_law_two" (defArgs s_law_two) (defBody s_law_two) (defScope s_law_two) .none kV24 dc24 pm24 an24 cd24 ct24), sl24⟩) (c24 : PySem.W.codeIn K cd24 "_law_two" = true) (k24 : PySem.W.keepIn K (.ref f24) = true)
    (a25 : PySem.W.nsIn K mainGlobals "_law_members" = some (some (.ref f25))) (l25 : K.lookup f25 = some ⟨oc25, od25, .func (PySem.W.fnOf "_law_members" "_law_members" (defArgs s_law_members) (defBody s_law_members) (defScope s_law_members) .none kV25 dc25 pm25 an25 cd25 ct25), sl25⟩) (c25 : PySem.W.codeIn K cd25 "_law_members" = true) (k25 : PySem.W.keepIn K (.ref f25) = true)
    (a26 : PySem.W.nsIn K mainGlobals "_law_falling" = some (some (.ref f26))) (l26 : K.lookup f26 = some ⟨oc26, od26, .func (PySem.W.fnOf "_law_falling" "_law_falling" (defArgs s_law_falling) (defBody s_law_falling) (defScope s_law_falling) .none kV26 dc26 pm26 an26 cd26 ct26), sl26⟩) (c26 : PySem.W.codeIn K cd26 "_law_falling" = true) (k26 : PySem.W.keepIn K (.ref f26) = true)
    (a27 : PySem.W.nsIn K mainGlobals "_law_columns" = some (some (.ref f27))) (l27 : K.lookup f27 = some ⟨oc27, od27, .func (PySem.W.fnOf "_law_columns" "_law_columns" (defArgs s_law_columns) (defBody s_law_columns) (defScope s_law_columns) .none kV27 dc27 pm27 an27 cd27 ct27), sl27⟩) (c27 : PySem.W.codeIn K cd27 "_law_columns" = true) (k27 : PySem.W.keepIn K (.ref f27) = true)
    (a28 : PySem.W.nsIn K mainGlobals "_law_change" = some (some (.ref f28))) (l28 : K.lookup f28 = some ⟨oc28, od28, .func (PySem.W.fnOf "_law_change" "_law_change" (defArgs s_law_change) (defBody s_law_change) (defScope s_law_change) .none kV28 dc28 pm28 an28 cd28 ct28), sl28⟩) (c28 : PySem.W.codeIn K cd28 "_law_change" = true) (k28 : PySem.W.keepIn K (.ref f28) = true)
    (a29 : PySem.W.nsIn K mainGlobals "_law_walk" = some (some (.ref f29))) (l29 : K.lookup f29 = some ⟨oc29, od29, .func (PySem.W.fnOf "_law_walk" "_law_walk" (defArgs s_law_walk) (defBody s_law_walk) (defScope s_law_walk) .none kV29 dc29 pm29 an29 cd29 ct29), sl29⟩) (c29 : PySem.W.codeIn K cd29 "_law_walk" = true) (k29 : PySem.W.keepIn K (.ref f29) = true)
    (a30 : PySem.W.nsIn K mainGlobals "_law_by_states" = some (some (.ref f30))) (l30 : K.lookup f30 = some ⟨oc30, od30, .func (PySem.W.fnOf "_law_by_states" "_law_by_states" (defArgs s_law_by_states) (defBody s_law_by_states) (defScope s_law_by_states) .none kV30 dc30 pm30 an30 cd30 ct30), sl30⟩) (c30 : PySem.W.codeIn K cd30 "_law_by_states" = true) (k30 : PySem.W.keepIn K (.ref f30) = true)
    (a31 : PySem.W.nsIn K mainGlobals "_law_least" = some (some (.ref f31))) (l31 : K.lookup f31 = some ⟨oc31, od31, .func (PySem.W.fnOf "_law_least" "_law_least" (defArgs s_law_least) (defBody s_law_least) (defScope s_law_least) .none kV31 dc31 pm31 an31 cd31 ct31), sl31⟩) (c31 : PySem.W.codeIn K cd31 "_law_least" = true) (k31 : PySem.W.keepIn K (.ref f31) = true)
    (a32 : PySem.W.nsIn K mainGlobals "_law_refused" = some (some (.ref f32))) (l32 : K.lookup f32 = some ⟨oc32, od32, .func (PySem.W.fnOf "_law_refused" "_law_refused" (defArgs s_law_refused) (defBody s_law_refused) (defScope s_law_refused) .none kV32 dc32 pm32 an32 cd32 ct32), sl32⟩) (c32 : PySem.W.codeIn K cd32 "_law_refused" = true) (k32 : PySem.W.keepIn K (.ref f32) = true)
    (a33 : PySem.W.nsIn K mainGlobals "_law_rings" = some (some (.ref f33))) (l33 : K.lookup f33 = some ⟨oc33, od33, .func (PySem.W.fnOf "_law_rings" "_law_rings" (defArgs s_law_rings) (defBody s_law_rings) (defScope s_law_rings) .none kV33 dc33 pm33 an33 cd33 ct33), sl33⟩) (c33 : PySem.W.codeIn K cd33 "_law_rings" = true) (k33 : PySem.W.keepIn K (.ref f33) = true)
    (a34 : PySem.W.nsIn K mainGlobals "law" = some (some (.ref f34))) (l34 : K.lookup f34 = some ⟨oc34, od34, .func (PySem.W.fnOf "law" "law" (defArgs s_law) (defBody s_law) (defScope s_law) .none kV34 dc34 pm34 an34 (.ref cL) ct34), sl34⟩) (c34 : PySem.W.codeIn K (.ref cL) "law" = true) (k34 : PySem.W.keepIn K (.ref f34) = true)
    (lcL : K.lookup cL = some ⟨.type "code", ddL, .fields vsL, slL⟩) (v11 : vsL[11]? = some (.ref bL)) (hdL : PySem.W.codeHdIn K cL bL = true) (nT : K.lookup bL = none)
    (z0 : PySem.W.nsIn K mainGlobals "len" = some none)
    (z1 : PySem.W.nsIn K mainGlobals "isinstance" = some none)
    (z2 : PySem.W.nsIn K mainGlobals "range" = some none)
    (z3 : PySem.W.nsIn K mainGlobals "tuple" = some none)
    (z4 : PySem.W.nsIn K mainGlobals "list" = some none)
    (z5 : PySem.W.nsIn K mainGlobals "int" = some none)
    (z6 : PySem.W.nsIn K mainGlobals "all" = some none)
    (z7 : PySem.W.nsIn K mainGlobals "any" = some none)
    (z8 : PySem.W.nsIn K mainGlobals "max" = some none)
    (z9 : PySem.W.nsIn K mainGlobals "min" = some none)
    (z10 : PySem.W.nsIn K mainGlobals "abs" = some none)
    (z11 : PySem.W.nsIn K mainGlobals "sum" = some none)
    (z12 : PySem.W.nsIn K mainGlobals "sorted" = some none)
    (z13 : PySem.W.nsIn K mainGlobals "set" = some none)
    (z14 : PySem.W.nsIn K mainGlobals "enumerate" = some none)
    (z15 : PySem.W.nsIn K mainGlobals "zip" = some none)
    (z16 : PySem.W.nsIn K mainGlobals "repr" = some none)
    (z17 : PySem.W.nsIn K mainGlobals "str" = some none)
    (z18 : PySem.W.nsIn K mainGlobals "bool" = some none)
    (zs : PySem.W.nsIn K mainGlobals "super" = some none) (za : PySem.W.nsIn K cStatics "thirdparty.any" = some none)
    (aC_InvalidChange : PySem.W.nsIn K mainGlobals "InvalidChange" = some (some (.ref C_InvalidChange))) (xL_InvalidChange : K.lookup C_InvalidChange = some (excClassObj nm_InvalidChange q_InvalidChange C_InvalidChange N_InvalidChange bs_InvalidChange bm_InvalidChange true sn_InvalidChange sub_InvalidChange ab_InvalidChange col_InvalidChange dd_InvalidChange m0_InvalidChange m1_InvalidChange m2_InvalidChange m3_InvalidChange m5_InvalidChange "ValueError.__new__")) (rb_InvalidChange : PySem.HandSPX.refsVE bm_InvalidChange = true)
    (sa_InvalidChange : PySem.W.findIn K (.ref C_InvalidChange) "__setattr__" = some (some (.builtin "object.__setattr__"))) (ga_InvalidChange : PySem.W.findIn K (.ref C_InvalidChange) "__getattribute__" = some (some (.builtin "BaseException.__getattribute__"))) (gg_InvalidChange : PySem.W.findIn K (.ref C_InvalidChange) "__getattr__" = some none) (nb_InvalidChange : PySem.W.findIn K (.ref C_InvalidChange) "at" = some none)
    (aI_InvalidChange : PySem.W.findIn K (.ref C_InvalidChange) "__init__" = some (some (.ref fI_InvalidChange))) (tI_InvalidChange : PySem.W.typeIn K (.ref fI_InvalidChange) = some (.type "function"))
    (lI_InvalidChange : K.lookup fI_InvalidChange = some ⟨oc_InvalidChange, od_InvalidChange, .func (PySem.W.ksFn "__init__" qual_InvalidChange (Bq.iA p1_InvalidChange p2_InvalidChange) (Bq.iB msg_InvalidChange j_InvalidChange q0_InvalidChange q1_InvalidChange q2_InvalidChange q3_InvalidChange q4_InvalidChange q5_InvalidChange q6_InvalidChange q7_InvalidChange q8_InvalidChange q9_InvalidChange) Bq.iS .none .none doc_InvalidChange pm_InvalidChange an_InvalidChange (.ref cda_InvalidChange) ct_InvalidChange cc_InvalidChange), osl_InvalidChange⟩) (cI_InvalidChange : PySem.W.codeIn K (.ref cda_InvalidChange) qual_InvalidChange = true) (ln_InvalidChange : (q2_InvalidChange.endLine == q4_InvalidChange.line) = true)
    (kC_InvalidChange : PySem.W.keepIn K (.ref C_InvalidChange) = true) (eC_InvalidChange : PySem.W.subIn K (.ref C_InvalidChange) (.type "BaseException") = some true) (tC_InvalidChange : PySem.W.typeIn K (.ref C_InvalidChange) = some (.type "type")) (hC_InvalidChange : PySem.W.hasDictIn K C_InvalidChange = true) (iC_InvalidChange : PySem.W.isClsIn K C_InvalidChange = true) (sC_InvalidChange : PySem.W.subIn K (.ref C_InvalidChange) (.ref C_InvalidChange) = some true)
    (lc_InvalidChange : K.lookup cda_InvalidChange = some ⟨ccl_InvalidChange, cdd_InvalidChange, .fields vs_InvalidChange, ccs_InvalidChange⟩) (v2_InvalidChange : vs_InvalidChange[2]? = some (.str file_InvalidChange tf_InvalidChange)) (fe_InvalidChange : ((l.prog.main.file : Str) == file_InvalidChange) = true) (ce_InvalidChange : K.lookup cc_InvalidChange = some ⟨cl_InvalidChange, cld_InvalidChange, .cell (some (.ref C_InvalidChange)), csl_InvalidChange⟩)
    (su_InvalidChange : PySem.W.ks_superIn K C_InvalidChange C_InvalidChange "__init__" = some (some (.builtin "ValueError.__init__"))) (sv_InvalidChange : PySem.W.subIn K (.ref C_InvalidChange) (.type "ValueError") = some true) (mr_InvalidChange : PySem.W.mroIn K C_InvalidChange (.ref C_InvalidChange) = some true) (xi_InvalidChange : PySem.W.excInitIn K C_InvalidChange Bq.bmV "ValueError.__new__" = true)
    : ∃ (fd : FuncData) (c0 b0 : Addr), (∃ oc od osl, K.lookup fa = some ⟨oc, od, .func fd, osl⟩) ∧ fd.code = .ref c0 ∧ K.lookup b0 = none ∧ PySem.W.codeHdIn K c0 b0 = true ∧ (∀ (s : Shared) (v : Value), BindsTo s fd ⟨[v], []⟩ [("script", v)]) ∧ ∀ base : Heap, K.In base → base.Ns mainGlobals mg → LamX.TabB base mg c0 b0 → RunAt callerA l.prog w K mg base (L2.CX l.prog w) fa ["script"] (spLawT K b0) := by
  have e := hfa.symm.trans (PySem.W.mg_of X G a34)
  cases e
  refine ⟨PySem.W.fnOf "law" "law" (defArgs s_law) (defBody s_law) (defScope s_law) .none kV34 dc34 pm34 an34 (.ref cL) ct34, cL, bL, ⟨_, _, _, l34⟩, rfl, nT, hdL, fun s v => .of_eq rfl, fun base _ _ TB0 => ?_⟩
  let u : Wd := ⟨l.prog, w, K, mg, base, fun t => if t = "InvalidChange" then some C_InvalidChange else none⟩
  have wo : WOk u := ⟨fun x hx => by
    simp only [bnames, List.mem_cons, List.not_mem_nil, or_false] at hx
    rcases hx with rfl | rfl | rfl | rfl | rfl | rfl | rfl | rfl | rfl | rfl | rfl | rfl | rfl | rfl | rfl | rfl | rfl | rfl | rfl
    · exact PySem.W.mg_none_of X G z0
    · exact PySem.W.mg_none_of X G z1
    · exact PySem.W.mg_none_of X G z2
    · exact PySem.W.mg_none_of X G z3
    · exact PySem.W.mg_none_of X G z4
    · exact PySem.W.mg_none_of X G z5
    · exact PySem.W.mg_none_of X G z6
    · exact PySem.W.mg_none_of X G z7
    · exact PySem.W.mg_none_of X G z8
    · exact PySem.W.mg_none_of X G z9
    · exact PySem.W.mg_none_of X G z10
    · exact PySem.W.mg_none_of X G z11
    · exact PySem.W.mg_none_of X G z12
    · exact PySem.W.mg_none_of X G z13
    · exact PySem.W.mg_none_of X G z14
    · exact PySem.W.mg_none_of X G z15
    · exact PySem.W.mg_none_of X G z16
    · exact PySem.W.mg_none_of X G z17
    · exact PySem.W.mg_none_of X G z18⟩
  have F0 : Fun u.K "is_integer" "is_integer" s_is_integer _ _ := fun_mk (st := s_is_integer) l0 c0 k0
  have b0 := F0.binds (ps := ["value"]) fun _ _ _ _ _ _ us hl => match us, hl with | [_], _ => rfl
  have m0 : u.mg "is_integer" = some (.ref _) := PySem.W.mg_of X G a0
  have F1 : Fun u.K "is_number" "is_number" s_is_number _ _ := fun_mk (st := s_is_number) l1 c1 k1
  have b1 := F1.binds (ps := ["value"]) fun _ _ _ _ _ _ us hl => match us, hl with | [_], _ => rfl
  have m1 : u.mg "is_number" = some (.ref _) := PySem.W.mg_of X G a1
  have F2 : Fun u.K "is_index" "is_index" s_is_index _ _ := fun_mk (st := s_is_index) l2 c2 k2
  have b2 := F2.binds (ps := ["value", "many"]) fun _ _ _ _ _ _ us hl => match us, hl with | [_, _], _ => rfl
  have m2 : u.mg "is_index" = some (.ref _) := PySem.W.mg_of X G a2
  have F3 : Fun u.K "common_divisor" "common_divisor" s_common_divisor _ _ := fun_mk (st := s_common_divisor) l3 c3 k3
  have b3 := F3.binds (ps := ["one", "other"]) fun _ _ _ _ _ _ us hl => match us, hl with | [_, _], _ => rfl
  have m3 : u.mg "common_divisor" = some (.ref _) := PySem.W.mg_of X G a3
  have F4 : Fun u.K "common_multiple" "common_multiple" s_common_multiple _ _ := fun_mk (st := s_common_multiple) l4 c4 k4
  have b4 := F4.binds (ps := ["one", "other"]) fun _ _ _ _ _ _ us hl => match us, hl with | [_, _], _ => rfl
  have m4 : u.mg "common_multiple" = some (.ref _) := PySem.W.mg_of X G a4
  have F5 : Fun u.K "checked_change" "checked_change" s_checked_change _ _ := fun_mk (st := s_checked_change) l5 c5 k5
  have b5 := F5.binds (ps := ["states", "value"]) fun _ _ _ _ _ _ us hl => match us, hl with | [_, _], _ => rfl
  have m5 : u.mg "checked_change" = some (.ref _) := PySem.W.mg_of X G a5
  have F6 : Fun u.K "idle" "idle" s_idle _ _ := fun_mk (st := s_idle) l6 c6 k6
  have b6 := F6.binds (ps := ["states"]) fun _ _ _ _ _ _ us hl => match us, hl with | [_], _ => rfl
  have m6 : u.mg "idle" = some (.ref _) := PySem.W.mg_of X G a6
  have F7 : Fun u.K "after" "after" s_after _ _ := fun_mk (st := s_after) l7 c7 k7
  have b7 := F7.binds (ps := ["one", "other"]) fun _ _ _ _ _ _ us hl => match us, hl with | [_, _], _ => rfl
  have m7 : u.mg "after" = some (.ref _) := PySem.W.mg_of X G a7
  have F8 : Fun u.K "raised" "raised" s_raised _ _ := fun_mk (st := s_raised) l8 c8 k8
  have b8 := F8.binds (ps := ["change", "count"]) fun _ _ _ _ _ _ us hl => match us, hl with | [_, _], _ => rfl
  have m8 : u.mg "raised" = some (.ref _) := PySem.W.mg_of X G a8
  have F9 : Fun u.K "size_of" "size_of" s_size_of _ _ := fun_mk (st := s_size_of) l9 c9 k9
  have b9 := F9.binds (ps := ["change"]) fun _ _ _ _ _ _ us hl => match us, hl with | [_], _ => rfl
  have m9 : u.mg "size_of" = some (.ref _) := PySem.W.mg_of X G a9
  have F10 : Fun u.K "checked" "checked" s_checked _ _ := fun_mk (st := s_checked) l10 c10 k10
  have b10 := F10.binds (ps := ["change"]) fun _ _ _ _ _ _ us hl => match us, hl with | [_], _ => rfl
  have m10 : u.mg "checked" = some (.ref _) := PySem.W.mg_of X G a10
  have F11 : Fun u.K "power" "power" s_power _ _ := fun_mk (st := s_power) l11 c11 k11
  have b11 := F11.binds (ps := ["change", "count"]) fun _ _ _ _ _ _ us hl => match us, hl with | [_, _], _ => rfl
  have m11 : u.mg "power" = some (.ref _) := PySem.W.mg_of X G a11
  have F12 : Fun u.K "tail_and_ring" "tail_and_ring" s_tail_and_ring _ _ := fun_mk (st := s_tail_and_ring) l12 c12 k12
  have b12 := F12.binds (ps := ["change"]) fun _ _ _ _ _ _ us hl => match us, hl with | [_], _ => rfl
  have m12 : u.mg "tail_and_ring" = some (.ref _) := PySem.W.mg_of X G a12
  have F13 : Fun u.K "tail" "tail" s_tail _ _ := fun_mk (st := s_tail) l13 c13 k13
  have b13 := F13.binds (ps := ["change"]) fun _ _ _ _ _ _ us hl => match us, hl with | [_], _ => rfl
  have m13 : u.mg "tail" = some (.ref _) := PySem.W.mg_of X G a13
  have F14 : Fun u.K "ring" "ring" s_ring _ _ := fun_mk (st := s_ring) l14 c14 k14
  have b14 := F14.binds (ps := ["change"]) fun _ _ _ _ _ _ us hl => match us, hl with | [_], _ => rfl
  have m14 : u.mg "ring" = some (.ref _) := PySem.W.mg_of X G a14
  have F15 : Fun u.K "least_count" "least_count" s_least_count _ _ := fun_mk (st := s_least_count) l15 c15 k15
  have b15 := F15.binds (ps := ["change", "count"]) fun _ _ _ _ _ _ us hl => match us, hl with | [_, _], _ => rfl
  have m15 : u.mg "least_count" = some (.ref _) := PySem.W.mg_of X G a15
  have F16 : Fun u.K "_law_same" "_law_same" s_law_same _ _ := fun_mk (st := s_law_same) l16 c16 k16
  have b16 := F16.binds (ps := ["told", "due"]) fun _ _ _ _ _ _ us hl => match us, hl with | [_, _], _ => rfl
  have m16 : u.mg "_law_same" = some (.ref _) := PySem.W.mg_of X G a16
  have F17 : Fun u.K "_law_draw" "_law_draw" s_law_draw _ _ := fun_mk (st := s_law_draw) l17 c17 k17
  have b17 := F17.binds (ps := ["script", "salt"]) fun _ _ _ _ _ _ us hl => match us, hl with | [_, _], _ => rfl
  have m17 : u.mg "_law_draw" = some (.ref _) := PySem.W.mg_of X G a17
  have F18 : Fun u.K "_law_any" "_law_any" s_law_any _ _ := fun_mk (st := s_law_any) l18 c18 k18
  have b18 := F18.binds (ps := ["deal", "bound"]) fun _ _ _ _ _ _ us hl => match us, hl with | [_, _], _ => rfl
  have m18 : u.mg "_law_any" = some (.ref _) := PySem.W.mg_of X G a18
  have F19 : Fun u.K "_law_of" "_law_of" s_law_of _ _ := fun_mk (st := s_law_of) l19 c19 k19
  have b19 := F19.binds (ps := ["deal", "some"]) fun _ _ _ _ _ _ us hl => match us, hl with | [_, _], _ => rfl
  have m19 : u.mg "_law_of" = some (.ref _) := PySem.W.mg_of X G a19
  have F20 : Fun u.K "_law_mixed" "_law_mixed" s_law_mixed _ _ := fun_mk (st := s_law_mixed) l20 c20 k20
  have b20 := F20.binds (ps := ["deal", "some"]) fun _ _ _ _ _ _ us hl => match us, hl with | [_, _], _ => rfl
  have m20 : u.mg "_law_mixed" = some (.ref _) := PySem.W.mg_of X G a20
  have F21 : Fun u.K "_law_then" "_law_then" s_law_then _ _ := fun_mk (st := s_law_then) l21 c21 k21
  have b21 := F21.binds (ps := ["one", "other"]) fun _ _ _ _ _ _ us hl => match us, hl with | [_, _], _ => rfl
  have m21 : u.mg "_law_then" = some (.ref _) := PySem.W.mg_of X G a21
  have F22 : Fun u.K "_law_power" "_law_power" s_law_power _ _ := fun_mk (st := s_law_power) l22 c22 k22
  have b22 := F22.binds (ps := ["one", "count"]) fun _ _ _ _ _ _ us hl => match us, hl with | [_, _], _ => rfl
  have m22 : u.mg "_law_power" = some (.ref _) := PySem.W.mg_of X G a22
  have F23 : Fun u.K "_law_place" "_law_place" s_law_place _ _ := fun_mk (st := s_law_place) l23 c23 k23
  have b23 := F23.binds (ps := ["many", "s", "q", "r", "side"]) fun _ _ _ _ _ _ us hl => match us, hl with | [_, _, _, _, _], _ => rfl
  have m23 : u.mg "_law_place" = some (.ref _) := PySem.W.mg_of X G a23
  have F24 : Fun u.K "_law_two" "_law_two" s_law_two _ _ := fun_mk (st := s_law_two) l24 c24 k24
  have b24 := F24.binds (ps := ["firsts", "end"]) fun _ _ _ _ _ _ us hl => match us, hl with | [_, _], _ => rfl
  have m24 : u.mg "_law_two" = some (.ref _) := PySem.W.mg_of X G a24
  have F25 : Fun u.K "_law_members" "_law_members" s_law_members _ _ := fun_mk (st := s_law_members) l25 c25 k25
  have b25 := F25.binds (ps := ["firsts", "end", "most"]) fun _ _ _ _ _ _ us hl => match us, hl with | [_, _, _], _ => rfl
  have m25 : u.mg "_law_members" = some (.ref _) := PySem.W.mg_of X G a25
  have F26 : Fun u.K "_law_falling" "_law_falling" s_law_falling _ _ := fun_mk (st := s_law_falling) l26 c26 k26
  have b26 := F26.binds (ps := ["deal", "most"]) fun _ _ _ _ _ _ us hl => match us, hl with | [_, _], _ => rfl
  have m26 : u.mg "_law_falling" = some (.ref _) := PySem.W.mg_of X G a26
  have F27 : Fun u.K "_law_columns" "_law_columns" s_law_columns _ _ := fun_mk (st := s_law_columns) l27 c27 k27
  have b27 := F27.binds (ps := ["many", "deal", "form"]) fun _ _ _ _ _ _ us hl => match us, hl with | [_, _, _], _ => rfl
  have m27 : u.mg "_law_columns" = some (.ref _) := PySem.W.mg_of X G a27
  have F28 : Fun u.K "_law_change" "_law_change" s_law_change _ _ := fun_mk (st := s_law_change) l28 c28 k28
  have b28 := F28.binds (ps := ["deal"]) fun _ _ _ _ _ _ us hl => match us, hl with | [_], _ => rfl
  have m28 : u.mg "_law_change" = some (.ref _) := PySem.W.mg_of X G a28
  have F29 : Fun u.K "_law_walk" "_law_walk" s_law_walk _ _ := fun_mk (st := s_law_walk) l29 c29 k29
  have b29 := F29.binds (ps := ["change"]) fun _ _ _ _ _ _ us hl => match us, hl with | [_], _ => rfl
  have m29 : u.mg "_law_walk" = some (.ref _) := PySem.W.mg_of X G a29
  have F30 : Fun u.K "_law_by_states" "_law_by_states" s_law_by_states _ _ := fun_mk (st := s_law_by_states) l30 c30 k30
  have b30 := F30.binds (ps := ["change"]) fun _ _ _ _ _ _ us hl => match us, hl with | [_], _ => rfl
  have m30 : u.mg "_law_by_states" = some (.ref _) := PySem.W.mg_of X G a30
  have F31 : Fun u.K "_law_least" "_law_least" s_law_least _ _ := fun_mk (st := s_law_least) l31 c31 k31
  have b31 := F31.binds (ps := ["first", "length", "count"]) fun _ _ _ _ _ _ us hl => match us, hl with | [_, _, _], _ => rfl
  have m31 : u.mg "_law_least" = some (.ref _) := PySem.W.mg_of X G a31
  have F32 : Fun u.K "_law_refused" "_law_refused" s_law_refused _ _ := fun_mk (st := s_law_refused) l32 c32 k32
  have b32 := F32.binds (ps := ["work"]) fun _ _ _ _ _ _ us hl => match us, hl with | [_], _ => rfl
  have m32 : u.mg "_law_refused" = some (.ref _) := PySem.W.mg_of X G a32
  have F33 : Fun u.K "_law_rings" "_law_rings" s_law_rings _ _ := fun_mk (st := s_law_rings) l33 c33 k33
  have b33 := F33.binds (ps := ["deal"]) fun _ _ _ _ _ _ us hl => match us, hl with | [_], _ => rfl
  have m33 : u.mg "_law_rings" = some (.ref _) := PySem.W.mg_of X G a33
  have F34 : Fun u.K "law" "law" s_law _ _ := fun_mk (st := s_law) l34 c34 k34
  have b34 := F34.binds (ps := ["script"]) fun _ _ _ _ _ _ us hl => match us, hl with | [_], _ => rfl
  have m34 : u.mg "law" = some (.ref _) := PySem.W.mg_of X G a34
  have hx_InvalidChange : XOk u "InvalidChange" C_InvalidChange := ⟨(show (if "InvalidChange" = "InvalidChange" then some C_InvalidChange else none) = some C_InvalidChange from by simp), ⟨fI_InvalidChange, cda_InvalidChange, cc_InvalidChange,
    { gC := PySem.W.mg_of X G aC_InvalidChange, cls := ⟨nm_InvalidChange, q_InvalidChange, N_InvalidChange, bs_InvalidChange, bm_InvalidChange, sn_InvalidChange, sub_InvalidChange, ab_InvalidChange, col_InvalidChange, dd_InvalidChange, m0_InvalidChange, m1_InvalidChange, m2_InvalidChange, m3_InvalidChange, m5_InvalidChange, xL_InvalidChange, rb_InvalidChange⟩, sa := sa_InvalidChange, ga := ga_InvalidChange, gg := gg_InvalidChange, noN := nb_InvalidChange, iC := aI_InvalidChange, tC := tI_InvalidChange, kC := kC_InvalidChange, exC := eC_InvalidChange, tyC := tC_InvalidChange, hdC := hC_InvalidChange, isC := iC_InvalidChange,
      fn := ⟨_, _, _, _, _, _, _, _, _, _, _, _, _, _, _, _, _, _, _, _, _, _, lI_InvalidChange, cI_InvalidChange, ln_InvalidChange⟩, code := ⟨_, _, _, _, _, _, lc_InvalidChange, v2_InvalidChange, fe_InvalidChange⟩, cell := ⟨_, _, _, ce_InvalidChange⟩, sup := su_InvalidChange, any := za, sbV := sv_InvalidChange, mro := mr_InvalidChange, nsup := PySem.W.mg_none_of X G zs, top := htop, xi := xi_InvalidChange }⟩, fun t' C' h => by
    replace h : (if t' = "InvalidChange" then some C_InvalidChange else none) = some C' := h
    by_cases q_InvalidChange : t' = "InvalidChange"
    · subst q_InvalidChange
      simp at h
      subst h
      rw [exm_sub eC_InvalidChange iC_InvalidChange tC_InvalidChange sC_InvalidChange, beq_self_eq_true]
    · rw [if_neg q_InvalidChange] at h
      cases h⟩
  have hk_least_count_count_change : KwB u "least_count" ["change", "count"] ["count", "change"] [1, 0] := kwb_of F15 m15 fun _ _ _ _ _ _ ws hl => match ws, hl with | [_, _], _ => rfl
  have hk_power_count_change : KwB u "power" ["change", "count"] ["count", "change"] [1, 0] := kwb_of F11 m11 fun _ _ _ _ _ _ ws hl => match ws, hl with | [_, _], _ => rfl
  have hk_ring_change : KwB u "ring" ["change"] ["change"] [0] := kwb_of F14 m14 fun _ _ _ _ _ _ ws hl => match ws, hl with | [_], _ => rfl
  have hk_tail_change : KwB u "tail" ["change"] ["change"] [0] := kwb_of F13 m13 fun _ _ _ _ _ _ ws hl => match ws, hl with | [_], _ => rfl
  have h_law_any := ok_law_any wo F18 m18 b18 
  have h_law_of := @ok_law_of u wo _ _ F19 m19 b19 h_law_any
  have h_is_integer := ok_is_integer wo F0 m0 b0 
  have h_is_number := ok_is_number wo F1 m1 b1 h_is_integer
  have h_is_index := ok_is_index wo F2 m2 b2 h_is_number
  have h_common_divisor := ok_common_divisor wo F3 m3 b3 
  have h_common_multiple := ok_common_multiple wo F4 m4 b4 h_common_divisor
  have h_checked_change := ok_checked_change wo F5 m5 b5 h_is_index hx_InvalidChange
  have h_idle := ok_idle wo F6 m6 b6 
  have h_after := ok_after wo F7 m7 b7 
  have h_raised := ok_raised wo F8 m8 b8 h_after h_idle
  have h_size_of := ok_size_of wo F9 m9 b9 
  have h_checked := ok_checked wo F10 m10 b10 h_checked_change h_size_of
  have h_power := ok_power wo F11 m11 b11 h_checked h_raised
  have h_tail_and_ring := ok_tail_and_ring wo F12 m12 b12 h_common_multiple
  have h_tail := ok_tail wo F13 m13 b13 h_checked h_tail_and_ring
  have h_ring := ok_ring wo F14 m14 b14 h_checked h_tail_and_ring
  have h_least_count := ok_least_count wo F15 m15 b15 h_checked h_tail_and_ring
  have h_law_same := ok_law_same wo F16 m16 b16 
  have h_law_mixed := @ok_law_mixed u wo _ _ F20 m20 b20 h_law_any
  have h_law_then := ok_law_then wo F21 m21 b21 
  have h_law_power := ok_law_power wo F22 m22 b22 
  have h_law_place := ok_law_place wo F23 m23 b23 
  have h_law_two := ok_law_two wo F24 m24 b24 h_law_place h_law_power
  have h_law_members := ok_law_members wo F25 m25 b25 
  have h_law_falling := ok_law_falling wo F26 m26 b26 h_law_any h_law_members h_law_of
  have h_law_columns := ok_law_columns wo F27 m27 b27 h_law_any h_law_mixed
  have h_law_rings := ok_law_rings wo F33 m33 b33 h_law_any h_law_mixed h_law_of
  have h_law_change := ok_law_change wo F28 m28 b28 h_law_any h_law_columns h_law_falling h_law_of h_law_rings h_law_two
  have h_law_walk := ok_law_walk wo F29 m29 b29 h_law_then
  have h_law_by_states := ok_law_by_states wo F30 m30 b30 
  have h_law_least := ok_law_least wo F31 m31 b31 
  have h_law_refused := ok_law_refused wo F32 m32 b32 hx_InvalidChange
  exact law_okT (n := 13) wo F34 rfl TB0 sc_law m17 k17 b17 (ok_law_draw wo F17) (by decide) rfl ⟨by decide, by decide⟩ rfl rfl rfl (Or.inl rfl) (by first | exact Or.inl rfl | exact Or.inr rfl) rfl ⟨rfl, by decide, by decide⟩ (fun X P Wx hu hb hgd ta d => tb_law wo h_law_any h_law_by_states h_law_change h_law_least h_law_of h_law_power h_law_refused h_law_same h_law_then h_law_walk h_least_count h_power h_ring h_tail hk_least_count_count_change hk_power_count_change hk_ring_change hk_tail_change X P Wx hu hb hgd ta d) m_law_true
end K
open PySem PySem.W PyProof.Rows
set_option maxHeartbeats 0 in
theorem PySem.Challenge.cw_bodiesalike_k02_powers_tails_and_rings_holds : PySem.Challenge.rw_bodiesalike_k02_powers_tails_and_rings.Holds := by
  w_on; o_law; k_head; (case hw => w_witness2)
  k_fill
  refine L2.walk_ofT (l := PySem.Challenge.rw_bodiesalike_k02_powers_tails_and_rings) (n := 63) (x := "script") (CX := fun w => L2.CX (PySem.Challenge.rw_bodiesalike_k02_powers_tails_and_rings).prog w) (sp := fun w b0 => Z.spLawT _ b0) rfl (by decide) rfl (by decide +kernel) (fun w h Y => by first | exact PySem.W.km_in_of Y | exact PySem.W.kIn_of Y) ?F (fun _ _ a b0 ns hl h1 h2 hS => ⟨a, ns, rfl, hS, hl, h1, h2, fun _ => rfl⟩) (fun _ _ _ _ _ h => by obtain ⟨_, _, _, _, _, _, _, _, _, _, _, _, z⟩ := h; exact z)
  case F =>
    intro w mg fa h KX G hmg
    refine' K.all_mk KX G hmg (by decide +kernel) ?g_a0 ?g_l0 ?g_c0 ?g_k0 ?g_a1 ?g_l1 ?g_c1 ?g_k1 ?g_a2 ?g_l2 ?g_c2 ?g_k2 ?g_a3 ?g_l3 ?g_c3 ?g_k3 ?g_a4 ?g_l4 ?g_c4 ?g_k4 ?g_a5 ?g_l5 ?g_c5 ?g_k5 ?g_a6 ?g_l6 ?g_c6 ?g_k6 ?g_a7 ?g_l7 ?g_c7 ?g_k7 ?g_a8 ?g_l8 ?g_c8 ?g_k8 ?g_a9 ?g_l9 ?g_c9 ?g_k9 ?g_a10 ?g_l10 ?g_c10 ?g_k10 ?g_a11 ?g_l11 ?g_c11 ?g_k11 ?g_a12 ?g_l12 ?g_c12 ?g_k12 ?g_a13 ?g_l13 ?g_c13 ?g_k13 ?g_a14 ?g_l14 ?g_c14 ?g_k14 ?g_a15 ?g_l15 ?g_c15 ?g_k15 ?g_a16 ?g_l16 ?g_c16 ?g_k16 ?g_a17 ?g_l17 ?g_c17 ?g_k17 ?g_a18 ?g_l18 ?g_c18 ?g_k18 ?g_a19 ?g_l19 ?g_c19 ?g_k19 ?g_a20 ?g_l20 ?g_c20 ?g_k20 ?g_a21 ?g_l21 ?g_c21 ?g_k21 ?g_a22 ?g_l22 ?g_c22 ?g_k22 ?g_a23 ?g_l23 ?g_c23 ?g_k23 ?g_a24 ?g_l24 ?g_c24 ?g_k24 ?g_a25 ?g_l25 ?g_c25 ?g_k25 ?g_a26 ?g_l26 ?g_c26 ?g_k26 ?g_a27 ?g_l27 ?g_c27 ?g_k27 ?g_a28 ?g_l28 ?g_c28 ?g_k28 ?g_a29 ?g_l29 ?g_c29 ?g_k29 ?g_a30 ?g_l30 ?g_c30 ?g_k30 ?g_a31 ?g_l31 ?g_c31 ?g_k31 ?g_a32 ?g_l32 ?g_c32 ?g_k32 ?g_a33 ?g_l33 ?g_c33 ?g_k33 ?g_a34 ?g_l34 ?g_c34 ?g_k34 ?g_lcL ?g_v11 ?g_hdL ?g_nT ?g_z0 ?g_z1 ?g_z2 ?g_z3 ?g_z4 ?g_z5 ?g_z6 ?g_z7 ?g_z8 ?g_z9 ?g_z10 ?g_z11 ?g_z12 ?g_z13 ?g_z14 ?g_z15 ?g_z16 ?g_z17 ?g_z18 ?g_zs ?g_za ?g_aC_InvalidChange ?g_xL_InvalidChange ?g_rb_InvalidChange ?g_sa_InvalidChange ?g_ga_InvalidChange ?g_gg_InvalidChange ?g_nb_InvalidChange ?g_aI_InvalidChange ?g_tI_InvalidChange ?g_lI_InvalidChange ?g_cI_InvalidChange ?g_ln_InvalidChange ?g_kC_InvalidChange ?g_eC_InvalidChange ?g_tC_InvalidChange ?g_hC_InvalidChange ?g_iC_InvalidChange ?g_sC_InvalidChange ?g_lc_InvalidChange ?g_v2_InvalidChange ?g_fe_InvalidChange ?g_ce_InvalidChange ?g_su_InvalidChange ?g_sv_InvalidChange ?g_mr_InvalidChange ?g_xi_InvalidChange
    (case g_a0 => k_is)
    (case g_l0 => k_is)
    (case g_c0 => k_is)
    (case g_k0 => k_is)
    (case g_a1 => k_is)
    (case g_l1 => k_is)
    (case g_c1 => k_is)
    (case g_k1 => k_is)
    (case g_a2 => k_is)
    (case g_l2 => k_is)
    (case g_c2 => k_is)
    (case g_k2 => k_is)
    (case g_a3 => k_is)
    (case g_l3 => k_is)
    (case g_c3 => k_is)
    (case g_k3 => k_is)
    (case g_a4 => k_is)
    (case g_l4 => k_is)
    (case g_c4 => k_is)
    (case g_k4 => k_is)
    (case g_a5 => k_is)
    (case g_l5 => k_is)
    (case g_c5 => k_is)
    (case g_k5 => k_is)
    (case g_a6 => k_is)
    (case g_l6 => k_is)
    (case g_c6 => k_is)
    (case g_k6 => k_is)
    (case g_a7 => k_is)
    (case g_l7 => k_is)
    (case g_c7 => k_is)
    (case g_k7 => k_is)
    (case g_a8 => k_is)
    (case g_l8 => k_is)
    (case g_c8 => k_is)
    (case g_k8 => k_is)
    (case g_a9 => k_is)
    (case g_l9 => k_is)
    (case g_c9 => k_is)
    (case g_k9 => k_is)
    (case g_a10 => k_is)
    (case g_l10 => k_is)
    (case g_c10 => k_is)
    (case g_k10 => k_is)
    (case g_a11 => k_is)
    (case g_l11 => k_is)
    (case g_c11 => k_is)
    (case g_k11 => k_is)
    (case g_a12 => k_is)
    (case g_l12 => k_is)
    (case g_c12 => k_is)
    (case g_k12 => k_is)
    (case g_a13 => k_is)
    (case g_l13 => k_is)
    (case g_c13 => k_is)
    (case g_k13 => k_is)
    (case g_a14 => k_is)
    (case g_l14 => k_is)
    (case g_c14 => k_is)
    (case g_k14 => k_is)
    (case g_a15 => k_is)
    (case g_l15 => k_is)
    (case g_c15 => k_is)
    (case g_k15 => k_is)
    (case g_a16 => k_is)
    (case g_l16 => k_is)
    (case g_c16 => k_is)
    (case g_k16 => k_is)
    (case g_a17 => k_is)
    (case g_l17 => k_is)
    (case g_c17 => k_is)
    (case g_k17 => k_is)
    (case g_a18 => k_is)
    (case g_l18 => k_is)
    (case g_c18 => k_is)
    (case g_k18 => k_is)
    (case g_a19 => k_is)
    (case g_l19 => k_is)
    (case g_c19 => k_is)
    (case g_k19 => k_is)
    (case g_a20 => k_is)
    (case g_l20 => k_is)
    (case g_c20 => k_is)
    (case g_k20 => k_is)
    (case g_a21 => k_is)
    (case g_l21 => k_is)
    (case g_c21 => k_is)
    (case g_k21 => k_is)
    (case g_a22 => k_is)
    (case g_l22 => k_is)
    (case g_c22 => k_is)
    (case g_k22 => k_is)
    (case g_a23 => k_is)
    (case g_l23 => k_is)
    (case g_c23 => k_is)
    (case g_k23 => k_is)
    (case g_a24 => k_is)
    (case g_l24 => k_is)
    (case g_c24 => k_is)
    (case g_k24 => k_is)
    (case g_a25 => k_is)
    (case g_l25 => k_is)
    (case g_c25 => k_is)
    (case g_k25 => k_is)
    (case g_a26 => k_is)
    (case g_l26 => k_is)
    (case g_c26 => k_is)
    (case g_k26 => k_is)
    (case g_a27 => k_is)
    (case g_l27 => k_is)
    (case g_c27 => k_is)
    (case g_k27 => k_is)
    (case g_a28 => k_is)
    (case g_l28 => k_is)
    (case g_c28 => k_is)
    (case g_k28 => k_is)
    (case g_a29 => k_is)
    (case g_l29 => k_is)
    (case g_c29 => k_is)
    (case g_k29 => k_is)
    (case g_a30 => k_is)
    (case g_l30 => k_is)
    (case g_c30 => k_is)
    (case g_k30 => k_is)
    (case g_a31 => k_is)
    (case g_l31 => k_is)
    (case g_c31 => k_is)
    (case g_k31 => k_is)
    (case g_a32 => k_is)
    (case g_l32 => k_is)
    (case g_c32 => k_is)
    (case g_k32 => k_is)
    (case g_a33 => k_is)
    (case g_l33 => k_is)
    (case g_c33 => k_is)
    (case g_k33 => k_is)
    (case g_a34 => k_is)
    (case g_l34 => k_is)
    (case g_c34 => k_is)
    (case g_k34 => k_is)
    (case g_lcL => k_is)
    (case g_v11 => first | rfl | decide +kernel)
    (case g_hdL => first | k_is | decide +kernel | rfl)
    (case g_nT => first | rfl | k_is | decide +kernel)
    (case g_z0 => k_is)
    (case g_z1 => k_is)
    (case g_z2 => k_is)
    (case g_z3 => k_is)
    (case g_z4 => k_is)
    (case g_z5 => k_is)
    (case g_z6 => k_is)
    (case g_z7 => k_is)
    (case g_z8 => k_is)
    (case g_z9 => k_is)
    (case g_z10 => k_is)
    (case g_z11 => k_is)
    (case g_z12 => k_is)
    (case g_z13 => k_is)
    (case g_z14 => k_is)
    (case g_z15 => k_is)
    (case g_z16 => k_is)
    (case g_z17 => k_is)
    (case g_z18 => k_is)
    (case g_zs => k_is)
    (case g_za => k_is)
    (case g_aC_InvalidChange => k_is)
    (case g_xL_InvalidChange => k_is)
    (case g_rb_InvalidChange => first | rfl | decide +kernel)
    (case g_sa_InvalidChange => k_is)
    (case g_ga_InvalidChange => k_is)
    (case g_gg_InvalidChange => k_is)
    (case g_nb_InvalidChange => k_is)
    (case g_aI_InvalidChange => k_is)
    (case g_tI_InvalidChange => k_is)
    (case g_lI_InvalidChange => k_is)
    (case g_cI_InvalidChange => k_is)
    (case g_ln_InvalidChange => first | rfl | decide +kernel)
    (case g_kC_InvalidChange => k_is)
    (case g_eC_InvalidChange => k_is)
    (case g_tC_InvalidChange => k_is)
    (case g_hC_InvalidChange => k_is)
    (case g_iC_InvalidChange => k_is)
    (case g_sC_InvalidChange => first | rfl | k_is)
    (case g_lc_InvalidChange => k_is)
    (case g_v2_InvalidChange => first | rfl | decide +kernel)
    (case g_fe_InvalidChange => first | rfl | decide +kernel)
    (case g_ce_InvalidChange => k_is)
    (case g_su_InvalidChange => ks_is)
    (case g_sv_InvalidChange => k_is)
    (case g_mr_InvalidChange => k_is)
    (case g_xi_InvalidChange => first | k_is | decide +kernel | rfl)

