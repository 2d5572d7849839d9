import PyProof.Rows.All
import Wide.All
import OpenK.AllK
import Wide.FinOn
import HandS.ForMost
import HandS.Wide
import HandS.Zip
import HandS.TupAny
import HandS.Walk
import HandS.IsInst
import HandS.FStr
import HandS.StrMore
import HandS.Style
import HandS.TupMul
import HandS.Flow
import HandS.Deep
import HandS.Codes
import HandS.Text
import KE.GoesNew
import HandS.Comp
import HandS.Small
import KE.KDictItemsList
import KE.KDictZip
import HandS.ReplaceLit
import PyProof.StrLawsLast
import PySem.Challenge.RW_downletsup_k87_leaves_as_texts_cut_and_b
set_option Elab.async false
set_option linter.all false
set_option maxRecDepth 100000
set_option maxHeartbeats 4000000
/-! A layer over the hand layer: an expression gives a DATUM (a tree of plain values), by a mirror in a monad with one hidden state (what is changed through references). -/
namespace Py
open PySem L2

/-- a datum -/
inductive D where
  | non | bl (b : Bool) | int (i : Int) | str (x : Str) | tup (ds : List D) | lst (ds : List D)
  /-- an instance of the class of a number: its fields' names, their data -/
  | obj (c : Nat) (ns : List Str) (ds : List D)
  /-- a known address, by number -/
  | ptr (n : Nat)

/-- what the numbers stand for -/
structure Tb where
  K : PySem.W.Frag
  cl : Nat → Option Addr
  pt : Nat → Option Addr

abbrev Ex (H H' : Hp) : Prop := Same H H'
theorem Ex.l {K : PySem.W.Frag} {H H' : Hp} {a : Addr} {xs : List V} (e : Ex H H') (h : SqL K H a xs) : SqL K H' a xs := Same.seq e h
theorem Ex.t {K : PySem.W.Frag} {H H' : Hp} {a : Addr} {xs : List V} (e : Ex H H') (h : SqT K H a xs) : SqT K H' a xs := by
  rcases h with (h | ⟨o, h⟩) | h
  · exact .inl (.inl (e _ _ h))
  · exact .inl (.inr ⟨o, e _ _ h⟩)
  · exact .inr h

mutual
/-- a value bears a datum in a heap -/
def Rp (T : Tb) (H : Hp) : D → V → Prop
  | .non, v => v = .non
  | .bl b, v => v = .bl b
  | .int i, v => v = .int i
  | .str x, v => v = .str x
  | .tup ds, v => ∃ a xs, v = .ref a ∧ SqT T.K H a xs ∧ Rps T H ds xs
  | .lst ds, v => ∃ a xs, v = .ref a ∧ H a = some (.lst xs) ∧ Rps T H ds xs
  | .obj c ns ds, v => ∃ a C dx fs, v = .ref a ∧ T.cl c = some C ∧ H a = some (.ins C dx fs) ∧ fs.map (·.1) = ns ∧ Rps T H ds (fs.map (·.2))
  | .ptr n, v => ∃ a, v = .ref a ∧ T.pt n = some a
def Rps (T : Tb) (H : Hp) : List D → List V → Prop
  | [], xs => xs = []
  | d :: ds, xs => ∃ y ys, xs = y :: ys ∧ Rp T H d y ∧ Rps T H ds ys
end
section
variable {T : Tb} {H H' : Hp}
mutual
theorem Rp.ex (e : Ex H H') : ∀ {d : D} {v : V}, Rp T H d v → Rp T H' d v
  | .non, _, h => h
  | .bl _, _, h => h
  | .int _, _, h => h
  | .str _, _, h => h
  | .tup ds, _, ⟨a, xs, e1, h, r⟩ => ⟨a, xs, e1, e.t h, Rps.ex e r⟩
  | .lst ds, _, ⟨a, xs, e1, h, r⟩ => ⟨a, xs, e1, e _ _ h, Rps.ex e r⟩
  | .obj c ns ds, _, ⟨a, C, dx, fs, e1, h1, h2, h3, r⟩ => ⟨a, C, dx, fs, e1, h1, e _ _ h2, h3, Rps.ex e r⟩
  | .ptr _, _, h => h
theorem Rps.ex (e : Ex H H') : ∀ {ds : List D} {vs : List V}, Rps T H ds vs → Rps T H' ds vs
  | [], _, h => h
  | _ :: _, _, ⟨y, ys, e1, h, r⟩ => ⟨y, ys, e1, Rp.ex e h, Rps.ex e r⟩
end
theorem Rps.nil : Rps T H [] [] := rfl
theorem Rps.cons {d : D} {ds : List D} {v : V} {vs : List V} (h : Rp T H d v) (r : Rps T H ds vs) : Rps T H (d :: ds) (v :: vs) := ⟨v, vs, rfl, h, r⟩
theorem Rps.length : ∀ {ds : List D} {vs : List V}, Rps T H ds vs → vs.length = ds.length
  | [], _, h => by cases h; rfl
  | _ :: _, _, ⟨_, _, e, _, r⟩ => by subst e; simp [Rps.length r]
theorem Rps.get : ∀ {ds : List D} {vs : List V} {i : Nat} {d : D}, Rps T H ds vs → ds[i]? = some d → ∃ v, vs[i]? = some v ∧ Rp T H d v
  | [], _, _, _, _, e => by simp at e
  | _ :: _, _, 0, _, ⟨y, ys, e1, h, r⟩, e => by subst e1; simp at e; subst e; exact ⟨y, rfl, h⟩
  | _ :: _, _, i + 1, _, ⟨y, ys, e1, h, r⟩, e => by subst e1; simp at e ⊢; exact Rps.get r e
theorem Rps.getV : ∀ {ds : List D} {vs : List V} {i : Nat} {v : V}, Rps T H ds vs → vs[i]? = some v → ∃ d, ds[i]? = some d ∧ Rp T H d v
  | [], _, _, _, h, e => by cases h; simp at e
  | _ :: _, _, 0, _, ⟨y, ys, e1, h, r⟩, e => by subst e1; simp at e; subst e; exact ⟨_, rfl, h⟩
  | _ :: _, _, i + 1, _, ⟨y, ys, e1, h, r⟩, e => by subst e1; simp at e ⊢; exact Rps.getV r e
theorem Rps.append : ∀ {ds es : List D} {vs ws : List V}, Rps T H ds vs → Rps T H es ws → Rps T H (ds ++ es) (vs ++ ws)
  | [], _, _, _, h, r => by cases h; exact r
  | _ :: _, _, _, _, ⟨y, ys, e1, h, q⟩, r => by subst e1; exact ⟨y, _, rfl, h, Rps.append q r⟩
theorem Rps.of_get : ∀ {ds : List D} {vs : List V}, vs.length = ds.length → (∀ (i : Nat) d v, ds[i]? = some d → vs[i]? = some v → Rp T H d v) → Rps T H ds vs
  | [], [], _, _ => rfl
  | [], _ :: _, l, _ => by simp at l
  | _ :: _, [], l, _ => by simp at l
  | d :: ds, v :: vs, l, h => ⟨v, vs, rfl, h 0 d v rfl rfl, Rps.of_get (by simpa using l) fun i d v h1 h2 => h (i + 1) d v (by simpa using h1) (by simpa using h2)⟩
theorem Rps.take {ds : List D} {vs : List V} (n : Nat) (h : Rps T H ds vs) : Rps T H (ds.take n) (vs.take n) :=
  .of_get (by simp [h.length]) fun i d v h1 h2 => by
    rw [List.getElem?_take] at h1 h2
    split at h1
    · rename_i hi
      rw [if_pos hi] at h2
      obtain ⟨w, e, r⟩ := h.get h1
      rw [e] at h2; cases h2; exact r
    · cases h1
theorem Rps.drop {ds : List D} {vs : List V} (n : Nat) (h : Rps T H ds vs) : Rps T H (ds.drop n) (vs.drop n) :=
  .of_get (by simp [h.length]) fun i d v h1 h2 => by
    rw [List.getElem?_drop] at h1 h2
    obtain ⟨w, e, r⟩ := h.get h1
    rw [e] at h2; cases h2; exact r
theorem Rps.dropLast {ds : List D} {vs : List V} (h : Rps T H ds vs) : Rps T H ds.dropLast vs.dropLast := by
  rw [List.dropLast_eq_take, List.dropLast_eq_take, h.length]; exact h.take _
theorem Rps.reverse : ∀ {ds : List D} {vs : List V}, Rps T H ds vs → Rps T H ds.reverse vs.reverse
  | [], _, h => by cases h; rfl
  | d :: ds, _, ⟨y, ys, e1, h, q⟩ => by subst e1; rw [List.reverse_cons, List.reverse_cons]; exact (Rps.reverse q).append ⟨y, [], rfl, h, rfl⟩
theorem Rps.set {ds : List D} {vs : List V} {d : D} {v : V} (j : Nat) (h : Rps T H ds vs) (r : Rp T H d v) : Rps T H (ds.set j d) (vs.set j v) :=
  .of_get (by simp [h.length]) fun i d' v' h1 h2 => by
    rw [List.getElem?_set] at h1 h2
    split at h1
    · rename_i hi
      rw [if_pos hi] at h2
      split at h1
      · cases h1
        split at h2
        · cases h2; exact r
        · cases h2
      · cases h1
    · rename_i hi
      rw [if_neg hi] at h2
      obtain ⟨w, e, r⟩ := h.get h1
      rw [e] at h2; cases h2; exact r
end

/-! ### the monad -/
abbrev M (γ α : Type) := γ → Option (α × γ)
section
variable {γ α β : Type}
def ret (a : α) : M γ α := fun g => some (a, g)
def bnd (m : M γ α) (k : α → M γ β) : M γ β := fun g => match m g with
  | none => none
  | some (a, g') => k a g'
def lft (o : Option α) : M γ α := fun g => match o with
  | none => none
  | some a => some (a, g)
def fl : M γ α := fun _ => none
theorem bnd_some {m : M γ α} {k : α → M γ β} {g g' : γ} {a : α} (h : m g = some (a, g')) : bnd m k g = k a g' := by unfold bnd; rw [h]
theorem bnd_inv {m : M γ α} {k : α → M γ β} {g g' : γ} {b : β} (h : bnd m k g = some (b, g')) : ∃ a g1, m g = some (a, g1) ∧ k a g1 = some (b, g') := by
  unfold bnd at h
  cases e : m g with
  | none => rw [e] at h; cases h
  | some p => obtain ⟨a, g1⟩ := p; rw [e] at h; exact ⟨a, g1, rfl, h⟩
theorem lft_inv {o : Option α} {g g' : γ} {a : α} (h : lft o g = some (a, g')) : o = some a ∧ g' = g := by
  unfold lft at h
  cases o with
  | none => cases h
  | some b => cases h; exact ⟨rfl, rfl⟩
theorem ret_inv {a b : α} {g g' : γ} (h : ret a g = some (b, g')) : b = a ∧ g' = g := by cases h; exact ⟨rfl, rfl⟩
@[simp] theorem bnd_ret (a : α) (k : α → M γ β) : bnd (ret a) k = k a := rfl
@[simp] theorem bnd_lft_some (a : α) (k : α → M γ β) : bnd (lft (some a)) k = k a := rfl
@[simp] theorem bnd_lft_none (k : α → M γ β) : bnd (lft none) k = fl := rfl
@[simp] theorem lft_some (a : α) : (lft (some a) : M γ α) = ret a := rfl
@[simp] theorem lft_none : (lft none : M γ α) = fl := rfl
@[simp] theorem bnd_fl (k : α → M γ β) : bnd fl k = fl := rfl
theorem bnd_assoc {δ : Type} (m : M γ α) (k : α → M γ β) (l : β → M γ δ) : bnd (bnd m k) l = bnd m fun a => bnd (k a) l := by
  funext g; unfold bnd; cases m g with
  | none => rfl
  | some p => rfl
/-- a condition -/
def chk (c : Bool) (m : M γ α) : M γ α := if c then m else fl
theorem chk_inv {c : Bool} {m : M γ α} {g g' : γ} {a : α} (h : chk c m g = some (a, g')) : c = true ∧ m g = some (a, g') := by
  unfold chk at h; split at h
  · rename_i hc; exact ⟨hc, h⟩
  · cases h
@[simp] theorem chk_true (m : M γ α) : chk true m = m := rfl
@[simp] theorem chk_false (m : M γ α) : chk false m = fl := rfl
end
def LIM : Nat := 16777216
theorem LIM_eq : LIM = sizeLine := by rw [sizeLine_eq]; rfl

/-! ### the hidden state -/
structure Gh where
  S : Type
  M : Addr → Prop
  I : S → Hp → Prop
  there : ∀ t H a, I t H → M a → H a ≠ none
  keep : ∀ t H H', I t H → (∀ a o, M a → H a = some o → H' a = some o) → I t H'
/-- nothing hidden -/
def gh0 : Gh := ⟨Unit, fun _ => False, fun _ _ => True, fun _ _ _ _ h => h.elim, fun _ _ _ _ _ => trivial⟩

/-- what a slot is known to hold: nothing, a datum that stands, a list that only this slot names -/
inductive Mo where
  | lst (ds : List D)
inductive Cell where
  | no | val (d : D) | own (m : Mo)
abbrev Env := List Cell

def MoOk (T : Tb) (F : Hp) (o : HO) : Mo → Prop
  | .lst ds => ∃ xs, o = .lst xs ∧ Rps T F ds xs
theorem MoOk.ex {T : Tb} {F F' : Hp} {o : HO} (e : Ex F F') : ∀ {m : Mo}, MoOk T F o m → MoOk T F' o m
  | .lst _, ⟨xs, e1, r⟩ => ⟨xs, e1, r.ex e⟩
def CellOk (T : Tb) (M : Addr → Prop) (F H : Hp) : Cell → Option V → Prop
  | .no, _ => True
  | .val d, o => ∃ v, o = some v ∧ Rp T F d v
  | .own m, o => ∃ a u, o = some (.ref a) ∧ F a = none ∧ ¬ M a ∧ H a = some u ∧ MoOk T F u m
def Own (σ : L2.St) (ρ : Env) (a : Addr) : Prop := ∃ (i : Nat) (m : Mo), ρ[i]? = some (.own m) ∧ σ[i]? = some (some (.ref a))

structure Stt (gh : Gh) (T : Tb) (F H : Hp) (σ : L2.St) (ρ : Env) (g : gh.S) : Prop where
  ext : Ex F H
  mf : ∀ a, gh.M a → F a = none
  gi : gh.I g H
  len : σ.length = ρ.length
  cell : ∀ (i : Nat) c, ρ[i]? = some c → ∃ o, σ[i]? = some o ∧ CellOk T gh.M F H c o
  sep : ∀ (i j : Nat) a m m', ρ[i]? = some (.own m) → ρ[j]? = some (.own m') → σ[i]? = some (some (.ref a)) → σ[j]? = some (some (.ref a)) → i = j

/-- behind an expression: F grows to G by new things -/
structure Post (gh : Gh) (F H G H' : Hp) (g' : gh.S) : Prop where
  fg : Ex F G
  gh' : Ex G H'
  hh : ∀ a o, ¬ gh.M a → H a = some o → H' a = some o
  nw : ∀ a, F a = none → H a ≠ none → G a = none
  gi : gh.I g' H'
/-- the same where the hidden state stands -/
structure Gr (F H G H' : Hp) : Prop where
  fg : Ex F G
  gh' : Ex G H'
  hh : Ex H H'
  nw : ∀ a, F a = none → H a ≠ none → G a = none
section
variable {gh : Gh} {T : Tb} {F H G H' G' H'' : Hp} {σ : L2.St} {ρ : Env} {g g' g'' : gh.S}
theorem Gr.refl (e : Ex F H) : Gr F H F H := ⟨Same.refl F, e, Same.refl H, fun _ h _ => h⟩
theorem Gr.new {p : Addr} {o : HO} (e : Ex F H) (h : H p = none) : Gr F H (upd F p o) (upd H p o) := by
  have hF : F p = none := e.free h
  refine ⟨fun b z q => ?_, fun b z q => ?_, fun b z q => ?_, fun b hb hn => ?_⟩
  · rw [upd_ne (ne_of_none q hF)]; exact q
  · by_cases hb : b = p
    · subst hb; rw [upd_same] at q ⊢; exact q
    · rw [upd_ne hb] at q ⊢; exact e b z q
  · rw [upd_ne (ne_of_none q h)]; exact q
  · have : b ≠ p := fun z => hn (z ▸ h)
    rw [upd_ne this]; exact hb
theorem Gr.trans (a : Gr F H G H') (b : Gr G H' G' H'') : Gr F H G' H'' :=
  ⟨a.fg.trans b.fg, b.gh', a.hh.trans b.hh, fun x h1 h2 => b.nw x (a.nw x h1 h2) fun z => by
    cases q : H x with
    | none => exact h2 q
    | some o => rw [a.hh x o q] at z; cases z⟩
theorem Gr.post (a : Gr F H G H') (h : gh.I g H) : Post gh F H G H' g := ⟨a.fg, a.gh', fun x o _ q => a.hh x o q, a.nw, gh.keep _ _ _ h fun x o _ q => a.hh x o q⟩
theorem Post.trans (hg : gh.I g H) (a : Post gh F H G H' g') (b : Post gh G H' G' H'' g'') : Post gh F H G' H'' g'' :=
  ⟨a.fg.trans b.fg, b.gh', fun x o m q => b.hh x o m (a.hh x o m q), fun x h1 h2 => b.nw x (a.nw x h1 h2) (fun z => by
    by_cases m : gh.M x
    · exact gh.there _ _ _ a.gi m z
    · cases q : H x with
      | none => exact h2 q
      | some o => rw [a.hh x o m q] at z; cases z), b.gi⟩
theorem Post.refl (S : Stt gh T F H σ ρ g) : Post gh F H F H g := (Gr.refl S.ext).post S.gi
theorem Stt.step (S : Stt gh T F H σ ρ g) (p : Post gh F H G H' g') : Stt gh T G H' σ ρ g' := by
  refine ⟨p.gh', fun a m => p.nw a (S.mf a m) (gh.there _ _ _ S.gi m), p.gi, S.len, fun i c hc => ?_, S.sep⟩
  obtain ⟨o, ho, h⟩ := S.cell i c hc
  refine ⟨o, ho, ?_⟩
  cases c with
  | no => trivial
  | val d => obtain ⟨v, e, r⟩ := h; exact ⟨v, e, r.ex p.fg⟩
  | own m =>
    obtain ⟨a, u, e, h1, h2, h3, h4⟩ := h
    exact ⟨a, u, e, p.nw a h1 (by rw [h3]; exact fun z => nomatch z), h2, p.hh a u h2 h3, h4.ex p.fg⟩
theorem Stt.val {i : Nat} {d : D} (S : Stt gh T F H σ ρ g) (h : ρ[i]? = some (.val d)) : ∃ v, σ[i]? = some (some v) ∧ Rp T F d v := by
  obtain ⟨o, ho, v, e, r⟩ := S.cell i _ h
  exact ⟨v, by rw [ho, e], r⟩
theorem Stt.own {i : Nat} {m : Mo} (S : Stt gh T F H σ ρ g) (h : ρ[i]? = some (.own m)) : ∃ a u, σ[i]? = some (some (.ref a)) ∧ F a = none ∧ ¬ gh.M a ∧ H a = some u ∧ MoOk T F u m := by
  obtain ⟨o, ho, a, u, e, r⟩ := S.cell i _ h
  exact ⟨a, u, by rw [ho, e], r⟩
end

/-! ### what evaluates to what -/
section
variable (gh : Gh) (T : Tb)
def EvD (te : TE) (ρ : Env) (m : M gh.S D) : Prop := ∀ F H σ g d g', Stt gh T F H σ ρ g → m g = some (d, g') → ∀ Q : VK, (∀ v H' G, Post gh F H G H' g' → Rp T G d v → Q v H') → te σ H Q
/-- a new list, that nothing else names -/
def EvN (te : TE) (ρ : Env) (m : M gh.S (List D)) : Prop := ∀ F H σ g ds g', Stt gh T F H σ ρ g → m g = some (ds, g') → ∀ Q : VK,
  (∀ p xs H' G, Post gh F H G H' g' → H p = none → G p = none → H' p = some (.lst xs) → Rps T G ds xs → Q (.ref p) H') → te σ H Q
/-- it stands while only the hidden things change -/
def QAt (gh : Gh) (K : PySem.W.Frag) (b : Bool) (a : Addr) (xs : List V) (H : Hp) : Prop := ∀ H2, (∀ x o, ¬ gh.M x → H x = some o → H2 x = some o) → (if b then H2 a = some (.lst xs) else SqT K H2 a xs)
/-- a list | a tuple to be read: is it a list, what it holds -/
def EvQ (te : TE) (ρ : Env) (m : M gh.S (Bool × List D)) : Prop := ∀ F H σ g b ds g', Stt gh T F H σ ρ g → m g = some ((b, ds), g') → ∀ Q : VK,
  (∀ a xs H' G, Post gh F H G H' g' → QAt gh T.K b a xs H' → Rps T G ds xs → Q (.ref a) H') → te σ H Q
def EvA (ta : TA) (ρ : Env) (m : M gh.S (List D)) : Prop := ∀ F H σ g ds g', Stt gh T F H σ ρ g → m g = some (ds, g') → ∀ Q : List V → Hp → Prop, (∀ vs H' G, Post gh F H G H' g' → Rps T G ds vs → Q vs H') → ta σ H Q
def EvT (tt : TT) (ρ : Env) (m : M gh.S Bool) : Prop := ∀ F H σ g b g', Stt gh T F H σ ρ g → m g = some (b, g') → ∀ Q : Bool → Hp → Prop, (∀ H' G, Post gh F H G H' g' → Q b H') → tt σ H Q
def EvO (to : TO) (ρ : Env) (m : M gh.S (Option Int)) : Prop := ∀ F H σ g o g', Stt gh T F H σ ρ g → m g = some (o, g') → ∀ Q : Option Int → Hp → Prop, (∀ H' G, Post gh F H G H' g' → Q o H') → to σ H Q
/-- operations by values -/
def OpOk (r : R2) (f : D → D → Option D) : Prop := ∀ F H x y z v u, f x y = some z → Rp T F x v → Rp T F y u → Ex F H → ∀ Q : VK, (∀ w H' G, Gr F H G H' → Rp T G z w → Q w H') → r v u H Q
def UnOk (r : V → Hp → VK → Prop) (f : D → Option D) : Prop := ∀ F H x z v, f x = some z → Rp T F x v → Ex F H → ∀ Q : VK, (∀ w H' G, Gr F H G H' → Rp T G z w → Q w H') → r v H Q
def CbOk (r : List V → Hp → VK → Prop) (f : List D → Option D) : Prop := ∀ F H ds z vs, f ds = some z → Rps T F ds vs → Ex F H → ∀ Q : VK, (∀ w H' G, Gr F H G H' → Rp T G z w → Q w H') → r vs H Q
def MtOk (r : V → List V → Hp → VK → Prop) (f : D → List D → Option D) : Prop := ∀ F H x ds z v vs, f x ds = some z → Rp T F x v → Rps T F ds vs → Ex F H → ∀ Q : VK, (∀ w H' G, Gr F H G H' → Rp T G z w → Q w H') → r v vs H Q
end
section
variable {gh : Gh} {T : Tb} {ρ : Env} {ta tb te tc : TE} {m m1 m2 : M gh.S D}
theorem EvD.of_eq {m m' : M gh.S D} (h : EvD gh T te ρ m') (e : m = m') : EvD gh T te ρ m := e ▸ h
theorem ev_var {i : Nat} {d : D} (h : ρ[i]? = some (.val d)) : EvD gh T (tVar i) ρ (ret d) := fun F H σ g d' g' S e Q k => by
  obtain ⟨rfl, rfl⟩ := ret_inv e
  obtain ⟨v, hv, r⟩ := S.val h
  exact ⟨v, hv, k v H F (.refl S) r⟩
theorem ev_c {v : V} {d : D} (h : ∀ F, Rp T F d v) : EvD gh T (tC v) ρ (ret d) := fun F H σ g d' g' S e Q k => by
  obtain ⟨rfl, rfl⟩ := ret_inv e
  exact k v H F (.refl S) (h F)
theorem ev_int {i : Int} : EvD gh T (tC (.int i)) ρ (ret (.int i)) := ev_c fun _ => rfl
theorem ev_str {x : Str} : EvD gh T (tC (.str x)) ρ (ret (.str x)) := ev_c fun _ => rfl
theorem ev_bl {b : Bool} : EvD gh T (tC (.bl b)) ρ (ret (.bl b)) := ev_c fun _ => rfl
theorem ev_non : EvD gh T (tC .non) ρ (ret .non) := ev_c fun _ => rfl
theorem ev_op {r : R2} {f : D → D → Option D} (ho : OpOk T r f) (ha : EvD gh T ta ρ m1) (hb : EvD gh T tb ρ m2) : EvD gh T (tOp r ta tb) ρ (bnd m1 fun x => bnd m2 fun y => lft (f x y)) := fun F H σ g d g' S e Q k => by
  obtain ⟨x, g1, e1, e⟩ := bnd_inv e
  obtain ⟨y, g2, e2, e⟩ := bnd_inv e
  obtain ⟨e', rfl⟩ := lft_inv e
  refine ha F H σ g x g1 S e1 _ fun v H1 G1 p1 r1 => hb G1 H1 σ g1 y _ (S.step p1) e2 _ fun u H2 G2 p2 r2 => ?_
  exact ho G2 H2 x y d v u e' (r1.ex p2.fg) r2 p2.gh' Q fun w H3 G3 q r3 => k w H3 G3 (p1.trans S.gi (p2.trans p1.gi (q.post p2.gi))) r3
theorem ev_un {r : V → Hp → VK → Prop} {f : D → Option D} (ho : UnOk T r f) (ha : EvD gh T ta ρ m1) : EvD gh T (tUn r ta) ρ (bnd m1 fun x => lft (f x)) := fun F H σ g d g' S e Q k => by
  obtain ⟨x, g1, e1, e⟩ := bnd_inv e
  obtain ⟨e', rfl⟩ := lft_inv e
  refine ha F H σ g x _ S e1 _ fun v H1 G1 p1 r1 => ?_
  exact ho G1 H1 x d v e' r1 p1.gh' Q fun w H3 G3 q r3 => k w H3 G3 (p1.trans S.gi (q.post p1.gi)) r3
theorem ea_nil : EvA gh T tNil ρ (ret []) := fun F H σ g d' g' S e Q k => by
  obtain ⟨rfl, rfl⟩ := ret_inv e
  exact k [] H F (.refl S) rfl
theorem ea_cons {tr : TA} {mr : M gh.S (List D)} (ha : EvD gh T ta ρ m1) (hr : EvA gh T tr ρ mr) : EvA gh T (tCons ta tr) ρ (bnd m1 fun x => bnd mr fun xs => ret (x :: xs)) := fun F H σ g d g' S e Q k => by
  obtain ⟨x, g1, e1, e⟩ := bnd_inv e
  obtain ⟨xs, g2, e2, e⟩ := bnd_inv e
  obtain ⟨rfl, rfl⟩ := ret_inv e
  refine ha F H σ g x g1 S e1 _ fun v H1 G1 p1 r1 => hr G1 H1 σ g1 xs _ (S.step p1) e2 _ fun vs H2 G2 p2 r2 => ?_
  exact k (v :: vs) H2 G2 (p1.trans S.gi p2) ⟨v, vs, rfl, r1.ex p2.fg, r2⟩
theorem ev_cb {r : List V → Hp → VK → Prop} {f : List D → Option D} {t : TA} {ma : M gh.S (List D)} (ho : CbOk T r f) (ha : EvA gh T t ρ ma) : EvD gh T (tCB r t) ρ (bnd ma fun xs => lft (f xs)) := fun F H σ g d g' S e Q k => by
  obtain ⟨x, g1, e1, e⟩ := bnd_inv e
  obtain ⟨e', rfl⟩ := lft_inv e
  refine ha F H σ g x _ S e1 _ fun v H1 G1 p1 r1 => ?_
  exact ho G1 H1 x d v e' r1 p1.gh' Q fun w H3 G3 q r3 => k w H3 G3 (p1.trans S.gi (q.post p1.gi)) r3
/-- displays -/
def mkT (ds : List D) : Option D := if ds.length ≤ LIM then some (.tup ds) else none
def okL (ds : List D) : Option (List D) := if ds.length ≤ LIM then some ds else none
theorem ev_tup {t : TA} {ma : M gh.S (List D)} (ha : EvA gh T t ρ ma) : EvD gh T (tTup t) ρ (bnd ma fun xs => lft (mkT xs)) := fun F H σ g d g' S e Q k => by
  obtain ⟨ds, g1, e1, e⟩ := bnd_inv e
  obtain ⟨e', rfl⟩ := lft_inv e
  unfold mkT at e'
  split at e'
  · rename_i hl
    cases e'
    refine ha F H σ g _ _ S e1 _ fun vs H1 G1 p1 r1 => ⟨by rw [r1.length, ← LIM_eq]; exact hl, fun p hp => ?_⟩
    have q : Gr G1 H1 (upd G1 p (.tup vs)) (upd H1 p (.tup vs)) := .new p1.gh' hp
    exact k _ _ _ (p1.trans S.gi (q.post p1.gi)) ⟨p, vs, rfl, SqT.of upd_same, r1.ex q.fg⟩
  · cases e'
theorem en_lst {t : TA} {ma : M gh.S (List D)} (ha : EvA gh T t ρ ma) : EvN gh T (tLst t) ρ (bnd ma fun xs => lft (okL xs)) := fun F H σ g d g' S e Q k => by
  obtain ⟨ds, g1, e1, e⟩ := bnd_inv e
  obtain ⟨e', rfl⟩ := lft_inv e
  unfold okL at e'
  split at e'
  · rename_i hl
    cases e'
    refine ha F H σ g _ _ S e1 _ fun vs H1 G1 p1 r1 => ⟨by rw [r1.length, ← LIM_eq]; exact hl, fun p hp => ?_⟩
    have hG : G1 p = none := p1.gh'.free hp
    have hH : H p = none := by
      by_cases mm : gh.M p
      · exact absurd hp (gh.there _ _ _ p1.gi mm)
      · cases q : H p with
        | none => rfl
        | some o => rw [p1.hh p o mm q] at hp; cases hp
    have q : Ex H1 (upd H1 p (.lst vs)) := fun b z q => by rw [upd_ne (ne_of_none q hp)]; exact q
    have p2 : Post gh G1 H1 G1 (upd H1 p (.lst vs)) _ := ⟨Same.refl _, p1.gh'.trans q, fun b z _ w => q b z w, fun _ h _ => h, gh.keep _ _ _ p1.gi fun b z _ w => q b z w⟩
    exact k p vs _ _ (p1.trans S.gi p2) hH hG upd_same r1
  · cases e'
theorem EvN.toD {mn : M gh.S (List D)} (h : EvN gh T te ρ mn) : EvD gh T te ρ (bnd mn fun ds => ret (.lst ds)) := fun F H σ g d g' S e Q k => by
  obtain ⟨ds, g1, e1, e⟩ := bnd_inv e
  obtain ⟨rfl, rfl⟩ := ret_inv e
  refine h F H σ g ds _ S e1 _ fun p xs H' G P hp hG hx r => ?_
  have e2 : Ex G (upd G p (.lst xs)) := fun b z w => by rw [upd_ne (ne_of_none w hG)]; exact w
  refine k _ H' (upd G p (.lst xs)) ⟨P.fg.trans e2, fun b z w => ?_, P.hh, fun b h1 h2 => ?_, P.gi⟩ ⟨p, xs, rfl, upd_same, r.ex e2⟩
  · by_cases hb : b = p
    · subst hb; rw [upd_same] at w; cases w; exact hx
    · rw [upd_ne hb] at w; exact P.gh' b z w
  · have : b ≠ p := fun z => h2 (z ▸ hp)
    rw [upd_ne this]; exact P.nw b h1 h2
/-- reading a sequence -/
def sqOf : D → Option (Bool × List D)
  | .lst ds => some (true, ds)
  | .tup ds => some (false, ds)
  | _ => none
theorem QAt.lst {a : Addr} {xs : List V} {H : Hp} (h : H a = some (.lst xs)) (m : ¬ gh.M a) : QAt gh T.K true a xs H := fun H2 k => by rw [if_pos rfl]; exact k _ _ m h
theorem QAt.tup {a : Addr} {xs : List V} {G H : Hp} (h : SqT T.K G a xs) (e : Ex G H) (m : ∀ a, gh.M a → G a = none) : QAt gh T.K false a xs H := fun H2 k => by
  rw [if_neg (by decide)]
  have nm : ∀ o, G a = some o → ¬ gh.M a := fun o z q => by rw [m a q] at z; cases z
  rcases h with (h | ⟨o, h⟩) | h
  · exact .inl (.inl (k _ _ (nm _ h) (e _ _ h)))
  · exact .inl (.inr ⟨o, k _ _ (nm _ h) (e _ _ h)⟩)
  · exact .inr h
theorem eq_val (h : EvD gh T te ρ m) : EvQ gh T te ρ (bnd m fun d => lft (sqOf d)) := fun F H σ g b ds g' S e Q k => by
  obtain ⟨d, g1, e1, e⟩ := bnd_inv e
  obtain ⟨e', rfl⟩ := lft_inv e
  refine h F H σ g d _ S e1 _ fun v H1 G1 p1 r1 => ?_
  cases d with
  | lst es =>
    cases e'
    obtain ⟨a, xs, rfl, hs, r⟩ := r1
    exact k a xs H1 G1 p1 (.lst (p1.gh' _ _ hs) fun q => by rw [(S.step p1).mf a q] at hs; cases hs) r
  | tup es =>
    cases e'
    obtain ⟨a, xs, rfl, hs, r⟩ := r1
    exact k a xs H1 G1 p1 (.tup hs p1.gh' (S.step p1).mf) r
  | _ => cases e'
theorem eq_new {mn : M gh.S (List D)} (h : EvN gh T te ρ mn) : EvQ gh T te ρ (bnd mn fun ds => ret (true, ds)) := fun F H σ g b ds g' S e Q k => by
  obtain ⟨ds', g1, e1, e⟩ := bnd_inv e
  obtain ⟨e', rfl⟩ := ret_inv e
  cases e'
  exact h F H σ g ds _ S e1 _ fun p xs H' G P hp hG hx r => k p xs H' G P (.lst hx fun q => gh.there _ _ _ S.gi q hp) r
theorem eq_own {i : Nat} {ds : List D} (h : ρ[i]? = some (.own (.lst ds))) : EvQ gh T (tVar i) ρ (ret (true, ds)) := fun F H σ g b ds' g' S e Q k => by
  obtain ⟨e', rfl⟩ := ret_inv e
  cases e'
  obtain ⟨a, u, hv, h1, h2, h3, xs, rfl, r⟩ := S.own h
  exact ⟨_, hv, k a xs H F (.refl S) (.lst h3 h2) r⟩
end
end Py

set_option Elab.async false
set_option linter.all false
set_option maxRecDepth 100000
set_option maxHeartbeats 4000000
namespace Py
open PySem L2
/-! ### operations on data -/
theorem gd {α : Type} {c : Prop} [Decidable c] {a z : α} (h : (if c then some a else none) = some z) : c ∧ z = a := by
  split at h
  · rename_i hc; cases h; exact ⟨hc, rfl⟩
  · cases h
theorem lim {n : Nat} (h : n ≤ LIM) : n ≤ sizeLine := by rw [← LIM_eq]; exact h
section
variable {T : Tb} {F H : Hp}
theorem OpOk.or {r r' : R2} {f f' : D → D → Option D} (h : OpOk T r f) (h' : OpOk T r' f') : OpOk T (fun x y H Q => r x y H Q ∨ r' x y H Q) (fun x y => (f x y).or (f' x y)) := fun F H x y z v u e r1 r2 ex Q k => by
  have e : (f x y).or (f' x y) = some z := e
  cases q : f x y with
  | some w =>
    rw [q] at e
    cases e
    exact .inl (h F H x y _ v u q r1 r2 ex Q k)
  | none =>
    rw [q] at e
    exact .inr (h' F H x y z v u e r1 r2 ex Q k)

/-! #### + -/
def addI : D → D → Option D
  | .int i, .int j => some (.int (i + j))
  | _, _ => none
def addS : D → D → Option D
  | .str x, .str y => if x.length + y.length ≤ LIM then some (.str (x ++ y)) else none
  | _, _ => none
def addT : D → D → Option D
  | .tup xs, .tup ys => if xs.length + ys.length ≤ LIM then some (.tup (xs ++ ys)) else none
  | _, _ => none
def addL : D → D → Option D
  | .lst xs, .lst ys => if xs.length + ys.length ≤ LIM then some (.lst (xs ++ ys)) else none
  | _, _ => none
def addD : D → D → Option D
  | .int i, .int j => some (.int (i + j))
  | .str x, .str y => if x.length + y.length ≤ LIM then some (.str (x ++ y)) else none
  | .tup xs, .tup ys => if xs.length + ys.length ≤ LIM then some (.tup (xs ++ ys)) else none
  | .lst xs, .lst ys => if xs.length + ys.length ≤ LIM then some (.lst (xs ++ ys)) else none
  | _, _ => none
def rStrCat : R2 := fun x y H Q => ∃ i j, x = .str i ∧ y = .str j ∧ i.length + j.length ≤ sizeLine ∧ Q (.str (i ++ j)) H
def rInt (g : Int → Int → V) : R2 := rI0 g
def rAddA (K : PySem.W.Frag) : R2 := fun x y H Q => rI0 (fun i j => .int (i + j)) x y H Q ∨ (rStrCat x y H Q ∨ (rCatA K x y H Q ∨ rCat x y H Q))
theorem opAdd {X : Cx} : OpR X (binaryOp .Add) (rAddA X.K) := op_add.or (op_add_str.or (op_catA.or op_cat))
theorem okAddT : OpOk T (rCatA T.K) addT := fun F H x y z v u e r1 r2 ex Q k => by
  cases x <;> try (cases e; done)
  cases y <;> try (cases e; done)
  rename_i xs ys
  obtain ⟨hl, rfl⟩ := gd e
  obtain ⟨a, vs, rfl, ha, ra⟩ := r1
  obtain ⟨b, us, rfl, hb, rb⟩ := r2
  have la := ra.length
  have lb := rb.length
  refine ⟨a, b, vs, us, rfl, rfl, ex.t ha, ex.t hb, by rw [la, lb]; exact lim hl, fun q => ?_, fun _ q => ?_, fun _ _ p hp => ?_⟩
  · subst q
    have : xs = [] := List.eq_nil_of_length_eq_zero la.symm
    subst this
    exact k _ H F (.refl ex) ⟨b, us, rfl, hb, rb⟩
  · subst q
    have : ys = [] := List.eq_nil_of_length_eq_zero lb.symm
    subst this
    rw [List.append_nil] at k
    exact k _ H F (.refl ex) ⟨a, vs, rfl, ha, ra⟩
  · have g := Gr.new (o := .tup (vs ++ us)) ex hp
    exact k _ _ _ g ⟨p, _, rfl, SqT.of upd_same, (ra.append rb).ex g.fg⟩
theorem okAdd : OpOk T (rAddA T.K) addD := fun F H x y z v u e r1 r2 ex Q k => by
  cases x <;> try (cases e; done)
  · cases y <;> try (cases e; done)
    cases e
    cases r1
    cases r2
    exact .inl ⟨_, _, rfl, rfl, k _ H F (.refl ex) rfl⟩
  · cases y <;> try (cases e; done)
    rename_i x y
    obtain ⟨hl, rfl⟩ := gd e
    cases r1
    cases r2
    exact .inr (.inl ⟨_, _, rfl, rfl, lim hl, k _ H F (.refl ex) rfl⟩)
  · cases y <;> try (cases e; done)
    exact .inr (.inr (.inl (okAddT F H (.tup _) (.tup _) z v u e r1 r2 ex Q k)))
  · cases y <;> try (cases e; done)
    rename_i xs ys
    obtain ⟨hl, rfl⟩ := gd e
    obtain ⟨a, vs, rfl, ha, ra⟩ := r1
    obtain ⟨b, us, rfl, hb, rb⟩ := r2
    refine .inr (.inr (.inr ⟨a, b, vs, us, rfl, rfl, ex _ _ ha, ex _ _ hb, by rw [ra.length, rb.length]; exact lim hl, fun p hp => ?_⟩))
    have g := Gr.new (o := .lst (vs ++ us)) ex hp
    exact k _ _ _ g ⟨p, _, rfl, upd_same, (ra.append rb).ex g.fg⟩

/-! #### the other operators on ints -/
def onI (g : Int → Int → Option Int) : D → D → Option D
  | .int i, .int j => (g i j).map .int
  | _, _ => none
theorem okI {C : Int → Int → Prop} {g : Int → Int → Int} {p : Int → Int → Option Int} (h : ∀ i j k, p i j = some k → C i j ∧ k = g i j) : OpOk T (rI C fun i j => .int (g i j)) (onI p) := fun F H x y z v u e r1 r2 ex Q k => by
  cases x <;> try (cases e; done)
  cases y <;> try (cases e; done)
  rename_i i j
  have e : (p i j).map D.int = some z := e
  cases q : p i j with
  | none => rw [q] at e; cases e
  | some m =>
    rw [q] at e; cases e
    obtain ⟨hc, rfl⟩ := h i j m q
    cases r1; cases r2
    exact ⟨i, j, rfl, rfl, hc, k _ H F (.refl ex) rfl⟩
def subD : D → D → Option D := onI fun i j => some (i - j)
def mulI (i j : Int) : Option Int := if i.natAbs.log2 + j.natAbs.log2 < 1000000 then some (i * j) else none
def fdivI (i j : Int) : Option Int := if 0 < j ∧ j.natAbs.log2 < 9000 then some (i / j) else none
def modI (i j : Int) : Option Int := if 0 < j then some (i % j) else none
def powI (i j : Int) : Option Int := if 0 ≤ j ∧ j ≤ 1000000 ∧ i.natAbs < 2 ^ 64 then some (i ^ j.toNat) else none
def fdivD : D → D → Option D := onI fdivI
def modD : D → D → Option D := onI modI
def powD : D → D → Option D := onI powI
theorem opSub {X : Cx} : OpR X (binaryOp .Sub) (rI (fun _ _ => True) fun i j => .int (i - j)) := fun pins s σ H x y v u Q I r1 r2 ⟨i, j, e1, e2, _, q⟩ => op_sub pins s σ H x y v u Q I r1 r2 ⟨i, j, e1, e2, q⟩
theorem okSub : OpOk T (rI (fun _ _ => True) fun i j => .int (i - j)) subD := okI fun i j k e => ⟨trivial, by cases e; rfl⟩
theorem okFdiv : OpOk T (rI CDivW fun i j => .int (i / j)) fdivD := okI fun i j k e => by
  obtain ⟨h, rfl⟩ := gd e
  exact ⟨h, rfl⟩
theorem okMod : OpOk T (rI (fun _ j => 0 < j) fun i j => .int (i % j)) modD := okI fun i j k e => by
  obtain ⟨h, rfl⟩ := gd e
  exact ⟨h, rfl⟩
theorem okPow : OpOk T (rI CPow fun i j => .int (i ^ j.toNat)) powD := okI fun i j k e => by
  obtain ⟨h, rfl⟩ := gd e
  exact ⟨h, rfl⟩
theorem rep_size (a : Array Nat) : ∀ (m : Nat) (acc : Array Nat), ((List.replicate m a).foldl (· ++ ·) acc).size = acc.size + m * a.size
  | 0, acc => by simp
  | m + 1, acc => by
    rw [List.replicate_succ, List.foldl_cons, rep_size a m, Array.size_append, Nat.add_mul, Nat.one_mul]; omega
/-- *: ints; a text, a list, a tuple times an int -/
def repS (x : Str) (n : Int) : Str := ⟨(List.replicate n.toNat x.cps).foldl (· ++ ·) #[]⟩
def mulD : D → D → Option D
  | .int i, .int j => (mulI i j).map .int
  | .str x, .int n => if 2 ≤ n ∧ n ≤ 100000 ∧ 1 ≤ x.length ∧ x.length ≤ 100 then some (.str (repS x n)) else none
  | .tup xs, .int n => if 2 ≤ n ∧ n ≤ 1000 ∧ xs.length ≤ 1000 ∧ 1 ≤ xs.length then some (.tup (List.replicate n.toNat xs).flatten) else none
  | _, _ => none
def rMulS : R2 := fun x y H Q => ∃ (z : Str) (n : Int), x = .str z ∧ y = .int n ∧ (2 ≤ n ∧ n ≤ 100000 ∧ 1 ≤ z.length ∧ z.length ≤ 100) ∧ Q (.str (repS z n)) H
def mulD' : D → D → Option D
  | .str x, .int n => if 2 ≤ n ∧ n ≤ 100000 ∧ 1 ≤ x.length ∧ x.length ≤ 100 then some (.str (repS x n)) else none
  | _, _ => none
theorem opMulS {X : Cx} : OpR X (binaryOp .Mult) rMulS := fun pins s σ H x y v u Q I r1 r2 ⟨z, n, e1, e2, ⟨h1, h2, h3, h4⟩, q⟩ => by
  subst e1 e2
  obtain ⟨t, rfl⟩ := r1
  obtain ⟨t', rfl⟩ := r2
  have hn : (n == 1 || z.length == 0) = false := by
    have a : (n == 1) = false := beq_eq_false_iff_ne.mpr (by omega)
    have b : (z.length == 0) = false := beq_eq_false_iff_ne.mpr (by omega)
    rw [a, b]; rfl
  refine PySem.P.mul_str (by rw [decide_eq_false (by omega), decide_eq_false (by omega)]; rfl) (fun _ _ z' => ?_) (fun _ _ => ?_) ?_
  · have : (2 ^ 63 - 1 : Int) / n ≥ (2 ^ 63 - 1) / 100000 := by
      refine Int.le_ediv_of_mul_le (by omega) ?_
      have : (2 ^ 63 - 1 : Int) / 100000 * n ≤ (2 ^ 63 - 1 : Int) / 100000 * 100000 := Int.mul_le_mul_of_nonneg_left h2 (by decide)
      omega
    have e : (2 ^ 63 - 1 : Int) / 100000 = 92233720368547 := by decide
    omega
  · have hk : z.length * n.toNat ≤ 100 * 100000 := Nat.mul_le_mul h4 (by omega)
    first
      | (unfold Builtin.Str.tooLong; exact decide_eq_false (by have := sizeLine_eq; omega))
      | (simp [Builtin.Str.tooLong]; have := sizeLine_eq; omega)
  · rw [if_neg (by omega), hn, if_neg (by decide)]
    refine ⟨?_, .str _, H, I.tok _, ⟨_, rfl⟩, q⟩
    have hk : n.toNat * z.length ≤ 100000 * 100 := Nat.mul_le_mul (by omega) h4
    show ((List.replicate n.toNat z.cps).foldl (· ++ ·) #[]).size ≤ sizeLine
    rw [rep_size, sizeLine_eq]
    show 0 + n.toNat * z.length ≤ _
    omega
theorem okMulS : OpOk T rMulS mulD' := fun F H x y z v u e r1 r2 ex Q k => by
  cases x <;> try (cases e; done)
  cases y <;> try (cases e; done)
  obtain ⟨h, rfl⟩ := gd e
  cases r1; cases r2
  exact ⟨_, _, rfl, rfl, h, k _ H F (.refl ex) rfl⟩
end
end Py

set_option Elab.async false
set_option linter.all false
set_option maxRecDepth 100000
set_option maxHeartbeats 4000000
namespace Py
open PySem L2
section
variable {T : Tb} {F H : Hp}
/-! ### == -/
mutual
def toPy : D → Option PyData
  | .non => some .none
  | .bl b => some (.bool b)
  | .int i => some (.int i)
  | .str x => some (.str x)
  | .tup ds => (toPys ds).map .tuple
  | .lst ds => (toPys ds).map .list
  | _ => none
def toPys : List D → Option (List PyData)
  | [] => some []
  | d :: ds => match toPy d, toPys ds with
    | some p, some ps => some (p :: ps)
    | _, _ => none
end
mutual
theorem dp_of : ∀ {d : D} {v : V} {p : PyData}, Rp T F d v → toPy d = some p → Dp T.K F v p
  | .non, _, _, h, e => by cases h; cases e; exact .non
  | .bl b, _, _, h, e => by cases h; cases e; exact .bl b
  | .int i, _, _, h, e => by cases h; cases e; exact .int i
  | .str x, _, _, h, e => by cases h; cases e; exact .str x
  | .tup ds, _, p, ⟨a, xs, e1, hs, r⟩, e => by
    subst e1
    have e : (toPys ds).map PyData.tuple = some p := by simpa [toPy] using e
    cases q : toPys ds with
    | none => rw [q] at e; cases e
    | some ps => rw [q] at e; cases e; exact .tup hs (dps_of r q)
  | .lst ds, _, p, ⟨a, xs, e1, hs, r⟩, e => by
    subst e1
    have e : (toPys ds).map PyData.list = some p := by simpa [toPy] using e
    cases q : toPys ds with
    | none => rw [q] at e; cases e
    | some ps => rw [q] at e; cases e; exact .lst (SqL.of hs) (dps_of r q)
  | .obj _ _ _, _, _, _, e => by simp [toPy] at e
  | .ptr _, _, _, _, e => by simp [toPy] at e
theorem dps_of : ∀ {ds : List D} {vs : List V} {ps : List PyData}, Rps T F ds vs → toPys ds = some ps → DpAll T.K F vs ps
  | [], _, _, h, e => by cases h; simp [toPys] at e; subst e; exact .nil
  | d :: ds, _, ps, ⟨y, ys, e1, h, r⟩, e => by
    subst e1
    unfold toPys at e
    cases q : toPy d with
    | none => rw [q] at e; simp at e
    | some p =>
      cases q2 : toPys ds with
      | none => rw [q, q2] at e; simp at e
      | some ps' => rw [q, q2] at e; simp at e; subst e; exact .cons (dp_of h q) (dps_of r q2)
end
mutual
theorem Dp.ex {K : PySem.W.Frag} {H H' : Hp} (e : Ex H H') : ∀ {p : PyData} {v : V}, Dp K H v p → Dp K H' v p
  | _, _, .non => .non
  | _, _, .bl b => .bl b
  | _, _, .int b => .int b
  | _, _, .str b => .str b
  | _, _, .lst h r => .lst (e.l h) (DpAll.ex e r)
  | _, _, .tup h r => .tup (e.t h) (DpAll.ex e r)
theorem DpAll.ex {K : PySem.W.Frag} {H H' : Hp} (e : Ex H H') : ∀ {p : List PyData} {v : List V}, DpAll K H v p → DpAll K H' v p
  | _, _, .nil => .nil
  | _, _, .cons h r => .cons (Dp.ex e h) (DpAll.ex e r)
end
def scalD : D → D → Option Bool
  | .non, .non => some true | .non, .int _ => some false | .int _, .non => some false | .non, .bl _ => some false | .bl _, .non => some false | .non, .str _ => some false | .str _, .non => some false
  | .int i, .int j => some (decide (i = j)) | .bl a, .bl b => some (decide (a = b)) | .str x, .str y => some (decide (x = y))
  | .int _, .str _ => some false | .str _, .int _ => some false | .bl _, .str _ => some false | .str _, .bl _ => some false
  | _, _ => none
def deepE (x y : D) : Option Bool := match toPy x, toPy y with
  | some p, some q => if SeqAt.shaped p = true ∧ SeqAt.shaped q = true then some (PyData.eqv p q) else none
  | _, _ => none
def eqB (x y : D) : Option Bool := match scalD x y with
  | some b => some b
  | none => deepE x y
def eqD (x y : D) : Option D := (eqB x y).map .bl
def neD (x y : D) : Option D := (eqB x y).map fun b => .bl (!b)
def rEqA (K : PySem.W.Frag) : R2 := fun x y H Q => rEq x y H Q ∨ rEqD K x y H Q
def rNeA (K : PySem.W.Frag) : R2 := fun x y H Q => rNe x y H Q ∨ rNeD K x y H Q
theorem opEq {X : Cx} (hu : X.A.units + 64 < cLine) : OpR X (compareOp .Eq) (rEqA X.K) := op_eq.or (op_eqD hu)
theorem opNe {X : Cx} (hu : X.A.units + 64 < cLine) : OpR X (compareOp .NotEq) (rNeA X.K) := op_ne.or (op_neD hu)
theorem scal_of {x y : D} {v u : V} {b : Bool} (h : scalD x y = some b) (r1 : Rp T F x v) (r2 : Rp T F y u) : scal v u = true ∧ b = decide (v = u) := by
  cases x <;> first | (cases h; done) | skip
  all_goals (cases y <;> first | (cases h; done) | skip)
  all_goals (cases r1; cases r2; cases h; refine ⟨rfl, ?_⟩; first | rfl | (simp))
theorem deep_of {x y : D} {v u : V} {b : Bool} (h : deepE x y = some b) (r1 : Rp T F x v) (r2 : Rp T F y u) (ex : Ex F H) :
    ∃ p q, Dp T.K H v p ∧ Dp T.K H u q ∧ SeqAt.shaped p = true ∧ SeqAt.shaped q = true ∧ b = PyData.eqv p q := by
  unfold deepE at h
  cases e1 : toPy x with
  | none => rw [e1] at h; simp at h
  | some p =>
    cases e2 : toPy y with
    | none => rw [e1, e2] at h; simp at h
    | some q =>
      rw [e1, e2] at h
      obtain ⟨⟨s1, s2⟩, e⟩ := gd h
      exact ⟨p, q, Dp.ex ex (dp_of r1 e1), Dp.ex ex (dp_of r2 e2), s1, s2, e⟩
theorem map_inv {α β : Type} {o : Option α} {f : α → β} {b : β} (h : o.map f = some b) : ∃ a, o = some a ∧ b = f a := by
  cases o with
  | none => cases h
  | some a => cases h; exact ⟨a, rfl, rfl⟩
theorem okEq : OpOk T (rEqA T.K) eqD := fun F H x y z v u e r1 r2 ex Q k => by
  obtain ⟨b, e', rfl⟩ := map_inv e
  unfold eqB at e'
  cases q : scalD x y with
  | some c =>
    rw [q] at e'; cases e'
    obtain ⟨h1, rfl⟩ := scal_of q r1 r2
    exact .inl ⟨h1, k _ H F (.refl ex) rfl⟩
  | none =>
    rw [q] at e'
    obtain ⟨p, p', h1, h2, h3, h4, rfl⟩ := deep_of e' r1 r2 ex
    exact .inr ⟨p, p', h1, h2, h3, h4, k _ H F (.refl ex) rfl⟩
theorem okNe : OpOk T (rNeA T.K) neD := fun F H x y z v u e r1 r2 ex Q k => by
  obtain ⟨b, e', rfl⟩ := map_inv e
  unfold eqB at e'
  cases q : scalD x y with
  | some c =>
    rw [q] at e'; cases e'
    obtain ⟨h1, rfl⟩ := scal_of q r1 r2
    exact .inl ⟨h1, k _ H F (.refl ex) rfl⟩
  | none =>
    rw [q] at e'
    obtain ⟨p, p', h1, h2, h3, h4, rfl⟩ := deep_of e' r1 r2 ex
    exact .inr ⟨p, p', h1, h2, h3, h4, k _ H F (.refl ex) rfl⟩
/-! ### order: ints, texts -/
def ordD (p : Int → Int → Bool) (q : List Nat → List Nat → Bool) : D → D → Option D
  | .int i, .int j => some (.bl (p i j))
  | .str x, .str y => some (.bl (q x.cps.toList y.cps.toList))
  | _, _ => none
def rOrd (p : Int → Int → Bool) (q : List Nat → List Nat → Bool) : R2 := fun x y H Q => rI0 (fun i j => .bl (p i j)) x y H Q ∨ (∃ i j, x = .str i ∧ y = .str j ∧ Q (.bl (q i.cps.toList j.cps.toList)) H)
theorem okOrd {p : Int → Int → Bool} {q : List Nat → List Nat → Bool} : OpOk T (rOrd p q) (ordD p q) := fun F H x y z v u e r1 r2 ex Q k => by
  cases x <;> first | (cases e; done) | skip
  all_goals (cases y <;> first | (cases e; done) | skip)
  · cases e; cases r1; cases r2; exact .inl ⟨_, _, rfl, rfl, k _ H F (.refl ex) rfl⟩
  · cases e; cases r1; cases r2; exact .inr ⟨_, _, rfl, rfl, k _ H F (.refl ex) rfl⟩
def ltD : D → D → Option D := ordD (fun i j => decide (i < j)) fun a b => decide (a < b)
def leD : D → D → Option D := ordD (fun i j => decide (i ≤ j)) fun a b => !decide (b < a)
def gtD : D → D → Option D := ordD (fun i j => decide (j < i)) fun a b => decide (b < a)
def geD : D → D → Option D := ordD (fun i j => decide (j ≤ i)) fun a b => !decide (a < b)
abbrev rLtA : R2 := rOrd (fun i j => decide (i < j)) fun a b => decide (a < b)
abbrev rLeA : R2 := rOrd (fun i j => decide (i ≤ j)) fun a b => !decide (b < a)
abbrev rGtA : R2 := rOrd (fun i j => decide (j < i)) fun a b => decide (b < a)
abbrev rGeA : R2 := rOrd (fun i j => decide (j ≤ i)) fun a b => !decide (a < b)
theorem opLt {X : Cx} : OpR X (compareOp .Lt) rLtA := op_lt.or op_lt_str
theorem opLe {X : Cx} : OpR X (compareOp .LtE) rLeA := op_le.or op_le_str
theorem opGt {X : Cx} : OpR X (compareOp .Gt) rGtA := op_gt.or op_gt_str
theorem opGe {X : Cx} : OpR X (compareOp .GtE) rGeA := op_ge.or op_ge_str
theorem okLt : OpOk T rLtA ltD := okOrd
theorem okLe : OpOk T rLeA leD := okOrd
theorem okGt : OpOk T rGtA gtD := okOrd
theorem okGe : OpOk T rGeA geD := okOrd
/-! ### is -/
def isD : D → D → Option D
  | .non, .non => some (.bl true) | .bl _, .non => some (.bl false) | .int _, .non => some (.bl false) | .str _, .non => some (.bl false) | .tup _, .non => some (.bl false) | .lst _, .non => some (.bl false) | .obj _ _ _, .non => some (.bl false)
  | .non, .bl _ => some (.bl false) | .bl a, .bl b => some (.bl (decide (a = b))) | .int _, .bl _ => some (.bl false) | .str _, .bl _ => some (.bl false) | .tup _, .bl _ => some (.bl false) | .lst _, .bl _ => some (.bl false) | .obj _ _ _, .bl _ => some (.bl false)
  | _, _ => none
def notB (o : Option D) : Option D := match o with
  | some (.bl b) => some (.bl (!b))
  | _ => none
def isnD (x y : D) : Option D := notB (isD x y)
def rIsA : R2 := fun x y H Q => (y = .non ∧ Q (.bl (decide (x = .non))) H) ∨ ∃ b, y = .bl b ∧ Q (.bl (decide (x = .bl b))) H
def rIsnA : R2 := fun x y H Q => (y = .non ∧ Q (.bl (!decide (x = .non))) H) ∨ ∃ b, y = .bl b ∧ Q (.bl (!decide (x = .bl b))) H
theorem is_bool_gen {M : Model} {A : Around} {E : Value → Shared → Prop} {s : Shared} {v : Value} {b : Bool} {Q : Value → Shared → Prop} (nb : ∀ p, v ≠ .builtin p) (h : Q (.bool (v == .bool b)) s) : wpAny M A (compareOp .Is v (.bool b)) Q E s := by
  cases v <;> first
    | exact wpAny_pure h
    | exact absurd rfl (nb _)
theorem isn_bool_gen {M : Model} {A : Around} {E : Value → Shared → Prop} {s : Shared} {v : Value} {b : Bool} {Q : Value → Shared → Prop} (nb : ∀ p, v ≠ .builtin p) (h : Q (.bool (!(v == .bool b))) s) : wpAny M A (compareOp .IsNot v (.bool b)) Q E s := by
  cases v <;> first
    | exact wpAny_pure h
    | exact absurd rfl (nb _)
theorem relV_nb {x : V} {v : Value} (r : RelV x v) : ∀ p, v ≠ .builtin p := fun p z => by
  subst z
  cases x <;> first
    | (cases r; done)
    | (obtain ⟨t, e⟩ := r; cases e)
theorem relV_bool {x : V} {v : Value} {b : Bool} (r : RelV x v) : (v == .bool b) = decide (x = .bl b) := by
  cases x with
  | bl c => cases r; by_cases e : c = b
            · subst e; simp
            · have h1 : ¬ (V.bl c = V.bl b) := fun z => e (V.bl.inj z)
              have h2 : ¬ (Value.bool c = Value.bool b) := fun z => e (Value.bool.inj z)
              rw [decide_eq_false h1]; exact beq_eq_false_iff_ne.mpr h2
  | non => cases r; rfl
  | int _ => obtain ⟨t, rfl⟩ := r; rfl
  | str _ => obtain ⟨t, rfl⟩ := r; rfl
  | byt _ => obtain ⟨t, rfl⟩ := r; rfl
  | flt _ => obtain ⟨t, rfl⟩ := r; rfl
  | ref _ => cases r; rfl
  | ty _ => cases r; rfl
theorem opIs {X : Cx} : OpR X (compareOp .Is) rIsA := fun pins s σ H x y v u Q I r1 r2 h => by
  rcases h with h | ⟨b, rfl, q⟩
  · exact op_isN pins s σ H x y v u Q I r1 r2 h
  · cases r2
    exact is_bool_gen (relV_nb r1) ⟨.bl _, H, I, by rw [relV_bool r1]; rfl, q⟩
theorem opIsn {X : Cx} : OpR X (compareOp .IsNot) rIsnA := fun pins s σ H x y v u Q I r1 r2 h => by
  rcases h with h | ⟨b, rfl, q⟩
  · exact op_notN pins s σ H x y v u Q I r1 r2 h
  · cases r2
    exact isn_bool_gen (relV_nb r1) ⟨.bl _, H, I, by rw [relV_bool r1]; rfl, q⟩
theorem is_of {x y z : D} {v u : V} (e : isD x y = some z) (r1 : Rp T F x v) (r2 : Rp T F y u) : (u = .non ∧ z = .bl (decide (v = .non))) ∨ ∃ b, u = .bl b ∧ z = .bl (decide (v = .bl b)) := by
  cases y with
  | non =>
    cases r2
    refine .inl ⟨rfl, ?_⟩
    cases x with
    | non => cases e; cases r1; rfl
    | bl _ => cases e; cases r1; rfl
    | int _ => cases e; cases r1; rfl
    | str _ => cases e; cases r1; rfl
    | tup _ => cases e; obtain ⟨a, xs, rfl, _⟩ := r1; rfl
    | lst _ => cases e; obtain ⟨a, xs, rfl, _⟩ := r1; rfl
    | obj _ _ _ => cases e; obtain ⟨a, C, dx, fs, rfl, _⟩ := r1; rfl
    | ptr _ => cases e
  | bl b =>
    cases r2
    refine .inr ⟨b, rfl, ?_⟩
    cases x with
    | non => cases e; cases r1; rfl
    | bl c => cases e; cases r1; simp
    | int _ => cases e; cases r1; rfl
    | str _ => cases e; cases r1; rfl
    | tup _ => cases e; obtain ⟨a, xs, rfl, _⟩ := r1; rfl
    | lst _ => cases e; obtain ⟨a, xs, rfl, _⟩ := r1; rfl
    | obj _ _ _ => cases e; obtain ⟨a, C, dx, fs, rfl, _⟩ := r1; rfl
    | ptr _ => cases e
  | _ => cases x <;> cases e
theorem okIs : OpOk T rIsA isD := fun F H x y z v u e r1 r2 ex Q k => by
  rcases is_of e r1 r2 with ⟨rfl, rfl⟩ | ⟨b, rfl, rfl⟩
  · exact .inl ⟨rfl, k _ H F (.refl ex) rfl⟩
  · exact .inr ⟨b, rfl, k _ H F (.refl ex) rfl⟩
theorem okIsn : OpOk T rIsnA isnD := fun F H x y z v u e r1 r2 ex Q k => by
  unfold isnD notB at e
  cases q : isD x y with
  | none => rw [q] at e; cases e
  | some w =>
    rw [q] at e
    rcases is_of q r1 r2 with ⟨rfl, rfl⟩ | ⟨b, rfl, rfl⟩
    · cases e; exact .inl ⟨rfl, k _ H F (.refl ex) rfl⟩
    · cases e; exact .inr ⟨b, rfl, k _ H F (.refl ex) rfl⟩
/-! ### in: one sign in a text; flat items; data in a list -/
def flatD : D → Bool
  | .non | .bl _ | .int _ | .str _ => true
  | _ => false
def fEq : D → D → Bool
  | .non, .non => true
  | .bl a, .bl b => a == b
  | .bl a, .int b => (if a then 1 else 0) == b
  | .int a, .bl b => a == (if b then 1 else 0)
  | .int a, .int b => a == b
  | .str a, .str b => a == b
  | _, _ => false
def inB (x y : D) : Option Bool := match y with
  | .str z => match x with
    | .str w => match w.cps.toList with
      | [c] => some (decide (c ∈ z.cps.toList))
      | _ => none
    | _ => none
  | .tup ys => if flatD x = true ∧ ys.all flatD = true then some (ys.any fun y => fEq y x) else none
  | .lst ys => if flatD x = true ∧ ys.all flatD = true then some (ys.any fun y => fEq y x) else
    match toPy x, toPys ys with
    | some p, some ps => if SeqAt.shaped p = true ∧ SeqAt.shaped (.list ps) = true then some (ps.any fun z => PyData.eqv z p) else none
    | _, _ => none
  | _ => none
def inD (x y : D) : Option D := (inB x y).map .bl
def niD (x y : D) : Option D := (inB x y).map fun b => .bl (!b)
def rSign (neg : Bool) : R2 := fun x y H Q => ∃ (c : Nat) (z : Str), x = .str ⟨#[c]⟩ ∧ y = .str z ∧ Q (.bl (if neg then !decide (c ∈ z.cps.toList) else decide (c ∈ z.cps.toList))) H
def rInL (K : PySem.W.Frag) (neg : Bool) : R2 := fun x y H Q => ∃ d ds, Dp K H x d ∧ Dp K H y (.list ds) ∧ SeqAt.shaped d = true ∧ SeqAt.shaped (.list ds) = true ∧ Q (.bl (if neg then !(ds.any fun z => PyData.eqv z d) else (ds.any fun z => PyData.eqv z d))) H
def rInA (K : PySem.W.Frag) (neg : Bool) : R2 := fun x y H Q => rSign neg x y H Q ∨ (rIn K neg x y H Q ∨ rInL K neg x y H Q)
theorem opIn {X : Cx} (hu : X.A.units + 65 < cLine) : OpR X (compareOp .In) (rInA X.K false) := OpR.or (fun pins s σ H x y v u Q I r1 r2 ⟨c, z, e1, e2, q⟩ => op_in_sign pins s σ H x y v u Q I r1 r2 ⟨c, z, e1, e2, by simpa using q⟩)
  (op_in_seq.or fun pins s σ H x y v u Q I r1 r2 ⟨d, ds, h1, h2, h3, h4, q⟩ => op_inD hu pins s σ H x y v u Q I r1 r2 ⟨d, ds, h1, h2, h3, h4, by simpa using q⟩)
theorem opNi {X : Cx} (hu : X.A.units + 65 < cLine) : OpR X (compareOp .NotIn) (rInA X.K true) := OpR.or (fun pins s σ H x y v u Q I r1 r2 ⟨c, z, e1, e2, q⟩ => op_notIn_sign pins s σ H x y v u Q I r1 r2 ⟨c, z, e1, e2, by simpa using q⟩)
  (op_notIn_seq.or fun pins s σ H x y v u Q I r1 r2 ⟨d, ds, h1, h2, h3, h4, q⟩ => op_notInD hu pins s σ H x y v u Q I r1 r2 ⟨d, ds, h1, h2, h3, h4, by simpa using q⟩)
theorem flat_of {x : D} {v : V} (h : flatD x = true) (r : Rp T F x v) : flatV v = true := by
  cases x <;> first | (cases r; rfl) | (cases h)
theorem flat_all : ∀ {xs : List D} {vs : List V}, xs.all flatD = true → Rps T F xs vs → vs.all flatV = true
  | [], _, _, r => by cases r; rfl
  | x :: xs, _, h, ⟨y, ys, e, r, rs⟩ => by
    subst e
    rw [List.all_cons, Bool.and_eq_true] at h ⊢
    exact ⟨flat_of h.1 r, flat_all h.2 rs⟩
theorem fEq_of {x y : D} {v u : V} (hx : flatD x = true) (hy : flatD y = true) (r : Rp T F x v) (q : Rp T F y u) : fEq x y = eqV v u := by
  cases x <;> first | (cases hx; done) | skip
  all_goals (cases y <;> first | (cases hy; done) | skip)
  all_goals (cases r; cases q; rfl)
theorem inV_of {x : D} {v : V} (hx : flatD x = true) (r : Rp T F x v) : ∀ {ys : List D} {us : List V}, ys.all flatD = true → Rps T F ys us → (ys.any fun y => fEq y x) = inV v us
  | [], _, _, q => by cases q; rfl
  | y :: ys, _, h, ⟨u, us, e, q, qs⟩ => by
    subst e
    rw [List.all_cons, Bool.and_eq_true] at h
    have := inV_of hx r h.2 qs
    unfold inV at this ⊢
    rw [List.any_cons, List.any_cons, this, fEq_of h.1 hx q r]
theorem in_of {x y : D} {v u : V} {b : Bool} (e : inB x y = some b) (r1 : Rp T F x v) (r2 : Rp T F y u) (ex : Ex F H) :
    (∃ (c : Nat) (z : Str), v = .str ⟨#[c]⟩ ∧ u = .str z ∧ b = decide (c ∈ z.cps.toList)) ∨ (∃ p xs, u = .ref p ∧ (SqL T.K H p xs ∨ SqT T.K H p xs) ∧ flatV v = true ∧ xs.all flatV = true ∧ b = inV v xs) ∨
    ∃ d ds, Dp T.K H v d ∧ Dp T.K H u (.list ds) ∧ SeqAt.shaped d = true ∧ SeqAt.shaped (.list ds) = true ∧ b = (ds.any fun z => PyData.eqv z d) := by
  cases y with
  | str z =>
    cases x with
    | str w =>
      have e : (match w.cps.toList with | [c] => some (decide (c ∈ z.cps.toList)) | _ => none) = some b := e
      cases q : w.cps.toList with
      | nil => rw [q] at e; cases e
      | cons c l =>
        cases l with
        | cons _ _ => rw [q] at e; cases e
        | nil =>
          rw [q] at e; cases e
          cases r1; cases r2
          refine .inl ⟨c, z, ?_, rfl, rfl⟩
          obtain ⟨cps⟩ := w
          have : cps = #[c] := by
            have : cps.toList = [c] := q
            exact Array.toList_inj.mp this
          rw [this]
    | _ => cases e
  | tup ys =>
    obtain ⟨⟨h1, h2⟩, rfl⟩ := gd e
    obtain ⟨a, xs, rfl, hs, r⟩ := r2
    exact .inr (.inl ⟨a, xs, rfl, .inr (ex.t hs), flat_of h1 r1, flat_all h2 r, inV_of h1 r1 h2 r⟩)
  | lst ys =>
    have e : (if flatD x = true ∧ ys.all flatD = true then some (ys.any fun y => fEq y x) else
      match toPy x, toPys ys with
      | some p, some ps => if SeqAt.shaped p = true ∧ SeqAt.shaped (.list ps) = true then some (ps.any fun z => PyData.eqv z p) else none
      | _, _ => none) = some b := e
    obtain ⟨a, xs, rfl, hs, r⟩ := r2
    split at e
    · rename_i h
      cases e
      exact .inr (.inl ⟨a, xs, rfl, .inl (SqL.of (ex _ _ hs)), flat_of h.1 r1, flat_all h.2 r, inV_of h.1 r1 h.2 r⟩)
    · cases e1 : toPy x with
      | none => rw [e1] at e; simp at e
      | some p =>
        cases e2 : toPys ys with
        | none => rw [e1, e2] at e; simp at e
        | some ps =>
          rw [e1, e2] at e
          obtain ⟨⟨s1, s2⟩, rfl⟩ := gd e
          exact .inr (.inr ⟨p, ps, Dp.ex ex (dp_of r1 e1), .lst (SqL.of (ex _ _ hs)) (DpAll.ex ex (dps_of r e2)), s1, s2, rfl⟩)
  | _ => cases x <;> cases e
theorem okIn : OpOk T (rInA T.K false) inD := fun F H x y z v u e r1 r2 ex Q k => by
  obtain ⟨b, e', rfl⟩ := map_inv e
  rcases in_of e' r1 r2 ex with ⟨c, z, rfl, rfl, rfl⟩ | ⟨p, xs, rfl, h1, h2, h3, rfl⟩ | ⟨d, ds, h1, h2, h3, h4, rfl⟩
  · exact .inl ⟨c, z, rfl, rfl, k _ H F (.refl ex) rfl⟩
  · exact .inr (.inl ⟨p, xs, rfl, h1, h2, h3, k _ H F (.refl ex) rfl⟩)
  · exact .inr (.inr ⟨d, ds, h1, h2, h3, h4, k _ H F (.refl ex) rfl⟩)
theorem okNi : OpOk T (rInA T.K true) niD := fun F H x y z v u e r1 r2 ex Q k => by
  obtain ⟨b, e', rfl⟩ := map_inv e
  rcases in_of e' r1 r2 ex with ⟨c, z, rfl, rfl, rfl⟩ | ⟨p, xs, rfl, h1, h2, h3, rfl⟩ | ⟨d, ds, h1, h2, h3, h4, rfl⟩
  · exact .inl ⟨c, z, rfl, rfl, k _ H F (.refl ex) rfl⟩
  · exact .inr (.inl ⟨p, xs, rfl, h1, h2, h3, k _ H F (.refl ex) rfl⟩)
  · exact .inr (.inr ⟨d, ds, h1, h2, h3, h4, k _ H F (.refl ex) rfl⟩)
end
end Py

set_option Elab.async false
set_option linter.all false
set_option maxRecDepth 100000
set_option maxHeartbeats 4000000
namespace Py
open PySem L2
section
variable {gh : Gh} {T : Tb} {ρ : Env} {ta tb te : TE} {m m1 m2 : M gh.S D} {t u : TT} {mt mu : M gh.S Bool}
/-! ### tests -/
def asB : D → Option Bool
  | .bl b => some b
  | _ => none
def truB : D → Option Bool
  | .non => some false
  | .bl b => some b
  | .int i => some (i != 0)
  | .str x => if x.length ≤ LIM then some ((x.length : Int) != 0) else none
  | .tup ds => some (!ds.isEmpty)
  | .lst ds => some (!ds.isEmpty)
  | _ => none
theorem asB_inv {d : D} {b : Bool} (h : asB d = some b) : d = .bl b := by
  cases d <;> first | (cases h; rfl) | (cases h)
theorem emp_of {F : Hp} {ds : List D} {xs : List V} (r : Rps T F ds xs) : (!ds.isEmpty) = !xs.isEmpty := by
  have := r.length
  cases ds <;> cases xs <;> first | rfl | (simp at this)
theorem tru_of {F H : Hp} {d : D} {v : V} {b : Bool} (h : truB d = some b) (r : Rp T F d v) (ex : Ex F H) : TruV T.K v H b := by
  cases d with
  | non => cases h; cases r; rfl
  | bl c => cases h; cases r; rfl
  | int i => cases h; cases r; rfl
  | str x => obtain ⟨hx, rfl⟩ := gd h; cases r; exact ⟨lim hx, rfl⟩
  | tup ds => cases h; obtain ⟨a, xs, rfl, hs, q⟩ := r; exact .inr (.inl ⟨xs, ex.t hs, emp_of q⟩)
  | lst ds => cases h; obtain ⟨a, xs, rfl, hs, q⟩ := r; exact .inl ⟨xs, SqL.of (ex _ _ hs), emp_of q⟩
  | _ => cases h
theorem et_test (h : EvD gh T te ρ m) : EvT gh T (tTest te) ρ (bnd m fun d => lft (asB d)) := fun F H σ g b g' S e Q k => by
  obtain ⟨d, g1, e1, e⟩ := bnd_inv e
  obtain ⟨e', rfl⟩ := lft_inv e
  refine h F H σ g d _ S e1 _ fun v H1 G1 p1 r1 => ?_
  rw [asB_inv e'] at r1
  exact ⟨b, r1, k H1 G1 p1⟩
theorem et_B (h : EvD gh T te ρ m) : EvT gh T (tB te) ρ (bnd m fun d => lft (asB d)) := et_test h
theorem et_tru (h : EvD gh T te ρ m) : EvT gh T (fun σ H Q => te σ H fun x H' => ∃ k, TruV T.K x H' k ∧ Q k H') ρ (bnd m fun d => lft (truB d)) := fun F H σ g b g' S e Q k => by
  obtain ⟨d, g1, e1, e⟩ := bnd_inv e
  obtain ⟨e', rfl⟩ := lft_inv e
  refine h F H σ g d _ S e1 _ fun v H1 G1 p1 r1 => ?_
  exact ⟨b, tru_of e' r1 p1.gh', k H1 G1 p1⟩
theorem et_not (h : EvT gh T t ρ mt) : EvT gh T (tNot t) ρ (bnd mt fun b => ret (!b)) := fun F H σ g b g' S e Q k => by
  obtain ⟨d, g1, e1, e⟩ := bnd_inv e
  obtain ⟨rfl, rfl⟩ := ret_inv e
  exact h F H σ g d _ S e1 _ fun H1 G1 p1 => k H1 G1 p1
theorem et_and (h : EvT gh T t ρ mt) (h' : EvT gh T u ρ mu) : EvT gh T (tAnd t u) ρ (bnd mt fun b => if b then mu else ret false) := fun F H σ g b g' S e Q k => by
  obtain ⟨d, g1, e1, e⟩ := bnd_inv e
  refine h F H σ g d g1 S e1 _ fun H1 G1 p1 => ?_
  cases d with
  | true =>
    rw [if_pos rfl] at e ⊢
    exact h' G1 H1 σ g1 b g' (S.step p1) e _ fun H2 G2 p2 => k H2 G2 (p1.trans S.gi p2)
  | false =>
    rw [if_neg (by decide)] at e ⊢
    obtain ⟨rfl, rfl⟩ := ret_inv e
    exact k H1 G1 p1
theorem et_or (h : EvT gh T t ρ mt) (h' : EvT gh T u ρ mu) : EvT gh T (tOr t u) ρ (bnd mt fun b => if b then ret true else mu) := fun F H σ g b g' S e Q k => by
  obtain ⟨d, g1, e1, e⟩ := bnd_inv e
  refine h F H σ g d g1 S e1 _ fun H1 G1 p1 => ?_
  cases d with
  | false =>
    rw [if_neg (by decide)] at e ⊢
    exact h' G1 H1 σ g1 b g' (S.step p1) e _ fun H2 G2 p2 => k H2 G2 (p1.trans S.gi p2)
  | true =>
    rw [if_pos rfl] at e ⊢
    obtain ⟨rfl, rfl⟩ := ret_inv e
    exact k H1 G1 p1
/-- as values -/
def andM {γ : Type} (ma mb : M γ D) : M γ D := bnd ma fun d => bnd (lft (asB d)) fun b => if b then mb else ret (.bl false)
def orM {γ : Type} (ma mb : M γ D) : M γ D := bnd ma fun d => bnd (lft (asB d)) fun b => if b then ret (.bl true) else mb
theorem ev_and (h : EvD gh T ta ρ m1) (h' : EvD gh T tb ρ m2) : EvD gh T (tAndV ta tb) ρ (andM m1 m2) := fun F H σ g b g' S e Q k => by
  obtain ⟨d, g1, e1, e⟩ := bnd_inv e
  obtain ⟨c, g2, e2, e⟩ := bnd_inv e
  obtain ⟨e', rfl⟩ := lft_inv e2
  refine h F H σ g d _ S e1 _ fun v H1 G1 p1 r1 => ?_
  rw [asB_inv e'] at r1
  refine ⟨c, r1, ?_⟩
  cases c with
  | true =>
    rw [if_pos rfl] at e ⊢
    exact h' G1 H1 σ _ b g' (S.step p1) e _ fun v H2 G2 p2 r2 => k v H2 G2 (p1.trans S.gi p2) r2
  | false =>
    rw [if_neg (by decide)] at e ⊢
    obtain ⟨rfl, rfl⟩ := ret_inv e
    exact k _ H1 G1 p1 rfl
theorem ev_or (h : EvD gh T ta ρ m1) (h' : EvD gh T tb ρ m2) : EvD gh T (tOrV ta tb) ρ (orM m1 m2) := fun F H σ g b g' S e Q k => by
  obtain ⟨d, g1, e1, e⟩ := bnd_inv e
  obtain ⟨c, g2, e2, e⟩ := bnd_inv e
  obtain ⟨e', rfl⟩ := lft_inv e2
  refine h F H σ g d _ S e1 _ fun v H1 G1 p1 r1 => ?_
  rw [asB_inv e'] at r1
  refine ⟨c, r1, ?_⟩
  cases c with
  | false =>
    rw [if_neg (by decide)] at e ⊢
    exact h' G1 H1 σ _ b g' (S.step p1) e _ fun v H2 G2 p2 r2 => k v H2 G2 (p1.trans S.gi p2) r2
  | true =>
    rw [if_pos rfl] at e ⊢
    obtain ⟨rfl, rfl⟩ := ret_inv e
    exact k _ H1 G1 p1 rfl
theorem ev_notV (h : EvD gh T ta ρ m1) : EvD gh T (tNotV ta) ρ (bnd m1 fun d => bnd (lft (asB d)) fun b => ret (.bl (!b))) := fun F H σ g b g' S e Q k => by
  obtain ⟨d, g1, e1, ea⟩ := bnd_inv e
  obtain ⟨c, g2, e2, eb⟩ := bnd_inv ea
  obtain ⟨e', rfl⟩ := lft_inv e2
  obtain ⟨rfl, rfl⟩ := ret_inv eb
  refine h F H σ g d _ S e1 _ fun v H1 G1 p1 r1 => ?_
  rw [asB_inv e'] at r1
  exact ⟨c, r1, k _ H1 G1 p1 rfl⟩
theorem ev_if (h : EvT gh T t ρ mt) (h1 : EvD gh T ta ρ m1) (h2 : EvD gh T tb ρ m2) : EvD gh T (tIf t ta tb) ρ (bnd mt fun b => if b then m1 else m2) := fun F H σ g d g' S e Q k => by
  obtain ⟨b, g1, e1, e⟩ := bnd_inv e
  refine h F H σ g b g1 S e1 _ fun H1 G1 p1 => ?_
  cases b with
  | true =>
    rw [if_pos rfl] at e ⊢
    exact h1 G1 H1 σ g1 d g' (S.step p1) e _ fun v H2 G2 p2 r2 => k v H2 G2 (p1.trans S.gi p2) r2
  | false =>
    rw [if_neg (by decide)] at e ⊢
    exact h2 G1 H1 σ g1 d g' (S.step p1) e _ fun v H2 G2 p2 r2 => k v H2 G2 (p1.trans S.gi p2) r2
/-- a < b < c -/
def chM {γ : Type} (f h : D → D → Option D) (m1 m2 m3 : M γ D) : M γ D := bnd m1 fun x => bnd m2 fun y => bnd (lft (f x y)) fun z => bnd (lft (asB z)) fun b => if b then bnd m3 fun w => lft (h y w) else ret (.bl false)
theorem ev_chain {tc : TE} {m3 : M gh.S D} {r r' : R2} {f f' : D → D → Option D} (ho : OpOk T r f) (ho' : OpOk T r' f') (ha : EvD gh T ta ρ m1) (hb : EvD gh T tb ρ m2) (hc : EvD gh T tc ρ m3) : EvD gh T (tChain r r' ta tb tc) ρ (chM f f' m1 m2 m3) := fun F H σ g d g' S e Q k => by
  obtain ⟨x, g1, e1, ea⟩ := bnd_inv e
  obtain ⟨y, g2, e2, eb⟩ := bnd_inv ea
  obtain ⟨z, g3, e3, ec⟩ := bnd_inv eb
  obtain ⟨e3', hg3⟩ := lft_inv e3
  obtain ⟨b, g4, e4, e⟩ := bnd_inv ec
  obtain ⟨e4', hg4⟩ := lft_inv e4
  subst hg4 hg3
  refine ha F H σ g x g1 S e1 _ fun v H1 G1 p1 r1 => hb G1 H1 σ g1 y _ (S.step p1) e2 _ fun u H2 G2 p2 r2 => ?_
  refine ho G2 H2 x y z v u e3' (r1.ex p2.fg) r2 p2.gh' _ fun w H3 G3 q r3 => ?_
  rw [asB_inv e4'] at r3
  refine ⟨b, r3, ?_⟩
  have p3 := p1.trans S.gi (p2.trans p1.gi (q.post p2.gi))
  cases b with
  | true =>
    rw [if_pos rfl] at e ⊢
    obtain ⟨w', g5, e5, e⟩ := bnd_inv e
    obtain ⟨e6, rfl⟩ := lft_inv e
    refine hc G3 H3 σ _ w' _ (S.step p3) e5 _ fun v4 H4 G4 p4 r4 => ?_
    exact ho' G4 H4 y w' d u v4 e6 ((r2.ex q.fg).ex p4.fg) r4 p4.gh' Q fun v5 H5 G5 q5 r5 => k v5 H5 G5 (p3.trans S.gi (p4.trans p3.gi (q5.post p4.gi))) r5
  | false =>
    rw [if_neg (by decide)] at e ⊢
    obtain ⟨rfl, rfl⟩ := ret_inv e
    exact k _ H3 G3 p3 rfl
end
/-! ### built-in calls, by data -/
section
variable {T : Tb}
def lenD : List D → Option D
  | [.str x] => if x.length ≤ LIM then some (.int x.length) else none
  | [.tup ds] => some (.int ds.length)
  | [.lst ds] => some (.int ds.length)
  | _ => none
abbrev rLenA (K : PySem.W.Frag) : List V → Hp → VK → Prop := fun xs H Q => ∃ x n, xs = [x] ∧ LenV K x H n ∧ Q (.int n) H
theorem one_of {F : Hp} {d : D} {vs : List V} (r : Rps T F [d] vs) : ∃ v, vs = [v] ∧ Rp T F d v := by
  obtain ⟨v, ys, rfl, h, e⟩ := r
  cases e
  exact ⟨v, rfl, h⟩
theorem two_of {F : Hp} {d e : D} {vs : List V} (r : Rps T F [d, e] vs) : ∃ v u, vs = [v, u] ∧ Rp T F d v ∧ Rp T F e u := by
  obtain ⟨v, ys, rfl, h, r⟩ := r
  obtain ⟨u, rfl, h2⟩ := one_of r
  exact ⟨v, u, rfl, h, h2⟩
theorem okLen : CbOk T (rLenA T.K) lenD := fun F H ds z vs e r ex Q k => by
  unfold lenD at e
  split at e
  · obtain ⟨h, hz⟩ := gd e
    subst hz
    obtain ⟨v, hv, r'⟩ := one_of r
    subst hv
    cases r'
    exact ⟨_, _, rfl, ⟨lim h, rfl⟩, k _ H F (.refl ex) rfl⟩
  · cases e
    obtain ⟨v, hv, a, xs, ha, hs, r'⟩ := one_of r; subst hv ha
    exact ⟨_, _, rfl, .inr ⟨xs, ex.t hs, rfl⟩, k _ H F (.refl ex) (by rw [r'.length]; rfl)⟩
  · cases e
    obtain ⟨v, hv, a, xs, ha, hs, r'⟩ := one_of r; subst hv ha
    exact ⟨_, _, rfl, .inl ⟨xs, SqL.of (ex _ _ hs), rfl⟩, k _ H F (.refl ex) (by rw [r'.length]; rfl)⟩
  · cases e
/-- int(x): an int, a text of figures -/
def intD : List D → Option D
  | [.int i] => some (.int i)
  | [.bl b] => some (.int (if b then 1 else 0))
  | [.str x] => if x.length ≤ 640 then (PySem.intText? x).map .int else none
  | _ => none
abbrev rIntA : List V → Hp → VK → Prop := fun xs H Q => ((∃ i, xs = [.int i] ∧ Q (.int i) H) ∨ ∃ k, xs = [.bl k] ∧ Q (.int (if k then 1 else 0)) H) ∨ ∃ a n, xs = [.str a] ∧ PySem.intText? a = some n ∧ a.length ≤ 640 ∧ Q (.int n) H
theorem clInt {X : Cx} : CallR X (.type "int") rIntA := call_int1.or call_int_str
theorem okInt : CbOk T rIntA intD := fun F H ds z vs e r ex Q k => by
  unfold intD at e
  split at e
  · cases e; obtain ⟨v, hv, r'⟩ := one_of r; subst hv; cases r'; exact .inl (.inl ⟨_, rfl, k _ H F (.refl ex) rfl⟩)
  · cases e; obtain ⟨v, hv, r'⟩ := one_of r; subst hv; cases r'; exact .inl (.inr ⟨_, rfl, k _ H F (.refl ex) rfl⟩)
  · split at e
    · rename_i h
      obtain ⟨n, e', rfl⟩ := map_inv e
      obtain ⟨v, hv, r'⟩ := one_of r
      subst hv
      cases r'
      exact .inr ⟨_, n, rfl, e', h, k _ H F (.refl ex) rfl⟩
    · cases e
  · cases e
def strI (i : Int) : Str := Str.ofString (toString i)
def strD : List D → Option D
  | [.int i] => if i.natAbs.log2 < 1920 then some (.str (strI i)) else none
  | _ => none
abbrev rStrA : List V → Hp → VK → Prop := fun xs H Q => ∃ i, xs = [.int i] ∧ i.natAbs.log2 < 1920 ∧ Q (.str (toString i)) H
theorem okStr : CbOk T rStrA strD := fun F H ds z vs e r ex Q k => by
  unfold strD at e
  split at e
  · obtain ⟨h, hz⟩ := gd e; subst hz; obtain ⟨v, hv, r'⟩ := one_of r; subst hv; cases r'; exact ⟨_, rfl, h, k _ H F (.refl ex) rfl⟩
  · cases e
def ordC : List D → Option D
  | [.str x] => if x.length = 1 then some (.int (x.cps.getD 0 0 : Nat)) else none
  | _ => none
abbrev rOrdA : List V → Hp → VK → Prop := fun xs H Q => ∃ x, xs = [.str x] ∧ x.length = 1 ∧ Q (.int (x.cps.getD 0 0 : Nat)) H
theorem okOrdC : CbOk T rOrdA ordC := fun F H ds z vs e r ex Q k => by
  unfold ordC at e
  split at e
  · obtain ⟨h, hz⟩ := gd e; subst hz; obtain ⟨v, hv, r'⟩ := one_of r; subst hv; cases r'; exact ⟨_, rfl, h, k _ H F (.refl ex) rfl⟩
  · cases e
def absD : List D → Option D
  | [.int i] => some (.int (if i < 0 then -i else i))
  | _ => none
abbrev rAbsA : List V → Hp → VK → Prop := fun xs H Q => ∃ i, xs = [.int i] ∧ Q (.int (if i < 0 then -i else i)) H
theorem okAbs : CbOk T rAbsA absD := fun F H ds z vs e r ex Q k => by
  unfold absD at e
  split at e
  · cases e; obtain ⟨v, hv, r'⟩ := one_of r; subst hv; cases r'; exact ⟨_, rfl, k _ H F (.refl ex) rfl⟩
  · cases e
def intsD : List D → Option (List Int)
  | [] => some []
  | .int i :: ds => (intsD ds).map (i :: ·)
  | _ :: _ => none
theorem intsD_of {F : Hp} : ∀ {ds : List D} {vs : List V} {ns : List Int}, intsD ds = some ns → Rps T F ds vs → vs = ns.map V.int
  | [], _, _, e, r => by cases e; cases r; rfl
  | d :: ds, _, ns, e, ⟨y, ys, e1, h, r⟩ => by
    subst e1
    cases d with
    | int i =>
      obtain ⟨ms, e', rfl⟩ := map_inv e
      cases h
      rw [List.map_cons, intsD_of e' r]
    | _ => cases e
/-- sum, max, min of a list of intsD -/
def sumD : List D → Option D
  | [.lst ds] => (intsD ds).map fun ns => .int ns.sum
  | _ => none
theorem okSum : CbOk T (rSum T.K) sumD := fun F H ds z vs e r ex Q k => by
  unfold sumD at e
  split at e
  · obtain ⟨ns, e', rfl⟩ := map_inv e
    obtain ⟨v, hv, a, xs, ha, hs, r'⟩ := one_of r; subst hv ha
    cases intsD_of e' r'
    exact ⟨a, ns, rfl, SqL.of (ex _ _ hs), k _ H F (.refl ex) rfl⟩
  · cases e
def maxI : List Int → Option Int
  | [] => none
  | x :: xs => some (xs.foldl max x)
def minI : List Int → Option Int
  | [] => none
  | x :: xs => some (xs.foldl min x)
theorem foldl_max_ge : ∀ (xs : List Int) (x : Int), x ≤ xs.foldl max x ∧ (∀ y ∈ xs, y ≤ xs.foldl max x) ∧ (xs.foldl max x = x ∨ xs.foldl max x ∈ xs)
  | [], x => ⟨Int.le_refl _, (fun _ h => nomatch h), .inl rfl⟩
  | y :: xs, x => by
    obtain ⟨h1, h2, h3⟩ := foldl_max_ge xs (max x y)
    rw [List.foldl_cons]
    refine ⟨Int.le_trans (Int.le_max_left x y) h1, fun z hz => ?_, ?_⟩
    · rcases List.mem_cons.mp hz with rfl | hz
      · exact Int.le_trans (Int.le_max_right x z) h1
      · exact h2 z hz
    · rcases h3 with h3 | h3
      · rw [h3]
        rcases Int.le_total x y with q | q
        · rw [Int.max_eq_right q]; exact .inr List.mem_cons_self
        · rw [Int.max_eq_left q]; exact .inl rfl
      · exact .inr (List.mem_cons_of_mem _ h3)
theorem foldl_min_le : ∀ (xs : List Int) (x : Int), xs.foldl min x ≤ x ∧ (∀ y ∈ xs, xs.foldl min x ≤ y) ∧ (xs.foldl min x = x ∨ xs.foldl min x ∈ xs)
  | [], x => ⟨Int.le_refl _, (fun _ h => nomatch h), .inl rfl⟩
  | y :: xs, x => by
    obtain ⟨h1, h2, h3⟩ := foldl_min_le xs (min x y)
    rw [List.foldl_cons]
    refine ⟨Int.le_trans h1 (Int.min_le_left x y), fun z hz => ?_, ?_⟩
    · rcases List.mem_cons.mp hz with rfl | hz
      · exact Int.le_trans h1 (Int.min_le_right x z)
      · exact h2 z hz
    · rcases h3 with h3 | h3
      · rw [h3]
        rcases Int.le_total x y with q | q
        · rw [Int.min_eq_left q]; exact .inl rfl
        · rw [Int.min_eq_right q]; exact .inr List.mem_cons_self
      · exact .inr (List.mem_cons_of_mem _ h3)
def maxD : List D → Option D
  | [.lst ds] => ((intsD ds).bind maxI).map .int
  | [.int i, .int j] => some (.int (if j > i then j else i))
  | _ => none
def minD : List D → Option D
  | [.lst ds] => ((intsD ds).bind minI).map .int
  | [.int i, .int j] => some (.int (if j < i then j else i))
  | _ => none
abbrev rMaxA (K : PySem.W.Frag) : List V → Hp → VK → Prop := fun xs H Q => rMax K xs H Q ∨ ∃ i j, xs = [.int i, .int j] ∧ Q (.int (if j > i then j else i)) H
abbrev rMinA (K : PySem.W.Frag) : List V → Hp → VK → Prop := fun xs H Q => rMin K xs H Q ∨ ∃ i j, xs = [.int i, .int j] ∧ Q (.int (if j < i then j else i)) H
theorem clMax {X : Cx} (hc : X.calm = true) : CallR X (.builtin "max") (rMaxA X.K) := (cr_max hc).or (call_max2 hc)
theorem clMin {X : Cx} (hc : X.calm = true) : CallR X (.builtin "min") (rMinA X.K) := (cr_min hc).or (call_min2 hc)
theorem bind_inv {α β : Type} {o : Option α} {f : α → Option β} {b : β} (h : o.bind f = some b) : ∃ a, o = some a ∧ f a = some b := by
  cases o with
  | none => cases h
  | some a => exact ⟨a, rfl, h⟩
theorem okMax : CbOk T (rMaxA T.K) maxD := fun F H ds z vs e r ex Q k => by
  unfold maxD at e
  split at e
  · obtain ⟨n, e', rfl⟩ := map_inv e
    obtain ⟨ns, e1, e2⟩ := bind_inv e'
    obtain ⟨v, hv, a, xs, ha, hs, r'⟩ := one_of r; subst hv ha
    cases intsD_of e1 r'
    cases ns with
    | nil => cases e2
    | cons x ns =>
      cases e2
      obtain ⟨h1, h2, h3⟩ := foldl_max_ge ns x
      refine .inl ⟨a, x :: ns, rfl, SqL.of (ex _ _ hs), Nat.succ_pos _, fun m hm hall => k _ H F (.refl ex) ?_⟩
      have e1 : m ≤ ns.foldl max x := by
        rcases List.mem_cons.mp hm with rfl | hm
        · exact h1
        · exact h2 m hm
      have e2 : ns.foldl max x ≤ m := by
        rcases h3 with h3 | h3
        · rw [h3]; exact hall x List.mem_cons_self
        · exact hall _ (List.mem_cons_of_mem _ h3)
      show V.int m = V.int _
      rw [Int.le_antisymm e1 e2]
  · cases e
    obtain ⟨v, u, rfl, r1, r2⟩ := two_of r
    cases r1; cases r2
    exact .inr ⟨_, _, rfl, k _ H F (.refl ex) rfl⟩
  · cases e
theorem okMin : CbOk T (rMinA T.K) minD := fun F H ds z vs e r ex Q k => by
  unfold minD at e
  split at e
  · obtain ⟨n, e', rfl⟩ := map_inv e
    obtain ⟨ns, e1, e2⟩ := bind_inv e'
    obtain ⟨v, hv, a, xs, ha, hs, r'⟩ := one_of r; subst hv ha
    cases intsD_of e1 r'
    cases ns with
    | nil => cases e2
    | cons x ns =>
      cases e2
      obtain ⟨h1, h2, h3⟩ := foldl_min_le ns x
      refine .inl ⟨a, x :: ns, rfl, SqL.of (ex _ _ hs), Nat.succ_pos _, fun m hm hall => k _ H F (.refl ex) ?_⟩
      have e1 : ns.foldl min x ≤ m := by
        rcases List.mem_cons.mp hm with rfl | hm
        · exact h1
        · exact h2 m hm
      have e2 : m ≤ ns.foldl min x := by
        rcases h3 with h3 | h3
        · rw [h3]; exact hall x List.mem_cons_self
        · exact hall _ (List.mem_cons_of_mem _ h3)
      show V.int m = V.int _
      rw [Int.le_antisymm e2 e1]
  · cases e
    obtain ⟨v, u, rfl, r1, r2⟩ := two_of r
    cases r1; cases r2
    exact .inr ⟨_, _, rfl, k _ H F (.refl ex) rfl⟩
  · cases e
/-- tuple(xs), list(xs) -/
def tupD : List D → Option D
  | [.tup ds] => some (.tup ds)
  | [.lst ds] => some (.tup ds)
  | _ => none
abbrev rTupA (K : PySem.W.Frag) : List V → Hp → VK → Prop := fun xs H Q => ∃ p ys, xs = [.ref p] ∧ ((SqL K H p ys ∧ ∀ l, H l = none → Q (.ref l) (upd H l (.tup ys))) ∨ (SqT K H p ys ∧ Q (.ref p) H))
theorem okTup : CbOk T (rTupA T.K) tupD := fun F H ds z vs e r ex Q k => by
  unfold tupD at e
  split at e
  · cases e
    obtain ⟨v, hv, a, xs, ha, hs, r'⟩ := one_of r; subst hv ha
    exact ⟨a, xs, rfl, .inr ⟨ex.t hs, k _ H F (.refl ex) ⟨a, xs, rfl, hs, r'⟩⟩⟩
  · cases e
    obtain ⟨v, hv, a, xs, ha, hs, r'⟩ := one_of r; subst hv ha
    exact ⟨a, xs, rfl, .inl ⟨SqL.of (ex _ _ hs), fun l hl => k _ _ _ (.new ex hl) ⟨l, xs, rfl, SqT.of upd_same, r'.ex (Gr.new (o := .tup xs) ex hl).fg⟩⟩⟩
  · cases e
def lstD : List D → Option D
  | [.tup ds] => some (.lst ds)
  | [.lst ds] => some (.lst ds)
  | _ => none
abbrev rLstA (K : PySem.W.Frag) : List V → Hp → VK → Prop := fun xs H Q => ∃ p ys, xs = [.ref p] ∧ (SqL K H p ys ∨ SqT K H p ys) ∧ ∀ l, H l = none → Q (.ref l) (upd H l (.lst ys))
theorem okLst : CbOk T (rLstA T.K) lstD := fun F H ds z vs e r ex Q k => by
  unfold lstD at e
  split at e
  · cases e
    obtain ⟨v, hv, a, xs, ha, hs, r'⟩ := one_of r; subst hv ha
    exact ⟨a, xs, rfl, .inr (ex.t hs), fun l hl => k _ _ _ (.new ex hl) ⟨l, xs, rfl, upd_same, r'.ex (Gr.new (o := .lst xs) ex hl).fg⟩⟩
  · cases e
    obtain ⟨v, hv, a, xs, ha, hs, r'⟩ := one_of r; subst hv ha
    exact ⟨a, xs, rfl, .inl (SqL.of (ex _ _ hs)), fun l hl => k _ _ _ (.new ex hl) ⟨l, xs, rfl, upd_same, r'.ex (Gr.new (o := .lst xs) ex hl).fg⟩⟩
  · cases e
end
end Py

set_option Elab.async false
set_option linter.all false
set_option maxRecDepth 100000
set_option maxHeartbeats 4000000
namespace Py
open PySem L2
section
variable {gh : Gh} {T : Tb} {ρ : Env} {ta tb te : TE} {m m1 m2 : M gh.S D}
/-! ### items -/
def ixD : D → D → Option D
  | .lst ds, .int i => atI ds i
  | .tup ds, .int i => atI ds i
  | .str z, .int i => if z.length ≤ LIM then (atI z.cps.toList i).map fun c => .str ⟨#[c]⟩ else none
  | _, _ => none
theorem atI_of {F : Hp} {ds : List D} {xs : List V} {i : Int} {d : D} (r : Rps T F ds xs) (h : atI ds i = some d) : ∃ v, atI xs i = some v ∧ Rp T F d v := by
  unfold atI at h ⊢
  obtain ⟨j, e1, e2⟩ := bind_inv h
  rw [r.length, e1]
  obtain ⟨v, e3, q⟩ := r.get e2
  exact ⟨v, e3, q⟩
theorem okIx : OpOk T (rIx T.K) ixD := fun F H x y z v u e r1 r2 ex Q k => by
  cases x <;> first | (cases y <;> cases e; done) | skip
  · cases y <;> first | (cases e; done) | skip
    have e' : (if _ ≤ LIM then _ else none) = some z := e
    split at e'
    · rename_i h
      obtain ⟨c, e1, hz⟩ := map_inv e'
      subst hz
      cases r1; cases r2
      exact .inr (.inr ⟨_, _, c, rfl, rfl, lim h, e1, k _ H F (.refl ex) rfl⟩)
    · cases e'
  · cases y <;> first | (cases e; done) | skip
    obtain ⟨a, xs, rfl, hs, r⟩ := r1
    cases r2
    obtain ⟨w, e1, q⟩ := atI_of r e
    exact .inr (.inl ⟨a, xs, _, w, rfl, rfl, ex.t hs, e1, k _ H F (.refl ex) q⟩)
  · cases y <;> first | (cases e; done) | skip
    obtain ⟨a, xs, rfl, hs, r⟩ := r1
    cases r2
    obtain ⟨w, e1, q⟩ := atI_of r e
    exact .inl ⟨a, xs, _, w, rfl, rfl, SqL.of (ex _ _ hs), e1, k _ H F (.refl ex) q⟩
/-- of a list of one's own -/
def atM {γ : Type} (ds : List D) (d : D) : M γ D := match d with
  | .int i => lft (atI ds i)
  | _ => fl
theorem ev_ixo {i : Nat} {ds : List D} (h : ρ[i]? = some (.own (.lst ds))) (hb : EvD gh T tb ρ m2) : EvD gh T (tOp (rIx T.K) (tVar i) tb) ρ (bnd m2 fun y => atM ds y) := fun F H σ g d g' S e Q k => by
  obtain ⟨y, g2, e2, ea⟩ := bnd_inv e
  obtain ⟨a, u, hv, h1, h2, h3, xs, rfl, r⟩ := S.own h
  refine ⟨_, hv, hb F H σ g y g2 S e2 _ fun v H2 G2 p2 r2 => ?_⟩
  cases y <;> first | (cases ea; done) | skip
  cases r2
  obtain ⟨e3, hg⟩ := lft_inv ea
  subst hg
  obtain ⟨w, e4, q⟩ := atI_of r e3
  exact .inl ⟨a, xs, _, w, rfl, rfl, SqL.of (p2.hh _ _ h2 h3), e4, k w H2 G2 p2 (q.ex p2.fg)⟩
/-! ### slices -/
def cutG {α : Type} (xs : List α) (lo hi : Option Int) : List α := (xs.drop (HT.sIx xs.length 0 lo)).take (HT.sIx xs.length xs.length hi - HT.sIx xs.length 0 lo)
theorem cut_of {F : Hp} {ds : List D} {xs : List V} (lo hi : Option Int) (r : Rps T F ds xs) : Rps T F (cutG ds lo hi) (cutV xs lo hi) := by
  unfold cutG cutV
  rw [r.length]
  exact (r.drop _).take _
theorem cut_whole {α : Type} {xs : List α} {lo hi : Option Int} (h : HT.sIx xs.length 0 lo = 0 ∧ HT.sIx xs.length xs.length hi = xs.length) : cutG xs lo hi = xs := by
  unfold cutG
  rw [h.1, h.2]
  simp
def slD : D → Option Int → Option Int → Option D
  | .lst ds, lo, hi => some (.lst (cutG ds lo hi))
  | .tup ds, lo, hi => some (.tup (cutG ds lo hi))
  | .str z, lo, hi => if z.length ≤ LIM then some (.str (cutS z lo hi)) else none
  | _, _, _ => none
def rSlAny (K : PySem.W.Frag) : V → Option Int → Option Int → Hp → VK → Prop := fun x lo hi H Q => rSlL K x lo hi H Q ∨ (rSlA K x lo hi H Q ∨ rSlS x lo hi H Q)
theorem slAny {X : Cx} : SlR X (rSlAny X.K) := sl_list.or (sl_tupA.or sl_str)
theorem eo_none : EvO gh T tNoPart ρ (ret none) := fun F H σ g d' g' S e Q k => by
  obtain ⟨rfl, rfl⟩ := ret_inv e
  exact k H F (.refl S)
def asI : D → Option Int
  | .int i => some i
  | _ => none
theorem asI_inv {d : D} {b : Int} (h : asI d = some b) : d = .int b := by
  cases d <;> first | (cases h; rfl) | (cases h)
theorem eo_some (ha : EvD gh T ta ρ m1) : EvO gh T (tPart ta) ρ (bnd m1 fun d => bnd (lft (asI d)) fun i => ret (some i)) := fun F H σ g d' g' S e Q k => by
  obtain ⟨d, g1, e1, ea⟩ := bnd_inv e
  obtain ⟨i, g2, e2, eb⟩ := bnd_inv ea
  obtain ⟨e3, hg⟩ := lft_inv e2
  obtain ⟨rfl, hg2⟩ := ret_inv eb
  subst hg hg2
  refine ha F H σ g d _ S e1 _ fun v H1 G1 p1 r1 => ?_
  rw [asI_inv e3] at r1
  exact ⟨i, r1, k H1 G1 p1⟩
theorem ev_sl {tl th : TO} {ml mh : M gh.S (Option Int)} (ha : EvD gh T ta ρ m1) (hl : EvO gh T tl ρ ml) (hh : EvO gh T th ρ mh) : EvD gh T (tSl (rSlAny T.K) ta tl th) ρ (bnd m1 fun x => bnd ml fun lo => bnd mh fun hi => lft (slD x lo hi)) := fun F H σ g d g' S e Q k => by
  obtain ⟨x, g1, e1, ea⟩ := bnd_inv e
  obtain ⟨lo, g2, e2, eb⟩ := bnd_inv ea
  obtain ⟨hi, g3, e3, ec⟩ := bnd_inv eb
  obtain ⟨e4, hg⟩ := lft_inv ec
  subst hg
  refine ha F H σ g x g1 S e1 _ fun v H1 G1 p1 r1 => hl G1 H1 σ g1 lo g2 (S.step p1) e2 _ fun H2 G2 p2 => hh G2 H2 σ g2 hi _ ((S.step p1).step p2) e3 _ fun H3 G3 p3 => ?_
  have P := p1.trans S.gi (p2.trans p1.gi p3)
  have r := r1.ex (p2.fg.trans p3.fg)
  cases x <;> first | (cases e4; done) | skip
  · obtain ⟨h, rfl⟩ := gd e4
    cases r
    exact .inr (.inr ⟨_, rfl, lim h, k _ H3 G3 P rfl⟩)
  · cases e4
    obtain ⟨a, xs, rfl, hs, q⟩ := r
    refine .inr (.inl ⟨a, xs, rfl, p3.gh'.t hs, fun hw => ?_, fun hw p hp => ?_⟩)
    · rw [q.length] at hw
      rw [cut_whole hw] at k
      exact k _ H3 G3 P ⟨a, xs, rfl, hs, q⟩
    · have gr := Gr.new (o := .tup (cutV xs lo hi)) p3.gh' hp
      exact k _ _ _ (P.trans S.gi (gr.post p3.gi)) ⟨p, _, rfl, SqT.of upd_same, (cut_of lo hi q).ex gr.fg⟩
  · cases e4
    obtain ⟨a, xs, rfl, hs, q⟩ := r
    refine .inl ⟨a, xs, rfl, SqL.of (p3.gh' _ _ hs), fun p hp => ?_⟩
    have gr := Gr.new (o := .lst (cutV xs lo hi)) p3.gh' hp
    exact k _ _ _ (P.trans S.gi (gr.post p3.gi)) ⟨p, _, rfl, upd_same, (cut_of lo hi q).ex gr.fg⟩
/-- a slice of a list of one's own -/
theorem ev_slo {i : Nat} {ds : List D} {tl th : TO} {ml mh : M gh.S (Option Int)} (h : ρ[i]? = some (.own (.lst ds))) (hl : EvO gh T tl ρ ml) (hh : EvO gh T th ρ mh) : EvD gh T (tSl (rSlAny T.K) (tVar i) tl th) ρ (bnd ml fun lo => bnd mh fun hi => ret (.lst (cutG ds lo hi))) := fun F H σ g d g' S e Q k => by
  obtain ⟨lo, g2, e2, eb⟩ := bnd_inv e
  obtain ⟨hi, g3, e3, ec⟩ := bnd_inv eb
  obtain ⟨rfl, hg⟩ := ret_inv ec
  subst hg
  obtain ⟨a, u, hv, h1, h2, h3, xs, rfl, r⟩ := S.own h
  refine ⟨_, hv, hl F H σ g lo g2 S e2 _ fun H2 G2 p2 => hh G2 H2 σ g2 hi _ (S.step p2) e3 _ fun H3 G3 p3 => ?_⟩
  have P := p2.trans S.gi p3
  refine .inl ⟨a, xs, rfl, SqL.of (P.hh _ _ h2 h3), fun p hp => ?_⟩
  have gr := Gr.new (o := .lst (cutV xs lo hi)) p3.gh' hp
  exact k _ _ _ (P.trans S.gi (gr.post p3.gi)) ⟨p, _, rfl, upd_same, (cut_of lo hi (r.ex P.fg)).ex gr.fg⟩
/-! ### isinstance of one built-in class, of two -/
def tyD : D → Option String
  | .non => some "NoneType" | .bl _ => some "bool" | .int _ => some "int" | .str _ => some "str" | .tup _ => some "tuple" | .lst _ => some "list"
  | _ => none
/-- the built-in classes asked here, by number -/
inductive Bt where | int | str | bool | tuple | list | dict
def Bt.nm : Bt → String
  | .int => "int" | .str => "str" | .bool => "bool" | .tuple => "tuple" | .list => "list" | .dict => "dict"
def isiB : Bt → D → Option Bool
  | .int, .int _ => some true | .int, .bl _ => some true | .bool, .bl _ => some true | .str, .str _ => some true | .tuple, .tup _ => some true | .list, .lst _ => some true
  | _, .non => some false | _, .bl _ => some false | _, .int _ => some false | _, .str _ => some false | _, .tup _ => some false | _, .lst _ => some false
  | _, _ => none
theorem ty_of {F H : Hp} {d : D} {v : V} {t : String} (h : tyD d = some t) (r : Rp T F d v) (ex : Ex F H) : TyX T.K H v (.type t) := by
  cases d with
  | non => cases h; cases r; exact .base .non
  | bl b => cases h; cases r; exact .base (.bl b)
  | int b => cases h; cases r; exact .base (.int b)
  | str b => cases h; cases r; exact .base (.str b)
  | tup ds =>
    cases h
    obtain ⟨a, xs, rfl, hs, _⟩ := r
    rcases hs with (hs | ⟨o, hs⟩) | ⟨o, its, n, hk, hc, _⟩
    · exact .base (.tup (ex _ _ hs))
    · exact .fTuple (ex _ _ hs)
    · exact .kTuple hk hc
  | lst ds =>
    cases h
    obtain ⟨a, xs, rfl, hs, _⟩ := r
    exact .base (.lst (ex _ _ hs))
  | _ => cases h
theorem kit_isi {d : D} {n : Bt} {b : Bool} (h : isiB n d = some b) : ∃ t, tyD d = some t ∧ kitB t n.nm = some b := by
  cases d <;> cases n <;> first | (cases h; done) | (cases h; exact ⟨_, rfl, by decide +kernel⟩)
def rIsiB (K : PySem.W.Frag) (n : Bt) (te : TE) : TE := tCB (rIsi K) (tCons te (tCons (tC (.ty n.nm)) tNil))
theorem ev_isi {n : Bt} (h : EvD gh T te ρ m) : EvD gh T (tCB (rIsi T.K) (tCons te (tCons (tC (.ty n.nm)) tNil))) ρ (bnd m fun d => lft ((isiB n d).map .bl)) := fun F H σ g d' g' S e Q k => by
  obtain ⟨d, g1, e1, ea⟩ := bnd_inv e
  obtain ⟨e2, hg⟩ := lft_inv ea
  subst hg
  obtain ⟨b, e3, rfl⟩ := map_inv e2
  refine h F H σ g d _ S e1 _ fun v H1 G1 p1 r1 => ?_
  obtain ⟨t, h1, h2⟩ := kit_isi e3
  exact ⟨v, .ty n.nm, .type t, .type n.nm, b, rfl, .ty _, ty_of h1 r1 p1.gh', kit_ty h2, k _ H1 G1 p1 rfl⟩
def isi2 (n n' : Bt) (d : D) : Option Bool := match isiB n d, isiB n' d with
  | some a, some b => some (a || b)
  | _, _ => none
theorem ev_isi2 {n n' : Bt} (h : EvD gh T te ρ m) : EvD gh T (tCB (rIsiT T.K) (tCons te (tCons (tTup (tCons (tC (.ty n.nm)) (tCons (tC (.ty n'.nm)) tNil))) tNil))) ρ (bnd m fun d => lft ((isi2 n n' d).map .bl)) := fun F H σ g d' g' S e Q k => by
  obtain ⟨d, g1, e1, ea⟩ := bnd_inv e
  obtain ⟨e2, hg⟩ := lft_inv ea
  subst hg
  obtain ⟨b, e3, rfl⟩ := map_inv e2
  refine h F H σ g d _ S e1 _ fun v H1 G1 p1 r1 => ⟨by show 2 ≤ sizeLine; decide, fun p hp => ?_⟩
  unfold isi2 at e3
  cases q1 : isiB n d with
  | none => rw [q1] at e3; simp at e3
  | some a1 =>
    cases q2 : isiB n' d with
    | none => rw [q1, q2] at e3; simp at e3
    | some a2 =>
      rw [q1, q2] at e3
      simp at e3
      obtain ⟨t, h1, h2⟩ := kit_isi q1
      obtain ⟨t', h1', h2'⟩ := kit_isi q2
      rw [h1] at h1'; cases h1'
      have gr := Gr.new (o := .tup [.ty n.nm, .ty n'.nm]) p1.gh' hp
      refine ⟨v, p, [.ty n.nm, .ty n'.nm], .type t, [.type n.nm, .type n'.nm], b, rfl, upd_same, .cons (.ty _) (.cons (.ty _) .nil), ty_of h1 (r1.ex gr.fg) gr.gh', ?_, ?_⟩
      · refine kitAny_cons (kit_ty h2) (fun q => kitAny_cons (kit_ty h2') (fun q' => ?_) fun q' => ?_) fun q => ?_
        · subst q q'; subst e3; exact kitAny_nil
        · subst q q'; exact e3.symm
        · subst q; rw [← e3]; rfl
      · exact k _ _ _ (p1.trans S.gi (gr.post p1.gi)) rfl
/-! ### methods of texts with one argument -/
def asS : D → Option Str
  | .str x => some x
  | _ => none
theorem asS_inv {d : D} {b : Str} (h : asS d = some b) : d = .str b := by
  cases d <;> first | (cases h; rfl) | (cases h)
def S1Ok (T : Tb) (r : V → List V → Hp → VK → Prop) (f : Str → D → Option D) : Prop := ∀ F H x d z v, f x d = some z → Rp T F d v → Ex F H → ∀ Q : VK, (∀ w H' G, Gr F H G H' → Rp T G z w → Q w H') → r (.str x) [v] H Q
theorem ev_m1 {r : V → List V → Hp → VK → Prop} {f : Str → D → Option D} (ho : S1Ok T r f) (ha : EvD gh T ta ρ m1) (hb : EvD gh T tb ρ m2) : EvD gh T (tM1 r ta tb) ρ (bnd m1 fun x => bnd (lft (asS x)) fun x => bnd m2 fun y => lft (f x y)) := fun F H σ g d g' S e Q k => by
  obtain ⟨x, g1, e1, ea⟩ := bnd_inv e
  obtain ⟨x', g2, e2, eb⟩ := bnd_inv ea
  obtain ⟨e3, hg⟩ := lft_inv e2
  subst hg
  obtain ⟨y, g3, e4, ec⟩ := bnd_inv eb
  obtain ⟨e5, hg⟩ := lft_inv ec
  subst hg
  refine ha F H σ g x _ S e1 _ fun v H1 G1 p1 r1 => ?_
  rw [asS_inv e3] at r1
  cases r1
  refine ⟨⟨_, rfl⟩, hb G1 H1 σ _ y _ (S.step p1) e4 _ fun u H2 G2 p2 r2 => ?_⟩
  exact ho G2 H2 x' y d u e5 r2 p2.gh' Q fun w H3 G3 q r3 => k w H3 G3 (p1.trans S.gi (p2.trans p1.gi (q.post p2.gi))) r3
def strsD : List D → Option (List Str)
  | [] => some []
  | .str i :: ds => (strsD ds).map (i :: ·)
  | _ :: _ => none
theorem strsD_of {F : Hp} : ∀ {ds : List D} {vs : List V} {ns : List Str}, strsD ds = some ns → Rps T F ds vs → vs = ns.map V.str
  | [], _, _, e, r => by cases e; cases r; rfl
  | d :: ds, _, ns, e, ⟨y, ys, e1, h, r⟩ => by
    subst e1
    cases d with
    | str i =>
      obtain ⟨ms, e', rfl⟩ := map_inv e
      cases h
      rw [List.map_cons, strsD_of e' r]
    | _ => cases e
theorem rps_strs {F : Hp} : ∀ (ns : List Str), Rps T F (ns.map D.str) (ns.map V.str)
  | [] => rfl
  | n :: ns => ⟨_, _, rfl, rfl, rps_strs ns⟩
def splitD (x : Str) : D → Option D
  | .str b => if (b.length == 0) = false ∧ x.length + 2 ≤ LIM then some (.lst ((Txt.split x b).map .str)) else none
  | _ => none
abbrev rSplitA : V → List V → Hp → VK → Prop := fun x xs H Q => ∃ a b, x = .str a ∧ xs = [.str b] ∧ (b.length == 0) = false ∧ a.length + 2 ≤ sizeLine ∧ rNewStrs (Txt.split a b) H Q
theorem okSplit : S1Ok T rSplitA splitD := fun F H x d z v e r ex Q k => by
  cases d <;> first | (cases e; done) | skip
  obtain ⟨⟨h1, h2⟩, rfl⟩ := gd e
  cases r
  exact ⟨_, _, rfl, rfl, h1, lim h2, fun p hp => k _ _ _ (.new ex hp) ⟨p, _, rfl, upd_same, rps_strs _⟩⟩
def joinD (x : Str) : D → Option D
  | .lst ds => (strsD ds).bind fun ys => if (ys.map (·.length)).sum + ys.length * x.length ≤ 16777216 then some (.str (Txt.join x ys)) else none
  | .tup ds => (strsD ds).bind fun ys => if (ys.map (·.length)).sum + ys.length * x.length ≤ 16777216 then some (.str (Txt.join x ys)) else none
  | _ => none
abbrev rJoinA (K : PySem.W.Frag) : V → List V → Hp → VK → Prop := fun x xs H Q => ∃ a p, ∃ ys : List Str, x = .str a ∧ xs = [.ref p] ∧ (SqL K H p (ys.map V.str) ∨ SqT K H p (ys.map V.str)) ∧
    (ys.map (·.length)).sum + ys.length * a.length ≤ 16777216 ∧ Q (.str (Txt.join a ys)) H
theorem okJoin : S1Ok T (rJoinA T.K) joinD := fun F H x d z v e r ex Q k => by
  cases d <;> first | (cases e; done) | skip
  · obtain ⟨ys, e1, e2⟩ := bind_inv e
    obtain ⟨h, rfl⟩ := gd e2
    obtain ⟨a, xs, rfl, hs, q⟩ := r
    cases strsD_of e1 q
    exact ⟨x, a, ys, rfl, rfl, .inr (ex.t hs), h, k _ H F (.refl ex) rfl⟩
  · obtain ⟨ys, e1, e2⟩ := bind_inv e
    obtain ⟨h, rfl⟩ := gd e2
    obtain ⟨a, xs, rfl, hs, q⟩ := r
    cases strsD_of e1 q
    exact ⟨x, a, ys, rfl, rfl, .inl (SqL.of (ex _ _ hs)), h, k _ H F (.refl ex) rfl⟩
def rfindD (x : Str) : D → Option D
  | .str b => some (.int (Txt.rfind x b))
  | _ => none
abbrev rRfindA : V → List V → Hp → VK → Prop := fun x xs H Q => ∃ a b, x = .str a ∧ xs = [.str b] ∧ Q (.int (Txt.rfind a b)) H
theorem okRfind : S1Ok T rRfindA rfindD := fun F H x d z v e r ex Q k => by
  cases d <;> first | (cases e; done) | skip
  cases e; cases r
  exact ⟨_, _, rfl, rfl, k _ H F (.refl ex) rfl⟩
/-! ### f-strings -/
def fmtD : D → Option D
  | .str y => if y.length ≤ LIM then some (.str y) else none
  | .int i => if i.natAbs.log2 < 1920 then some (.str (strI i)) else none
  | _ => none
theorem ev_fmt (h : EvD gh T te ρ m) : EvD gh T (tFmt te) ρ (bnd m fun d => lft (fmtD d)) := fun F H σ g d' g' S e Q k => by
  obtain ⟨d, g1, e1, ea⟩ := bnd_inv e
  obtain ⟨e2, hg⟩ := lft_inv ea
  subst hg
  refine h F H σ g d _ S e1 _ fun v H1 G1 p1 r1 => ?_
  cases d <;> first | (cases e2; done) | skip
  · obtain ⟨h, rfl⟩ := gd e2; cases r1; exact .inr ⟨_, rfl, h, k _ H1 G1 p1 rfl⟩
  · obtain ⟨h, rfl⟩ := gd e2; cases r1; exact .inl ⟨_, rfl, lim h, k _ H1 G1 p1 rfl⟩
/-- the parts, glued -/
def jn {γ : Type} (acc : Str) : M γ D := ret (.str acc)
def jc {γ : Type} (m : M γ D) (r : Str → M γ D) (acc : Str) : M γ D := bnd m fun d => bnd (lft (asS d)) fun y => chk (decide ((acc ++ y).length ≤ LIM)) (r (acc ++ y))
inductive EvJ (gh : Gh) (T : Tb) (ρ : Env) : List TE → (Str → M gh.S D) → Prop where
  | nil : EvJ gh T ρ [] jn
  | cons {t : TE} {ts : List TE} {m : M gh.S D} {r : Str → M gh.S D} (h : EvD gh T t ρ m) (q : EvJ gh T ρ ts r) : EvJ gh T ρ (t :: ts) (jc m r)
theorem evj_run {ts : List TE} {r : Str → M gh.S D} (h : EvJ gh T ρ ts r) : ∀ (acc : Str) F H σ g d g', Stt gh T F H σ ρ g → r acc g = some (d, g') → ∀ Q : Str → Hp → Prop, (∀ out H' G, Post gh F H G H' g' → d = .str out → Q out H') → tJs ts acc σ H Q := by
  induction h with
  | nil =>
    intro acc F H σ g d g' S e Q k
    obtain ⟨rfl, rfl⟩ := ret_inv e
    exact k acc H F (.refl S) rfl
  | @cons t ts m r h q ih =>
    intro acc F H σ g d g' S e Q k
    obtain ⟨x, g1, e1, ea⟩ := bnd_inv e
    obtain ⟨y, g2, e2, eb⟩ := bnd_inv ea
    obtain ⟨e3, hg⟩ := lft_inv e2
    subst hg
    obtain ⟨hc, e4⟩ := chk_inv eb
    refine h F H σ g x _ S e1 _ fun v H1 G1 p1 r1 => ?_
    rw [asS_inv e3] at r1
    cases r1
    exact ⟨y, rfl, lim (of_decide_eq_true hc), ih (acc ++ y) G1 H1 σ _ d g' (S.step p1) e4 Q fun out H2 G2 p2 ed => k out H2 G2 (p1.trans S.gi p2) ed⟩
theorem ev_joined {ts : List TE} {r : Str → M gh.S D} (h : EvJ gh T ρ ts r) : EvD gh T (fun σ H Q => tJs ts Str.empty σ H fun out H1 => Q (.str out) H1) ρ (r Str.empty) := fun F H σ g d g' S e Q k =>
  evj_run h Str.empty F H σ g d g' S e _ fun out H' G p ed => by subst ed; exact k _ H' G p rfl
end
/-! ### calls of defs -/
def spD (gh : Gh) (T : Tb) (n : Nat) (f : List D → M gh.S D) : Sp := fun vs H Q _ => ∃ F g ds d g', Ex F H ∧ (∀ a, gh.M a → F a = none) ∧ gh.I g H ∧ Rps T F ds vs ∧ ds.length = n ∧ f ds g = some (d, g') ∧ ∀ v H' G, Post gh F H G H' g' → Rp T G d v → Q v H'
section
variable {gh : Gh} {T : Tb} {ρ : Env} {n : Nat} {f : List D → M gh.S D} {E : XK}
theorem ev_call {t : TA} {ma : M gh.S (List D)} (hn : ∀ g ds g', ma g = some (ds, g') → ds.length = n) (ha : EvA gh T t ρ ma) : EvD gh T (tCall (spD gh T n f) [] E t) ρ (bnd ma f) := fun F H σ g d g' S e Q k => by
  obtain ⟨ds, g1, e1, ea⟩ := bnd_inv e
  refine ha F H σ g ds g1 S e1 _ fun vs H1 G1 p1 r1 => ?_
  rw [List.append_nil]
  exact ⟨G1, g1, ds, d, g', p1.gh', (S.step p1).mf, p1.gi, r1, hn _ _ _ e1, ea, fun v H' G P r => k v H' G (p1.trans S.gi P) r⟩
theorem ev_call0 {f : List D → M gh.S D} : EvD gh T (tCall (spD gh T 0 f) [] E tNil) ρ (f []) :=
  ev_call (ma := ret []) (fun g ds g' h => by cases h; rfl) ea_nil
theorem ev_call1 {f : List D → M gh.S D} {t1 : TE} {m1 : M gh.S D} (h1 : EvD gh T t1 ρ m1) : EvD gh T (tCall (spD gh T 1 f) [] E (tCons t1 tNil)) ρ (bnd m1 fun x => f [x]) :=
  (ev_call (fun g ds g' h => by obtain ⟨_, _, _, h⟩ := bnd_inv h; cases h; rfl) (ea_cons h1 ea_nil)).of_eq (by simp only [bnd_assoc, bnd_ret])
theorem ev_call2 {f : List D → M gh.S D} {t1 t2 : TE} {m1 m2 : M gh.S D} (h1 : EvD gh T t1 ρ m1) (h2 : EvD gh T t2 ρ m2) : EvD gh T (tCall (spD gh T 2 f) [] E (tCons t1 (tCons t2 tNil))) ρ (bnd m1 fun x => bnd m2 fun y => f [x, y]) :=
  (ev_call (fun g ds g' h => by obtain ⟨_, _, _, h⟩ := bnd_inv h; obtain ⟨_, _, h1, h⟩ := bnd_inv h; cases h; obtain ⟨_, _, _, h⟩ := bnd_inv h1; cases h; rfl) (ea_cons h1 (ea_cons h2 ea_nil))).of_eq (by simp only [bnd_assoc, bnd_ret])
theorem ev_call3 {f : List D → M gh.S D} {t1 t2 t3 : TE} {m1 m2 m3 : M gh.S D} (h1 : EvD gh T t1 ρ m1) (h2 : EvD gh T t2 ρ m2) (h3 : EvD gh T t3 ρ m3) : EvD gh T (tCall (spD gh T 3 f) [] E (tCons t1 (tCons t2 (tCons t3 tNil)))) ρ (bnd m1 fun x => bnd m2 fun y => bnd m3 fun z => f [x, y, z]) :=
  (ev_call (fun g ds g' h => by obtain ⟨_, _, _, h⟩ := bnd_inv h; obtain ⟨_, _, h1, h⟩ := bnd_inv h; cases h; obtain ⟨_, _, _, h⟩ := bnd_inv h1; obtain ⟨_, _, h1, h⟩ := bnd_inv h; cases h; obtain ⟨_, _, _, h⟩ := bnd_inv h1; cases h; rfl) (ea_cons h1 (ea_cons h2 (ea_cons h3 ea_nil)))).of_eq (by simp only [bnd_assoc, bnd_ret])
theorem ev_call4 {f : List D → M gh.S D} {t1 t2 t3 t4 : TE} {m1 m2 m3 m4 : M gh.S D} (h1 : EvD gh T t1 ρ m1) (h2 : EvD gh T t2 ρ m2) (h3 : EvD gh T t3 ρ m3) (h4 : EvD gh T t4 ρ m4) : EvD gh T (tCall (spD gh T 4 f) [] E (tCons t1 (tCons t2 (tCons t3 (tCons t4 tNil))))) ρ (bnd m1 fun x => bnd m2 fun y => bnd m3 fun z => bnd m4 fun u => f [x, y, z, u]) :=
  (ev_call (fun g ds g' h => by obtain ⟨_, _, _, h⟩ := bnd_inv h; obtain ⟨_, _, h1, h⟩ := bnd_inv h; cases h; obtain ⟨_, _, _, h⟩ := bnd_inv h1; obtain ⟨_, _, h1, h⟩ := bnd_inv h; cases h; obtain ⟨_, _, _, h⟩ := bnd_inv h1; obtain ⟨_, _, h1, h⟩ := bnd_inv h; cases h; obtain ⟨_, _, _, h⟩ := bnd_inv h1; cases h; rfl) (ea_cons h1 (ea_cons h2 (ea_cons h3 (ea_cons h4 ea_nil))))).of_eq (by simp only [bnd_assoc, bnd_ret])
end
end Py

set_option Elab.async false
set_option linter.all false
set_option maxRecDepth 100000
set_option maxHeartbeats 4000000
namespace Py
open PySem L2
open PyProof.Rows (IsTup)
/-! ### what may be walked: a list, a tuple, a text -/
inductive Src where | l (a : Addr) | t (a : Addr) | s (x : Str) (u : Tok)
def SrcSt : Src → Addr → Nat → Heap → Prop
  | .l a, it, i, h => h.IsListIter it a i
  | .t a, it, i, h => h.IsTupleIter it a i
  | .s x u, it, i, h => h.IsStrIter it (strIterType x) x u i
def SrcV (K : PySem.W.Frag) (H : Hp) : Src → List V → Prop
  | .l a, ys => SqL K H a ys
  | .t a, ys => SqT K H a ys
  | .s x _, ys => ys = x.cps.toList.map fun c => V.str ⟨#[c]⟩
def SrcLt : Src → Nat → Prop
  | .l a, N => a < N
  | .t a, N => a < N
  | .s _ _, _ => True
theorem SrcSt.at {k : Src} {it : Addr} {i : Nat} {h h' : Heap} (st : SrcSt k it i h) (e : ∀ o, h.get? it = some o → h'.get? it = some o) : SrcSt k it i h' := by
  cases k with
  | l a => obtain ⟨o, ho, r⟩ := st; exact ⟨o, e o ho, r⟩
  | t a => obtain ⟨o, ho, r⟩ := st; exact ⟨o, e o ho, r⟩
  | s x u => obtain ⟨o, ho, r⟩ := st; exact ⟨o, e o ho, r⟩
theorem SrcSt.obj {k : Src} {it : Addr} {i : Nat} {h : Heap} (st : SrcSt k it i h) : ∃ o, h.get? it = some o ∧ ∀ v, o.data ≠ .cell v := by
  cases k with
  | l a => obtain ⟨o, ho, c, d⟩ := st; exact ⟨o, ho, fun v z => by rw [d] at z; cases z⟩
  | t a => obtain ⟨o, ho, c, d⟩ := st; exact ⟨o, ho, fun v z => by rw [d] at z; cases z⟩
  | s x u => obtain ⟨o, ho, c, d⟩ := st; exact ⟨o, ho, fun v z => by rw [d] at z; cases z⟩
section
variable {X : Cx} {pins : List (Addr × Obj)} {σ : L2.St} {H : Hp} {s : Shared}
theorem SrcV.inj (I : Inv X pins σ H s) {k : Src} {ys zs : List V} (h : SrcV X.K H k ys) (h' : SrcV X.K H k zs) : ys = zs := by
  cases k with
  | l a => exact I.list_inj h h'
  | t a => exact I.tuple_inj h h'
  | s x u => exact Eq.trans h (Eq.symm h')
theorem SrcV.lt (I : Inv X pins σ H s) {k : Src} {ys : List V} (h : SrcV X.K H k ys) : SrcLt k s.heap.objs.size := by
  cases k with
  | l a => obtain ⟨its, _, p, _⟩ := I.list h; exact p.lt
  | t a => obtain ⟨its, _, p, _⟩ := I.tuple h; exact p.lt
  | s x u => trivial
/-- what is drawn of it -/
theorem SrcV.draws (I : Inv X pins σ H s) (A : Around) (hh : A.handled = none) {k : Src} {ys : List V} {it : Addr} {N i : Nat} (hs : SrcV X.K H k ys) (hl : SrcLt k N) (hN : N ≤ it) (st : SrcSt k it i s.heap) :
    ∃ (fx : List Addr) (P : Nat → Value → Prop) (St : Nat → Heap → Prop), Draws X.prog X.w A it (it :: fx) ys.length P St ∧ St i s.heap ∧ (∀ j v, P j v → ∃ x, ys[j]? = some x ∧ RelV x v) ∧ (∀ j h, St j h → SrcSt k it j h) ∧ ∀ b ∈ fx, b < N := by
  cases k with
  | l a =>
    obtain ⟨its, rv, p, _⟩ := I.list hs
    have hl : a < N := hl
    have e : ys.length = its.toArray.size := by rw [List.size_toArray]; exact rv.length
    rw [e]
    refine ⟨[a], _, _, Draws.list hh it a (Nat.ne_of_lt (Nat.lt_of_lt_of_le hl hN)) its.toArray, ⟨st, p.isList⟩, fun j v hv => ?_, fun j h q => q.1, fun b hb => ?_⟩
    · have hv : its[j]? = some v := by simpa using hv
      cases e : ys[j]? with
      | none => rw [rv.none_of e] at hv; cases hv
      | some x => obtain ⟨u, e1, r⟩ := rv.get e; rw [hv] at e1; cases e1; exact ⟨x, rfl, r⟩
    · rw [List.mem_singleton.mp hb]; exact hl
  | t a =>
    obtain ⟨its, rv, p, _⟩ := I.tuple hs
    have hl : a < N := hl
    have e : ys.length = its.toArray.size := by rw [List.size_toArray]; exact rv.length
    rw [e]
    refine ⟨[a], _, _, Draws.tuple hh it a (Nat.ne_of_lt (Nat.lt_of_lt_of_le hl hN)) its.toArray, ⟨st, p⟩, fun j v hv => ?_, fun j h q => q.1, fun b hb => ?_⟩
    · have hv : its[j]? = some v := by simpa using hv
      cases e : ys[j]? with
      | none => rw [rv.none_of e] at hv; cases hv
      | some x => obtain ⟨u, e1, r⟩ := rv.get e; rw [hv] at e1; cases e1; exact ⟨x, rfl, r⟩
    · rw [List.mem_singleton.mp hb]; exact hl
  | s x u =>
    have hs : ys = x.cps.toList.map fun c => V.str ⟨#[c]⟩ := hs
    have hn : x.cps.size = ys.length := by rw [hs]; simp
    rw [← hn]
    refine ⟨[], _, _, Draws.text hh it x u, st, fun j v ⟨c, w, h1, h2⟩ => ?_, fun j h q => q, fun b hb => nomatch hb⟩
    refine ⟨.str ⟨#[c]⟩, ?_, h2 ▸ ⟨w, rfl⟩⟩
    rw [hs, List.getElem?_map, Array.getElem?_toList, h1]; rfl
end
/-! ### enumerate of any of them -/
def ItE (K : PySem.W.Frag) (k : Src) : It :=
  ⟨fun i H => ∃ ys : List V, SrcV K H k ys ∧ i < ys.length, fun i H v H' => ∃ T x, v = .ref T ∧ H T = none ∧ H' = upd H T (.tup [.int (i : Nat), x]) ∧ ∀ ys, SrcV K H k ys → ys[i]? = some x, fun i H => ∃ ys : List V, SrcV K H k ys ∧ i = ys.length⟩
theorem turn_enumS {P : Program} {w : World} {K : PySem.W.Frag} {elts : List Expr} {kk : Nat} {tpos : Pos} (k : Src) (N : Nat) (hk : SrcLt k N) :
    Turn P w K (.Tuple elts kk tpos) (ItE K k) [N + 1, N] (N + 1) (fun i h => (∃ old, IsEnum h (N + 1) N ((i : Nat) : Int) old) ∧ SrcSt k N i h) where
  mem := by simp
  obj := fun i h st b hb => by
    obtain ⟨⟨old, he⟩, hs⟩ := st
    have e' : b = N + 1 ∨ b = N := by simpa using hb
    rcases e' with z | z
    · rw [z]; exact ⟨_, he, fun v q => nomatch q⟩
    · rw [z]; exact hs.obj
  keep := fun i h h' st kp => let ⟨⟨old, he⟩, hi⟩ := st; ⟨⟨old, kp _ (by simp) _ he⟩, hi.at fun o q => kp _ (by simp) o q⟩
  item := by
    intro X hP hw hK hc i pins s σ H E I hf st hg
    subst hP hw hK
    obtain ⟨⟨old, he⟩, hst⟩ := st
    obtain ⟨ys, hq, hlt⟩ := hg
    obtain ⟨fx, Pd, Sd, D, hSd, hP, hSt, hfx⟩ := hq.draws I X.A.in1 (I.ok.hd hc) hk (Nat.le_refl _) hst
    have hef : N + 1 ∉ N :: fx := notIn_new (i := 0) (j := 1) hfx (by omega)
    have W := GoesN.enumFrom (elts := elts) (x1 := kk) (pos := tpos) 0 D (N + 1) (Nat.succ_ne_self _) hef List.mem_cons_self
    refine W.goes i s _ E hlt ⟨⟨old, by simpa using he⟩, hSd⟩ fun v h' tk hY hS' hkp htk => ?_
    obtain ⟨T, t, u, rfl, hT, hu, hTup⟩ := hY
    obtain ⟨⟨old', he'⟩, hS2⟩ := hS'
    obtain ⟨x, hx, rx⟩ := hP i u hu
    have new : ObjOk X.prog X.w (upd H T (.tup [.int (i : Nat), x])) h' T (.tup [.int (i : Nat), x]) :=
      ⟨by show 2 ≤ sizeLine; decide, [.int (0 + (i : Int)) t, u], .cons ⟨t, by rw [Int.zero_add]⟩ (.cons rx .nil), hTup⟩
    have I1 : Inv X pins σ (upd H T (.tup [.int (i : Nat), x])) { s with heap := h', toks := tk } :=
      I.turnedNew (ch := [N + 1, N]) (fun b ob hb q => hkp b ob (by simpa using hb) q) hf hT new
    refine ⟨.ref T, _, I1, rfl, ⟨T, x, rfl, I.hok.fresh hT, rfl, fun zs hz => by rw [SrcV.inj I hz hq]; exact hx⟩, ⟨⟨old', ?_⟩, hSt _ _ hS2⟩, fun b hb => ?_⟩
    · have e1 : (0 : Int) + ((i + 1 : Nat) : Int) = ((i + 1 : Nat) : Int) := Int.zero_add _
      rw [e1] at he'; exact he'
    · have hb' : b < s.heap.objs.size := by
        have e' : b = N + 1 ∨ b = N := by simpa using hb
        rcases e' with z | z
        · rw [z]; exact Heap.lt_size he
        · rw [z]; obtain ⟨o, ho, _⟩ := hst.obj; exact Heap.lt_size ho
      rw [upd_ne (Nat.ne_of_lt (Nat.lt_of_lt_of_le hb' hT))]
      exact (hf b hb).1
  done := by
    intro X hP hw hK hc i pins s σ H E I hf st hg
    subst hP hw hK
    obtain ⟨⟨old, he⟩, hst⟩ := st
    obtain ⟨ys, hq, rfl⟩ := hg
    obtain ⟨fx, Pd, Sd, D, hSd, hP, hSt, hfx⟩ := hq.draws I X.A.in1 (I.ok.hd hc) hk (Nat.le_refl _) hst
    have hef : N + 1 ∉ N :: fx := notIn_new (i := 0) (j := 1) hfx (by omega)
    have W := GoesN.enumFrom (elts := elts) (x1 := kk) (pos := tpos) 0 D (N + 1) (Nat.succ_ne_self _) hef List.mem_cons_self
    refine W.stops s _ E ⟨⟨old, by simpa using he⟩, hSd⟩ fun h' tk hkp htk => ?_
    exact I.turnedL (ch := [N + 1, N]) (fun b ob hb q => hkp b ob (by simpa using hb) q) hf
  self := fun A i s Q E st h => let ⟨⟨_, he⟩, _⟩ := st; wpAny_pyIter_enum he h
/-- the call enumerate(v), v a list, a tuple, a text -/
theorem meets_enumerate_newB1 {v : Value} {o : Obj} {H : Heap → Prop} (B : Begins v o H) :
    Meets (Builtin.«enumerate.__new__» ⟨[.type "enumerate", v], []⟩) (fun _ R s => H s.heap ∧
      R (.ok (.ret (.ref (s.heap.push o).objs.size))) { s with heap := (s.heap.push o).push { cls := .type "enumerate", data := .fields #[.none, .bool false, .ref s.heap.objs.size, rawInt 0, .none, .none] } }) :=
  .of_wp fun prog w A R s h => by
    obtain ⟨hp, g, d, tk, os⟩ := s; obtain ⟨h1, h⟩ := h
    have hsub := sub_enumerate
    have q1 : ∀ {A' : Around} {E : Value → Shared → Prop} {Q : Value → Shared → Prop}, Q (.ref hp.objs.size) ⟨hp.push o, g, d, tk, os⟩ → wpAny (model prog w) A' (pyIter v) Q E ⟨hp, g, d, tk, os⟩ :=
      fun q => B.iter prog w _ _ ⟨hp, g, d, tk, os⟩ _ h1 q
    wp_walk using q1
    first
      | exact ⟨_, rfl, h⟩
      | (refine wpAny_stack_any fun st => wpAny_pure ?_
         split
         · rename_i c _ _ _ _ _
           cases (c == Value.type "enumerate")
           · wp_walk using q1
             exact ⟨_, rfl, h⟩
           · wp_walk using q1
             exact ⟨_, rfl, h⟩
         · wp_walk using q1
           exact ⟨_, rfl, h⟩)
end Py

set_option Elab.async false
set_option linter.all false
set_option maxRecDepth 100000
set_option maxHeartbeats 4000000
namespace Py
open PySem L2
open PyProof.Rows (IsTup)
/-! ### iterators over what may be walked -/
def SrcOf : Src → V → Prop
  | .l a, v => v = .ref a
  | .t a, v => v = .ref a
  | .s x _, v => v = .str x
def ItS (K : PySem.W.Frag) : Src → It
  | .l a => Itl K a
  | .t a => Itt K a
  | .s x _ => Its x
def SrcObj : Src → Obj
  | .l a => { cls := .type "list_iterator", data := .fields #[.ref a, .int 0 0] }
  | .t a => { cls := .type "tuple_iterator", data := .fields #[.ref a, .int 0 0] }
  | .s x u => { cls := .type (strIterType x), data := .fields #[.str x u, .int 0 0] }
def SrcVal : Src → Value
  | .l a => .ref a
  | .t a => .ref a
  | .s x u => .str x u
section
variable {X : Cx} {pins : List (Addr × Obj)} {σ : L2.St} {H : Hp} {s : Shared}
/-- the source as the machine has it: its tokens known -/
theorem SrcV.beg (I : Inv X pins σ H s) {k : Src} {ys : List V} {v : V} {u : Value} (ho : SrcOf k v) (h : SrcV X.K H k ys) (r : RelV v u) :
    ∃ k' Hb, SrcVal k' = u ∧ Begins u (SrcObj k') Hb ∧ Hb s.heap ∧ SrcV X.K H k' ys ∧ ItE X.K k' = ItE X.K k ∧ ItS X.K k' = ItS X.K k ∧ (∀ k2, SrcV X.K H k2 = SrcV X.K H k2) ∧ (∀ H2 zs, SrcV X.K H2 k' zs = SrcV X.K H2 k zs) := by
  cases k with
  | l a =>
    cases ho; cases r
    obtain ⟨its, rv, p, _⟩ := I.list h
    exact ⟨.l a, _, rfl, begins_list a its.toArray, p.isList, h, rfl, rfl, fun _ => rfl, fun _ _ => rfl⟩
  | t a =>
    cases ho; cases r
    obtain ⟨its, rv, p, _⟩ := I.tuple h
    exact ⟨.t a, _, rfl, begins_tuple a its.toArray, p, h, rfl, rfl, fun _ => rfl, fun _ _ => rfl⟩
  | s x u' =>
    cases ho; obtain ⟨t, rfl⟩ := r
    exact ⟨.s x t, _, rfl, begins_text x t, trivial, h, rfl, rfl, fun _ => rfl, fun _ _ => rfl⟩
theorem SrcObj.free (k : Src) : (SrcObj k).isFreed = false := by cases k <;> rfl
theorem SrcSt.begin {k : Src} {it : Addr} {h : Heap} (e : h.get? it = some (SrcObj k)) : SrcSt k it 0 h := by
  cases k with
  | l a => exact ⟨_, e, rfl, rfl⟩
  | t a => exact ⟨_, e, rfl, rfl⟩
  | s x u => exact ⟨_, e, rfl, rfl⟩
end
def iSrc (K : PySem.W.Frag) (te : TE) : TI := fun σ H R => te σ H fun v H1 => ∃ k, SrcOf k v ∧ (∃ ys, SrcV K H1 k ys) ∧ R (ItS K k) H1
theorem pi_src {X : Cx} {tg l : Expr} {tl : TE} (hl : PE X l tl) : PI X tg l (iSrc X.K tl) := by
  refine ⟨fun pins s σ H R I h => ?_⟩
  refine thn (hl.run pins s σ H _ I h) fun u s1 ⟨v, H1, I1, r1, k, ho, ⟨ys, hs⟩, q⟩ => ?_
  cases k with
  | l a =>
    cases ho; cases r1
    obtain ⟨its, rv, p, hz⟩ := I1.list hs
    exact wpAny_pyIter_list p.isList (pi_one (tk := s1.toks) I1 _ (turn_list a _) ⟨_, Heap.get?_push_size _ rfl, rfl, rfl⟩ q)
  | t a =>
    cases ho; cases r1
    obtain ⟨its, rv, p, hz⟩ := I1.tuple hs
    exact wpAny_pyIter_tuple (show s1.heap.IsTuple a its.toArray from p) (pi_one (tk := s1.toks) I1 _ (turn_tuple a _) ⟨_, Heap.get?_push_size _ rfl, rfl, rfl⟩ q)
  | s x u' =>
    cases ho
    obtain ⟨t, rfl⟩ := r1
    cases ha : x.cps.all (· < 128)
    · exact wpAny_pyIter_wide ha (pi_one (tk := s1.toks) I1 _ (turn_str _ x t "str_iterator" (.inr rfl)) ⟨_, Heap.get?_push_size _ rfl, rfl, rfl⟩ q)
    · exact wpAny_pyIter_ascii ha (pi_one (tk := s1.toks) I1 _ (turn_str _ x t "str_ascii_iterator" (.inl rfl)) ⟨_, Heap.get?_push_size _ rfl, rfl, rfl⟩ q)
section
variable {prog : Program} {w : World} {A : Around} {E : Value → Shared → Prop} {s : Shared}
theorem enum_begins1 {v : Value} {o : Obj} {H : Heap → Prop} {Q : Value → Shared → Prop} (B : Begins v o H) (h1 : H s.heap)
    (h : ∀ h', IsEnum h' (s.heap.objs.size + 1) s.heap.objs.size 0 .none → h'.get? s.heap.objs.size = some o → h'.objs.size = s.heap.objs.size + 2 →
      (∀ b o, s.heap.get? b = some o → h'.get? b = some o) → Q (.ref (s.heap.objs.size + 1)) { s with heap := h' }) :
    wpAny (model prog w) A (call (.type "enumerate") [v]) Q E s := by
  refine callType_new F.called_enumerate (by decide) (F.typeCall_enumerate_1 _) (F.newCall_enumerate_1 _) (fun obj => F.args_object_init_2 obj _) F.entry_enumerate_new
    (meets_enumerate_newB1 B) ⟨h1, ?_⟩
  have hz : (s.heap.push o).objs.size = s.heap.objs.size + 1 := Heap.size_push ..
  show _ ∧ _
  rw [hz]
  have he : IsEnum ((s.heap.push o).push { cls := .type "enumerate", data := .fields #[.none, .bool false, .ref s.heap.objs.size, rawInt 0, .none, .none] }) (s.heap.objs.size + 1) s.heap.objs.size 0 .none := by
    have := Heap.get?_push_size (s.heap.push o) (o := { cls := .type "enumerate", data := .fields #[.none, .bool false, .ref s.heap.objs.size, rawInt 0, .none, .none] }) rfl
    rw [hz] at this; exact this
  refine ⟨⟨_, he, rfl⟩, h _ he (Heap.get?_push_of_some _ (Heap.get?_push_size _ B.free)) (by rw [Heap.size_push, hz]) fun b o x => Heap.get?_push_of_some _ (Heap.get?_push_of_some _ x)⟩
end
def iEnumS (K : PySem.W.Frag) (ta : TA) : TI := fun σ H R => ta σ H fun vs H1 => ∃ v k, vs = [v] ∧ SrcOf k v ∧ (∃ ys, SrcV K H1 k ys) ∧ R (ItE K k) H1
theorem pi_enumS {X : Cx} {e : Expr} {ta : TA} {p pos tpos : Pos} {elts : List Expr} {kk : Nat} (hg : Gl X "enumerate") (hm : X.mg "enumerate" = none) (ha : PA X [e] ta) (hs : starEach [e] X.env = [(false, eval e X.env)] := by rfl) :
    PI X (.Tuple elts kk tpos) (.Call (.Name "enumerate" p) [e] [] pos) (iEnumS X.K ta) := by
  refine ⟨fun pins s σ H R I h => ?_⟩
  refine PyProof.Rows.Call_ (ld_blt I hg hm PyProof.Rows.boot_enumerate (PyProof.Rows.callWith_type1 (thn (ha.run pos pins s σ H _ I h) fun us s1 ⟨vs, H1, I1, r1, q1⟩ => ?_) hs rfl))
  obtain ⟨v, k, ex, ho, ⟨ys, hsv⟩, q⟩ := q1
  subst ex
  cases r1 with
  | cons r rr =>
    cases rr
    obtain ⟨k', Hb, eu, B, hb, hv', e1, e2, _, e4⟩ := hsv.beg I1 ho r
    refine enum_begins1 B hb fun h' he hit hsz hk => wpAny_pyIter_enum he ?_
    have I2 : Inv X pins σ H1 { s1 with heap := h' } := I1.kept (t' := s1.toks) hk
    refine ⟨s1.heap.objs.size + 1, [s1.heap.objs.size + 1, s1.heap.objs.size], _, _, H1, rfl, I2, turn_enumS k' s1.heap.objs.size (hv'.lt I1), ⟨⟨.none, he⟩, .begin hit⟩, fun b hb => ?_, by rw [e1]; exact q⟩
    have e' : b = s1.heap.objs.size + 1 ∨ b = s1.heap.objs.size := by simpa using hb
    have hle : s1.heap.objs.size ≤ b := by
      rcases e' with z | z
      · rw [z]; exact Nat.le_add_right _ _
      · rw [z]; exact Nat.le_refl _
    exact I1.fpOk hle (I1.hok.fresh hle)
/-! ### zip of two of them -/
def ItZ (K : PySem.W.Frag) (k k2 : Src) : It :=
  ⟨fun i H => ∃ ys zs : List V, SrcV K H k ys ∧ SrcV K H k2 zs ∧ i < min ys.length zs.length, fun i H v H' => ∃ T x y, v = .ref T ∧ H T = none ∧ H' = upd H T (.tup [x, y]) ∧ (∀ ys, SrcV K H k ys → ys[i]? = some x) ∧ ∀ zs, SrcV K H k2 zs → zs[i]? = some y,
    fun i H => ∃ ys zs : List V, SrcV K H k ys ∧ SrcV K H k2 zs ∧ i = min ys.length zs.length⟩
theorem turn_zipS {P : Program} {w : World} {K : PySem.W.Frag} {elts : List Expr} {kk : Nat} {tpos : Pos} (k k2 : Src) (N : Nat) (hk : SrcLt k N) (hk2 : SrcLt k2 N) :
    Turn P w K (.Tuple elts kk tpos) (ItZ K k k2) [N + 4, N + 2, N + 3, N, N + 1] (N + 4) (fun i h => IsZip h (N + 4) (N + 2) (N + 3) .none ∧ IsTupOf2 h (N + 2) (.ref N) (.ref (N + 1)) ∧ (∃ x y, IsTupOf2 h (N + 3) x y) ∧ SrcSt k N i h ∧ SrcSt k2 (N + 1) i h) where
  mem := by simp
  obj := fun i h st b hb => by
    obtain ⟨hz, hTI, ⟨x, y, hTO⟩, h1, h2⟩ := st
    have e' : b = N + 4 ∨ b = N + 2 ∨ b = N + 3 ∨ b = N ∨ b = N + 1 := by simpa using hb
    rcases e' with q | q | q | q | q
    · rw [q]; exact ⟨_, hz, fun v q => nomatch q⟩
    · rw [q]; exact ⟨_, hTI, fun v q => nomatch q⟩
    · rw [q]; exact ⟨_, hTO, fun v q => nomatch q⟩
    · rw [q]; exact h1.obj
    · rw [q]; exact h2.obj
  keep := fun i h h' st kp => by
    obtain ⟨hz, hTI, ⟨x, y, hTO⟩, h1, h2⟩ := st
    exact ⟨kp _ (by simp) _ hz, kp _ (by simp) _ hTI, ⟨x, y, kp _ (by simp) _ hTO⟩, h1.at fun o q => kp _ (by simp) o q, h2.at fun o q => kp _ (by simp) o q⟩
  item := by
    intro X hP hw hK hc i pins s σ H E I hf st hg
    subst hP hw hK
    obtain ⟨hz, hTI, hTO, h1, h2⟩ := st
    obtain ⟨ys, zs, hq1, hq2, hlt⟩ := hg
    obtain ⟨fx1, P1, S1, D1, hS1, hP1, hSt1, hf1⟩ := hq1.draws I X.A.in1 (I.ok.hd hc) hk (Nat.le_refl _) h1
    obtain ⟨fx2, P2, S2, D2, hS2, hP2, hSt2, hf2⟩ := hq2.draws I X.A.in1 (I.ok.hd hc) hk2 (Nat.le_succ _) h2
    have W := GoesN.zip2 (elts := elts) (x1 := kk) (pos := tpos) (zip_sep2 hf1 hf2) D1 D2
    refine W.goes i s _ E hlt ⟨hz, hTI, hTO, hS1, hS2⟩ fun v h' tk hY hS' hkp htk => ?_
    obtain ⟨T, a, b, rfl, hT, ha, hb, hTup⟩ := hY
    obtain ⟨hz', hTI', hTO', hS1', hS2'⟩ := hS'
    obtain ⟨x, hx, rx⟩ := hP1 i a ha
    obtain ⟨y, hy, ry⟩ := hP2 i b hb
    have new : ObjOk X.prog X.w (upd H T (.tup [x, y])) h' T (.tup [x, y]) :=
      ⟨by show 2 ≤ sizeLine; decide, [a, b], .cons rx (.cons ry .nil), hTup⟩
    have I1 : Inv X pins σ (upd H T (.tup [x, y])) { s with heap := h', toks := tk } :=
      I.turnedNew (ch := [N + 4, N + 2, N + 3, N, N + 1]) (fun b ob hb q => hkp b ob (fun z => hb (by
        have z' : b = N + 4 ∨ b = N + 3 ∨ b = N ∨ b = N + 1 := by simpa using z
        rcases z' with z | z | z | z <;> simp [z])) q) hf hT new
    refine ⟨.ref T, _, I1, rfl, ⟨T, x, y, rfl, I.hok.fresh hT, rfl, fun zs hz => by rw [SrcV.inj I hz hq1]; exact hx, fun zs hz => by rw [SrcV.inj I hz hq2]; exact hy⟩, ⟨hz', hTI', hTO', hSt1 _ _ hS1', hSt2 _ _ hS2'⟩, fun b hb => ?_⟩
    have hb' : b < s.heap.objs.size := by
      have e' : b = N + 4 ∨ b = N + 2 ∨ b = N + 3 ∨ b = N ∨ b = N + 1 := by simpa using hb
      obtain ⟨x0, y0, hTO⟩ := hTO
      rcases e' with z | z | z | z | z
      · rw [z]; exact Heap.lt_size hz
      · rw [z]; exact Heap.lt_size hTI
      · rw [z]; exact Heap.lt_size hTO
      · rw [z]; obtain ⟨o, ho, _⟩ := h1.obj; exact Heap.lt_size ho
      · rw [z]; obtain ⟨o, ho, _⟩ := h2.obj; exact Heap.lt_size ho
    rw [upd_ne (Nat.ne_of_lt (Nat.lt_of_lt_of_le hb' hT))]
    exact (hf b hb).1
  done := by
    intro X hP hw hK hc i pins s σ H E I hf st hg
    subst hP hw hK
    obtain ⟨hz, hTI, hTO, h1, h2⟩ := st
    obtain ⟨ys, zs, hq1, hq2, rfl⟩ := hg
    obtain ⟨fx1, P1, S1, D1, hS1, hP1, hSt1, hf1⟩ := hq1.draws I X.A.in1 (I.ok.hd hc) hk (Nat.le_refl _) h1
    obtain ⟨fx2, P2, S2, D2, hS2, hP2, hSt2, hf2⟩ := hq2.draws I X.A.in1 (I.ok.hd hc) hk2 (Nat.le_succ _) h2
    have W := GoesN.zip2 (elts := elts) (x1 := kk) (pos := tpos) (zip_sep2 hf1 hf2) D1 D2
    refine W.stops s _ E ⟨hz, hTI, hTO, hS1, hS2⟩ fun h' tk hkp htk => ?_
    exact I.turnedL (ch := [N + 4, N + 2, N + 3, N, N + 1]) (fun b ob hb q => hkp b ob (fun z => hb (by
        have z' : b = N + 4 ∨ b = N + 3 ∨ b = N ∨ b = N + 1 := by simpa using z
        rcases z' with z | z | z | z <;> simp [z])) q) hf
  self := fun A i s Q E st h => wpAny_pyIter_zip st.1 h
def iZipS (K : PySem.W.Frag) (ta : TA) : TI := fun σ H R => ta σ H fun vs H1 => ∃ v u k k2, vs = [v, u] ∧ SrcOf k v ∧ SrcOf k2 u ∧ (∃ ys, SrcV K H1 k ys) ∧ (∃ zs, SrcV K H1 k2 zs) ∧ R (ItZ K k k2) H1
theorem pi_zipS {X : Cx} {e e2 : Expr} {ta : TA} {p pos tpos : Pos} {elts : List Expr} {kk : Nat} (hg : Gl X "zip") (hm : X.mg "zip" = none) (ha : PA X [e, e2] ta)
    (hs : starEach [e, e2] X.env = (false, eval e X.env) :: starEach [e2] X.env := by rfl) (hpl : (backTo pos (starEach [e2] X.env)).any (·.1) = false := by rfl) :
    PI X (.Tuple elts kk tpos) (.Call (.Name "zip" p) [e, e2] [] pos) (iZipS X.K ta) := by
  refine ⟨fun pins s σ H R I h => ?_⟩
  refine PyProof.Rows.Call_ (ld_blt I hg hm PyProof.Rows.boot_zip (PyProof.Rows.callWith_type1 (thn (ha.run pos pins s σ H _ I h) fun us s1 ⟨vs, H1, I1, r1, q1⟩ => ?_) hs hpl))
  obtain ⟨v, u, k, k2, ex, ho1, ho2, ⟨ys, hs1⟩, ⟨zs, hs2⟩, q⟩ := q1
  subst ex
  cases r1 with
  | cons r rr =>
    cases rr with
    | cons r' rr =>
      cases rr
      obtain ⟨k', Hb, eu, B, hb, hv', e1, e2, _, e4⟩ := hs1.beg I1 ho1 r
      obtain ⟨k2', Hb2, eu2, B2, hb2, hv2', f1, f2, _, f4⟩ := hs2.beg I1 ho2 r'
      refine zip_begins2 B B2 hb hb2 fun h' hz hTI hTO h1 h2 hsz hk => wpAny_pyIter_zip hz ?_
      have I2 : Inv X pins σ H1 { s1 with heap := h' } := I1.kept (t' := s1.toks) hk
      refine ⟨s1.heap.objs.size + 4, [s1.heap.objs.size + 4, s1.heap.objs.size + 2, s1.heap.objs.size + 3, s1.heap.objs.size, s1.heap.objs.size + 1], _, _, H1, rfl, I2, turn_zipS k' k2' s1.heap.objs.size (hv'.lt I1) (hv2'.lt I1), ⟨hz, hTI, ⟨_, _, hTO⟩, .begin h1, .begin h2⟩, fun c hcm => ?_, ?_⟩
      · have e' : c = s1.heap.objs.size + 4 ∨ c = s1.heap.objs.size + 2 ∨ c = s1.heap.objs.size + 3 ∨ c = s1.heap.objs.size ∨ c = s1.heap.objs.size + 1 := by simpa using hcm
        have hle : s1.heap.objs.size ≤ c := by
          rcases e' with z | z | z | z | z
          · rw [z]; exact Nat.le_add_right _ _
          · rw [z]; exact Nat.le_add_right _ _
          · rw [z]; exact Nat.le_add_right _ _
          · rw [z]; exact Nat.le_refl _
          · rw [z]; exact Nat.le_add_right _ _
        exact I1.fpOk hle (I1.hok.fresh hle)
      · have e5 : ItZ X.K k' k2' = ItZ X.K k k2 := by unfold ItZ; simp only [e4, f4]
        rw [e5]; exact q
end Py

set_option Elab.async false
set_option linter.all false
set_option maxRecDepth 100000
set_option maxHeartbeats 4000000
namespace Py
open PySem L2
/-! ### slots -/
section
variable {gh : Gh} {T : Tb} {F H G H' : Hp} {σ : L2.St} {ρ : Env} {g g' : gh.S}
theorem Stt.set {d : D} {v : V} (S : Stt gh T F H σ ρ g) (r : Rp T F d v) (i : Nat) : Stt gh T F H (σ.set i (some v)) (ρ.set i (.val d)) g := by
  refine ⟨S.ext, S.mf, S.gi, by simp [S.len], fun j c hc => ?_, fun a b x m m' h1 h2 h3 h4 => ?_⟩
  · rw [List.getElem?_set] at hc ⊢
    by_cases hij : i = j
    · rw [if_pos hij] at hc ⊢
      subst hij
      split at hc
      · rename_i hl
        rw [if_pos (by rw [S.len]; exact hl)]
        cases hc
        exact ⟨_, rfl, v, rfl, r⟩
      · cases hc
    · rw [if_neg hij] at hc ⊢
      exact S.cell j c hc
  · have ne : ∀ {a : Nat} {m : Mo}, (ρ.set i (.val d))[a]? = some (.own m) → i ≠ a ∧ ρ[a]? = some (.own m) := fun {a m} h => by
      rw [List.getElem?_set] at h
      split at h
      · split at h <;> cases h
      · rename_i hn; exact ⟨hn, h⟩
    obtain ⟨n1, e1⟩ := ne h1
    obtain ⟨n2, e2⟩ := ne h2
    rw [List.getElem?_set, if_neg n1] at h3
    rw [List.getElem?_set, if_neg n2] at h4
    exact S.sep a b x m m' e1 e2 h3 h4
theorem own_set {d : D} {i : Nat} {o : Option V} {a : Addr} (h : Own (σ.set i o) (ρ.set i (.val d)) a) : Own σ ρ a := by
  obtain ⟨j, m, h1, h2⟩ := h
  rw [List.getElem?_set] at h1 h2
  split at h1
  · split at h1 <;> cases h1
  · rename_i hn
    rw [if_neg hn] at h2
    exact ⟨j, m, h1, h2⟩
theorem Stt.setOwn {ds : List D} {p : Addr} {xs : List V} (S : Stt gh T F H σ ρ g) (hF : F p = none) (hx : H p = some (.lst xs)) (r : Rps T F ds xs) (hM : ¬ gh.M p) (hno : ¬ Own σ ρ p) (i : Nat) :
    Stt gh T F H (σ.set i (some (.ref p))) (ρ.set i (.own (.lst ds))) g := by
  refine ⟨S.ext, S.mf, S.gi, by simp [S.len], fun j c hc => ?_, fun a b x m m' h1 h2 h3 h4 => ?_⟩
  · rw [List.getElem?_set] at hc ⊢
    by_cases hij : i = j
    · rw [if_pos hij] at hc ⊢
      subst hij
      split at hc
      · rename_i hl
        rw [if_pos (by rw [S.len]; exact hl)]
        cases hc
        exact ⟨_, rfl, p, _, rfl, hF, hM, hx, xs, rfl, r⟩
      · cases hc
    · rw [if_neg hij] at hc ⊢
      exact S.cell j c hc
  · have ne : ∀ {a : Nat} {m : Mo}, (ρ.set i (.own (.lst ds)))[a]? = some (.own m) → i = a ∨ (i ≠ a ∧ ρ[a]? = some (.own m)) := fun {a m} h => by
      rw [List.getElem?_set] at h
      split at h
      · rename_i hn; exact .inl hn
      · rename_i hn; exact .inr ⟨hn, h⟩
    have at_i : ∀ {x : Addr}, (σ.set i (some (.ref p)))[i]? = some (some (.ref x)) → x = p := fun {x} h => by
      rw [List.getElem?_set, if_pos rfl] at h
      split at h
      · cases h; rfl
      · cases h
    rcases ne h1 with rfl | ⟨n1, e1⟩
    · rcases ne h2 with rfl | ⟨n2, e2⟩
      · rfl
      · rw [List.getElem?_set, if_neg n2] at h4
        exact absurd ⟨b, m', e2, by rw [h4, at_i h3]⟩ hno
    · rcases ne h2 with rfl | ⟨n2, e2⟩
      · rw [List.getElem?_set, if_neg n1] at h3
        exact absurd ⟨a, m, e1, by rw [h3, at_i h4]⟩ hno
      · rw [List.getElem?_set, if_neg n1] at h3
        rw [List.getElem?_set, if_neg n2] at h4
        exact S.sep a b x m m' e1 e2 h3 h4
theorem own_setOwn {ds : List D} {i : Nat} {p a : Addr} (h : Own (σ.set i (some (.ref p))) (ρ.set i (.own (.lst ds))) a) : Own σ ρ a ∨ a = p := by
  obtain ⟨j, m, h1, h2⟩ := h
  rw [List.getElem?_set] at h1 h2
  split at h1
  · rename_i hn
    rw [if_pos hn] at h2
    split at h2
    · cases h2; exact .inr rfl
    · cases h2
  · rename_i hn
    rw [if_neg hn] at h2
    exact .inl ⟨j, m, h1, h2⟩
/-- the slots of a block's own names forgotten -/
def wipeE (ρ : Env) : List Nat → Env
  | [] => ρ
  | v :: vs => (wipeE ρ vs).set v .no
theorem Stt.no (S : Stt gh T F H σ ρ g) (i : Nat) (o : Option V) : Stt gh T F H (σ.set i o) (ρ.set i .no) g := by
  refine ⟨S.ext, S.mf, S.gi, by simp [S.len], fun j c hc => ?_, fun a b x m m' h1 h2 h3 h4 => ?_⟩
  · rw [List.getElem?_set] at hc ⊢
    by_cases hij : i = j
    · rw [if_pos hij] at hc ⊢
      subst hij
      split at hc
      · rename_i hl
        rw [if_pos (by rw [S.len]; exact hl)]
        cases hc
        exact ⟨_, rfl, trivial⟩
      · cases hc
    · rw [if_neg hij] at hc ⊢
      exact S.cell j c hc
  · have ne : ∀ {a : Nat} {m : Mo}, (ρ.set i .no)[a]? = some (.own m) → i ≠ a ∧ ρ[a]? = some (.own m) := fun {a m} h => by
      rw [List.getElem?_set] at h
      split at h
      · split at h <;> cases h
      · rename_i hn; exact ⟨hn, h⟩
    obtain ⟨n1, e1⟩ := ne h1
    obtain ⟨n2, e2⟩ := ne h2
    rw [List.getElem?_set, if_neg n1] at h3
    rw [List.getElem?_set, if_neg n2] at h4
    exact S.sep a b x m m' e1 e2 h3 h4
theorem Stt.wipe (S : Stt gh T F H σ ρ g) : ∀ vs : List Nat, Stt gh T F H (L2.wipe σ vs) (wipeE ρ vs) g
  | [] => S
  | v :: vs => (Stt.wipe S vs).no v none
theorem wipe_get (σ : L2.St) (i : Nat) : ∀ vs : List Nat, (L2.wipe σ vs)[i]? = if i ∈ vs then σ[i]?.map fun _ => none else σ[i]?
  | [] => by simp [L2.wipe]
  | v :: vs => by
    show ((L2.wipe σ vs).set v none)[i]? = _
    rw [List.getElem?_set, L2.wipe_length]
    by_cases h : v = i
    · subst h
      rw [if_pos rfl, if_pos List.mem_cons_self]
      split
      · rename_i hl; rw [List.getElem?_eq_getElem hl]; rfl
      · rename_i hl; rw [List.getElem?_eq_none (by omega)]; rfl
    · rw [if_neg h, wipe_get σ i vs]
      by_cases hm : i ∈ vs
      · rw [if_pos hm, if_pos (List.mem_cons_of_mem _ hm)]
      · rw [if_neg hm, if_neg (by simp only [List.mem_cons, not_or]; exact ⟨fun e => h e.symm, hm⟩)]
theorem wipe_set {i : Nat} {vs : List Nat} {o : Option V} (h : i ∈ vs) : L2.wipe (σ.set i o) vs = L2.wipe σ vs := by
  apply List.ext_getElem?
  intro j
  rw [wipe_get, wipe_get, List.getElem?_set]
  by_cases hij : i = j
  · subst hij
    rw [if_pos h, if_pos h, if_pos rfl]
    split
    · rename_i hl; rw [List.getElem?_eq_getElem hl]; rfl
    · rename_i hl; rw [List.getElem?_eq_none (by omega)]
  · rw [if_neg hij]
theorem wipe_wipe (σ : L2.St) (vs : List Nat) : L2.wipe (L2.wipe σ vs) vs = L2.wipe σ vs := by
  apply List.ext_getElem?
  intro j
  rw [wipe_get]
  by_cases h : j ∈ vs
  · rw [if_pos h, wipe_get, if_pos h, Option.map_map]; rfl
  · rw [if_neg h]
theorem Post.touch {p : Addr} {o : HO} (P : Post gh F H G H' g') (h0 : H p = none) (hG : G p = none) (hM : ¬ gh.M p) : Post gh F H G (upd H' p o) g' := by
  have ne : ∀ {b : Addr} {K : Hp} {z : HO}, K p = none → K b = some z → b ≠ p := fun {b K z} e w q => by rw [q, e] at w; cases w
  refine ⟨P.fg, fun b z w => ?_, fun b z m w => ?_, P.nw, gh.keep _ _ _ P.gi fun b z m w => ?_⟩
  · rw [upd_ne (ne hG w)]; exact P.gh' b z w
  · rw [upd_ne (ne h0 w)]; exact P.hh b z m w
  · rw [upd_ne (fun q => hM (by rw [← q]; exact m))]; exact w
/-- what is free was free -/
theorem Post.was {p : Addr} (P : Post gh F H G H' g') (h : H' p = none) : H p = none := by
  by_cases mm : gh.M p
  · exact absurd h (gh.there _ _ _ P.gi mm)
  · cases q : H p with
    | none => rfl
    | some o => rw [P.hh p o mm q] at h; cases h
theorem Post.lay {p : Addr} {o : HO} (P : Post gh F H G H' g') (h : H' p = none) : Post gh F H G (upd H' p o) g' :=
  P.touch (P.was h) (P.gh'.free h) fun m => gh.there _ _ _ P.gi m h
theorem Post.then (a : Post gh F H G H' g) {G' H'' : Hp} (b : Post gh G H' G' H'' g') : Post gh F H G' H'' g' :=
  ⟨a.fg.trans b.fg, b.gh', fun x o m q => b.hh x o m (a.hh x o m q), fun x h1 h2 => b.nw x (a.nw x h1 h2) (fun z => by
    by_cases m : gh.M x
    · exact gh.there _ _ _ a.gi m z
    · cases q : H x with
      | none => exact h2 q
      | some o => rw [a.hh x o m q] at z; cases z), b.gi⟩
end
/-! ### what is walked -/
section
variable (gh : Gh) (T : Tb)
/-- what stands while it is walked: in a comprehension all but the hidden things, in a loop the frozen things -/
def Kp (c : Bool) (gh : Gh) (G H' H2 : Hp) : Prop := if c = true then (∀ x o, ¬ gh.M x → H' x = some o → H2 x = some o) else Ex G H2
def EvS (c : Bool) (te : TE) (ρ : Env) (m : M gh.S (List D)) : Prop := ∀ F H σ g ds g', Stt gh T F H σ ρ g → m g = some (ds, g') → ∀ Q : VK,
  (∀ v k ys H' G, Post gh F H G H' g' → SrcOf k v → (∀ H2, Kp c gh G H' H2 → SrcV T.K H2 k ys) → Rps T G ds ys → Q v H') → te σ H Q
def EvI (c : Bool) (wi : TI) (ρ : Env) (m : M gh.S (List D)) : Prop := ∀ F H σ g ds g', Stt gh T F H σ ρ g → m g = some (ds, g') → ∀ R : It → Hp → Prop,
  (∀ J Gd Y H' G, Post gh F H G H' g' → Walk J ds.length Gd Y → (∀ H2, Kp c gh G H' H2 → Gd H2) →
    (∀ i H2 x H3 d G2, ds[i]? = some d → Gd H2 → Y i H2 x H3 → Ex G G2 → Ex G2 H2 → ∃ G3, Gr G2 H2 G3 H3 ∧ Rp T G3 d x) → R J H') → wi σ H R
end
def chars (x : Str) : List D := x.cps.toList.map fun c => .str ⟨#[c]⟩
def seqOf : D → Option (List D)
  | .lst ds => some ds
  | .tup ds => some ds
  | .str x => some (chars x)
  | _ => none
def enumD : Nat → List D → List D
  | _, [] => []
  | k, d :: ds => .tup [.int k, d] :: enumD (k + 1) ds
theorem enumD_get : ∀ (ds : List D) (k i : Nat), (enumD k ds)[i]? = ds[i]?.map fun d => .tup [.int ((k + i : Nat) : Int), d]
  | [], _, _ => by simp [enumD]
  | d :: ds, k, 0 => by simp [enumD]
  | d :: ds, k, i + 1 => by
    simp only [enumD, List.getElem?_cons_succ]
    rw [enumD_get ds (k + 1) i, show k + 1 + i = k + (i + 1) by omega]
theorem enumD_len : ∀ (ds : List D) (k : Nat), (enumD k ds).length = ds.length
  | [], _ => rfl
  | _ :: ds, k => by simp [enumD, enumD_len ds (k + 1)]
def zipD (xs ys : List D) : List D := List.zipWith (fun x y => .tup [x, y]) xs ys
def rangeD (lo hi : Int) : List D := (List.range (hi - lo).toNat).map fun (i : Nat) => .int (lo + i)
def okR (i : Int) : Bool := decide (-(2 ^ 62) ≤ i ∧ i < 2 ^ 62)
def rng1 : D → Option (List D)
  | .int j => if okR j = true then some (rangeD 0 j) else none
  | _ => none
def rng2 : D → D → Option (List D)
  | .int i, .int j => if okR i = true ∧ okR j = true then some (rangeD i j) else none
  | _, _ => none
section
variable {gh : Gh} {T : Tb} {ρ : Env} {te ta tb : TE} {m m1 m2 : M gh.S D} {ms ms1 ms2 : M gh.S (List D)} {c : Bool}
theorem Kp.post {G H' H2 F H : Hp} {g' : gh.S} (P : Post gh F H G H' g') (k : Kp c gh G H' H2) : Kp c gh F H H2 := by
  unfold Kp at k ⊢
  cases c with
  | true => exact fun x o m q => k x o m (P.hh x o m q)
  | false => exact P.fg.trans k
theorem Post.here {G H' F H : Hp} {g' : gh.S} (P : Post gh F H G H' g') : Kp c gh G H' H' := by
  unfold Kp
  cases c with
  | true => exact fun _ _ _ z => z
  | false => exact P.gh'
theorem es_val (h : EvD gh T te ρ m) : EvS gh T c te ρ (bnd m fun d => lft (seqOf d)) := fun F H σ g ds g' S e Q k => by
  obtain ⟨d, g1, e1, e⟩ := bnd_inv e
  obtain ⟨e', rfl⟩ := lft_inv e
  refine h F H σ g d _ S e1 _ fun v H1 G1 p1 r1 => ?_
  have mf := (S.step p1).mf
  have kp : ∀ {H2}, Kp c gh G1 H1 H2 → Ex G1 H2 := fun {H2} k b o q => by
    unfold Kp at k
    cases c with
    | true => exact k b o (fun z => by rw [mf b z] at q; cases q) (p1.gh' b o q)
    | false => exact k b o q
  cases d with
  | lst es =>
    cases e'
    obtain ⟨a, xs, rfl, hs, r⟩ := r1
    exact k _ (.l a) xs H1 G1 p1 rfl (fun H2 k2 => SqL.of (kp k2 _ _ hs)) r
  | tup es =>
    cases e'
    obtain ⟨a, xs, rfl, hs, r⟩ := r1
    exact k _ (.t a) xs H1 G1 p1 rfl (fun H2 k2 => (kp k2).t hs) r
  | str x =>
    cases e'
    cases r1
    refine k _ (.s x 0) _ H1 G1 p1 rfl (fun H2 k2 => rfl) ?_
    unfold chars
    generalize x.cps.toList = l
    induction l with
    | nil => exact Rps.nil
    | cons a l ih => exact Rps.cons rfl ih
  | _ => cases e'
theorem es_new (h : EvN gh T te ρ ms) : EvS gh T c te ρ ms := fun F H σ g ds g' S e Q k =>
  es_val h.toD F H σ g ds g' S (by
    unfold bnd
    rw [e]; rfl) Q k
theorem es_own {i : Nat} {ds : List D} (h : ρ[i]? = some (.own (.lst ds))) : EvS gh T true (tVar i) ρ (ret ds) := fun F H σ g ds' g' S e Q k => by
  obtain ⟨e', rfl⟩ := ret_inv e
  cases e'
  obtain ⟨a, u, hv, h1, h2, h3, xs, rfl, r⟩ := S.own h
  exact ⟨_, hv, k _ (.l a) xs H F (.refl S) rfl (fun H2 k2 => SqL.of (k2 a _ h2 h3)) r⟩
theorem ei_src (h : EvS gh T c te ρ ms) : EvI gh T c (iSrc T.K te) ρ ms := fun F H σ g ds g' S e R q => by
  refine h F H σ g ds g' S e _ fun v k ys H1 G1 p ho hs r => ?_
  have hb : Kp c gh G1 H1 H1 := p.here
  refine ⟨k, ho, ⟨ys, hs H1 hb⟩, ?_⟩
  have it : ∀ (i : Nat) (H2 : Hp) x (H3 : Hp) d (G2 : Hp), ds[i]? = some d → (H3 = H2 ∧ ys[i]? = some x) → Ex G1 G2 → Ex G2 H2 → ∃ G3, Gr G2 H2 G3 H3 ∧ Rp T G3 d x := fun i H2 x H3 d G2 hd ⟨e1, e2⟩ x1 x2 => by
    subst e1
    obtain ⟨d', e3, r3⟩ := r.getV e2
    rw [hd] at e3; cases e3
    exact ⟨G2, .refl x2, r3.ex x1⟩
  cases k with
  | l a => exact q _ _ _ H1 G1 p (by rw [← r.length]; exact walk_list) hs fun i H2 x H3 d G2 hd _ hy x1 x2 => it i H2 x H3 d G2 hd hy x1 x2
  | t a => exact q _ _ _ H1 G1 p (by rw [← r.length]; exact walk_tup) hs fun i H2 x H3 d G2 hd _ hy x1 x2 => it i H2 x H3 d G2 hd hy x1 x2
  | s x u =>
    have hy : ys = x.cps.toList.map fun c => V.str ⟨#[c]⟩ := hs H1 hb
    refine q _ _ _ H1 G1 p (by rw [show ds.length = x.cps.size by rw [← r.length, hy]; simp]; exact walk_str) (fun _ _ => trivial) fun i H2 v H3 d G2 hd _ hh x1 x2 => ?_
    obtain ⟨e1, c, e2, e3⟩ := hh
    exact it i H2 v H3 d G2 hd ⟨e1, by rw [hy, List.getElem?_map, Array.getElem?_toList, e2, e3]; rfl⟩ x1 x2
theorem ei_enum (h : EvS gh T c te ρ ms) : EvI gh T c (iEnumS T.K (tCons te tNil)) ρ (bnd ms fun ds => ret (enumD 0 ds)) := fun F H σ g ds' g' S e R q => by
  obtain ⟨ds, g1, e1, e⟩ := bnd_inv e
  obtain ⟨rfl, rfl⟩ := ret_inv e
  refine h F H σ g ds _ S e1 _ fun v k ys H1 G1 p ho hs r => ?_
  have hb : Kp c gh G1 H1 H1 := p.here
  refine ⟨v, k, rfl, ho, ⟨ys, hs H1 hb⟩, ?_⟩
  refine q _ (fun H2 => SrcV T.K H2 k ys) (ItE T.K k).yld H1 G1 p ⟨fun i H2 hi hg => ⟨ys, hg, by rw [enumD_len, ← r.length] at hi; exact hi⟩, fun H2 hg => ⟨ys, hg, by rw [enumD_len, r.length]⟩, fun i H2 x H3 hi hg hy => hy⟩ hs fun i H2 x H3 d G2 hd hg hy x1 x2 => ?_
  obtain ⟨A, y, rfl, hA, rfl, hz⟩ := hy
  obtain ⟨d', e3, r3⟩ := r.getV (hz ys hg)
  rw [enumD_get, e3] at hd
  cases hd
  have gr : Gr G2 H2 (upd G2 A (.tup [.int (i : Nat), y])) (upd H2 A (.tup [.int (i : Nat), y])) := .new x2 hA
  exact ⟨_, gr, A, _, rfl, SqT.of upd_same, ⟨_, _, rfl, by rw [Nat.zero_add]; rfl, .cons (r3.ex (x1.trans gr.fg)) .nil⟩⟩
theorem ei_zip (h1 : EvS gh T c ta ρ ms1) (h2 : EvS gh T c tb ρ ms2) : EvI gh T c (iZipS T.K (tCons ta (tCons tb tNil))) ρ (bnd ms1 fun xs => bnd ms2 fun ys => ret (zipD xs ys)) := fun F H σ g ds' g' S e R q => by
  obtain ⟨ds, g1, e1, e⟩ := bnd_inv e
  obtain ⟨es, g2, e2, e⟩ := bnd_inv e
  obtain ⟨rfl, rfl⟩ := ret_inv e
  refine h1 F H σ g ds g1 S e1 _ fun v k ys H1 G1 p ho hs r => h2 G1 H1 σ g1 es _ (S.step p) e2 _ fun v2 k2 ys2 H2 G2 p2 ho2 hs2 r2 => ?_
  have hb : Kp c gh G2 H2 H2 := p2.here
  refine ⟨v, v2, k, k2, rfl, ho, ho2, ⟨ys, hs H2 (hb.post p2)⟩, ⟨ys2, hs2 H2 hb⟩, ?_⟩
  have hl : (zipD ds es).length = min ys.length ys2.length := by unfold zipD; rw [List.length_zipWith, r.length, r2.length]
  refine q _ (fun H3 => SrcV T.K H3 k ys ∧ SrcV T.K H3 k2 ys2) (ItZ T.K k k2).yld H2 G2 (p.then p2) ⟨fun i H3 hi hg => ⟨ys, ys2, hg.1, hg.2, by rw [← hl]; exact hi⟩, fun H3 hg => ⟨ys, ys2, hg.1, hg.2, hl⟩, fun i H3 x H4 hi hg hy => hy⟩
    (fun H3 k3 => ⟨hs H3 (k3.post p2), hs2 H3 k3⟩) fun i H3 x H4 d G3 hd hg hy x1 x2 => ?_
  obtain ⟨A, y, z, rfl, hA, rfl, hz, hz2⟩ := hy
  obtain ⟨d1, e3, r3⟩ := r.getV (hz ys hg.1)
  obtain ⟨d2, e4, r4⟩ := r2.getV (hz2 ys2 hg.2)
  have e5 : (zipD ds es)[i]? = some (.tup [d1, d2]) := by unfold zipD; rw [List.getElem?_zipWith, e3, e4]
  rw [e5] at hd
  cases hd
  have gr : Gr G3 H3 (upd G3 A (.tup [y, z])) (upd H3 A (.tup [y, z])) := .new x2 hA
  exact ⟨_, gr, A, _, rfl, SqT.of upd_same, .cons (r3.ex (p2.fg.trans (x1.trans gr.fg))) (.cons (r4.ex (x1.trans gr.fg)) .nil)⟩
theorem range_walks {lo : Int} {n : Nat} : ∀ i H2 x H3 d G2, ((List.range n).map fun (i : Nat) => D.int (lo + i))[i]? = some d → True → YFn (fun i => V.int (lo + i)) i H2 x H3 → Ex H2 H2 → Ex G2 H2 → ∃ G3, Gr G2 H2 G3 H3 ∧ Rp T G3 d x := fun i H2 x H3 d G2 hd _ ⟨e1, e2⟩ _ x2 => by
  subst e1; subst e2
  rw [List.getElem?_map] at hd
  by_cases hi : i < n
  · rw [List.getElem?_range hi] at hd
    cases hd
    exact ⟨G2, .refl x2, rfl⟩
  · rw [List.getElem?_eq_none (by simp; omega)] at hd; cases hd
theorem okR_iff {i : Int} (h : okR i = true) : -(2 ^ 62) ≤ i ∧ i < 2 ^ 62 := of_decide_eq_true h
theorem ei_rng1 (h : EvD gh T te ρ m) : EvI gh T c (iRng1 (tCons te tNil)) ρ (bnd m fun d => lft (rng1 d)) := fun F H σ g ds' g' S e R q => by
  obtain ⟨d, g1, e1, e⟩ := bnd_inv e
  obtain ⟨e', rfl⟩ := lft_inv e
  refine h F H σ g d _ S e1 _ fun v H1 G1 p r => ?_
  cases d with
  | int j =>
    obtain ⟨hj, rfl⟩ := gd e'
    cases r
    refine ⟨j, rfl, (okR_iff hj).1, (okR_iff hj).2, ?_⟩
    refine q _ _ _ H1 G1 p (by rw [show (rangeD 0 j).length = j.toNat by simp [rangeD]]; exact walk_range) (fun _ _ => trivial) fun i H2 x H3 d G2 hd hg hy _ x2 => range_walks (T := T) i H2 x H3 d G2 hd hg hy (Same.refl _) x2
  | _ => cases e'
theorem ei_rng2 (ha : EvD gh T ta ρ m1) (hb : EvD gh T tb ρ m2) : EvI gh T c (iRng2 (tCons ta (tCons tb tNil))) ρ (bnd m1 fun x => bnd m2 fun y => lft (rng2 x y)) := fun F H σ g ds' g' S e R q => by
  obtain ⟨x, g1, e1, e⟩ := bnd_inv e
  obtain ⟨y, g2, e2, e⟩ := bnd_inv e
  obtain ⟨e', rfl⟩ := lft_inv e
  refine ha F H σ g x g1 S e1 _ fun v H1 G1 p1 r1 => hb G1 H1 σ g1 y _ (S.step p1) e2 _ fun u H2 G2 p2 r2 => ?_
  cases x with
  | int i =>
    cases y with
    | int j =>
      obtain ⟨hj, rfl⟩ := gd e'
      cases r1; cases r2
      refine ⟨i, j, rfl, ⟨(okR_iff hj.1).1, (okR_iff hj.1).2, (okR_iff hj.2).1, (okR_iff hj.2).2⟩, ?_⟩
      refine q _ _ _ H2 G2 (p1.then p2) (by rw [show (rangeD i j).length = (j - i).toNat by simp [rangeD]]; exact walk_range) (fun _ _ => trivial) fun i H2 x H3 d G2 hd hg hy _ x2 => range_walks (T := T) i H2 x H3 d G2 hd hg hy (Same.refl _) x2
    | _ => cases e'
  | _ => cases e'
end
/-! ### targets -/
def un2 : D → Option (D × D)
  | .tup [a, b] => some (a, b)
  | _ => none
def un3 : D → Option (D × D × D)
  | .tup [a, b, c] => some (a, b, c)
  | _ => none
def un4 : D → Option (D × D × D × D)
  | .tup [a, b, c, d] => some (a, b, c, d)
  | _ => none
section
variable (gh : Gh) (T : Tb)
def EvG {α : Type} (g : TG) (ρ : Env) (f : D → Option α) (E : α → Env) : Prop := ∀ d a F H σ γ v, Stt gh T F H σ ρ γ → f d = some a → Rp T F d v → ∀ Q : L2.St → Hp → Prop,
  (∀ σ2, Stt gh T F H σ2 (E a) γ → (∀ b, Own σ2 (E a) b → Own σ ρ b) → Q σ2 H) → g v σ H Q
def Wp (g : TG) (vs : List Nat) : Prop := ∀ v σ H (Q : L2.St → Hp → Prop), g v σ H Q → g v σ H fun σ2 H2 => L2.wipe σ2 vs = L2.wipe σ vs ∧ Q σ2 H2
def WpS (g : TGs) (vs : List Nat) : Prop := ∀ v σ H (Q : L2.St → Hp → Prop), g v σ H Q → g v σ H fun σ2 H2 => L2.wipe σ2 vs = L2.wipe σ vs ∧ Q σ2 H2
end
section
variable {gh : Gh} {T : Tb} {ρ : Env} {vs : List Nat}
theorem wp_name {i : Nat} (h : i ∈ vs) : Wp (gName i) vs := fun v σ H Q q => ⟨wipe_set h, q⟩
theorem wps_nil : WpS gNil vs := fun v σ H Q ⟨e, q⟩ => ⟨e, rfl, q⟩
theorem wps_cons {g : TG} {gs : TGs} (h : Wp g vs) (hs : WpS gs vs) (mono : ∀ v σ H (Q Q' : L2.St → Hp → Prop), (∀ σ H, Q σ H → Q' σ H) → g v σ H Q → g v σ H Q') (monos : ∀ v σ H (Q Q' : L2.St → Hp → Prop), (∀ σ H, Q σ H → Q' σ H) → gs v σ H Q → gs v σ H Q') : WpS (gCons g gs) vs := fun v σ H Q ⟨x, r, e, q⟩ => by
  refine ⟨x, r, e, mono _ _ _ _ _ (fun σ1 H1 ⟨e1, q1⟩ => ?_) (h x σ H _ q)⟩
  exact monos _ _ _ _ _ (fun σ2 H2 ⟨e2, q2⟩ => ⟨e2.trans e1, q2⟩) (hs r σ1 H1 Q q1)
theorem mn_name {i : Nat} : ∀ v σ H (Q Q' : L2.St → Hp → Prop), (∀ σ H, Q σ H → Q' σ H) → gName i v σ H Q → gName i v σ H Q' := fun _ _ _ _ _ h q => h _ _ q
theorem mn_nil : ∀ v σ H (Q Q' : L2.St → Hp → Prop), (∀ σ H, Q σ H → Q' σ H) → gNil v σ H Q → gNil v σ H Q' := fun _ _ _ _ _ h ⟨e, q⟩ => ⟨e, h _ _ q⟩
theorem mn_cons {i : Nat} {gs : TGs} (h : ∀ v σ H (Q Q' : L2.St → Hp → Prop), (∀ σ H, Q σ H → Q' σ H) → gs v σ H Q → gs v σ H Q') : ∀ v σ H (Q Q' : L2.St → Hp → Prop), (∀ σ H, Q σ H → Q' σ H) → gCons (gName i) gs v σ H Q → gCons (gName i) gs v σ H Q' :=
  fun _ _ _ _ _ k ⟨x, r, e, q⟩ => ⟨x, r, e, h _ _ _ _ _ k q⟩
theorem wps_n {i : Nat} {gs : TGs} (h : i ∈ vs) (hs : WpS gs vs) (monos : ∀ v σ H (Q Q' : L2.St → Hp → Prop), (∀ σ H, Q σ H → Q' σ H) → gs v σ H Q → gs v σ H Q') : WpS (gCons (gName i) gs) vs := wps_cons (wp_name h) hs mn_name monos
theorem wp_tup {n : Nat} {K : PySem.W.Frag} {gs : TGs} (h : WpS gs vs) : Wp (gTup K n gs) vs := fun v σ H Q ⟨a, xs, e1, e2, e3, q⟩ => ⟨a, xs, e1, e2, e3, h _ _ _ _ q⟩
theorem wp_2 {K : PySem.W.Frag} {i j : Nat} (hi : i ∈ vs) (hj : j ∈ vs) : Wp (gTup K 2 (gCons (gName i) (gCons (gName j) gNil))) vs := wp_tup (wps_n hi (wps_n hj wps_nil mn_nil) (mn_cons mn_nil))
theorem wp_3 {K : PySem.W.Frag} {i j k : Nat} (hi : i ∈ vs) (hj : j ∈ vs) (hk : k ∈ vs) : Wp (gTup K 3 (gCons (gName i) (gCons (gName j) (gCons (gName k) gNil)))) vs := wp_tup (wps_n hi (wps_n hj (wps_n hk wps_nil mn_nil) (mn_cons mn_nil)) (mn_cons (mn_cons mn_nil)))
theorem wp_4 {K : PySem.W.Frag} {i j k l : Nat} (hi : i ∈ vs) (hj : j ∈ vs) (hk : k ∈ vs) (hl : l ∈ vs) : Wp (gTup K 4 (gCons (gName i) (gCons (gName j) (gCons (gName k) (gCons (gName l) gNil))))) vs := wp_tup (wps_n hi (wps_n hj (wps_n hk (wps_n hl wps_nil mn_nil) (mn_cons mn_nil)) (mn_cons (mn_cons mn_nil))) (mn_cons (mn_cons (mn_cons mn_nil))))
theorem eg_1 {i : Nat} : EvG gh T (gName i) ρ some (fun d => ρ.set i (.val d)) := fun d a F H σ γ v S e r Q k => by
  cases e
  exact k _ (S.set r i) fun b hb => own_set hb
theorem eg_2 {i j : Nat} : EvG gh T (gTup T.K 2 (gCons (gName i) (gCons (gName j) gNil))) ρ un2 (fun p => (ρ.set i (.val p.1)).set j (.val p.2)) := fun d a F H σ γ v S e r Q k => by
  cases d with
  | tup ds =>
    match ds, e with
    | [a1, a2], e =>
      cases e
      obtain ⟨p, xs, rfl, hs, y, ys, rfl, r1, z, zs, rfl, r2, e3⟩ := r
      cases e3
      exact ⟨p, _, rfl, S.ext.t hs, rfl, y, _, rfl, z, _, rfl, rfl, k _ ((S.set r1 i).set r2 j) fun b hb => own_set (own_set hb)⟩
  | _ => cases e
theorem eg_3 {i j l : Nat} : EvG gh T (gTup T.K 3 (gCons (gName i) (gCons (gName j) (gCons (gName l) gNil)))) ρ un3 (fun p => ((ρ.set i (.val p.1)).set j (.val p.2.1)).set l (.val p.2.2)) := fun d a F H σ γ v S e r Q k => by
  cases d with
  | tup ds =>
    match ds, e with
    | [a1, a2, a3], e =>
      cases e
      obtain ⟨p, xs, rfl, hs, y, ys, rfl, r1, z, zs, rfl, r2, w, ws, rfl, r3, e3⟩ := r
      cases e3
      exact ⟨p, _, rfl, S.ext.t hs, rfl, y, _, rfl, z, _, rfl, w, _, rfl, rfl, k _ (((S.set r1 i).set r2 j).set r3 l) fun b hb => own_set (own_set (own_set hb))⟩
  | _ => cases e
theorem eg_4 {i j l n : Nat} : EvG gh T (gTup T.K 4 (gCons (gName i) (gCons (gName j) (gCons (gName l) (gCons (gName n) gNil))))) ρ un4 (fun p => (((ρ.set i (.val p.1)).set j (.val p.2.1)).set l (.val p.2.2.1)).set n (.val p.2.2.2)) := fun d a F H σ γ v S e r Q k => by
  cases d with
  | tup ds =>
    match ds, e with
    | [a1, a2, a3, a4], e =>
      cases e
      obtain ⟨p, xs, rfl, hs, y, ys, rfl, r1, z, zs, rfl, r2, w, ws, rfl, r3, u, us, rfl, r4, e3⟩ := r
      cases e3
      exact ⟨p, _, rfl, S.ext.t hs, rfl, y, _, rfl, z, _, rfl, w, _, rfl, u, _, rfl, rfl, k _ ((((S.set r1 i).set r2 j).set r3 l).set r4 n) fun b hb => own_set (own_set (own_set (own_set hb)))⟩
  | _ => cases e
end
/-! ### comprehensions -/
def lcM {γ : Type} (k : D → M γ (Option D)) : List D → M γ (List D)
  | [] => ret []
  | d :: ds => bnd (k d) fun o => bnd (lcM k ds) fun ys => ret (match o with
    | some y => y :: ys
    | none => ys)
section
variable (gh : Gh) (T : Tb)
/-- a comprehension's turn -/
def EvK (g : TG) (tt : TT) (te : TE) (vs : List Nat) (ρ : Env) (k : D → M gh.S (Option D)) : Prop := ∀ d F H σ γ o γ' v, Stt gh T F H σ (wipeE ρ vs) γ → k d γ = some (o, γ') → Rp T F d v → ∀ (Q1 : V → Hp → Prop) (Q0 : Hp → Prop),
  (∀ y w H' G, o = some y → Post gh F H G H' γ' → Rp T G y w → Q1 w H') → (∀ H' G, o = none → Post gh F H G H' γ' → Q0 H') →
  g v σ H fun σ2 H2 => L2.wipe σ2 vs = L2.wipe σ vs ∧ tt σ2 H2 fun b H3 => if b = true then te σ2 H3 Q1 else Q0 H3
end
section
variable {gh : Gh} {T : Tb} {ρ : Env} {te ta tb : TE} {tt : TT} {vs : List Nat}
theorem ek {α : Type} {g : TG} {f : D → Option α} {E : α → Env} {me : α → M gh.S D} (hg : EvG gh T g (wipeE ρ vs) f E) (hw : Wp g vs) (he : ∀ a, EvD gh T te (E a) (me a)) :
    EvK gh T g tYes te vs ρ fun d => bnd (lft (f d)) fun a => bnd (me a) fun y => ret (some y) := fun d F H σ γ o γ' v S e r Q1 Q0 k1 k0 => by
  obtain ⟨a, g1, e1, q1⟩ := bnd_inv e
  obtain ⟨e1', rfl⟩ := lft_inv e1
  obtain ⟨y, g2, e2, q2⟩ := bnd_inv q1
  obtain ⟨rfl, rfl⟩ := ret_inv q2
  refine hw v σ H _ (hg d a F H σ _ v S e1' r _ fun σ2 S2 _ => ?_)
  show if true = true then te σ2 H Q1 else Q0 H
  rw [if_pos rfl]
  exact he a F H σ2 _ y _ S2 e2 _ fun w H' G p r' => k1 y w H' G rfl p r'
theorem ekf {α : Type} {g : TG} {f : D → Option α} {E : α → Env} {mt : α → M gh.S Bool} {me : α → M gh.S D} (hg : EvG gh T g (wipeE ρ vs) f E) (hw : Wp g vs) (ht : ∀ a, EvT gh T tt (E a) (mt a)) (he : ∀ a, EvD gh T te (E a) (me a)) :
    EvK gh T g tt te vs ρ fun d => bnd (lft (f d)) fun a => bnd (mt a) fun b => if b then bnd (me a) fun y => ret (some y) else ret none := fun d F H σ γ o γ' v S e r Q1 Q0 k1 k0 => by
  obtain ⟨a, g1, e1, q1⟩ := bnd_inv e
  obtain ⟨e1', rfl⟩ := lft_inv e1
  obtain ⟨b, g2, e2, q2⟩ := bnd_inv q1
  refine hw v σ H _ (hg d a F H σ _ v S e1' r _ fun σ2 S2 _ => ?_)
  refine ht a F H σ2 _ b g2 S2 e2 _ fun H3 G3 p3 => ?_
  cases b with
  | true =>
    rw [if_pos rfl] at q2 ⊢
    obtain ⟨y, g3, e3, q3⟩ := bnd_inv q2
    obtain ⟨rfl, rfl⟩ := ret_inv q3
    exact he a G3 H3 σ2 g2 y _ (S2.step p3) e3 _ fun w H' G p r' => k1 y w H' G rfl (p3.then p) r'
  | false =>
    rw [if_neg (by decide)] at q2 ⊢
    obtain ⟨rfl, rfl⟩ := ret_inv q2
    exact k0 H3 G3 rfl p3
theorem ek_1 {i : Nat} {me : D → M gh.S D} (hi : i ∈ vs) (he : ∀ a, EvD gh T te ((wipeE ρ vs).set i (.val a)) (me a)) : EvK gh T (gName i) tYes te vs ρ fun d => bnd (me d) fun y => ret (some y) := ek eg_1 (wp_name hi) he
theorem ek_1f {i : Nat} {mt : D → M gh.S Bool} {me : D → M gh.S D} (hi : i ∈ vs) (ht : ∀ a, EvT gh T tt ((wipeE ρ vs).set i (.val a)) (mt a)) (he : ∀ a, EvD gh T te ((wipeE ρ vs).set i (.val a)) (me a)) : EvK gh T (gName i) tt te vs ρ fun d => bnd (mt d) fun b => if b then bnd (me d) fun y => ret (some y) else ret none := ekf eg_1 (wp_name hi) ht he
/-- the list it makes -/
theorem en_lc {wi : TI} {g : TG} {mi : M gh.S (List D)} {k : D → M gh.S (Option D)} (hi : EvI gh T true wi ρ mi) (hk : EvK gh T g tt te vs ρ k) : EvN gh T (tLc wi g tt te vs) ρ (bnd mi fun ds => bnd (lcM k ds) fun ys => lft (okL ys)) := fun F H σ g0 fin g' S e Q q => by
  obtain ⟨ds, g1, e1, e⟩ := bnd_inv e
  obtain ⟨ys, g2, e2, e⟩ := bnd_inv e
  obtain ⟨e', rfl⟩ := lft_inv e
  unfold okL at e'
  obtain ⟨hl, rfl⟩ := gd e'
  refine hi F H σ g0 ds g1 S e1 _ fun J Gd Y H1 G1 p1 W hg hit => fun D hD => ?_
  have hM : ¬ gh.M D := fun m => gh.there _ _ _ p1.gi m hD
  have hH : H D = none := p1.was hD
  have hG1 : G1 D = none := p1.gh'.free hD
  refine lc_it W (fun i Hi => ∃ Gi γi acc accV rest, Post gh F H Gi Hi γi ∧ Hi D = some (.lst accV) ∧ Gi D = none ∧ Rps T Gi acc accV ∧ lcM k (ds.drop i) γi = some (rest, g') ∧ acc ++ rest = fin ∧ Ex G1 Gi ∧ Kp true gh G1 H1 Hi ∧ Stt gh T Gi Hi (L2.wipe σ vs) (wipeE ρ vs) γi) ?_ ?_ ?_ ?_
  · have p2 : Post gh F H G1 (upd H1 D (.lst [])) g1 := p1.lay hD
    refine ⟨G1, g1, [], [], fin, p2, upd_same, hG1, rfl, e2, rfl, Same.refl _, fun x o _ z => ?_, (S.step p2).wipe vs⟩
    rw [upd_ne (ne_of_none z hD)]; exact z
  · rintro i Hi hi' ⟨Gi, γi, acc, accV, rest, p, hx, hGi, ra, er, ef, ex, kp, S'⟩
    exact hg Hi kp
  · rintro i x Hi H3 hlt ⟨Gi, γi, acc, accV, rest, p, hx, hGi, ra, er, ef, ex, kp, S'⟩ hy
    obtain ⟨d, hd⟩ : ∃ d, ds[i]? = some d := ⟨_, List.getElem?_eq_getElem hlt⟩
    obtain ⟨G3, gr, rd⟩ := hit i Hi x H3 d Gi hd (hg Hi kp) hy ex p.gh'
    have er' : lcM k (d :: ds.drop (i + 1)) γi = some (rest, g') := by
      rw [← er, List.drop_eq_getElem_cons hlt]
      rw [List.getElem?_eq_getElem hlt] at hd
      cases hd; rfl
    obtain ⟨o, γ2, e3, er'⟩ := bnd_inv er'
    obtain ⟨zs, γ3, e4, er'⟩ := bnd_inv er'
    obtain ⟨rfl, rfl⟩ := ret_inv er'
    have pg : Post gh Gi Hi G3 H3 γi := gr.post p.gi
    have hG3 : G3 D = none := gr.nw D hGi (by rw [hx]; exact fun z => nomatch z)
    have hx3 : H3 D = some (.lst accV) := gr.hh _ _ hx
    have go := hk d G3 H3 (L2.wipe σ vs) γi o γ2 x (S'.step pg) e3 rd
    rw [wipe_wipe] at go
    refine go _ _ (fun y w H4 G4 eo p4 rw4 => ?_) (fun H4 G4 eo p4 => ?_)
    · subst eo
      have ef' : (acc ++ [y]) ++ zs = fin := by rw [← ef]; simp
      have pall : Post gh F H G4 H4 γ2 := (p.then pg).then p4
      have hx4 : H4 D = some (.lst accV) := p4.hh _ _ hM hx3
      have hG4 : G4 D = none := p4.nw D hG3 (by rw [hx3]; exact fun z => nomatch z)
      have pt : Post gh F H G4 (upd H4 D (.lst (accV ++ [w]))) γ2 := pall.touch hH hG4 hM
      refine ⟨accV, hx4, ?_, G4, γ2, acc ++ [y], accV ++ [w], zs, pt, upd_same, hG4, ((ra.ex (gr.fg.trans p4.fg)).append (.cons rw4 .nil)), e4, ef', ex.trans (gr.fg.trans p4.fg), fun b z m q => ?_, (S.step pt).wipe vs⟩
      · have : acc.length < fin.length := by rw [← ef]; simp
        rw [ra.length, ← LIM_eq]; omega
      · rw [upd_ne (ne_of_none q hD)]; exact p4.hh b z m (gr.hh b z (kp b z m q))
    · subst eo
      have pall : Post gh F H G4 H4 γ2 := (p.then pg).then p4
      have hx4 : H4 D = some (.lst accV) := p4.hh _ _ hM hx3
      have hG4 : G4 D = none := p4.nw D hG3 (by rw [hx3]; exact fun z => nomatch z)
      exact ⟨G4, γ2, acc, accV, zs, pall, hx4, hG4, ra.ex (gr.fg.trans p4.fg), e4, ef, ex.trans (gr.fg.trans p4.fg), fun b z m q => p4.hh b z m (gr.hh b z (kp b z m q)), (S.step pall).wipe vs⟩
  · rintro Hi ⟨Gi, γi, acc, accV, rest, p, hx, hGi, ra, er, ef, ex, kp, S'⟩
    rw [List.drop_length] at er
    obtain ⟨rfl, rfl⟩ := ret_inv er
    rw [List.append_nil] at ef
    subst ef
    exact q D accV Hi Gi p hH hGi hx ra
end
end Py

set_option Elab.async false
set_option linter.all false
set_option maxRecDepth 100000
set_option maxHeartbeats 4000000
namespace Py
open PySem L2
/-! ### statements -/
/-- the state within a def: F0, H0 at its entry; Fb stands since a loop began -/
structure SB (gh : Gh) (T : Tb) (F0 H0 Fb F H : Hp) (σ : L2.St) (ρ : Env) (g : gh.S) : Prop where
  st : Stt gh T F H σ ρ g
  po : Post gh F0 H0 F H g
  ow : ∀ a, Own σ ρ a → H0 a = none
  fb : Ex Fb F
/-- what follows: by the names' knowledge at the end, what is still to be computed -/
structure Cont (γ ω : Type) where
  nx : Env → M γ ω → Prop
  rt : D → M γ ω → Prop
  bk : Env → M γ ω → Prop := fun _ _ => False
  ct : Env → M γ ω → Prop := fun _ _ => False
def EvB (gh : Gh) (T : Tb) {ω : Type} (t : TS) (ρ : Env) (m : M gh.S ω) (C : Cont gh.S ω) : Prop := ∀ F0 H0 Fb F H σ g o g', SB gh T F0 H0 Fb F H σ ρ g → m g = some (o, g') → ∀ Dd : Ends,
  (∀ ρ' mm F' H' σ' g1, C.nx ρ' mm → SB gh T F0 H0 Fb F' H' σ' ρ' g1 → mm g1 = some (o, g') → Dd.nx σ' H') →
  (∀ d mm v F' H' g1, C.rt d mm → Post gh F0 H0 F' H' g1 → Rp T F' d v → mm g1 = some (o, g') → Dd.rt v H') →
  (∀ ρ' mm F' H' σ' g1, C.bk ρ' mm → SB gh T F0 H0 Fb F' H' σ' ρ' g1 → mm g1 = some (o, g') → Dd.bk σ' H') →
  (∀ ρ' mm F' H' σ' g1, C.ct ρ' mm → SB gh T F0 H0 Fb F' H' σ' ρ' g1 → mm g1 = some (o, g') → Dd.ct σ' H') → t Dd σ H
section
variable {gh : Gh} {T : Tb} {F0 H0 Fb F H G H' : Hp} {σ : L2.St} {ρ : Env} {g g' : gh.S}
theorem SB.step (S : SB gh T F0 H0 Fb F H σ ρ g) (p : Post gh F H G H' g') : SB gh T F0 H0 Fb G H' σ ρ g' :=
  ⟨S.st.step p, S.po.then p, S.ow, S.fb.trans p.fg⟩
theorem SB.set {d : D} {v : V} (S : SB gh T F0 H0 Fb F H σ ρ g) (r : Rp T F d v) (i : Nat) : SB gh T F0 H0 Fb F H (σ.set i (some v)) (ρ.set i (.val d)) g :=
  ⟨S.st.set r i, S.po, fun a h => S.ow a (own_set h), S.fb⟩
theorem SB.setOwn {ds : List D} {p : Addr} {xs : List V} (S : SB gh T F0 H0 Fb F H σ ρ g) (hF : F p = none) (hx : H p = some (.lst xs)) (r : Rps T F ds xs) (hM : ¬ gh.M p) (h0 : H0 p = none) (hno : ¬ Own σ ρ p) (i : Nat) :
    SB gh T F0 H0 Fb F H (σ.set i (some (.ref p))) (ρ.set i (.own (.lst ds))) g :=
  ⟨S.st.setOwn hF hx r hM hno i, S.po, fun a h => by
    rcases own_setOwn h with h | h
    · exact S.ow a h
    · rw [h]; exact h0, S.fb⟩
theorem SB.notOwn {p : Addr} (S : SB gh T F0 H0 Fb F H σ ρ g) (h : H p = none) : ¬ Own σ ρ p := fun ⟨i, m, h1, h2⟩ => by
  obtain ⟨a, u, e1, _, _, e4, _⟩ := S.st.own h1
  rw [h2] at e1
  cases e1
  rw [h] at e4; cases e4
/-- the list of a slot gets other items -/
theorem SB.mut {i : Nat} {ds ds' : List D} {a : Addr} {xs' : List V} (S : SB gh T F0 H0 Fb F H σ ρ g) (hi : ρ[i]? = some (.own (.lst ds))) (hs : σ[i]? = some (some (.ref a))) (r : Rps T F ds' xs') :
    SB gh T F0 H0 Fb F (upd H a (.lst xs')) σ (ρ.set i (.own (.lst ds'))) g := by
  obtain ⟨a', u, hv, h1, h2, h3, xs, rfl, _⟩ := S.st.own hi
  rw [hs] at hv
  cases hv
  have own : ∀ b, Own σ (ρ.set i (.own (.lst ds'))) b → Own σ ρ b := fun b ⟨j, m, e1, e2⟩ => by
    rw [List.getElem?_set] at e1
    split at e1
    · rename_i e; subst e; exact ⟨i, _, hi, e2⟩
    · exact ⟨j, m, e1, e2⟩
  have ne : ∀ {b : Addr} {o : HO}, F b = some o → b ≠ a := fun {b o} e z => by rw [z, h1] at e; cases e
  have pt : Post gh F0 H0 F (upd H a (.lst xs')) g := S.po.touch (S.ow a ⟨i, _, hi, hs⟩) h1 h2
  have li : i < ρ.length := by
    cases Nat.lt_or_ge i ρ.length with
    | inl h => exact h
    | inr h => rw [List.getElem?_eq_none h] at hi; cases hi
  refine ⟨⟨fun b z w => ?_, S.st.mf, pt.gi, by simp [S.st.len], fun j c hc => ?_, fun x y b m m' e1 e2 e3 e4 => ?_⟩, pt, fun b h => S.ow b (own b h), S.fb⟩
  · rw [upd_ne (ne w)]; exact S.st.ext b z w
  · rw [List.getElem?_set] at hc
    by_cases hij : i = j
    · rw [if_pos hij] at hc
      subst hij
      rw [if_pos li] at hc
      cases hc
      exact ⟨_, hs, a, _, rfl, h1, h2, upd_same, xs', rfl, r⟩
    · rw [if_neg hij] at hc
      obtain ⟨o, ho, hk⟩ := S.st.cell j c hc
      refine ⟨o, ho, ?_⟩
      cases c with
      | no => trivial
      | val d => exact hk
      | own m =>
        obtain ⟨b, u, rfl, k1, k2, k3, k4⟩ := hk
        have nb : b ≠ a := fun z => hij (S.st.sep i j a _ _ hi hc hs (by rw [ho, z]))
        exact ⟨b, u, rfl, k1, k2, by rw [upd_ne nb]; exact k3, k4⟩
  · obtain ⟨m1, q1⟩ : ∃ m, ρ[x]? = some (.own m) := by
      rw [List.getElem?_set] at e1
      split at e1
      · rename_i e; subst e; exact ⟨_, hi⟩
      · exact ⟨_, e1⟩
    obtain ⟨m2, q2⟩ : ∃ m, ρ[y]? = some (.own m) := by
      rw [List.getElem?_set] at e2
      split at e2
      · rename_i e; subst e; exact ⟨_, hi⟩
      · exact ⟨_, e2⟩
    exact S.st.sep x y b m1 m2 q1 q2 e3 e4
/-- less is known -/
inductive Wk : Env → Env → Prop where
  | nil : Wk [] []
  | no {c : Cell} {r r' : Env} (h : Wk r r') : Wk (c :: r) (.no :: r')
  | eq {c : Cell} {r r' : Env} (h : Wk r r') : Wk (c :: r) (c :: r')
theorem Wk.refl : ∀ ρ : Env, Wk ρ ρ
  | [] => .nil
  | _ :: r => .eq (Wk.refl r)
theorem Wk.len {ρ ρ' : Env} (w : Wk ρ ρ') : ρ.length = ρ'.length := by
  induction w with
  | nil => rfl
  | no h ih => simp [ih]
  | eq h ih => simp [ih]
theorem Wk.at {ρ ρ' : Env} (w : Wk ρ ρ') : ∀ (i : Nat) c, ρ'[i]? = some c → c = .no ∨ ρ[i]? = some c := by
  induction w with
  | nil => intro i c h; simp at h
  | @no c r r' h ih =>
    intro i c h
    cases i with
    | zero => simp at h; exact .inl h.symm
    | succ i => simp at h ⊢; exact ih i c h
  | @eq c r r' h ih =>
    intro i c h
    cases i with
    | zero => simp at h ⊢; exact .inr h
    | succ i => simp at h ⊢; exact ih i c h
theorem SB.wk {ρ' : Env} (w : Wk ρ ρ') (S : SB gh T F0 H0 Fb F H σ ρ g) : SB gh T F0 H0 Fb F H σ ρ' g := by
  have up : ∀ {i : Nat} {m : Mo}, ρ'[i]? = some (.own m) → ρ[i]? = some (.own m) := fun {i m} h => by
    rcases w.at i _ h with e | e
    · cases e
    · exact e
  refine ⟨⟨S.st.ext, S.st.mf, S.st.gi, by rw [← w.len]; exact S.st.len, fun i c hc => ?_, fun i j a m m' e1 e2 e3 e4 => S.st.sep i j a m m' (up e1) (up e2) e3 e4⟩, S.po, fun a ⟨i, m, e1, e2⟩ => S.ow a ⟨i, m, up e1, e2⟩, S.fb⟩
  rcases w.at i c hc with e | e
  · subst e
    have hl : i < σ.length := by
      rw [S.st.len, w.len]
      cases Nat.lt_or_ge i ρ'.length with
      | inl h => exact h
      | inr h => rw [List.getElem?_eq_none h] at hc; cases hc
    exact ⟨_, List.getElem?_eq_getElem hl, trivial⟩
  · exact S.st.cell i c e
/-- a list becomes a datum that stands -/
theorem SB.frz {i : Nat} {ds : List D} (S : SB gh T F0 H0 Fb F H σ ρ g) (hi : ρ[i]? = some (.own (.lst ds))) : ∃ F', SB gh T F0 H0 Fb F' H σ (ρ.set i (.val (.lst ds))) g := by
  obtain ⟨a, u, hv, h1, h2, h3, xs, rfl, r⟩ := S.st.own hi
  have ex : Ex F (upd F a (.lst xs)) := fun b z w => by rw [upd_ne (fun q => by rw [q, h1] at w; cases w)]; exact w
  have h0 : H0 a = none := S.ow a ⟨i, _, hi, hv⟩
  have eg : Ex (upd F a (.lst xs)) H := fun b z w => by
    by_cases hb : b = a
    · subst hb; rw [upd_same] at w; cases w; exact h3
    · rw [upd_ne hb] at w; exact S.st.ext b z w
  have ne : ∀ {a : Nat} {m : Mo}, (ρ.set i (.val (.lst ds)))[a]? = some (.own m) → i ≠ a ∧ ρ[a]? = some (.own m) := fun {a m} h => by
    rw [List.getElem?_set] at h
    split at h
    · split at h <;> cases h
    · rename_i hn; exact ⟨hn, h⟩
  refine ⟨upd F a (.lst xs), ⟨eg, fun b m => ?_, S.st.gi, by simp [S.st.len], fun j c hc => ?_, fun x y b m m' e1 e2 e3 e4 => S.st.sep x y b m m' (ne e1).2 (ne e2).2 e3 e4⟩, ⟨S.po.fg.trans ex, eg, S.po.hh, fun b k1 k2 => ?_, S.po.gi⟩, fun b ⟨j, m, e1, e2⟩ => S.ow b ⟨j, m, (ne e1).2, e2⟩, S.fb.trans ex⟩
  · rw [upd_ne (fun q => h2 (by rw [← q]; exact m))]; exact S.st.mf b m
  · rw [List.getElem?_set] at hc
    by_cases hij : i = j
    · rw [if_pos hij] at hc
      subst hij
      split at hc
      · cases hc
        exact ⟨_, hv, _, rfl, a, xs, rfl, upd_same, r.ex ex⟩
      · cases hc
    · rw [if_neg hij] at hc
      obtain ⟨o, ho, hk⟩ := S.st.cell j c hc
      refine ⟨o, ho, ?_⟩
      cases c with
      | no => trivial
      | val d => obtain ⟨v, e, q⟩ := hk; exact ⟨v, e, q.ex ex⟩
      | own m =>
        obtain ⟨b, u, rfl, k1, k2, k3, k4⟩ := hk
        have nb : b ≠ a := fun z => hij (S.st.sep i j a _ _ hi hc hv (by rw [ho, z]))
        exact ⟨b, u, rfl, by rw [upd_ne nb]; exact k1, k2, k3, k4.ex ex⟩
  · rw [upd_ne (fun q => k2 (by rw [q]; exact h0))]; exact S.po.nw b k1 k2
end
section
variable {gh : Gh} {T : Tb} {ω : Type} {ρ : Env} {m : M gh.S ω} {C : Cont gh.S ω} {t u : TS}
theorem eb_nx (h : C.nx ρ m) : EvB gh T tNext ρ m C := fun F0 H0 Fb F H σ g o g' S e Dd kn _ _ _ => kn _ _ _ _ _ _ h S e
theorem eb_brk (h : C.bk ρ m) : EvB gh T tBreak ρ m C := fun F0 H0 Fb F H σ g o g' S e Dd _ _ kb _ => kb _ _ _ _ _ _ h S e
theorem eb_cont (h : C.ct ρ m) : EvB gh T tCont ρ m C := fun F0 H0 Fb F H σ g o g' S e Dd _ _ _ kc => kc _ _ _ _ _ _ h S e
/-- .. and then the rest -/
abbrev Cont.thn (C : Cont gh.S ω) (T : Tb) (u : TS) : Cont gh.S ω := { C with nx := fun ρ' mm => EvB gh T u ρ' mm C }
theorem eb_seq (h : EvB gh T t ρ m (C.thn T u)) : EvB gh T (tSeq t u) ρ m C := fun F0 H0 Fb F H σ g o g' S e Dd kn kr kb kc =>
  h F0 H0 Fb F H σ g o g' S e _ (fun ρ' mm F' H' σ' g1 hu S' e' => hu F0 H0 Fb F' H' σ' g1 o g' S' e' Dd kn kr kb kc) kr kb kc
/-- .. the rest shared by several roads that reach it -/
abbrev Cont.to {β : Type} (C : Cont gh.S ω) (E : β → Env) (j : β → M gh.S ω) : Cont gh.S ω := { C with nx := fun ρ' mm => ∃ b, Wk ρ' (E b) ∧ mm = j b }
theorem eb_join {β : Type} (E : β → Env) (j : β → M gh.S ω) (hu : ∀ b, EvB gh T u (E b) (j b) C) (h : EvB gh T t ρ m (C.to E j)) : EvB gh T (tSeq t u) ρ m C := fun F0 H0 Fb F H σ g o g' S e Dd kn kr kb kc =>
  h F0 H0 Fb F H σ g o g' S e _ (fun ρ' mm F' H' σ' g1 hb S' e' => by
    obtain ⟨b, hw, rfl⟩ := hb
    exact hu b F0 H0 Fb F' H' σ' g1 o g' (S'.wk hw) e' Dd kn kr kb kc) kr kb kc
theorem eb_wk {ρ' : Env} (w : Wk ρ ρ') (h : EvB gh T t ρ' m C) : EvB gh T t ρ m C := fun F0 H0 Fb F H σ g o g' S e Dd kn kr kb kc => h F0 H0 Fb F H σ g o g' (S.wk w) e Dd kn kr kb kc
theorem eb_frz {i : Nat} {ds : List D} (hi : ρ[i]? = some (.own (.lst ds))) (h : EvB gh T t (ρ.set i (.val (.lst ds))) m C) : EvB gh T t ρ m C := fun F0 H0 Fb F H σ g o g' S e Dd kn kr kb kc => by
  obtain ⟨F', S'⟩ := S.frz hi
  exact h F0 H0 Fb F' H σ g o g' S' e Dd kn kr kb kc
theorem eb_asg {te : TE} {me : M gh.S D} {k : D → M gh.S ω} {i : Nat} (h : EvD gh T te ρ me) (hk : ∀ d, C.nx (ρ.set i (.val d)) (k d)) : EvB gh T (tAsg te (gName i)) ρ (bnd me k) C := fun F0 H0 Fb F H σ g o g' S e Dd kn kr kb kc => by
  obtain ⟨d, g1, e1, e2⟩ := bnd_inv e
  exact h F H σ g d g1 S.st e1 _ fun v H1 G1 p r => kn _ _ _ _ _ _ (hk d) ((S.step p).set r i) e2
theorem eb_asgN {te : TE} {me : M gh.S (List D)} {k : List D → M gh.S ω} {i : Nat} (h : EvN gh T te ρ me) (hk : ∀ ds, C.nx (ρ.set i (.own (.lst ds))) (k ds)) : EvB gh T (tAsg te (gName i)) ρ (bnd me k) C := fun F0 H0 Fb F H σ g o g' S e Dd kn kr kb kc => by
  obtain ⟨d, g1, e1, e2⟩ := bnd_inv e
  exact h F H σ g d g1 S.st e1 _ fun q xs H1 G1 p hH hG hx r => kn _ _ _ _ _ _ (hk d) ((S.step p).setOwn hG hx r (fun mm => gh.there _ _ _ S.st.gi mm hH) (S.po.was hH) (S.notOwn hH) i) e2
theorem eb_asgG {α : Type} {gt : TG} {f : D → Option α} {E : α → Env} {te : TE} {me : M gh.S D} {k : α → M gh.S ω} (h : EvD gh T te ρ me) (hg : EvG gh T gt ρ f E) (hk : ∀ a, C.nx (E a) (k a)) : EvB gh T (tAsg te gt) ρ (bnd me fun d => bnd (lft (f d)) k) C := fun F0 H0 Fb F H σ g o g' S e Dd kn kr kb kc => by
  obtain ⟨d, g1, e1, e2⟩ := bnd_inv e
  obtain ⟨a, g2, e3, e4⟩ := bnd_inv e2
  obtain ⟨e5, rfl⟩ := lft_inv e3
  refine h F H σ g d _ S.st e1 _ fun v H1 G1 p r => ?_
  have S1 := S.step p
  exact hg d a G1 H1 σ _ v S1.st e5 r _ fun σ2 S2 ho => kn _ _ _ _ _ _ (hk a) ⟨S2, S1.po, fun b hb => S1.ow b (ho b hb), S1.fb⟩ e4
theorem eb_par {ta tb : TE} {ma mb : M gh.S D} {k : D → D → M gh.S ω} {i j : Nat} (ha : EvD gh T ta ρ ma) (hb : EvD gh T tb ρ mb) (hk : ∀ x y, C.nx ((ρ.set i (.val x)).set j (.val y)) (k x y)) :
    EvB gh T (tPar i j (tCons ta (tCons tb tNil))) ρ (bnd ma fun x => bnd mb fun y => k x y) C := fun F0 H0 Fb F H σ g o g' S e Dd kn kr kb kc => by
  obtain ⟨x, g1, e1, e2⟩ := bnd_inv e
  obtain ⟨y, g2, e3, e4⟩ := bnd_inv e2
  refine ha F H σ g x g1 S.st e1 _ fun v H1 G1 p r => hb G1 H1 σ g1 y g2 (S.step p).st e3 _ fun u H2 G2 p2 r2 => ?_
  exact ⟨v, u, rfl, kn _ _ _ _ _ _ (hk x y) ((((S.step p).step p2).set (r.ex p2.fg) i).set r2 j) e4⟩
theorem eb_parDN {ta tb : TE} {ma : M gh.S D} {mb : M gh.S (List D)} {k : D → List D → M gh.S ω} {i j : Nat} (ha : EvD gh T ta ρ ma) (hb : EvN gh T tb ρ mb) (hk : ∀ x y, C.nx ((ρ.set i (.val x)).set j (.own (.lst y))) (k x y)) :
    EvB gh T (tPar i j (tCons ta (tCons tb tNil))) ρ (bnd ma fun x => bnd mb fun y => k x y) C := fun F0 H0 Fb F H σ g o g' S e Dd kn kr kb kc => by
  obtain ⟨x, g1, e1, e2⟩ := bnd_inv e
  obtain ⟨y, g2, e3, e4⟩ := bnd_inv e2
  refine ha F H σ g x g1 S.st e1 _ fun v H1 G1 p r => hb G1 H1 σ g1 y g2 (S.step p).st e3 _ fun q xs H2 G2 p2 hH hG hx r2 => ?_
  have S1 := S.step p
  have S2 := (S1.step p2).set (r.ex p2.fg) i
  exact ⟨v, _, rfl, kn _ _ _ _ _ _ (hk x y) (S2.setOwn hG hx r2 (fun mm => gh.there _ _ _ S1.st.gi mm hH) (S1.po.was hH) (fun h => S1.notOwn hH (own_set h)) j) e4⟩
theorem eb_parND {ta tb : TE} {ma : M gh.S (List D)} {mb : M gh.S D} {k : List D → D → M gh.S ω} {i j : Nat} (ha : EvN gh T ta ρ ma) (hb : EvD gh T tb ρ mb) (hij : i ≠ j) (hk : ∀ x y, C.nx ((ρ.set j (.val y)).set i (.own (.lst x))) (k x y)) :
    EvB gh T (tPar i j (tCons ta (tCons tb tNil))) ρ (bnd ma fun x => bnd mb fun y => k x y) C := fun F0 H0 Fb F H σ g o g' S e Dd kn kr kb kc => by
  obtain ⟨x, g1, e1, e2⟩ := bnd_inv e
  obtain ⟨y, g2, e3, e4⟩ := bnd_inv e2
  refine ha F H σ g x g1 S.st e1 _ fun q xs H1 G1 p hH hG hx r => hb G1 H1 σ g1 y g2 (S.step p).st e3 _ fun u H2 G2 p2 r2 => ?_
  have S1 := S.step p
  have S2 := (S1.step p2).set r2 j
  have hM : ¬ gh.M q := fun mm => gh.there _ _ _ S.st.gi mm hH
  have hG2 : G2 q = none := p2.nw q hG (by rw [hx]; exact fun z => nomatch z)
  have S3 := S2.setOwn hG2 (p2.hh _ _ hM hx) (r.ex p2.fg) hM (S.po.was hH) (fun h => S.notOwn hH (own_set h)) i
  rw [List.set_comm _ _ hij.symm] at S3
  exact ⟨_, u, rfl, kn _ _ _ _ _ _ (hk x y) S3 e4⟩
theorem eb_ret {te : TE} {me : M gh.S D} {k : D → M gh.S ω} (h : EvD gh T te ρ me) (hk : ∀ d, C.rt d (k d)) : EvB gh T (tRet te) ρ (bnd me k) C := fun F0 H0 Fb F H σ g o g' S e Dd kn kr kb kc => by
  obtain ⟨d, g1, e1, e2⟩ := bnd_inv e
  exact h F H σ g d g1 S.st e1 _ fun v H1 G1 p r => kr _ _ _ _ _ _ (hk d) (S.step p).po r e2
theorem eb_retN (h : C.rt .non m) : EvB gh T tRetN ρ m C := fun F0 H0 Fb F H σ g o g' S e Dd kn kr kb kc => kr _ _ _ _ _ _ h S.po rfl e
theorem eb_if {tc : TT} {ta tb : TS} {mc : M gh.S Bool} {m1 m2 : M gh.S ω} (hc : EvT gh T tc ρ mc) (h1 : EvB gh T ta ρ m1 C) (h2 : EvB gh T tb ρ m2 C) : EvB gh T (tIfS tc ta tb) ρ (bnd mc fun b => if b then m1 else m2) C := fun F0 H0 Fb F H σ g o g' S e Dd kn kr kb kc => by
  obtain ⟨b, g1, e1, e2⟩ := bnd_inv e
  refine hc F H σ g b g1 S.st e1 _ fun H1 G1 p => ?_
  cases b with
  | true => rw [if_pos rfl] at e2 ⊢; exact h1 F0 H0 Fb G1 H1 σ g1 o g' (S.step p) e2 Dd kn kr kb kc
  | false => rw [if_neg (by decide)] at e2 ⊢; exact h2 F0 H0 Fb G1 H1 σ g1 o g' (S.step p) e2 Dd kn kr kb kc
theorem eb_drop {te : TE} {me : M gh.S D} {k : M gh.S ω} (h : EvD gh T te ρ me) (hk : C.nx ρ k) : EvB gh T (tDrop te) ρ (bnd me fun _ => k) C := fun F0 H0 Fb F H σ g o g' S e Dd kn kr kb kc => by
  obtain ⟨d, g1, e1, e2⟩ := bnd_inv e
  exact h F H σ g d g1 S.st e1 _ fun v H1 G1 p r => kn _ _ _ _ _ _ hk (S.step p) e2
/-! own lists change -/
theorem eb_app {te : TE} {me : M gh.S D} {k : D → M gh.S ω} {i : Nat} {ds : List D} (hi : ρ[i]? = some (.own (.lst ds))) (h : EvD gh T te ρ me) (hk : ∀ d, C.nx (ρ.set i (.own (.lst (ds ++ [d])))) (k d)) :
    EvB gh T (tDrop (tBM T.K "list" rAppend (tVar i) (tCons te tNil))) ρ (bnd me fun d => chk (decide (ds.length < LIM)) (k d)) C := fun F0 H0 Fb F H σ g o g' S e Dd kn kr kb kc => by
  obtain ⟨d, g1, e1, e2⟩ := bnd_inv e
  obtain ⟨hc, e3⟩ := chk_inv e2
  obtain ⟨a, u, hv, h1, h2, h3, xs, rfl, r⟩ := S.st.own hi
  refine ⟨_, hv, .inl ⟨rfl, xs, SqL.of h3⟩, h F H σ g d g1 S.st e1 _ fun v H1 G1 p rv => ⟨a, xs, v, rfl, rfl, p.hh _ _ h2 h3, by rw [r.length, ← LIM_eq]; exact of_decide_eq_true hc, ?_⟩⟩
  exact kn _ _ _ _ _ _ (hk d) ((S.step p).mut hi hv ((r.ex p.fg).append (.cons rv .nil))) e3
theorem eb_extN {te : TE} {me : M gh.S (List D)} {k : List D → M gh.S ω} {i : Nat} {ds : List D} (hi : ρ[i]? = some (.own (.lst ds))) (h : EvN gh T te ρ me) (hk : ∀ es, C.nx (ρ.set i (.own (.lst (ds ++ es)))) (k es)) :
    EvB gh T (tDrop (tBM T.K "list" rExtend (tVar i) (tCons te tNil))) ρ (bnd me fun es => chk (decide (ds.length + es.length ≤ LIM)) (k es)) C := fun F0 H0 Fb F H σ g o g' S e Dd kn kr kb kc => by
  obtain ⟨d, g1, e1, e2⟩ := bnd_inv e
  obtain ⟨hc, e3⟩ := chk_inv e2
  obtain ⟨a, u, hv, h1, h2, h3, xs, rfl, r⟩ := S.st.own hi
  refine ⟨_, hv, .inl ⟨rfl, xs, SqL.of h3⟩, h F H σ g d g1 S.st e1 _ fun q ys H1 G1 p hH hG hx rv => ⟨a, q, xs, ys, rfl, rfl, p.hh _ _ h2 h3, hx, by rw [r.length, rv.length, ← LIM_eq]; exact of_decide_eq_true hc, ?_⟩⟩
  exact kn _ _ _ _ _ _ (hk d) ((S.step p).mut hi hv ((r.ex p.fg).append rv)) e3
def lstOf : D → Option (List D)
  | .lst ds => some ds
  | _ => none
theorem lstOf_inv {d : D} {ds : List D} (h : lstOf d = some ds) : d = .lst ds := by cases d <;> cases h; rfl
theorem eb_extD {te : TE} {me : M gh.S D} {k : List D → M gh.S ω} {i : Nat} {ds : List D} (hi : ρ[i]? = some (.own (.lst ds))) (h : EvD gh T te ρ me) (hk : ∀ es, C.nx (ρ.set i (.own (.lst (ds ++ es)))) (k es)) :
    EvB gh T (tDrop (tBM T.K "list" rExtend (tVar i) (tCons te tNil))) ρ (bnd me fun d => bnd (lft (lstOf d)) fun es => chk (decide (ds.length + es.length ≤ LIM)) (k es)) C := fun F0 H0 Fb F H σ g o g' S e Dd kn kr kb kc => by
  obtain ⟨d, g1, e1, e2⟩ := bnd_inv e
  obtain ⟨es, g2, e3, e4⟩ := bnd_inv e2
  obtain ⟨e5, rfl⟩ := lft_inv e3
  obtain rfl := lstOf_inv e5
  obtain ⟨hc, e6⟩ := chk_inv e4
  obtain ⟨a, u, hv, h1, h2, h3, xs, rfl, r⟩ := S.st.own hi
  refine ⟨_, hv, .inl ⟨rfl, xs, SqL.of h3⟩, h F H σ g _ _ S.st e1 _ fun v H1 G1 p rv => ?_⟩
  obtain ⟨q, ys, rfl, hx, rys⟩ := rv
  refine ⟨a, q, xs, ys, rfl, rfl, p.hh _ _ h2 h3, p.gh' _ _ hx, by rw [r.length, rys.length, ← LIM_eq]; exact of_decide_eq_true hc, ?_⟩
  exact kn _ _ _ _ _ _ (hk es) ((S.step p).mut hi hv ((r.ex p.fg).append rys)) e6
def lastD (ds : List D) : Option D := ds[ds.length - 1]?
/-- x = lst.pop() -/
theorem eb_popA {k : D → M gh.S ω} {i j : Nat} {ds : List D} (hi : ρ[i]? = some (.own (.lst ds))) (hk : ∀ d, C.nx ((ρ.set i (.own (.lst ds.dropLast))).set j (.val d)) (k d)) :
    EvB gh T (tAsg (tBM0 T.K "list" rPop (tVar i)) (gName j)) ρ (bnd (lft (lastD ds)) k) C := fun F0 H0 Fb F H σ g o g' S e Dd kn kr kb kc => by
  obtain ⟨d, g1, e1, e2⟩ := bnd_inv e
  obtain ⟨e3, rfl⟩ := lft_inv e1
  obtain ⟨a, u, hv, h1, h2, h3, xs, rfl, r⟩ := S.st.own hi
  obtain ⟨v, e4, rv⟩ := r.get e3
  refine ⟨_, hv, .inl ⟨rfl, xs, SqL.of h3⟩, a, xs, v, rfl, rfl, h3, by rw [r.length]; exact e4, ?_⟩
  exact kn _ _ _ _ _ _ (hk d) ((S.mut hi hv r.dropLast).set rv j) e2
theorem eb_popG {α : Type} {gt : TG} {f : D → Option α} {E : α → Env} {k : α → M gh.S ω} {i : Nat} {ds : List D} (hi : ρ[i]? = some (.own (.lst ds))) (hg : EvG gh T gt (ρ.set i (.own (.lst ds.dropLast))) f E) (hk : ∀ a, C.nx (E a) (k a)) :
    EvB gh T (tAsg (tBM0 T.K "list" rPop (tVar i)) gt) ρ (bnd (lft (lastD ds)) fun d => bnd (lft (f d)) k) C := fun F0 H0 Fb F H σ g o g' S e Dd kn kr kb kc => by
  obtain ⟨d, g1, e1, e2⟩ := bnd_inv e
  obtain ⟨e3, rfl⟩ := lft_inv e1
  obtain ⟨b, g2, e4, e5⟩ := bnd_inv e2
  obtain ⟨e6, rfl⟩ := lft_inv e4
  obtain ⟨a, u, hv, h1, h2, h3, xs, rfl, r⟩ := S.st.own hi
  obtain ⟨v, e7, rv⟩ := r.get e3
  refine ⟨_, hv, .inl ⟨rfl, xs, SqL.of h3⟩, a, xs, v, rfl, rfl, h3, by rw [r.length]; exact e7, ?_⟩
  have S1 := S.mut hi hv r.dropLast
  exact hg d b F _ σ _ v S1.st e6 rv _ fun σ2 S2 ho => kn _ _ _ _ _ _ (hk b) ⟨S2, S1.po, fun b hb => S1.ow b (ho b hb), S1.fb⟩ e5
end
/-! ### loops -/
inductive Lp (β : Type) where
  | go (b : β) | bk (b : β) | rt (d : D)
def forM {γ β : Type} (k : D → β → M γ (Lp β)) : List D → β → M γ (Lp β)
  | [], b => ret (.go b)
  | d :: ds, b => bnd (k d b) fun r => match r with
    | .go b' => forM k ds b'
    | .bk b' => ret (.go b')
    | .rt d => ret (.rt d)
def forL {γ β : Type} (k : D → β → M γ β) : List D → β → M γ β
  | [], b => ret b
  | d :: ds, b => bnd (k d b) fun b' => forL k ds b'
def whL {γ β : Type} (c : β → M γ Bool) (k : β → M γ β) : Nat → β → M γ β
  | 0, _ => fl
  | n + 1, b => bnd (c b) fun t => if t then bnd (k b) fun b' => whL c k n b' else ret b
def whM {γ β : Type} (c : β → M γ Bool) (k : β → M γ (Lp β)) : Nat → β → M γ (Lp β)
  | 0, _ => fl
  | n + 1, b => bnd (c b) fun t => if t then bnd (k b) fun r => (match r with
    | .go b' => whM c k n b'
    | .bk b' => ret (.go b')
    | .rt d => ret (.rt d)) else ret (.go b)
def lpC {γ β ω : Type} (kk : β → M γ ω) (kr : D → M γ ω) : Lp β → M γ ω
  | .go b => kk b
  | .bk _ => fl
  | .rt d => kr d
section
variable {gh : Gh} {T : Tb} {ω : Type} {ρ : Env} {C : Cont gh.S ω} {tb : TS}
def cLp {β : Type} (gh : Gh) (E : β → Env) : Cont gh.S (Lp β) := ⟨fun ρ' mm => ∃ b, Wk ρ' (E b) ∧ mm = ret (.go b), fun d mm => mm = ret (.rt d), fun ρ' mm => ∃ b, Wk ρ' (E b) ∧ mm = ret (.bk b), fun ρ' mm => ∃ b, Wk ρ' (E b) ∧ mm = ret (.go b)⟩
def cL {β : Type} (gh : Gh) (E : β → Env) : Cont gh.S β := ⟨fun ρ' mm => ∃ b, Wk ρ' (E b) ∧ mm = ret b, fun _ _ => False, fun _ _ => False, fun ρ' mm => ∃ b, Wk ρ' (E b) ∧ mm = ret b⟩
theorem eb_for {α β : Type} {wi : TI} {gt : TG} {f : D → Option α} {Eg : β → α → Env} {mi : M gh.S (List D)} {k : α → β → M gh.S β} {kk : β → M gh.S ω} (E : β → Env) (b0 : β) (hI : EvI gh T false wi ρ mi) (w0 : Wk ρ (E b0)) (hg : ∀ b, EvG gh T gt (E b) f (Eg b))
    (hb : ∀ b a, EvB gh T tb (Eg b a) (k a b) (cL gh E)) (hn : ∀ b, C.nx (E b) (kk b)) :
    EvB gh T (tFor wi gt tb) ρ (bnd mi fun ds => bnd (forL (fun d b => bnd (lft (f d)) fun a => k a b) ds b0) kk) C := fun F0 H0 Fb F H σ g o g' S e Dd kn kr kb kc => by
  obtain ⟨ds, g1, e1, e2⟩ := bnd_inv e
  refine hI F H σ g ds g1 S.st e1 _ fun J Gd Y H1 G1 p1 W hgd hit => ?_
  refine for_it W (fun i σi Hi => ∃ b Fi γi, SB gh T F0 H0 G1 Fi Hi σi (E b) γi ∧ bnd (forL (fun d b => bnd (lft (f d)) fun a => k a b) (ds.drop i) b) kk γi = some (o, g')) ?_ ?_ ?_ ?_
  · exact ⟨b0, G1, g1, ⟨((S.step p1).wk w0).st, ((S.step p1).wk w0).po, ((S.step p1).wk w0).ow, Same.refl _⟩, e2⟩
  · rintro i σi Hi hi ⟨b, Fi, γi, Si, ei⟩
    exact hgd Hi (by unfold Kp; rw [if_neg (by decide)]; exact Si.fb.trans Si.st.ext)
  · rintro i x σi Hi H3 hlt ⟨b, Fi, γi, Si, ei⟩ hy
    obtain ⟨d, hd⟩ : ∃ d, ds[i]? = some d := ⟨_, List.getElem?_eq_getElem hlt⟩
    obtain ⟨G3, gr, rd⟩ := hit i Hi x H3 d Fi hd (hgd Hi (by unfold Kp; rw [if_neg (by decide)]; exact Si.fb.trans Si.st.ext)) hy Si.fb Si.st.ext
    have ei' : bnd (forL (fun d b => bnd (lft (f d)) fun a => k a b) (d :: ds.drop (i + 1)) b) kk γi = some (o, g') := by
      rw [← ei, List.drop_eq_getElem_cons hlt]
      rw [List.getElem?_eq_getElem hlt] at hd
      cases hd; rfl
    obtain ⟨bz, γz, ez, ek⟩ := bnd_inv ei'
    obtain ⟨b2, γ2, e3, e4⟩ := bnd_inv ez
    obtain ⟨a, γ3, e5, e6⟩ := bnd_inv e3
    obtain ⟨e7, rfl⟩ := lft_inv e5
    have S3 := Si.step (gr.post Si.po.gi)
    refine hg b d a G3 H3 σi _ x S3.st e7 rd _ fun σ2 S2 ho => ?_
    refine hb b a F0 H0 G1 G3 H3 σ2 _ b2 γ2 ⟨S2, S3.po, fun b hb => S3.ow b (ho b hb), S3.fb⟩ e6 _ ?_ (fun _ _ _ _ _ _ h => h.elim) (fun _ _ _ _ _ _ h => h.elim) ?_
    · rintro ρ' mm F' H' σ' g5 ⟨b', hw, rfl⟩ S' e'
      obtain ⟨rfl, rfl⟩ := ret_inv e'
      exact ⟨b2, F', γ2, S'.wk hw, by rw [bnd_some e4]; exact ek⟩
    · rintro ρ' mm F' H' σ' g5 ⟨b', hw, rfl⟩ S' e'
      obtain ⟨rfl, rfl⟩ := ret_inv e'
      exact ⟨b2, F', γ2, S'.wk hw, by rw [bnd_some e4]; exact ek⟩
  · rintro σi Hi ⟨b, Fi, γi, Si, ei⟩
    rw [List.drop_length] at ei
    exact kn _ _ _ _ _ _ (hn b) ⟨Si.st, Si.po, Si.ow, (S.fb.trans p1.fg).trans Si.fb⟩ ei
/-- a loop that may end early -/
theorem eb_forM {α β : Type} {wi : TI} {gt : TG} {f : D → Option α} {Eg : β → α → Env} {mi : M gh.S (List D)} {k : α → β → M gh.S (Lp β)} {kk : β → M gh.S ω} {kr : D → M gh.S ω} (E : β → Env) (b0 : β) (hI : EvI gh T false wi ρ mi) (w0 : Wk ρ (E b0)) (hg : ∀ b, EvG gh T gt (E b) f (Eg b))
    (hb : ∀ b a, EvB gh T tb (Eg b a) (k a b) (cLp gh E)) (hn : ∀ b, C.nx (E b) (kk b)) (hr : ∀ d, C.rt d (kr d)) :
    EvB gh T (tFor wi gt tb) ρ (bnd mi fun ds => bnd (forM (fun d b => bnd (lft (f d)) fun a => k a b) ds b0) (lpC kk kr)) C := fun F0 H0 Fb F H σ g o g' S e Dd kn kr' kb kc => by
  obtain ⟨ds, g1, e1, e2⟩ := bnd_inv e
  refine hI F H σ g ds g1 S.st e1 _ fun J Gd Y H1 G1 p1 W hgd hit => ?_
  generalize hkk : (lpC kk kr : Lp β → M gh.S ω) = KK at e2
  refine for_it W (fun i σi Hi => ∃ b Fi γi, SB gh T F0 H0 G1 Fi Hi σi (E b) γi ∧ bnd (forM (fun d b => bnd (lft (f d)) fun a => k a b) (ds.drop i) b) KK γi = some (o, g')) ?_ ?_ ?_ ?_
  · exact ⟨b0, G1, g1, ⟨((S.step p1).wk w0).st, ((S.step p1).wk w0).po, ((S.step p1).wk w0).ow, Same.refl _⟩, e2⟩
  · rintro i σi Hi hi ⟨b, Fi, γi, Si, ei⟩
    exact hgd Hi (by unfold Kp; rw [if_neg (by decide)]; exact Si.fb.trans Si.st.ext)
  · rintro i x σi Hi H3 hlt ⟨b, Fi, γi, Si, ei⟩ hy
    obtain ⟨d, hd⟩ : ∃ d, ds[i]? = some d := ⟨_, List.getElem?_eq_getElem hlt⟩
    obtain ⟨G3, gr, rd⟩ := hit i Hi x H3 d Fi hd (hgd Hi (by unfold Kp; rw [if_neg (by decide)]; exact Si.fb.trans Si.st.ext)) hy Si.fb Si.st.ext
    have ei' : bnd (forM (fun d b => bnd (lft (f d)) fun a => k a b) (d :: ds.drop (i + 1)) b) KK γi = some (o, g') := by
      rw [← ei, List.drop_eq_getElem_cons hlt]
      rw [List.getElem?_eq_getElem hlt] at hd
      cases hd; rfl
    obtain ⟨bz, γz, ez, ek⟩ := bnd_inv ei'
    obtain ⟨b2, γ2, e3, e4⟩ := bnd_inv ez
    obtain ⟨a, γ3, e5, e6⟩ := bnd_inv e3
    obtain ⟨e7, rfl⟩ := lft_inv e5
    have S3 := Si.step (gr.post Si.po.gi)
    refine hg b d a G3 H3 σi _ x S3.st e7 rd _ fun σ2 S2 ho => ?_
    refine hb b a F0 H0 G1 G3 H3 σ2 _ b2 γ2 ⟨S2, S3.po, fun b hb => S3.ow b (ho b hb), S3.fb⟩ e6 _ ?_ ?_ ?_ ?_
    · rintro ρ' mm F' H' σ' g5 ⟨b', hw, rfl⟩ S' e'
      obtain ⟨rfl, rfl⟩ := ret_inv e'
      exact ⟨b', F', γ2, S'.wk hw, by rw [bnd_some e4]; exact ek⟩
    · rintro d' mm v F' H' g5 rfl P' r' e'
      obtain ⟨rfl, rfl⟩ := ret_inv e'
      obtain ⟨rfl, rfl⟩ := ret_inv e4
      subst hkk
      exact kr' d' _ v F' H' _ (hr d') P' r' ek
    · rintro ρ' mm F' H' σ' g5 ⟨b', hw, rfl⟩ S' e'
      obtain ⟨rfl, rfl⟩ := ret_inv e'
      obtain ⟨rfl, rfl⟩ := ret_inv e4
      subst hkk
      have S'' := S'.wk hw
      exact kn _ _ _ _ _ _ (hn b') ⟨S''.st, S''.po, S''.ow, (S.fb.trans p1.fg).trans S''.fb⟩ ek
    · rintro ρ' mm F' H' σ' g5 ⟨b', hw, rfl⟩ S' e'
      obtain ⟨rfl, rfl⟩ := ret_inv e'
      exact ⟨b', F', γ2, S'.wk hw, by rw [bnd_some e4]; exact ek⟩
  · rintro σi Hi ⟨b, Fi, γi, Si, ei⟩
    rw [List.drop_length] at ei
    subst hkk
    exact kn _ _ _ _ _ _ (hn b) ⟨Si.st, Si.po, Si.ow, (S.fb.trans p1.fg).trans Si.fb⟩ ei
theorem eb_while {β : Type} {tc : TT} {mc : β → M gh.S Bool} {k : β → M gh.S β} {kk : β → M gh.S ω} (E : β → Env) (b0 : β) (n : Nat) (w0 : Wk ρ (E b0)) (hc : ∀ b, EvT gh T tc (E b) (mc b)) (hb : ∀ b, EvB gh T tb (E b) (k b) (cL gh E)) (hn : ∀ b, C.nx (E b) (kk b)) :
    EvB gh T (tWhile tc tb) ρ (bnd (whL mc k n b0) kk) C := fun F0 H0 Fb F H σ g o g' S e Dd kn kr kb kc => by
  refine ⟨fun m σi Hi => ∃ b Fi γi, SB gh T F0 H0 Fb Fi Hi σi (E b) γi ∧ bnd (whL mc k m b) kk γi = some (o, g'), ⟨n, b0, F, g, S.wk w0, e⟩, ?_⟩
  rintro m σi Hi ⟨b, Fi, γi, Si, ei⟩
  cases m with
  | zero =>
    obtain ⟨_, _, ez, _⟩ := bnd_inv ei
    cases ez
  | succ m =>
    obtain ⟨bz, γz, ez, ek⟩ := bnd_inv ei
    obtain ⟨t, γ2, e3, e4⟩ := bnd_inv ez
    refine hc b Fi Hi σi γi t γ2 Si.st e3 _ fun H2 G2 p2 => ?_
    have S2 := Si.step p2
    cases t with
    | false =>
      rw [if_neg (by decide)] at e4 ⊢
      obtain ⟨rfl, rfl⟩ := ret_inv e4
      exact kn _ _ _ _ _ _ (hn _) S2 ek
    | true =>
      rw [if_pos rfl] at e4 ⊢
      obtain ⟨b2, γ3, e5, e6⟩ := bnd_inv e4
      refine ⟨fun σ' H' => ∃ b Fi γi, SB gh T F0 H0 Fb Fi H' σ' (E b) γi ∧ bnd (whL mc k m b) kk γi = some (o, g'), fun σ' H' h => ⟨m, Nat.lt_succ_self m, h⟩, ?_⟩
      refine hb b F0 H0 Fb G2 H2 σi γ2 b2 γ3 S2 e5 _ ?_ (fun _ _ _ _ _ _ h => h.elim) (fun _ _ _ _ _ _ h => h.elim) ?_
      · rintro ρ' mm F' H' σ' g5 ⟨b', hw, rfl⟩ S' e'
        obtain ⟨rfl, rfl⟩ := ret_inv e'
        exact ⟨b2, F', γ3, S'.wk hw, by rw [bnd_some e6]; exact ek⟩
      · rintro ρ' mm F' H' σ' g5 ⟨b', hw, rfl⟩ S' e'
        obtain ⟨rfl, rfl⟩ := ret_inv e'
        exact ⟨b2, F', γ3, S'.wk hw, by rw [bnd_some e6]; exact ek⟩
theorem eb_whileM {β : Type} {tc : TT} {mc : β → M gh.S Bool} {k : β → M gh.S (Lp β)} {kk : β → M gh.S ω} {kr : D → M gh.S ω} (E : β → Env) (b0 : β) (n : Nat) (w0 : Wk ρ (E b0)) (hc : ∀ b, EvT gh T tc (E b) (mc b)) (hb : ∀ b, EvB gh T tb (E b) (k b) (cLp gh E)) (hn : ∀ b, C.nx (E b) (kk b)) (hr : ∀ d, C.rt d (kr d)) :
    EvB gh T (tWhile tc tb) ρ (bnd (whM mc k n b0) (lpC kk kr)) C := fun F0 H0 Fb F H σ g o g' S e Dd kn kr' kb kc => by
  generalize hkk : (lpC kk kr : Lp β → M gh.S ω) = KK at e
  refine ⟨fun m σi Hi => ∃ b Fi γi, SB gh T F0 H0 Fb Fi Hi σi (E b) γi ∧ bnd (whM mc k m b) KK γi = some (o, g'), ⟨n, b0, F, g, S.wk w0, e⟩, ?_⟩
  rintro m σi Hi ⟨b, Fi, γi, Si, ei⟩
  cases m with
  | zero =>
    obtain ⟨_, _, ez, _⟩ := bnd_inv ei
    cases ez
  | succ m =>
    obtain ⟨bz, γz, ez, ek⟩ := bnd_inv ei
    obtain ⟨t, γ2, e3, e4⟩ := bnd_inv ez
    refine hc b Fi Hi σi γi t γ2 Si.st e3 _ fun H2 G2 p2 => ?_
    have S2 := Si.step p2
    cases t with
    | false =>
      rw [if_neg (by decide)] at e4 ⊢
      obtain ⟨rfl, rfl⟩ := ret_inv e4
      subst hkk
      exact kn _ _ _ _ _ _ (hn _) S2 ek
    | true =>
      rw [if_pos rfl] at e4 ⊢
      obtain ⟨b2, γ3, e5, e6⟩ := bnd_inv e4
      refine ⟨fun σ' H' => ∃ b Fi γi, SB gh T F0 H0 Fb Fi H' σ' (E b) γi ∧ bnd (whM mc k m b) KK γi = some (o, g'), fun σ' H' h => ⟨m, Nat.lt_succ_self m, h⟩, ?_⟩
      refine hb b F0 H0 Fb G2 H2 σi γ2 b2 γ3 S2 e5 _ ?_ ?_ ?_ ?_
      · rintro ρ' mm F' H' σ' g5 ⟨b', hw, rfl⟩ S' e'
        obtain ⟨rfl, rfl⟩ := ret_inv e'
        exact ⟨b', F', γ3, S'.wk hw, by rw [bnd_some e6]; exact ek⟩
      · rintro d' mm v F' H' g5 rfl P' r' e'
        obtain ⟨rfl, rfl⟩ := ret_inv e'
        obtain ⟨rfl, rfl⟩ := ret_inv e6
        subst hkk
        exact kr' d' _ v F' H' _ (hr d') P' r' ek
      · rintro ρ' mm F' H' σ' g5 ⟨b', hw, rfl⟩ S' e'
        obtain ⟨rfl, rfl⟩ := ret_inv e'
        obtain ⟨rfl, rfl⟩ := ret_inv e6
        subst hkk
        exact kn _ _ _ _ _ _ (hn b') (S'.wk hw) ek
      · rintro ρ' mm F' H' σ' g5 ⟨b', hw, rfl⟩ S' e'
        obtain ⟨rfl, rfl⟩ := ret_inv e'
        exact ⟨b', F', γ3, S'.wk hw, by rw [bnd_some e6]; exact ek⟩
end
/-! ### functions -/
def cFn (gh : Gh) : Cont gh.S D := ⟨fun _ mm => mm = ret .non, fun d mm => mm = ret d, fun _ _ => False, fun _ _ => False⟩
theorem eb_retf {gh : Gh} {T : Tb} {ρ : Env} {te : TE} {me : M gh.S D} (h : EvD gh T te ρ me) : EvB gh T (tRet te) ρ me (cFn gh) :=  fun F0 H0 Fb F H σ g o g' S e Dd kn kr kb kc =>
  h F H σ g o g' S.st e _ fun v H1 G1 p r => kr o (ret o) _ _ _ _ rfl (S.step p).po r rfl
def A0 {γ : Type} (f : M γ D) : List D → M γ D
  | [] => f
  | _ => fl
def A1 {γ : Type} (f : D → M γ D) : List D → M γ D
  | [a] => f a
  | _ => fl
def A2 {γ : Type} (f : D → D → M γ D) : List D → M γ D
  | [a, b] => f a b
  | _ => fl
def A3 {γ : Type} (f : D → D → D → M γ D) : List D → M γ D
  | [a, b, c] => f a b c
  | _ => fl
def A4 {γ : Type} (f : D → D → D → D → M γ D) : List D → M γ D
  | [a, b, c, d] => f a b c d
  | _ => fl
def A5 {γ : Type} (f : D → D → D → D → D → M γ D) : List D → M γ D
  | [a, b, c, d, e] => f a b c d e
  | _ => fl
theorem spD_run {gh : Gh} {T : Tb} {N : List Str} {n : Nat} {f : List D → M gh.S D} {t : TS} (hN : n ≤ N.length) (h : ∀ ds : List D, ds.length = n → EvB gh T t (ds.map Cell.val ++ List.replicate (N.length - n) Cell.no) (f ds) (cFn gh))
    {vs : List V} {H : Hp} {Q : VK} {E : XK} (hs : spD gh T n f vs H Q E) : t { nx := fun _ H' => Q .non H', rt := Q } (L2.start N vs) H := by
  obtain ⟨F, g, ds, d, g', ex, mf, gi, r, hl, e, k⟩ := hs
  have lv : vs.length = n := by rw [r.length, hl]
  have S : Stt gh T F H (L2.start N vs) (ds.map Cell.val ++ List.replicate (N.length - n) Cell.no) g := by
    refine ⟨ex, mf, gi, by unfold L2.start; simp [lv, hl], fun i c hc => ?_, fun i j a m m' h1 h2 h3 h4 => ?_⟩
    · unfold L2.start
      by_cases hi : i < n
      · rw [List.getElem?_append_left (by simp [hl]; exact hi), List.getElem?_map] at hc
        rw [List.getElem?_append_left (by simp [lv]; exact hi), List.getElem?_map]
        cases hd : ds[i]? with
        | none => rw [hd] at hc; cases hc
        | some d =>
          rw [hd] at hc; cases hc
          obtain ⟨v, ev, rv⟩ := r.get hd
          rw [ev]
          exact ⟨_, rfl, v, rfl, rv⟩
      · rw [List.getElem?_append_right (by simp [hl]; omega), List.getElem?_replicate] at hc
        rw [List.getElem?_append_right (by simp [lv]; omega), List.getElem?_replicate]
        simp only [List.length_map, hl, lv] at hc ⊢
        split at hc
        · rename_i hz
          cases hc
          rw [if_pos hz]
          exact ⟨_, rfl, trivial⟩
        · cases hc
    · exfalso
      by_cases hi : i < n
      · rw [List.getElem?_append_left (by simp [hl]; exact hi), List.getElem?_map] at h1
        cases hd : ds[i]? with
        | none => rw [hd] at h1; cases h1
        | some d => rw [hd] at h1; cases h1
      · rw [List.getElem?_append_right (by simp [hl]; omega), List.getElem?_replicate] at h1
        split at h1 <;> cases h1
  have no : ∀ a, ¬ Own (L2.start N vs) (ds.map Cell.val ++ List.replicate (N.length - n) Cell.no) a := fun a ⟨i, m, h1, h2⟩ => by
    by_cases hi : i < n
    · rw [List.getElem?_append_left (by simp [hl]; exact hi), List.getElem?_map] at h1
      cases hd : ds[i]? with
      | none => rw [hd] at h1; cases h1
      | some d => rw [hd] at h1; cases h1
    · rw [List.getElem?_append_right (by simp [hl]; omega), List.getElem?_replicate] at h1
      split at h1 <;> cases h1
  refine h ds hl F H F F H _ g d g' ⟨S, .refl S, fun a ha => absurd ha (no a), Same.refl _⟩ e _ ?_ ?_ (fun _ _ _ _ _ _ h => h.elim) (fun _ _ _ _ _ _ h => h.elim)
  · rintro ρ' mm F' H' σ' g1 rfl S' e'
    obtain ⟨rfl, rfl⟩ := ret_inv e'
    exact k _ H' F' S'.po rfl
  · rintro d' mm v F' H' g1 rfl P r' e'
    obtain ⟨rfl, rfl⟩ := ret_inv e'
    exact k v H' F' P r'
end Py

set_option Elab.async false
set_option linter.all false
set_option maxRecDepth 100000
set_option maxHeartbeats 4000000
namespace Py
open PySem L2
/-! ### names of the world -/
theorem bt_len : bootBuiltins "len" = some (.builtin "len") := PySem.boot_len
theorem bt_isinstance : bootBuiltins "isinstance" = some (.builtin "isinstance") := by decide +kernel
theorem bt_ord : bootBuiltins "ord" = some (.builtin "ord") := by decide +kernel
theorem bt_abs : bootBuiltins "abs" = some (.builtin "abs") := by decide +kernel
theorem bt_sum : bootBuiltins "sum" = some (.builtin "sum") := by decide +kernel
theorem bt_max : bootBuiltins "max" = some (.builtin "max") := by decide +kernel
theorem bt_min : bootBuiltins "min" = some (.builtin "min") := by decide +kernel
theorem bt_sorted : bootBuiltins "sorted" = some (.builtin "sorted") := by decide +kernel
theorem bt_int : bootBuiltins "int" = some (.type "int") := by decide +kernel
theorem bt_str : bootBuiltins "str" = some (.type "str") := by decide +kernel
theorem bt_bool : bootBuiltins "bool" = some (.type "bool") := by decide +kernel
theorem bt_tuple : bootBuiltins "tuple" = some (.type "tuple") := by decide +kernel
theorem bt_list : bootBuiltins "list" = some (.type "list") := by decide +kernel
theorem bt_dict : bootBuiltins "dict" = some (.type "dict") := by decide +kernel
theorem bt_set : bootBuiltins "set" = some (.type "set") := by decide +kernel
theorem bt_zip : bootBuiltins "zip" = some (.type "zip") := by decide +kernel
theorem bt_enumerate : bootBuiltins "enumerate" = some (.type "enumerate") := by decide +kernel
theorem bt_range : bootBuiltins "range" = some (.type "range") := by decide +kernel
theorem hu64 {k : Nat} {A : Around} (r : Room k A) : A.units + 64 < cLine := by have := r.un; omega
theorem hu65 {k : Nat} {A : Around} (r : Room k A) : A.units + 65 < cLine := by have := r.un; omega
theorem pe_gc {X : Cx} {x : Str} {pos : Pos} {v : V} (hg : Gl X x) (h : ∃ u, X.mg x = some u ∧ RelV v u) (hd : (x == ("__debug__" : Str)) = false := by decide) : PE X (.Name x pos) (tC v) := by
  obtain ⟨u, hm, r⟩ := h
  exact pe_glob hg hm r hd
/-- a def of the module, by its promise -/
structure GF (P : Program) (w : World) (K : PySem.W.Frag) (mg : Str → Option Value) (base : Heap) (gh : Gh) (T : Tb) (x : Str) (k : Nat) (ps : List Str) (f : List D → M gh.S D) : Prop where
  ex : ∃ fa fd, mg x = some (.ref fa) ∧ PySem.W.keepIn K (.ref fa) = true ∧ Binds K fd ps [] ∧ FnOk P w K mg base CX0 k fa fd ps (spD gh T ps.length f)
section
variable {X : Cx} {gh : Gh} {T : Tb} {k : Nat} {x : Str} {p pos : Pos} {e : Expr} {es : List Expr} {t : TA} {ps : List Str} {f : List D → M gh.S D}
theorem pe_gf {j : Nat} (F : GF X.prog X.w X.K X.mg X.base gh T x k ps f) (hr : Room j X.A) (hk : k ≤ j) (hg : Gl X x) (ha : PA X (e :: es) t) (hdb : (x == ("__debug__" : Str)) = false := by decide) (he : starEach (e :: es) X.env = (false, eval e X.env) :: starEach es X.env := by rfl) (hpl : (backTo pos (starEach es X.env)).any (·.1) = false := by rfl) :
    PE X (.Call (.Name x p) (e :: es) [] pos) (tCall (spD gh T ps.length f) [] E0 t) := by
  obtain ⟨fa, fd, hm, kp, hb, F⟩ := F.ex
  exact pe_call F (hr.mono hk) hg hm kp hb .nil pass0 ha hdb he hpl
theorem pe_gf0 {j : Nat} (F : GF X.prog X.w X.K X.mg X.base gh T x k ps f) (hr : Room j X.A) (hk : k ≤ j) (hg : Gl X x) (hdb : (x == ("__debug__" : Str)) = false := by decide) :
    PE X (.Call (.Name x p) [] [] pos) (tCall (spD gh T ps.length f) [] E0 tNil) := by
  obtain ⟨fa, fd, hm, kp, hb, F⟩ := F.ex
  exact pe_call0 F (hr.mono hk) hg hm kp hb .nil pass0 hdb
end
section
variable {gh : Gh} {T : Tb} {ρ : Env} {E : XK}
theorem ec_0 {f : M gh.S D} : EvD gh T (tCall (spD gh T 0 (A0 f)) [] E tNil) ρ f := ev_call0 (f := A0 f)
theorem ec_1 {f : D → M gh.S D} {t1 : TE} {m1 : M gh.S D} (h1 : EvD gh T t1 ρ m1) : EvD gh T (tCall (spD gh T 1 (A1 f)) [] E (tCons t1 tNil)) ρ (bnd m1 fun x => f x) := ev_call1 (f := A1 f) h1
theorem ec_2 {f : D → D → M gh.S D} {t1 t2 : TE} {m1 m2 : M gh.S D} (h1 : EvD gh T t1 ρ m1) (h2 : EvD gh T t2 ρ m2) : EvD gh T (tCall (spD gh T 2 (A2 f)) [] E (tCons t1 (tCons t2 tNil))) ρ (bnd m1 fun x => bnd m2 fun y => f x y) := ev_call2 (f := A2 f) h1 h2
theorem ec_3 {f : D → D → D → M gh.S D} {t1 t2 t3 : TE} {m1 m2 m3 : M gh.S D} (h1 : EvD gh T t1 ρ m1) (h2 : EvD gh T t2 ρ m2) (h3 : EvD gh T t3 ρ m3) : EvD gh T (tCall (spD gh T 3 (A3 f)) [] E (tCons t1 (tCons t2 (tCons t3 tNil)))) ρ (bnd m1 fun x => bnd m2 fun y => bnd m3 fun z => f x y z) := ev_call3 (f := A3 f) h1 h2 h3
theorem ec_4 {f : D → D → D → D → M gh.S D} {t1 t2 t3 t4 : TE} {m1 m2 m3 m4 : M gh.S D} (h1 : EvD gh T t1 ρ m1) (h2 : EvD gh T t2 ρ m2) (h3 : EvD gh T t3 ρ m3) (h4 : EvD gh T t4 ρ m4) : EvD gh T (tCall (spD gh T 4 (A4 f)) [] E (tCons t1 (tCons t2 (tCons t3 (tCons t4 tNil))))) ρ (bnd m1 fun x => bnd m2 fun y => bnd m3 fun z => bnd m4 fun u => f x y z u) := ev_call4 (f := A4 f) h1 h2 h3 h4
/-- the knowledge written otherwise -/
theorem eb_at {ω : Type} {t : TS} {m : M gh.S ω} {C : Cont gh.S ω} (ρ' : Env) (h : EvB gh T t ρ' m C) (e : ρ = ρ' := by rfl) : EvB gh T t ρ m C := e ▸ h
/-! ### more operations -/
def negD (d : D) : Option D := (asI d).map fun i => .int (-i)
theorem okNeg : UnOk T (rU fun i => .int (-i)) negD := fun F H x z v e r ex Q k => by
  obtain ⟨i, e1, rfl⟩ := map_inv e
  obtain rfl := asI_inv e1
  cases r
  exact ⟨_, rfl, k _ H F (.refl ex) rfl⟩
/-- .. of an own list, the answer no reference -/
def sclD : D → Option D
  | .non => some .non
  | .bl b => some (.bl b)
  | .int i => some (.int i)
  | .str x => some (.str x)
  | _ => none
theorem Stt.frz {F H : Hp} {σ : L2.St} {g : gh.S} {i : Nat} {ds : List D} (S : Stt gh T F H σ ρ g) (hi : ρ[i]? = some (.own (.lst ds))) : ∃ F', Ex F F' ∧ Stt gh T F' H σ (ρ.set i (.val (.lst ds))) g := by
  have S0 : SB gh T F F F F H σ ρ g := by
    refine ⟨S, ⟨Same.refl _, S.ext, fun a o m q => S.ext a o q, fun a h _ => h, S.gi⟩, fun a ⟨i, m, h1, h2⟩ => ?_, Same.refl _⟩
    obtain ⟨b, u, e1, e2, e3, e4, _⟩ := S.own h1
    rw [h2] at e1; cases e1
    exact e2
  obtain ⟨F', S'⟩ := S0.frz hi
  exact ⟨F', S'.fb, S'.st⟩
theorem et_borrow {t : TT} {m : M gh.S Bool} {i : Nat} {ds : List D} (hi : ρ[i]? = some (.own (.lst ds))) (h : EvT gh T t (ρ.set i (.val (.lst ds))) m) : EvT gh T t ρ m := fun F H σ g b g' S e Q k => by
  obtain ⟨F', ex, S'⟩ := S.frz hi
  exact h F' H σ g b g' S' e Q fun H' G p => k H' F ⟨Same.refl _, ex.trans (p.fg.trans p.gh'), p.hh, fun a h _ => h, p.gi⟩
theorem scl_rp {F F' : Hp} {d z : D} {v : V} (h : sclD d = some z) (r : Rp T F d v) : z = d ∧ Rp T F' d v := by
  cases d <;> cases h <;> exact ⟨rfl, r⟩
theorem ev_borrow {te : TE} {m : M gh.S D} {i : Nat} {ds : List D} (hi : ρ[i]? = some (.own (.lst ds))) (h : EvD gh T te (ρ.set i (.val (.lst ds))) m) : EvD gh T te ρ (bnd m fun d => lft (sclD d)) := fun F H σ g b g' S e Q k => by
  obtain ⟨d, g1, e1, e2⟩ := bnd_inv e
  obtain ⟨e3, rfl⟩ := lft_inv e2
  obtain ⟨F', ex, S'⟩ := S.frz hi
  refine h F' H σ g d _ S' e1 Q fun v H' G p r => ?_
  obtain ⟨rfl, r'⟩ := scl_rp (F' := F) e3 r
  exact k v H' F ⟨Same.refl _, ex.trans (p.fg.trans p.gh'), p.hh, fun a h _ => h, p.gi⟩ r'
/-- tuple(an own list) -/
theorem ev_tupo {i : Nat} {ds : List D} (hi : ρ[i]? = some (.own (.lst ds))) : EvD gh T (tCB (rTupA T.K) (tCons (tVar i) tNil)) ρ (ret (.tup ds)) := fun F H σ g d g' S e Q k => by
  obtain ⟨rfl, rfl⟩ := ret_inv e
  obtain ⟨a, u, hv, h1, h2, h3, xs, rfl, r⟩ := S.own hi
  refine ⟨_, hv, a, xs, rfl, .inl ⟨SqL.of h3, fun l hl => ?_⟩⟩
  have gr : Gr F H (upd F l (.tup xs)) (upd H l (.tup xs)) := .new S.ext hl
  exact k _ _ _ (gr.post S.gi) ⟨l, xs, rfl, SqT.of upd_same, r.ex gr.fg⟩
/-- two lists' items in a new list -/
theorem eb_retd {te : TE} {me : M gh.S D} {C : Cont gh.S D} (h : EvD gh T te ρ me) (hr : ∀ d, C.rt d (ret d)) : EvB gh T (tRet te) ρ me C := fun F0 H0 Fb F H σ g o g' S e Dd kn kr kb kc =>
  h F H σ g o g' S.st e _ fun v H1 G1 p r => kr o (ret o) _ _ _ _ (hr o) (S.step p).po r rfl
def FUEL : Nat := 1000000000
def catQ (p q : Bool × List D) : Option (List D) := if p.1 = true ∧ q.1 = true ∧ p.2.length + q.2.length ≤ LIM then some (p.2 ++ q.2) else none
theorem en_cat {ta tb : TE} {m1 m2 : M gh.S (Bool × List D)} (h1 : EvQ gh T ta ρ m1) (h2 : EvQ gh T tb ρ m2) : EvN gh T (tOp (rAddA T.K) ta tb) ρ (bnd m1 fun p => bnd m2 fun q => lft (catQ p q)) := fun F H σ g ds g' S e Q k => by
  obtain ⟨⟨b1, d1⟩, g1, e1, e2⟩ := bnd_inv e
  obtain ⟨⟨b2, d2⟩, g2, e3, e4⟩ := bnd_inv e2
  obtain ⟨e5, rfl⟩ := lft_inv e4
  obtain ⟨⟨hb1, hb2, hl⟩, rfl⟩ := gd e5
  have hb1 : b1 = true := hb1
  have hb2 : b2 = true := hb2
  subst hb1 hb2
  have hl : d1.length + d2.length ≤ LIM := hl
  refine h1 F H σ g true d1 g1 S e1 _ fun a xs H1 G1 p1 q1 r1 => h2 G1 H1 σ g1 true d2 _ (S.step p1) e3 _ fun b ys H2 G2 p2 q2 r2 => ?_
  have ha : H2 a = some (.lst xs) := q1 H2 fun x o m z => p2.hh x o m z
  have hb : H2 b = some (.lst ys) := q2 H2 fun x o m z => z
  refine .inr (.inr (.inr ⟨a, b, xs, ys, rfl, rfl, ha, hb, by rw [r1.length, r2.length, ← LIM_eq]; exact hl, fun p hp => ?_⟩))
  have P := p1.then p2
  exact k p (xs ++ ys) _ G2 (P.lay hp) (P.was hp) (P.gh'.free hp) upd_same ((r1.ex p2.fg).append r2)
end
/-! ### products -/
abbrev rMulA : R2 := fun x y H Q => rI CMulW (fun i j => .int (i * j)) x y H Q ∨ rMulS x y H Q
end Py
namespace Py
open PySem L2
def mulA (x y : D) : Option D := match onI mulI x y with
  | some z => some z
  | none => mulD' x y
theorem opMul {X : Cx} : OpR X (binaryOp .Mult) rMulA := op_mulW.or opMulS
theorem okMul {T : Tb} : OpOk T rMulA mulA := fun F H x y z v u e r1 r2 ex Q k => by
  unfold mulA at e
  cases q : onI mulI x y with
  | some w =>
    rw [q] at e; cases e
    exact .inl (okI (fun i j k e => by
      unfold mulI at e
      obtain ⟨h, rfl⟩ := gd e
      exact ⟨h, rfl⟩) F H x y z v u q r1 r2 ex Q k)
  | none =>
    rw [q] at e
    exact .inr (okMulS F H x y z v u e r1 r2 ex Q k)
theorem spD_len {gh : Gh} {T : Tb} {n : Nat} {f : List D → M gh.S D} : ∀ vs H Q (E : XK), spD gh T n f vs H Q E → vs.length = n := fun vs H Q E ⟨F, g, ds, d, g', _, _, _, r, hl, _⟩ => by rw [r.length, hl]
abbrev tb (K : PySem.W.Frag) (cl pt : Nat → Option Addr) : Tb := ⟨K, cl, pt⟩
end Py

set_option Elab.async false
set_option linter.all false
set_option maxRecDepth 100000
set_option maxHeartbeats 4000000
namespace Py
open PySem L2
section
variable {gh : Gh} {T : Tb} {ρ : Env} {E : XK} {te ta tb tc : TE} {m m1 m2 m3 : M gh.S D}
def isi3 (n n' n'' : Bt) (d : D) : Option Bool := match isiB n d, isiB n' d, isiB n'' d with
  | some a, some b, some c => some (a || b || c)
  | _, _, _ => none
theorem ev_isi3 {n n' n'' : Bt} (h : EvD gh T te ρ m) : EvD gh T (tCB (rIsiT T.K) (tCons te (tCons (tTup (tCons (tC (.ty n.nm)) (tCons (tC (.ty n'.nm)) (tCons (tC (.ty n''.nm)) tNil)))) tNil))) ρ (bnd m fun d => lft ((isi3 n n' n'' d).map .bl)) := fun F H σ g d' g' S e Q k => by
  obtain ⟨d, g1, e1, ea⟩ := bnd_inv e
  obtain ⟨e2, hg⟩ := lft_inv ea
  subst hg
  obtain ⟨b, e3, rfl⟩ := map_inv e2
  refine h F H σ g d _ S e1 _ fun v H1 G1 p1 r1 => ⟨by show 3 ≤ sizeLine; decide, fun p hp => ?_⟩
  unfold isi3 at e3
  cases q1 : isiB n d with
  | none => rw [q1] at e3; simp at e3
  | some a1 =>
    cases q2 : isiB n' d with
    | none => rw [q1, q2] at e3; simp at e3
    | some a2 =>
      cases q3 : isiB n'' d with
      | none => rw [q1, q2, q3] at e3; simp at e3
      | some a3 =>
        rw [q1, q2, q3] at e3
        simp at e3
        obtain ⟨t, h1, h2⟩ := kit_isi q1
        obtain ⟨t', h1', h2'⟩ := kit_isi q2
        obtain ⟨t'', h1'', h2''⟩ := kit_isi q3
        rw [h1] at h1' h1''; cases h1'; cases h1''
        have gr := Gr.new (o := .tup [.ty n.nm, .ty n'.nm, .ty n''.nm]) p1.gh' hp
        refine ⟨v, p, [.ty n.nm, .ty n'.nm, .ty n''.nm], .type t, [.type n.nm, .type n'.nm, .type n''.nm], b, rfl, upd_same, .cons (.ty _) (.cons (.ty _) (.cons (.ty _) .nil)), ty_of h1 (r1.ex gr.fg) gr.gh', ?_, ?_⟩
        · refine kitAny_cons (kit_ty h2) (fun q => kitAny_cons (kit_ty h2') (fun q' => kitAny_cons (kit_ty h2'') (fun q'' => ?_) fun q'' => ?_) fun q' => ?_) fun q => ?_
          · subst q q' q''; subst e3; exact kitAny_nil
          · subst q q' q''; subst e3; rfl
          · subst q q'; subst e3; rfl
          · subst q; subst e3; rfl
        · exact k _ _ _ (p1.trans S.gi (gr.post p1.gi)) rfl
end
end Py

set_option Elab.async false
set_option linter.all false
set_option maxRecDepth 100000
set_option maxHeartbeats 4000000
/-! list(zip(v1, v2)) over lists, tuples, texts: after KE/KDictItemsList and KE/KDictZip -/
namespace PySem.W
open PySem PySem.Calls PyProof.Rows PyProof.V PySem.Spec
theorem zip_no_len : typeLookup (.type "zip") "__len__" = pure none := by rw [typeLookup_type, builtinLookup_eq_fast]; kernel_rfl
theorem zip_no_hint : typeLookup (.type "zip") "__length_hint__" = pure none := by rw [typeLookup_type, builtinLookup_eq_fast]; kernel_rfl
section
variable {prog : Program} {w : World} {A : Around} {E : Value → Shared → Prop} {s : Shared} {z TI TO T i1 i2 : Addr} {fp1 fp2 : List Addr} {n1 n2 i : Nat} {P1 P2 : Nat → Value → Prop} {St1 St2 : Nat → Heap → Prop} {f : Bool} {oT : Obj}
theorem zipD2_next_item_held {Q : Value → Shared → Prop} (S : ZipSep2 z TI TO i1 i2 fp1 fp2) (D1 : Draws prog w A i1 fp1 n1 P1 St1) (D2 : Draws prog w A i2 fp2 n2 P2 St2)
    (hz : IsZipHeld s.heap z TI TO T f) (hT : s.heap.get? T = some oT) (hTI : IsTupOf2 s.heap TI (.ref i1) (.ref i2)) (st1 : St1 i s.heap) (st2 : St2 i s.heap) (hlt1 : i < n1) (hlt2 : i < n2)
    (hQ : ∀ x1 x2 h' tk, P1 i x1 → P2 i x2 → IsZipHeld h' z TI TO T true → St1 (i + 1) h' → St2 (i + 1) h' → IsTupOf2 h' s.heap.objs.size x1 x2 → h'.objs.size = s.heap.objs.size + 1 →
      (∀ c o, c ≠ z → c ≠ i1 → c ≠ i2 → s.heap.get? c = some o → h'.get? c = some o) → Q (.ref s.heap.objs.size) { s with heap := h', toks := tk }) :
    wpAny (model prog w) A (Builtin.«zip.__next__» ⟨[.ref z], []⟩) (fun fin s' => ∃ v, fin = .done (.ret v) ∧ Q v s') E s := by
  show wpAny _ _ (field (.ref z) 2 >>= _) _ _ _
  refine wpAny_bind (wpAny_field hz rfl (x := .bool false) rfl ?_)
  show wpAny _ _ (field (.ref z) 3 >>= _) _ _ _
  refine wpAny_bind (wpAny_field hz rfl (x := .ref TI) rfl ?_)
  refine wpAny_bind (wpAny_seqItems hTI rfl ?_)
  show wpAny _ _ (Builtin.SmallTypes.ownedTupleIsFree (.ref z) >>= _) _ _ _
  refine wpAny_bind (wpAny_tupleHeld_zip hz hT fun h₁ hz₁ hs₁ => ?_)
  simp only [Bool.false_eq_true, if_false]
  refine wpAny_bind ?_
  rw [← Array.forIn_toList]
  simp only [List.forIn_cons, List.forIn_nil]
  refine wpAny_bind (wpAny_bind (wpAny_holding ?_))
  show wpAny _ _ (Builtin.SmallTypes.nextOf (.ref i1) >>= _) _ _ _
  refine wpAny_bind (D1.item i _ _ _ hlt1 (D1.over st1 hs₁ S.zf1) fun x1 h₂ tk1 hx1 sn1 hs₂ => wpAny_pure ?_)
  replace hs₂ : Heap.SameBut i1 h₁ h₂ := hs₂
  refine wpAny_pure ?_
  refine wpAny_bind (wpAny_bind (wpAny_holding ?_))
  show wpAny _ _ (Builtin.SmallTypes.nextOf (.ref i2) >>= _) _ _ _
  refine wpAny_bind (D2.item i _ _ _ hlt2 (D2.over (D2.over st2 hs₁ S.zf2) hs₂ S.sep1_2) fun x2 h₃ tk2 hx2 sn2 hs₃ => wpAny_pure ?_)
  replace hs₃ : Heap.SameBut i2 h₂ h₃ := hs₃
  refine wpAny_pure (wpAny_pure ?_)
  show wpAny _ _ (newTuple [x1, x2] >>= _) _ _ _
  refine wpAny_bind (wpAny_newTuple ?_)
  have hsz : h₃.objs.size = s.heap.objs.size := by rw [hs₃.1, hs₂.1, hs₁.1]
  have hz₃ : IsZipHeld h₃ z TI TO T true := hs₃.extBut _ _ S.zi2 (hs₂.extBut _ _ S.zi1 hz₁)
  have hk : ∀ c o, c ≠ z → c ≠ i1 → c ≠ i2 → s.heap.get? c = some o → h₃.get? c = some o := fun c o c1 c2 c3 e => hs₃.extBut _ _ c3 (hs₂.extBut _ _ c2 (hs₁.extBut _ _ c1 e))
  have h1₃ : St1 (i + 1) h₃ := D1.over sn1 hs₃ S.sep2_1
  refine wpAny_pure ⟨_, rfl, ?_⟩
  show Q (.ref h₃.objs.size) _
  have hp : IsTupOf2 (h₃.push { cls := .type "tuple", data := .seq #[x1, x2] }) h₃.objs.size x1 x2 := Heap.get?_push_size _ rfl
  have hz4 : (h₃.push { cls := .type "tuple", data := .seq #[x1, x2] }).objs.size = h₃.objs.size + 1 := Heap.size_push ..
  rw [hsz] at hp hz4 ⊢
  exact hQ x1 x2 _ _ hx1 hx2 (Heap.get?_push_of_some _ hz₃) (D1.frame _ _ _ h1₃ fun b _ o e => Heap.get?_push_of_some _ e) (D2.frame _ _ _ sn2 fun b _ o e => Heap.get?_push_of_some _ e) hp hz4 fun c o c1 c2 c3 e => Heap.get?_push_of_some _ (hk c o c1 c2 c3 e)
theorem zipD2_next_end_held {Q : Fin → Shared → Prop} (S : ZipSep2 z TI TO i1 i2 fp1 fp2) (D1 : Draws prog w A i1 fp1 n1 P1 St1) (D2 : Draws prog w A i2 fp2 n2 P2 St2)
    (hz : IsZipHeld s.heap z TI TO T f) (hT : s.heap.get? T = some oT) (hTI : IsTupOf2 s.heap TI (.ref i1) (.ref i2)) (st1 : St1 i s.heap) (st2 : St2 i s.heap) (hle1 : i ≤ n1) (hle2 : i ≤ n2) (hend : i = n1 ∨ i = n2)
    (hE : ∀ h' tk e, (∀ c o, c ≠ z → c ≠ i1 → c ≠ i2 → s.heap.get? c = some o → h'.get? c = some o) → (∃ o, h'.get? e = some o ∧ o.cls = .type "StopIteration") → E (.ref e) { s with heap := h', toks := tk }) :
    wpAny (model prog w) A (Builtin.«zip.__next__» ⟨[.ref z], []⟩) Q E s := by
  show wpAny _ _ (field (.ref z) 2 >>= _) _ _ _
  refine wpAny_bind (wpAny_field hz rfl (x := .bool false) rfl ?_)
  show wpAny _ _ (field (.ref z) 3 >>= _) _ _ _
  refine wpAny_bind (wpAny_field hz rfl (x := .ref TI) rfl ?_)
  refine wpAny_bind (wpAny_seqItems hTI rfl ?_)
  show wpAny _ _ (Builtin.SmallTypes.ownedTupleIsFree (.ref z) >>= _) _ _ _
  refine wpAny_bind (wpAny_tupleHeld_zip hz hT fun h₁ hz₁ hs₁ => ?_)
  simp only [Bool.false_eq_true, if_false]
  refine wpAny_bind ?_
  rw [← Array.forIn_toList]
  simp only [List.forIn_cons, List.forIn_nil]
  refine wpAny_bind (wpAny_bind (wpAny_holding ?_))
  show wpAny _ _ (Builtin.SmallTypes.nextOf (.ref i1) >>= _) _ _ _
  by_cases hlt1 : i < n1
  · refine wpAny_bind (D1.item i _ _ _ hlt1 (D1.over st1 hs₁ S.zf1) fun x1 h₂ tk1 hx1 sn1 hs₂ => wpAny_pure ?_)
    replace hs₂ : Heap.SameBut i1 h₁ h₂ := hs₂
    refine wpAny_pure ?_
    refine wpAny_bind (wpAny_bind (wpAny_holding ?_))
    show wpAny _ _ (Builtin.SmallTypes.nextOf (.ref i2) >>= _) _ _ _
    have hi2 : i = n2 := by omega
    refine wpAny_bind (D2.done _ _ _ (by rw [← hi2]; exact D2.over (D2.over st2 hs₁ S.zf2) hs₂ S.sep1_2) fun h₃ e hs₃ he => ?_)
    exact hE h₃ _ e (fun c o c1 c2 c3 x => hs₃ _ _ c3 (hs₂.extBut _ _ c2 (hs₁.extBut _ _ c1 x))) he
  · have hi1 : i = n1 := by omega
    refine wpAny_bind (D1.done _ _ _ (by rw [← hi1]; exact D1.over st1 hs₁ S.zf1) fun h₂ e hs₂ he => ?_)
    exact hE h₂ _ e (fun c o c1 c2 _ x => hs₂ _ _ c2 (hs₁.extBut _ _ c1 x)) he
theorem pyNext_zipD2_item_held {Q : Option Value → Shared → Prop} (S : ZipSep2 z TI TO i1 i2 fp1 fp2) (D1 : Draws prog w A.in1 i1 fp1 n1 P1 St1) (D2 : Draws prog w A.in1 i2 fp2 n2 P2 St2)
    (hz : IsZipHeld s.heap z TI TO T f) (hT : s.heap.get? T = some oT) (hTI : IsTupOf2 s.heap TI (.ref i1) (.ref i2)) (st1 : St1 i s.heap) (st2 : St2 i s.heap) (hlt1 : i < n1) (hlt2 : i < n2)
    (hQ : ∀ x1 x2 h' tk, P1 i x1 → P2 i x2 → IsZipHeld h' z TI TO T true → St1 (i + 1) h' → St2 (i + 1) h' → IsTupOf2 h' s.heap.objs.size x1 x2 → h'.objs.size = s.heap.objs.size + 1 →
      (∀ c o, c ≠ z → c ≠ i1 → c ≠ i2 → s.heap.get? c = some o → h'.get? c = some o) → Q (some (.ref s.heap.objs.size)) { s with heap := h', toks := tk }) :
    wpAny (model prog w) A (pyNext (.ref z)) Q E s := by
  have hTy : s.TypeIs (.ref z) "zip" := ⟨_, hz, rfl⟩
  unfold pyNext
  exact wpAny_bind (wpAny_attempt (wpAny_callSpecial?_slot (name := Str.ofString "__next__") hTy F.slot_zip_next
    (wpAny_call_entry F.slot_zip_next hTy F.entry_zip_next
      (zipD2_next_item_held S D1 D2 hz hT hTI st1 st2 hlt1 hlt2 fun x1 x2 h' tk a1 a2 a3 a4 a5 a6 a7 a8 => wpAny_pure (hQ x1 x2 h' tk a1 a2 a3 a4 a5 a6 a7 a8)) (F.args_zip_next_1 _))))
theorem pyNext_zipD2_end_held {Q : Option Value → Shared → Prop} (S : ZipSep2 z TI TO i1 i2 fp1 fp2) (D1 : Draws prog w A.in1 i1 fp1 n1 P1 St1) (D2 : Draws prog w A.in1 i2 fp2 n2 P2 St2)
    (hz : IsZipHeld s.heap z TI TO T f) (hT : s.heap.get? T = some oT) (hTI : IsTupOf2 s.heap TI (.ref i1) (.ref i2)) (st1 : St1 i s.heap) (st2 : St2 i s.heap) (hle1 : i ≤ n1) (hle2 : i ≤ n2) (hend : i = n1 ∨ i = n2)
    (hQ : ∀ h' tk, (∀ c o, c ≠ z → c ≠ i1 → c ≠ i2 → s.heap.get? c = some o → h'.get? c = some o) → Q none { s with heap := h', toks := tk }) : wpAny (model prog w) A (pyNext (.ref z)) Q E s := by
  have hTy : s.TypeIs (.ref z) "zip" := ⟨_, hz, rfl⟩
  unfold pyNext
  refine wpAny_bind (wpAny_attempt (wpAny_callSpecial?_slot (name := Str.ofString "__next__") hTy F.slot_zip_next
    (wpAny_call_entry F.slot_zip_next hTy F.entry_zip_next (zipD2_next_end_held S D1 D2 hz hT hTI st1 st2 hle1 hle2 hend fun h' tk e hk he => ?_) (F.args_zip_next_1 _))))
  obtain ⟨o, ho, hc⟩ := he
  refine wpAny_bind (wpAny_isInstance (T := "StopIteration") (b := true) ⟨o, ho, hc⟩ isSubtype_stop ?_)
  exact wpAny_pure (hQ _ _ hk)
/-- a zip on its way into a list at S -/
def LzSt (z TI TO i1 i2 S : Addr) (St1 St2 : Nat → Heap → Prop) (i : Nat) (h : Heap) : Prop := IsTupOf2 h TI (.ref i1) (.ref i2) ∧ St1 i h ∧ St2 i h ∧
  ((IsZip h z TI TO .none ∧ ∃ a b, IsTupOf2 h TO a b) ∨ ∃ T f oT, IsZipHeld h z TI TO T f ∧ h.get? T = some oT ∧ T ≠ z ∧ T ≠ i1 ∧ T ≠ i2 ∧ T ≠ S)
/-- the pairs drawn -/
structure LzG (P1 P2 : Nat → Value → Prop) (lo : Addr) (h : Heap) (as : List Addr) : Prop where
  rise : as.Pairwise (· < ·)
  above : ∀ a ∈ as, lo < a
  pairs : ∀ (j : Nat) (a : Addr), as[j]? = some a → ∃ x1 x2, P1 j x1 ∧ P2 j x2 ∧ h.get? a = some { cls := .type "tuple", data := .seq #[x1, x2] }
theorem LzG.there {lo : Addr} {h : Heap} {as : List Addr} (g : LzG P1 P2 lo h as) {a : Addr} (ha : a ∈ as) : a < h.objs.size := by
  obtain ⟨j, hj⟩ := List.mem_iff_getElem?.mp ha
  obtain ⟨_, _, _, _, e⟩ := g.pairs j a hj
  exact Heap.lt_size e
theorem lz_item {S : Addr} {Q : Option Value → Shared → Prop} (Sp : ZipSep2 z TI TO i1 i2 fp1 fp2) (D1 : Draws prog w A.in1 i1 fp1 n1 P1 St1) (D2 : Draws prog w A.in1 i2 fp2 n2 P2 St2) (hst : LzSt z TI TO i1 i2 S St1 St2 i s.heap) (hS : S < s.heap.objs.size)
    (hlt1 : i < n1) (hlt2 : i < n2)
    (hQ : ∀ h' tk x1 x2, P1 i x1 → P2 i x2 → LzSt z TI TO i1 i2 S St1 St2 (i + 1) h' → h'.get? s.heap.objs.size = some { cls := .type "tuple", data := .seq #[x1, x2] } → h'.objs.size = s.heap.objs.size + 1 →
      (∀ c o, c ≠ z → c ≠ TO → c ≠ i1 → c ≠ i2 → s.heap.get? c = some o → h'.get? c = some o) → Q (some (.ref s.heap.objs.size)) { s with heap := h', toks := tk }) :
    wpAny (model prog w) A (pyNext (.ref z)) Q E s := by
  obtain ⟨hTI, st1, st2, hz⟩ := hst
  have lt : ∀ {c o}, s.heap.get? c = some o → s.heap.objs.size ≠ c := fun e => Nat.ne_of_gt (Heap.lt_size e)
  have l1 : s.heap.objs.size ≠ i1 := by obtain ⟨_, e⟩ := D1.live _ _ st1; exact lt e
  have l2 : s.heap.objs.size ≠ i2 := by obtain ⟨_, e⟩ := D2.live _ _ st2; exact lt e
  rcases hz with ⟨hz, a, b, hTO⟩ | ⟨T, f, oT, hz, hT, r1, r2, r3, r4⟩
  · refine wpAny_pyNext_zipD2_item Sp D1 D2 hz hTI hTO st1 st2 hlt1 hlt2 fun x1 x2 h' tk y1 y2 b1 b2 d1 d2 b5 b6 hk => ?_
    exact hQ h' tk x1 x2 y1 y2 ⟨hk _ _ Sp.TIz Sp.TITO Sp.TIi1 Sp.TIi2 hTI, d1, d2, .inr ⟨s.heap.objs.size, false, _, b1, b5, lt hz, l1, l2, Nat.ne_of_gt hS⟩⟩ b5 b6 hk
  · refine pyNext_zipD2_item_held Sp D1 D2 hz hT hTI st1 st2 hlt1 hlt2 fun x1 x2 h' tk y1 y2 b1 d1 d2 b5 b6 hk => ?_
    exact hQ h' tk x1 x2 y1 y2 ⟨hk _ _ Sp.TIz Sp.TIi1 Sp.TIi2 hTI, d1, d2, .inr ⟨T, true, oT, b1, hk _ _ r1 r2 r3 hT, r1, r2, r3, r4⟩⟩ b5 b6 fun c o h1 h2 h3 h4 e => hk c o h1 h3 h4 e
theorem lz_done {S : Addr} {Q : Option Value → Shared → Prop} (Sp : ZipSep2 z TI TO i1 i2 fp1 fp2) (D1 : Draws prog w A.in1 i1 fp1 n1 P1 St1) (D2 : Draws prog w A.in1 i2 fp2 n2 P2 St2) (hst : LzSt z TI TO i1 i2 S St1 St2 i s.heap)
    (hle1 : i ≤ n1) (hle2 : i ≤ n2) (hend : i = n1 ∨ i = n2)
    (hQ : ∀ h' tk, (∀ c o, c ≠ z → c ≠ TO → c ≠ i1 → c ≠ i2 → s.heap.get? c = some o → h'.get? c = some o) → Q none { s with heap := h', toks := tk }) :
    wpAny (model prog w) A (pyNext (.ref z)) Q E s := by
  obtain ⟨hTI, st1, st2, hz⟩ := hst
  rcases hz with ⟨hz, a, b, hTO⟩ | ⟨T, f, oT, hz, hT, r1, r2, r3, r4⟩
  · exact wpAny_pyNext_zipD2_end Sp D1 D2 hz hTI hTO st1 st2 hle1 hle2 hend hQ
  · exact pyNext_zipD2_end_held Sp D1 D2 hz hT hTI st1 st2 hle1 hle2 hend fun h' tk hk => hQ h' tk fun c o h1 h2 h3 h4 e => hk c o h1 h3 h4 e
/-- what stood below it all still stands -/
def LzB (h₁ h : Heap) (z TO i1 i2 S : Addr) : Prop := ∀ b o, b ≠ S → b ≠ z → b ≠ TO → b ≠ i1 → b ≠ i2 → h₁.get? b = some o → h.get? b = some o
theorem lz_loop {R : Result → Shared → Prop} {S : Addr} (Sp : ZipSep2 z TI TO i1 i2 fp1 fp2) (D1 : Draws prog w A.in1.in1 i1 fp1 n1 P1 St1) (D2 : Draws prog w A.in1.in1 i2 fp2 n2 P2 St2) (hS1 : S ∉ fp1) (hS2 : S ∉ fp2) (hSz : S ≠ z) (hSO : S ≠ TO) (hSI : S ≠ TI)
    (hTIS : TI < S) (hzS : z < S) (hOS : TO < S) (h1S : i1 < S) (h2S : i2 < S)
    (hn : min n1 n2 ≤ sizeLine) (res : Value) {h₁ : Heap}
    (hR : ∀ h' tk acc c as, LzB h₁ h' z TO i1 i2 S → h'.get? S = some { cls := .type "list", dict := none, data := .seq acc c, slots := #[] } → as.length = min n1 n2 → LzG P1 P2 S h' as →
      acc.toList = as.map Value.ref → R (.ok (.ret res)) { s with heap := h', toks := tk }) :
    ∀ (k i : Nat) (h : Heap) (tk c : Nat) (acc : Array Value) (as : List Addr), min n1 n2 - i = k → i ≤ min n1 n2 → LzSt z TI TO i1 i2 S St1 St2 i h → LzB h₁ h z TO i1 i2 S →
      h.get? S = some { cls := .type "list", dict := none, data := .seq acc c, slots := #[] } → acc.toList = as.map Value.ref → as.length = i → LzG P1 P2 S h as →
      codeAny (model prog w) A (.builtin "list.extend.loop" ⟨[.ref S, .ref z, res], []⟩) R { s with heap := h, toks := tk } := by
  have e1 : S ≠ i1 := fun q => hS1 (by rw [q]; exact Sp.mem1)
  have e2 : S ≠ i2 := fun q => hS2 (by rw [q]; exact Sp.mem2)
  intro k
  induction k with
  | zero =>
    intro i h tk c acc as hk hi hst hkeep hS hacc hal hG
    have hin : i = min n1 n2 := by omega
    refine codeAny_builtin PySem.F.entry_extend_loop ?_
    rw [Around.under_plainId PySem.F.plain_extend_loop _]
    show wpAny _ A.in1 (pyNext (.ref z) >>= _) _ _ _
    refine wpAny_bind (lz_done (s := { s with heap := h, toks := tk }) (A := A.in1) (S := S) (i := i) Sp D1 D2 hst (by omega) (by omega) (by omega) fun h' tk' he => ?_)
    dsimp only at he ⊢
    refine wpAny_pure (hR h' tk' acc c as (fun b o h1 h2 h3 h4 h5 e => he b o h2 h3 h4 h5 (hkeep b o h1 h2 h3 h4 h5 e)) (he S _ hSz hSO e1 e2 hS) (by omega) ⟨hG.rise, hG.above, fun j a hj => ?_⟩ hacc)
    obtain ⟨x1, x2, p1, p2, e3⟩ := hG.pairs j a hj
    have ha : S < a := hG.above a (List.mem_of_getElem? hj)
    exact ⟨x1, x2, p1, p2, he a _ (Nat.ne_of_gt (Nat.lt_trans hzS ha)) (Nat.ne_of_gt (Nat.lt_trans hOS ha)) (Nat.ne_of_gt (Nat.lt_trans h1S ha)) (Nat.ne_of_gt (Nat.lt_trans h2S ha)) e3⟩
  | succ k ih =>
    intro i h tk c acc as hk hi hst hkeep hS hacc hal hG
    have hlt : i < min n1 n2 := by omega
    have hsz : acc.size = i := by rw [← Array.length_toList, hacc, List.length_map, hal]
    refine codeAny_builtin PySem.F.entry_extend_loop ?_
    rw [Around.under_plainId PySem.F.plain_extend_loop _]
    show wpAny _ A.in1 (pyNext (.ref z) >>= _) _ _ _
    refine wpAny_bind (lz_item (s := { s with heap := h, toks := tk }) (A := A.in1) (S := S) (i := i) Sp D1 D2 hst (Heap.lt_size hS) (by omega) (by omega) fun h' tk' x1 x2 p1 p2 hst' ht hz hkp => ?_)
    dsimp only at ht hz hkp ⊢
    have hS' := hkp S _ hSz hSO e1 e2 hS
    have up : ∀ b o, b ≠ S → h'.get? b = some o → (h'.update S (Obj.mapSeq (·.push (Value.ref h.objs.size)))).get? b = some o := fun b o hb e => (Heap.get?_update_other _ _ (Ne.symm hb)).trans e
    have hSl : S < h.objs.size := Heap.lt_size hS
    have hst2 : LzSt z TI TO i1 i2 S St1 St2 (i + 1) (h'.update S (Obj.mapSeq (·.push (Value.ref h.objs.size)))) := by
      obtain ⟨q1, q2, q3, q4⟩ := hst'
      refine ⟨up _ _ (Ne.symm hSI) q1, D1.frame _ _ _ q2 fun b hb o e => up b o (fun q => hS1 (q ▸ hb)) e, D2.frame _ _ _ q3 fun b hb o e => up b o (fun q => hS2 (q ▸ hb)) e, ?_⟩
      rcases q4 with ⟨q4, a, b, q5⟩ | ⟨T, f, oT, q4, q5, r1, r2, r3, r4⟩
      · exact .inl ⟨up _ _ (Ne.symm hSz) q4, a, b, up _ _ (Ne.symm hSO) q5⟩
      · exact .inr ⟨T, f, oT, up _ _ (Ne.symm hSz) q4, up _ _ r4 q5, r1, r2, r3, r4⟩
    show wpAny _ A.in1 (updateSeq S (·.push (Value.ref h.objs.size)) >>= _) _ _ _
    refine wpAny_bind ?_
    refine wpAny_updateSeq hS' rfl (wpAny_pure ⟨plainId_quiet PySem.F.plain_extend_loop _, ih (i + 1) _ tk' _ (acc.push (Value.ref h.objs.size)) (as ++ [h.objs.size]) (by omega) hlt hst2
      (fun b o h1 h2 h3 h4 h5 e => up b o h1 (hkp b o h2 h3 h4 h5 (hkeep b o h1 h2 h3 h4 h5 e))) (Heap.get?_update_self _ hS' rfl) (by rw [Array.toList_push, hacc, List.map_append]; rfl) (by rw [List.length_append, hal]; rfl) ⟨?_, ?_, ?_⟩⟩) (by rw [hsz]; omega) (by show (acc.push (Value.ref h.objs.size)).size ≤ sizeLine + 1; rw [Array.size_push, hsz]; omega)
    · refine List.pairwise_append.mpr ⟨hG.rise, List.pairwise_singleton _ _, fun a ha b hb => ?_⟩
      rw [List.mem_singleton.mp hb]
      exact hG.there ha
    · intro a ha
      rcases List.mem_append.mp ha with ha | ha
      · exact hG.above a ha
      · rw [List.mem_singleton.mp ha]; exact hSl
    · intro j b hj
      rcases Nat.lt_trichotomy j as.length with h1 | h1 | h1
      · rw [List.getElem?_append_left h1] at hj
        obtain ⟨y1, y2, w1, w2, e3⟩ := hG.pairs j b hj
        have hb := hG.above b (List.mem_of_getElem? hj)
        exact ⟨y1, y2, w1, w2, up b _ (Nat.ne_of_gt hb) (hkp b _ (Nat.ne_of_gt (Nat.lt_trans hzS hb)) (Nat.ne_of_gt (Nat.lt_trans hOS hb)) (Nat.ne_of_gt (Nat.lt_trans h1S hb)) (Nat.ne_of_gt (Nat.lt_trans h2S hb)) e3)⟩
      · subst h1
        have hb : h.objs.size = b := by simpa using hj
        subst hb
        rw [hal]
        exact ⟨x1, x2, p1, p2, up _ _ (Nat.ne_of_gt hSl) ht⟩
      · have hnone : (as ++ [h.objs.size])[j]? = none := List.getElem?_eq_none (by rw [List.length_append, List.length_singleton]; omega)
        rw [hnone] at hj; cases hj
/-- list(z), z a zip just made: its cells below S -/
theorem lz_call {Q : Value → Shared → Prop} {N : Nat} (hNz : z = N + 4) (Sp : ZipSep2 z TI TO i1 i2 fp1 fp2) (D1 : Draws prog w A.in1.in1.in1 i1 fp1 n1 P1 St1) (D2 : Draws prog w A.in1.in1.in1 i2 fp2 n2 P2 St2)
    (hsz : s.heap.objs.size = S0) (hS1 : S0 ∉ fp1) (hS2 : S0 ∉ fp2) (hTIS : TI < S0) (hzS : z < S0) (hOS : TO < S0) (h1S : i1 < S0) (h2S : i2 < S0)
    (hz : IsZip s.heap z TI TO .none) (hTI : IsTupOf2 s.heap TI (.ref i1) (.ref i2)) (hTO : ∃ a b, IsTupOf2 s.heap TO a b) (st1 : St1 0 s.heap) (st2 : St2 0 s.heap) (hn : min n1 n2 ≤ sizeLine)
    (hQ : ∀ h' tk acc c as, LzB s.heap h' z TO i1 i2 S0 → h'.get? S0 = some { cls := .type "list", dict := none, data := .seq acc c, slots := #[] } → as.length = min n1 n2 → LzG P1 P2 S0 h' as →
      acc.toList = as.map Value.ref → Q (.ref S0) { s with heap := h', toks := tk }) :
    wpAny (model prog w) A (call (.type "list") [.ref z]) Q E s := by
  subst hsz
  refine callType_codes (Q₁ := fun obj s₁ => obj = .ref s.heap.objs.size ∧ s₁ = { s with heap := s.heap.push { cls := .type "list", data := .seq #[] } }) PySem.F.called_list (PySem.F.typeCall_list_1 _) PySem.F.entry_list_init
    (code_list_new _ ⟨rfl, rfl⟩) fun obj s₁ h₁ => ?_
  obtain ⟨rfl, rfl⟩ := h₁
  have hS : (s.heap.push { cls := .type "list", data := .seq #[] }).get? s.heap.objs.size = some { cls := .type "list", data := .seq #[] } := Heap.get?_push_size _ rfl
  refine ⟨⟨_, hS, rfl⟩, PySem.F.args_list_init_2 _ _, ?_⟩
  generalize hS0 : s.heap.objs.size = S at *
  have up0 : ∀ b o, s.heap.get? b = some o → (s.heap.push { cls := .type "list", data := .seq #[] }).get? b = some o := fun b o e => Heap.get?_push_of_some _ e
  generalize s.heap.push { cls := .type "list", data := .seq #[] } = hp0 at *
  show wpAny _ _ (do let old ← Builtin.List.listItems (.ref S); Builtin.List.listUpdate (.ref S) (fun _ => #[]); letGo old.toList.reverse; Builtin.List.listExtendWith (.ref S) (.ref z) .none) _ _ _
  refine wpAny_bind ?_
  unfold Builtin.List.listItems
  refine wpAny_bind (wpAny_seqItems hS rfl (wpAny_pure ?_))
  show wpAny _ _ (updateSeq S (fun _ => #[]) >>= fun _ => letGo (#[] : Array Value).toList.reverse >>= fun _ => Builtin.List.listExtendWith (.ref S) (.ref z) .none) _ _ _
  refine wpAny_bind (wpAny_updateSeq hS rfl ?_)
  have hS₂ := Heap.get?_update_self (Obj.mapSeq (fun _ => (#[] : Array Value))) hS rfl
  have oth : ∀ b o, b ≠ S → s.heap.get? b = some o → (hp0.update S (Obj.mapSeq (fun _ => (#[] : Array Value)))).get? b = some o :=
    fun b o hb e => (Heap.get?_update_other _ _ (Ne.symm hb)).trans (up0 b o e)
  refine wpAny_bind (wpAny_letGo ?_)
  dsimp only
  generalize hp0.update S (Obj.mapSeq (fun _ => (#[] : Array Value))) = hp1 at *
  have nz : S ≠ z := Nat.ne_of_gt hzS
  have hz1 : IsZip hp1 z TI TO .none := oth _ _ (Ne.symm nz) hz
  have hTy : ({ s with heap := hp1 } : Shared).TypeIs (.ref z) "zip" := ⟨_, hz1, rfl⟩
  unfold Builtin.List.listExtendWith
  refine wpAny_bind (wpAny_typeOf hTy ?_)
  have h1 : Builtin.List.listSameRef (.ref S) (.ref z) = false := by simp [Builtin.List.listSameRef, nz]
  have h2 : (Value.type "zip" == Value.type "list") = false := by decide
  have h3 : (Value.type "zip" == Value.type "tuple") = false := by decide
  simp only [h1, h2, h3, Bool.or_false, Bool.false_eq_true, if_false]
  refine wpAny_bind (wpAny_pyIter_zip hz1 ?_)
  refine wpAny_bind (wpAny_holding ?_)
  unfold Builtin.List.listLengthHint
  refine wpAny_bind (wpAny_specialOf hTy zip_no_len ?_)
  show wpAny _ _ (specialOf (Value.ref z) (Str.ofString "__length_hint__") >>= _) _ _ _
  refine wpAny_bind (wpAny_specialOf hTy zip_no_hint ?_)
  refine wpAny_pure ?_
  show wpAny _ _ (rule "list.extend.makes-room" >>= fun _ => Builtin.List.listTouch (.ref S) >>= fun _ => again (.builtin "list.extend.loop" ⟨[.ref S, .ref z, .none], []⟩)) _ _ _
  refine wpAny_bind (wpAny_rule ?_)
  refine wpAny_bind ?_
  show wpAny _ _ (updateSeq S (·.push .none) >>= fun _ => updateSeq S (·.pop)) _ _ _
  refine wpAny_bind (wpAny_updateSeq hS₂ rfl ?_)
  have hS₃ := Heap.get?_update_self (Obj.mapSeq (·.push Value.none)) hS₂ rfl
  refine wpAny_updateSeq (hz := by seq_fits) hS₃ rfl ?_
  have hS₄ := Heap.get?_update_self (Obj.mapSeq (·.pop)) hS₃ rfl
  have oth2 : ∀ b o, b ≠ S → s.heap.get? b = some o → (((hp1.update S (Obj.mapSeq (·.push Value.none))).update S (Obj.mapSeq (·.pop)))).get? b = some o :=
    fun b o hb e => (Heap.get?_update_other _ _ (Ne.symm hb)).trans ((Heap.get?_update_other _ _ (Ne.symm hb)).trans (oth b o hb e))
  obtain ⟨a, b, hTO⟩ := hTO
  refine wpAny_pure ⟨plainId_quiet PySem.F.plain_extend_loop _, lz_loop (s := s) (h₁ := s.heap) (S := S) Sp D1 D2 hS1 hS2 nz (Nat.ne_of_gt hOS) (Nat.ne_of_gt hTIS) hTIS hzS hOS h1S h2S hn .none (fun h' tk acc c as hk hS' hl hG hacc => ?_) (min n1 n2) 0 _ _ _ #[] [] (Nat.sub_zero _) (Nat.zero_le _) ?_ ?_ hS₄ rfl rfl ⟨List.Pairwise.nil, (fun _ ha => nomatch ha), (fun j a hj => by simp at hj)⟩⟩
  · exact ⟨rfl, hQ h' tk acc c as hk hS' hl hG hacc⟩
  · exact ⟨oth2 _ _ (Nat.ne_of_lt hTIS) hTI, D1.frame _ _ _ st1 fun b hb o e => oth2 b o (fun q => hS1 (q ▸ hb)) e, D2.frame _ _ _ st2 fun b hb o e => oth2 b o (fun q => hS2 (q ▸ hb)) e, .inl ⟨oth2 _ _ (Ne.symm nz) hz, a, b, oth2 _ _ (Nat.ne_of_lt hOS) hTO⟩⟩
  · exact fun b o hb _ _ _ _ e => oth2 b o hb e
end
end PySem.W

set_option Elab.async false
set_option linter.all false
set_option maxRecDepth 100000
set_option maxHeartbeats 4000000
namespace Py
open PySem L2
open PyProof.Rows (IsTup)
/-- the pairs tracked at their addresses -/
def putQ : Hp → List Addr → List (V × V) → Hp
  | H, a :: as, p :: zs => putQ (upd H a (.tup [p.1, p.2])) as zs
  | H, _, _ => H
theorem putQ_off {b : Addr} : ∀ (as : List Addr) (zs : List (V × V)) (H : Hp), b ∉ as → putQ H as zs b = H b
  | [], _, _, _ => rfl
  | _ :: _, [], _, _ => rfl
  | a :: as, p :: zs, H, h => by
    show putQ (upd H a (.tup [p.1, p.2])) as zs b = H b
    rw [putQ_off as zs _ (fun z => h (List.mem_cons_of_mem _ z)), upd_ne (fun z => h (by rw [z]; exact List.mem_cons_self))]
theorem putQ_at : ∀ (as : List Addr) (zs : List (V × V)) (H : Hp), as.length = zs.length → as.Nodup → ∀ (j : Nat) (a : Addr) (p : V × V), as[j]? = some a → zs[j]? = some p → putQ H as zs a = some (.tup [p.1, p.2])
  | [], _, _, _, _, j, a, p, h, _ => by simp at h
  | _ :: _, [], _, h, _, _, _, _, _, _ => by cases h
  | a :: as, q :: zs, H, h, hn, 0, b, p, e1, e2 => by
    have hn' := List.nodup_cons.mp hn
    cases e1; cases e2
    show putQ (upd H a (.tup [q.1, q.2])) as zs a = _
    rw [putQ_off as zs _ hn'.1, upd_same]
  | a :: as, q :: zs, H, h, hn, j + 1, b, p, e1, e2 => by
    have hn' := List.nodup_cons.mp hn
    exact putQ_at as zs (upd H a (.tup [q.1, q.2])) (Nat.succ.inj h) hn'.2 j b p (by simpa using e1) (by simpa using e2)
theorem vals_refs : ∀ as : List Addr, Vals (as.map V.ref) (as.map Value.ref)
  | [] => .nil
  | _ :: as => .cons rfl (vals_refs as)
def rLZ (K : PySem.W.Frag) : List V → Hp → VK → Prop := fun vs H Q => ∃ v u k k2 ys zs, vs = [v, u] ∧ SrcOf k v ∧ SrcOf k2 u ∧ SrcV K H k ys ∧ SrcV K H k2 zs ∧ min ys.length zs.length ≤ sizeLine ∧
  ∀ (H' : Hp) (p : Addr) (ts : List Addr), (∀ b o, H b = some o → H' b = some o) → H p = none → (∀ t ∈ ts, H t = none) → p ∉ ts → H' p = some (.lst (ts.map V.ref)) → ts.length = min ys.length zs.length →
    (∀ (j : Nat) t, ts[j]? = some t → ∃ x y, ys[j]? = some x ∧ zs[j]? = some y ∧ H' t = some (.tup [x, y])) → Q (.ref p) H'
section
variable {X : Cx} {pins : List (Addr × Obj)} {σ : L2.St} {H : Hp} {s : Shared}
theorem lz_laid {h' : Heap} {tk : Nat} {ys zs : List V} {acc : Array Value} {c : Nat} {as : List Addr} {S : Addr} (I : Inv X pins σ H s) (hz : min ys.length zs.length ≤ sizeLine)
    (hk : ∀ b o, s.heap.get? b = some o → h'.get? b = some o) (hSn : s.heap.objs.size ≤ S) (hS : h'.get? S = some { cls := .type "list", dict := none, data := .seq acc c, slots := #[] }) (hl : as.length = min ys.length zs.length)
    (rise : as.Pairwise (· < ·)) (above : ∀ a ∈ as, S < a) (pairs : ∀ (j : Nat) (a : Addr), as[j]? = some a → ∃ x y u1 u2, ys[j]? = some x ∧ zs[j]? = some y ∧ RelV x u1 ∧ RelV y u2 ∧ h'.get? a = some { cls := .type "tuple", data := .seq #[u1, u2] })
    (hacc : acc.toList = as.map Value.ref) :
    ∃ H' : Hp, (∀ b o, H b = some o → H' b = some o) ∧ H S = none ∧ (∀ t ∈ as, H t = none) ∧ S ∉ as ∧ H' S = some (.lst (as.map V.ref)) ∧ (∀ (j : Nat) t, as[j]? = some t → ∃ x y, ys[j]? = some x ∧ zs[j]? = some y ∧ H' t = some (.tup [x, y])) ∧ Inv X pins σ H' { s with heap := h', toks := tk } := by
  have hSa : S ∉ as := fun z => Nat.lt_irrefl _ (above _ z)
  have nd : as.Nodup := List.Pairwise.imp (fun {a b} (h : a < b) => Nat.ne_of_lt h) rise
  have new : ∀ t ∈ as, H t = none := fun t ht => I.hok.fresh (Nat.le_trans hSn (Nat.le_of_lt (above t ht)))
  have newS : H S = none := I.hok.fresh hSn
  have lz : as.length = (ys.zip zs).length := by rw [hl, List.length_zip]
  have atP := putQ_at as (ys.zip zs) (upd H S (.lst (as.map V.ref))) lz nd
  have off : ∀ b, b ∉ as → b ≠ S → putQ (upd H S (.lst (as.map V.ref))) as (ys.zip zs) b = H b := fun b h1 h2 => by rw [putQ_off as _ _ h1, upd_ne h2]
  have low : ∀ b o, s.heap.get? b = some o → b ∉ as ∧ b ≠ S := fun b o e => ⟨fun z => absurd (Heap.lt_size e) (Nat.not_lt.mpr (Nat.le_trans hSn (Nat.le_of_lt (above b z)))), Nat.ne_of_lt (Nat.lt_of_lt_of_le (Heap.lt_size e) hSn)⟩
  have kp : ∀ b u, H b = some u → (putQ (upd H S (.lst (as.map V.ref))) as (ys.zip zs)) b = some u := fun b u e => by
    rw [off b (fun z => by rw [new b z] at e; cases e) (fun z => by rw [z, newS] at e; cases e)]
    exact e
  have eS : putQ (upd H S (.lst (as.map V.ref))) as (ys.zip zs) S = some (.lst (as.map V.ref)) := by rw [putQ_off as _ _ hSa, upd_same]
  have atPair : ∀ (j : Nat) t, as[j]? = some t → ∃ x y, ys[j]? = some x ∧ zs[j]? = some y ∧ putQ (upd H S (.lst (as.map V.ref))) as (ys.zip zs) t = some (.tup [x, y]) := fun j t e => by
    obtain ⟨x, y, u1, u2, e1, e2, _⟩ := pairs j t e
    exact ⟨x, y, e1, e2, atP j t (x, y) e (by rw [List.zip, List.getElem?_zipWith, e1, e2])⟩
  refine ⟨putQ (upd H S (.lst (as.map V.ref))) as (ys.zip zs), kp, newS, new, hSa, eS, atPair, ?_⟩
  refine I.call' (ch := []) rfl ⟨fun b o q _ _ _ => hk b o q, fun b o q _ _ _ => ⟨o.slots, hk b o q⟩, fun b o q n _ => ?_, fun b o q _ => ⟨o, hk b o q⟩, fun b xs q => kp b _ q, fun b o u q => kp b _ q, fun b ps q => ⟨#[], by rw [kp b _ q]; simp⟩⟩ (fun b u q => ?_) I.bare fun b z => by simp at z
  · obtain ⟨z1, z2⟩ := low b o q
    rw [off b z1 z2]
    exact n
  · by_cases hb : b ∈ as
    · obtain ⟨j, hj⟩ := List.mem_iff_getElem?.mp hb
      obtain ⟨x, y, u1, u2, e1, e2, r1, r2, e3⟩ := pairs j b hj
      obtain ⟨x', y', e1', e2', e4⟩ := atPair j b hj
      rw [e1] at e1'; cases e1'
      rw [e2] at e2'; cases e2'
      rw [e4] at q
      cases q
      exact ⟨by show 2 ≤ sizeLine; decide, [u1, u2], .cons r1 (.cons r2 .nil), ⟨_, e3, rfl, _, rfl⟩⟩
    · by_cases hb2 : b = S
      · rw [hb2] at q ⊢
        rw [eS] at q
        cases q
        refine ⟨by rw [List.length_map]; omega, acc.toList, c, by rw [hacc]; exact vals_refs as, ?_⟩
        rw [Array.toArray_toList]
        exact hS
      · rw [off b hb hb2] at q
        exact (I.hok b u q).stay (fun d v _ y => hk d v y) (fun d y => kp d _ y) fun d xs y => kp d _ y
end
theorem pe_listzip {X : Cx} {e e2 : Expr} {ta : TA} {p p2 pos pos2 : Pos} (hc : X.calm = true) (hg : Gl X "list") (hm : X.mg "list" = none) (hg2 : Gl X "zip") (hm2 : X.mg "zip" = none) (ha : PA X [e, e2] ta)
    (hs0 : starEach [.Call (.Name "zip" p2) [e, e2] [] pos2] X.env = (false, eval (.Call (.Name "zip" p2) [e, e2] [] pos2) X.env) :: starEach [] X.env := by rfl)
    (hs : starEach [e, e2] X.env = (false, eval e X.env) :: starEach [e2] X.env := by rfl) (hpl : (backTo pos2 (starEach [e2] X.env)).any (·.1) = false := by rfl) :
    PE X (.Call (.Name "list" p) [.Call (.Name "zip" p2) [e, e2] [] pos2] [] pos) (tCB (rLZ X.K) ta) := by
  refine ⟨fun pins s σ H Q I h => ?_⟩
  refine wpAny_Call_Name_kw (ld_blt I hg hm bt_list ?_)
  refine PyProof.Rows.callWith_type1 ?_ hs0 rfl
  rw [hs0]
  show wpAny _ _ (spliced ((false, eval (.Call (.Name "zip" p2) [e, e2] [] pos2) X.env) :: backTo pos (starEach [] X.env))) _ _ s
  refine Calls.spliced_cons ?_
  refine wpAny_Call_Name_kw (ld_blt I hg2 hm2 bt_zip (PyProof.Rows.callWith_type1 (thn (ha.run pos2 pins s σ H _ I h) fun us s1 ⟨vs, H1, I1, r1, q1⟩ => ?_) hs hpl))
  obtain ⟨v, u, k, k2, ys, zs, ex, ho1, ho2, hs1, hs2, hz, q⟩ := q1
  subst ex
  cases r1 with
  | cons r rr =>
    cases rr with
    | cons r' rr =>
      cases rr
      obtain ⟨k', Hb, eu, B, hb, hv', e1, _, _, e4⟩ := hs1.beg I1 ho1 r
      obtain ⟨k2', Hb2, eu2, B2, hb2, hv2', f1, _, _, f4⟩ := hs2.beg I1 ho2 r'
      refine zip_begins2 B B2 hb hb2 fun h' hzz hTI hTO h1 h2 hsz hk => ?_
      refine Calls.spliced_nil ?_
      have I2 : Inv X pins σ H1 { s1 with heap := h' } := I1.kept (t' := s1.toks) hk
      have l1 : SrcLt k' s1.heap.objs.size := hv'.lt I1
      have l2 : SrcLt k2' s1.heap.objs.size := hv2'.lt I1
      obtain ⟨fx1, P1, S1, D1, hS1, hP1, hSt1, hf1⟩ := SrcV.draws (A := X.A.in1.in1.in1) I2 (I1.ok.hd hc) hv' l1 (Nat.le_refl _) (.begin h1)
      obtain ⟨fx2, P2, S2, D2, hS2, hP2, hSt2, hf2⟩ := SrcV.draws (A := X.A.in1.in1.in1) I2 (I1.ok.hd hc) hv2' l2 (Nat.le_succ _) (.begin h2)
      generalize hN : s1.heap.objs.size = N at *
      have lt5 : ∀ j, j < 5 → N + j < N + 5 := fun j hj => Nat.add_lt_add_left hj N
      have n1 : (N + 5 : Nat) ∉ N :: fx1 := fun z => by
        rcases List.mem_cons.mp z with z | z
        · have : (N + 5 : Nat) = N := z; omega
        · have : (N + 5 : Nat) < N := hf1 _ z; omega
      have n2 : (N + 5 : Nat) ∉ (N + 1) :: fx2 := fun z => by
        rcases List.mem_cons.mp z with z | z
        · have : (N + 5 : Nat) = N + 1 := z; omega
        · have : (N + 5 : Nat) < N := hf2 _ z; omega
      refine PySem.W.lz_call (s := { s1 with heap := h' }) (S0 := N + 5) (N := N) rfl (zip_sep2 hf1 hf2) D1 D2 hsz n1 n2 (lt5 2 (by decide)) (lt5 4 (by decide)) (lt5 3 (by decide)) (lt5 0 (by decide)) (lt5 1 (by decide)) hzz hTI ⟨_, _, hTO⟩ hS1 hS2 hz fun h'' tk acc c as hB hS hl hG hacc => ?_
      have hk' : ∀ b o, s1.heap.get? b = some o → h''.get? b = some o := fun b o e => by
        have hb : b < N := by rw [← hN]; exact Heap.lt_size e
        have ne : ∀ j, b ≠ (N + j : Nat) := fun j z => absurd hb (by rw [z]; exact Nat.not_lt.mpr (Nat.le_add_right N j))
        exact hB b o (ne 5) (ne 4) (ne 3) (ne 0) (ne 1) (hk b o e)
      obtain ⟨H', k1, k3, k4, k5, k6, k7, J⟩ := lz_laid (tk := tk) (ys := ys) (zs := zs) I1 hz hk' (by rw [hN]; exact Nat.le_add_right N 5) hS hl hG.rise hG.above (fun j a hj => by
        obtain ⟨x1, x2, p1, p2, e5⟩ := hG.pairs j a hj
        obtain ⟨x, ex, rx⟩ := hP1 j x1 p1
        obtain ⟨y, ey, ry⟩ := hP2 j x2 p2
        exact ⟨x, y, x1, x2, ex, ey, rx, ry, e5⟩) hacc
      exact ⟨.ref _, H', J, rfl, q H' _ as k1 k3 k4 k5 k6 hl k7⟩
def lzD (x y : D) : Option (List D) := match seqOf x, seqOf y with
  | some xs, some ys => if min xs.length ys.length ≤ LIM then some (zipD xs ys) else none
  | _, _ => none
section
variable {gh : Gh} {T : Tb} {ρ : Env} {ta tb : TE} {m1 m2 : M gh.S D}
theorem en_listzip (h1 : EvD gh T ta ρ m1) (h2 : EvD gh T tb ρ m2) : EvN gh T (tCB (rLZ T.K) (tCons ta (tCons tb tNil))) ρ (bnd m1 fun x => bnd m2 fun y => lft (lzD x y)) := fun F H σ g fin g' S e Q q => by
  obtain ⟨x, g1, e1, q1⟩ := bnd_inv e
  obtain ⟨y, g2, e2, q2⟩ := bnd_inv q1
  obtain ⟨e3, rfl⟩ := lft_inv q2
  have s1 : EvS gh T true ta ρ (bnd m1 fun d => lft (seqOf d)) := es_val h1
  have s2 : EvS gh T true tb ρ (bnd m2 fun d => lft (seqOf d)) := es_val h2
  unfold lzD at e3
  cases ex : seqOf x with
  | none => rw [ex] at e3; cases e3
  | some xs =>
    cases ey : seqOf y with
    | none => rw [ex, ey] at e3; cases e3
    | some ys =>
      rw [ex, ey] at e3
      obtain ⟨hl, rfl⟩ := gd e3
      refine s1 F H σ g xs g1 S (by rw [bnd_some e1, ex]; rfl) _ fun v k vs H1 G1 p1 ho hs r => s2 G1 H1 σ g1 ys _ (S.step p1) (by rw [bnd_some e2, ey]; rfl) _ fun u k2 us H2 G2 p2 ho2 hs2 r2 => ?_
      have hb : Kp true gh G2 H2 H2 := p2.here
      refine ⟨v, u, k, k2, vs, us, rfl, ho, ho2, hs H2 (hb.post p2), hs2 H2 hb, by rw [r.length, r2.length, ← LIM_eq]; exact hl, fun H' p ts kp kn kt kpt kl klen kpair => ?_⟩
      have P := p1.then p2
      have hG : ∀ t ∈ ts, G2 t = none := fun t ht => P.gh'.free (kt t ht)
      have exG : Ex G2 (fun b => if b ∈ ts then H' b else G2 b) := fun b o z => by
        show (if b ∈ ts then H' b else G2 b) = some o
        rw [if_neg (fun w => by rw [hG b w] at z; cases z)]; exact z
      have wasH : ∀ a, H2 a = none → H a = none := fun a h => P.was h
      refine q p (ts.map V.ref) H' (fun b => if b ∈ ts then H' b else G2 b) ⟨P.fg.trans exG, fun b o z => ?_, fun b o m z => kp b o (P.hh b o m z), fun b z1 z2 => ?_, gh.keep _ _ _ P.gi fun b o _ z => kp b o z⟩ (wasH p kn) ?_ kl ?_
      · by_cases hb : b ∈ ts
        · simp only [if_pos hb] at z; exact z
        · simp only [if_neg hb] at z; exact kp b o (P.gh' b o z)
      · show (if b ∈ ts then H' b else G2 b) = none
        rw [if_neg (fun w => z2 (wasH b (kt b w)))]; exact P.nw b z1 z2
      · show (if p ∈ ts then H' p else G2 p) = none
        rw [if_neg kpt]; exact P.gh'.free kn
      · refine .of_get (by rw [List.length_map, klen]; unfold zipD; rw [List.length_zipWith, r.length, r2.length]) fun j d w hd hw => ?_
        rw [List.getElem?_map] at hw
        cases ht : ts[j]? with
        | none => rw [ht] at hw; cases hw
        | some t =>
          rw [ht] at hw; cases hw
          obtain ⟨a, b, ea, eb, et⟩ := kpair j t ht
          obtain ⟨d1, f1, rd1⟩ := r.getV ea
          obtain ⟨d2, f2, rd2⟩ := r2.getV eb
          unfold zipD at hd
          rw [List.getElem?_zipWith, f1, f2] at hd
          cases hd
          have mem : t ∈ ts := List.mem_of_getElem? ht
          refine ⟨t, [a, b], rfl, SqT.of ?_, .cons (rd1.ex (p2.fg.trans exG)) (.cons (rd2.ex exG) .nil)⟩
          show (if t ∈ ts then H' t else G2 t) = _
          rw [if_pos mem]; exact et
end
end Py

set_option Elab.async false
set_option linter.all false
set_option maxRecDepth 100000
set_option maxHeartbeats 4000000
namespace Py
open PySem L2
/-! ### the deal: a list of a list of cells and a number, changed through its reference -/
abbrev Dl := List Int × Int
@[reducible] def ghd (a l : Addr) : Gh where
  S := Dl
  M := fun b => b = a ∨ b = l
  I := fun t H => a ≠ l ∧ H a = some (.lst [.ref l, .int t.2]) ∧ H l = some (.lst (t.1.map V.int)) ∧ 0 ≤ t.2 ∧ t.2 < 2147483647 ∧ t.1.length ≤ 63
  there := fun t H b ⟨_, h1, h2, _⟩ m => by
    rcases m with rfl | rfl
    · rw [h1]; exact fun z => nomatch z
    · rw [h2]; exact fun z => nomatch z
  keep := fun t H H' ⟨hn, h1, h2, h3⟩ k => ⟨hn, k a _ (.inl rfl) h1, k l _ (.inr rfl) h2, h3⟩
def ptd (a : Addr) : Nat → Option Addr := fun n => if n = 0 then some a else none
/-- what a draw leaves: the zeros at the end go first -/
def cutZ : List Int → List Int
  | [] => []
  | x :: xs => match cutZ xs with
    | [] => if x = 0 then [] else [x]
    | y :: ys => x :: y :: ys
def anyD (n : Int) (t : Dl) : Int × Dl := match (cutZ t.1).getLast? with
  | some r => (r % n, ((cutZ t.1).dropLast ++ [r / n], t.2))
  | none => (((t.2 * 48271 + 31) % 2147483647 / 64) % n, ([], (t.2 * 48271 + 31) % 2147483647))
def any_m (d b : D) : M Dl D := match d, b with
  | .ptr 0, .int n => if 0 < n ∧ n < 1000000000 then fun t => some (.int (anyD n t).1, (anyD n t).2) else fl
  | _, _ => fl
theorem anyD_range {n : Int} (h : 0 < n) (t : Dl) : 0 ≤ (anyD n t).1 ∧ (anyD n t).1 < n := by
  unfold anyD
  cases (cutZ t.1).getLast? with
  | some r => exact ⟨Int.emod_nonneg _ (by omega), Int.emod_lt_of_pos _ h⟩
  | none => exact ⟨Int.emod_nonneg _ (by omega), Int.emod_lt_of_pos _ h⟩
/-! ### calls by keywords alone -/
def prm {α : Type} (p : List Nat) (xs : List α) : List α := p.filterMap fun i => xs[i]?
theorem Vals.ix {xs : List V} {us : List Value} (h : Vals xs us) (i : Nat) : (∃ x u, xs[i]? = some x ∧ us[i]? = some u ∧ RelV x u) ∨ (xs[i]? = none ∧ us[i]? = none) := by
  cases e : xs[i]? with
  | none => exact .inr ⟨rfl, h.none_of e⟩
  | some x => obtain ⟨u, e1, r⟩ := h.get e; exact .inl ⟨x, u, rfl, e1, r⟩
theorem vals_prm {xs : List V} {us : List Value} (h : Vals xs us) : ∀ p : List Nat, Vals (prm p xs) (prm p us)
  | [] => .nil
  | i :: p => by
    unfold prm
    rw [List.filterMap_cons, List.filterMap_cons]
    rcases Vals.ix h i with ⟨x, u, e1, e2, r⟩ | ⟨e1, e2⟩
    · rw [e1, e2]; exact .cons r (vals_prm h p)
    · rw [e1, e2]; exact vals_prm h p
theorem rps_prm {T : Tb} {F : Hp} {ds : List D} {vs : List V} (h : Rps T F ds vs) : ∀ p : List Nat, Rps T F (prm p ds) (prm p vs)
  | [] => rfl
  | i :: p => by
    unfold prm
    rw [List.filterMap_cons, List.filterMap_cons]
    cases e : ds[i]? with
    | none =>
      have : vs[i]? = none := List.getElem?_eq_none (by rw [h.length]; exact List.getElem?_eq_none_iff.mp e)
      rw [this]; exact rps_prm h p
    | some d =>
      obtain ⟨v, e1, r⟩ := h.get e
      rw [e1]; exact .cons r (rps_prm h p)
def tCallP (sp : Sp) (p : List Nat) (n : Nat) (E : XK) (tk : TA) : TE := fun σ H Q => tk σ H fun zs H1 => zs.length = n ∧ sp (prm p zs) H1 Q E
theorem pe_gfk {X : Cx} {gh : Gh} {T : Tb} {k j : Nat} {x y q : Str} {st : Stmt} {np pos : Pos} {ps ks : List Str} {f : List D → M gh.S D} {kws : List Keyword} {tk : TA} (p : List Nat)
    (hF : ∃ fa fd, X.mg x = some (.ref fa) ∧ Fun X.K y q st fa fd ∧ FnOk X.prog X.w X.K X.mg X.base CX0 k fa fd ps (spD gh T ps.length f)) (hr : Room j X.A) (hk : k ≤ j) (hg : Gl X x)
    (hb : ∀ (kV doc pm : Value) (an : Option Addr) (cdv ct : Value) (ws : List Value), ws.length = ks.length → bindArgs (PySem.W.fnOf y q (defArgs st) (defBody st) (defScope st) .none kV doc pm an cdv ct) ⟨[], ks.zip ws⟩ = pure (ps.zip (prm p ws)))
    (hkw : PK X kws tk) (hall : (backToKw pos (keywordEach kws X.env)).all (·.1.isSome) = true := by rfl) (hks : (backToKw pos (keywordEach kws X.env)).filterMap (·.1) = ks := by rfl)
    (hdb : (x == ("__debug__" : Str)) = false := by decide) (hpl : ((backTo pos (starEach [] X.env)).any (·.1) || (backToKw pos (keywordEach kws X.env)).any (·.1.isNone)) = false := by rfl) :
    PE X (.Call (.Name x np) [] kws pos) (tCallP (spD gh T ps.length f) p ks.length E0 tk) := by
  obtain ⟨fa, fd, hm, Fn, F⟩ := hF
  refine ⟨fun pins s σ H Q I h => ?_⟩
  refine wpAny_Call_Name_kw (ld_glob I hg hm ?_ hdb)
  refine PySem.W.callWith_KW0 (h₀ := X.base) I.ok.mod.kin Fn.kp hall (thn (hkw.run pos pins s σ H _ I h) fun ws s2 ⟨zs, H2, I2, rz, hl, q2⟩ => ⟨I2.kIn, ?_⟩) hpl
  rw [hks]
  obtain ⟨oc, od, kV, doc, pm, an, cdv, ct, osl, rfl, lk, hcd⟩ := Fn.ex
  refine wpAny_call (codeAny_mono (F.run X.A X.stack s2 H2 ⟨[], ks.zip ws⟩ (prm p ws) (prm p zs) Q E0 (hr.mono hk) I2.env0 (.of_eq (hb kV doc pm an cdv ct ws (by rw [← rz.length, hl]))) (vals_prm rz p) q2) fun r s' hq => ?_)
  cases r with
  | error e => exact hq.elim
  | ok fl =>
    cases fl with
    | ret u => exact I2.after hq
    | next => exact False.elim hq
    | brk => exact False.elim hq
    | cont => exact False.elim hq
section
variable {gh : Gh} {T : Tb} {ρ : Env} {E : XK} {te ta tb : TE} {m m1 m2 : M gh.S D}
theorem ev_callP {t : TA} {n k : Nat} {p : List Nat} {f : List D → M gh.S D} {ma : M gh.S (List D)} (ha : EvA gh T t ρ ma) : EvD gh T (tCallP (spD gh T n f) p k E t) ρ (bnd ma fun ds => chk (decide (ds.length = k ∧ (prm p ds).length = n)) (f (prm p ds))) := fun F H σ g d g' S e Q q => by
  obtain ⟨ds, g1, e1, e2⟩ := bnd_inv e
  obtain ⟨hc, ea⟩ := chk_inv e2
  obtain ⟨h1, h2⟩ := of_decide_eq_true hc
  refine ha F H σ g ds g1 S e1 _ fun vs H1 G1 p1 r1 => ⟨by rw [r1.length]; exact h1, ?_⟩
  exact ⟨G1, g1, prm p ds, d, g', p1.gh', (S.step p1).mf, p1.gi, rps_prm r1 p, h2, ea, fun v H' G P r => q v H' G (p1.trans S.gi P) r⟩
/-! ### texts replaced in -/
def replC (y z : Str) : D → Option D
  | .str x => if x.length + (x.length + 1) * z.length ≤ 16777216 then some (.str (Txt.replace x y z)) else none
  | _ => none
theorem ev_replC {y z : Str} (h : EvD gh T te ρ m) : EvD gh T (CwR.tReplC te y z) ρ (bnd m fun d => lft (replC y z d)) := fun F H σ g d' g' S e Q k => by
  obtain ⟨d, g1, e1, e2⟩ := bnd_inv e
  obtain ⟨e3, rfl⟩ := lft_inv e2
  refine h F H σ g d _ S e1 _ fun v H1 G1 p r => ?_
  cases d with
  | str x =>
    obtain ⟨hl, rfl⟩ := gd e3
    cases r
    exact ⟨x, rfl, hl, k _ H1 G1 p rfl⟩
  | _ => cases e3
theorem pa_strT {X : Cx} {x : Str} {j : Nat} {c0 : Pos} {es : List Expr} {ta : TA} (hr : PAT X es ta) (hs : starEach (.Constant (.str x) j c0 :: es) X.env = (false, eval (.Constant (.str x) j c0) X.env) :: starEach es X.env := by rfl) : PA X (.Constant (.str x) j c0 :: es) (tCons (tC (.str x)) ta) := by
  refine ⟨fun pos pins s σ H Q I h => ?_⟩
  rw [hs]
  show wpAny _ _ (spliced ((false, eval (.Constant (.str x) j c0) X.env) :: backTo pos (starEach es X.env))) _ _ s
  refine Calls.spliced_cons (Calls.Constant_str ?_)
  exact thn (hr pos pins { s with toks := s.toks + 1 } σ H _ (by show 1 ≤ s.toks + 1; omega) (I.tok _) h) fun us s2 ⟨xs, H2, I2, r2, q2⟩ => ⟨.str x :: xs, H2, I2, .cons ⟨_, rfl⟩ r2, q2⟩
/-- xs[::-1] of a list -/
theorem en_rev {ms : M gh.S (Bool × List D)} (h : EvQ gh T te ρ ms) : EvN gh T (tRevL T.K te) ρ (bnd ms fun p => chk p.1 (ret p.2.reverse)) := fun F H σ g ds g' S e Q k => by
  obtain ⟨⟨b, es⟩, g1, e1, e2⟩ := bnd_inv e
  obtain ⟨hb, e3⟩ := chk_inv e2
  obtain ⟨rfl, rfl⟩ := ret_inv e3
  have hb : b = true := hb
  subst hb
  refine h F H σ g true es _ S e1 _ fun a xs H1 G1 p q r => ⟨a, xs, rfl, SqL.of (q H1 fun x o _ z => z), fun l hl => ?_⟩
  exact k l _ _ G1 (p.lay hl) (p.was hl) (p.gh'.free hl) upd_same r.reverse
end
end Py
namespace Py
open PySem L2
/-! ### the promise of a def under any deal -/
def spU (K : PySem.W.Frag) (cl : Nat → Option Addr) (n : Nat) (f : List D → M Dl D) : Sp := fun vs H Q E => ∃ a l, spD (ghd a l) (tb K cl (ptd a)) n f vs H Q E
theorem spU_len {K : PySem.W.Frag} {cl : Nat → Option Addr} {n : Nat} {f : List D → M Dl D} : ∀ vs H Q (E : XK), spU K cl n f vs H Q E → vs.length = n := fun vs H Q E ⟨a, l, h⟩ => spD_len vs H Q E h
structure GU (P : Program) (w : World) (K : PySem.W.Frag) (mg : Str → Option Value) (base : Heap) (cl : Nat → Option Addr) (x : Str) (k : Nat) (ps : List Str) (f : List D → M Dl D) : Prop where
  ex : ∃ fa fd, mg x = some (.ref fa) ∧ PySem.W.keepIn K (.ref fa) = true ∧ Binds K fd ps [] ∧ FnOk P w K mg base CX0 k fa fd ps (spU K cl ps.length f)
section
variable {X : Cx} {cl : Nat → Option Addr} {k : Nat} {x : Str} {p pos : Pos} {e : Expr} {es : List Expr} {t : TA} {ps : List Str} {f : List D → M Dl D}
theorem pe_gu {j : Nat} (F : GU X.prog X.w X.K X.mg X.base cl x k ps f) (hr : Room j X.A) (hk : k ≤ j) (hg : Gl X x) (ha : PA X (e :: es) t) (hdb : (x == ("__debug__" : Str)) = false := by decide) (he : starEach (e :: es) X.env = (false, eval e X.env) :: starEach es X.env := by rfl) (hpl : (backTo pos (starEach es X.env)).any (·.1) = false := by rfl) :
    PE X (.Call (.Name x p) (e :: es) [] pos) (tCall (spU X.K cl ps.length f) [] E0 t) := by
  obtain ⟨fa, fd, hm, kp, hb, F⟩ := F.ex
  exact pe_call F (hr.mono hk) hg hm kp hb .nil pass0 ha hdb he hpl
theorem pe_gu0 {j : Nat} (F : GU X.prog X.w X.K X.mg X.base cl x k ps f) (hr : Room j X.A) (hk : k ≤ j) (hg : Gl X x) (hdb : (x == ("__debug__" : Str)) = false := by decide) :
    PE X (.Call (.Name x p) [] [] pos) (tCall (spU X.K cl ps.length f) [] E0 tNil) := by
  obtain ⟨fa, fd, hm, kp, hb, F⟩ := F.ex
  exact pe_call0 F (hr.mono hk) hg hm kp hb .nil pass0 hdb
end
section
variable {K : PySem.W.Frag} {cl : Nat → Option Addr} {a l : Addr} {ρ : Env} {E : XK}
abbrev EvU (K : PySem.W.Frag) (cl : Nat → Option Addr) (a l : Addr) (te : TE) (ρ : Env) (m : M Dl D) : Prop := EvD (ghd a l) (tb K cl (ptd a)) te ρ m
theorem EvD.toU {n : Nat} {f : List D → M Dl D} {t : TA} {m : M Dl D} (h : EvU K cl a l (tCall (spD (ghd a l) (tb K cl (ptd a)) n f) [] E t) ρ m) (mono : ∀ σ H (Q Q' : List V → Hp → Prop), (∀ vs H, Q vs H → Q' vs H) → t σ H Q → t σ H Q') :
    EvU K cl a l (tCall (spU K cl n f) [] E t) ρ m := fun F H σ g d g' S e Q k => mono _ _ _ _ (fun vs H q => ⟨a, l, q⟩) (h F H σ g d g' S e Q k)
end
section
variable {K : PySem.W.Frag} {cl : Nat → Option Addr} {a l : Addr} {ρ : Env} {E : XK} {n : Nat}
theorem eu_call {t : TA} {ma : M Dl (List D)} {f : List D → M Dl D} (hn : ∀ g ds g', ma g = some (ds, g') → ds.length = n) (ha : EvA (ghd a l) (tb K cl (ptd a)) t ρ ma) : EvU K cl a l (tCall (spU K cl n f) [] E t) ρ (bnd ma f) := fun F H σ g d g' S e Q k => by
  obtain ⟨ds, g1, e1, ea⟩ := bnd_inv e
  refine ha F H σ g ds g1 S e1 _ fun vs H1 G1 p1 r1 => ?_
  rw [List.append_nil]
  exact ⟨a, l, G1, g1, ds, d, g', p1.gh', (S.step p1).mf, p1.gi, r1, hn _ _ _ e1, ea, fun v H' G P r => k v H' G (p1.trans S.gi P) r⟩
theorem eu_0 {f : M Dl D} : EvU K cl a l (tCall (spU K cl 0 (A0 f)) [] E tNil) ρ f := eu_call (f := A0 f) (ma := ret []) (fun g ds g' h => by cases h; rfl) ea_nil
theorem eu_1 {f : D → M Dl D} {t1 : TE} {m1 : M Dl D} (h1 : EvU K cl a l t1 ρ m1) : EvU K cl a l (tCall (spU K cl 1 (A1 f)) [] E (tCons t1 tNil)) ρ (bnd m1 fun x => f x) :=
  (eu_call (f := A1 f) (fun g ds g' h => by obtain ⟨_, _, _, h⟩ := bnd_inv h; cases h; rfl) (ea_cons h1 ea_nil)).of_eq (by simp only [bnd_assoc, bnd_ret]; rfl)
theorem eu_2 {f : D → D → M Dl D} {t1 t2 : TE} {m1 m2 : M Dl D} (h1 : EvU K cl a l t1 ρ m1) (h2 : EvU K cl a l t2 ρ m2) : EvU K cl a l (tCall (spU K cl 2 (A2 f)) [] E (tCons t1 (tCons t2 tNil))) ρ (bnd m1 fun x => bnd m2 fun y => f x y) :=
  (eu_call (f := A2 f) (fun g ds g' h => by obtain ⟨_, _, _, h⟩ := bnd_inv h; obtain ⟨_, _, h1, h⟩ := bnd_inv h; cases h; obtain ⟨_, _, _, h⟩ := bnd_inv h1; cases h; rfl) (ea_cons h1 (ea_cons h2 ea_nil))).of_eq (by simp only [bnd_assoc, bnd_ret]; rfl)
theorem eu_3 {f : D → D → D → M Dl D} {t1 t2 t3 : TE} {m1 m2 m3 : M Dl D} (h1 : EvU K cl a l t1 ρ m1) (h2 : EvU K cl a l t2 ρ m2) (h3 : EvU K cl a l t3 ρ m3) : EvU K cl a l (tCall (spU K cl 3 (A3 f)) [] E (tCons t1 (tCons t2 (tCons t3 tNil)))) ρ (bnd m1 fun x => bnd m2 fun y => bnd m3 fun z => f x y z) :=
  (eu_call (f := A3 f) (fun g ds g' h => by obtain ⟨_, _, _, h⟩ := bnd_inv h; obtain ⟨_, _, h1, h⟩ := bnd_inv h; cases h; obtain ⟨_, _, _, h⟩ := bnd_inv h1; obtain ⟨_, _, h1, h⟩ := bnd_inv h; cases h; obtain ⟨_, _, _, h⟩ := bnd_inv h1; cases h; rfl) (ea_cons h1 (ea_cons h2 (ea_cons h3 ea_nil)))).of_eq (by simp only [bnd_assoc, bnd_ret]; rfl)
theorem eu_4 {f : D → D → D → D → M Dl D} {t1 t2 t3 t4 : TE} {m1 m2 m3 m4 : M Dl D} (h1 : EvU K cl a l t1 ρ m1) (h2 : EvU K cl a l t2 ρ m2) (h3 : EvU K cl a l t3 ρ m3) (h4 : EvU K cl a l t4 ρ m4) : EvU K cl a l (tCall (spU K cl 4 (A4 f)) [] E (tCons t1 (tCons t2 (tCons t3 (tCons t4 tNil))))) ρ (bnd m1 fun x => bnd m2 fun y => bnd m3 fun z => bnd m4 fun u => f x y z u) :=
  (eu_call (f := A4 f) (fun g ds g' h => by obtain ⟨_, _, _, h⟩ := bnd_inv h; obtain ⟨_, _, h1, h⟩ := bnd_inv h; cases h; obtain ⟨_, _, _, h⟩ := bnd_inv h1; obtain ⟨_, _, h1, h⟩ := bnd_inv h; cases h; obtain ⟨_, _, _, h⟩ := bnd_inv h1; obtain ⟨_, _, h1, h⟩ := bnd_inv h; cases h; obtain ⟨_, _, _, h⟩ := bnd_inv h1; cases h; rfl) (ea_cons h1 (ea_cons h2 (ea_cons h3 (ea_cons h4 ea_nil))))).of_eq (by simp only [bnd_assoc, bnd_ret]; rfl)
theorem eu_5 {f : D → D → D → D → D → M Dl D} {t1 t2 t3 t4 t5 : TE} {m1 m2 m3 m4 m5 : M Dl D} (h1 : EvU K cl a l t1 ρ m1) (h2 : EvU K cl a l t2 ρ m2) (h3 : EvU K cl a l t3 ρ m3) (h4 : EvU K cl a l t4 ρ m4) (h5 : EvU K cl a l t5 ρ m5) : EvU K cl a l (tCall (spU K cl 5 (A5 f)) [] E (tCons t1 (tCons t2 (tCons t3 (tCons t4 (tCons t5 tNil)))))) ρ (bnd m1 fun x => bnd m2 fun y => bnd m3 fun z => bnd m4 fun u => bnd m5 fun v => f x y z u v) :=
  (eu_call (f := A5 f) (fun g ds g' h => by obtain ⟨_, _, _, h⟩ := bnd_inv h; obtain ⟨_, _, h1, h⟩ := bnd_inv h; cases h; obtain ⟨_, _, _, h⟩ := bnd_inv h1; obtain ⟨_, _, h1, h⟩ := bnd_inv h; cases h; obtain ⟨_, _, _, h⟩ := bnd_inv h1; obtain ⟨_, _, h1, h⟩ := bnd_inv h; cases h; obtain ⟨_, _, _, h⟩ := bnd_inv h1; obtain ⟨_, _, h1, h⟩ := bnd_inv h; cases h; obtain ⟨_, _, _, h⟩ := bnd_inv h1; cases h; rfl) (ea_cons h1 (ea_cons h2 (ea_cons h3 (ea_cons h4 (ea_cons h5 ea_nil)))))).of_eq (by simp only [bnd_assoc, bnd_ret]; rfl)
theorem eu_callP {t : TA} {k : Nat} {p : List Nat} {f : List D → M Dl D} {ma : M Dl (List D)} (ha : EvA (ghd a l) (tb K cl (ptd a)) t ρ ma) : EvU K cl a l (tCallP (spU K cl n f) p k E t) ρ (bnd ma fun ds => chk (decide (ds.length = k ∧ (prm p ds).length = n)) (f (prm p ds))) := fun F H σ g d g' S e Q q => by
  obtain ⟨ds, g1, e1, e2⟩ := bnd_inv e
  obtain ⟨hc, ea⟩ := chk_inv e2
  obtain ⟨h1, h2⟩ := of_decide_eq_true hc
  refine ha F H σ g ds g1 S e1 _ fun vs H1 G1 p1 r1 => ⟨by rw [r1.length]; exact h1, ?_⟩
  exact ⟨a, l, G1, g1, prm p ds, d, g', p1.gh', (S.step p1).mf, p1.gi, rps_prm r1 p, h2, ea, fun v H' G P r => q v H' G (p1.trans S.gi P) r⟩
end
theorem pe_guk {X : Cx} {cl : Nat → Option Addr} {k j : Nat} {x y q : Str} {st : Stmt} {np pos : Pos} {ps ks : List Str} {f : List D → M Dl D} {kws : List Keyword} {tk : TA} (p : List Nat)
    (hF : ∃ fa fd, X.mg x = some (.ref fa) ∧ Fun X.K y q st fa fd ∧ FnOk X.prog X.w X.K X.mg X.base CX0 k fa fd ps (spU X.K cl ps.length f)) (hr : Room j X.A) (hk : k ≤ j) (hg : Gl X x)
    (hb : ∀ (kV doc pm : Value) (an : Option Addr) (cdv ct : Value) (ws : List Value), ws.length = ks.length → bindArgs (PySem.W.fnOf y q (defArgs st) (defBody st) (defScope st) .none kV doc pm an cdv ct) ⟨[], ks.zip ws⟩ = pure (ps.zip (prm p ws)))
    (hkw : PK X kws tk) (hall : (backToKw pos (keywordEach kws X.env)).all (·.1.isSome) = true := by rfl) (hks : (backToKw pos (keywordEach kws X.env)).filterMap (·.1) = ks := by rfl)
    (hdb : (x == ("__debug__" : Str)) = false := by decide) (hpl : ((backTo pos (starEach [] X.env)).any (·.1) || (backToKw pos (keywordEach kws X.env)).any (·.1.isNone)) = false := by rfl) :
    PE X (.Call (.Name x np) [] kws pos) (tCallP (spU X.K cl ps.length f) p ks.length E0 tk) := by
  obtain ⟨fa, fd, hm, Fn, F⟩ := hF
  refine ⟨fun pins s σ H Q I h => ?_⟩
  refine wpAny_Call_Name_kw (ld_glob I hg hm ?_ hdb)
  refine PySem.W.callWith_KW0 (h₀ := X.base) I.ok.mod.kin Fn.kp hall (thn (hkw.run pos pins s σ H _ I h) fun ws s2 ⟨zs, H2, I2, rz, hl, q2⟩ => ⟨I2.kIn, ?_⟩) hpl
  rw [hks]
  obtain ⟨oc, od, kV, doc, pm, an, cdv, ct, osl, rfl, lk, hcd⟩ := Fn.ex
  refine wpAny_call (codeAny_mono (F.run X.A X.stack s2 H2 ⟨[], ks.zip ws⟩ (prm p ws) (prm p zs) Q E0 (hr.mono hk) I2.env0 (.of_eq (hb kV doc pm an cdv ct ws (by rw [← rz.length, hl]))) (vals_prm rz p) q2) fun r s' hq => ?_)
  cases r with
  | error e => exact hq.elim
  | ok fl =>
    cases fl with
    | ret u => exact I2.after hq
    | next => exact False.elim hq
    | brk => exact False.elim hq
    | cont => exact False.elim hq
/-- a body under any deal -/
theorem spU_run {K : PySem.W.Frag} {cl : Nat → Option Addr} {N : List Str} {n : Nat} {f : List D → M Dl D} {t : TS} (hN : n ≤ N.length) (h : ∀ (a l : Addr) (ds : List D), ds.length = n → EvB (ghd a l) (tb K cl (ptd a)) t (ds.map Cell.val ++ List.replicate (N.length - n) Cell.no) (f ds) (cFn (ghd a l)))
    {vs : List V} {H : Hp} {Q : VK} {E : XK} (hs : spU K cl n f vs H Q E) : t { nx := fun _ H' => Q .non H', rt := Q } (L2.start N vs) H := by
  obtain ⟨a, l, hs⟩ := hs
  exact spD_run hN (h a l) hs
end Py

set_option Elab.async false
set_option linter.all false
set_option maxRecDepth 100000
set_option maxHeartbeats 4000000
namespace Py
open PySem L2
def spDeal (K : PySem.W.Frag) : Sp := fun vs H Q _ => ∃ (p : Addr) (ns : List Int) (salt : Int), vs = [.ref p, .int salt] ∧ SqL K H p (ns.map V.int) ∧ ns.length ≤ 63 ∧ 0 ≤ salt ∧ salt ≤ 1000 ∧
  ∀ (H' : Hp) (a l : Addr) (cells : List Int) (mix : Int), (∀ b o, H b = some o → H' b = some o) → H a = none → H l = none → a ≠ l → H' a = some (.lst [.ref l, .int mix]) → H' l = some (.lst (cells.map V.int)) → 0 ≤ mix → mix < 2147483647 → cells.length ≤ 63 → Q (.ref a) H'
def spLaw (K : PySem.W.Frag) : Sp := fun vs H Q _ => ∃ (a : Addr) (ns : List Int), vs = [.ref a] ∧ SqL K H a (ns.map V.int) ∧ ns.length ≤ 63 ∧ ∀ H', Q (.bl true) H'
def okDl (t : Dl) : Prop := 0 ≤ t.2 ∧ t.2 < 2147483647 ∧ t.1.length ≤ 63
theorem Stt.none {gh : Gh} {T : Tb} {H : Hp} {σ : L2.St} {g : gh.S} (hg : gh.I g H) : Stt gh T (fun _ => none) H σ (List.replicate σ.length .no) g := by
  refine ⟨(fun _ _ h => nomatch h), fun _ _ => rfl, hg, by simp, fun i c hc => ?_, fun i j a m m' h _ _ _ => ?_⟩
  · rw [List.getElem?_replicate] at hc
    split at hc
    · rename_i hl; cases hc; exact ⟨_, List.getElem?_eq_getElem hl, trivial⟩
    · cases hc
  · rw [List.getElem?_replicate] at h
    split at h <;> cases h
theorem SB.none {gh : Gh} {T : Tb} {H : Hp} {σ : L2.St} {g : gh.S} (hg : gh.I g H) : SB gh T (fun _ => none) (fun _ => none) (fun _ => none) (fun _ => none) H σ (List.replicate σ.length .no) g :=
  ⟨.none hg, ⟨Same.refl _, (fun _ _ h => nomatch h), (fun _ _ _ h => nomatch h), fun _ h _ => h, hg⟩, fun _ _ => rfl, Same.refl _⟩
/-- the law behind its deal -/
theorem law_run {K : PySem.W.Frag} {cl : Nat → Option Addr} {N : List Str} {i j : Nat} {salt : Int} {t : TS} {m : M Dl D} {E : XK} (h0 : 0 ≤ salt) (h1 : salt ≤ 1000) (hij : i ≠ j) (hN : 0 < N.length)
    (h : ∀ a l, EvB (ghd a l) (tb K cl (ptd a)) t (((List.replicate N.length .no).set i (.val (.ptr 0))).set j (.own (.lst []))) m (cFn (ghd a l)))
    (hm : ∀ d : Dl, okDl d → ∃ d', m d = some (.bl true, d')) {vs : List V} {H : Hp} {Q : VK} {E' : XK} (hs : spLaw K vs H Q E') :
    tSeq (tPar i j (tCons (tCall (spDeal K) [] E (tCons (tVar 0) (tCons (tC (.int salt)) tNil))) (tCons (tLst tNil) tNil))) t { nx := fun _ H' => Q .non H', rt := Q } (L2.start N vs) H := by
  obtain ⟨p, ns, rfl, hp, hl, q⟩ := hs
  refine ⟨.ref p, by unfold L2.start; rfl, ?_⟩
  refine ⟨p, ns, salt, rfl, hp, hl, h0, h1, fun H' a l cells mix kp ha hl' hal h3 h4 h5 h6 h7 => ?_⟩
  refine ⟨Nat.zero_le _, fun r hr => ?_⟩
  refine ⟨.ref a, .ref r, rfl, ?_⟩
  show t _ _ _
  have ne : ∀ {b : Addr} {o : HO}, H' b = some o → b ≠ r := fun {b o} e z => by rw [z, hr] at e; cases e
  have gi : (ghd a l).I (cells, mix) (upd H' r (.lst [])) := ⟨hal, by rw [upd_ne (ne h3)]; exact h3, by rw [upd_ne (ne h4)]; exact h4, h5, h6, h7⟩
  have S0 : SB (ghd a l) (tb K cl (ptd a)) (fun _ => none) (fun _ => none) (fun _ => none) (fun _ => none) (upd H' r (.lst [])) (L2.start N [.ref p]) (List.replicate (L2.start N [.ref p]).length .no) (cells, mix) := .none gi
  have sl : (L2.start N [.ref p]).length = N.length := by unfold L2.start; simp; omega
  rw [sl] at S0
  have S1 := S0.set (d := .ptr 0) (v := .ref a) ⟨a, rfl, rfl⟩ i
  have hM : ¬ (ghd a l).M r := fun z => by
    rcases z with z | z
    · exact ne h3 z.symm
    · exact ne h4 z.symm
  have hno : ¬ Own ((L2.start N [V.ref p]).set i (some (.ref a))) ((List.replicate N.length Cell.no).set i (.val (.ptr 0))) r := fun ⟨k, mo, e1, e2⟩ => by
    rw [List.getElem?_set] at e1
    split at e1
    · split at e1 <;> cases e1
    · rw [List.getElem?_replicate] at e1
      split at e1 <;> cases e1
  have S2 := S1.setOwn (ds := []) (p := r) (xs := []) rfl upd_same rfl hM rfl hno j
  obtain ⟨d', e⟩ := hm (cells, mix) ⟨h5, h6, h7⟩
  refine h a l _ _ _ _ _ _ (cells, mix) (.bl true) d' S2 e _ ?_ ?_ (fun _ _ _ _ _ _ h => h.elim) (fun _ _ _ _ _ _ h => h.elim)
  · rintro ρ' mm F' H' σ' g1 rfl S' e'
    obtain ⟨e1, e2⟩ := ret_inv e'
    cases e1
  · rintro d mm v F' H2 g1 rfl P r' e'
    obtain ⟨rfl, rfl⟩ := ret_inv e'
    cases r'
    exact q H2
end Py
namespace Py
open PySem L2
section
variable {X : Cx} {A : Around} {k : Nat}
theorem pe_gk {mg : Str → Option Value} {x : Str} {pos : Pos} {v : V} (h : ∃ u, mg x = some u ∧ RelV v u) (hg : Gl X x := by rfl) (e : X.mg = mg := by rfl) (hd : (x == ("__debug__" : Str)) = false := by decide) : PE X (.Name x pos) (tC v) := by
  subst e
  obtain ⟨u, hm, r⟩ := h
  exact pe_glob hg hm r hd
variable {K : PySem.W.Frag}
theorem oEq (r : Room k A) (e : X.A = A := by rfl) (eK : X.K = K := by rfl) : OpR X (compareOp .Eq) (rEqA K) := eK ▸ opEq (by rw [e]; exact hu64 r)
theorem oNe (r : Room k A) (e : X.A = A := by rfl) (eK : X.K = K := by rfl) : OpR X (compareOp .NotEq) (rNeA K) := eK ▸ opNe (by rw [e]; exact hu64 r)
theorem oIn (r : Room k A) (e : X.A = A := by rfl) (eK : X.K = K := by rfl) : OpR X (compareOp .In) (rInA K false) := eK ▸ opIn (by rw [e]; exact hu65 r)
theorem oNi (r : Room k A) (e : X.A = A := by rfl) (eK : X.K = K := by rfl) : OpR X (compareOp .NotIn) (rInA K true) := eK ▸ opNi (by rw [e]; exact hu65 r)
theorem oAdd (eK : X.K = K := by rfl) : OpR X (binaryOp .Add) (rAddA K) := eK ▸ opAdd
theorem kIx (eK : X.K = K := by rfl) : IxR X (rIx K) := eK ▸ ix_seq
theorem kSl (eK : X.K = K := by rfl) : SlR X (rSlAny K) := eK ▸ slAny
theorem kLen (eK : X.K = K := by rfl) : CallR X (.builtin "len") (rLenA K) := eK ▸ call_len
theorem kIsi (eK : X.K = K := by rfl) : CallR X (.builtin "isinstance") (rIsi K) := eK ▸ call_isi
theorem kIsiT (eK : X.K = K := by rfl) : CallR X (.builtin "isinstance") (rIsiT K) := eK ▸ call_isiT
theorem kTupOf (eK : X.K = K := by rfl) : CallR X (.type "tuple") (rTupA K) := eK ▸ call_tuple_of
theorem kListOf (eK : X.K = K := by rfl) : CallR X (.type "list") (rLstA K) := eK ▸ call_list_of
theorem kSum (hc : X.calm = true := by rfl) (eK : X.K = K := by rfl) : CallR X (.builtin "sum") (rSum K) := eK ▸ cr_sum hc
theorem kMax (hc : X.calm = true := by rfl) (eK : X.K = K := by rfl) : CallR X (.builtin "max") (rMaxA K) := eK ▸ clMax hc
theorem kMin (hc : X.calm = true := by rfl) (eK : X.K = K := by rfl) : CallR X (.builtin "min") (rMinA K) := eK ▸ clMin hc
theorem kJoin {o e : Expr} {to te : TE} {apos pos : Pos} (ho : PE X o to) (he : PE X e te) (hs : starEach [e] X.env = [(false, eval e X.env)] := by rfl) (hbase : attributeBase o "join" X.env (eval o X.env) = eval o X.env := by rfl) (hline : (apos.endLine == pos.line) = true := by rfl) (eK : X.K = K := by rfl) :
    PE X (.Call (.Attribute o "join" apos) [e] [] pos) (tM1 (rJoinA K) to te) := by subst eK; exact pe_join ho he hs hbase hline
theorem kSrc {tg l : Expr} {tl : TE} (hl : PE X l tl) (eK : X.K = K := by rfl) : PI X tg l (iSrc K tl) := by subst eK; exact pi_src hl
theorem kEnum {e : Expr} {ta : TA} {p pos tpos : Pos} {elts : List Expr} {kk : Nat} (hg : Gl X "enumerate") (hm : X.mg "enumerate" = none) (ha : PA X [e] ta) (hs : starEach [e] X.env = [(false, eval e X.env)] := by rfl) (eK : X.K = K := by rfl) :
    PI X (.Tuple elts kk tpos) (.Call (.Name "enumerate" p) [e] [] pos) (iEnumS K ta) := by subst eK; exact pi_enumS hg hm ha hs
theorem kZip {e e2 : Expr} {ta : TA} {p pos tpos : Pos} {elts : List Expr} {kk : Nat} (hg : Gl X "zip") (hm : X.mg "zip" = none) (ha : PA X [e, e2] ta)
    (hs : starEach [e, e2] X.env = (false, eval e X.env) :: starEach [e2] X.env := by rfl) (hpl : (backTo pos (starEach [e2] X.env)).any (·.1) = false := by rfl) (eK : X.K = K := by rfl) :
    PI X (.Tuple elts kk tpos) (.Call (.Name "zip" p) [e, e2] [] pos) (iZipS K ta) := by subst eK; exact pi_zipS hg hm ha hs hpl
theorem kListzip {e e2 : Expr} {ta : TA} {p p2 pos pos2 : Pos} (hg : Gl X "list") (hm : X.mg "list" = none) (hg2 : Gl X "zip") (hm2 : X.mg "zip" = none) (ha : PA X [e, e2] ta) (hc : X.calm = true := by rfl)
    (hs0 : starEach [.Call (.Name "zip" p2) [e, e2] [] pos2] X.env = (false, eval (.Call (.Name "zip" p2) [e, e2] [] pos2) X.env) :: starEach [] X.env := by rfl)
    (hs : starEach [e, e2] X.env = (false, eval e X.env) :: starEach [e2] X.env := by rfl) (hpl : (backTo pos2 (starEach [e2] X.env)).any (·.1) = false := by rfl) (eK : X.K = K := by rfl) :
    PE X (.Call (.Name "list" p) [.Call (.Name "zip" p2) [e, e2] [] pos2] [] pos) (tCB (rLZ K) ta) := by subst eK; exact pe_listzip hc hg hm hg2 hm2 ha hs0 hs hpl
theorem kGTup {es : List Expr} {j : Nat} {pos : Pos} {t : TGs} {n : Nat} (h : PGs X es t) (hc : X.calm = true := by rfl)
    (hn : (assignEach es X.env).length = n := by rfl) (hst : (assignEach es X.env).findIdx? (·.1) = none := by rfl) (eK : X.K = K := by rfl) : PG X (.Tuple es j pos) (gTup K n t) := by subst eK; exact pg_tup hc h hn hst
theorem kGu {P : Program} {w : World} {mg : Str → Option Value} {base : Heap} {cl : Nat → Option Addr} {x : Str} {p pos : Pos} {e : Expr} {es : List Expr} {t : TA} {ps : List Str} {f : List D → M Dl D} {i j : Nat} (F : GU P w K mg base cl x i ps f) (hr : Room j A) (hk : i ≤ j) (hg : Gl X x) (ha : PA X (e :: es) t) (hdb : (x == ("__debug__" : Str)) = false := by decide) (he : starEach (e :: es) X.env = (false, eval e X.env) :: starEach es X.env := by rfl) (hpl : (backTo pos (starEach es X.env)).any (·.1) = false := by rfl)
    (eP : X.prog = P := by rfl) (ew : X.w = w := by rfl) (eK : X.K = K := by rfl) (em : X.mg = mg := by rfl) (eb : X.base = base := by rfl) (eA : X.A = A := by rfl) :
    PE X (.Call (.Name x p) (e :: es) [] pos) (tCall (spU K cl ps.length f) [] E0 t) := by subst eP ew eK em eb eA; exact pe_gu F hr hk hg ha hdb he hpl
theorem kGu0 {P : Program} {w : World} {mg : Str → Option Value} {base : Heap} {cl : Nat → Option Addr} {x : Str} {p pos : Pos} {ps : List Str} {f : List D → M Dl D} {i j : Nat} (F : GU P w K mg base cl x i ps f) (hr : Room j A) (hk : i ≤ j) (hg : Gl X x) (hdb : (x == ("__debug__" : Str)) = false := by decide)
    (eP : X.prog = P := by rfl) (ew : X.w = w := by rfl) (eK : X.K = K := by rfl) (em : X.mg = mg := by rfl) (eb : X.base = base := by rfl) (eA : X.A = A := by rfl) :
    PE X (.Call (.Name x p) [] [] pos) (tCall (spU K cl ps.length f) [] E0 tNil) := by subst eP ew eK em eb eA; exact pe_gu0 F hr hk hg hdb
theorem kBm {o e : Expr} {es : List Expr} {to : TE} {t : TA} {name : Str} {apos cpos : Pos} {T id : String} {r : V → List V → Hp → VK → Prop} (pa : PlainAttrs T) (slot : Slot T name id) (hty : typeOf (.builtin id) = pure (.type "method_descriptor")) (hm : MtR X id r) (ho : PE X o to) (ha : PA X (e :: es) t)
    (hbase : attributeBase o name X.env (eval o X.env) = eval o X.env := by rfl)
    (hfew : ((backTo cpos (starEach (e :: es) X.env)).all (fun x => !x.1) && (backToKw cpos (keywordEach [] X.env)).all (fun x => x.1.isSome)
      && decide ((e :: es).length + ([] : List Keyword).length + (if ([] : List Keyword).isEmpty then 0 else 1) < 30)) = true := by rfl)
    (hline : (apos.endLine == cpos.line) = true := by rfl) (hs : starEach (e :: es) X.env = (false, eval e X.env) :: starEach es X.env := by rfl) (hplain : (backTo cpos (starEach es X.env)).any (·.1) = false := by rfl) (eK : X.K = K := by rfl) :
    PE X (.Call (.Attribute o name apos) (e :: es) [] cpos) (tBM K T r to t) := by subst eK; exact pe_bm pa slot hty hm ho ha hbase hfew hline hs hplain
theorem kBm0 {o : Expr} {to : TE} {name : Str} {apos cpos : Pos} {T id : String} {r : V → List V → Hp → VK → Prop} (pa : PlainAttrs T) (slot : Slot T name id) (hty : typeOf (.builtin id) = pure (.type "method_descriptor")) (hm : MtR X id r) (ho : PE X o to)
    (hbase : attributeBase o name X.env (eval o X.env) = eval o X.env := by rfl) (hline : (apos.endLine == cpos.line) = true := by rfl) (eK : X.K = K := by rfl) : PE X (.Call (.Attribute o name apos) [] [] cpos) (tBM0 K T r to) := by subst eK; exact pe_bm0 pa slot hty hm ho hbase hline
theorem kRev {e : Expr} {te : TE} {j : Nat} {p1 p2 p3 pos : Pos} (he : PE X e te) (eK : X.K = K := by rfl) : PE X (.Subscript e (.Slice none none (some (.UnaryOp .USub (.Constant (.int 1) j p1) p2)) p3) pos) (tRevL K te) := by subst eK; exact pe_revL he
end
end Py

set_option Elab.async false
set_option linter.all false
set_option maxRecDepth 100000
set_option maxHeartbeats 4000000
namespace Py
open PySem L2
/-! ### _law_any -/
abbrev tD0 (K : PySem.W.Frag) : TE := tOp (rIxL K) (tVar 0) (tC (.int 0))
abbrev tD1 (K : PySem.W.Frag) : TE := tOp (rIxL K) (tVar 0) (tC (.int 1))
abbrev rGtI : R2 := rI0 fun i j => .bl (decide (j < i))
abbrev rMulW : R2 := rI CMulW fun i j => .int (i * j)
abbrev rDivW : R2 := rI CDivW fun i j => .int (i / j)
abbrev rModI : R2 := rI (fun _ j => 0 < j) fun i j => .int (i % j)
abbrev rAddI : R2 := rI0 fun i j => .int (i + j)
abbrev tInt (te : TE) : TE := tCB rIntA (tCons te tNil)
def tAny (K : PySem.W.Frag) : TS :=
  tSeq (tWhile (tAnd (tTest (tOp rGtI (tCB (rLenA K) (tCons (tD0 K) tNil)) (tC (.int 0)))) (tTest (tOp rEq (tOp (rIxL K) (tD0 K) (tUn (rU fun i => .int (-i)) (tC (.int 1)))) (tC (.int 0))))) (tDrop (tBM0 K "list" rPop (tD0 K))))
  (tSeq (tIfS (tTest (tOp rGtI (tCB (rLenA K) (tCons (tD0 K) tNil)) (tC (.int 0))))
    (tSeq (tAsg (tInt (tBM0 K "list" rPop (tD0 K))) (gName 2)) (tSeq (tDrop (tBM K "list" rAppend (tD0 K) (tCons (tOp rDivW (tVar 2) (tVar 1)) tNil))) (tRet (tOp rModI (tVar 2) (tVar 1))))) tNext)
  (tSeq (tAsg (tOp rModI (tInt (tOp rAddI (tOp rMulW (tD1 K) (tC (.int 48271))) (tC (.int 31)))) (tC (.int 2147483647))) (gSub (tVar 0) (tC (.int 1)) rSetL))
    (tRet (tOp rModI (tInt (tOp rDivW (tD1 K) (tC (.int 64)))) (tVar 1)))))
theorem atI_neg1 {α : Type} {xs : List α} {v : α} (h : xs.getLast? = some v) : atI xs (-1) = some v := by
  obtain ⟨ys, rfl⟩ := List.getLast?_eq_some_iff.mp h
  exact atI_last ys v
theorem cutZ_snoc (xs : List Int) (x : Int) : cutZ (xs ++ [x]) = if x = 0 then cutZ xs else xs ++ [x] := by
  induction xs with
  | nil =>
    show (match cutZ [] with | [] => if x = 0 then [] else [x] | y :: ys => x :: y :: ys) = _
    rfl
  | cons y ys ih =>
    show (match cutZ (ys ++ [x]) with | [] => if y = 0 then [] else [y] | z :: zs => y :: z :: zs) = _
    rw [ih]
    by_cases h : x = 0
    · rw [if_pos h, if_pos h]; rfl
    · rw [if_neg h, if_neg h]
      cases ys with
      | nil => rfl
      | cons z zs => rfl
theorem cutZ_len (xs : List Int) : (cutZ xs).length ≤ xs.length := by
  induction xs with
  | nil => exact Nat.le_refl _
  | cons y ys ih =>
    show (match cutZ ys with | [] => if y = 0 then [] else [y] | z :: zs => y :: z :: zs : List Int).length ≤ _
    cases e : cutZ ys with
    | nil =>
      show (if y = 0 then [] else [y] : List Int).length ≤ _
      split <;> simp
    | cons z zs => rw [e] at ih; simp at ih ⊢; omega
/-- the deal as it stands, its cells cs, its mix m; all else as in H -/
structure DlAt (H : Hp) (a l : Addr) (cs : List Int) (m : Int) (H' : Hp) : Prop where
  ne : a ≠ l
  at_a : H' a = some (.lst [.ref l, .int m])
  at_l : H' l = some (.lst (cs.map V.int))
  off : ∀ b, b ≠ a → b ≠ l → H' b = H b
section
variable {K : PySem.W.Frag} {H H' : Hp} {a l : Addr} {cs cs' : List Int} {m m' : Int}
theorem DlAt.setL (h : DlAt H a l cs m H') (cs' : List Int) : DlAt H a l cs' m (upd H' l (.lst (cs'.map V.int))) :=
  ⟨h.ne, by rw [upd_ne h.ne]; exact h.at_a, upd_same, fun b h1 h2 => by rw [upd_ne h2]; exact h.off b h1 h2⟩
theorem DlAt.setA (h : DlAt H a l cs m H') (m' : Int) : DlAt H a l cs m' (upd H' a (.lst [.ref l, .int m'])) :=
  ⟨h.ne, upd_same, by rw [upd_ne (Ne.symm h.ne)]; exact h.at_l, fun b h1 h2 => by rw [upd_ne h1]; exact h.off b h1 h2⟩
theorem DlAt.d0 (h : DlAt H a l cs m H') {σ : L2.St} (hs : σ[0]? = some (some (.ref a))) {Q : VK} (q : Q (.ref l) H') : tD0 K σ H' Q :=
  ⟨.ref a, hs, a, _, 0, _, rfl, rfl, SqL.of h.at_a, atI_nat (j := 0) rfl, q⟩
theorem DlAt.d1 (h : DlAt H a l cs m H') {σ : L2.St} (hs : σ[0]? = some (some (.ref a))) {Q : VK} (q : Q (.int m) H') : tD1 K σ H' Q :=
  ⟨.ref a, hs, a, _, 1, _, rfl, rfl, SqL.of h.at_a, atI_nat (j := 1) rfl, q⟩
theorem DlAt.len (h : DlAt H a l cs m H') {σ : L2.St} (hs : σ[0]? = some (some (.ref a))) {Q : VK} (q : Q (.int (cs.length : Nat)) H') : tCB (rLenA K) (tCons (tD0 K) tNil) σ H' Q :=
  h.d0 hs ⟨.ref l, cs.length, rfl, .inl ⟨_, SqL.of h.at_l, by rw [List.length_map]⟩, q⟩
theorem DlAt.pop (h : DlAt H a l cs m H') {σ : L2.St} (hs : σ[0]? = some (some (.ref a))) {x : Int} (hx : cs.getLast? = some x) {Q : VK} (q : Q (.int x) (upd H' l (.lst (cs.dropLast.map V.int)))) : tBM0 K "list" rPop (tD0 K) σ H' Q := by
  refine h.d0 hs ⟨.inl ⟨rfl, _, SqL.of h.at_l⟩, l, cs.map V.int, .int x, rfl, rfl, h.at_l, ?_, ?_⟩
  · rw [List.length_map, List.getElem?_map, ← List.getLast?_eq_getElem?, hx]; rfl
  · rw [← List.map_dropLast]; exact q
end
theorem any_sem {K : PySem.W.Frag} {cl : Nat → Option Addr} {vs : List V} {H : Hp} {Q : VK} {E : XK} (h : spU K cl 2 (A2 any_m) vs H Q E) : tAny K { nx := fun _ H' => Q .non H', rt := Q } (L2.start ["deal", "bound", "rest"] vs) H := by
  obtain ⟨a, l, F, g, ds, d, g', ex, mf, gi, r, hl, e, q⟩ := h
  match ds, hl with
  | [d0, d1], _ =>
    have e : any_m d0 d1 g = some (d, g') := e
    unfold any_m at e
    cases d0 with
    | ptr k =>
      cases k with
      | succ k => cases e
      | zero =>
        cases d1 with
        | int n =>
          have e : (if 0 < n ∧ n < 1000000000 then (fun t => some (D.int (anyD n t).1, (anyD n t).2) : M Dl D) else fl) g = some (d, g') := e
          by_cases hn : 0 < n ∧ n < 1000000000
          · rw [if_pos hn] at e
            cases e
            obtain ⟨cs, mix⟩ := g
            obtain ⟨hne, h1, h2, hm0, hm1, hc⟩ := gi
            have h1 : H a = some (.lst [.ref l, .int mix]) := h1
            have h2 : H l = some (.lst (cs.map V.int)) := h2
            have hm0 : 0 ≤ mix := hm0
            have hm1 : mix < 2147483647 := hm1
            have hc : cs.length ≤ 63 := hc
            obtain ⟨v0, vr, rfl, ⟨a', rfl, ha'⟩, v1, vr1, rfl, r1, rn⟩ := r
            have r1 : v1 = .int n := r1
            subst r1
            have rn : vr1 = [] := rn
            subst rn
            have ha' : (if (0 : Nat) = 0 then some a else none) = some a' := ha'
            rw [if_pos rfl] at ha'
            cases ha'
            have hdiv : CDivW 0 n := ⟨hn.1, Nat.lt_of_lt_of_le (PySem.Flt.log2_lt_of (k := 30) (by decide) (by omega)) (by decide)⟩
            -- what is owed at the end
            have fin : ∀ {c : List Int} {m : Int} {H' : Hp} {z : Int}, DlAt H a l c m H' → 0 ≤ m → m < 2147483647 → c.length ≤ 63 → (c, m) = (anyD n (cs, mix)).2 → z = (anyD n (cs, mix)).1 → Q (.int z) H' := fun {c m H' z} dl p1 p2 p3 p4 p5 => by
              have offF : ∀ b o, F b = some o → H' b = some o := fun b o w => by
                have nb : ¬ (ghd a l).M b := fun z => by rw [mf b z] at w; cases w
                rw [dl.off b (fun z => nb (.inl z)) (fun z => nb (.inr z))]; exact ex b o w
              refine q (.int z) H' F ⟨Same.refl _, offF, fun b o mb w => ?_, fun b w _ => w, ?_⟩ (by rw [p5]; rfl)
              · rw [dl.off b (fun z => mb (.inl z)) (fun z => mb (.inr z))]; exact w
              · rw [← p4]; exact ⟨hne, dl.at_a, dl.at_l, p1, p2, p3⟩
            -- the loop
            refine ⟨fun k σ H' => ∃ c x2, k = c.length ∧ σ = [some (.ref a), some (.int n), x2] ∧ DlAt H a l c mix H' ∧ cutZ c = cutZ cs ∧ c.length ≤ 63, ⟨cs.length, cs, none, rfl, rfl, ⟨hne, h1, h2, fun _ _ _ => rfl⟩, rfl, hc⟩, ?_⟩
            rintro k σ H1 ⟨c, x2, rfl, rfl, dl, ec, hc1⟩
            refine dl.len rfl ⟨(c.length : Int), 0, rfl, rfl, _, rfl, ?_⟩
            -- the rest behind the loop
            have rest : c = cutZ cs → (tSeq (tIfS (tTest (tOp rGtI (tCB (rLenA K) (tCons (tD0 K) tNil)) (tC (.int 0))))
    (tSeq (tAsg (tInt (tBM0 K "list" rPop (tD0 K))) (gName 2)) (tSeq (tDrop (tBM K "list" rAppend (tD0 K) (tCons (tOp rDivW (tVar 2) (tVar 1)) tNil))) (tRet (tOp rModI (tVar 2) (tVar 1))))) tNext)
  (tSeq (tAsg (tOp rModI (tInt (tOp rAddI (tOp rMulW (tD1 K) (tC (.int 48271))) (tC (.int 31)))) (tC (.int 2147483647))) (gSub (tVar 0) (tC (.int 1)) rSetL))
    (tRet (tOp rModI (tInt (tOp rDivW (tD1 K) (tC (.int 64)))) (tVar 1))))) { nx := fun _ H' => Q .non H', rt := Q } [some (.ref a), some (.int n), x2] H1 := fun hcz => by
              refine dl.len rfl ⟨(c.length : Int), 0, rfl, rfl, _, rfl, ?_⟩
              by_cases h0 : c = []
              · subst h0
                rw [if_neg (by decide)]
                have ea : anyD n (cs, mix) = (((mix * 48271 + 31) % 2147483647 / 64) % n, ([], (mix * 48271 + 31) % 2147483647)) := by
                  unfold anyD
                  show (match (cutZ cs).getLast? with | some r => _ | none => _) = _
                  rw [← hcz]; rfl
                have b0 : 0 ≤ (mix * 48271 + 31) % 2147483647 := Int.emod_nonneg _ (by decide)
                have b1 : (mix * 48271 + 31) % 2147483647 < 2147483647 := Int.emod_lt_of_pos _ (by decide)
                have cm : CMulW mix 48271 := wide_mul (a := 31) (b := 16) (by omega) (by decide) (by decide) (by decide) (by decide)
                refine dl.d1 rfl ⟨mix, 48271, rfl, rfl, cm, _, _, rfl, rfl, .inl (.inl ⟨_, rfl, _, _, rfl, rfl, (show (0 : Int) < 2147483647 by decide), .ref a, rfl, a, _, 1, 1, rfl, rfl, dl.at_a, rfl, ?_⟩)⟩
                have dl2 := dl.setA ((mix * 48271 + 31) % 2147483647)
                refine dl2.d1 rfl ⟨_, 64, rfl, rfl, ⟨by decide, by decide⟩, .inl (.inl ⟨_, rfl, .int n, rfl, _, _, rfl, rfl, hn.1, ?_⟩)⟩
                exact fin dl2 b0 b1 (by decide) (by rw [ea]) (by rw [ea])
              · obtain ⟨x, hx⟩ : ∃ x, c.getLast? = some x := ⟨_, List.getLast?_eq_some_getLast h0⟩
                have hpos : 0 < c.length := List.length_pos_iff.mpr h0
                rw [if_pos (show decide ((0 : Int) < (c.length : Nat)) = true from decide_eq_true (by omega))]
                refine dl.pop rfl hx (.inl (.inl ⟨x, rfl, ?_⟩))
                have dl2 := dl.setL c.dropLast
                refine dl2.d0 rfl ⟨.inl ⟨rfl, _, SqL.of dl2.at_l⟩, .int x, rfl, .int n, rfl, x, n, rfl, rfl, ⟨hdiv.1, hdiv.2⟩, l, _, _, rfl, rfl, dl2.at_l, ?_, ?_⟩
                · rw [List.length_map, List.length_dropLast, ← LIM_eq]; unfold LIM; omega
                · have dl3 : DlAt H a l (c.dropLast ++ [x / n]) mix (upd (upd H1 l (.lst (c.dropLast.map V.int))) l (.lst (c.dropLast.map V.int ++ [.int (x / n)]))) := by
                    have := dl2.setL (c.dropLast ++ [x / n])
                    rw [List.map_append] at this; exact this
                  have ea : anyD n (cs, mix) = (x % n, (c.dropLast ++ [x / n], mix)) := by
                    unfold anyD
                    show (match (cutZ cs).getLast? with | some r => _ | none => _) = _
                    rw [← hcz, hx]
                  refine ⟨.int x, rfl, .int n, rfl, x, n, rfl, rfl, hn.1, ?_⟩
                  exact fin dl3 hm0 hm1 (by simp; omega) (by rw [ea]) (by rw [ea])
            by_cases h0 : c = []
            · subst h0
              show (if decide ((0 : Int) < ((0 : Nat) : Int)) = true then _ else _)
              rw [if_neg (by decide)]
              exact rest (by rw [← ec]; rfl)
            · obtain ⟨x, hx⟩ : ∃ x, c.getLast? = some x := ⟨_, List.getLast?_eq_some_getLast h0⟩
              have hpos : 0 < c.length := List.length_pos_iff.mpr h0
              show (if decide ((0 : Int) < (c.length : Nat)) = true then _ else _)
              rw [if_pos (show decide ((0 : Int) < (c.length : Nat)) = true from decide_eq_true (by omega))]
              have hcx : c = c.dropLast ++ [x] := by
                obtain ⟨ys, rfl⟩ := List.getLast?_eq_some_iff.mp hx
                simp
              refine dl.d0 rfl ⟨1, rfl, l, c.map V.int, -1, .int x, rfl, rfl, SqL.of dl.at_l, atI_neg1 (by rw [List.getLast?_map, hx]; rfl), rfl, _, rfl, ?_⟩
              rw [dec_int]
              by_cases hz : x = 0
              · subst hz
                rw [if_pos (show ((0 : Int) == 0) = true from rfl)]
                refine ⟨fun σ' H' => ∃ x2, σ' = [some (.ref a), some (.int n), x2] ∧ DlAt H a l c.dropLast mix H', fun σ' H' ⟨x2, e1, e2⟩ => ⟨c.dropLast.length, by rw [List.length_dropLast]; omega, c.dropLast, x2, rfl, e1, e2, ?_, by rw [List.length_dropLast]; omega⟩, ?_⟩
                · rw [← ec]
                  conv => rhs; rw [hcx]
                  rw [cutZ_snoc, if_pos rfl]
                · exact dl.pop rfl hx ⟨x2, rfl, dl.setL c.dropLast⟩
              · show (if (x == 0) = true then _ else _)
                rw [if_neg (by simpa using hz)]
                refine rest ?_
                rw [← ec]
                conv => rhs; rw [hcx]
                rw [cutZ_snoc, if_neg hz]; exact hcx
          · rw [if_neg hn] at e; cases e
        | _ => cases e
    | _ => cases e
end Py

set_option Elab.async false
set_option linter.all false
set_option maxRecDepth 100000
set_option maxHeartbeats 4000000
namespace Py
open PySem L2
/-! ### _law_deal -/
/-- the script stands -/
@[reducible] def ghS (p : Addr) (H0 : Hp) : Gh where
  S := Unit
  M := fun b => b = p ∧ H0 p ≠ none
  I := fun _ H => H0 p ≠ none → H p = H0 p
  there := fun _ H b h ⟨e, n⟩ z => by rw [e, h n] at z; exact n z
  keep := fun _ H H' h k n => by
    cases e : H0 p with
    | none => exact absurd e n
    | some o => exact k p o ⟨rfl, n⟩ (by rw [h n, e])
theorem sq_script {K : PySem.W.Frag} {p : Addr} {H0 H : Hp} {xs : List V} (h : SqL K H0 p xs) (i : H0 p ≠ none → H p = H0 p) : SqL K H p xs := by
  rcases h with (h | ⟨o, h⟩) | h
  · exact .inl (.inl (by rw [i (by rw [h]; exact fun z => nomatch z), h]))
  · exact .inl (.inr ⟨o, by rw [i (by rw [h]; exact fun z => nomatch z), h]⟩)
  · exact .inr h
theorem en_script {K : PySem.W.Frag} {cl : Nat → Option Addr} {p : Addr} {H0 : Hp} {ns : List Int} {ρ : Env} (h : SqL K H0 p (ns.map V.int)) (hl : ns.length ≤ 63) (h0 : ρ[0]? = some (.val (.ptr 0))) :
    EvN (ghS p H0) (tb K cl (ptd p)) (tSl (rSlAny K) (tVar 0) tNoPart (tPart (tC (.int 63)))) ρ (ret (ns.map D.int)) := fun F H σ g ds g' S e Q k => by
  obtain ⟨rfl, rfl⟩ := ret_inv e
  obtain ⟨v, hv, a, rfl, ha⟩ := S.val h0
  have ha' : (if (0 : Nat) = 0 then some p else none) = some a := ha
  rw [if_pos rfl] at ha'
  cases ha'
  have hs : SqL K H p (ns.map V.int) := sq_script h S.gi
  refine ⟨_, hv, 63, rfl, .inl ⟨p, ns.map V.int, rfl, hs, fun q hq => ?_⟩⟩
  have ec : cutV (ns.map V.int) none (some 63) = ns.map V.int := by
    unfold cutV
    rw [HT.sIx_none, show HT.sIx (ns.map V.int).length (ns.map V.int).length (some 63) = min 63 (ns.map V.int).length from HT.sIx_nat _ _ 63, List.drop_zero, Nat.sub_zero, List.length_map, Nat.min_eq_right hl]
    exact List.take_of_length_le (by rw [List.length_map]; exact Nat.le_refl _)
  rw [ec]
  have P := Post.refl S
  refine k q (ns.map V.int) _ F (P.lay hq) hq (S.ext.free hq) upd_same ?_
  refine .of_get (by simp) fun j d w h1 h2 => ?_
  rw [List.getElem?_map] at h1 h2
  cases e : ns[j]? with
  | none => rw [e] at h1; cases h1
  | some i => rw [e] at h1 h2; cases h1; cases h2; rfl
/-- .. to a knowledge, what is known given back -/
def cN {β : Type} (gh : Gh) (E : β → Env) : Cont gh.S β := ⟨fun ρ' mm => ∃ b, Wk ρ' (E b) ∧ mm = ret b, fun _ _ => False, fun _ _ => False, fun _ _ => False⟩
def tDealR (ti : TE) : TS := tRet (tLst (tCons ti (tCons (tVar 5) tNil)))
theorem deal_run {K : PySem.W.Frag} {t3 : TS} {ti : TE} {N : List Str} {E : List D × D → Env} {m1 : List Int → Int → M Unit (List D × D)} {m2 : List D × D → M Unit (List D)} (hN : N.length = 6)
    (h1 : ∀ (p : Addr) (H0 : Hp) (ns : List Int) (sl : Int), SqL K H0 p (ns.map V.int) → ns.length ≤ 63 → EvB (ghS p H0) (tb K (fun _ => none) (ptd p)) t3 [.val (.ptr 0), .val (.int sl), .no, .no, .no, .no] (m1 ns sl) (cN (ghS p H0) E))
    (h2 : ∀ (p : Addr) (H0 : Hp) (c : List D × D), EvN (ghS p H0) (tb K (fun _ => none) (ptd p)) ti (E c) (m2 c)) (hE : ∀ c, (E c)[5]? = some (.val c.2))
    (hv : ∀ (ns : List Int) (sl : Int), ns.length ≤ 63 → 0 ≤ sl → sl ≤ 1000 → ∃ (c : List D × D) (is : List Int) (mix : Int), m1 ns sl () = some (c, ()) ∧ c.2 = .int mix ∧ m2 c () = some (is.map D.int, ()) ∧ 0 ≤ mix ∧ mix < 2147483647 ∧ is.length ≤ 63)
    {vs : List V} {H : Hp} {Q : VK} {E' : XK} (hs : spDeal K vs H Q E') : tSeq t3 (tDealR ti) { nx := fun _ H' => Q .non H', rt := Q } (L2.start N vs) H := by
  obtain ⟨p, ns, sl, rfl, hp, hl, s0, s1, q⟩ := hs
  obtain ⟨c, is, mix, e1, e2, e3, e4, e5, e6⟩ := hv ns sl hl s0 s1
  have gi : (ghS p H).I () H := fun _ => rfl
  have S0 : SB (ghS p H) (tb K (fun _ => none) (ptd p)) (fun _ => none) (fun _ => none) (fun _ => none) (fun _ => none) H (L2.start N [.ref p, .int sl]) (List.replicate (L2.start N [.ref p, .int sl]).length .no) () := .none gi
  have sl6 : L2.start N [.ref p, .int sl] = [some (.ref p), some (.int sl), none, none, none, none] := by unfold L2.start; rw [hN]; rfl
  rw [sl6] at S0 ⊢
  have S1 := (S0.set (d := .ptr 0) (v := .ref p) ⟨p, rfl, rfl⟩ 0).set (d := .int sl) (v := .int sl) rfl 1
  refine h1 p H ns sl hp hl (fun _ => none) H (fun _ => none) _ H _ () c () ⟨S1.st, ⟨Same.refl _, (fun _ _ h => nomatch h), fun b o m w => w, fun _ h _ => h, gi⟩, fun b ⟨i, m, o1, o2⟩ => ?_, Same.refl _⟩ e1 _ ?_ (fun _ _ _ _ _ _ h => h.elim) (fun _ _ _ _ _ _ h => h.elim) (fun _ _ _ _ _ _ h => h.elim)
  · exfalso
    match i, o1 with
    | 0, o1 => cases o1
    | 1, o1 => cases o1
    | 2, o1 => cases o1
    | 3, o1 => cases o1
    | 4, o1 => cases o1
    | 5, o1 => cases o1
    | _ + 6, o1 => cases o1
  all_goals
    rintro ρ' mm F' H' σ' g1 ⟨b, hw, rfl⟩ S' e'
    obtain ⟨rfl, _⟩ := ret_inv e'
    have S2 := S'.wk hw
    have kp : ∀ b o, H b = some o → H' b = some o := fun b o w => by
      by_cases mb : (ghS p H).M b
      · obtain ⟨rfl, n⟩ := mb
        rw [S2.st.gi n]; exact w
      · exact S2.po.hh b o mb w
    refine h2 p H _ F' H' σ' () _ () S2.st e3 _ fun r xs H2 G2 P hr hG hx rr => ?_
    have kp2 : ∀ b o, H' b = some o → H2 b = some o := fun b o w => by
      by_cases mb : (ghS p H).M b
      · obtain ⟨rfl, n⟩ := mb
        have := P.gi n
        rw [this, ← S2.st.gi n]; exact w
      · exact P.hh b o mb w
    have ex : xs = is.map V.int := by
      have := rr.length
      refine List.ext_getElem? fun j => ?_
      cases hj : is[j]? with
      | none =>
        rw [List.getElem?_map, hj]
        exact List.getElem?_eq_none (by rw [this, List.length_map]; exact List.getElem?_eq_none_iff.mp hj)
      | some z =>
        obtain ⟨w, w1, w2⟩ := rr.get (i := j) (d := .int z) (by rw [List.getElem?_map, hj]; rfl)
        rw [w1, List.getElem?_map, hj]; exact congrArg some w2
    subst ex
    obtain ⟨w, w1, w2⟩ := S2.st.val (hE _)
    rw [e2] at w2
    have w2 : w = .int mix := w2
    subst w2
    refine ⟨_, w1, by show 2 ≤ sizeLine; decide, fun l hl' => ?_⟩
    have hrl : r ≠ l := fun z => by rw [← z, hx] at hl'; cases hl'
    have fr : ∀ {b : Addr}, H' b = none → H b = none := fun {b} z => by
      cases w : H b with
      | none => rfl
      | some o => rw [kp b o w] at z; cases z
    have fr2 : ∀ {b : Addr}, H2 b = none → H' b = none := fun {b} z => by
      cases w : H' b with
      | none => rfl
      | some o => rw [kp2 b o w] at z; cases z
    refine q _ l r is mix (fun b o w => ?_) (fr (fr2 hl')) (fr hr) hrl.symm upd_same ?_ e4 e5 e6
    · rw [upd_ne (fun z => by rw [z, fr (fr2 hl')] at w; cases w)]; exact kp2 b o (kp b o w)
    · rw [upd_ne hrl]; exact hx
theorem seq3 {a b c d : TS} {D : Ends} {σ : L2.St} {H : Hp} (h : tSeq (tSeq a (tSeq b c)) d D σ H) : tSeq a (tSeq b (tSeq c d)) D σ H := h
end Py

set_option Elab.async false
set_option linter.all false
set_option maxRecDepth 100000
set_option maxHeartbeats 4000000
namespace Py
open PySem L2
/-! ### plain laws of the mirrors -/
section
variable {γ : Type}
theorem lcM_all {k : D → M γ (Option D)} {h : D → D} : ∀ (ds : List D), (∀ d ∈ ds, k d = ret (some (h d))) → lcM k ds = ret (ds.map h)
  | [], _ => rfl
  | d :: ds, H => by
    show bnd (k d) _ = _
    rw [H d List.mem_cons_self, bnd_ret, lcM_all ds fun x hx => H x (List.mem_cons_of_mem _ hx)]; rfl
theorem lcM_filt {k : D → M γ (Option D)} {p : D → Bool} {h : D → D} : ∀ (ds : List D), (∀ d ∈ ds, k d = ret (if p d = true then some (h d) else none)) → lcM k ds = ret ((ds.filter p).map h)
  | [], _ => rfl
  | d :: ds, H => by
    show bnd (k d) _ = _
    rw [H d List.mem_cons_self, bnd_ret, lcM_filt ds fun x hx => H x (List.mem_cons_of_mem _ hx), bnd_ret, List.filter_cons]
    cases p d <;> rfl
theorem forL_inv {β : Type} {k : D → β → M γ β} (P : β → Prop) : ∀ (ds : List D) (b : β), (∀ d ∈ ds, ∀ b, P b → ∃ b', P b' ∧ k d b = ret b') → P b → ∃ b', P b' ∧ forL k ds b = ret b'
  | [], b, _, hb => ⟨b, hb, rfl⟩
  | d :: ds, b, H, hb => by
    obtain ⟨b1, h1, e1⟩ := H d List.mem_cons_self b hb
    obtain ⟨b2, h2, e2⟩ := forL_inv P ds b1 (fun x hx => H x (List.mem_cons_of_mem _ hx)) h1
    exact ⟨b2, h2, by show bnd (k d b) _ = _; rw [e1, bnd_ret, e2]⟩
theorem forL_eq {β : Type} {k : D → β → M γ β} {f : β → D → β} : ∀ (ds : List D) (b : β), (∀ d ∈ ds, ∀ b, k d b = ret (f b d)) → forL k ds b = ret (ds.foldl f b)
  | [], b, _ => rfl
  | d :: ds, b, H => by
    show bnd (k d b) _ = _
    rw [H d List.mem_cons_self, bnd_ret, forL_eq ds _ fun x hx => H x (List.mem_cons_of_mem _ hx)]; rfl
end
theorem log2_le_self' (n : Nat) : n.log2 ≤ n := Nat.log2_le_self n
theorem mulI_ok {i j : Int} (h : i.natAbs.log2 + j.natAbs.log2 < 1000000) : mulI i j = some (i * j) := if_pos h
theorem mulA_int {i j : Int} (h : i.natAbs.log2 + j.natAbs.log2 < 1000000) : mulA (.int i) (.int j) = some (.int (i * j)) := by
  unfold mulA
  show (match (mulI i j).map D.int with | some z => some z | none => _) = _
  rw [mulI_ok h]; rfl
theorem powD_int {i j : Int} (h : 0 ≤ j ∧ j ≤ 1000000 ∧ i.natAbs < 2 ^ 64) : powD (.int i) (.int j) = some (.int (i ^ j.toNat)) := by
  show (powI i j).map D.int = _
  unfold powI; rw [if_pos h]; rfl
theorem modD_int {i j : Int} (h : 0 < j) : modD (.int i) (.int j) = some (.int (i % j)) := by
  show (modI i j).map D.int = _
  unfold modI; rw [if_pos h]; rfl
theorem fdivD_int {i j : Int} (h : 0 < j ∧ j.natAbs.log2 < 9000) : fdivD (.int i) (.int j) = some (.int (i / j)) := by
  show (fdivI i j).map D.int = _
  unfold fdivI; rw [if_pos h]; rfl
theorem addD_int {i j : Int} : addD (.int i) (.int j) = some (.int (i + j)) := rfl
theorem subD_int {i j : Int} : subD (.int i) (.int j) = some (.int (i - j)) := rfl
theorem mulA_small {i j : Int} (h1 : i.natAbs < 2 ^ 100000) (h2 : j.natAbs < 2 ^ 100000) : mulA (.int i) (.int j) = some (.int (i * j)) := by
  have a : i.natAbs.log2 < 100000 := PySem.Flt.log2_lt_of (by decide) h1
  have b : j.natAbs.log2 < 100000 := PySem.Flt.log2_lt_of (by decide) h2
  exact mulA_int (by omega)
theorem small_nat {n : Nat} (h : n < 4294967296) : n < 2 ^ 100000 := Nat.lt_of_lt_of_le h (by
  have : (4294967296 : Nat) = 2 ^ 32 := rfl
  rw [this]; exact Nat.pow_le_pow_right (by decide) (by decide))
theorem okL_ok {ds : List D} (h : ds.length ≤ LIM) : okL ds = some ds := if_pos h
theorem lim_of {n : Nat} (h : n ≤ 1000000) : n ≤ LIM := Nat.le_trans h (by decide)
end Py

set_option Elab.async false
set_option linter.all false
set_option maxRecDepth 100000
set_option maxHeartbeats 4000000
namespace Py
open PySem L2
open SX (S)
/-! ### texts by their signs -/
abbrev dS (a : List Nat) : D := .str (S a)
theorem S_length (a : List Nat) : (S a).length = a.length := SX.S_len a
theorem lenD_S {a : List Nat} (h : a.length ≤ LIM) : lenD [dS a] = some (.int (a.length : Nat)) := by
  show (if (S a).length ≤ LIM then some (D.int (S a).length) else none) = _
  rw [S_length, if_pos h]
theorem addD_S {a b : List Nat} (h : a.length + b.length ≤ LIM) : addD (dS a) (dS b) = some (dS (a ++ b)) := by
  show (if (S a).length + (S b).length ≤ LIM then some (D.str (S a ++ S b)) else none) = _
  rw [S_length, S_length, if_pos h, SX.S_cat]
theorem eqD_S {a b : List Nat} : eqD (dS a) (dS b) = some (.bl (decide (a = b))) := by
  show (eqB (dS a) (dS b)).map D.bl = _
  have e : eqB (dS a) (dS b) = some (decide (S a = S b)) := rfl
  rw [e]
  show some (D.bl _) = _
  congr 2
  exact decide_eq_decide.mpr ⟨SX.S_inj, fun h => by rw [h]⟩
theorem neD_S {a b : List Nat} : neD (dS a) (dS b) = some (.bl (!decide (a = b))) := by
  have e : eqB (dS a) (dS b) = some (decide (S a = S b)) := rfl
  show (eqB (dS a) (dS b)).map (fun b => D.bl (!b)) = _
  rw [e]
  show some (D.bl _) = _
  congr 3
  exact decide_eq_decide.mpr ⟨SX.S_inj, fun h => by rw [h]⟩
theorem slD_S {a : List Nat} {lo hi : Option Int} (h : a.length ≤ LIM) : slD (dS a) lo hi = some (dS (cutG a lo hi)) := by
  show (if (S a).length ≤ LIM then some (D.str (cutS (S a) lo hi)) else none) = _
  rw [S_length, if_pos h]
  unfold cutS cutG
  rw [S_length]
theorem cutG_to {α : Type} (a : List α) (n : Nat) : cutG a none (some (n : Int)) = a.take n := by
  unfold cutG
  rw [HT.sIx_none, HT.sIx_nat, List.drop_zero, Nat.sub_zero]
  by_cases h : n ≤ a.length
  · rw [Nat.min_eq_left h]
  · rw [Nat.min_eq_right (by omega), List.take_of_length_le (Nat.le_refl _), List.take_of_length_le (by omega)]
theorem cutG_from {α : Type} (a : List α) (n : Nat) : cutG a (some (n : Int)) none = a.drop n := by
  unfold cutG
  rw [HT.sIx_none, HT.sIx_nat]
  by_cases h : n ≤ a.length
  · rw [Nat.min_eq_left h]; exact List.take_of_length_le (by rw [List.length_drop]; exact Nat.le_refl _)
  · rw [Nat.min_eq_right (by omega), List.drop_of_length_le (Nat.le_refl _), List.drop_of_length_le (by omega), List.take_nil]
theorem cutG_mid {α : Type} (a : List α) (i j : Nat) : cutG a (some (i : Int)) (some (j : Int)) = (a.drop i).take (j - i) := by
  unfold cutG
  rw [HT.sIx_nat, HT.sIx_nat]
  by_cases h : i ≤ a.length
  · rw [Nat.min_eq_left h]
    by_cases hj : j ≤ a.length
    · rw [Nat.min_eq_left hj]
    · rw [Nat.min_eq_right (by omega), List.take_of_length_le (by rw [List.length_drop]; exact Nat.le_refl _), List.take_of_length_le (by rw [List.length_drop]; omega)]
  · rw [Nat.min_eq_right (by omega : a.length ≤ i), List.drop_of_length_le (Nat.le_refl _), List.drop_of_length_le (by omega), List.take_nil, List.take_nil]
theorem cutG_butlast {α : Type} (a : List α) : cutG a none (some (-1)) = a.dropLast := by
  unfold cutG
  rw [HT.sIx_none, List.drop_zero, Nat.sub_zero, List.dropLast_eq_take]
  have e : HT.sIx a.length a.length (some (-1)) = a.length - 1 := by
    show (if (-1 : Int) < 0 then (-1 + (a.length : Int)).toNat else min (-1 : Int).toNat a.length) = _
    rw [if_pos (by decide)]; omega
  rw [e]
theorem chars_S (a : List Nat) : chars (S a) = a.map fun c => dS [c] := by
  unfold chars
  simp
theorem ordC_S (c : Nat) : ordC [dS [c]] = some (.int c) := rfl
theorem inD_S1 (c : Nat) (b : List Nat) : inD (dS [c]) (dS b) = some (.bl (decide (c ∈ b))) := by
  show (inB (dS [c]) (dS b)).map D.bl = _
  have e : inB (dS [c]) (dS b) = some (decide (c ∈ (S b).cps.toList)) := rfl
  rw [e]; simp
theorem niD_S1 (c : Nat) (b : List Nat) : niD (dS [c]) (dS b) = some (.bl (!decide (c ∈ b))) := by
  show (inB (dS [c]) (dS b)).map (fun b => D.bl (!b)) = _
  have e : inB (dS [c]) (dS b) = some (decide (c ∈ (S b).cps.toList)) := rfl
  rw [e]; simp
theorem splitD_S {a b : List Nat} (hb : b ≠ []) (hk : b.all (· < 256) = true) (h : a.length + 2 ≤ LIM) : splitD (S a) (dS b) = some (.lst ((TL.spl b 0 [] a).map dS)) := by
  show (if ((S b).length == 0) = false ∧ (S a).length + 2 ≤ LIM then some (D.lst ((Txt.split (S a) (S b)).map .str)) else none) = _
  rw [S_length, S_length, if_pos ⟨beq_eq_false_iff_ne.mpr (fun z => hb (List.eq_nil_of_length_eq_zero z)), h⟩, SX.split_S hb hk, List.map_map]; rfl
theorem strsD_S : ∀ ys : List (List Nat), strsD (ys.map dS) = some (ys.map S)
  | [] => rfl
  | y :: ys => by
    show (strsD (ys.map dS)).map (S y :: ·) = _
    rw [strsD_S ys]; rfl
theorem joinD_S {a : List Nat} {ys : List (List Nat)} (h : (ys.map (·.length)).sum + ys.length * a.length ≤ 16777216) : joinD (S a) (.lst (ys.map dS)) = some (dS (TL.joinL a ys)) := by
  show (strsD (ys.map dS)).bind (fun ys => if (ys.map (·.length)).sum + ys.length * (S a).length ≤ 16777216 then some (D.str (Txt.join (S a) ys)) else none) = _
  rw [strsD_S]
  show (if ((ys.map S).map (·.length)).sum + (ys.map S).length * (S a).length ≤ 16777216 then some (D.str (Txt.join (S a) (ys.map S))) else none) = _
  rw [SX.lens, List.length_map, S_length, if_pos h, SX.join_S]
theorem joinD_S1 {a : List Nat} {ys : List (List Nat)} (h : (ys.map (·.length)).sum + ys.length * a.length ≤ 16777216) : joinD (S a) (.tup (ys.map dS)) = some (dS (TL.joinL a ys)) := by
  show (strsD (ys.map dS)).bind (fun ys => if (ys.map (·.length)).sum + ys.length * (S a).length ≤ 16777216 then some (D.str (Txt.join (S a) ys)) else none) = _
  rw [strsD_S]
  show (if ((ys.map S).map (·.length)).sum + (ys.map S).length * (S a).length ≤ 16777216 then some (D.str (Txt.join (S a) (ys.map S))) else none) = _
  rw [SX.lens, List.length_map, S_length, if_pos h, SX.join_S]
theorem strI_nat (n : Nat) : strI (n : Int) = S (TL.numL n) := SX.num_S n
theorem log_lt {n : Nat} (h : n < 2 ^ 1000) : n.log2 < 1920 := Nat.lt_of_lt_of_le (PySem.Flt.log2_lt_of (n := n) (k := 1000) (by decide) h) (by decide)
theorem small1000p {n : Nat} (h : n < 4294967296) : n < 2 ^ 1000 := Nat.lt_of_lt_of_le h (by
  have : (4294967296 : Nat) = 2 ^ 32 := rfl
  rw [this]; exact Nat.pow_le_pow_right (by decide) (by decide))
theorem strD_nat {n : Nat} (h : n < 4294967296) : strD [.int (n : Int)] = some (dS (TL.numL n)) := by
  show (if (n : Int).natAbs.log2 < 1920 then some (D.str (strI n)) else none) = _
  rw [if_pos (by rw [Int.natAbs_natCast]; exact log_lt (small1000p h)), strI_nat]
theorem fmtD_nat {n : Nat} (h : n < 4294967296) : fmtD (.int (n : Int)) = some (dS (TL.numL n)) := by
  show (if (n : Int).natAbs.log2 < 1920 then some (D.str (strI n)) else none) = _
  rw [if_pos (by rw [Int.natAbs_natCast]; exact log_lt (small1000p h)), strI_nat]
theorem fmtD_S {a : List Nat} (h : a.length ≤ LIM) : fmtD (dS a) = some (dS a) := by
  show (if (S a).length ≤ LIM then some (D.str (S a)) else none) = _
  rw [S_length, if_pos h]
/-- digits -/
def digs (a : List Nat) : Bool := a.all fun c => decide (48 ≤ c) && decide (c ≤ 57)
theorem intD_S {a : List Nat} (h : digs a = true) (hn : a ≠ []) (hl : a.length ≤ 640) : intD [dS a] = some (.int ((NumText.digitsVal a : Nat) : Int)) := by
  show (if (S a).length ≤ 640 then (PySem.intText? (S a)).map D.int else none) = _
  rw [S_length, if_pos hl, SX.int_S h hn (by omega)]; rfl
/-- the place of the last -/
def rf (a b : List Nat) : Int := Txt.rfind (S a) (S b)
theorem rfindD_S (a b : List Nat) : rfindD (S a) (dS b) = some (.int (rf a b)) := rfl
theorem jc_S {γ : Type} {m : M γ D} {a b : List Nat} {r : Str → M γ D} (h : m = ret (dS b)) (hl : a.length + b.length ≤ LIM) : jc m r (S a) = r (S (a ++ b)) := by
  unfold jc
  rw [h, bnd_ret]
  show bnd (lft (some (S b))) _ = _
  rw [bnd_lft_some]
  rw [SX.S_cat, S_length, List.length_append, decide_eq_true hl, chk_true]
theorem ixD_lst {ds : List D} {i : Nat} {d : D} (h : ds[i]? = some d) : ixD (.lst ds) (.int (i : Int)) = some d := atI_nat h
theorem ixD_tup {ds : List D} {i : Nat} {d : D} (h : ds[i]? = some d) : ixD (.tup ds) (.int (i : Int)) = some d := atI_nat h
theorem ixD_S {a : List Nat} {i : Nat} {c : Nat} (h : a[i]? = some c) (hl : a.length ≤ LIM) : ixD (dS a) (.int (i : Int)) = some (dS [c]) := by
  show (if (S a).length ≤ LIM then (atI (S a).cps.toList (i : Int)).map fun c => D.str ⟨#[c]⟩ else none) = _
  rw [S_length, if_pos hl, atI_nat (by simpa using h)]; rfl
end Py

set_option Elab.async false
set_option linter.all false
set_option maxRecDepth 100000
set_option maxHeartbeats 4000000
namespace Py
open PySem L2
open SX (S)
theorem asB_bl {b : Bool} : asB (.bl b) = some b := rfl
theorem asI_int {i : Int} : asI (.int i) = some i := rfl
theorem asS_str {x : Str} : asS (.str x) = some x := rfl
theorem ltD_int {i j : Int} : ltD (.int i) (.int j) = some (.bl (decide (i < j))) := rfl
theorem leD_int {i j : Int} : leD (.int i) (.int j) = some (.bl (decide (i ≤ j))) := rfl
theorem gtD_int {i j : Int} : gtD (.int i) (.int j) = some (.bl (decide (j < i))) := rfl
theorem geD_int {i j : Int} : geD (.int i) (.int j) = some (.bl (decide (j ≤ i))) := rfl
theorem eqD_int {i j : Int} : eqD (.int i) (.int j) = some (.bl (decide (i = j))) := rfl
theorem neD_int {i j : Int} : neD (.int i) (.int j) = some (.bl (!decide (i = j))) := rfl
theorem seqOf_str {x : Str} : seqOf (.str x) = some (chars x) := rfl
theorem seqOf_lst {ds : List D} : seqOf (.lst ds) = some ds := rfl
theorem seqOf_tup {ds : List D} : seqOf (.tup ds) = some ds := rfl
theorem sqOf_lst {ds : List D} : sqOf (.lst ds) = some (true, ds) := rfl
theorem negD_int {i : Int} : negD (.int i) = some (.int (-i)) := rfl
theorem lenD_lst {ds : List D} : lenD [.lst ds] = some (.int (ds.length : Nat)) := rfl
theorem lenD_tup {ds : List D} : lenD [.tup ds] = some (.int (ds.length : Nat)) := rfl
theorem slD_lst {ds : List D} {lo hi : Option Int} : slD (.lst ds) lo hi = some (.lst (cutG ds lo hi)) := rfl
theorem slD_tup {ds : List D} {lo hi : Option Int} : slD (.tup ds) lo hi = some (.tup (cutG ds lo hi)) := rfl
theorem mkT_ok {ds : List D} (h : ds.length ≤ LIM) : mkT ds = some (.tup ds) := if_pos h
theorem chM_eq {γ : Type} {f g : D → D → Option D} {m1 m2 m3 : M γ D} : chM f g m1 m2 m3 = bnd m1 fun x => bnd m2 fun y => bnd (lft (f x y)) fun z => bnd (lft (asB z)) fun b => if b then bnd m3 fun w => lft (g y w) else ret (.bl false) := rfl
theorem andM_eq {γ : Type} {ma mb : M γ D} : andM ma mb = bnd ma fun d => bnd (lft (asB d)) fun b => if b then mb else ret (.bl false) := rfl
theorem orM_eq {γ : Type} {ma mb : M γ D} : orM ma mb = bnd ma fun d => bnd (lft (asB d)) fun b => if b then ret (.bl true) else mb := rfl
theorem bnd_ite {γ α β : Type} {c : Prop} [Decidable c] {m n : M γ α} {k : α → M γ β} : bnd (if c then m else n) k = if c then bnd m k else bnd n k := by split <;> rfl
theorem toPys_strs : ∀ l : List (List Nat), toPys (l.map dS) = some (l.map fun a => PyData.str (S a))
  | [] => by simp [toPys]
  | a :: l => by
    simp only [List.map_cons, toPys, toPy, toPys_strs l]
theorem depth_strs : ∀ l : List (List Nat), PyData.depthAll (l.map fun a => PyData.str (S a)) = 0
  | [] => rfl
  | a :: l => by simp only [List.map_cons, PyData.depthAll, PyData.depth, depth_strs l]; rfl
theorem canLay_strs : ∀ l : List (List Nat), (∀ a ∈ l, PyData.strOk (S a) = true) → PyData.canLayAll0 (l.map fun a => PyData.str (S a)) = true
  | [], _ => rfl
  | a :: l, h => by
    simp only [List.map_cons, PyData.canLayAll0, PyData.canLay0, h a List.mem_cons_self, canLay_strs l fun x hx => h x (List.mem_cons_of_mem _ hx)]; rfl
theorem eqB_strs_nil {l : List (List Nat)} (h : ∀ a ∈ l, PyData.strOk (S a) = true) : eqB (.lst (l.map dS)) (.lst []) = some l.isEmpty := by
  have e : toPy (.lst (l.map dS)) = some (.list (l.map fun a => PyData.str (S a))) := by simp only [toPy, toPys_strs]; rfl
  have e2 : toPy (.lst []) = some (.list []) := by simp [toPy, toPys]
  have s1 : SeqAt.shaped (.list (l.map fun a => PyData.str (S a))) = true := by
    unfold SeqAt.shaped PyData.canLay0 PyData.depth
    rw [canLay_strs l h, depth_strs]; rfl
  have s2 : SeqAt.shaped (.list []) = true := rfl
  show (match scalD (.lst (l.map dS)) (.lst []) with | some b => some b | none => deepE _ _) = _
  show deepE (.lst (l.map dS)) (.lst []) = _
  unfold deepE
  rw [e, e2]
  show (if SeqAt.shaped _ = true ∧ SeqAt.shaped _ = true then some (PyData.eqv _ _) else none) = _
  rw [if_pos ⟨s1, s2⟩]
  cases l with
  | nil => rfl
  | cons a l => simp [PyData.eqv, PyData.eqvAll]
theorem eqD_strs_nil {l : List (List Nat)} (h : ∀ a ∈ l, PyData.strOk (S a) = true) : eqD (.lst (l.map dS)) (.lst []) = some (.bl l.isEmpty) := by
  show (eqB _ _).map D.bl = _
  rw [eqB_strs_nil h]; rfl
theorem neD_strs_nil {l : List (List Nat)} (h : ∀ a ∈ l, PyData.strOk (S a) = true) : neD (.lst (l.map dS)) (.lst []) = some (.bl (!l.isEmpty)) := by
  show (eqB _ _).map (fun b => D.bl (!b)) = _
  rw [eqB_strs_nil h]; rfl
theorem strOk_of {a : List Nat} (h : ∀ c ∈ a, c < 1114112) : PyData.strOk (S a) = true := by
  unfold PyData.strOk
  rw [← Array.all_toList]
  exact List.all_eq_true.mpr fun c hc => decide_eq_true (h c hc)
/-- the signs of a that are not in b, as the comprehension has them -/
theorem lcM_out {γ : Type} {k : D → M γ (Option D)} (a b : List Nat) (hk : ∀ c, k (dS [c]) = ret (if c ∈ b then none else some (dS [c]))) : lcM k (chars (S a)) = ret ((a.filter fun c => !decide (c ∈ b)).map fun c => dS [c]) := by
  rw [chars_S]
  induction a with
  | nil => rfl
  | cons c a ih =>
    show bnd (k (dS [c])) _ = _
    rw [hk, bnd_ret]
    show bnd (lcM k (a.map fun c => dS [c])) _ = _
    rw [ih, bnd_ret, List.filter_cons]
    by_cases h : c ∈ b
    · rw [if_pos h]; simp [h]
    · rw [if_neg h]; simp [h]
theorem lcM_outF {γ : Type} {k : D → M γ (Option D)} (a b : List Nat) (hk : ∀ c, k (dS [c]) = ret (if c ∈ b then none else some (dS [c]))) : lcM k (chars (S a)) = ret (((a.filter fun c => !decide (c ∈ b)).map fun c => [c]).map dS) := by
  rw [lcM_out a b hk, List.map_map]; rfl
end Py

set_option Elab.async false
set_option linter.all false
set_option maxRecDepth 100000
set_option maxHeartbeats 4000000
namespace Lk87
open PySem L2 Py
def _law_deal_l1 (v_cells : D) (t : D) (v_mix : D) : M Unit (D) :=
  (bnd (bnd (bnd (bnd (bnd (bnd (bnd (ret v_mix) fun a49 => bnd (ret (.int 69621)) fun a50 => lft (mulA a49 a50)) fun a56 => bnd (bnd (bnd (bnd (ret t) fun a51 => bnd (ret []) fun a52 => ret (a51 :: a52)) fun a53 => lft (intD a53)) fun a54 => bnd (ret (.int 2147483563)) fun a55 => lft (modD a54 a55)) fun a57 => lft (addD a56 a57)) fun a58 => bnd (ret (.int 23)) fun a59 => lft (addD a58 a59)) fun a60 => bnd (ret []) fun a61 => ret (a60 :: a61)) fun a62 => lft (intD a62)) fun a63 => bnd (ret (.int 2147483647)) fun a64 => lft (modD a63 a64)) fun v_mix_65 => (ret v_mix_65))

def deal1_m (ns : List Int) (sl : Int) : M Unit (List D × D) :=
  (bnd (bnd (bnd (bnd (bnd (bnd (bnd (ret (.int 10)) fun a1 => bnd (ret (.int 64)) fun a2 => lft (powD a1 a2)) fun a5 => bnd (bnd (ret (.int 10)) fun a3 => bnd (ret (.int 64)) fun a4 => lft (powD a3 a4)) fun a6 => lft (mulA a5 a6)) fun a9 => bnd (bnd (ret (.int 10)) fun a7 => bnd (ret (.int 64)) fun a8 => lft (powD a7 a8)) fun a10 => lft (mulA a9 a10)) fun a13 => bnd (bnd (ret (.int 10)) fun a11 => bnd (ret (.int 64)) fun a12 => lft (powD a11 a12)) fun a14 => lft (mulA a13 a14)) fun a17 => bnd (bnd (ret (.int 10)) fun a15 => bnd (ret (.int 64)) fun a16 => lft (powD a15 a16)) fun a18 => lft (mulA a17 a18)) fun a21 => bnd (bnd (ret (.int 10)) fun a19 => bnd (ret (.int 64)) fun a20 => lft (powD a19 a20)) fun a22 => lft (mulA a21 a22)) fun v_most_23 => (bnd (bnd (ret (ns.map D.int)) fun a39 => bnd (lcM (fun v_cell_24 => bnd (bnd (bnd (bnd (bnd (bnd (bnd (bnd (ret v_cell_24) fun a25 => bnd (ret []) fun a26 => ret (a25 :: a26)) fun a27 => lft (intD a27)) fun a28 => bnd (ret []) fun a29 => ret (a28 :: a29)) fun a30 => lft (absD a30)) fun a31 => bnd (ret []) fun a32 => ret (a31 :: a32)) fun a33 => lft (intD a33)) fun a34 => bnd (ret v_most_23) fun a35 => lft (modD a34 a35)) fun a36 => ret (some a36)) a39) fun a40 => lft (okL a40)) fun v_cells_45 => bnd (bnd (ret (.int 70001)) fun a43 => bnd (bnd (ret (.int 7919)) fun a41 => bnd (ret (.int sl)) fun a42 => lft (mulA a41 a42)) fun a44 => lft (addD a43 a44)) fun v_mix_46 => (bnd (bnd (ret (.lst v_cells_45)) fun a47 => lft (seqOf a47)) fun a68 => bnd (forL (fun d67 s66 => bnd (lft (some d67)) fun p48 => _law_deal_l1 (.lst v_cells_45) p48 s66) a68 v_mix_46) fun s66 => (ret (v_cells_45, s66)))))

def deal2_m (c : List D × D) : M Unit (List D) :=
  (bnd (bnd (bnd (bnd (ret (.lst c.1)) fun a86 => lft (seqOf a86)) fun a96 => bnd (lcM (fun v_cell_87 => bnd (bnd (bnd (ret v_cell_87) fun a93 => bnd (bnd (ret (.int 10)) fun a91 => bnd (ret (.int 18)) fun a92 => lft (powD a91 a92)) fun a94 => lft (geD a93 a94)) fun a95 => lft (asB a95)) fun b89 => if b89 then bnd (ret v_cell_87) fun a88 => ret (some a88) else ret none) a96) fun a97 => lft (okL a97)) fun ds => ret (true, ds)) fun p => chk p.1 (ret p.2.reverse))

theorem deal_step (c : D) (i m : Int) (h : 0 ≤ m ∧ m < 2147483647) : ∃ m', (0 ≤ m' ∧ m' < 2147483647) ∧ _law_deal_l1 c (.int i) (.int m) = ret (.int m') := by
  refine ⟨(m * 69621 + i % 2147483563 + 23) % 2147483647, ⟨Int.emod_nonneg _ (by decide), Int.emod_lt_of_pos _ (by decide)⟩, ?_⟩
  unfold _law_deal_l1
  have e1 : mulA (.int m) (.int 69621) = some (.int (m * 69621)) := mulA_small (small_nat (by omega)) (small_nat (by decide))
  simp only [bnd_ret, lft_some, e1, intD, modD_int (show (0 : Int) < 2147483563 by decide), modD_int (show (0 : Int) < 2147483647 by decide), addD_int]
theorem deal_most : mulA (.int (10 ^ 64)) (.int (10 ^ 64)) = some (.int (10 ^ 128)) ∧ mulA (.int (10 ^ 128)) (.int (10 ^ 64)) = some (.int (10 ^ 192)) ∧ mulA (.int (10 ^ 192)) (.int (10 ^ 64)) = some (.int (10 ^ 256)) ∧
    mulA (.int (10 ^ 256)) (.int (10 ^ 64)) = some (.int (10 ^ 320)) ∧ mulA (.int (10 ^ 320)) (.int (10 ^ 64)) = some (.int (10 ^ 384)) := by
  refine ⟨?_, ?_, ?_, ?_, ?_⟩ <;> (rw [mulA_int (by decide +kernel)]; exact congrArg some (congrArg D.int (by decide +kernel)))
theorem deal_pure (ns : List Int) (sl : Int) (h : ns.length ≤ 63) (h0 : 0 ≤ sl) (h1 : sl ≤ 1000) : ∃ (c : List D × D) (is : List Int) (mix : Int), deal1_m ns sl () = some (c, ()) ∧ c.2 = .int mix ∧ deal2_m c () = some (is.map D.int, ()) ∧ 0 ≤ mix ∧ mix < 2147483647 ∧ is.length ≤ 63 := by
  let cs : List Int := ns.map fun i => (if i < 0 then -i else i) % 10 ^ 384
  have hp : powD (.int 10) (.int 64) = some (.int (10 ^ 64)) := powD_int ⟨by decide, by decide, by decide⟩
  have hp18 : powD (.int 10) (.int 18) = some (.int (10 ^ 18)) := powD_int ⟨by decide, by decide, by decide⟩
  obtain ⟨m1, m2, m3, m4, m5⟩ := deal_most
  have hsl : mulA (.int 7919) (.int sl) = some (.int (7919 * sl)) := mulA_small (small_nat (by decide)) (small_nat (by omega))
  have hpos : (0 : Int) < 10 ^ 384 := by decide +kernel
  have hl : (cs.map D.int).length ≤ LIM := lim_of (by simp [cs]; omega)
  have hlc : ∀ k : D → M Unit (Option D), (∀ i : Int, k (.int i) = ret (some (.int ((if i < 0 then -i else i) % 10 ^ 384)))) → lcM k (ns.map D.int) = ret (cs.map D.int) := fun k hk => by
    have : cs.map D.int = (ns.map D.int).map fun d => match d with | .int i => .int ((if i < 0 then -i else i) % 10 ^ 384) | d => d := by
      simp only [cs, List.map_map]; rfl
    rw [this]
    refine lcM_all _ fun d hd => ?_
    obtain ⟨i, _, rfl⟩ := List.mem_map.mp hd
    exact hk i
  obtain ⟨mz, ⟨mix, rfl, hmix⟩, hfor⟩ : ∃ mz, (∃ mix : Int, mz = .int mix ∧ 0 ≤ mix ∧ mix < 2147483647) ∧ forL (fun d s => bnd (lft (some d)) fun p => _law_deal_l1 (.lst (cs.map D.int)) p s) (cs.map D.int) (.int (70001 + 7919 * sl)) = (ret mz : M Unit D) := by
    refine forL_inv _ _ _ (fun d hd b hb => ?_) ⟨_, rfl, by omega, by omega⟩
    obtain ⟨i, _, rfl⟩ := List.mem_map.mp hd
    obtain ⟨m, rfl, hm⟩ := hb
    obtain ⟨m', hm', e⟩ := deal_step (.lst (cs.map D.int)) i m hm
    exact ⟨.int m', ⟨m', rfl, hm'⟩, e⟩
  refine ⟨(cs.map D.int, .int mix), (cs.filter fun i => decide (10 ^ 18 ≤ i)).reverse, mix, ?_, rfl, ?_, hmix.1, hmix.2, ?_⟩
  · unfold deal1_m
    simp only [bnd_ret, lft_some, hp, m1, m2, m3, m4, m5, hsl, addD_int, seqOf]
    rw [hlc _ fun i => by simp only [bnd_ret, lft_some, intD, absD, modD_int hpos]]
    simp only [bnd_ret, lft_some] at hfor
    simp only [bnd_ret, okL_ok hl, lft_some, hfor]
    rfl
  · unfold deal2_m
    simp only [bnd_ret, lft_some, seqOf, hp18]
    have e : lcM (fun v_cell => bnd (bnd (lft (geD v_cell (.int (10 ^ 18)))) fun a => lft (asB a)) fun b => if b = true then ret (some v_cell) else ret none) (cs.map D.int) = (ret ((cs.filter fun i => decide (10 ^ 18 ≤ i)).map D.int) : M Unit (List D)) := by
      rw [lcM_filt (p := fun d => match d with | .int i => decide (10 ^ 18 ≤ i) | _ => false) (h := id)]
      · rw [List.map_id, List.filter_map]; rfl
      · intro d hd
        obtain ⟨i, _, rfl⟩ := List.mem_map.mp hd
        show bnd (bnd (lft (some (D.bl (decide (10 ^ 18 ≤ i))))) _) _ = _
        simp only [bnd_ret, lft_some, asB]
        split <;> rfl
    rw [e]
    have hl2 : ((cs.filter fun i => decide (10 ^ 18 ≤ i)).map D.int).length ≤ LIM := lim_of (by
      rw [List.length_map]
      exact Nat.le_trans (List.length_filter_le _ _) (by simp [cs]; omega))
    simp only [bnd_ret, okL_ok hl2, lft_some, chk_true]
    rw [List.map_reverse]; rfl
  · rw [List.length_reverse]
    exact Nat.le_trans (List.length_filter_le _ _) (by simp [cs]; omega)


def is_name_m {γ : Type} (v_value : D) : M γ D :=
  (bnd (bnd (bnd (bnd (bnd (ret v_value) fun a1 => lft ((isiB .str a1).map .bl)) fun a2 => lft (asB a2)) fun b3 => ret (!b3)) fun b9 => if b9 then ret true else (bnd (bnd (chM leD leD (ret (.int 1)) (bnd (bnd (ret v_value) fun a4 => bnd (ret []) fun a5 => ret (a4 :: a5)) fun a6 => lft (lenD a6)) (ret (.int 8))) fun a7 => lft (asB a7)) fun b8 => ret (!b8))) fun b10 => if b10 then (ret (.bl false)) else (bnd (bnd (bnd (bnd (ret v_value) fun a11 => lft (seqOf a11)) fun a19 => bnd (lcM (fun v_sign_12 => bnd (bnd (bnd (ret v_sign_12) fun a16 => bnd (ret (.str "abcdefghijklmnopqrstuvwxyz")) fun a17 => lft (niD a16 a17)) fun a18 => lft (asB a18)) fun b14 => if b14 then bnd (ret v_sign_12) fun a13 => ret (some a13) else ret none) a19) fun a20 => lft (okL a20)) fun ds => ret (.lst ds)) fun a22 => bnd (bnd (bnd (ret []) fun a21 => lft (okL a21)) fun ds => ret (.lst ds)) fun a23 => lft (eqD a22 a23)))

def are_figures_m {γ : Type} (v_text : D) : M γ D :=
  (bnd (bnd (bnd (bnd (ret v_text) fun a1 => bnd (ret (.str "")) fun a2 => lft (eqD a1 a2)) fun a3 => lft (asB a3)) fun b25 => if b25 then ret true else (bnd (bnd (bnd (bnd (bnd (ret v_text) fun a4 => bnd (ret []) fun a5 => ret (a4 :: a5)) fun a6 => lft (lenD a6)) fun a7 => bnd (ret (.int 4000)) fun a8 => lft (gtD a7 a8)) fun a9 => lft (asB a9)) fun b24 => if b24 then ret true else (bnd (bnd (bnd (bnd (bnd (ret v_text) fun a10 => lft (seqOf a10)) fun a18 => bnd (lcM (fun v_sign_11 => bnd (bnd (bnd (ret v_sign_11) fun a15 => bnd (ret (.str "0123456789")) fun a16 => lft (niD a15 a16)) fun a17 => lft (asB a17)) fun b13 => if b13 then bnd (ret v_sign_11) fun a12 => ret (some a12) else ret none) a18) fun a19 => lft (okL a19)) fun ds => ret (.lst ds)) fun a21 => bnd (bnd (bnd (ret []) fun a20 => lft (okL a20)) fun ds => ret (.lst ds)) fun a22 => lft (neD a21 a22)) fun a23 => lft (asB a23)))) fun b26 => if b26 then (ret (.bl false)) else (orM (bnd (ret v_text) fun a27 => bnd (ret (.str "0")) fun a28 => lft (eqD a27 a28)) (bnd (bnd (ret v_text) fun a29 => bnd (ret (.int 0)) fun a30 => lft (ixD a29 a30)) fun a31 => bnd (ret (.str "0")) fun a32 => lft (neD a31 a32))))

def number_of_m {γ : Type} (v_text : D) : M γ D :=
  (bnd (bnd (bnd (ret v_text) fun a1 => are_figures_m a1) fun a2 => lft (asB a2)) fun b8 => if b8 then (bnd (bnd (ret v_text) fun a3 => bnd (ret []) fun a4 => ret (a3 :: a4)) fun a5 => lft (intD a5)) else (bnd (ret (.int 1)) fun a6 => lft (negD a6)))

def sum_of_l1 {γ : Type} (v_text : D) (t : D) (v_found : D) : M γ (D) :=
  (bnd (bnd (bnd (bnd (ret v_found) fun a4 => bnd (ret (.int 31)) fun a5 => lft (mulA a4 a5)) fun a9 => bnd (bnd (bnd (ret t) fun a6 => bnd (ret []) fun a7 => ret (a6 :: a7)) fun a8 => lft (ordC a8)) fun a10 => lft (addD a9 a10)) fun a11 => bnd (ret (.int 9973)) fun a12 => lft (modD a11 a12)) fun v_found_13 => (ret v_found_13))

def sum_of_m {γ : Type} (v_text : D) : M γ D :=
  (bnd (ret (.int 7)) fun v_found_1 => (bnd (bnd (ret v_text) fun a2 => lft (seqOf a2)) fun a16 => bnd (forL (fun d15 s14 => bnd (lft (some d15)) fun p3 => sum_of_l1 v_text p3 s14) a16 v_found_1) fun s14 => (ret s14)))

def summed_m {γ : Type} (v_text : D) : M γ D :=
  (bnd (bnd (bnd (ret v_text) fun a1 => bnd (ret (.str " sum")) fun a2 => lft (addD a1 a2)) fun a3 => bnd (ret (.str " ")) fun a4 => lft (addD a3 a4)) fun a9 => bnd (bnd (bnd (bnd (ret v_text) fun a5 => sum_of_m a5) fun a6 => bnd (ret []) fun a7 => ret (a6 :: a7)) fun a8 => lft (strD a8)) fun a10 => lft (addD a9 a10))

def whole_text_m {γ : Type} (v_line : D) : M γ D :=
  (bnd (bnd (ret v_line) fun a1 => bnd (lft (asS a1)) fun a2 => bnd (ret (.str " sum")) fun a3 => lft (rfindD a2 a3)) fun v_at_4 => (bnd (bnd (bnd (ret v_at_4) fun a5 => bnd (ret (.int 0)) fun a6 => lft (ltD a5 a6)) fun a7 => lft (asB a7)) fun b8 => if b8 then (ret .non) else (bnd (bnd (ret v_line) fun a11 => bnd (ret none) fun a12 => bnd (bnd (ret v_at_4) fun a9 => bnd (lft (asI a9)) fun a10 => ret (some a10)) fun a13 => lft (slD a11 a12 a13)) fun v_ahead_24 => bnd (bnd (ret v_line) fun a21 => bnd (bnd (bnd (ret v_at_4) fun a17 => bnd (bnd (bnd (ret (.str " sum")) fun a14 => bnd (ret []) fun a15 => ret (a14 :: a15)) fun a16 => lft (lenD a16)) fun a18 => lft (addD a17 a18)) fun a19 => bnd (lft (asI a19)) fun a20 => ret (some a20)) fun a22 => bnd (ret none) fun a23 => lft (slD a21 a22 a23)) fun v_behind_25 => (bnd (bnd (bnd (bnd (bnd (ret v_behind_25) fun a28 => bnd (ret none) fun a29 => bnd (bnd (ret (.int 1)) fun a26 => bnd (lft (asI a26)) fun a27 => ret (some a27)) fun a30 => lft (slD a28 a29 a30)) fun a31 => bnd (ret (.str " ")) fun a32 => lft (neD a31 a32)) fun a33 => lft (asB a33)) fun b51 => if b51 then ret true else (bnd (bnd (bnd (bnd (bnd (ret v_behind_25) fun a34 => bnd (ret []) fun a35 => ret (a34 :: a35)) fun a36 => lft (lenD a36)) fun a39 => bnd (bnd (ret (.int 4)) fun a37 => bnd (ret (.int 1)) fun a38 => lft (addD a37 a38)) fun a40 => lft (gtD a39 a40)) fun a41 => lft (asB a41)) fun b50 => if b50 then ret true else (bnd (bnd (bnd (bnd (ret v_behind_25) fun a44 => bnd (bnd (ret (.int 1)) fun a42 => bnd (lft (asI a42)) fun a43 => ret (some a43)) fun a45 => bnd (ret none) fun a46 => lft (slD a44 a45 a46)) fun a47 => are_figures_m a47) fun a48 => lft (asB a48)) fun b49 => ret (!b49)))) fun b52 => if b52 then (ret .non) else (bnd (bnd (bnd (bnd (bnd (ret v_behind_25) fun a55 => bnd (bnd (ret (.int 1)) fun a53 => bnd (lft (asI a53)) fun a54 => ret (some a54)) fun a56 => bnd (ret none) fun a57 => lft (slD a55 a56 a57)) fun a58 => number_of_m a58) fun a60 => bnd (bnd (ret v_ahead_24) fun a59 => sum_of_m a59) fun a61 => lft (eqD a60 a61)) fun a62 => lft (asB a62)) fun b63 => if b63 then (ret v_ahead_24) else (ret .non))))))

def leaf_text_m {γ : Type} (v_name : D) (v_party : D) (v_leaf : D) : M γ D :=
  (bnd (bnd (bnd ((jc (bnd (ret (.str "leaf")) fun a1 => lft (fmtD a1)) (jc (ret (.str " ")) (jc (bnd (ret v_name) fun a2 => lft (fmtD a2)) (jc (ret (.str " ")) (jc (bnd (ret v_party) fun a3 => lft (fmtD a3)) jn))))) Str.empty) fun a4 => bnd (ret []) fun a5 => ret (a4 :: a5)) fun a6 => lft (okL a6)) fun v_rows_7 => (bnd (bnd (bnd (bnd (ret v_leaf) fun a8 => lft (seqOf a8)) fun ds => ret (enumD 0 ds)) fun a17 => bnd (lcM (fun d16 => bnd (lft (un2 d16)) fun p9 => bnd ((jc (bnd (ret (.str "time")) fun a10 => lft (fmtD a10)) (jc (ret (.str " ")) (jc (bnd (ret p9.1) fun a11 => lft (fmtD a11)) (jc (ret (.str " ")) (jc (bnd (ret (.str "at")) fun a12 => lft (fmtD a12)) (jc (ret (.str " ")) (jc (bnd (ret p9.2) fun a13 => lft (fmtD a13)) jn))))))) Str.empty) fun a14 => ret (some a14)) a17) fun a18 => lft (okL a18)) fun d19 => chk (decide ((v_rows_7).length + d19.length ≤ LIM)) (bnd (ret (.str "\n")) fun a27 => bnd (lft (asS a27)) fun a28 => bnd (bnd (bnd (ret (v_rows_7 ++ d19)) fun a25 => bnd (lcM (fun v_row_20 => bnd (bnd (ret v_row_20) fun a21 => summed_m a21) fun a22 => ret (some a22)) a25) fun a26 => lft (okL a26)) fun ds => ret (.lst ds)) fun a29 => lft (joinD a28 a29))))

def head_of_m {γ : Type} (v_line : D) : M γ D :=
  (bnd (bnd (ret v_line) fun a1 => whole_text_m a1) fun v_text_2 => (bnd (bnd (bnd (bnd (ret v_text_2) fun a3 => bnd (ret .non) fun a4 => lft (isnD a3 a4)) fun a5 => lft (asB a5)) fun b10 => if b10 then (bnd (ret v_text_2) fun a6 => bnd (lft (asS a6)) fun a7 => bnd (ret (.str " ")) fun a8 => lft (splitD a7 a8)) else (bnd (bnd (ret []) fun a9 => lft (okL a9)) fun ds => ret (.lst ds))) fun v_words_11 => (bnd (bnd (bnd (bnd (bnd (bnd (ret v_words_11) fun a12 => bnd (ret []) fun a13 => ret (a12 :: a13)) fun a14 => lft (lenD a14)) fun a15 => bnd (ret (.int 3)) fun a16 => lft (neD a15 a16)) fun a17 => lft (asB a17)) fun b36 => if b36 then ret true else (bnd (bnd (bnd (bnd (ret v_words_11) fun a18 => bnd (ret (.int 0)) fun a19 => lft (ixD a18 a19)) fun a20 => bnd (ret (.str "leaf")) fun a21 => lft (neD a20 a21)) fun a22 => lft (asB a22)) fun b35 => if b35 then ret true else (bnd (bnd (bnd (bnd (bnd (ret v_words_11) fun a23 => bnd (ret (.int 1)) fun a24 => lft (ixD a23 a24)) fun a25 => is_name_m a25) fun a26 => lft (asB a26)) fun b27 => ret (!b27)) fun b34 => if b34 then ret true else (bnd (bnd (bnd (bnd (ret v_words_11) fun a28 => bnd (ret (.int 2)) fun a29 => lft (ixD a28 a29)) fun a30 => number_of_m a30) fun a31 => bnd (ret (.int 0)) fun a32 => lft (ltD a31 a32)) fun a33 => lft (asB a33))))) fun b37 => if b37 then (ret .non) else (bnd (bnd (bnd (ret v_words_11) fun a38 => bnd (ret (.int 1)) fun a39 => lft (ixD a38 a39)) fun a45 => bnd (bnd (bnd (bnd (ret v_words_11) fun a40 => bnd (ret (.int 2)) fun a41 => lft (ixD a40 a41)) fun a42 => number_of_m a42) fun a43 => bnd (ret []) fun a44 => ret (a43 :: a44)) fun a46 => ret (a45 :: a46)) fun a47 => lft (mkT a47)))))

def place_in_m {γ : Type} (v_line : D) (v_time : D) : M γ D :=
  (bnd (bnd (ret v_line) fun a1 => whole_text_m a1) fun v_text_2 => (bnd (bnd (bnd (bnd (ret v_text_2) fun a3 => bnd (ret .non) fun a4 => lft (isnD a3 a4)) fun a5 => lft (asB a5)) fun b10 => if b10 then (bnd (ret v_text_2) fun a6 => bnd (lft (asS a6)) fun a7 => bnd (ret (.str " ")) fun a8 => lft (splitD a7 a8)) else (bnd (bnd (ret []) fun a9 => lft (okL a9)) fun ds => ret (.lst ds))) fun v_words_11 => (bnd (bnd (bnd (bnd (bnd (bnd (ret v_words_11) fun a12 => bnd (ret []) fun a13 => ret (a12 :: a13)) fun a14 => lft (lenD a14)) fun a15 => bnd (ret (.int 4)) fun a16 => lft (neD a15 a16)) fun a17 => lft (asB a17)) fun b36 => if b36 then ret true else (bnd (bnd (bnd (bnd (ret v_words_11) fun a18 => bnd (ret (.int 0)) fun a19 => lft (ixD a18 a19)) fun a20 => bnd (ret (.str "time")) fun a21 => lft (neD a20 a21)) fun a22 => lft (asB a22)) fun b35 => if b35 then ret true else (bnd (bnd (bnd (bnd (ret v_words_11) fun a23 => bnd (ret (.int 2)) fun a24 => lft (ixD a23 a24)) fun a25 => bnd (ret (.str "at")) fun a26 => lft (neD a25 a26)) fun a27 => lft (asB a27)) fun b34 => if b34 then ret true else (bnd (bnd (bnd (bnd (ret v_words_11) fun a28 => bnd (ret (.int 1)) fun a29 => lft (ixD a28 a29)) fun a30 => number_of_m a30) fun a31 => bnd (ret v_time) fun a32 => lft (neD a31 a32)) fun a33 => lft (asB a33))))) fun b37 => if b37 then (bnd (ret (.int 1)) fun a38 => lft (negD a38)) else (bnd (bnd (ret v_words_11) fun a40 => bnd (ret (.int 3)) fun a41 => lft (ixD a40 a41)) fun a42 => number_of_m a42))))

def places_in_l1 {γ : Type} (v_lines : D) (t : D × D) (v_found : List D) : M γ (Lp (List D)) :=
  (bnd (bnd (ret t.2) fun a5 => bnd (ret t.1) fun a6 => place_in_m a5 a6) fun v_place_7 => (bnd (bnd (bnd (ret v_place_7) fun a8 => bnd (ret (.int 0)) fun a9 => lft (ltD a8 a9)) fun a10 => lft (asB a10)) fun b11 => if b11 then (bnd (ret (.tup v_found)) fun d12 => ret (.rt d12)) else (bnd (ret v_place_7) fun d13 => chk (decide ((v_found).length < LIM)) (ret (.go (v_found ++ [d13]))))))

def places_in_m {γ : Type} (v_lines : D) : M γ D :=
  (bnd (bnd (ret []) fun a1 => lft (okL a1)) fun v_found_2 => (bnd (bnd (bnd (ret v_lines) fun a3 => lft (seqOf a3)) fun ds => ret (enumD 0 ds)) fun a17 => bnd (forM (fun d15 s14 => bnd (lft (un2 d15)) fun p4 => places_in_l1 v_lines p4 s14) a17 v_found_2) (lpC (fun s14 => (ret (.tup s14))) (fun d15 => ret d15))))

def read_leaf_m {γ : Type} (v_text : D) : M γ D :=
  (bnd (bnd (bnd (bnd (ret v_text) fun a1 => lft ((isiB .str a1).map .bl)) fun a2 => lft (asB a2)) fun b3 => ret (!b3)) fun b4 => if b4 then (ret .non) else (bnd (bnd (ret v_text) fun a5 => bnd (lft (asS a5)) fun a6 => bnd (ret (.str "\n")) fun a7 => lft (splitD a6 a7)) fun v_lines_8 => (bnd (bnd (bnd (ret v_lines_8) fun a9 => bnd (ret (.int 0)) fun a10 => lft (ixD a9 a10)) fun a11 => head_of_m a11) fun v_head_12 => (bnd (bnd (bnd (ret v_head_12) fun a13 => bnd (ret .non) fun a14 => lft (isD a13 a14)) fun a15 => lft (asB a15)) fun b33 => if b33 then (ret .non) else (bnd (bnd (bnd (ret v_head_12) fun a16 => bnd (ret (.int 0)) fun a17 => lft (ixD a16 a17)) fun a30 => bnd (bnd (bnd (ret v_head_12) fun a18 => bnd (ret (.int 1)) fun a19 => lft (ixD a18 a19)) fun a28 => bnd (bnd (bnd (bnd (ret v_lines_8) fun a22 => bnd (bnd (ret (.int 1)) fun a20 => bnd (lft (asI a20)) fun a21 => ret (some a21)) fun a23 => bnd (ret none) fun a24 => lft (slD a22 a23 a24)) fun a25 => places_in_m a25) fun a26 => bnd (ret []) fun a27 => ret (a26 :: a27)) fun a29 => ret (a28 :: a29)) fun a31 => ret (a30 :: a31)) fun a32 => lft (mkT a32))))))

def _law_of_m (v_deal : D) (v_some : D) : M Dl D :=
  (bnd (ret v_some) fun a6 => bnd (bnd (ret v_deal) fun a4 => bnd (bnd (bnd (ret v_some) fun a1 => bnd (ret []) fun a2 => ret (a1 :: a2)) fun a3 => lft (lenD a3)) fun a5 => any_m a4 a5) fun a7 => lft (ixD a6 a7))

def _law_is_kind_m {γ : Type} (v_told : D) (v_due : D) : M γ D :=
  (bnd (bnd (bnd (ret v_due) fun a1 => bnd (ret .non) fun a2 => lft (isD a1 a2)) fun a3 => lft (asB a3)) fun b4 => if b4 then (bnd (ret v_told) fun a5 => bnd (ret .non) fun a6 => lft (isD a5 a6)) else (bnd (bnd (bnd (bnd (ret v_due) fun a7 => bnd (ret (.bl true)) fun a8 => lft (isD a7 a8)) fun a9 => lft (asB a9)) fun b13 => if b13 then ret true else (bnd (bnd (ret v_due) fun a10 => bnd (ret (.bl false)) fun a11 => lft (isD a10 a11)) fun a12 => lft (asB a12))) fun b14 => if b14 then (bnd (bnd (ret v_due) fun a15 => lft (asB a15)) fun b20 => if b20 then (bnd (ret v_told) fun a16 => bnd (ret (.bl true)) fun a17 => lft (isD a16 a17)) else (bnd (ret v_told) fun a18 => bnd (ret (.bl false)) fun a19 => lft (isD a18 a19))) else (bnd (bnd (bnd (ret v_due) fun a21 => lft ((isiB .str a21).map .bl)) fun a22 => lft (asB a22)) fun b23 => if b23 then (andM (bnd (ret v_told) fun a24 => lft ((isiB .str a24).map .bl)) (bnd (ret v_told) fun a25 => bnd (ret v_due) fun a26 => lft (eqD a25 a26))) else (andM (bnd (ret v_told) fun a27 => lft ((isiB .int a27).map .bl)) (andM (bnd (bnd (ret v_told) fun a28 => lft ((isiB .bool a28).map .bl)) fun a29 => bnd (lft (asB a29)) fun a30 => ret (.bl (!a30))) (bnd (ret v_told) fun a31 => bnd (ret v_due) fun a32 => lft (eqD a31 a32)))))))

def _law_same_l1 {γ : Type} (v_todo : List D) : M γ (Lp (List D)) :=
  (bnd (lft (lastD v_todo)) fun d12 => bnd (lft (un2 d12)) fun p11 => (bnd (bnd (bnd (ret p11.2) fun a13 => lft ((isiB .tuple a13).map .bl)) fun a14 => lft (asB a14)) fun b15 => if b15 then (bnd (bnd (bnd (bnd (bnd (ret p11.1) fun a16 => lft ((isiB .tuple a16).map .bl)) fun a17 => lft (asB a17)) fun b18 => ret (!b18)) fun b28 => if b28 then ret true else (bnd (bnd (bnd (bnd (ret p11.1) fun a19 => bnd (ret []) fun a20 => ret (a19 :: a20)) fun a21 => lft (lenD a21)) fun a25 => bnd (bnd (bnd (ret p11.2) fun a22 => bnd (ret []) fun a23 => ret (a22 :: a23)) fun a24 => lft (lenD a24)) fun a26 => lft (neD a25 a26)) fun a27 => lft (asB a27))) fun b29 => if b29 then (bnd (ret (.bl false)) fun d30 => ret (.rt d30)) else (bnd (bnd (ret (true, (v_todo).dropLast)) fun q33 => bnd (bnd (bnd (ret p11.1) fun a31 => bnd (ret p11.2) fun a32 => lft (lzD a31 a32)) fun ds => ret (true, ds)) fun q34 => lft (catQ q33 q34)) fun v_todo_35 => (ret (.go v_todo_35)))) else (bnd (bnd (bnd (bnd (ret p11.1) fun a36 => lft ((isi3 .tuple .list .dict a36).map .bl)) fun a37 => lft (asB a37)) fun b42 => if b42 then ret true else (bnd (bnd (bnd (ret p11.1) fun a38 => bnd (ret p11.2) fun a39 => _law_is_kind_m a38 a39) fun a40 => lft (asB a40)) fun b41 => ret (!b41))) fun b43 => if b43 then (bnd (ret (.bl false)) fun d44 => ret (.rt d44)) else (ret (.go (v_todo).dropLast)))))

def _law_same_m {γ : Type} (v_told : D) (v_due : D) : M γ D :=
  (bnd (bnd (bnd (bnd (bnd (ret v_told) fun a3 => bnd (bnd (ret v_due) fun a1 => bnd (ret []) fun a2 => ret (a1 :: a2)) fun a4 => ret (a3 :: a4)) fun a5 => lft (mkT a5)) fun a6 => bnd (ret []) fun a7 => ret (a6 :: a7)) fun a8 => lft (okL a8)) fun v_todo_9 => (bnd (whM (fun (s45 : List D) => (bnd (bnd (bnd (bnd (bnd (ret (.lst s45)) fun a47 => bnd (ret []) fun a48 => ret (a47 :: a48)) fun a49 => lft (lenD a49)) fun a50 => lft (sclD a50)) fun a51 => bnd (ret (.int 0)) fun a52 => lft (gtD a51 a52)) fun a53 => lft (asB a53))) (fun s45 => _law_same_l1  s45) FUEL v_todo_9) (lpC (fun s45 => (ret (.bl true))) (fun d46 => ret d46))))

def _law_all_m {γ : Type} (v_pairs : D) : M γ D :=
  (bnd (bnd (bnd (bnd (bnd (bnd (ret v_pairs) fun a1 => lft (seqOf a1)) fun a10 => bnd (lcM (fun d5 => bnd (lft (un2 d5)) fun p2 => bnd (bnd (bnd (bnd (ret p2.1) fun a6 => bnd (ret p2.2) fun a7 => _law_same_m a6 a7) fun a8 => lft (asB a8)) fun b9 => ret (!b9)) fun b4 => if b4 then bnd (ret p2.1) fun a3 => ret (some a3) else ret none) a10) fun a11 => lft (okL a11)) fun ds => ret (.lst ds)) fun a12 => bnd (ret []) fun a13 => ret (a12 :: a13)) fun a14 => lft (lenD a14)) fun a15 => bnd (ret (.int 0)) fun a16 => lft (eqD a15 a16))

def _law_put_m {γ : Type} (v_row : D) (v_at : D) (v_thing : D) : M γ D :=
  (bnd (bnd (bnd (ret v_row) fun a3 => bnd (ret none) fun a4 => bnd (bnd (ret v_at) fun a1 => bnd (lft (asI a1)) fun a2 => ret (some a2)) fun a5 => lft (slD a3 a4 a5)) fun a9 => bnd (bnd (bnd (ret v_thing) fun a6 => bnd (ret []) fun a7 => ret (a6 :: a7)) fun a8 => lft (mkT a8)) fun a10 => lft (addD a9 a10)) fun a18 => bnd (bnd (ret v_row) fun a15 => bnd (bnd (bnd (ret v_at) fun a11 => bnd (ret (.int 1)) fun a12 => lft (addD a11 a12)) fun a13 => bnd (lft (asI a13)) fun a14 => ret (some a14)) fun a16 => bnd (ret none) fun a17 => lft (slD a15 a16 a17)) fun a19 => lft (addD a18 a19))

def _law_sum_l1 {γ : Type} (v_text : D) (t : D) (v_found : D) : M γ (D) :=
  (bnd (bnd (bnd (bnd (bnd (bnd (ret (.int 31)) fun a4 => bnd (ret v_found) fun a5 => lft (mulA a4 a5)) fun a9 => bnd (bnd (bnd (ret t) fun a6 => bnd (ret []) fun a7 => ret (a6 :: a7)) fun a8 => lft (ordC a8)) fun a10 => lft (addD a9 a10)) fun a11 => bnd (ret []) fun a12 => ret (a11 :: a12)) fun a13 => lft (intD a13)) fun a14 => bnd (ret (.int 9973)) fun a15 => lft (modD a14 a15)) fun v_found_16 => (ret v_found_16))

def _law_sum_m {γ : Type} (v_text : D) : M γ D :=
  (bnd (ret (.int 7)) fun v_found_1 => (bnd (bnd (ret v_text) fun a2 => lft (seqOf a2)) fun a19 => bnd (forL (fun d18 s17 => bnd (lft (some d18)) fun p3 => _law_sum_l1 v_text p3 s17) a19 v_found_1) fun s17 => (ret s17)))

def _law_summed_m {γ : Type} (v_text : D) : M γ D :=
  (bnd (bnd (ret v_text) fun a1 => bnd (ret (.str " sum ")) fun a2 => lft (addD a1 a2)) fun a7 => bnd (bnd (bnd (bnd (ret v_text) fun a3 => _law_sum_m a3) fun a4 => bnd (ret []) fun a5 => ret (a4 :: a5)) fun a6 => lft (strD a6)) fun a8 => lft (addD a7 a8))

def _law_leaf_lines_m {γ : Type} (v_name : D) (v_party : D) (v_leaf : D) : M γ D :=
  (bnd (bnd (bnd (bnd (bnd (bnd (bnd (bnd (ret (.str "leaf ")) fun a1 => bnd (ret v_name) fun a2 => lft (addD a1 a2)) fun a3 => bnd (ret (.str " ")) fun a4 => lft (addD a3 a4)) fun a8 => bnd (bnd (bnd (ret v_party) fun a5 => bnd (ret []) fun a6 => ret (a5 :: a6)) fun a7 => lft (strD a7)) fun a9 => lft (addD a8 a9)) fun a10 => bnd (ret []) fun a11 => ret (a10 :: a11)) fun a12 => lft (okL a12)) fun ds => ret (true, ds)) fun q32 => bnd (bnd (bnd (bnd (bnd (ret v_leaf) fun a13 => lft (seqOf a13)) fun ds => ret (enumD 0 ds)) fun a30 => bnd (lcM (fun d29 => bnd (lft (un2 d29)) fun p14 => bnd (bnd (bnd (bnd (ret (.str "time ")) fun a18 => bnd (bnd (bnd (ret p14.1) fun a15 => bnd (ret []) fun a16 => ret (a15 :: a16)) fun a17 => lft (strD a17)) fun a19 => lft (addD a18 a19)) fun a20 => bnd (ret (.str " at ")) fun a21 => lft (addD a20 a21)) fun a25 => bnd (bnd (bnd (ret p14.2) fun a22 => bnd (ret []) fun a23 => ret (a22 :: a23)) fun a24 => lft (strD a24)) fun a26 => lft (addD a25 a26)) fun a27 => ret (some a27)) a30) fun a31 => lft (okL a31)) fun ds => ret (true, ds)) fun q33 => lft (catQ q32 q33)) fun ds => ret (.lst ds))

def _law_leaf_text_m {γ : Type} (v_name : D) (v_party : D) (v_leaf : D) : M γ D :=
  (bnd (ret (.str "\n")) fun a12 => bnd (lft (asS a12)) fun a13 => bnd (bnd (bnd (bnd (bnd (ret v_name) fun a1 => bnd (ret v_party) fun a2 => bnd (ret v_leaf) fun a3 => _law_leaf_lines_m a1 a2 a3) fun a4 => lft (seqOf a4)) fun a10 => bnd (lcM (fun v_line_5 => bnd (bnd (ret v_line_5) fun a6 => _law_summed_m a6) fun a7 => ret (some a7)) a10) fun a11 => lft (okL a11)) fun ds => ret (.lst ds)) fun a14 => lft (joinD a13 a14))

def _law_is_number_text_m {γ : Type} (v_text : D) : M γ D :=
  (andM (bnd (ret v_text) fun a1 => bnd (ret (.str "")) fun a2 => lft (neD a1 a2)) (andM (bnd (bnd (bnd (bnd (bnd (bnd (ret v_text) fun a3 => lft (seqOf a3)) fun a11 => bnd (lcM (fun v_sign_4 => bnd (bnd (bnd (ret v_sign_4) fun a8 => bnd (ret (.str "0123456789")) fun a9 => lft (niD a8 a9)) fun a10 => lft (asB a10)) fun b6 => if b6 then bnd (ret v_sign_4) fun a5 => ret (some a5) else ret none) a11) fun a12 => lft (okL a12)) fun ds => ret (.lst ds)) fun a13 => bnd (ret []) fun a14 => ret (a13 :: a14)) fun a15 => lft (lenD a15)) fun a16 => bnd (ret (.int 0)) fun a17 => lft (eqD a16 a17)) (orM (bnd (ret v_text) fun a18 => bnd (ret (.str "0")) fun a19 => lft (eqD a18 a19)) (bnd (bnd (ret v_text) fun a20 => bnd (ret (.int 0)) fun a21 => lft (ixD a20 a21)) fun a22 => bnd (ret (.str "0")) fun a23 => lft (neD a22 a23)))))

def _law_is_name_text_m {γ : Type} (v_text : D) : M γ D :=
  (andM (chM ltD ltD (ret (.int 0)) (bnd (bnd (ret v_text) fun a1 => bnd (ret []) fun a2 => ret (a1 :: a2)) fun a3 => lft (lenD a3)) (ret (.int 9))) (bnd (bnd (bnd (bnd (bnd (bnd (ret v_text) fun a4 => lft (seqOf a4)) fun a12 => bnd (lcM (fun v_sign_5 => bnd (bnd (bnd (ret v_sign_5) fun a9 => bnd (ret (.str "abcdefghijklmnopqrstuvwxyz")) fun a10 => lft (niD a9 a10)) fun a11 => lft (asB a11)) fun b7 => if b7 then bnd (ret v_sign_5) fun a6 => ret (some a6) else ret none) a12) fun a13 => lft (okL a13)) fun ds => ret (.lst ds)) fun a14 => bnd (ret []) fun a15 => ret (a14 :: a15)) fun a16 => lft (lenD a16)) fun a17 => bnd (ret (.int 0)) fun a18 => lft (eqD a17 a18)))

def _law_words_m {γ : Type} (v_line : D) : M γ D :=
  (bnd (bnd (ret v_line) fun a1 => bnd (lft (asS a1)) fun a2 => bnd (ret (.str " sum")) fun a3 => lft (rfindD a2 a3)) fun v_at_4 => (bnd (bnd (bnd (bnd (ret v_at_4) fun a5 => bnd (ret (.int 0)) fun a6 => lft (ltD a5 a6)) fun a7 => lft (asB a7)) fun b53 => if b53 then ret true else (bnd (bnd (bnd (bnd (ret v_line) fun a16 => bnd (bnd (bnd (ret v_at_4) fun a8 => bnd (ret (.int 4)) fun a9 => lft (addD a8 a9)) fun a10 => bnd (lft (asI a10)) fun a11 => ret (some a11)) fun a17 => bnd (bnd (bnd (ret v_at_4) fun a12 => bnd (ret (.int 5)) fun a13 => lft (addD a12 a13)) fun a14 => bnd (lft (asI a14)) fun a15 => ret (some a15)) fun a18 => lft (slD a16 a17 a18)) fun a19 => bnd (ret (.str " ")) fun a20 => lft (neD a19 a20)) fun a21 => lft (asB a21)) fun b52 => if b52 then ret true else (bnd (bnd (bnd (bnd (bnd (ret v_line) fun a26 => bnd (bnd (bnd (ret v_at_4) fun a22 => bnd (ret (.int 5)) fun a23 => lft (addD a22 a23)) fun a24 => bnd (lft (asI a24)) fun a25 => ret (some a25)) fun a27 => bnd (ret none) fun a28 => lft (slD a26 a27 a28)) fun a29 => _law_is_number_text_m a29) fun a30 => lft (asB a30)) fun b31 => ret (!b31)) fun b51 => if b51 then ret true else (bnd (bnd (bnd (ret v_line) fun a36 => bnd (bnd (bnd (ret v_at_4) fun a32 => bnd (ret (.int 5)) fun a33 => lft (addD a32 a33)) fun a34 => bnd (lft (asI a34)) fun a35 => ret (some a35)) fun a37 => bnd (ret none) fun a38 => lft (slD a36 a37 a38)) fun a48 => bnd (bnd (bnd (bnd (bnd (ret v_line) fun a41 => bnd (ret none) fun a42 => bnd (bnd (ret v_at_4) fun a39 => bnd (lft (asI a39)) fun a40 => ret (some a40)) fun a43 => lft (slD a41 a42 a43)) fun a44 => _law_sum_m a44) fun a45 => bnd (ret []) fun a46 => ret (a45 :: a46)) fun a47 => lft (strD a47)) fun a49 => lft (neD a48 a49)) fun a50 => lft (asB a50))))) fun b54 => if b54 then (bnd (ret []) fun a55 => lft (mkT a55)) else (bnd (bnd (bnd (bnd (ret v_line) fun a58 => bnd (ret none) fun a59 => bnd (bnd (ret v_at_4) fun a56 => bnd (lft (asI a56)) fun a57 => ret (some a57)) fun a60 => lft (slD a58 a59 a60)) fun a61 => bnd (lft (asS a61)) fun a62 => bnd (ret (.str " ")) fun a63 => lft (splitD a62 a63)) fun a64 => bnd (ret []) fun a65 => ret (a64 :: a65)) fun a66 => lft (tupD a66))))

def _law_read_l1 {γ : Type} (v_lines : D) (v_words : D) (t : D) (v_found : D) : M γ (Lp (D)) :=
  (bnd (bnd (bnd (ret v_lines) fun a49 => bnd (bnd (ret t) fun a47 => bnd (ret (.int 1)) fun a48 => lft (addD a47 a48)) fun a50 => lft (ixD a49 a50)) fun a51 => _law_words_m a51) fun v_late_52 => (bnd (bnd (bnd (bnd (bnd (bnd (ret v_late_52) fun a53 => bnd (ret []) fun a54 => ret (a53 :: a54)) fun a55 => lft (lenD a55)) fun a56 => bnd (ret (.int 4)) fun a57 => lft (neD a56 a57)) fun a58 => lft (asB a58)) fun b85 => if b85 then ret true else (bnd (bnd (bnd (bnd (ret v_late_52) fun a59 => bnd (ret (.int 0)) fun a60 => lft (ixD a59 a60)) fun a61 => bnd (ret (.str "time")) fun a62 => lft (neD a61 a62)) fun a63 => lft (asB a63)) fun b84 => if b84 then ret true else (bnd (bnd (bnd (bnd (ret v_late_52) fun a64 => bnd (ret (.int 1)) fun a65 => lft (ixD a64 a65)) fun a69 => bnd (bnd (bnd (ret t) fun a66 => bnd (ret []) fun a67 => ret (a66 :: a67)) fun a68 => lft (strD a68)) fun a70 => lft (neD a69 a70)) fun a71 => lft (asB a71)) fun b83 => if b83 then ret true else (bnd (bnd (bnd (bnd (ret v_late_52) fun a72 => bnd (ret (.int 2)) fun a73 => lft (ixD a72 a73)) fun a74 => bnd (ret (.str "at")) fun a75 => lft (neD a74 a75)) fun a76 => lft (asB a76)) fun b82 => if b82 then ret true else (bnd (bnd (bnd (bnd (ret v_late_52) fun a77 => bnd (ret (.int 3)) fun a78 => lft (ixD a77 a78)) fun a79 => _law_is_number_text_m a79) fun a80 => lft (asB a80)) fun b81 => ret (!b81)))))) fun b86 => if b86 then (bnd (bnd (bnd (bnd (ret v_words) fun a87 => bnd (ret (.int 1)) fun a88 => lft (ixD a87 a88)) fun a98 => bnd (bnd (bnd (bnd (bnd (ret v_words) fun a89 => bnd (ret (.int 2)) fun a90 => lft (ixD a89 a90)) fun a91 => bnd (ret []) fun a92 => ret (a91 :: a92)) fun a93 => lft (intD a93)) fun a96 => bnd (bnd (ret v_found) fun a94 => bnd (ret []) fun a95 => ret (a94 :: a95)) fun a97 => ret (a96 :: a97)) fun a99 => ret (a98 :: a99)) fun a100 => lft (mkT a100)) fun d101 => ret (.rt d101)) else (bnd (bnd (ret v_found) fun a110 => bnd (bnd (bnd (bnd (bnd (bnd (ret v_late_52) fun a102 => bnd (ret (.int 3)) fun a103 => lft (ixD a102 a103)) fun a104 => bnd (ret []) fun a105 => ret (a104 :: a105)) fun a106 => lft (intD a106)) fun a107 => bnd (ret []) fun a108 => ret (a107 :: a108)) fun a109 => lft (mkT a109)) fun a111 => lft (addD a110 a111)) fun v_found_112 => (ret (.go v_found_112)))))

def _law_read_m {γ : Type} (v_text : D) : M γ D :=
  (bnd (bnd (bnd (bnd (ret v_text) fun a1 => lft ((isiB .str a1).map .bl)) fun a2 => lft (asB a2)) fun b3 => ret (!b3)) fun b4 => if b4 then (ret .non) else (bnd (bnd (ret v_text) fun a5 => bnd (lft (asS a5)) fun a6 => bnd (ret (.str "\n")) fun a7 => lft (splitD a6 a7)) fun v_lines_8 => (bnd (bnd (bnd (ret v_lines_8) fun a9 => bnd (ret (.int 0)) fun a10 => lft (ixD a9 a10)) fun a11 => _law_words_m a11) fun v_words_13 => bnd (bnd (ret []) fun a12 => lft (mkT a12)) fun v_found_14 => (bnd (bnd (bnd (bnd (bnd (bnd (ret v_words_13) fun a15 => bnd (ret []) fun a16 => ret (a15 :: a16)) fun a17 => lft (lenD a17)) fun a18 => bnd (ret (.int 3)) fun a19 => lft (neD a18 a19)) fun a20 => lft (asB a20)) fun b38 => if b38 then ret true else (bnd (bnd (bnd (bnd (ret v_words_13) fun a21 => bnd (ret (.int 0)) fun a22 => lft (ixD a21 a22)) fun a23 => bnd (ret (.str "leaf")) fun a24 => lft (neD a23 a24)) fun a25 => lft (asB a25)) fun b37 => if b37 then ret true else (bnd (bnd (bnd (bnd (bnd (ret v_words_13) fun a26 => bnd (ret (.int 1)) fun a27 => lft (ixD a26 a27)) fun a28 => _law_is_name_text_m a28) fun a29 => lft (asB a29)) fun b30 => ret (!b30)) fun b36 => if b36 then ret true else (bnd (bnd (bnd (bnd (ret v_words_13) fun a31 => bnd (ret (.int 2)) fun a32 => lft (ixD a31 a32)) fun a33 => _law_is_number_text_m a33) fun a34 => lft (asB a34)) fun b35 => ret (!b35))))) fun b39 => if b39 then (ret .non) else (bnd (bnd (bnd (bnd (bnd (ret v_lines_8) fun a40 => bnd (ret []) fun a41 => ret (a40 :: a41)) fun a42 => lft (lenD a42)) fun a43 => bnd (ret (.int 1)) fun a44 => lft (subD a43 a44)) fun a45 => lft (rng1 a45)) fun a130 => bnd (forM (fun d128 s113 => bnd (lft (some d128)) fun p46 => _law_read_l1 v_lines_8 v_words_13 p46 s113) a130 v_found_14) (lpC (fun s113 => (bnd (bnd (bnd (ret v_words_13) fun a114 => bnd (ret (.int 1)) fun a115 => lft (ixD a114 a115)) fun a125 => bnd (bnd (bnd (bnd (bnd (ret v_words_13) fun a116 => bnd (ret (.int 2)) fun a117 => lft (ixD a116 a117)) fun a118 => bnd (ret []) fun a119 => ret (a118 :: a119)) fun a120 => lft (intD a120)) fun a123 => bnd (bnd (ret s113) fun a121 => bnd (ret []) fun a122 => ret (a121 :: a122)) fun a124 => ret (a123 :: a124)) fun a126 => ret (a125 :: a126)) fun a127 => lft (mkT a127))) (fun d128 => ret d128)))))))

def _law_letters_m (v_deal : D) : M Dl D :=
  (bnd (bnd (bnd (bnd (ret v_deal) fun a1 => bnd (ret (.int 4)) fun a2 => any_m a1 a2) fun a3 => bnd (ret (.int 0)) fun a4 => lft (eqD a3 a4)) fun a5 => lft (asB a5)) fun b6 => if b6 then (bnd (ret v_deal) fun a18 => bnd (bnd (bnd (bnd (ret (.str "sum")) fun a15 => bnd (bnd (ret (.str "leaf")) fun a13 => bnd (bnd (ret (.str "time")) fun a11 => bnd (bnd (ret (.str "at")) fun a9 => bnd (bnd (ret (.str "a")) fun a7 => bnd (ret []) fun a8 => ret (a7 :: a8)) fun a10 => ret (a9 :: a10)) fun a12 => ret (a11 :: a12)) fun a14 => ret (a13 :: a14)) fun a16 => ret (a15 :: a16)) fun a17 => lft (okL a17)) fun ds => ret (.lst ds)) fun a19 => _law_of_m a18 a19) else (bnd (ret (.str "")) fun a35 => bnd (lft (asS a35)) fun a36 => bnd (bnd (bnd (bnd (bnd (ret (.int 1)) fun a22 => bnd (bnd (ret v_deal) fun a20 => bnd (ret (.int 8)) fun a21 => any_m a20 a21) fun a23 => lft (addD a22 a23)) fun a24 => lft (rng1 a24)) fun a33 => bnd (lcM (fun v_turn_25 => bnd (bnd (ret (.str "abcdefghijklmnopqrstuvwxyz")) fun a28 => bnd (bnd (ret v_deal) fun a26 => bnd (ret (.int 26)) fun a27 => any_m a26 a27) fun a29 => lft (ixD a28 a29)) fun a30 => ret (some a30)) a33) fun a34 => lft (okL a34)) fun ds => ret (.lst ds)) fun a37 => lft (joinD a36 a37)))

def _law_leaf_m (v_deal : D) : M Dl D :=
  (bnd (bnd (bnd (bnd (ret (.int 1)) fun a3 => bnd (bnd (ret v_deal) fun a1 => bnd (ret (.int 12)) fun a2 => any_m a1 a2) fun a4 => lft (addD a3 a4)) fun a5 => lft (rng1 a5)) fun a25 => bnd (lcM (fun v_turn_6 => bnd (bnd (ret v_deal) fun a20 => bnd (bnd (bnd (bnd (bnd (ret v_deal) fun a7 => bnd (ret (.int 10)) fun a8 => any_m a7 a8) fun a17 => bnd (bnd (bnd (ret v_deal) fun a9 => bnd (ret (.int 40)) fun a10 => any_m a9 a10) fun a15 => bnd (bnd (ret (.int 39)) fun a13 => bnd (bnd (ret (.int 0)) fun a11 => bnd (ret []) fun a12 => ret (a11 :: a12)) fun a14 => ret (a13 :: a14)) fun a16 => ret (a15 :: a16)) fun a18 => ret (a17 :: a18)) fun a19 => lft (okL a19)) fun ds => ret (.lst ds)) fun a21 => _law_of_m a20 a21) fun a22 => ret (some a22)) a25) fun a26 => lft (okL a26)) fun v_places_27 => (bnd (bnd (bnd (ret v_deal) fun a28 => _law_letters_m a28) fun a35 => bnd (bnd (bnd (ret v_deal) fun a29 => bnd (ret (.int 6)) fun a30 => any_m a29 a30) fun a33 => bnd (bnd (ret (.tup v_places_27)) fun a31 => bnd (ret []) fun a32 => ret (a31 :: a32)) fun a34 => ret (a33 :: a34)) fun a36 => ret (a35 :: a36)) fun a37 => lft (mkT a37)))

def _law_bent_lines_m (v_deal : D) (v_name : D) (v_party : D) (v_leaf : D) : M Dl D :=
  (bnd (bnd (ret v_name) fun a1 => bnd (ret v_party) fun a2 => bnd (ret v_leaf) fun a3 => _law_leaf_lines_m a1 a2 a3) fun v_lines_4 => (bnd (bnd (ret v_deal) fun a8 => bnd (bnd (bnd (ret v_lines_4) fun a5 => bnd (ret []) fun a6 => ret (a5 :: a6)) fun a7 => lft (lenD a7)) fun a9 => any_m a8 a9) fun v_at_10 => (bnd (bnd (bnd (ret (.str "")) fun a52 => bnd (bnd (ret (.str " ")) fun a50 => bnd (bnd (bnd (bnd (ret v_lines_4) fun a11 => bnd (ret v_at_10) fun a12 => lft (ixD a11 a12)) fun a13 => bnd (ret (.str " ")) fun a14 => lft (addD a13 a14)) fun a48 => bnd (bnd (bnd (ret (.str " ")) fun a17 => bnd (bnd (ret v_lines_4) fun a15 => bnd (ret v_at_10) fun a16 => lft (ixD a15 a16)) fun a18 => lft (addD a17 a18)) fun a46 => bnd (bnd (bnd (bnd (ret v_lines_4) fun a19 => bnd (ret v_at_10) fun a20 => lft (ixD a19 a20)) fun a21 => lft (replC " " "  " a21)) fun a44 => bnd (bnd (bnd (bnd (ret v_lines_4) fun a22 => bnd (ret v_at_10) fun a23 => lft (ixD a22 a23)) fun a24 => lft (replC " " " 0" a24)) fun a42 => bnd (bnd (bnd (bnd (ret v_lines_4) fun a25 => bnd (ret v_at_10) fun a26 => lft (ixD a25 a26)) fun a27 => bnd (ret (.str " 1")) fun a28 => lft (addD a27 a28)) fun a40 => bnd (bnd (bnd (bnd (ret v_lines_4) fun a36 => bnd (ret v_at_10) fun a37 => lft (ixD a36 a37)) fun a33 => bnd (ret none) fun a34 => bnd (bnd (bnd (ret (.int 1)) fun a29 => lft (negD a29)) fun a31 => bnd (lft (asI a31)) fun a32 => ret (some a32)) fun a35 => lft (slD a33 a34 a35)) fun a38 => bnd (ret []) fun a39 => ret (a38 :: a39)) fun a41 => ret (a40 :: a41)) fun a43 => ret (a42 :: a43)) fun a45 => ret (a44 :: a45)) fun a47 => ret (a46 :: a47)) fun a49 => ret (a48 :: a49)) fun a51 => ret (a50 :: a51)) fun a53 => ret (a52 :: a53)) fun a54 => lft (okL a54)) fun v_some_55 => (bnd (bnd (ret (true, v_some_55)) fun q85 => bnd (bnd (bnd (bnd (bnd (ret (.str "leaf ")) fun a56 => bnd (ret v_name) fun a57 => lft (addD a56 a57)) fun a82 => bnd (bnd (bnd (bnd (bnd (ret (.str "leaf ")) fun a58 => bnd (ret v_name) fun a59 => lft (addD a58 a59)) fun a62 => bnd (bnd (ret (.str "a")) fun a60 => bnd (ret (.int 8)) fun a61 => lft (mulA a60 a61)) fun a63 => lft (addD a62 a63)) fun a64 => bnd (ret (.str " 1")) fun a65 => lft (addD a64 a65)) fun a80 => bnd (bnd (ret (.str "leaf A 1")) fun a78 => bnd (bnd (ret (.str "leaf a -1")) fun a76 => bnd (bnd (ret (.str "leaf a 1 2")) fun a74 => bnd (bnd (ret (.str "leafs a 1")) fun a72 => bnd (bnd (ret (.str "time 0 at")) fun a70 => bnd (bnd (ret (.str "time 0 to 1")) fun a68 => bnd (bnd (ret (.str "time -1 at 1")) fun a66 => bnd (ret []) fun a67 => ret (a66 :: a67)) fun a69 => ret (a68 :: a69)) fun a71 => ret (a70 :: a71)) fun a73 => ret (a72 :: a73)) fun a75 => ret (a74 :: a75)) fun a77 => ret (a76 :: a77)) fun a79 => ret (a78 :: a79)) fun a81 => ret (a80 :: a81)) fun a83 => ret (a82 :: a83)) fun a84 => lft (okL a84)) fun ds => ret (true, ds)) fun q86 => lft (catQ q85 q86)) fun v_some_87 => (bnd (bnd (ret (true, v_some_87)) fun q119 => bnd (bnd (bnd (bnd (bnd (bnd (ret (.str "time ")) fun a94 => bnd (bnd (bnd (bnd (bnd (ret v_leaf) fun a88 => bnd (ret []) fun a89 => ret (a88 :: a89)) fun a90 => lft (lenD a90)) fun a91 => bnd (ret []) fun a92 => ret (a91 :: a92)) fun a93 => lft (strD a93)) fun a95 => lft (addD a94 a95)) fun a96 => bnd (ret (.str " at 1")) fun a97 => lft (addD a96 a97)) fun a116 => bnd (bnd (ret (.str "time 00 at 1")) fun a114 => bnd (bnd (ret (.str "time 0 at 01")) fun a112 => bnd (bnd (ret (.str "time 1 at 1")) fun a110 => bnd (bnd (ret (.str "time 0 at a")) fun a108 => bnd (bnd (ret (.str "time 0 at 1 sum 5")) fun a106 => bnd (bnd (bnd (bnd (ret v_lines_4) fun a98 => bnd (ret v_at_10) fun a99 => lft (ixD a98 a99)) fun a100 => bnd (ret (.str "~")) fun a101 => lft (addD a100 a101)) fun a104 => bnd (bnd (ret (.str "x sum")) fun a102 => bnd (ret []) fun a103 => ret (a102 :: a103)) fun a105 => ret (a104 :: a105)) fun a107 => ret (a106 :: a107)) fun a109 => ret (a108 :: a109)) fun a111 => ret (a110 :: a111)) fun a113 => ret (a112 :: a113)) fun a115 => ret (a114 :: a115)) fun a117 => ret (a116 :: a117)) fun a118 => lft (okL a118)) fun ds => ret (true, ds)) fun q120 => lft (catQ q119 q120)) fun v_some_121 => (bnd (bnd (bnd (bnd (bnd (bnd (ret v_lines_4) fun a130 => bnd (ret none) fun a131 => bnd (bnd (ret v_at_10) fun a128 => bnd (lft (asI a128)) fun a129 => ret (some a129)) fun a132 => lft (slD a130 a131 a132)) fun a133 => lft (sqOf a133)) fun q139 => bnd (bnd (bnd (bnd (bnd (ret v_deal) fun a134 => bnd (ret (.lst v_some_121)) fun a135 => _law_of_m a134 a135) fun a136 => bnd (ret []) fun a137 => ret (a136 :: a137)) fun a138 => lft (okL a138)) fun ds => ret (true, ds)) fun q140 => lft (catQ q139 q140)) fun ds => ret (true, ds)) fun q149 => bnd (bnd (bnd (ret v_lines_4) fun a145 => bnd (bnd (bnd (ret v_at_10) fun a141 => bnd (ret (.int 1)) fun a142 => lft (addD a141 a142)) fun a143 => bnd (lft (asI a143)) fun a144 => ret (some a144)) fun a146 => bnd (ret none) fun a147 => lft (slD a145 a146 a147)) fun a148 => lft (sqOf a148)) fun q150 => lft (catQ q149 q150)) fun ds => ret (.lst ds)))))))

def _law_bent_texts_l1 (v_deal : D) (v_name : D) (v_party : D) (v_leaf : D) (v_text : D) (v_lines : List D) (t : D) (v_found : List D) : M Dl (List D) :=
  (bnd (bnd (ret v_deal) fun a24 => bnd (bnd (bnd (ret v_text) fun a21 => bnd (ret []) fun a22 => ret (a21 :: a22)) fun a23 => lft (lenD a23)) fun a25 => any_m a24 a25) fun v_at_26 => (bnd (bnd (ret v_deal) fun a46 => bnd (bnd (bnd (bnd (ret (.str "a")) fun a43 => bnd (bnd (ret (.str "0")) fun a41 => bnd (bnd (ret (.str "1")) fun a39 => bnd (bnd (ret (.str " ")) fun a37 => bnd (bnd (ret (.str "\n")) fun a35 => bnd (bnd (ret (.str "s")) fun a33 => bnd (bnd (ret (.str "~")) fun a31 => bnd (bnd (ret (.str "_")) fun a29 => bnd (bnd (ret (.str "9")) fun a27 => bnd (ret []) fun a28 => ret (a27 :: a28)) fun a30 => ret (a29 :: a30)) fun a32 => ret (a31 :: a32)) fun a34 => ret (a33 :: a34)) fun a36 => ret (a35 :: a36)) fun a38 => ret (a37 :: a38)) fun a40 => ret (a39 :: a40)) fun a42 => ret (a41 :: a42)) fun a44 => ret (a43 :: a44)) fun a45 => lft (okL a45)) fun ds => ret (.lst ds)) fun a47 => _law_of_m a46 a47) fun v_sign_48 => (bnd (bnd (ret (true, v_found)) fun q107 => bnd (bnd (bnd (bnd (bnd (ret v_text) fun a51 => bnd (ret none) fun a52 => bnd (bnd (ret v_at_26) fun a49 => bnd (lft (asI a49)) fun a50 => ret (some a50)) fun a53 => lft (slD a51 a52 a53)) fun a104 => bnd (bnd (bnd (bnd (bnd (ret v_text) fun a56 => bnd (ret none) fun a57 => bnd (bnd (ret v_at_26) fun a54 => bnd (lft (asI a54)) fun a55 => ret (some a55)) fun a58 => lft (slD a56 a57 a58)) fun a59 => bnd (ret v_sign_48) fun a60 => lft (addD a59 a60)) fun a68 => bnd (bnd (ret v_text) fun a65 => bnd (bnd (bnd (ret v_at_26) fun a61 => bnd (ret (.int 1)) fun a62 => lft (addD a61 a62)) fun a63 => bnd (lft (asI a63)) fun a64 => ret (some a64)) fun a66 => bnd (ret none) fun a67 => lft (slD a65 a66 a67)) fun a69 => lft (addD a68 a69)) fun a102 => bnd (bnd (bnd (bnd (bnd (ret v_text) fun a72 => bnd (ret none) fun a73 => bnd (bnd (ret v_at_26) fun a70 => bnd (lft (asI a70)) fun a71 => ret (some a71)) fun a74 => lft (slD a72 a73 a74)) fun a75 => bnd (ret v_sign_48) fun a76 => lft (addD a75 a76)) fun a82 => bnd (bnd (ret v_text) fun a79 => bnd (bnd (ret v_at_26) fun a77 => bnd (lft (asI a77)) fun a78 => ret (some a78)) fun a80 => bnd (ret none) fun a81 => lft (slD a79 a80 a81)) fun a83 => lft (addD a82 a83)) fun a100 => bnd (bnd (bnd (bnd (ret v_text) fun a86 => bnd (ret none) fun a87 => bnd (bnd (ret v_at_26) fun a84 => bnd (lft (asI a84)) fun a85 => ret (some a85)) fun a88 => lft (slD a86 a87 a88)) fun a96 => bnd (bnd (ret v_text) fun a93 => bnd (bnd (bnd (ret v_at_26) fun a89 => bnd (ret (.int 1)) fun a90 => lft (addD a89 a90)) fun a91 => bnd (lft (asI a91)) fun a92 => ret (some a92)) fun a94 => bnd (ret none) fun a95 => lft (slD a93 a94 a95)) fun a97 => lft (addD a96 a97)) fun a98 => bnd (ret []) fun a99 => ret (a98 :: a99)) fun a101 => ret (a100 :: a101)) fun a103 => ret (a102 :: a103)) fun a105 => ret (a104 :: a105)) fun a106 => lft (okL a106)) fun ds => ret (true, ds)) fun q108 => lft (catQ q107 q108)) fun v_found_109 => (bnd (bnd (ret v_deal) fun a114 => bnd (bnd (bnd (bnd (ret (.lst v_lines)) fun a110 => bnd (ret []) fun a111 => ret (a110 :: a111)) fun a112 => lft (lenD a112)) fun a113 => lft (sclD a113)) fun a115 => any_m a114 a115) fun v_one_122 => bnd (bnd (ret v_deal) fun a120 => bnd (bnd (bnd (bnd (ret (.lst v_lines)) fun a116 => bnd (ret []) fun a117 => ret (a116 :: a117)) fun a118 => lft (lenD a118)) fun a119 => lft (sclD a119)) fun a121 => any_m a120 a121) fun v_other_123 => (bnd (bnd (ret (true, v_found_109)) fun q152 => bnd (bnd (bnd (bnd (bnd (ret (.str "\n")) fun a129 => bnd (lft (asS a129)) fun a130 => bnd (bnd (ret (.tup v_lines)) fun a126 => bnd (ret v_one_122) fun a127 => bnd (bnd (ret v_other_123) fun a125 => atM v_lines a125) fun a128 => _law_put_m a126 a127 a128) fun a131 => lft (joinD a130 a131)) fun a149 => bnd (bnd (bnd (ret (.str "\n")) fun a144 => bnd (lft (asS a144)) fun a145 => bnd (bnd (bnd (ret none) fun a135 => bnd (bnd (ret v_one_122) fun a132 => bnd (lft (asI a132)) fun a133 => ret (some a133)) fun a136 => ret (.lst (cutG v_lines a135 a136))) fun a142 => bnd (bnd (bnd (ret v_other_123) fun a137 => bnd (lft (asI a137)) fun a138 => ret (some a138)) fun a140 => bnd (ret none) fun a141 => ret (.lst (cutG v_lines a140 a141))) fun a143 => lft (addD a142 a143)) fun a146 => lft (joinD a145 a146)) fun a147 => bnd (ret []) fun a148 => ret (a147 :: a148)) fun a150 => ret (a149 :: a150)) fun a151 => lft (okL a151)) fun ds => ret (true, ds)) fun q153 => lft (catQ q152 q153)) fun v_found_154 => (bnd (bnd (ret (.str "\n")) fun a167 => bnd (lft (asS a167)) fun a168 => bnd (bnd (bnd (bnd (bnd (ret v_deal) fun a155 => bnd (ret v_name) fun a156 => bnd (ret v_party) fun a157 => bnd (ret v_leaf) fun a158 => _law_bent_lines_m a155 a156 a157 a158) fun a159 => lft (seqOf a159)) fun a165 => bnd (lcM (fun v_line_160 => bnd (bnd (ret v_line_160) fun a161 => _law_summed_m a161) fun a162 => ret (some a162)) a165) fun a166 => lft (okL a166)) fun ds => ret (.lst ds)) fun a169 => lft (joinD a168 a169)) fun d170 => chk (decide ((v_found_154).length < LIM)) (ret (v_found_154 ++ [d170]))))))))

def _law_bent_texts_m (v_deal : D) (v_name : D) (v_party : D) (v_leaf : D) : M Dl D :=
  (bnd (bnd (ret v_name) fun a12 => bnd (ret v_party) fun a13 => bnd (ret v_leaf) fun a14 => _law_leaf_text_m a12 a13 a14) fun v_text_15 => bnd (bnd (bnd (bnd (ret v_name) fun a1 => bnd (ret v_party) fun a2 => bnd (ret v_leaf) fun a3 => _law_leaf_lines_m a1 a2 a3) fun a4 => lft (seqOf a4)) fun a10 => bnd (lcM (fun v_line_5 => bnd (bnd (ret v_line_5) fun a6 => _law_summed_m a6) fun a7 => ret (some a7)) a10) fun a11 => lft (okL a11)) fun v_lines_16 => (bnd (bnd (ret []) fun a17 => lft (okL a17)) fun v_found_18 => (bnd (bnd (ret (.int 6)) fun a19 => lft (rng1 a19)) fun a278 => bnd (forL (fun d277 s171 => bnd (lft (some d277)) fun p20 => _law_bent_texts_l1 v_deal v_name v_party v_leaf v_text_15 v_lines_16 p20 s171) a278 v_found_18) fun s171 => (bnd (bnd (ret (.str " ")) fun a186 => bnd (lft (asS a186)) fun a187 => bnd (bnd (bnd (bnd (bnd (ret (.int 1)) fun a179 => lft (negD a179)) fun a182 => atM v_lines_16 a182) fun a183 => bnd (lft (asS a183)) fun a184 => bnd (ret (.str " ")) fun a185 => lft (splitD a184 a185)) fun a176 => bnd (ret none) fun a177 => bnd (bnd (bnd (ret (.int 1)) fun a172 => lft (negD a172)) fun a174 => bnd (lft (asI a174)) fun a175 => ret (some a175)) fun a178 => lft (slD a176 a177 a178)) fun a188 => lft (joinD a187 a188)) fun v_late_189 => (bnd (bnd (ret (true, s171)) fun q245 => bnd (bnd (bnd (bnd (bnd (ret (.str "\n")) fun a221 => bnd (lft (asS a221)) fun a222 => bnd (bnd (bnd (bnd (bnd (ret none) fun a195 => bnd (bnd (bnd (ret (.int 1)) fun a190 => lft (negD a190)) fun a192 => bnd (lft (asI a192)) fun a193 => ret (some a193)) fun a196 => ret (.lst (cutG v_lines_16 a195 a196))) fun a197 => lft (sqOf a197)) fun q219 => bnd (bnd (bnd (bnd (bnd (bnd (ret v_late_189) fun a198 => bnd (ret (.str " 0")) fun a199 => lft (addD a198 a199)) fun a214 => bnd (bnd (bnd (bnd (ret (.int 1)) fun a210 => lft (negD a210)) fun a213 => atM v_lines_16 a213) fun a207 => bnd (bnd (bnd (bnd (bnd (ret v_late_189) fun a200 => bnd (ret []) fun a201 => ret (a200 :: a201)) fun a202 => lft (lenD a202)) fun a203 => bnd (ret (.int 1)) fun a204 => lft (addD a203 a204)) fun a205 => bnd (lft (asI a205)) fun a206 => ret (some a206)) fun a208 => bnd (ret none) fun a209 => lft (slD a207 a208 a209)) fun a215 => lft (addD a214 a215)) fun a216 => bnd (ret []) fun a217 => ret (a216 :: a217)) fun a218 => lft (okL a218)) fun ds => ret (true, ds)) fun q220 => lft (catQ q219 q220)) fun ds => ret (.lst ds)) fun a223 => lft (joinD a222 a223)) fun a242 => bnd (bnd (bnd (ret (.str "\n")) fun a237 => bnd (lft (asS a237)) fun a238 => bnd (bnd (bnd (bnd (bnd (ret none) fun a229 => bnd (bnd (bnd (ret (.int 1)) fun a224 => lft (negD a224)) fun a226 => bnd (lft (asI a226)) fun a227 => ret (some a227)) fun a230 => ret (.lst (cutG v_lines_16 a229 a230))) fun a231 => lft (sqOf a231)) fun q235 => bnd (bnd (bnd (bnd (ret v_late_189) fun a232 => bnd (ret []) fun a233 => ret (a232 :: a233)) fun a234 => lft (okL a234)) fun ds => ret (true, ds)) fun q236 => lft (catQ q235 q236)) fun ds => ret (.lst ds)) fun a239 => lft (joinD a238 a239)) fun a240 => bnd (ret []) fun a241 => ret (a240 :: a241)) fun a243 => ret (a242 :: a243)) fun a244 => lft (okL a244)) fun ds => ret (true, ds)) fun q246 => lft (catQ q245 q246)) fun v_found_247 => (bnd (bnd (ret (true, v_found_247)) fun q275 => bnd (bnd (bnd (bnd (bnd (ret v_text_15) fun a248 => bnd (ret (.str "\n")) fun a249 => lft (addD a248 a249)) fun a272 => bnd (bnd (bnd (ret v_text_15) fun a250 => bnd (ret (.str "\n\n")) fun a251 => lft (addD a250 a251)) fun a270 => bnd (bnd (bnd (ret v_text_15) fun a252 => bnd (ret (.str " ")) fun a253 => lft (addD a252 a253)) fun a268 => bnd (bnd (bnd (ret (.str "\n")) fun a254 => bnd (ret v_text_15) fun a255 => lft (addD a254 a255)) fun a266 => bnd (bnd (bnd (ret (.str " ")) fun a256 => bnd (ret v_text_15) fun a257 => lft (addD a256 a257)) fun a264 => bnd (bnd (bnd (ret v_text_15) fun a258 => bnd (ret v_text_15) fun a259 => lft (addD a258 a259)) fun a262 => bnd (bnd (ret (.str "")) fun a260 => bnd (ret []) fun a261 => ret (a260 :: a261)) fun a263 => ret (a262 :: a263)) fun a265 => ret (a264 :: a265)) fun a267 => ret (a266 :: a267)) fun a269 => ret (a268 :: a269)) fun a271 => ret (a270 :: a271)) fun a273 => ret (a272 :: a273)) fun a274 => lft (okL a274)) fun ds => ret (true, ds)) fun q276 => lft (catQ q275 q276)) fun ds => ret (.lst ds)))))))

def law_l2 (v_deal : D) (v_told : D) (v_name : D) (v_party : D) (v_leaf : D) (t : D) (v_pairs : List D) : M Dl (List D) :=
  (bnd (bnd (bnd (bnd (ret t) fun a63 => read_leaf_m a63) fun a67 => bnd (bnd (bnd (ret t) fun a64 => _law_read_m a64) fun a65 => bnd (ret []) fun a66 => ret (a65 :: a66)) fun a68 => ret (a67 :: a68)) fun a69 => lft (mkT a69)) fun d70 => chk (decide ((v_pairs).length < LIM)) (ret (v_pairs ++ [d70])))

def law_l1 (v_deal : D) (t : D) (v_pairs : List D) : M Dl (List D) :=
  (bnd (bnd (ret v_deal) fun a5 => _law_leaf_m a5) fun d4 => bnd (lft (un3 d4)) fun p3 => (bnd (bnd (bnd (bnd (ret t) fun a6 => bnd (ret (.int 0)) fun a7 => lft (eqD a6 a7)) fun a8 => lft (asB a8)) fun b19 => if b19 then (bnd (bnd (ret p3.2.2) fun a13 => bnd (bnd (ret p3.2.1) fun a11 => bnd (bnd (ret p3.1) fun a9 => bnd (ret []) fun a10 => ret (a9 :: a10)) fun a12 => ret (a11 :: a12)) fun a14 => ret (a13 :: a14)) fun a15 => chk (decide (a15.length = 3 ∧ (prm [2, 1, 0] a15).length = 3)) (A3 leaf_text_m (prm [2, 1, 0] a15))) else (bnd (ret p3.1) fun a16 => bnd (ret p3.2.1) fun a17 => bnd (ret p3.2.2) fun a18 => leaf_text_m a16 a17 a18)) fun v_told_20 => (bnd (bnd (ret (true, v_pairs)) fun q54 => bnd (bnd (bnd (bnd (bnd (bnd (ret v_told_20) fun a26 => bnd (bnd (bnd (ret p3.1) fun a21 => bnd (ret p3.2.1) fun a22 => bnd (ret p3.2.2) fun a23 => _law_leaf_text_m a21 a22 a23) fun a24 => bnd (ret []) fun a25 => ret (a24 :: a25)) fun a27 => ret (a26 :: a27)) fun a28 => lft (mkT a28)) fun a51 => bnd (bnd (bnd (bnd (bnd (bnd (bnd (ret t) fun a29 => bnd (ret (.int 0)) fun a30 => lft (eqD a29 a30)) fun a31 => lft (asB a31)) fun b36 => if b36 then (bnd (bnd (ret v_told_20) fun a32 => bnd (ret []) fun a33 => ret (a32 :: a33)) fun a34 => chk (decide (a34.length = 1 ∧ (prm [0] a34).length = 1)) (A1 read_leaf_m (prm [0] a34))) else (bnd (ret v_told_20) fun a35 => read_leaf_m a35)) fun a46 => bnd (bnd (bnd (bnd (ret p3.1) fun a41 => bnd (bnd (ret p3.2.1) fun a39 => bnd (bnd (ret p3.2.2) fun a37 => bnd (ret []) fun a38 => ret (a37 :: a38)) fun a40 => ret (a39 :: a40)) fun a42 => ret (a41 :: a42)) fun a43 => lft (mkT a43)) fun a44 => bnd (ret []) fun a45 => ret (a44 :: a45)) fun a47 => ret (a46 :: a47)) fun a48 => lft (mkT a48)) fun a49 => bnd (ret []) fun a50 => ret (a49 :: a50)) fun a52 => ret (a51 :: a52)) fun a53 => lft (okL a53)) fun ds => ret (true, ds)) fun q55 => lft (catQ q54 q55)) fun v_pairs_56 => (bnd (bnd (bnd (ret v_deal) fun a57 => bnd (ret p3.1) fun a58 => bnd (ret p3.2.1) fun a59 => bnd (ret p3.2.2) fun a60 => _law_bent_texts_m a57 a58 a59 a60) fun a61 => lft (seqOf a61)) fun a182 => bnd (forL (fun d181 s71 => bnd (lft (some d181)) fun p62 => law_l2 v_deal v_told_20 p3.1 p3.2.1 p3.2.2 p62 s71) a182 v_pairs_56) fun s71 => (bnd (bnd (bnd (bnd (bnd (ret (.str "leaf ")) fun a72 => bnd (ret p3.1) fun a73 => lft (addD a72 a73)) fun a74 => bnd (ret (.str " ")) fun a75 => lft (addD a74 a75)) fun a79 => bnd (bnd (bnd (ret p3.2.1) fun a76 => bnd (ret []) fun a77 => ret (a76 :: a77)) fun a78 => lft (strD a78)) fun a80 => lft (addD a79 a80)) fun a81 => _law_summed_m a81) fun v_head_82 => (bnd (bnd (ret (true, s71)) fun q135 => bnd (bnd (bnd (bnd (bnd (bnd (bnd (ret v_head_82) fun a83 => read_leaf_m a83) fun a94 => bnd (bnd (bnd (bnd (ret p3.1) fun a89 => bnd (bnd (ret p3.2.1) fun a87 => bnd (bnd (bnd (ret []) fun a84 => lft (mkT a84)) fun a85 => bnd (ret []) fun a86 => ret (a85 :: a86)) fun a88 => ret (a87 :: a88)) fun a90 => ret (a89 :: a90)) fun a91 => lft (mkT a91)) fun a92 => bnd (ret []) fun a93 => ret (a92 :: a93)) fun a95 => ret (a94 :: a95)) fun a96 => lft (mkT a96)) fun a132 => bnd (bnd (bnd (bnd (bnd (bnd (ret v_head_82) fun a101 => bnd (ret none) fun a102 => bnd (bnd (bnd (ret (.int 1)) fun a97 => lft (negD a97)) fun a99 => bnd (lft (asI a99)) fun a100 => ret (some a100)) fun a103 => lft (slD a101 a102 a103)) fun a104 => read_leaf_m a104) fun a107 => bnd (bnd (ret .non) fun a105 => bnd (ret []) fun a106 => ret (a105 :: a106)) fun a108 => ret (a107 :: a108)) fun a109 => lft (mkT a109)) fun a130 => bnd (bnd (bnd (bnd (bnd (bnd (bnd (ret p3.1) fun a117 => bnd (ret p3.2.1) fun a118 => bnd (bnd (ret p3.2.2) fun a114 => bnd (ret none) fun a115 => bnd (bnd (ret (.int 1)) fun a112 => bnd (lft (asI a112)) fun a113 => ret (some a113)) fun a116 => lft (slD a114 a115 a116)) fun a119 => leaf_text_m a117 a118 a119) fun a120 => bnd (lft (asS a120)) fun a121 => bnd (ret (.str "\n")) fun a122 => lft (splitD a121 a122)) fun a110 => bnd (ret (.int 0)) fun a111 => lft (ixD a110 a111)) fun a125 => bnd (bnd (ret v_head_82) fun a123 => bnd (ret []) fun a124 => ret (a123 :: a124)) fun a126 => ret (a125 :: a126)) fun a127 => lft (mkT a127)) fun a128 => bnd (ret []) fun a129 => ret (a128 :: a129)) fun a131 => ret (a130 :: a131)) fun a133 => ret (a132 :: a133)) fun a134 => lft (okL a134)) fun ds => ret (true, ds)) fun q136 => lft (catQ q135 q136)) fun v_pairs_137 => (bnd (bnd (ret (true, v_pairs_137)) fun q178 => bnd (bnd (bnd (bnd (bnd (ret .non) fun a163 => bnd (bnd (ret (.int 0)) fun a161 => bnd (bnd (ret (.bl true)) fun a159 => bnd (bnd (bnd (bnd (ret v_told_20) fun a138 => bnd (ret []) fun a139 => ret (a138 :: a139)) fun a140 => lft (mkT a140)) fun a157 => bnd (bnd (bnd (bnd (bnd (ret v_told_20) fun a141 => bnd (ret []) fun a142 => ret (a141 :: a142)) fun a143 => lft (okL a143)) fun ds => ret (.lst ds)) fun a155 => bnd (bnd (bnd (bnd (ret p3.1) fun a148 => bnd (bnd (ret p3.2.1) fun a146 => bnd (bnd (ret p3.2.2) fun a144 => bnd (ret []) fun a145 => ret (a144 :: a145)) fun a147 => ret (a146 :: a147)) fun a149 => ret (a148 :: a149)) fun a150 => lft (mkT a150)) fun a153 => bnd (bnd (ret (.str "leaf")) fun a151 => bnd (ret []) fun a152 => ret (a151 :: a152)) fun a154 => ret (a153 :: a154)) fun a156 => ret (a155 :: a156)) fun a158 => ret (a157 :: a158)) fun a160 => ret (a159 :: a160)) fun a162 => ret (a161 :: a162)) fun a164 => ret (a163 :: a164)) fun a165 => lft (okL a165)) fun a176 => bnd (lcM (fun v_value_166 => bnd (bnd (bnd (bnd (ret v_value_166) fun a167 => read_leaf_m a167) fun a170 => bnd (bnd (ret .non) fun a168 => bnd (ret []) fun a169 => ret (a168 :: a169)) fun a171 => ret (a170 :: a171)) fun a172 => lft (mkT a172)) fun a173 => ret (some a173)) a176) fun a177 => lft (okL a177)) fun ds => ret (true, ds)) fun q179 => lft (catQ q178 q179)) fun v_pairs_180 => (ret v_pairs_180))))))))

def law_m : M Dl D :=
  (bnd (bnd (ret (.int 4)) fun a1 => lft (rng1 a1)) fun a262 => bnd (forL (fun d261 s183 => bnd (lft (some d261)) fun p2 => law_l1 (.ptr 0) p2 s183) a262 []) fun s183 => (bnd (bnd (bnd (bnd (ret (.str "sum")) fun a191 => bnd (ret (.int 1)) fun a192 => bnd (bnd (bnd (ret (.int 2)) fun a188 => bnd (bnd (ret (.int 1)) fun a186 => bnd (bnd (ret (.int 0)) fun a184 => bnd (ret []) fun a185 => ret (a184 :: a185)) fun a187 => ret (a186 :: a187)) fun a189 => ret (a188 :: a189)) fun a190 => lft (mkT a190)) fun a193 => leaf_text_m a191 a192 a193) fun a215 => bnd (bnd (bnd (ret (.str "\n")) fun a210 => bnd (lft (asS a210)) fun a211 => bnd (bnd (bnd (bnd (bnd (ret (.str "leaf sum 1")) fun a200 => bnd (bnd (ret (.str "time 0 at 2")) fun a198 => bnd (bnd (ret (.str "time 1 at 1")) fun a196 => bnd (bnd (ret (.str "time 2 at 0")) fun a194 => bnd (ret []) fun a195 => ret (a194 :: a195)) fun a197 => ret (a196 :: a197)) fun a199 => ret (a198 :: a199)) fun a201 => ret (a200 :: a201)) fun a202 => lft (okL a202)) fun a208 => bnd (lcM (fun v_line_203 => bnd (bnd (ret v_line_203) fun a204 => _law_summed_m a204) fun a205 => ret (some a205)) a208) fun a209 => lft (okL a209)) fun ds => ret (.lst ds)) fun a212 => lft (joinD a211 a212)) fun a213 => bnd (ret []) fun a214 => ret (a213 :: a214)) fun a216 => ret (a215 :: a216)) fun a217 => lft (mkT a217)) fun d218 => chk (decide ((s183).length < LIM)) (bnd (bnd (bnd (ret (true, (s183 ++ [d218]))) fun q258 => bnd (bnd (bnd (bnd (bnd (bnd (bnd (ret (.str "a")) fun a219 => _law_sum_m a219) fun a222 => bnd (bnd (ret (.int 314)) fun a220 => bnd (ret []) fun a221 => ret (a220 :: a221)) fun a223 => ret (a222 :: a223)) fun a224 => lft (mkT a224)) fun a255 => bnd (bnd (bnd (bnd (bnd (ret (.str "ab")) fun a225 => _law_sum_m a225) fun a228 => bnd (bnd (ret (.int 9832)) fun a226 => bnd (ret []) fun a227 => ret (a226 :: a227)) fun a229 => ret (a228 :: a229)) fun a230 => lft (mkT a230)) fun a253 => bnd (bnd (bnd (bnd (bnd (bnd (bnd (bnd (ret (.str "leaf a 0")) fun a231 => _law_summed_m a231) fun a232 => bnd (ret (.str "\n")) fun a233 => lft (addD a232 a233)) fun a235 => bnd (bnd (ret (.str "time 0 at 1 sum 5")) fun a234 => _law_summed_m a234) fun a236 => lft (addD a235 a236)) fun a237 => read_leaf_m a237) fun a248 => bnd (bnd (bnd (bnd (ret (.str "a")) fun a243 => bnd (bnd (ret (.int 0)) fun a241 => bnd (bnd (bnd (ret []) fun a238 => lft (mkT a238)) fun a239 => bnd (ret []) fun a240 => ret (a239 :: a240)) fun a242 => ret (a241 :: a242)) fun a244 => ret (a243 :: a244)) fun a245 => lft (mkT a245)) fun a246 => bnd (ret []) fun a247 => ret (a246 :: a247)) fun a249 => ret (a248 :: a249)) fun a250 => lft (mkT a250)) fun a251 => bnd (ret []) fun a252 => ret (a251 :: a252)) fun a254 => ret (a253 :: a254)) fun a256 => ret (a255 :: a256)) fun a257 => lft (okL a257)) fun ds => ret (true, ds)) fun q259 => lft (catQ q258 q259)) fun ds => ret (.lst ds)) fun a260 => _law_all_m a260)))

end Lk87

set_option Elab.async false
set_option linter.all false
set_option maxRecDepth 100000
set_option maxHeartbeats 4000000
namespace Lk87
open PySem L2 Py
open SX (S)
/-- signs that are signs -/
def okT (a : List Nat) : Prop := ∀ c ∈ a, c < 1114112
def small : List Nat := [97, 98, 99, 100, 101, 102, 103, 104, 105, 106, 107, 108, 109, 110, 111, 112, 113, 114, 115, 116, 117, 118, 119, 120, 121, 122]
def figs : List Nat := [48, 49, 50, 51, 52, 53, 54, 55, 56, 57]
theorem s_small : (D.str (Str.ofString "abcdefghijklmnopqrstuvwxyz")) = dS small := rfl
theorem s_figs : (D.str (Str.ofString "0123456789")) = dS figs := rfl
theorem s_e : (D.str (Str.ofString "")) = dS [] := rfl
theorem s_0 : (D.str (Str.ofString "0")) = dS [48] := rfl
theorem s_sum : (D.str (Str.ofString " sum")) = dS [32, 115, 117, 109] := rfl
theorem s_sumb : (D.str (Str.ofString " sum ")) = dS [32, 115, 117, 109, 32] := rfl
theorem s_b : (D.str (Str.ofString " ")) = dS [32] := rfl
theorem s_leaf : (D.str (Str.ofString "leaf")) = dS [108, 101, 97, 102] := rfl
theorem s_leafb : (D.str (Str.ofString "leaf ")) = dS [108, 101, 97, 102, 32] := rfl
theorem s_time : (D.str (Str.ofString "time")) = dS [116, 105, 109, 101] := rfl
theorem s_timeb : (D.str (Str.ofString "time ")) = dS [116, 105, 109, 101, 32] := rfl
theorem s_at : (D.str (Str.ofString "at")) = dS [97, 116] := rfl
theorem s_atb : (D.str (Str.ofString " at ")) = dS [32, 97, 116, 32] := rfl
theorem s_nl : (D.str (Str.ofString "\n")) = dS [10] := rfl
def outs (b a : List Nat) : List Nat := a.filter fun c => !decide (c ∈ b)
def isNm (a : List Nat) : Bool := decide (1 ≤ a.length) && decide (a.length ≤ 8) && (outs small a).isEmpty
def isNum (a : List Nat) : Bool := !a.isEmpty && (outs figs a).isEmpty && (decide (a = [48]) || !decide (a.head? = some 48))
section
variable {γ : Type}
theorem outs_ok {a b : List Nat} (h : okT a) : ∀ x ∈ (outs b a).map fun c => [c], PyData.strOk (S x) = true := fun x hx => by
  obtain ⟨c, hc, rfl⟩ := List.mem_map.mp hx
  exact strOk_of fun d hd => by rw [List.mem_singleton.mp hd]; exact h c (List.mem_filter.mp hc).1
theorem outs_len (a b : List Nat) : (((outs b a).map fun c => [c]).map dS).length ≤ a.length := by
  rw [List.length_map, List.length_map]; exact List.length_filter_le _ _
theorem nil_lst : okL [] = some [] := rfl
theorem map_nil' : D.lst [] = D.lst (([] : List (List Nat)).map dS) := rfl
theorem isEmpty_map {α β : Type} (f : α → β) (l : List α) : (l.map f).isEmpty = l.isEmpty := by cases l <;> rfl
theorem is_name_eq {a : List Nat} (h : okT a) (hl : a.length ≤ 1000) : (is_name_m (dS a) : M γ D) = ret (.bl (isNm a)) := by
  have hL : a.length ≤ LIM := lim_of (by omega)
  have e1 : lenD [dS a] = some (.int (a.length : Nat)) := lenD_S hL
  have ef : (lcM (fun v_sign => bnd (bnd (lft (niD v_sign (dS small))) fun a => lft (asB a)) fun b => if b = true then ret (some v_sign) else ret none) (chars (S a)) : M γ (List D)) = ret (((outs small a).map fun c => [c]).map dS) :=
    lcM_outF a small fun c => by
      rw [niD_S1]
      by_cases hc : c ∈ small <;> simp [hc, asB]
  have eo : okL (((outs small a).map fun c => [c]).map dS) = some (((outs small a).map fun c => [c]).map dS) := okL_ok (Nat.le_trans (outs_len a small) hL)
  unfold is_name_m isNm
  simp only [bnd_ret, lft_some, isiB, Option.map_some, asB_bl, chM_eq, e1, leD_int, seqOf_str, s_small, ef, eo, nil_lst, eqD_strs_nil (outs_ok h), isEmpty_map, Bool.not_true]
  by_cases h1 : 1 ≤ a.length
  · have h1' : (1 : Int) ≤ (a.length : Nat) := by omega
    by_cases h2 : a.length ≤ 8
    · have h2' : ((a.length : Nat) : Int) ≤ 8 := by omega
      simp [h1, h2, h1', h2', asB_bl]
    · have h2' : ¬ ((a.length : Nat) : Int) ≤ 8 := by omega
      simp [h1, h2, h1', h2', asB_bl]
  · have h1' : ¬ (1 : Int) ≤ (a.length : Nat) := by omega
    simp [h1, h1', asB_bl]
theorem is_name_non {d : D} (h : isiB .str d = some false) : (is_name_m d : M γ D) = ret (.bl false) := by
  unfold is_name_m
  simp only [bnd_ret, lft_some, h, Option.map_some, asB_bl, Bool.not_false, if_true]
theorem are_figures_eq {a : List Nat} (h : okT a) (hl : a.length ≤ 1000) : (are_figures_m (dS a) : M γ D) = ret (.bl (isNum a)) := by
  have hL : a.length ≤ LIM := lim_of (by omega)
  have e1 : lenD [dS a] = some (.int (a.length : Nat)) := lenD_S hL
  have ef : (lcM (fun v_sign => bnd (bnd (lft (niD v_sign (dS figs))) fun a => lft (asB a)) fun b => if b = true then ret (some v_sign) else ret none) (chars (S a)) : M γ (List D)) = ret (((outs figs a).map fun c => [c]).map dS) :=
    lcM_outF a figs fun c => by
      rw [niD_S1]
      by_cases hc : c ∈ figs <;> simp [hc, asB]
  have eo : okL (((outs figs a).map fun c => [c]).map dS) = some (((outs figs a).map fun c => [c]).map dS) := okL_ok (Nat.le_trans (outs_len a figs) hL)
  have h4 : ¬ (4000 : Int) < (a.length : Nat) := by omega
  unfold are_figures_m isNum
  simp only [bnd_ret, lft_some, asB_bl, e1, gtD_int, seqOf_str, s_figs, s_e, s_0, ef, eo, nil_lst, neD_strs_nil (outs_ok h), isEmpty_map, eqD_S, orM_eq]
  cases a with
  | nil => simp
  | cons c r =>
    have ei : ∀ x : Nat, ixD (dS (x :: r)) (.int 0) = some (dS [x]) := fun x => ixD_S (i := 0) rfl (by simpa using hL)
    cases ho : (outs figs (c :: r)).isEmpty with
    | false => simp [h4, asB_bl]
    | true =>
      have h4' : ¬ (4000 : Int) < (r.length : Int) + 1 := by simp at hl; omega
      simp [h4', asB_bl, ei, neD_S]
      by_cases h1 : c = 48 <;> by_cases h2 : r = [] <;> simp [h1, h2]
theorem law_num_eq {a : List Nat} (h : okT a) (hl : a.length ≤ 1000) : (_law_is_number_text_m (dS a) : M γ D) = ret (.bl (isNum a)) := by
  have hL : a.length ≤ LIM := lim_of (by omega)
  have ef : (lcM (fun v_sign => bnd (bnd (lft (niD v_sign (dS figs))) fun a => lft (asB a)) fun b => if b = true then ret (some v_sign) else ret none) (chars (S a)) : M γ (List D)) = ret (((outs figs a).map fun c => [c]).map dS) :=
    lcM_outF a figs fun c => by
      rw [niD_S1]
      by_cases hc : c ∈ figs <;> simp [hc, asB]
  have eo : okL (((outs figs a).map fun c => [c]).map dS) = some (((outs figs a).map fun c => [c]).map dS) := okL_ok (Nat.le_trans (outs_len a figs) hL)
  unfold _law_is_number_text_m isNum
  simp only [bnd_ret, lft_some, asB_bl, seqOf_str, s_figs, s_e, s_0, ef, eo, andM_eq, orM_eq, neD_S, eqD_S, lenD_lst, List.length_map]
  cases a with
  | nil => simp
  | cons c r =>
    have ei : ∀ x : Nat, ixD (dS (x :: r)) (.int 0) = some (dS [x]) := fun x => ixD_S (i := 0) rfl (by simpa using hL)
    cases ho : outs figs (c :: r) with
    | nil =>
      simp [asB_bl, ei, neD_S, eqD_int]
      by_cases h1 : c = 48 <;> by_cases h2 : r = [] <;> simp [h1, h2]
    | cons x xs => 
      have : ¬ ((xs.length : Int) + 1 = 0) := by omega
      simp [asB_bl, eqD_int, this]
theorem law_nm_eq {a : List Nat} (h : okT a) (hl : a.length ≤ 1000) : (_law_is_name_text_m (dS a) : M γ D) = ret (.bl (isNm a)) := by
  have hL : a.length ≤ LIM := lim_of (by omega)
  have e1 : lenD [dS a] = some (.int (a.length : Nat)) := lenD_S hL
  have ef : (lcM (fun v_sign => bnd (bnd (lft (niD v_sign (dS small))) fun a => lft (asB a)) fun b => if b = true then ret (some v_sign) else ret none) (chars (S a)) : M γ (List D)) = ret (((outs small a).map fun c => [c]).map dS) :=
    lcM_outF a small fun c => by
      rw [niD_S1]
      by_cases hc : c ∈ small <;> simp [hc, asB]
  have eo : okL (((outs small a).map fun c => [c]).map dS) = some (((outs small a).map fun c => [c]).map dS) := okL_ok (Nat.le_trans (outs_len a small) hL)
  unfold _law_is_name_text_m isNm
  simp only [bnd_ret, lft_some, asB_bl, chM_eq, andM_eq, e1, ltD_int, seqOf_str, s_small, ef, eo, lenD_lst, List.length_map]
  by_cases h1 : 1 ≤ a.length
  · have h1' : (0 : Int) < (a.length : Nat) := by omega
    have h1n : 0 < a.length := by omega
    by_cases h2 : a.length ≤ 8
    · have h2' : ((a.length : Nat) : Int) < 9 := by omega
      cases ho : outs small a with
      | nil => simp [h1, h2, h1', h2', h1n, asB_bl, eqD_int]
      | cons x xs =>
        have : ¬ ((xs.length : Int) + 1 = 0) := by omega
        simp [h1, h2, h1', h2', h1n, asB_bl, eqD_int, this]
    · have h2' : ¬ ((a.length : Nat) : Int) < 9 := by omega
      simp [h1, h2, h1', h2', h1n, asB_bl]
  · have h1' : ¬ (0 : Int) < (a.length : Nat) := by omega
    have h1n : a = [] := List.eq_nil_of_length_eq_zero (by omega)
    subst h1n
    simp [asB_bl]
end
end Lk87

set_option Elab.async false
set_option linter.all false
set_option maxRecDepth 100000
set_option maxHeartbeats 4000000
namespace Lk87
open PySem L2 Py
open SX (S)
/-! ### numbers -/
theorem digitsVal_snoc (a : List Nat) (d : Nat) : NumText.digitsVal (a ++ [d]) = NumText.digitsVal a * 10 + (d - 48) := by
  unfold NumText.digitsVal; rw [List.foldl_append]; rfl
theorem digs_mem {a : List Nat} (h : digs a = true) : ∀ c ∈ a, 48 ≤ c ∧ c ≤ 57 := fun c hc => by
  have := List.all_eq_true.mp h c hc
  simpa using this
theorem snoc_ind {P : List Nat → Prop} (h0 : P []) (h1 : ∀ b d, P b → P (b ++ [d])) (a : List Nat) : P a := by
  rw [← List.reverse_reverse a]
  induction a.reverse with
  | nil => exact h0
  | cons d r ih => rw [List.reverse_cons]; exact h1 _ _ ih
theorem digitsVal_pos : ∀ (a : List Nat), digs a = true → a ≠ [] → a.head? ≠ some 48 → 1 ≤ NumText.digitsVal a := by
  refine snoc_ind (fun _ h => absurd rfl h) fun b d ih => ?_
  · intro hd _ h0
    rw [digitsVal_snoc]
    cases b with
    | nil =>
      have := digs_mem hd d (by simp)
      have h0 : (d : Nat) ≠ 48 := fun z => h0 (by rw [z]; rfl)
      simp [NumText.digitsVal]; omega
    | cons x xs =>
      have := ih (by
        refine List.all_eq_true.mpr fun c hc => List.all_eq_true.mp hd c (by simp at hc ⊢; rcases hc with h | h <;> simp [h])) (by simp) (by simpa using h0)
      omega
theorem canon : ∀ (a : List Nat), digs a = true → a ≠ [] → (a = [48] ∨ a.head? ≠ some 48) → TL.numL (NumText.digitsVal a) = a := by
  refine snoc_ind (fun _ h => absurd rfl h) fun b d ih => ?_
  · intro hd _ h0
    have dd := digs_mem hd d (by simp)
    rw [digitsVal_snoc]
    cases b with
    | nil =>
      simp only [NumText.digitsVal, List.foldl_nil, Nat.zero_mul, Nat.zero_add, List.nil_append]
      rw [TL.numL_lt (by omega)]
      congr 1; omega
    | cons x xs =>
      have hb : digs (x :: xs) = true := List.all_eq_true.mpr fun c hc => List.all_eq_true.mp hd c (by simp at hc ⊢; rcases hc with h | h <;> simp [h])
      have hx : (x :: xs).head? ≠ some 48 := by
        rcases h0 with h0 | h0
        · simp at h0
        · simpa using h0
      have hp := digitsVal_pos (x :: xs) hb (by simp) hx
      have e := ih hb (by simp) (.inr hx)
      rw [TL.numL_step (by omega)]
      have e1 : (NumText.digitsVal (x :: xs) * 10 + (d - 48)) / 10 = NumText.digitsVal (x :: xs) := by omega
      have e2 : (NumText.digitsVal (x :: xs) * 10 + (d - 48)) % 10 = d - 48 := by omega
      rw [e1, e2, e]
      congr 2; omega
theorem figs_mem {c : Nat} (h : c ∈ figs) : 48 ≤ c ∧ c ≤ 57 := by
  simp [figs] at h; omega
theorem mem_figs {c : Nat} (h : 48 ≤ c ∧ c ≤ 57) : c ∈ figs := by
  simp [figs]; omega
theorem isNum_iff {a : List Nat} : isNum a = true ↔ a ≠ [] ∧ digs a = true ∧ (a = [48] ∨ a.head? ≠ some 48) := by
  unfold isNum
  have e : (outs figs a).isEmpty = true ↔ digs a = true := by
    unfold outs digs
    rw [List.isEmpty_iff, List.filter_eq_nil_iff, List.all_eq_true]
    constructor
    · intro h c hc
      have := h c hc
      have := figs_mem (c := c) (by simpa using this)
      simpa using this
    · intro h c hc
      have := h c hc
      have : 48 ≤ c ∧ c ≤ 57 := by simpa using this
      simpa using mem_figs this
  simp only [Bool.and_eq_true, Bool.or_eq_true, Bool.not_eq_true', decide_eq_true_eq, decide_eq_false_iff_not, e]
  constructor
  · rintro ⟨⟨h1, h2⟩, h3⟩
    exact ⟨fun z => by rw [z] at h1; simp at h1, h2, h3⟩
  · rintro ⟨h1, h2, h3⟩
    exact ⟨⟨by cases a <;> simp_all, h2⟩, h3⟩
theorem isNum_numL (n : Nat) : isNum (TL.numL n) = true := by
  rw [isNum_iff]
  refine ⟨TL.numL_ne n, ?_, ?_⟩
  · exact List.all_eq_true.mpr fun c hc => by have := TL.numL_digits n c hc; simpa using this
  · by_cases h : n = 0
    · left; subst h; rw [TL.numL_lt (by decide)]
    · right
      induction n using Nat.strongRecOn with
      | _ n ih =>
        by_cases h10 : n < 10
        · rw [TL.numL_lt h10]; simp; omega
        · rw [TL.numL_step (by omega), List.head?_append]
          have := ih (n / 10) (by omega) (by omega)
          cases e : (TL.numL (n / 10)).head? with
          | none => exact absurd (List.head?_eq_none_iff.mp e) (TL.numL_ne _)
          | some x => rw [e] at this; simpa using this
theorem numL_len4 {n : Nat} (h : n < 9973) : (TL.numL n).length ≤ 4 := TL.numL_len (k := 4) (by decide) (by omega)
section
variable {γ : Type}
def numOf (a : List Nat) : Int := if isNum a = true then ((NumText.digitsVal a : Nat) : Int) else -1
theorem number_of_eq {a : List Nat} (h : okT a) (hl : a.length ≤ 640) : (number_of_m (dS a) : M γ D) = ret (.int (numOf a)) := by
  unfold number_of_m numOf
  simp only [bnd_ret, are_figures_eq h (by omega), lft_some, asB_bl]
  cases e : isNum a with
  | false => simp [negD_int]
  | true =>
    have := isNum_iff.mp e
    simp [intD_S this.2.1 this.1 hl]
/-! ### sums -/
def sumN (a : List Nat) : Nat := a.foldl (fun f c => (f * 31 + c) % 9973) 7
theorem sumN_lt (a : List Nat) : sumN a < 9973 := by
  unfold sumN
  rcases List.eq_nil_or_concat a with rfl | ⟨b, c, rfl⟩
  · decide
  · rw [List.concat_eq_append, List.foldl_append]; exact Nat.mod_lt _ (by decide)
theorem forL_sum {k : D → D → M γ D} (hk : ∀ c n : Nat, n < 9973 → c < 1114112 → k (dS [c]) (.int (n : Nat)) = ret (.int (((n * 31 + c) % 9973 : Nat) : Int))) : ∀ (a : List Nat) (n : Nat), okT a → n < 9973 →
    forL k (a.map fun c => dS [c]) (.int (n : Nat)) = ret (.int ((a.foldl (fun f c => (f * 31 + c) % 9973) n : Nat) : Int))
  | [], n, _, _ => rfl
  | c :: a, n, h, hn => by
    show bnd (k (dS [c]) (.int (n : Nat))) _ = _
    rw [hk c n hn (h c List.mem_cons_self), bnd_ret, forL_sum hk a _ (fun x hx => h x (List.mem_cons_of_mem _ hx)) (Nat.mod_lt _ (by decide))]; rfl
theorem sum_of_eq {a : List Nat} (h : okT a) : (sum_of_m (dS a) : M γ D) = ret (.int (sumN a : Nat)) := by
  unfold sum_of_m
  simp only [bnd_ret, lft_some, seqOf_str, chars_S]
  have e := forL_sum (γ := γ) (k := fun d s => sum_of_l1 (dS a) d s) (fun c n hn hc => ?_) a 7 h (by decide)
  · rw [show D.int ((7 : Nat) : Int) = D.int 7 from rfl] at e
    rw [e]; rfl
  · unfold sum_of_l1
    have e : mulA (.int (n : Nat)) (.int 31) = some (.int ((n : Nat) * 31)) := mulA_small (small_nat (by omega)) (small_nat (by decide))
    simp only [bnd_ret, lft_some, e, ordC_S, addD_int, modD_int (show (0 : Int) < 9973 by decide)]
    congr 2
theorem law_sum_eq {a : List Nat} (h : okT a) : (_law_sum_m (dS a) : M γ D) = ret (.int (sumN a : Nat)) := by
  unfold _law_sum_m
  simp only [bnd_ret, lft_some, seqOf_str, chars_S]
  have e := forL_sum (γ := γ) (k := fun d s => _law_sum_l1 (dS a) d s) (fun c n hn hc => ?_) a 7 h (by decide)
  · rw [show D.int ((7 : Nat) : Int) = D.int 7 from rfl] at e
    rw [e]; rfl
  · unfold _law_sum_l1
    have e : mulA (.int 31) (.int (n : Nat)) = some (.int (31 * (n : Nat))) := mulA_small (small_nat (by decide)) (small_nat (by omega))
    simp only [bnd_ret, lft_some, e, ordC_S, addD_int, intD, modD_int (show (0 : Int) < 9973 by decide)]
    congr 2
    rw [Int.mul_comm]; rfl
/-! ### rows with their sums -/
def rowS (a : List Nat) : List Nat := a ++ ([32, 115, 117, 109, 32] ++ TL.numL (sumN a))
theorem okT_app {a b : List Nat} (h : okT a) (h' : okT b) : okT (a ++ b) := fun c hc => (List.mem_append.mp hc).elim (h c) (h' c)
theorem okT_num (n : Nat) : okT (TL.numL n) := fun c hc => by have := TL.numL_digits n c hc; omega
theorem summed_eq {a : List Nat} (h : okT a) (hl : a.length ≤ 1000) : (summed_m (dS a) : M γ D) = ret (dS (rowS a)) := by
  unfold summed_m rowS
  have hs := sumN_lt a
  have e1 : addD (dS a) (dS [32, 115, 117, 109]) = some (dS (a ++ [32, 115, 117, 109])) := addD_S (lim_of (by simp; omega))
  have e2 : addD (dS (a ++ [32, 115, 117, 109])) (dS [32]) = some (dS (a ++ [32, 115, 117, 109] ++ [32])) := addD_S (lim_of (by simp; omega))
  have e3 : strD [.int (sumN a : Nat)] = some (dS (TL.numL (sumN a))) := strD_nat (by omega)
  have h4 := numL_len4 hs
  have e4 : addD (dS (a ++ [32, 115, 117, 109] ++ [32])) (dS (TL.numL (sumN a))) = some (dS (a ++ [32, 115, 117, 109] ++ [32] ++ TL.numL (sumN a))) := addD_S (lim_of (by simp; omega))
  simp only [bnd_ret, lft_some, s_sum, s_b, e1, e2, sum_of_eq h, e3, e4]
  simp
theorem law_summed_eq {a : List Nat} (h : okT a) (hl : a.length ≤ 1000) : (_law_summed_m (dS a) : M γ D) = ret (dS (rowS a)) := by
  unfold _law_summed_m rowS
  have hs := sumN_lt a
  have e1 : addD (dS a) (dS [32, 115, 117, 109, 32]) = some (dS (a ++ [32, 115, 117, 109, 32])) := addD_S (lim_of (by simp; omega))
  have e3 : strD [.int (sumN a : Nat)] = some (dS (TL.numL (sumN a))) := strD_nat (by omega)
  have h4 := numL_len4 hs
  have e4 : addD (dS (a ++ [32, 115, 117, 109, 32])) (dS (TL.numL (sumN a))) = some (dS (a ++ [32, 115, 117, 109, 32] ++ TL.numL (sumN a))) := addD_S (lim_of (by simp; omega))
  simp only [bnd_ret, lft_some, s_sumb, e1, law_sum_eq h, e3, e4]
  simp
end
end Lk87

set_option Elab.async false
set_option linter.all false
set_option maxRecDepth 100000
set_option maxHeartbeats 4000000
namespace Lk87
open PySem L2 Py
open SX (S)
def MK : List Nat := [32, 115, 117, 109]
def WT (line : List Nat) : Option (List Nat) := if rf line MK < 0 then none else
  if (line.drop ((rf line MK).toNat + 4)).take 1 = [32] ∧ isNum (line.drop ((rf line MK).toNat + 5)) = true ∧ line.drop ((rf line MK).toNat + 5) = TL.numL (sumN (line.take (rf line MK).toNat)) then some (line.take (rf line MK).toNat) else none
theorem okT_take {a : List Nat} (n : Nat) (h : okT a) : okT (a.take n) := fun c hc => h c (List.mem_of_mem_take hc)
theorem okT_drop {a : List Nat} (n : Nat) (h : okT a) : okT (a.drop n) := fun c hc => h c (List.mem_of_mem_drop hc)
def strO : Option (List Nat) → D
  | some a => dS a
  | none => .non
theorem wt_pos {a : List Nat} {k : Nat} (h : (a.drop (k + 4)).take 1 = [32] ∧ isNum (a.drop (k + 5)) = true ∧ a.drop (k + 5) = TL.numL (sumN (a.take k))) :
    (if (a.drop (k + 4)).take 1 = [32] ∧ isNum (a.drop (k + 5)) = true ∧ a.drop (k + 5) = TL.numL (sumN (a.take k)) then some (a.take k) else none) = some (a.take k) := if_pos h
theorem wt_neg {a : List Nat} {k : Nat} (h : ¬ ((a.drop (k + 4)).take 1 = [32] ∧ isNum (a.drop (k + 5)) = true ∧ a.drop (k + 5) = TL.numL (sumN (a.take k)))) :
    (if (a.drop (k + 4)).take 1 = [32] ∧ isNum (a.drop (k + 5)) = true ∧ a.drop (k + 5) = TL.numL (sumN (a.take k)) then some (a.take k) else none) = none := if_neg h
section
variable {γ : Type}
theorem ite_b {α : Type} {b : Bool} {x y : α} : (if b = true then x else y) = cond b x y := by cases b <;> rfl
theorem whole_text_eq {a : List Nat} (h : okT a) (hl : a.length ≤ 640) : (whole_text_m (dS a) : M γ D) = ret (strO (WT a)) := by
  have hL : a.length ≤ LIM := lim_of (by omega)
  unfold whole_text_m WT
  by_cases hr : rf a MK < 0
  · simp only [bnd_ret, lft_some, asS_str, s_sum, rfindD_S, ltD_int, asB_bl]
    rw [show rf a [32, 115, 117, 109] = rf a MK from rfl]
    simp [hr, strO]
  · obtain ⟨k, hk⟩ : ∃ k : Nat, rf a MK = (k : Int) := ⟨(rf a MK).toNat, by omega⟩
    have e0 : ∀ lo hi, slD (dS a) lo hi = some (dS (cutG a lo hi)) := fun lo hi => slD_S hL
    have hb : (a.drop (k + 4)).length ≤ LIM := by rw [List.length_drop]; exact Nat.le_trans (Nat.sub_le _ _) hL
    have e1 : ∀ lo hi, slD (dS (a.drop (k + 4))) lo hi = some (dS (cutG (a.drop (k + 4)) lo hi)) := fun lo hi => slD_S hb
    have e2 : lenD [dS [32, 115, 117, 109]] = some (.int 4) := rfl
    have e3 : lenD [dS (a.drop (k + 4))] = some (.int ((a.drop (k + 4)).length : Nat)) := lenD_S hb
    have c1 : cutG a none (some ((k : Nat) : Int)) = a.take k := cutG_to a k
    have c2 : cutG a (some ((k : Int) + 4)) none = a.drop (k + 4) := cutG_from a (k + 4)
    have c3 : cutG (a.drop (k + 4)) none (some 1) = (a.drop (k + 4)).take 1 := cutG_to _ 1
    have c4 : cutG (a.drop (k + 4)) (some 1) none = a.drop (k + 5) := (cutG_from _ 1).trans (by rw [List.drop_drop])
    have o1 : okT (a.take k) := okT_take k h
    have o2 : okT (a.drop (k + 5)) := okT_drop _ h
    have l2 : (a.drop (k + 5)).length ≤ 640 := by rw [List.length_drop]; omega
    simp only [bnd_ret, lft_some, asS_str, s_sum, rfindD_S, ltD_int, asB_bl]
    rw [show rf a [32, 115, 117, 109] = rf a MK from rfl, hk]
    have hneg : ¬ ((k : Int) < 0) := by omega
    simp only [decide_eq_false hneg, Bool.false_eq_true, if_false, asI_int, e0, c1, e2, addD_int, c2, e1, c3, s_b, neD_S, e3, gtD_int, c4, are_figures_eq o2 (by omega), number_of_eq o2 l2, sum_of_eq o1, eqD_int, bnd_ret, lft_some, asB_bl, Int.toNat_natCast]
    rw [if_neg hneg]
    by_cases h1 : (a.drop (k + 4)).take 1 = [32]
    · have hd : a.drop (k + 4) = 32 :: a.drop (k + 5) := by
        have : a.drop (k + 5) = (a.drop (k + 4)).drop 1 := by rw [List.drop_drop]
        rw [this, ← List.take_append_drop 1 (a.drop (k + 4)), h1]; simp
      have hlen : (a.drop (k + 4)).length = (a.drop (k + 5)).length + 1 := by rw [hd]; simp
      by_cases h2 : isNum (a.drop (k + 5)) = true
      · have hn := isNum_iff.mp h2
        by_cases h3 : a.drop (k + 5) = TL.numL (sumN (a.take k))
        · have l4 : (a.drop (k + 5)).length ≤ 4 := by rw [h3]; exact numL_len4 (sumN_lt _)
          have hv : numOf (a.drop (k + 5)) = (sumN (a.take k) : Nat) := by unfold numOf; rw [if_pos h2, h3, TL.numL_val]
          have hg : ¬ ((4 : Int) + 1 < ((a.drop (k + 4)).length : Nat)) := by omega
          rw [wt_pos ⟨h1, h2, h3⟩]
          simp only [h1, decide_true, Bool.not_true, Bool.false_eq_true, if_false, decide_eq_false hg, h2, hv, if_true, bnd_ret]
          rfl
        · rw [wt_neg (fun z => h3 z.2.2)]
          by_cases hg : (4 : Int) + 1 < ((a.drop (k + 4)).length : Nat)
          · simp only [h1, decide_true, Bool.not_true, Bool.false_eq_true, if_false, decide_eq_true hg, if_true, bnd_ret]; rfl
          · have hv : numOf (a.drop (k + 5)) ≠ (sumN (a.take k) : Nat) := fun z => h3 (by
              unfold numOf at z
              rw [if_pos h2] at z
              rw [← canon _ hn.2.1 hn.1 hn.2.2]
              congr 1; omega)
            simp only [h1, decide_true, Bool.not_true, Bool.false_eq_true, if_false, decide_eq_false hg, h2, decide_eq_false hv, bnd_ret]; rfl
      · have h2' : isNum (a.drop (k + 5)) = false := by simpa using h2
        rw [wt_neg (fun z => h2 z.2.1)]
        by_cases hg : (4 : Int) + 1 < ((a.drop (k + 4)).length : Nat)
        · simp only [h1, decide_true, Bool.not_true, Bool.false_eq_true, if_false, decide_eq_true hg, if_true, bnd_ret]; rfl
        · simp only [h1, decide_true, Bool.not_true, Bool.false_eq_true, if_false, decide_eq_false hg, h2', Bool.not_false, if_true, bnd_ret]; rfl
    · rw [wt_neg (fun z => h1 z.1)]
      simp only [decide_eq_false h1, Bool.not_false, if_true, bnd_ret]; rfl
def wordsO : Option (List Nat) → List (List Nat)
  | some a => TL.spl [32] 0 [] a
  | none => []
theorem law_words_eq {a : List Nat} (h : okT a) (hl : a.length ≤ 640) : (_law_words_m (dS a) : M γ D) = ret (.tup ((wordsO (WT a)).map dS)) := by
  have hL : a.length ≤ LIM := lim_of (by omega)
  unfold _law_words_m WT
  by_cases hr : rf a MK < 0
  · simp only [bnd_ret, lft_some, asS_str, s_sum, rfindD_S, ltD_int, asB_bl]
    rw [show rf a [32, 115, 117, 109] = rf a MK from rfl]
    simp [hr, mkT, wordsO]
  · obtain ⟨k, hk⟩ : ∃ k : Nat, rf a MK = (k : Int) := ⟨(rf a MK).toNat, by omega⟩
    have e0 : ∀ lo hi, slD (dS a) lo hi = some (dS (cutG a lo hi)) := fun lo hi => slD_S hL
    have c1 : cutG a none (some ((k : Nat) : Int)) = a.take k := cutG_to a k
    have c2 : cutG a (some ((k : Int) + 4)) (some ((k : Int) + 5)) = (a.drop (k + 4)).take 1 := (cutG_mid a (k + 4) (k + 5)).trans (by congr 1; omega)
    have c3 : cutG a (some ((k : Int) + 5)) none = a.drop (k + 5) := cutG_from a (k + 5)
    have o1 : okT (a.take k) := okT_take k h
    have o2 : okT (a.drop (k + 5)) := okT_drop _ h
    have l2 : (a.drop (k + 5)).length ≤ 640 := by rw [List.length_drop]; omega
    have e3 : strD [.int (sumN (a.take k) : Nat)] = some (dS (TL.numL (sumN (a.take k)))) := strD_nat (by have := sumN_lt (a.take k); omega)
    have e4 : splitD (S (a.take k)) (dS [32]) = some (.lst ((TL.spl [32] 0 [] (a.take k)).map dS)) := splitD_S (by decide) (by decide) (by rw [List.length_take]; exact lim_of (by omega))
    simp only [bnd_ret, lft_some, asS_str, s_sum, rfindD_S, ltD_int, asB_bl]
    rw [show rf a [32, 115, 117, 109] = rf a MK from rfl, hk]
    have hneg : ¬ ((k : Int) < 0) := by omega
    simp only [decide_eq_false hneg, Bool.false_eq_true, if_false, asI_int, e0, c1, addD_int, c2, c3, s_b, neD_S, law_num_eq o2 (by omega), law_sum_eq o1, e3, bnd_ret, lft_some, asB_bl, asS_str, Int.toNat_natCast]
    rw [if_neg hneg]
    by_cases h1 : (a.drop (k + 4)).take 1 = [32]
    · by_cases h2 : isNum (a.drop (k + 5)) = true
      · by_cases h3 : a.drop (k + 5) = TL.numL (sumN (a.take k))
        · rw [wt_pos ⟨h1, h2, h3⟩]
          simp only [h1, decide_true, Bool.not_true, Bool.false_eq_true, if_false, h2, decide_eq_true h3, bnd_ret, e4, lft_some, tupD, wordsO]
        · rw [wt_neg (fun z => h3 z.2.2)]
          simp only [h1, decide_true, Bool.not_true, Bool.false_eq_true, if_false, h2, decide_eq_false h3, Bool.not_false, if_true, bnd_ret, wordsO]; rfl
      · have h2' : isNum (a.drop (k + 5)) = false := by simpa using h2
        rw [wt_neg (fun z => h2 z.2.1)]
        simp only [h1, decide_true, Bool.not_true, Bool.false_eq_true, if_false, h2', Bool.not_false, if_true, bnd_ret, wordsO]; rfl
    · rw [wt_neg (fun z => h1 z.1)]
      simp only [decide_eq_false h1, Bool.not_false, if_true, bnd_ret, wordsO]; rfl
end
end Lk87

set_option Elab.async false
set_option linter.all false
set_option maxRecDepth 100000
set_option maxHeartbeats 4000000
namespace Lk87
open PySem L2 Py
open SX (S)
theorem spl_mem {b : List Nat} : ∀ (l : List Nat) (k : Nat) (acc w : List Nat), w ∈ TL.spl b k acc l → (∀ c ∈ w, c ∈ acc ∨ c ∈ l) ∧ w.length ≤ acc.length + l.length
  | [], k, acc, w, h => by
    have h : w ∈ [acc] := by cases k <;> exact h
    rw [List.mem_singleton.mp h]
    exact ⟨fun c hc => .inl hc, by simp⟩
  | x :: l, k + 1, acc, w, h => by
    have h : w ∈ TL.spl b k acc l := h
    obtain ⟨h1, h2⟩ := spl_mem l k acc w h
    exact ⟨fun c hc => (h1 c hc).imp id (List.mem_cons_of_mem _), by simp; omega⟩
  | x :: l, 0, acc, w, h => by
    unfold TL.spl at h
    split at h
    · rcases List.mem_cons.mp h with h | h
      · rw [h]; exact ⟨fun c hc => .inl hc, by simp⟩
      · obtain ⟨h1, h2⟩ := spl_mem l _ _ w h
        exact ⟨fun c hc => .inr ((h1 c hc).elim (fun z => nomatch z) (List.mem_cons_of_mem _)), by simp at h2 ⊢; omega⟩
    · obtain ⟨h1, h2⟩ := spl_mem l _ _ w h
      refine ⟨fun c hc => ?_, by simp at h2 ⊢; omega⟩
      rcases h1 c hc with z | z
      · rcases List.mem_append.mp z with z | z
        · exact .inl z
        · rw [List.mem_singleton.mp z]; exact .inr List.mem_cons_self
      · exact .inr (List.mem_cons_of_mem _ z)
theorem spl_ok {b a w : List Nat} (h : okT a) (hw : w ∈ TL.spl b 0 [] a) : okT w ∧ w.length ≤ a.length := by
  obtain ⟨h1, h2⟩ := spl_mem a 0 [] w hw
  exact ⟨fun c hc => (h1 c hc).elim (fun z => nomatch z) (h c), by simpa using h2⟩
theorem spl_count {b : List Nat} : ∀ (l : List Nat) (k : Nat) (acc : List Nat), (TL.spl b k acc l).length ≤ l.length + 1 ∧ 1 ≤ (TL.spl b k acc l).length
  | [], k, acc => by cases k <;> exact ⟨Nat.le_refl _, Nat.le_refl _⟩
  | x :: l, k + 1, acc => by
    have := spl_count (b := b) l k acc
    show (TL.spl b k acc l).length ≤ _ ∧ 1 ≤ (TL.spl b k acc l).length
    simp; omega
  | x :: l, 0, acc => by
    unfold TL.spl
    split
    · have := spl_count (b := b) l (b.length - 1) []
      simp; omega
    · have := spl_count (b := b) l 0 (acc ++ [x])
      simp; omega
theorem words_ok {a w : List Nat} (h : okT a) (hw : w ∈ wordsO (WT a)) : okT w ∧ w.length ≤ a.length := by
  unfold WT at hw
  split at hw
  · exact nomatch hw
  · split at hw
    · obtain ⟨h1, h2⟩ := spl_ok (okT_take _ h) hw
      refine ⟨h1, Nat.le_trans h2 ?_⟩
      rw [List.length_take]; exact Nat.min_le_right _ _
    · exact nomatch hw
def LEAF : List Nat := [108, 101, 97, 102]
def TIME : List Nat := [116, 105, 109, 101]
def ATT : List Nat := [97, 116]
def headO : List (List Nat) → Option (List Nat × Nat)
  | [w0, w1, w2] => if w0 = LEAF ∧ isNm w1 = true ∧ isNum w2 = true then some (w1, NumText.digitsVal w2) else none
  | _ => none
def placeO (t : Nat) : List (List Nat) → Option Nat
  | [w0, w1, w2, w3] => if w0 = TIME ∧ w2 = ATT ∧ w1 = TL.numL t ∧ isNum w3 = true then some (NumText.digitsVal w3) else none
  | _ => none
theorem numOf_eq {w : List Nat} {t : Nat} : numOf w = (t : Int) ↔ w = TL.numL t := by
  unfold numOf
  constructor
  · intro h
    split at h
    · rename_i hn
      have := isNum_iff.mp hn
      rw [← canon w this.2.1 this.1 this.2.2]
      congr 1; omega
    · omega
  · intro h
    rw [h, if_pos (isNum_numL t), TL.numL_val]
theorem numOf_neg {w : List Nat} : numOf w < 0 ↔ isNum w = false := by
  unfold numOf
  split
  · rename_i h; rw [h]; constructor
    · intro z; omega
    · intro z; cases z
  · rename_i h; simp at h; simp [h]
def headD : Option (List Nat × Nat) → D
  | none => .non
  | some (n, p) => .tup [dS n, .int (p : Nat)]
section
variable {γ : Type}
theorem isnD_S {a : List Nat} : isnD (dS a) .non = some (.bl true) := rfl
theorem isnD_non : isnD .non .non = some (.bl false) := rfl
theorem three {l : List (List Nat)} (h : l.length = 3) : ∃ a b c, l = [a, b, c] := by
  match l, h with
  | [a, b, c], _ => exact ⟨a, b, c, rfl⟩
theorem four {l : List (List Nat)} (h : l.length = 4) : ∃ a b c d, l = [a, b, c, d] := by
  match l, h with
  | [a, b, c, d], _ => exact ⟨a, b, c, d, rfl⟩
theorem headO_ne {l : List (List Nat)} (h : l.length ≠ 3) : headO l = none := by
  match l, h with
  | [], _ => rfl
  | [_], _ => rfl
  | [_, _], _ => rfl
  | [_, _, _], h => exact absurd rfl h
  | _ :: _ :: _ :: _ :: _, _ => rfl
theorem placeO_ne {t : Nat} {l : List (List Nat)} (h : l.length ≠ 4) : placeO t l = none := by
  match l, h with
  | [], _ => rfl
  | [_], _ => rfl
  | [_, _], _ => rfl
  | [_, _, _], _ => rfl
  | [_, _, _, _], h => exact absurd rfl h
  | _ :: _ :: _ :: _ :: _ :: _, _ => rfl
theorem words_prog {a : List Nat} (h : okT a) (hl : a.length ≤ 640) {β : Type} (k : D → M γ β) : (bnd (bnd (bnd (lft (isnD (strO (WT a)) .non)) fun a5 => lft (asB a5)) fun b10 => if b10 = true then bnd (lft (asS (strO (WT a)))) fun a7 => lft (splitD a7 (.str (Str.ofString " "))) else bnd (lft (okL [])) fun ds => ret (.lst ds)) k) = k (.lst ((wordsO (WT a)).map dS)) := by
  cases e : WT a with
  | none => simp only [strO, bnd_ret, isnD_non, lft_some, asB_bl, Bool.false_eq_true, if_false, nil_lst, wordsO, List.map_nil]
  | some w =>
    have hw : w.length ≤ 640 := by
      unfold WT at e
      split at e
      · cases e
      · split at e
        · cases e; rw [List.length_take]; omega
        · cases e
    have e4 : splitD (S w) (dS [32]) = some (.lst ((TL.spl [32] 0 [] w).map dS)) := splitD_S (by decide) (by decide) (lim_of (by omega))
    simp only [strO, bnd_ret, isnD_S, lft_some, asB_bl, if_true, asS_str, s_b, e4, wordsO]
theorem head_of_eq {a : List Nat} (h : okT a) (hl : a.length ≤ 640) : (head_of_m (dS a) : M γ D) = ret (headD (headO (wordsO (WT a)))) := by
  unfold head_of_m
  simp only [whole_text_eq h hl, bnd_ret]
  rw [words_prog h hl]
  have hm := fun w => words_ok (w := w) h
  generalize wordsO (WT a) = ws at hm ⊢
  simp only [bnd_ret, lenD_lst, lft_some, List.length_map, neD_int, asB_bl]
  by_cases h3 : ws.length = 3
  · obtain ⟨w0, w1, w2, rfl⟩ := three h3
    obtain ⟨o1, l1⟩ := hm w1 (by simp)
    obtain ⟨o2, l2⟩ := hm w2 (by simp)
    have i0 : ixD (.lst ([w0, w1, w2].map dS)) (.int 0) = some (dS w0) := ixD_lst (i := 0) rfl
    have i1 : ixD (.lst ([w0, w1, w2].map dS)) (.int 1) = some (dS w1) := ixD_lst (i := 1) rfl
    have i2 : ixD (.lst ([w0, w1, w2].map dS)) (.int 2) = some (dS w2) := ixD_lst (i := 2) rfl
    simp only [i0, i1, i2, bnd_ret, lft_some, s_leaf, neD_S, asB_bl, is_name_eq o1 (by omega), number_of_eq o2 (by omega), ltD_int, headO]
    rw [show ([108, 101, 97, 102] : List Nat) = LEAF from rfl]
    by_cases c0 : w0 = LEAF
    · cases c1 : isNm w1 with
      | false => simp [c0, c1, headD]
      | true =>
        cases c2 : isNum w2 with
        | false =>
          have := numOf_neg.mpr c2
          simp [c0, c1, c2, headD, this]
        | true =>
          have hn : ¬ numOf w2 < 0 := fun z => by rw [numOf_neg.mp z] at c2; cases c2
          have hv : numOf w2 = ((NumText.digitsVal w2 : Nat) : Int) := by unfold numOf; rw [if_pos c2]
          have e2 : mkT [dS w1, .int ((NumText.digitsVal w2 : Nat) : Int)] = some (.tup [dS w1, .int ((NumText.digitsVal w2 : Nat) : Int)]) := mkT_ok (lim_of (by simp))
          rw [hv] at hn
          simp [c0, c1, c2, headD, hv, e2]
          intro hz; omega
    · simp [c0, headD]
  · have : ¬ ((ws.length : Int) = 3) := by omega
    rw [headO_ne h3]
    simp [this, headD]
def placeI : Option Nat → Int
  | none => -1
  | some p => (p : Nat)
theorem place_in_eq {a : List Nat} (h : okT a) (hl : a.length ≤ 640) (t : Nat) : (place_in_m (dS a) (.int (t : Nat)) : M γ D) = ret (.int (placeI (placeO t (wordsO (WT a))))) := by
  unfold place_in_m
  simp only [whole_text_eq h hl, bnd_ret]
  rw [words_prog h hl]
  have hm := fun w => words_ok (w := w) h
  generalize wordsO (WT a) = ws at hm ⊢
  simp only [bnd_ret, lenD_lst, lft_some, List.length_map, neD_int, asB_bl]
  by_cases h3 : ws.length = 4
  · obtain ⟨w0, w1, w2, w3, rfl⟩ := four h3
    obtain ⟨o1, l1⟩ := hm w1 (by simp)
    obtain ⟨o3, l3⟩ := hm w3 (by simp)
    have i0 : ixD (.lst ([w0, w1, w2, w3].map dS)) (.int 0) = some (dS w0) := ixD_lst (i := 0) rfl
    have i1 : ixD (.lst ([w0, w1, w2, w3].map dS)) (.int 1) = some (dS w1) := ixD_lst (i := 1) rfl
    have i2 : ixD (.lst ([w0, w1, w2, w3].map dS)) (.int 2) = some (dS w2) := ixD_lst (i := 2) rfl
    have i3 : ixD (.lst ([w0, w1, w2, w3].map dS)) (.int 3) = some (dS w3) := ixD_lst (i := 3) rfl
    simp only [i0, i1, i2, i3, bnd_ret, lft_some, s_time, s_at, neD_S, asB_bl, number_of_eq o1 (by omega), number_of_eq o3 (by omega), neD_int, placeO, negD_int]
    rw [show ([116, 105, 109, 101] : List Nat) = TIME from rfl, show ([97, 116] : List Nat) = ATT from rfl]
    by_cases c0 : w0 = TIME
    · by_cases c1 : w2 = ATT
      · by_cases c2 : numOf w1 = (t : Int)
        · have c2' := numOf_eq.mp c2
          cases c3 : isNum w3 with
          | false =>
            have : numOf w3 = -1 := by unfold numOf; rw [c3]; rfl
            simp [c0, c1, c2, c2', c3, placeI, this]
          | true =>
            have : numOf w3 = ((NumText.digitsVal w3 : Nat) : Int) := by unfold numOf; rw [if_pos c3]
            simp [c0, c1, c2, c2', c3, placeI, this, TL.numL_val, numOf_eq.mpr rfl]
        · have c2' : w1 ≠ TL.numL t := fun z => c2 (numOf_eq.mpr z)
          simp [c0, c1, c2, c2', placeI]
      · simp [c0, c1, placeI]
    · simp [c0, placeI]
  · have : ¬ ((ws.length : Int) = 4) := by omega
    rw [placeO_ne h3]
    simp [this, placeI, negD_int]
end
end Lk87

set_option Elab.async false
set_option linter.all false
set_option maxRecDepth 100000
set_option maxHeartbeats 4000000
namespace Lk87
open PySem L2 Py
open SX (S)
def plc : Nat → List (List Nat) → List Nat
  | _, [] => []
  | t, l :: ls => match placeO t (wordsO (WT l)) with
    | none => []
    | some p => p :: plc (t + 1) ls
def dN (n : Nat) : D := .int (n : Nat)
def leafD (n : List Nat) (p : Nat) (ps : List Nat) : D := .tup [dS n, .int (p : Nat), .tup (ps.map dN)]
def RL : List (List Nat) → D
  | [] => .non
  | l :: ls => match headO (wordsO (WT l)) with
    | none => .non
    | some (n, p) => leafD n p (plc 0 ls)
def R (x : List Nat) : D := RL (TL.spl [10] 0 [] x)
theorem plc_len : ∀ (ls : List (List Nat)) (t : Nat), (plc t ls).length ≤ ls.length
  | [], t => Nat.le_refl _
  | l :: ls, t => by
    unfold plc
    split
    · simp
    · have := plc_len ls (t + 1)
      simp; omega
section
variable {γ : Type}
theorem places_loop {v : D} {k : D → List D → M γ (Lp (List D))} (hk : ∀ (l : List Nat) (t : Nat) (f : List D), okT l → l.length ≤ 640 → f.length < LIM → k (.tup [.int (t : Nat), dS l]) f =
      ret (match placeO t (wordsO (WT l)) with | none => .rt (.tup f) | some p => .go (f ++ [.int (p : Nat)]))) :
    ∀ (ls : List (List Nat)) (t : Nat) (f : List D), (∀ l ∈ ls, okT l ∧ l.length ≤ 640) → f.length + ls.length ≤ LIM →
      bnd (forM k (enumD t (ls.map dS)) f) (lpC (fun s => (ret (.tup s) : M γ D)) (fun d => ret d)) = ret (.tup (f ++ (plc t ls).map dN))
  | [], t, f, _, _ => by simp [enumD, Py.forM, plc, lpC]
  | l :: ls, t, f, hl, hf => by
    have hf : f.length + (ls.length + 1) ≤ LIM := hf
    show bnd (bnd (k (.tup [.int (t : Nat), dS l]) f) _) _ = _
    rw [hk l t f (hl l List.mem_cons_self).1 (hl l List.mem_cons_self).2 (by omega), bnd_ret]
    unfold plc
    cases e : placeO t (wordsO (WT l)) with
    | none => simp [lpC]
    | some p =>
      have := places_loop (v := v) hk ls (t + 1) (f ++ [.int (p : Nat)]) (fun x hx => hl x (List.mem_cons_of_mem _ hx)) (by simp; omega)
      show bnd (forM k _ _) _ = _
      rw [this]
      simp [dN]
theorem places_in_eq {ls : List (List Nat)} (h : ∀ l ∈ ls, okT l ∧ l.length ≤ 640) (hl : ls.length ≤ 1000) : (places_in_m (.lst (ls.map dS)) : M γ D) = ret (.tup ((plc 0 ls).map dN)) := by
  unfold places_in_m
  simp only [bnd_ret, lft_some, nil_lst, seqOf_lst]
  have := places_loop (γ := γ) (v := .non) (k := fun d s => bnd (lft (un2 d)) fun p => places_in_l1 (.lst (ls.map dS)) p s) (fun l t f o hl hf => ?_) ls 0 [] h (lim_of (by simp; omega))
  · rw [this]; rfl
  · unfold places_in_l1
    simp only [un2, bnd_ret, lft_some, place_in_eq o hl, ltD_int, asB_bl]
    cases placeO t (wordsO (WT l)) with
    | none => simp [placeI]
    | some p =>
      have : ¬ ((p : Int) < 0) := by omega
      simp [placeI, this, hf, chk]
theorem read_leaf_eq {x : List Nat} (h : okT x) (hl : x.length ≤ 640) : (read_leaf_m (dS x) : M γ D) = ret (R x) := by
  have e0 : splitD (S x) (dS [10]) = some (.lst ((TL.spl [10] 0 [] x).map dS)) := splitD_S (by decide) (by decide) (lim_of (by omega))
  have hc := spl_count (b := [10]) x 0 []
  have hm : ∀ w ∈ TL.spl [10] 0 [] x, okT w ∧ w.length ≤ 640 := fun w hw => ⟨(spl_ok h hw).1, Nat.le_trans (spl_ok h hw).2 hl⟩
  unfold read_leaf_m R
  simp only [bnd_ret, lft_some, isiB, Option.map_some, asB_bl, Bool.not_true, Bool.false_eq_true, if_false, asS_str, s_nl, e0]
  generalize TL.spl [10] 0 [] x = ls at hc hm ⊢
  cases ls with
  | nil => simp at hc
  | cons l ls =>
    have i0 : ixD (.lst ((l :: ls).map dS)) (.int 0) = some (dS l) := ixD_lst (i := 0) rfl
    have c1 : cutG ((l :: ls).map dS) (some 1) none = ls.map dS := cutG_from _ 1
    have hls : ls.length ≤ 1000 := by simp at hc; omega
    simp only [i0, bnd_ret, lft_some, head_of_eq (hm l (by simp)).1 (hm l (by simp)).2, RL, asI_int, slD_lst, c1, places_in_eq (fun w hw => hm w (List.mem_cons_of_mem _ hw)) hls]
    cases headO (wordsO (WT l)) with
    | none => simp [headD, isD, asB_bl]
    | some np =>
      obtain ⟨n, p⟩ := np
      have i1 : ixD (headD (some (n, p))) (.int 0) = some (dS n) := ixD_tup (i := 0) rfl
      have i2 : ixD (headD (some (n, p))) (.int 1) = some (.int (p : Nat)) := ixD_tup (i := 1) rfl
      have e1 : isD (headD (some (n, p))) .non = some (.bl false) := rfl
      simp only [e1, bnd_ret, lft_some, asB_bl, i1, i2, Bool.false_eq_true, if_false, leafD]
      rw [mkT_ok (lim_of (by simp))]; rfl
theorem read_leaf_no {d : D} (h : isiB .str d = some false) : (read_leaf_m d : M γ D) = ret .non := by
  unfold read_leaf_m
  simp only [bnd_ret, lft_some, h, Option.map_some, asB_bl, Bool.not_false, if_true]
/-! ### the law's own reader -/
theorem law_loop {rv : D} {k : D → D → M γ (Lp D)} {ls : List (List Nat)} {kk : D → M γ D} {w : List D → D} (hkk : ∀ f : List D, f.length ≤ 1000 → kk (.tup f) = ret (w f))
    (hk : ∀ (l : List Nat) (t : Nat) (f : List D), ls[t]? = some l → f.length < 1000 → k (.int (t : Nat)) (.tup f) =
      ret (match placeO t (wordsO (WT l)) with | none => .rt (w f) | some p => .go (.tup (f ++ [.int (p : Nat)])))) (hls : ls.length ≤ 900) :
    ∀ (n t : Nat) (f : List D), t + n = ls.length → f.length = t →
      bnd (forM k ((List.range' t n).map fun (i : Nat) => D.int (i : Nat)) (.tup f)) (lpC kk (fun d => ret d)) = ret (w (f ++ (plc t (ls.drop t)).map dN))
  | 0, t, f, hn, hf => by
    rw [List.drop_eq_nil_of_le (by omega)]
    simp [Py.forM, plc, lpC, hkk f (by omega)]
  | n + 1, t, f, hn, hf => by
    have ht : t < ls.length := by omega
    rw [List.range'_succ, List.map_cons]
    show bnd (bnd (k (.int (t : Nat)) (.tup f)) _) _ = _
    rw [hk ls[t] t f (List.getElem?_eq_getElem ht) (by omega), bnd_ret, List.drop_eq_getElem_cons ht]
    unfold plc
    cases e : placeO t (wordsO (WT ls[t])) with
    | none => simp [lpC]
    | some p =>
      have := law_loop (rv := rv) hkk hk hls n (t + 1) (f ++ [.int (p : Nat)]) (by omega) (by simp [hf])
      show bnd (forM k _ _) _ = _
      rw [this]
      simp [dN]
theorem law_read_l1_eq {lines : List (List Nat)} {w0 w1 w2 : List Nat} (hm : ∀ w ∈ lines, okT w ∧ w.length ≤ 640) (h2 : isNum w2 = true) (l2 : w2.length ≤ 640) {t : Nat} {l : List Nat} {f : List D} (ht : lines[t + 1]? = some l) (hT : t < 1000) (hf : f.length < 1000) :
    (_law_read_l1 (.lst (lines.map dS)) (.tup ([w0, w1, w2].map dS)) (.int (t : Nat)) (.tup f) : M γ (Lp D)) = ret (match placeO t (wordsO (WT l)) with | none => .rt (.tup [dS w1, .int ((NumText.digitsVal w2 : Nat) : Int), .tup f]) | some p => .go (.tup (f ++ [.int (p : Nat)]))) := by
  have hl := hm l (List.mem_of_getElem? ht)
  have i0 : ixD (.lst (lines.map dS)) (.int ((t : Int) + 1)) = some (dS l) := ixD_lst (i := t + 1) (by rw [List.getElem?_map, ht]; rfl)
  have j1 : ixD (.tup ([w0, w1, w2].map dS)) (.int 1) = some (dS w1) := ixD_tup (i := 1) rfl
  have j2 : ixD (.tup ([w0, w1, w2].map dS)) (.int 2) = some (dS w2) := ixD_tup (i := 2) rfl
  have n2 := isNum_iff.mp h2
  have d2 : intD [dS w2] = some (.int ((NumText.digitsVal w2 : Nat) : Int)) := intD_S n2.2.1 n2.1 l2
  have st : strD [.int (t : Int)] = some (dS (TL.numL t)) := strD_nat (by omega)
  have m3 : mkT [dS w1, .int ((NumText.digitsVal w2 : Nat) : Int), .tup f] = some (.tup [dS w1, .int ((NumText.digitsVal w2 : Nat) : Int), .tup f]) := mkT_ok (lim_of (by simp))
  unfold _law_read_l1
  simp only [bnd_ret, lft_some, addD_int, i0, law_words_eq hl.1 hl.2, j1, j2, d2, st, m3]
  have hw := fun w => words_ok (w := w) hl.1
  generalize wordsO (WT l) = ws at hw ⊢
  simp only [bnd_ret, lenD_tup, lft_some, List.length_map, neD_int, asB_bl]
  by_cases h3 : ws.length = 4
  · obtain ⟨v0, v1, v2, v3, rfl⟩ := four h3
    obtain ⟨o3, l3⟩ := hw v3 (by simp)
    have i0 : ixD (.tup ([v0, v1, v2, v3].map dS)) (.int 0) = some (dS v0) := ixD_tup (i := 0) rfl
    have i1 : ixD (.tup ([v0, v1, v2, v3].map dS)) (.int 1) = some (dS v1) := ixD_tup (i := 1) rfl
    have i2 : ixD (.tup ([v0, v1, v2, v3].map dS)) (.int 2) = some (dS v2) := ixD_tup (i := 2) rfl
    have i3 : ixD (.tup ([v0, v1, v2, v3].map dS)) (.int 3) = some (dS v3) := ixD_tup (i := 3) rfl
    simp only [i0, i1, i2, i3, bnd_ret, lft_some, s_time, s_at, neD_S, asB_bl, law_num_eq o3 (by omega), placeO]
    rw [show ([116, 105, 109, 101] : List Nat) = TIME from rfl, show ([97, 116] : List Nat) = ATT from rfl]
    by_cases c0 : v0 = TIME
    · by_cases c1 : v2 = ATT
      · by_cases c2 : v1 = TL.numL t
        · cases c3 : isNum v3 with
          | false => simp [c0, c1, c2, c3]
          | true =>
            have n3 := isNum_iff.mp c3
            have d3 : intD [dS v3] = some (.int ((NumText.digitsVal v3 : Nat) : Int)) := intD_S n3.2.1 n3.1 (by omega)
            have m1 : mkT [.int ((NumText.digitsVal v3 : Nat) : Int)] = some (.tup [.int ((NumText.digitsVal v3 : Nat) : Int)]) := mkT_ok (lim_of (by simp))
            have a1 : addD (.tup f) (.tup [.int ((NumText.digitsVal v3 : Nat) : Int)]) = some (.tup (f ++ [.int ((NumText.digitsVal v3 : Nat) : Int)])) := by
              have : f.length + 1 ≤ LIM := lim_of (by omega)
              simp [addD, addI, addS, addT, this]
            simp [c0, c1, c2, c3, d3, m1, a1]
        · simp [c0, c1, c2]
      · simp [c0, c1]
    · simp [c0]
  · have : ¬ ((ws.length : Int) = 4) := by omega
    rw [placeO_ne h3]
    simp [this]
theorem law_read_eq {x : List Nat} (h : okT x) (hl : x.length ≤ 640) : (_law_read_m (dS x) : M γ D) = ret (R x) := by
  have e0 : splitD (S x) (dS [10]) = some (.lst ((TL.spl [10] 0 [] x).map dS)) := splitD_S (by decide) (by decide) (lim_of (by omega))
  have hc := spl_count (b := [10]) x 0 []
  have hm : ∀ w ∈ TL.spl [10] 0 [] x, okT w ∧ w.length ≤ 640 := fun w hw => ⟨(spl_ok h hw).1, Nat.le_trans (spl_ok h hw).2 hl⟩
  have mn : mkT [] = some (.tup []) := rfl
  unfold _law_read_m R
  simp only [bnd_ret, lft_some, isiB, Option.map_some, asB_bl, Bool.not_true, Bool.false_eq_true, if_false, asS_str, s_nl, e0, mn]
  generalize TL.spl [10] 0 [] x = lines at hc hm ⊢
  cases lines with
  | nil => simp at hc
  | cons l ls =>
    have i0 : ixD (.lst ((l :: ls).map dS)) (.int 0) = some (dS l) := ixD_lst (i := 0) rfl
    have hls : ls.length ≤ 640 := by simp at hc; omega
    obtain ⟨ol, ll⟩ := hm l (by simp)
    have er : rng1 (.int ((((l :: ls).map dS).length : Int) - 1)) = some ((List.range' 0 ls.length).map fun (i : Nat) => D.int (i : Nat)) := by
      have : ((((l :: ls).map dS).length : Nat) : Int) - 1 = (ls.length : Nat) := by simp
      rw [this]
      have h2 : okR (ls.length : Nat) = true := by unfold okR; simp; omega
      simp only [rng1, h2, if_true, rangeD]
      rw [List.range_eq_range']
      simp
    simp only [i0, bnd_ret, lft_some, law_words_eq ol ll, RL, lenD_lst, subD_int, er]
    have hw := fun w => words_ok (w := w) ol
    generalize wordsO (WT l) = ws at hw ⊢
    simp only [bnd_ret, lenD_tup, lft_some, List.length_map, neD_int, asB_bl]
    by_cases h3 : ws.length = 3
    · obtain ⟨w0, w1, w2, rfl⟩ := three h3
      obtain ⟨o1, l1⟩ := hw w1 (by simp)
      obtain ⟨o2, l2⟩ := hw w2 (by simp)
      have j0 : ixD (.tup ([w0, w1, w2].map dS)) (.int 0) = some (dS w0) := ixD_tup (i := 0) rfl
      have j1 : ixD (.tup ([w0, w1, w2].map dS)) (.int 1) = some (dS w1) := ixD_tup (i := 1) rfl
      have j2 : ixD (.tup ([w0, w1, w2].map dS)) (.int 2) = some (dS w2) := ixD_tup (i := 2) rfl
      simp only [j0, j1, j2, bnd_ret, lft_some, s_leaf, neD_S, asB_bl, law_nm_eq o1 (by omega), law_num_eq o2 (by omega), headO]
      rw [show ([108, 101, 97, 102] : List Nat) = LEAF from rfl]
      by_cases c0 : w0 = LEAF
      · cases c1 : isNm w1 with
        | false => simp [c0, c1]
        | true =>
          cases c2 : isNum w2 with
          | false => simp [c0, c1, c2]
          | true =>
            have n2 := isNum_iff.mp c2
            have d2 : intD [dS w2] = some (.int ((NumText.digitsVal w2 : Nat) : Int)) := intD_S n2.2.1 n2.1 (by omega)
            simp only [c0, c1, c2, d2, decide_true, Bool.not_true, Bool.false_eq_true, if_false, bnd_ret, lft_some, List.length_cons, List.length_nil, and_self, if_true, show ((0 + 1 + 1 + 1 : Nat) : Int) = 3 from rfl]
            have := law_loop (γ := γ) (rv := .non) (ls := ls) (k := fun d s => _law_read_l1 (.lst ((l :: ls).map dS)) (.tup ([w0, w1, w2].map dS)) d s)
              (kk := fun s => lft (mkT [dS w1, .int ((NumText.digitsVal w2 : Nat) : Int), s]))
              (w := fun f => .tup [dS w1, .int ((NumText.digitsVal w2 : Nat) : Int), .tup f]) (fun f hf => by rw [mkT_ok (lim_of (by simp))]; rfl)
              (fun y t f hy hf => law_read_l1_eq hm c2 (by omega) (by simpa using hy) (by have := (List.getElem?_eq_some_iff.mp hy).1; omega) hf) (by omega) ls.length 0 [] (by omega) rfl
            rw [c0] at this
            refine this.trans ?_
            simp [leafD]
      · simp [c0]
    · have : ¬ ((ws.length : Int) = 3) := by omega
      rw [headO_ne h3]
      simp [this]
end
end Lk87

set_option Elab.async false
set_option linter.all false
set_option maxRecDepth 100000
set_option maxHeartbeats 4000000
namespace Lk87
open PySem L2 Py
open SX (S)
theorem pre_false {m : List Nat} (h : 115 ∉ m) : TL.pre MK m = false := by
  cases e : TL.pre MK m with
  | false => rfl
  | true =>
    have e : m.take 4 = MK := eq_of_beq e
    have : (115 : Nat) ∈ m.take 4 := by rw [e]; decide
    exact absurd (List.mem_of_mem_take this) h
theorem pre_false2 {c : Nat} {m : List Nat} (h : c ≠ 32) : TL.pre MK (c :: m) = false := TL.pre_of_head _ _ h
theorem rf_app {l w : List Nat} (hw : 115 ∉ w) : rf (l ++ (MK ++ w)) MK = (l.length : Nat) := by
  have key : ∀ k, l.length < k → TL.pre MK ((l ++ (MK ++ w)).drop k) = false := fun k hk => by
    obtain ⟨j, rfl⟩ : ∃ j, k = l.length + (j + 1) := ⟨k - l.length - 1, by omega⟩
    rw [← List.drop_drop, List.drop_left]
    match j with
    | 0 => exact pre_false2 (by decide)
    | 1 => exact pre_false2 (by decide)
    | 2 => exact pre_false2 (by decide)
    | j + 3 => exact pre_false fun z => hw (List.mem_of_mem_drop (i := j) z)
  have hit : TL.pre MK ((l ++ (MK ++ w)).drop l.length) = true := by rw [List.drop_left]; exact TL.pre_self _ _
  have hne : TL.tl (S MK) ≠ [] := by rw [show TL.tl (S MK) = MK from rfl]; decide
  have ai : ∀ i, StrLaws.At (S (l ++ (MK ++ w))) (S MK) (S (l ++ (MK ++ w))).length i ↔ TL.pre MK ((l ++ (MK ++ w)).drop i) = true := fun i => TL.at_iff hne i
  unfold rf Txt.rfind
  rcases StrLaws.last_spec (S (l ++ (MK ++ w))) (S MK) with ⟨_, h2⟩ | ⟨i, h1, h2, h3⟩
  · exact absurd ((ai _).mpr hit) (h2 _)
  · rw [h1]
    have a := (ai i).mp h2
    have b : ¬ l.length < i := fun z => by rw [key i z] at a; cases a
    have c : ¬ i < l.length := fun z => h3 _ z ((ai _).mpr hit)
    show (i : Int) = _
    omega
theorem wt_app {l w : List Nat} (hw : 115 ∉ w) : WT (l ++ (MK ++ w)) = if w.take 1 = [32] ∧ isNum (w.drop 1) = true ∧ w.drop 1 = TL.numL (sumN l) then some l else none := by
  unfold WT
  rw [rf_app hw, if_neg (by omega), Int.toNat_natCast, ← List.drop_drop (i := 4) (j := l.length), ← List.drop_drop (i := 5) (j := l.length), List.drop_left, List.take_left]
  rfl
theorem rowS_app (a : List Nat) : rowS a = a ++ (MK ++ (32 :: TL.numL (sumN a))) := by
  unfold rowS MK; simp
theorem n115 (n : Nat) : 115 ∉ (32 :: TL.numL n) := fun z => by
  rcases List.mem_cons.mp z with z | z
  · exact absurd z (by decide)
  · exact TL.numL_free (.inr (by decide)) z
theorem wt_row (a : List Nat) : WT (rowS a) = some a := by
  rw [rowS_app, wt_app (n115 _), if_pos ⟨rfl, isNum_numL _, rfl⟩]
theorem wt_cut (a : List Nat) : WT (rowS a).dropLast = none := by
  have e : (rowS a).dropLast = a ++ (MK ++ (32 :: TL.numL (sumN a)).dropLast) := by
    rw [rowS_app, List.dropLast_append_of_ne_nil (by simp [MK]), List.dropLast_append_of_ne_nil (by simp)]
  rw [e, wt_app (fun z => n115 _ ((List.dropLast_sublist _).subset z)), if_neg]
  rintro ⟨_, h2, h3⟩
  have hl := congrArg List.length h3
  have : (TL.numL (sumN a)).length ≠ 0 := fun z => TL.numL_ne _ (List.eq_nil_of_length_eq_zero z)
  simp at hl
  omega
/-! ### the lines -/
def headL (n : List Nat) (p : Nat) : List Nat := TL.joinL [32] [LEAF, n, TL.numL p]
def rowL (t p : Nat) : List Nat := TL.joinL [32] [TIME, TL.numL t, ATT, TL.numL p]
def rowsL : Nat → List Nat → List (List Nat)
  | _, [] => []
  | t, p :: ps => rowL t p :: rowsL (t + 1) ps
def linesL (n : List Nat) (p : Nat) (ps : List Nat) : List (List Nat) := headL n p :: rowsL 0 ps
def textL (n : List Nat) (p : Nat) (ps : List Nat) : List Nat := TL.joinL [10] ((linesL n p ps).map rowS)
theorem nm_mem {n : List Nat} (h : isNm n = true) : ∀ c ∈ n, c ∈ small := fun c hc => by
  unfold isNm at h
  simp only [Bool.and_eq_true, List.isEmpty_iff] at h
  have := List.filter_eq_nil_iff.mp h.2 c hc
  simpa using this
theorem nm_len {n : List Nat} (h : isNm n = true) : 1 ≤ n.length ∧ n.length ≤ 8 := by
  unfold isNm at h
  simp only [Bool.and_eq_true, decide_eq_true_eq] at h
  exact h.1
theorem small_lo {c : Nat} (h : c ∈ small) : 97 ≤ c ∧ c ≤ 122 := by simp [small] at h; omega
theorem nm_ok {n : List Nat} (h : isNm n = true) : okT n := fun c hc => by have := small_lo (nm_mem h c hc); omega
theorem nm_free {n : List Nat} (h : isNm n = true) {s : Nat} (hs : s < 97) : s ∉ n := fun z => by have := small_lo (nm_mem h s z); omega
theorem head_words {n : List Nat} {p : Nat} (h : isNm n = true) : TL.spl [32] 0 [] (headL n p) = [LEAF, n, TL.numL p] := TL.spl_join (by simp) fun w hw => by
  simp only [List.mem_cons, List.not_mem_nil, or_false] at hw
  rcases hw with rfl | rfl | rfl
  · decide
  · exact nm_free h (by decide)
  · exact TL.numL_free (.inl (by decide))
theorem row_words (t p : Nat) : TL.spl [32] 0 [] (rowL t p) = [TIME, TL.numL t, ATT, TL.numL p] := TL.spl_join (by simp) fun w hw => by
  simp only [List.mem_cons, List.not_mem_nil, or_false] at hw
  rcases hw with rfl | rfl | rfl | rfl
  · decide
  · exact TL.numL_free (.inl (by decide))
  · decide
  · exact TL.numL_free (.inl (by decide))
theorem headO_head {n : List Nat} {p : Nat} (h : isNm n = true) : headO (wordsO (WT (rowS (headL n p)))) = some (n, p) := by
  rw [wt_row]
  show headO (TL.spl [32] 0 [] _) = _
  rw [head_words h]
  show (if _ then _ else _) = _
  rw [if_pos ⟨rfl, h, isNum_numL _⟩, TL.numL_val]
theorem placeO_row (t p : Nat) : placeO t (wordsO (WT (rowS (rowL t p)))) = some p := by
  rw [wt_row]
  show placeO t (TL.spl [32] 0 [] _) = _
  rw [row_words]
  show (if _ then _ else _) = _
  rw [if_pos ⟨rfl, rfl, rfl, isNum_numL _⟩, TL.numL_val]
theorem plc_rows : ∀ (ps : List Nat) (t : Nat), plc t ((rowsL t ps).map rowS) = ps
  | [], t => rfl
  | p :: ps, t => by
    show (match placeO t (wordsO (WT (rowS (rowL t p)))) with | none => [] | some p => p :: plc (t + 1) ((rowsL (t + 1) ps).map rowS)) = _
    rw [placeO_row, plc_rows ps (t + 1)]
theorem free_row {a : List Nat} (h : 10 ∉ a) : 10 ∉ rowS a := fun z => by
  unfold rowS at z
  rcases List.mem_append.mp z with z | z
  · exact h z
  · rcases List.mem_append.mp z with z | z
    · exact absurd z (by decide)
    · exact TL.numL_free (.inl (by decide)) z
theorem headL_app (n : List Nat) (p : Nat) : headL n p = LEAF ++ ([32] ++ (n ++ ([32] ++ TL.numL p))) := rfl
theorem rowL_app (t p : Nat) : rowL t p = TIME ++ ([32] ++ (TL.numL t ++ ([32] ++ (ATT ++ ([32] ++ TL.numL p))))) := rfl
theorem free_head {n : List Nat} {p : Nat} (h : isNm n = true) : 10 ∉ headL n p := fun z => by
  simp only [headL_app, List.mem_append] at z
  rcases z with z | z | z | z | z
  · exact absurd z (by decide)
  · exact absurd z (by decide)
  · exact nm_free h (by decide) z
  · exact absurd z (by decide)
  · exact TL.numL_free (.inl (by decide)) z
theorem free_rowL (t p : Nat) : 10 ∉ rowL t p := fun z => by
  simp only [rowL_app, List.mem_append] at z
  rcases z with z | z | z | z | z | z | z
  · exact absurd z (by decide)
  · exact absurd z (by decide)
  · exact TL.numL_free (.inl (by decide)) z
  · exact absurd z (by decide)
  · exact absurd z (by decide)
  · exact absurd z (by decide)
  · exact TL.numL_free (.inl (by decide)) z
theorem free_rows : ∀ (ps : List Nat) (t : Nat), ∀ w ∈ rowsL t ps, 10 ∉ w
  | [], _, w, h => nomatch h
  | p :: ps, t, w, h => by
    rcases List.mem_cons.mp h with rfl | h
    · exact free_rowL t p
    · exact free_rows ps (t + 1) w h
theorem free_lines {n : List Nat} {p : Nat} {ps : List Nat} (h : isNm n = true) : ∀ w ∈ (linesL n p ps).map rowS, 10 ∉ w := fun w hw => by
  obtain ⟨a, ha, rfl⟩ := List.mem_map.mp hw
  rcases List.mem_cons.mp ha with rfl | ha
  · exact free_row (free_head h)
  · exact free_row (free_rows _ _ a ha)
theorem text_split {n : List Nat} {p : Nat} {ps : List Nat} (h : isNm n = true) : TL.spl [10] 0 [] (textL n p ps) = (linesL n p ps).map rowS := TL.spl_join (by simp [linesL]) (free_lines h)
theorem R_text {n : List Nat} {p : Nat} {ps : List Nat} (h : isNm n = true) : R (textL n p ps) = leafD n p ps := by
  unfold R
  rw [text_split h]
  show (match headO (wordsO (WT (rowS (headL n p)))) with | none => D.non | some (n, p) => leafD n p (plc 0 ((rowsL 0 ps).map rowS))) = _
  rw [headO_head h, plc_rows]
theorem R_head {n : List Nat} {p : Nat} (h : isNm n = true) : R (rowS (headL n p)) = leafD n p [] := R_text (ps := []) h
theorem R_cut {n : List Nat} {p : Nat} (h : isNm n = true) : R (rowS (headL n p)).dropLast = .non := by
  unfold R
  rw [show TL.spl [10] 0 [] (rowS (headL n p)).dropLast = [(rowS (headL n p)).dropLast] from TL.spl_last1 fun z => free_row (free_head h) ((List.dropLast_sublist _).subset z)]
  show (match headO (wordsO (WT _)) with | none => D.non | some (n, p) => leafD n p (plc 0 [])) = _
  rw [wt_cut]; rfl
end Lk87

set_option Elab.async false
set_option linter.all false
set_option maxRecDepth 100000
set_option maxHeartbeats 4000000
namespace Lk87
open PySem L2 Py
open SX (S)
/-- lengths -/
theorem num_len2 {p : Nat} (h : p < 100) : (TL.numL p).length ≤ 2 := TL.numL_len (k := 2) (by decide) (by omega)
theorem num_len1 {p : Nat} (h : p < 10) : (TL.numL p).length ≤ 1 := TL.numL_len (k := 1) (by decide) (by omega)
theorem head_len {n : List Nat} {p : Nat} (h : isNm n = true) (hp : p < 10) : (headL n p).length ≤ 15 := by
  have := (nm_len h).2
  have := num_len1 hp
  rw [headL_app]
  simp [LEAF]; omega
theorem row_len {t p : Nat} (ht : t < 100) (hp : p < 100) : (rowL t p).length ≤ 13 := by
  have := num_len2 hp
  have := num_len2 ht
  rw [rowL_app]
  simp [TIME, ATT]; omega
theorem rowS_len (a : List Nat) : (rowS a).length ≤ a.length + 9 := by
  have := numL_len4 (sumN_lt a)
  unfold rowS
  simp; omega
theorem ok_const {a : List Nat} (h : a.all (· < 1114112) = true) : okT a := fun c hc => by simpa using List.all_eq_true.mp h c hc
theorem head_ok {n : List Nat} {p : Nat} (h : isNm n = true) : okT (headL n p) := by
  rw [headL_app]
  exact okT_app (ok_const rfl) (okT_app (ok_const rfl) (okT_app (nm_ok h) (okT_app (ok_const rfl) (okT_num p))))
theorem row_ok (t p : Nat) : okT (rowL t p) := by
  rw [rowL_app]
  exact okT_app (ok_const rfl) (okT_app (ok_const rfl) (okT_app (okT_num t) (okT_app (ok_const rfl) (okT_app (ok_const rfl) (okT_app (ok_const rfl) (okT_num p))))))
theorem rowS_ok {a : List Nat} (h : okT a) : okT (rowS a) := okT_app h (okT_app (ok_const rfl) (okT_num _))
theorem rows_all : ∀ (ps : List Nat) (t : Nat), (∀ p ∈ ps, p < 100) → t + ps.length ≤ 100 → ∀ w ∈ rowsL t ps, okT w ∧ w.length ≤ 13
  | [], t, _, _, w, h => nomatch h
  | p :: ps, t, h, hl, w, hw => by
    have hl : t + (ps.length + 1) ≤ 100 := hl
    rcases List.mem_cons.mp hw with rfl | hw
    · exact ⟨row_ok t p, row_len (by omega) (h p List.mem_cons_self)⟩
    · exact rows_all ps (t + 1) (fun q hq => h q (List.mem_cons_of_mem _ hq)) (by omega) w hw
theorem rowsL_len : ∀ (ps : List Nat) (t : Nat), (rowsL t ps).length = ps.length
  | [], _ => rfl
  | p :: ps, t => congrArg (· + 1) (rowsL_len ps (t + 1))
/-- what a drawn leaf is -/
structure Lf (n : List Nat) (p : Nat) (ps : List Nat) : Prop where
  nm : isNm n = true
  pa : p < 10
  pl : ∀ q ∈ ps, q < 100
  ln : ps.length ≤ 12
theorem lines_all {n : List Nat} {p : Nat} {ps : List Nat} (h : Lf n p ps) : ∀ w ∈ linesL n p ps, okT w ∧ w.length ≤ 15 := fun w hw => by
  rcases List.mem_cons.mp hw with rfl | hw
  · exact ⟨head_ok h.nm, head_len h.nm h.pa⟩
  · have := rows_all ps 0 h.pl (by have := h.ln; omega) w hw
    exact ⟨this.1, by omega⟩
theorem sum_le {β : Type} (f : β → Nat) (m : Nat) : ∀ l : List β, (∀ x ∈ l, f x ≤ m) → (l.map f).sum ≤ m * l.length
  | [], _ => Nat.zero_le _
  | x :: l, h => by
    have := sum_le f m l fun y hy => h y (List.mem_cons_of_mem _ hy)
    have := h x List.mem_cons_self
    simp [Nat.mul_add]; omega
theorem join_len (b : List Nat) : ∀ ys : List (List Nat), (TL.joinL b ys).length ≤ (ys.map (·.length)).sum + ys.length * b.length
  | [] => Nat.zero_le _
  | [p] => by simp [TL.joinL]
  | p :: q :: r => by
    have := join_len b (q :: r)
    show (p ++ (b ++ TL.joinL b (q :: r))).length ≤ _
    simp [Nat.add_mul] at this ⊢; omega
theorem join_ok {b : List Nat} (hb : okT b) : ∀ ys : List (List Nat), (∀ y ∈ ys, okT y) → okT (TL.joinL b ys)
  | [], _ => fun c hc => nomatch hc
  | [p], h => h p List.mem_cons_self
  | p :: q :: r, h => okT_app (h p List.mem_cons_self) (okT_app hb (join_ok hb (q :: r) fun y hy => h y (List.mem_cons_of_mem _ hy)))
theorem text_ok {n : List Nat} {p : Nat} {ps : List Nat} (h : Lf n p ps) : okT (textL n p ps) := join_ok (ok_const rfl) _ fun y hy => by
  obtain ⟨a, ha, rfl⟩ := List.mem_map.mp hy
  exact rowS_ok (lines_all h a ha).1
theorem text_len {n : List Nat} {p : Nat} {ps : List Nat} (h : Lf n p ps) : (textL n p ps).length ≤ 310 := by
  unfold textL
  refine Nat.le_trans (join_len _ _) ?_
  have h1 := rowS_len (headL n p)
  have h2 := head_len h.nm h.pa
  have h3 : (((rowsL 0 ps).map rowS).map (·.length)).sum ≤ 22 * ((rowsL 0 ps).map rowS).length := sum_le _ 22 _ fun w hw => by
    obtain ⟨a, ha, rfl⟩ := List.mem_map.mp hw
    have := rowS_len a
    have := (rows_all ps 0 h.pl (by have := h.ln; omega) a ha).2
    omega
  have h4 := rowsL_len ps 0
  have h5 := h.ln
  simp only [linesL, List.map_cons, List.sum_cons, List.length_cons, List.length_map, List.length_nil] at h3 ⊢
  omega
section
variable {γ : Type}
theorem lcM_strs {k : D → M γ (Option D)} {f : List Nat → List Nat} : ∀ (ls : List (List Nat)), (∀ l ∈ ls, k (dS l) = ret (some (dS (f l)))) → lcM k (ls.map dS) = ret ((ls.map f).map dS)
  | [], _ => rfl
  | l :: ls, h => by
    show bnd (k (dS l)) _ = _
    rw [h l List.mem_cons_self, bnd_ret, lcM_strs ls fun x hx => h x (List.mem_cons_of_mem _ hx)]; rfl
theorem lcM_rows {k : D → M γ (Option D)} (hk : ∀ t p : Nat, t < 100 → p < 100 → k (.tup [.int (t : Nat), .int (p : Nat)]) = ret (some (dS (rowL t p)))) : ∀ (ps : List Nat) (t : Nat), (∀ p ∈ ps, p < 100) → t + ps.length ≤ 100 →
    lcM k (enumD t (ps.map dN)) = ret ((rowsL t ps).map dS)
  | [], t, _, _ => rfl
  | p :: ps, t, h, hl => by
    have hl : t + (ps.length + 1) ≤ 100 := hl
    show bnd (k (.tup [.int (t : Nat), .int (p : Nat)])) _ = _
    rw [hk t p (by omega) (h p List.mem_cons_self), bnd_ret, lcM_rows hk ps (t + 1) (fun q hq => h q (List.mem_cons_of_mem _ hq)) (by omega)]; rfl
theorem fm_S {a : List Nat} (h : a.length ≤ 1000) : (bnd (ret (dS a)) fun x => lft (fmtD x) : M γ D) = ret (dS a) := by
  rw [bnd_ret, fmtD_S (lim_of (by omega))]; rfl
theorem fm_N {p : Nat} (h : p < 100) : (bnd (ret (.int (p : Nat))) fun x => lft (fmtD x) : M γ D) = ret (dS (TL.numL p)) := by
  rw [bnd_ret, fmtD_nat (by omega)]; rfl
theorem leaf_text_eq {n : List Nat} {p : Nat} {ps : List Nat} (h : Lf n p ps) : (leaf_text_m (dS n) (.int (p : Nat)) (.tup (ps.map dN)) : M γ D) = ret (dS (textL n p ps)) := by
  have hn := (nm_len h.nm).2
  have hp := num_len1 h.pa
  have hps := h.ln
  have hh : ((jc (bnd (ret (.str (Str.ofString "leaf"))) fun a1 => lft (fmtD a1)) (jc (ret (.str (Str.ofString " "))) (jc (bnd (ret (dS n)) fun a2 => lft (fmtD a2)) (jc (ret (.str (Str.ofString " "))) (jc (bnd (ret (.int (p : Nat))) fun a3 => lft (fmtD a3)) jn))))) Str.empty : M γ D) = ret (dS (headL n p)) := by
    refine (jc_S (a := []) (b := LEAF) (fm_S (by decide)) (lim_of (by decide))).trans ?_
    refine (jc_S (b := [32]) rfl (lim_of (by decide))).trans ?_
    refine (jc_S (b := n) (fm_S (by omega)) (lim_of (by simp [LEAF]; omega))).trans ?_
    refine (jc_S (b := [32]) rfl (lim_of (by simp [LEAF]; omega))).trans ?_
    refine (jc_S (b := TL.numL p) (fm_N (by have := h.pa; omega)) (lim_of (by simp [LEAF]; omega))).trans ?_
    rw [headL_app]
    simp [jn]
  have hj0 : ∀ t q : Nat, t < 100 → q < 100 → ((jc (bnd (ret (.str (Str.ofString "time"))) fun a10 => lft (fmtD a10)) (jc (ret (.str (Str.ofString " "))) (jc (bnd (ret (.int (t : Nat))) fun a11 => lft (fmtD a11)) (jc (ret (.str (Str.ofString " "))) (jc (bnd (ret (.str (Str.ofString "at"))) fun a12 => lft (fmtD a12)) (jc (ret (.str (Str.ofString " "))) (jc (bnd (ret (.int (q : Nat))) fun a13 => lft (fmtD a13)) jn))))))) Str.empty : M γ D) = ret (dS (rowL t q)) := fun t q ht hq => by
    have e1 := num_len2 ht
    have e2 := num_len2 hq
    refine (jc_S (a := []) (b := TIME) (fm_S (by decide)) (lim_of (by decide))).trans ?_
    refine (jc_S (b := [32]) rfl (lim_of (by decide))).trans ?_
    refine (jc_S (b := TL.numL t) (fm_N ht) (lim_of (by simp [TIME]; omega))).trans ?_
    refine (jc_S (b := [32]) rfl (lim_of (by simp [TIME]; omega))).trans ?_
    refine (jc_S (b := ATT) (fm_S (by decide)) (lim_of (by simp [TIME, ATT]; omega))).trans ?_
    refine (jc_S (b := [32]) rfl (lim_of (by simp [TIME, ATT]; omega))).trans ?_
    refine (jc_S (b := TL.numL q) (fm_N hq) (lim_of (by simp [TIME, ATT]; omega))).trans ?_
    rw [rowL_app]
    simp [jn]
  have hr : (lcM (fun d16 => bnd (lft (un2 d16)) fun p9 => bnd ((jc (bnd (ret (.str (Str.ofString "time"))) fun a10 => lft (fmtD a10)) (jc (ret (.str (Str.ofString " "))) (jc (bnd (ret p9.1) fun a11 => lft (fmtD a11)) (jc (ret (.str (Str.ofString " "))) (jc (bnd (ret (.str (Str.ofString "at"))) fun a12 => lft (fmtD a12)) (jc (ret (.str (Str.ofString " "))) (jc (bnd (ret p9.2) fun a13 => lft (fmtD a13)) jn))))))) Str.empty) fun a14 => ret (some a14)) (enumD 0 (ps.map dN)) : M γ (List D)) = ret ((rowsL 0 ps).map dS) :=
    lcM_rows (fun t q ht hq => congrArg (fun m : M γ D => bnd m fun a14 => ret (some a14)) (hj0 t q ht hq)) ps 0 h.pl (by omega)
  have hl := rowsL_len ps 0
  have hs : (lcM (fun v_row => bnd (bnd (ret v_row) fun a21 => summed_m a21) fun a22 => ret (some a22)) ((linesL n p ps).map dS) : M γ (List D)) = ret (((linesL n p ps).map rowS).map dS) :=
    lcM_strs _ fun l hl => by
      have := lines_all h l hl
      simp only [bnd_ret, summed_eq this.1 (by omega)]
  have ht := text_len h
  have hj : joinD (S [10]) (.lst (((linesL n p ps).map rowS).map dS)) = some (dS (textL n p ps)) := joinD_S (by
    have h3 : (((linesL n p ps).map rowS).map (·.length)).sum ≤ 24 * ((linesL n p ps).map rowS).length := sum_le _ 24 _ fun w hw => by
      obtain ⟨a, ha, rfl⟩ := List.mem_map.mp hw
      have := rowS_len a
      have := (lines_all h a ha).2
      omega
    simp [linesL] at h3 ⊢; omega)
  unfold leaf_text_m
  rw [hh]
  have o1 : okL [dS (headL n p)] = some [dS (headL n p)] := okL_ok (lim_of (by simp))
  have o2 : okL ((rowsL 0 ps).map dS) = some ((rowsL 0 ps).map dS) := okL_ok (lim_of (by simp; omega))
  have o3 : okL (((linesL n p ps).map rowS).map dS) = some (((linesL n p ps).map rowS).map dS) := okL_ok (lim_of (by simp [linesL]; omega))
  have hc : decide (([dS (headL n p)] : List D).length + ((rowsL 0 ps).map dS).length ≤ LIM) = true := decide_eq_true (lim_of (by simp; omega))
  have hcat : [dS (headL n p)] ++ (rowsL 0 ps).map dS = (linesL n p ps).map dS := rfl
  simp only [bnd_ret, lft_some, o1, seqOf_tup]
  simp only [bnd_ret, lft_some] at hr hs
  simp only [hr, bnd_ret, lft_some, o2, hc, chk_true, asS_str, s_nl, hcat, hs, o3, hj]
end
end Lk87

set_option Elab.async false
set_option linter.all false
set_option maxRecDepth 100000
set_option maxHeartbeats 4000000
namespace Lk87
open PySem L2 Py
open SX (S)
section
variable {γ : Type}
theorem str_N {p : Nat} (h : p < 100) : strD [.int (p : Nat)] = some (dS (TL.numL p)) := strD_nat (by omega)
theorem ad {a b : List Nat} (h : a.length + b.length ≤ 1000000) : addD (dS a) (dS b) = some (dS (a ++ b)) := addD_S (lim_of h)
theorem law_lines_eq {n : List Nat} {p : Nat} {ps : List Nat} (h : Lf n p ps) : (_law_leaf_lines_m (dS n) (.int (p : Nat)) (.tup (ps.map dN)) : M γ D) = ret (.lst ((linesL n p ps).map dS)) := by
  have hn := (nm_len h.nm).2
  have hp := num_len1 h.pa
  have hps := h.ln
  have e1 : addD (dS [108, 101, 97, 102, 32]) (dS n) = some (dS ([108, 101, 97, 102, 32] ++ n)) := ad (by simp; omega)
  have e2 : addD (dS ([108, 101, 97, 102, 32] ++ n)) (dS [32]) = some (dS ([108, 101, 97, 102, 32] ++ n ++ [32])) := ad (by simp; omega)
  have e3 : addD (dS ([108, 101, 97, 102, 32] ++ n ++ [32])) (dS (TL.numL p)) = some (dS (headL n p)) := by
    rw [ad (by simp; omega), headL_app]; simp [LEAF]
  have o1 : okL [dS (headL n p)] = some [dS (headL n p)] := okL_ok (lim_of (by simp))
  have hr : (lcM (fun d29 => bnd (lft (un2 d29)) fun p14 => bnd (bnd (bnd (bnd (ret (.str (Str.ofString "time "))) fun a18 => bnd (bnd (bnd (ret p14.1) fun a15 => bnd (ret []) fun a16 => ret (a15 :: a16)) fun a17 => lft (strD a17)) fun a19 => lft (addD a18 a19)) fun a20 => bnd (ret (.str (Str.ofString " at "))) fun a21 => lft (addD a20 a21)) fun a25 => bnd (bnd (bnd (ret p14.2) fun a22 => bnd (ret []) fun a23 => ret (a22 :: a23)) fun a24 => lft (strD a24)) fun a26 => lft (addD a25 a26)) fun a27 => ret (some a27)) (enumD 0 (ps.map dN)) : M γ (List D)) = ret ((rowsL 0 ps).map dS) := by
    refine lcM_rows (fun t q ht hq => ?_) ps 0 h.pl (by omega)
    have l1 := num_len2 ht
    have l2 := num_len2 hq
    have e1 : addD (dS [116, 105, 109, 101, 32]) (dS (TL.numL t)) = some (dS ([116, 105, 109, 101, 32] ++ TL.numL t)) := ad (by simp; omega)
    have e2 : addD (dS ([116, 105, 109, 101, 32] ++ TL.numL t)) (dS [32, 97, 116, 32]) = some (dS ([116, 105, 109, 101, 32] ++ TL.numL t ++ [32, 97, 116, 32])) := ad (by simp; omega)
    have e3 : addD (dS ([116, 105, 109, 101, 32] ++ TL.numL t ++ [32, 97, 116, 32])) (dS (TL.numL q)) = some (dS (rowL t q)) := by
      rw [ad (by simp; omega), rowL_app]; simp [TIME, ATT]
    simp only [un2, lft_some, bnd_ret, s_timeb, s_atb, str_N ht, str_N hq, e1, e2, e3]
  have hl := rowsL_len ps 0
  have o2 : okL ((rowsL 0 ps).map dS) = some ((rowsL 0 ps).map dS) := okL_ok (lim_of (by simp; omega))
  have hc : catQ (true, [dS (headL n p)]) (true, (rowsL 0 ps).map dS) = some ((linesL n p ps).map dS) := by
    have : 1 + (rowsL 0 ps).length ≤ LIM := lim_of (by omega)
    simp [catQ, linesL]
    omega
  unfold _law_leaf_lines_m
  simp only [lft_some, bnd_ret] at hr
  simp only [lft_some, bnd_ret, s_leafb, s_b, str_N (show p < 100 by have := h.pa; omega), e1, e2, e3, o1, seqOf_tup, hr, o2, hc]
theorem law_sums_eq {n : List Nat} {p : Nat} {ps : List Nat} (h : Lf n p ps) : (lcM (fun v_row => bnd (_law_summed_m v_row) fun a22 => ret (some a22)) ((linesL n p ps).map dS) : M γ (List D)) = ret (((linesL n p ps).map rowS).map dS) :=
  lcM_strs _ fun l hl => by
    have := lines_all h l hl
    rw [law_summed_eq this.1 (by omega), bnd_ret]
theorem okL_sums {n : List Nat} {p : Nat} {ps : List Nat} (h : Lf n p ps) : okL (((linesL n p ps).map rowS).map dS) = some (((linesL n p ps).map rowS).map dS) := okL_ok (lim_of (by
  have := rowsL_len ps 0
  have := h.ln
  simp [linesL]; omega))
theorem join_rows {n : List Nat} {p : Nat} {ps : List Nat} (h : Lf n p ps) : joinD (S [10]) (.lst (((linesL n p ps).map rowS).map dS)) = some (dS (textL n p ps)) := joinD_S (by
  have hl := rowsL_len ps 0
  have := h.ln
  have h3 : (((linesL n p ps).map rowS).map (·.length)).sum ≤ 24 * ((linesL n p ps).map rowS).length := sum_le _ 24 _ fun w hw => by
    obtain ⟨a, ha, rfl⟩ := List.mem_map.mp hw
    have := rowS_len a
    have := (lines_all h a ha).2
    omega
  simp [linesL] at h3 ⊢; omega)
theorem law_text_eq {n : List Nat} {p : Nat} {ps : List Nat} (h : Lf n p ps) : (_law_leaf_text_m (dS n) (.int (p : Nat)) (.tup (ps.map dN)) : M γ D) = ret (dS (textL n p ps)) := by
  unfold _law_leaf_text_m
  simp only [lft_some, bnd_ret, s_nl, asS_str, law_lines_eq h, seqOf_lst, law_sums_eq h, okL_sums h, join_rows h]
theorem replC_S {c : Nat} {z a : List Nat} (hc : c < 256) (h : a.length + (a.length + 1) * z.length ≤ 16777216) : replC (S [c]) (S z) (dS a) = some (dS (TL.joinL z (TL.spl [c] 0 [] a))) := by
  show (if (S a).length + ((S a).length + 1) * (S z).length ≤ 16777216 then some (D.str (Txt.replace (S a) (S [c]) (S z))) else none) = _
  rw [S_length, S_length, if_pos h]
  have e := StrLaws.replace_one (S a) (S z) c
  rw [show (S [c]) = ⟨#[c]⟩ from rfl, e, show (⟨#[c]⟩ : Str) = S [c] from rfl, SX.split_S (by simp) (by simpa using hc)]
  exact congrArg (fun x => some (D.str x)) ((TL.join_eq _ _).symm.trans (SX.join_S _ _))
end
/-! ### draws -/
def Ok {α : Type} (m : M Dl α) (P : α → Prop) : Prop := ∀ g, ∃ a g', m g = some (a, g') ∧ P a
theorem ok_ret {α : Type} {a : α} {P : α → Prop} (h : P a) : Ok (ret a) P := fun g => ⟨a, g, rfl, h⟩
theorem ok_bnd {α β : Type} {m : M Dl α} {k : α → M Dl β} {P : α → Prop} {Q : β → Prop} (h : Ok m P) (hk : ∀ a, P a → Ok (k a) Q) : Ok (bnd m k) Q := fun g => by
  obtain ⟨a, g', e, p⟩ := h g
  obtain ⟨b, g2, e2, q⟩ := hk a p g'
  exact ⟨b, g2, by unfold bnd; rw [e]; exact e2, q⟩
theorem ok_lft {α β : Type} {o : Option α} {a : α} {k : α → M Dl β} {Q : β → Prop} (h : o = some a) (hk : Ok (k a) Q) : Ok (bnd (lft o) k) Q := by
  subst h; exact hk
theorem ok_lft1 {α : Type} {o : Option α} {a : α} {Q : α → Prop} (h : o = some a) (hk : Q a) : Ok (lft o) Q := by
  subst h; exact ok_ret hk
theorem ok_cong {α : Type} {m m' : M Dl α} {Q : α → Prop} (h : m = m') (hk : Ok m' Q) : Ok m Q := h ▸ hk
theorem ok_any {n : Int} (h0 : 0 < n) (h1 : n < 1000000000) : Ok (any_m (.ptr 0) (.int n)) fun d => ∃ i : Nat, d = .int (i : Nat) ∧ (i : Int) < n := fun g => by
  have r := anyD_range h0 g
  refine ⟨.int (anyD n g).1, (anyD n g).2, ?_, (anyD n g).1.toNat, ?_, by omega⟩
  · show (if 0 < n ∧ n < 1000000000 then (fun t => some (D.int (anyD n t).1, (anyD n t).2) : M Dl D) else fl) g = _
    rw [if_pos ⟨h0, h1⟩]
  · congr 1; omega
theorem ok_forL {β : Type} {k : D → β → M Dl β} {P : β → Prop} : ∀ (ds : List D) (b : β), (∀ d ∈ ds, ∀ b, P b → Ok (k d b) P) → P b → Ok (forL k ds b) P
  | [], b, _, h => ok_ret h
  | d :: ds, b, hk, h => ok_bnd (hk d List.mem_cons_self b h) fun b' h' => ok_forL ds b' (fun x hx => hk x (List.mem_cons_of_mem _ hx)) h'
theorem ok_lcM {k : D → M Dl (Option D)} {Q : D → Prop} : ∀ (ds : List D), (∀ d ∈ ds, Ok (k d) fun o => ∃ y, o = some y ∧ Q y) → Ok (lcM k ds) fun ys => ys.length = ds.length ∧ ∀ y ∈ ys, Q y
  | [], _ => ok_ret ⟨rfl, (fun y h => nomatch h)⟩
  | d :: ds, h => ok_bnd (h d List.mem_cons_self) fun o ⟨y, ho, hy⟩ => ok_bnd (ok_lcM ds fun x hx => h x (List.mem_cons_of_mem _ hx)) fun ys ⟨h1, h2⟩ => by
    subst ho
    exact ok_ret ⟨congrArg (· + 1) h1, fun z hz => by rcases List.mem_cons.mp hz with rfl | hz; exact hy; exact h2 z hz⟩
theorem ok_mono {α : Type} {m : M Dl α} {P Q : α → Prop} (h : Ok m P) (hq : ∀ a, P a → Q a) : Ok m Q := fun g => by
  obtain ⟨a, g', e, p⟩ := h g
  exact ⟨a, g', e, hq a p⟩
theorem ok_of {ds : List D} (h0 : ds ≠ []) (h1 : ds.length ≤ 1000) : Ok (_law_of_m (.ptr 0) (.lst ds)) fun d => d ∈ ds := by
  have : 0 < ds.length := List.length_pos_iff.mpr h0
  unfold _law_of_m
  simp only [bnd_ret, lenD_lst, lft_some]
  refine ok_bnd (ok_any (by omega) (by omega)) fun d ⟨i, hd, hi⟩ => ?_
  subst hd
  have hi : i < ds.length := by omega
  rw [ixD_lst (i := i) (List.getElem?_eq_getElem hi)]
  exact ok_ret (List.getElem_mem hi)
theorem rng_ok {n : Nat} (h : n ≤ 1000) : rng1 (.int (n : Nat)) = some ((List.range n).map fun (i : Nat) => D.int (i : Nat)) := by
  have h2 : okR (n : Nat) = true := by unfold okR; simp; omega
  simp only [rng1, h2, if_true, rangeD]
  simp
theorem join_chars : ∀ cs : List Nat, TL.joinL [] (cs.map fun c => [c]) = cs
  | [] => rfl
  | [c] => rfl
  | c :: d :: r => by
    show [c] ++ ([] ++ TL.joinL [] ((d :: r).map fun c => [c])) = _
    rw [join_chars (d :: r)]; rfl
theorem of_all {α : Type} {f : α → D} {P : α → Prop} : ∀ ys : List D, (∀ y ∈ ys, ∃ a, y = f a ∧ P a) → ∃ as : List α, ys = as.map f ∧ (∀ a ∈ as, P a) ∧ as.length = ys.length
  | [], _ => ⟨[], rfl, (fun a h => nomatch h), rfl⟩
  | y :: ys, h => by
    obtain ⟨a, rfl, pa⟩ := h y List.mem_cons_self
    obtain ⟨as, rfl, ps, _⟩ := of_all ys fun z hz => h z (List.mem_cons_of_mem _ hz)
    exact ⟨a :: as, rfl, fun b hb => by rcases List.mem_cons.mp hb with rfl | hb; exact pa; exact ps b hb, by simp⟩
theorem isNm_of {cs : List Nat} (h1 : 1 ≤ cs.length) (h2 : cs.length ≤ 8) (h : ∀ c ∈ cs, c ∈ small) : isNm cs = true := by
  unfold isNm
  have : outs small cs = [] := List.filter_eq_nil_iff.mpr fun c hc => by simpa using h c hc
  simp [h1, h2, this]
theorem ok_letters : Ok (_law_letters_m (.ptr 0)) fun d => ∃ n, d = dS n ∧ isNm n = true := by
  unfold _law_letters_m
  simp only [bnd_assoc, bnd_ret]
  refine ok_bnd (ok_any (by omega) (by omega)) fun d h => ?_
  obtain ⟨i, rfl, _⟩ := h
  refine ok_lft eqD_int (ok_lft asB_bl ?_)
  by_cases hb : (i : Int) = 0
  · refine ok_cong (if_pos (decide_eq_true hb)) ?_
    refine ok_lft (okL_ok (lim_of (by simp))) ?_
    refine ok_mono (ok_of (by simp) (by simp)) fun d hd => ?_
    simp only [List.mem_cons, List.not_mem_nil, or_false] at hd
    rcases hd with rfl | rfl | rfl | rfl | rfl
    · exact ⟨[115, 117, 109], rfl, by decide⟩
    · exact ⟨[108, 101, 97, 102], rfl, by decide⟩
    · exact ⟨[116, 105, 109, 101], rfl, by decide⟩
    · exact ⟨[97, 116], rfl, by decide⟩
    · exact ⟨[97], rfl, by decide⟩
  · refine ok_cong (if_neg (by simpa using hb)) ?_
    refine ok_lft asS_str ?_
    refine ok_bnd (ok_any (by omega) (by omega)) fun d h => ?_
    obtain ⟨i, rfl, hi⟩ := h
    refine ok_lft (a := .int ((i + 1 : Nat) : Int)) (by rw [addD_int]; congr 2; omega) ?_
    refine ok_lft (rng_ok (show i + 1 ≤ 1000 by omega)) ?_
    refine ok_bnd (ok_lcM (Q := fun y => ∃ c, y = dS [c] ∧ c ∈ small) _ fun d hd => ?_) fun ys h => ?_
    · refine ok_bnd (ok_any (by omega) (by omega)) fun d h => ?_
      obtain ⟨i, rfl, hi⟩ := h
      have hi : i < small.length := by simp [small]; omega
      refine ok_lft (ixD_S (a := small) (i := i) (List.getElem?_eq_getElem hi) (lim_of (by decide))) ?_
      exact ok_ret ⟨_, rfl, _, rfl, List.getElem_mem hi⟩
    · obtain ⟨e1, e2⟩ := h
      obtain ⟨n, rfl, h3, h5⟩ := of_all (f := fun c => dS [c]) ys e2
      simp only [List.length_map, List.length_range] at e1 h5
      have e : joinD (S []) (.lst (n.map fun c => dS [c])) = some (dS n) := by
        rw [show (n.map fun c => dS [c]) = (n.map fun c => [c]).map dS by rw [List.map_map]; rfl]
        rw [joinD_S (by
          have := sum_le (fun a : List Nat => a.length) 1 (n.map fun c => [c]) fun w hw => by obtain ⟨a, _, rfl⟩ := List.mem_map.mp hw; simp
          simp at this ⊢; omega), join_chars]
      refine ok_lft (okL_ok (lim_of (by simp; omega))) ?_
      exact ok_lft1 e ⟨n, rfl, isNm_of (by omega) (by omega) h3⟩
/-- a drawn leaf -/
theorem ok_leaf : Ok (_law_leaf_m (.ptr 0)) fun d => ∃ n p ps, Lf n p ps ∧ d = .tup [dS n, .int (p : Nat), .tup (ps.map dN)] := by
  unfold _law_leaf_m
  simp only [bnd_assoc, bnd_ret]
  refine ok_bnd (ok_any (by omega) (by omega)) fun d h => ?_
  obtain ⟨i, rfl, hi⟩ := h
  refine ok_lft (a := .int ((i + 1 : Nat) : Int)) (by rw [addD_int]; congr 2; omega) ?_
  refine ok_lft (rng_ok (show i + 1 ≤ 1000 by omega)) ?_
  refine ok_bnd (ok_lcM (Q := fun y => ∃ q : Nat, y = dN q ∧ q < 100) _ fun d hd => ?_) fun ys h => ?_
  · refine ok_bnd (ok_any (by omega) (by omega)) fun d h => ?_
    obtain ⟨i, rfl, hi⟩ := h
    refine ok_bnd (ok_any (by omega) (by omega)) fun d h => ?_
    obtain ⟨j, rfl, hj⟩ := h
    refine ok_lft (okL_ok (lim_of (by simp))) ?_
    refine ok_bnd (ok_of (by simp) (by simp)) fun d hd => ok_ret ⟨d, rfl, ?_⟩
    simp only [List.mem_cons, List.not_mem_nil, or_false] at hd
    rcases hd with rfl | rfl | rfl | rfl
    · exact ⟨i, rfl, by omega⟩
    · exact ⟨j, rfl, by omega⟩
    · exact ⟨39, rfl, by omega⟩
    · exact ⟨0, rfl, by omega⟩
  · obtain ⟨e1, e2⟩ := h
    obtain ⟨ps, rfl, h3, h5⟩ := of_all (f := dN) ys e2
    simp only [List.length_map, List.length_range] at e1 h5
    refine ok_lft (okL_ok (lim_of (by simp; omega))) ?_
    refine ok_bnd ok_letters fun d h => ?_
    obtain ⟨n, rfl, hn⟩ := h
    refine ok_bnd (ok_any (by omega) (by omega)) fun d h => ?_
    obtain ⟨p, rfl, hp⟩ := h
    exact ok_lft1 (mkT_ok (lim_of (by simp))) ⟨n, p, ps, ⟨hn, by omega, h3, by omega⟩, rfl⟩
end Lk87

set_option Elab.async false
set_option linter.all false
set_option maxRecDepth 100000
set_option maxHeartbeats 4000000
namespace Lk87
open PySem L2 Py
open SX (S)
def TX (n : Nat) (d : D) : Prop := ∃ x, d = dS x ∧ okT x ∧ x.length ≤ n
theorem TX.mono {n m : Nat} {d : D} (h : TX n d) (hn : n ≤ m) : TX m d := by
  obtain ⟨x, e, o, l⟩ := h
  exact ⟨x, e, o, by omega⟩
theorem tx_lit {s : Str} {n : Nat} (h : s.cps.toList.all (· < 1114112) = true) (hl : s.cps.toList.length ≤ n) : TX n (.str s) := ⟨s.cps.toList, rfl, ok_const h, hl⟩
section
variable {β α : Type} {n m : Nat} {a b : D} {k : D → M Dl β} {Q : β → Prop}
theorem ok_eq {α : Type} {m : M Dl α} {a : α} {k : α → M Dl β} (h : m = ret a) (hk : Ok (k a) Q) : Ok (bnd m k) Q := by
  subst h; exact hk
theorem ok_add (ha : TX n a) (hb : TX m b) (hl : n + m ≤ 1000000) (hk : ∀ z, TX (n + m) z → Ok (k z) Q) : Ok (bnd (lft (addD a b)) k) Q := by
  obtain ⟨x, rfl, ox, lx⟩ := ha
  obtain ⟨y, rfl, oy, ly⟩ := hb
  exact ok_lft (ad (by omega)) (hk _ ⟨_, rfl, okT_app ox oy, by simp; omega⟩)
theorem cutG_mem {γ : Type} {xs : List γ} {lo hi : Option Int} {x : γ} (h : x ∈ cutG xs lo hi) : x ∈ xs := List.mem_of_mem_drop (List.mem_of_mem_take h)
theorem cutG_len {γ : Type} (xs : List γ) (lo hi : Option Int) : (cutG xs lo hi).length ≤ xs.length := by
  unfold cutG
  rw [List.length_take, List.length_drop]; omega
theorem ok_sl {lo hi : Option Int} (ha : TX n a) (hl : n ≤ 1000000) (hk : ∀ z, TX n z → Ok (k z) Q) : Ok (bnd (lft (slD a lo hi)) k) Q := by
  obtain ⟨x, rfl, ox, lx⟩ := ha
  exact ok_lft (slD_S (lim_of (by omega))) (hk _ ⟨_, rfl, fun c hc => ox c (cutG_mem hc), Nat.le_trans (cutG_len _ _ _) lx⟩)
theorem spl_sum {b : List Nat} : ∀ (l : List Nat) (k : Nat) (acc : List Nat), ((TL.spl b k acc l).map (·.length)).sum ≤ acc.length + l.length
  | [], k, acc => by cases k <;> exact Nat.le_refl _
  | x :: l, k + 1, acc => by
    have := spl_sum (b := b) l k acc
    show ((TL.spl b k acc l).map (·.length)).sum ≤ _
    simp; omega
  | x :: l, 0, acc => by
    unfold TL.spl
    split
    · have := spl_sum (b := b) l (b.length - 1) []
      simp at this ⊢; omega
    · have := spl_sum (b := b) l 0 (acc ++ [x])
      simp at this ⊢; omega
theorem ok_repl {c : Nat} {z : List Nat} (hc : c < 256) (hz : okT z) (hzl : z.length ≤ 2) (ha : TX 15 a) (hk : ∀ z, TX 50 z → Ok (k z) Q) : Ok (bnd (lft (replC (S [c]) (S z) a)) k) Q := by
  obtain ⟨x, rfl, ox, lx⟩ := ha
  have h1 : (x.length + 1) * z.length ≤ 16 * 2 := Nat.mul_le_mul (by omega) hzl
  refine ok_lft (replC_S hc (by omega)) (hk _ ⟨_, rfl, join_ok hz _ fun y hy => (spl_ok ox hy).1, ?_⟩)
  have h2 := join_len z (TL.spl [c] 0 [] x)
  have h3 := spl_sum (b := [c]) x 0 []
  have h4 := (spl_count (b := [c]) x 0 []).1
  have h5 : (TL.spl [c] 0 [] x).length * z.length ≤ 16 * 2 := Nat.mul_le_mul (by omega) hzl
  simp at h3
  omega
theorem ok_cat {xs ys : List D} {k : List D → M Dl β} (h : xs.length + ys.length ≤ 1000000) (hk : Ok (k (xs ++ ys)) Q) : Ok (bnd (lft (catQ (true, xs) (true, ys))) k) Q := by
  refine ok_lft (a := xs ++ ys) ?_ hk
  show (if true = true ∧ true = true ∧ xs.length + ys.length ≤ LIM then some (xs ++ ys) else none) = _
  rw [if_pos ⟨rfl, rfl, lim_of h⟩]
theorem ok_okL {xs : List D} {k : List D → M Dl β} (h : xs.length ≤ 1000000) (hk : Ok (k xs) Q) : Ok (bnd (lft (okL xs)) k) Q := ok_lft (okL_ok (lim_of h)) hk
end
theorem mul_a8 : mulA (.str (Str.ofString "a")) (.int 8) = some (.str (Str.ofString "aaaaaaaa")) := by rfl
theorem ok_bent_lines {n : List Nat} {p : Nat} {ps : List Nat} (h : Lf n p ps) : Ok (_law_bent_lines_m (.ptr 0) (dS n) (.int (p : Nat)) (.tup (ps.map dN))) fun d => ∃ ls : List (List Nat), d = .lst (ls.map dS) ∧ ls.length ≤ 13 ∧ (∀ l ∈ ls, okT l ∧ l.length ≤ 50) ∧ (ls.map (·.length)).sum ≤ 230 := by
  have hL := lines_all h
  have hc : (linesL n p ps).length ≤ 13 := by
    have := rowsL_len ps 0
    have := h.ln
    simp [linesL]; omega
  have hc0 : 0 < (linesL n p ps).length := by simp [linesL]
  have hn : TX 8 (dS n) := ⟨n, rfl, nm_ok h.nm, (nm_len h.nm).2⟩
  have hln := h.ln
  unfold _law_bent_lines_m
  simp only [bnd_assoc, bnd_ret]
  refine ok_eq (law_lines_eq h) ?_
  generalize linesL n p ps = ls at hL hc hc0 ⊢
  refine ok_lft lenD_lst ?_
  rw [List.length_map]
  refine ok_bnd (ok_any (by omega) (by omega)) fun d h => ?_
  obtain ⟨i, rfl, hi⟩ := h
  have hi : i < ls.length := by omega
  have hx := hL ls[i] (List.getElem_mem hi)
  have ix : ixD (.lst (ls.map dS)) (.int (i : Nat)) = some (dS ls[i]) := ixD_lst (i := i) (by rw [List.getElem?_map, List.getElem?_eq_getElem hi]; rfl)
  have tx : TX 15 (dS ls[i]) := ⟨_, rfl, hx.1, hx.2⟩
  refine ok_lft ix (ok_add tx (tx_lit (n := 1) (by decide) (by decide)) (by omega) fun z1 t1 => ?_)
  refine ok_lft ix (ok_add (tx_lit (n := 1) (by decide) (by decide)) tx (by omega) fun z2 t2 => ?_)
  refine ok_lft ix (ok_repl (c := 32) (z := [32, 32]) (by omega) (ok_const (by decide)) (by decide) tx fun z3 t3 => ?_)
  refine ok_lft ix (ok_repl (c := 32) (z := [32, 48]) (by omega) (ok_const (by decide)) (by decide) tx fun z4 t4 => ?_)
  refine ok_lft ix (ok_add tx (tx_lit (n := 2) (by decide) (by decide)) (by omega) fun z5 t5 => ?_)
  refine ok_lft ix (ok_lft negD_int (ok_lft asI_int (ok_sl tx (by omega) fun z6 t6 => ?_)))
  refine ok_okL (by simp) ?_
  refine ok_add (tx_lit (n := 5) (by decide) (by decide)) hn (by omega) fun z7 t7 => ?_
  refine ok_add (tx_lit (n := 5) (by decide) (by decide)) hn (by omega) fun z8 t8 => ?_
  refine ok_lft mul_a8 (ok_add t8 (tx_lit (n := 8) (by decide) (by decide)) (by omega) fun z9 t9 => ?_)
  refine ok_add t9 (tx_lit (n := 2) (by decide) (by decide)) (by omega) fun z10 t10 => ?_
  refine ok_okL (by simp) ?_
  refine ok_cat (by simp) ?_
  refine ok_lft lenD_tup ?_
  rw [List.length_map]
  refine ok_lft (strD_nat (by omega)) ?_
  have tn : TX 2 (dS (TL.numL ps.length)) := ⟨_, rfl, okT_num _, num_len2 (by omega)⟩
  refine ok_add (tx_lit (n := 5) (by decide) (by decide)) tn (by omega) fun z11 t11 => ?_
  refine ok_add t11 (tx_lit (n := 5) (by decide) (by decide)) (by omega) fun z12 t12 => ?_
  refine ok_lft ix (ok_add tx (tx_lit (n := 1) (by decide) (by decide)) (by omega) fun z13 t13 => ?_)
  refine ok_okL (by simp) ?_
  refine ok_cat (by simp) ?_
  refine ok_lft asI_int (ok_lft slD_lst (ok_lft sqOf_lst ?_))
  refine ok_bnd (ok_of (by simp) (by simp)) fun x hx => ?_
  have ht : TX 50 x := by
    simp only [List.mem_append, List.mem_cons, List.not_mem_nil, or_false] at hx
    rcases hx with ((rfl | rfl | rfl | rfl | rfl | rfl | rfl | rfl) | (rfl | rfl | rfl | rfl | rfl | rfl | rfl | rfl | rfl)) | (rfl | rfl | rfl | rfl | rfl | rfl | rfl | rfl)
    all_goals first
      | exact TX.mono (by assumption) (by omega)
      | exact tx_lit (by decide) (by decide)
  obtain ⟨x, rfl, ox, lx⟩ := ht
  refine ok_okL (by simp) ?_
  refine ok_cat (by have := cutG_len (ls.map dS) none (some (i : Int)); simp at this ⊢; omega) ?_
  refine ok_lft addD_int (ok_lft asI_int (ok_lft slD_lst (ok_lft sqOf_lst ?_)))
  have e1 : cutG (ls.map dS) none (some (i : Int)) = (ls.take i).map dS := by rw [cutG_to, List.map_take]
  have e2 : cutG (ls.map dS) (some ((i : Int) + 1)) none = (ls.drop (i + 1)).map dS := by
    rw [show ((i : Int) + 1) = ((i + 1 : Nat) : Int) by omega, cutG_from, List.map_drop]
  rw [e1, e2]
  refine ok_cat (by simp; omega) ?_
  refine ok_ret ⟨ls.take i ++ [x] ++ ls.drop (i + 1), by simp, by simp; omega, fun l hl => ?_, ?_⟩
  · simp only [List.mem_append, List.mem_singleton] at hl
    rcases hl with (hl | rfl) | hl
    · have := hL l (List.mem_of_mem_take hl); exact ⟨this.1, by omega⟩
    · exact ⟨ox, lx⟩
    · have := hL l (List.mem_of_mem_drop hl); exact ⟨this.1, by omega⟩
  · have s1 := sum_le (fun l : List Nat => l.length) 15 (ls.take i) fun l hl => (hL l (List.mem_of_mem_take hl)).2
    have s2 := sum_le (fun l : List Nat => l.length) 15 (ls.drop (i + 1)) fun l hl => (hL l (List.mem_of_mem_drop hl)).2
    simp at s1 s2 ⊢
    omega
end Lk87

set_option Elab.async false
set_option linter.all false
set_option maxRecDepth 100000
set_option maxHeartbeats 4000000
namespace Lk87
open PySem L2 Py
open SX (S)
section
variable {β α : Type} {n m : Nat} {a b : D} {k : D → M Dl β} {Q : β → Prop}
theorem of_TX {n : Nat} {ys : List D} (h : ∀ y ∈ ys, TX n y) : ∃ as : List (List Nat), ys = as.map dS ∧ (∀ a ∈ as, okT a ∧ a.length ≤ n) ∧ as.length = ys.length :=
  of_all (f := dS) (P := fun a => okT a ∧ a.length ≤ n) ys h
theorem ok_joinS {c : Nat} {as : List (List Nat)} {N : Nat} (hc : c < 1114112) (h : ∀ a ∈ as, okT a) (hN : (as.map (·.length)).sum + as.length ≤ N) (hN2 : N ≤ 1000000) (hk : ∀ z, TX N z → Ok (k z) Q) : Ok (bnd (lft (joinD (S [c]) (.lst (as.map dS)))) k) Q := by
  refine ok_lft (joinD_S (by simp; omega)) (hk _ ⟨_, rfl, join_ok (fun x hx => by rw [List.mem_singleton.mp hx]; exact hc) _ h, ?_⟩)
  have := join_len [c] as
  simp at this hN
  omega
theorem ok_joinT {c : Nat} {as : List (List Nat)} {N : Nat} (hc : c < 1114112) (h : ∀ a ∈ as, okT a) (hN : (as.map (·.length)).sum + as.length ≤ N) (hN2 : N ≤ 1000000) (hk : ∀ z, TX N z → Ok (k z) Q) : Ok (bnd (lft (joinD (S [c]) (.tup (as.map dS)))) k) Q := by
  refine ok_lft (joinD_S1 (by simp; omega)) (hk _ ⟨_, rfl, join_ok (fun x hx => by rw [List.mem_singleton.mp hx]; exact hc) _ h, ?_⟩)
  have := join_len [c] as
  simp at this hN
  omega
theorem ok_join {c : Nat} {ys : List D} {N : Nat} (hc : c < 1114112) (h : ∀ y ∈ ys, TX n y) (hN : (n + 1) * ys.length ≤ N) (hN2 : N ≤ 1000000) (hk : ∀ z, TX N z → Ok (k z) Q) : Ok (bnd (lft (joinD (S [c]) (.lst ys))) k) Q := by
  obtain ⟨as, rfl, h1, h2⟩ := of_TX h
  have := sum_le (fun a : List Nat => a.length) n as fun a ha => (h1 a ha).2
  rw [Nat.add_mul] at hN
  rw [← h2] at hN
  exact ok_joinS hc (fun a ha => (h1 a ha).1) (by omega) hN2 hk
theorem ok_joinU {c : Nat} {ys : List D} {N : Nat} (hc : c < 1114112) (h : ∀ y ∈ ys, TX n y) (hN : (n + 1) * ys.length ≤ N) (hN2 : N ≤ 1000000) (hk : ∀ z, TX N z → Ok (k z) Q) : Ok (bnd (lft (joinD (S [c]) (.tup ys))) k) Q := by
  obtain ⟨as, rfl, h1, h2⟩ := of_TX h
  have := sum_le (fun a : List Nat => a.length) n as fun a ha => (h1 a ha).2
  rw [Nat.add_mul] at hN
  rw [← h2] at hN
  exact ok_joinT hc (fun a ha => (h1 a ha).1) (by omega) hN2 hk
theorem ok_join1 {xs : List D} {z : D} (h : ∀ y ∈ xs, TX 24 y) (hx : xs.length ≤ 13) (hz : TX 250 z) (hk : ∀ z, TX 640 z → Ok (k z) Q) : Ok (bnd (lft (joinD (S [10]) (.lst (xs ++ [z])))) k) Q := by
  obtain ⟨as, rfl, h1, h2⟩ := of_TX h
  obtain ⟨w, rfl, ow, lw⟩ := hz
  have := sum_le (fun a : List Nat => a.length) 24 as fun a ha => (h1 a ha).2
  rw [show as.map dS ++ [dS w] = (as ++ [w]).map dS by simp]
  refine ok_joinS (by decide) (fun a ha => ?_) (N := 640) (by simp at hx ⊢; omega) (by omega) hk
  rcases List.mem_append.mp ha with ha | ha
  · exact (h1 a ha).1
  · rw [List.mem_singleton.mp ha]; exact ow
theorem add_tup {xs ys : List D} (h : xs.length + ys.length ≤ 1000000) : addD (.tup xs) (.tup ys) = some (.tup (xs ++ ys)) := by
  have : xs.length + ys.length ≤ LIM := lim_of h
  simp [addD, addI, addS, addT, this]
theorem add_lst {xs ys : List D} (h : xs.length + ys.length ≤ 1000000) : addD (.lst xs) (.lst ys) = some (.lst (xs ++ ys)) := by
  have : xs.length + ys.length ≤ LIM := lim_of h
  simp [addD, addI, addS, addT, addL, this]
theorem ok_at {ds : List D} {i : Nat} (h : i < ds.length) (hk : ∀ d, d ∈ ds → Ok (k d) Q) : Ok (bnd (atM ds (.int (i : Nat))) k) Q :=
  ok_lft (atI_nat (List.getElem?_eq_getElem h)) (hk _ (List.getElem_mem h))
theorem ok_atl {ds : List D} (h : 0 < ds.length) (hk : ∀ d, d ∈ ds → Ok (k d) Q) : Ok (bnd (atM ds (.int (-1))) k) Q := by
  rcases List.eq_nil_or_concat ds with rfl | ⟨xs, v, rfl⟩
  · exact absurd h (by simp)
  · rw [List.concat_eq_append] at *
    exact ok_lft (atI_last xs v) (hk v (by simp))
theorem ok_put {xs : List D} {i : Nat} {d : D} {n : Nat} (h : ∀ x ∈ xs, TX n x) (hd : TX n d) (hi : i < xs.length) (hx : xs.length ≤ 1000) : Ok (_law_put_m (.tup xs) (.int (i : Nat)) d) fun y => ∃ ys, y = .tup ys ∧ ys.length ≤ xs.length ∧ ∀ y ∈ ys, TX n y := by
  unfold _law_put_m
  simp only [bnd_assoc, bnd_ret]
  have e2 : cutG xs (some ((i : Int) + 1)) none = xs.drop (i + 1) := by
    rw [show ((i : Int) + 1) = ((i + 1 : Nat) : Int) by omega, cutG_from]
  refine ok_lft asI_int (ok_lft slD_tup ?_)
  rw [cutG_to]
  refine ok_lft (mkT_ok (lim_of (by simp))) (ok_lft (add_tup (by simp; omega)) (ok_lft addD_int (ok_lft asI_int (ok_lft slD_tup ?_))))
  rw [e2]
  refine ok_lft1 (add_tup (by simp; omega)) ⟨_, rfl, by simp; omega, fun y hy => ?_⟩
  simp only [List.mem_append, List.mem_singleton] at hy
  rcases hy with (hy | rfl) | hy
  · exact h y (List.mem_of_mem_take hy)
  · exact hd
  · exact h y (List.mem_of_mem_drop hy)
theorem ok_forLn {k : D → β → M Dl β} {P : Nat → β → Prop} {N : Nat} : ∀ (ds : List D) (b : β) (j : Nat), (∀ d ∈ ds, ∀ b j, j < N → P j b → Ok (k d b) (P (j + 1))) → j + ds.length ≤ N → P j b → Ok (forL k ds b) (P (j + ds.length))
  | [], b, _, _, _, h => ok_ret h
  | d :: ds, b, j, hk, hl, h => ok_bnd (hk d List.mem_cons_self b j (by simp at hl; omega) h) fun b' h' => by
    have := ok_forLn ds b' (j + 1) (fun x hx => hk x (List.mem_cons_of_mem _ hx)) (by simp at hl; omega) h'
    rwa [show j + 1 + ds.length = j + (d :: ds).length by simp; omega] at this
end
theorem lcM_sums {ls : List (List Nat)} (h : ∀ l ∈ ls, okT l ∧ l.length ≤ 50) : lcM (fun v_row => bnd (_law_summed_m v_row) fun a22 => ret (some a22)) (ls.map dS) = (ret ((ls.map rowS).map dS) : M Dl _) :=
  lcM_strs _ fun l hl => by
    have := h l hl
    rw [law_summed_eq this.1 (by omega), bnd_ret]
def BT (j : Nat) (f : List D) : Prop := f.length ≤ 7 * j ∧ ∀ d ∈ f, TX 640 d
theorem ok_bent1 {n : List Nat} {p : Nat} {ps : List Nat} (h : Lf n p ps) {text : List Nat} (ht : okT text) (h0 : 0 < text.length) (h1 : text.length ≤ 310) {lines : List D} (hl : ∀ d ∈ lines, TX 24 d) (hl0 : 0 < lines.length) (hl1 : lines.length ≤ 13) (t : D) (f : List D) (j : Nat) (hj : j < 6) (hf : BT j f) :
    Ok (_law_bent_texts_l1 (.ptr 0) (dS n) (.int (p : Nat)) (.tup (ps.map dN)) (dS text) lines t f) (BT (j + 1)) := by
  obtain ⟨hf1, hf2⟩ := hf
  have tx : TX 310 (dS text) := ⟨_, rfl, ht, h1⟩
  unfold _law_bent_texts_l1
  simp only [bnd_assoc, bnd_ret]
  refine ok_lft (lenD_S (lim_of (by omega))) (ok_bnd (ok_any (by omega) (by omega)) fun d h => ?_)
  obtain ⟨i, rfl, hi⟩ := h
  refine ok_okL (by simp) (ok_bnd (ok_of (by simp) (by simp)) fun s hs => ?_)
  have ts : TX 1 s := by
    simp only [List.mem_cons, List.not_mem_nil, or_false] at hs
    rcases hs with rfl | rfl | rfl | rfl | rfl | rfl | rfl | rfl | rfl <;> exact tx_lit (by decide) (by decide)
  refine ok_lft asI_int (ok_sl tx (by omega) fun z1 t1 => ?_)
  refine ok_lft asI_int (ok_sl tx (by omega) fun z2 t2 => ok_add t2 ts (by omega) fun z3 t3 => ?_)
  refine ok_lft addD_int (ok_lft asI_int (ok_sl tx (by omega) fun z4 t4 => ok_add t3 t4 (by omega) fun z5 t5 => ?_))
  refine ok_lft asI_int (ok_sl tx (by omega) fun z6 t6 => ok_add t6 ts (by omega) fun z7 t7 => ?_)
  refine ok_lft asI_int (ok_sl tx (by omega) fun z8 t8 => ok_add t7 t8 (by omega) fun z9 t9 => ?_)
  refine ok_lft asI_int (ok_sl tx (by omega) fun z10 t10 => ?_)
  refine ok_lft addD_int (ok_lft asI_int (ok_sl tx (by omega) fun z11 t11 => ok_add t10 t11 (by omega) fun z12 t12 => ?_))
  refine ok_okL (by simp) (ok_cat (by simp; omega) ?_)
  refine ok_lft lenD_lst (ok_lft (a := .int (lines.length : Nat)) rfl (ok_bnd (ok_any (by omega) (by omega)) fun d h => ?_))
  obtain ⟨one, rfl, hone⟩ := h
  refine ok_lft lenD_lst (ok_lft (a := .int (lines.length : Nat)) rfl (ok_bnd (ok_any (by omega) (by omega)) fun d h => ?_))
  obtain ⟨other, rfl, hother⟩ := h
  refine ok_lft asS_str (ok_at (by omega) fun d hd => ?_)
  refine ok_bnd (ok_put hl (hl d hd) (by omega) (by omega)) fun y hy => ?_
  obtain ⟨ys, rfl, hy1, hy2⟩ := hy
  refine ok_joinU (N := 640) (c := 10) (by decide) hy2 (by omega) (by omega) fun z13 t13 => ?_
  refine ok_lft asS_str (ok_lft asI_int (ok_lft asI_int ?_))
  rw [cutG_to, cutG_from]
  refine ok_lft (add_lst (by simp; omega)) ?_
  refine ok_join (n := 24) (N := 640) (c := 10) (by decide) (fun y hy => ?_) (by simp; omega) (by omega) fun z14 t14 => ?_
  · rcases List.mem_append.mp hy with hy | hy
    · exact hl y (List.mem_of_mem_take hy)
    · exact hl y (List.mem_of_mem_drop hy)
  refine ok_okL (by simp) (ok_cat (by simp; omega) ?_)
  refine ok_lft asS_str (ok_bnd (ok_bent_lines h) fun d h => ?_)
  obtain ⟨ls, rfl, b1, b2, b3⟩ := h
  refine ok_lft seqOf_lst (ok_eq (lcM_sums b2) (ok_okL (by simp; omega) ?_))
  have hs := sum_le (fun l : List Nat => (rowS l).length - l.length) 9 ls fun l _ => by have := rowS_len l; omega
  have hs2 : ((ls.map rowS).map (·.length)).sum ≤ (ls.map (·.length)).sum + 9 * ls.length := by
    clear hs b1 b2 b3
    induction ls with
    | nil => simp
    | cons l r ih => have := rowS_len l; simp [Nat.mul_add] at ih ⊢; omega
  refine ok_joinS (N := 640) (c := 10) (by decide) (fun a ha => ?_) (by simp at hs2 ⊢; omega) (by omega) fun z15 t15 => ?_
  · obtain ⟨l, hl, rfl⟩ := List.mem_map.mp ha
    exact rowS_ok (b2 l hl).1
  unfold chk
  rw [if_pos (decide_eq_true (by show _ < 16777216; simp; omega))]
  refine ok_ret ⟨by simp; omega, fun d hd => ?_⟩
  simp only [List.mem_append, List.mem_cons, List.not_mem_nil, or_false] at hd
  rcases hd with ((hd | rfl | rfl | rfl | rfl) | rfl | rfl) | rfl
  · exact hf2 d hd
  all_goals exact TX.mono (by assumption) (by omega)
end Lk87

set_option Elab.async false
set_option linter.all false
set_option maxRecDepth 100000
set_option maxHeartbeats 4000000
namespace Lk87
open PySem L2 Py
open SX (S)
theorem sum_app (a b : List Nat) : (a ++ b).sum = a.sum + b.sum := by induction a <;> simp_all [Nat.add_assoc]
theorem ok_bent_texts {n : List Nat} {p : Nat} {ps : List Nat} (h : Lf n p ps) : Ok (_law_bent_texts_m (.ptr 0) (dS n) (.int (p : Nat)) (.tup (ps.map dN))) fun d => ∃ f, d = .lst f ∧ f.length ≤ 100 ∧ ∀ d ∈ f, TX 640 d := by
  have hc : (linesL n p ps).length ≤ 13 := by
    have := rowsL_len ps 0
    have := h.ln
    simp [linesL]; omega
  have hc0 : 0 < (linesL n p ps).length := by simp [linesL]
  have tl : ∀ d ∈ ((linesL n p ps).map rowS).map dS, TX 24 d := fun d hd => by
    obtain ⟨w, hw, rfl⟩ := List.mem_map.mp hd
    obtain ⟨l, hl, rfl⟩ := List.mem_map.mp hw
    have := lines_all h l hl
    have := rowS_len l
    exact ⟨_, rfl, rowS_ok (lines_all h l hl).1, by omega⟩
  have t0 : 0 < (textL n p ps).length := by
    rcases Nat.eq_zero_or_pos (textL n p ps).length with z | z
    · have e := text_split (p := p) (ps := ps) h.nm
      rw [List.eq_nil_of_length_eq_zero z] at e
      have e : [[]] = (linesL n p ps).map rowS := e
      have : ([] : List Nat) ∈ (linesL n p ps).map rowS := by rw [← e]; simp
      obtain ⟨l, _, hl⟩ := List.mem_map.mp this
      have := congrArg List.length hl
      simp [rowS] at this
    · exact z
  have to := text_ok h
  have tln := text_len h
  unfold _law_bent_texts_m
  simp only [bnd_assoc, bnd_ret]
  refine ok_eq (law_text_eq h) (ok_eq (law_lines_eq h) (ok_lft seqOf_lst (ok_eq (law_sums_eq h) (ok_lft (okL_sums h) (ok_lft (okL_ok (lim_of (by simp))) (ok_lft (rng_ok (n := 6) (by omega)) ?_))))))
  have hlen : (((linesL n p ps).map rowS).map dS).length = (linesL n p ps).length := by simp
  generalize ((linesL n p ps).map rowS).map dS = lines at tl hlen ⊢
  generalize textL n p ps = text at t0 to tln ⊢
  have tx : TX 310 (dS text) := ⟨_, rfl, to, tln⟩
  refine ok_bnd (ok_forLn (P := BT) (N := 6) _ [] 0 (fun d hd f j hj hf => ok_lft rfl (ok_bent1 h to t0 tln tl (by omega) (by omega) d f j hj hf)) (by simp) ⟨by simp, fun d hd => nomatch hd⟩) fun f hf => ?_
  obtain ⟨hf1, hf2⟩ := hf
  have hf1 : f.length ≤ 42 := by simpa using hf1
  refine ok_lft asS_str (ok_lft negD_int (ok_atl (by omega) fun d hd => ?_))
  obtain ⟨x, rfl, ox, lx⟩ := tl d hd
  refine ok_lft asS_str (ok_lft (splitD_S (b := [32]) (by decide) (by decide) (lim_of (by omega))) (ok_lft negD_int (ok_lft asI_int (ok_lft slD_lst ?_))))
  rw [show (-(1 : Int)) = -1 from rfl, cutG_butlast, ← List.map_dropLast]
  have s1 := spl_sum (b := [32]) x 0 []
  have s2 := (spl_count (b := [32]) x 0 []).1
  have s3 : ((TL.spl [32] 0 [] x).dropLast.map (·.length)).sum ≤ ((TL.spl [32] 0 [] x).map (·.length)).sum := by
    rw [List.dropLast_eq_take]
    conv => rhs; rw [← List.take_append_drop ((TL.spl [32] 0 [] x).length - 1) (TL.spl [32] 0 [] x)]
    rw [List.map_append, sum_app]; omega
  have s4 : (TL.spl [32] 0 [] x).dropLast.length ≤ (TL.spl [32] 0 [] x).length := by rw [List.length_dropLast]; omega
  simp only [List.length_nil, Nat.zero_add] at s1
  refine ok_joinS (N := 49) (c := 32) (by decide) (fun a ha => (spl_ok ox ((List.dropLast_sublist _).subset ha)).1) (by omega) (by omega) fun late tlate => ?_
  have lf : ∀ {lo hi : Option Int}, ∀ y ∈ cutG lines lo hi, TX 24 y := fun y hy => tl y (cutG_mem hy)
  have ll : ∀ {lo hi : Option Int}, (cutG lines lo hi).length ≤ 13 := fun {lo hi} => by have := cutG_len lines lo hi; omega
  refine ok_lft asS_str (ok_lft negD_int (ok_lft asI_int (ok_lft sqOf_lst ?_)))
  refine ok_add tlate (tx_lit (n := 2) (by decide) (by decide)) (by omega) fun z1 t1 => ?_
  refine ok_lft negD_int (ok_atl (by omega) fun d hd => ?_)
  have td := tl d hd
  obtain ⟨y, rfl, oy, ly⟩ := tlate
  refine ok_lft (lenD_S (lim_of (by omega))) (ok_lft addD_int (ok_lft asI_int (ok_sl td (by omega) fun z2 t2 => ok_add t1 t2 (by omega) fun z3 t3 => ?_)))
  refine ok_okL (by simp) (ok_cat (by have := @ll none (some (-1)); simp at this ⊢; omega) ?_)
  refine ok_join1 lf ll (TX.mono t3 (by omega)) fun z4 t4 => ?_
  refine ok_lft asS_str (ok_lft negD_int (ok_lft asI_int (ok_lft sqOf_lst ?_)))
  refine ok_okL (by simp) (ok_cat (by have := @ll none (some (-1)); simp at this ⊢; omega) ?_)
  refine ok_join1 lf ll (z := dS y) ⟨y, rfl, oy, by omega⟩ fun z5 t5 => ?_
  refine ok_okL (by simp) (ok_cat (by simp; omega) ?_)
  refine ok_add tx (tx_lit (n := 1) (by decide) (by decide)) (by omega) fun z6 t6 => ?_
  refine ok_add tx (tx_lit (n := 2) (by decide) (by decide)) (by omega) fun z7 t7 => ?_
  refine ok_add tx (tx_lit (n := 1) (by decide) (by decide)) (by omega) fun z8 t8 => ?_
  refine ok_add (tx_lit (n := 1) (by decide) (by decide)) tx (by omega) fun z9 t9 => ?_
  refine ok_add (tx_lit (n := 1) (by decide) (by decide)) tx (by omega) fun z10 t10 => ?_
  refine ok_add tx tx (by omega) fun z11 t11 => ?_
  refine ok_okL (by simp) (ok_cat (by simp; omega) ?_)
  refine ok_ret ⟨_, rfl, by simp; omega, fun d hd => ?_⟩
  simp only [List.mem_append, List.mem_cons, List.not_mem_nil, or_false] at hd
  rcases hd with (hd | rfl | rfl) | rfl | rfl | rfl | rfl | rfl | rfl | rfl
  · exact hf2 d hd
  all_goals first
    | exact TX.mono (by assumption) (by omega)
    | exact tx_lit (by decide) (by decide)
/-! ### the same -/
def pr (d : D) : D := .tup [d, d]
inductive Flat : D → Prop where
  | non : Flat .non
  | int (i : Int) : Flat (.int i)
  | str (a : List Nat) : Flat (dS a)
section
variable {γ : Type}
theorem kind_flat {d : D} (h : Flat d) : (_law_is_kind_m d d : M γ D) = ret (.bl true) := by
  unfold _law_is_kind_m
  cases h with
  | non => simp [isD, asB_bl]
  | int i => simp [isD, asB_bl, isiB, andM_eq, eqD_int]
  | str a => simp [isD, asB_bl, isiB, andM_eq, eqD_S]
theorem last_snoc (b : List D) (x : D) : lastD (b ++ [x]) = some x := by
  unfold lastD; simp
theorem same_flat {d : D} (h : Flat d) (b : List D) : (_law_same_l1 (b ++ [pr d]) : M γ (Lp (List D))) = ret (.go b) := by
  unfold _law_same_l1
  rw [last_snoc]
  have hk := kind_flat (γ := γ) h
  have h1 : isiB .tuple d = some false := by cases h <;> rfl
  have h2 : isi3 .tuple .list .dict d = some false := by cases h <;> rfl
  simp only [bnd_ret, lft_some, pr, un2, h1, h2, hk, Option.map_some, asB_bl, Bool.false_eq_true, if_false, Bool.not_true, List.dropLast_concat]
theorem zip_pr : ∀ ds : List D, zipD ds ds = ds.map pr
  | [] => rfl
  | d :: ds => congrArg (pr d :: ·) (zip_pr ds)
theorem same_tup {ds : List D} (b : List D) (h : b.length + ds.length ≤ 1000000) : (_law_same_l1 (b ++ [pr (.tup ds)]) : M γ (Lp (List D))) = ret (.go (b ++ ds.map pr)) := by
  unfold _law_same_l1
  rw [last_snoc]
  have hz : lzD (.tup ds) (.tup ds) = some (ds.map pr) := by
    show (if min ds.length ds.length ≤ LIM then some (zipD ds ds) else none) = _
    rw [if_pos (lim_of (by omega)), zip_pr]
  have hc : catQ (true, b) (true, ds.map pr) = some (b ++ ds.map pr) := by
    show (if true = true ∧ true = true ∧ b.length + (ds.map pr).length ≤ LIM then some (b ++ ds.map pr) else none) = _
    rw [if_pos ⟨rfl, rfl, lim_of (by simpa using h)⟩]
  simp only [bnd_ret, lft_some, pr, un2, isiB, Option.map_some, asB_bl, if_true, Bool.not_true, Bool.false_eq_true, if_false, lenD_tup, neD_int, decide_true, List.dropLast_concat]
  simp only [bnd_ret, lft_some, hz, hc]
def cnd (s : List D) : M γ Bool := bnd (bnd (bnd (bnd (bnd (ret (.lst s)) fun a47 => bnd (ret []) fun a48 => ret (a47 :: a48)) fun a49 => lft (lenD a49)) fun a50 => lft (sclD a50)) fun a51 => bnd (ret (.int 0)) fun a52 => lft (gtD a51 a52)) fun a53 => lft (asB a53)
theorem cnd_eq (s : List D) : (cnd s : M γ Bool) = ret (decide (0 < s.length)) := by
  unfold cnd
  simp only [bnd_ret, lft_some, lenD_lst, sclD, gtD_int, asB_bl]
  congr 1
  exact decide_eq_decide.mpr (by omega)
theorem wh_nil (n : Nat) : whM (γ := γ) cnd _law_same_l1 (n + 1) [] = ret (.go []) := by
  show bnd (cnd []) _ = _
  rw [cnd_eq, bnd_ret]; rfl
theorem wh_step {n : Nat} {b b' : List D} {x : D} (h : (_law_same_l1 (b ++ [x]) : M γ (Lp (List D))) = ret (.go b')) : whM (γ := γ) cnd _law_same_l1 (n + 1) (b ++ [x]) = whM cnd _law_same_l1 n b' := by
  show bnd (cnd (b ++ [x])) _ = _
  rw [cnd_eq, bnd_ret, if_pos (decide_eq_true (by simp)), h, bnd_ret]
theorem wh_flats (b : List D) : ∀ (k : Nat) (ds : List D) (n : Nat), ds.length = k → (∀ d ∈ ds, Flat d) → whM (γ := γ) cnd _law_same_l1 (n + k) (b ++ ds.map pr) = whM cnd _law_same_l1 n b
  | 0, ds, n, hk, _ => by rw [List.eq_nil_of_length_eq_zero hk]; simp
  | k + 1, ds, n, hk, h => by
    rcases List.eq_nil_or_concat ds with rfl | ⟨xs, v, rfl⟩
    · cases hk
    · rw [List.concat_eq_append] at *
      rw [List.map_append, ← List.append_assoc]
      show whM cnd _law_same_l1 ((n + k) + 1) ((b ++ xs.map pr) ++ [pr v]) = _
      rw [wh_step (same_flat (h v (by simp)) _)]
      exact wh_flats b k xs n (by simp at hk; exact hk) fun d hd => h d (by simp [hd])
def Good (d : D) : Prop := Flat d ∨ ∃ n p ps, d = leafD n p ps ∧ ps.length ≤ 1000
theorem wh_good {d : D} (h : Good d) (N : Nat) (hN : 5000 ≤ N) : whM (γ := γ) cnd _law_same_l1 N [pr d] = ret (.go []) := by
  rcases h with h | ⟨n, p, ps, rfl, hp⟩
  · obtain ⟨m, rfl⟩ : ∃ m, N = (m + 1) + 1 := ⟨N - 2, by omega⟩
    have := wh_step (γ := γ) (n := m + 1) (same_flat h [])
    exact this.trans (wh_nil m)
  · obtain ⟨m, rfl⟩ : ∃ m, N = (((m + 1) + 2) + ps.length + 1) + 1 := ⟨N - 5 - ps.length, by omega⟩
    have e1 := wh_step (γ := γ) (n := (((m + 1) + 2) + ps.length + 1)) (same_tup (ds := [dS n, .int (p : Nat), .tup (ps.map dN)]) [] (by simp))
    have e2 := wh_step (γ := γ) (n := ((m + 1) + 2) + ps.length) (same_tup (ds := ps.map dN) [pr (dS n), pr (.int (p : Nat))] (by simp; omega))
    have e3 := wh_flats (γ := γ) [pr (dS n), pr (.int (p : Nat))] ps.length (ps.map dN) ((m + 1) + 2) (by simp) fun d hd => by
      obtain ⟨q, _, rfl⟩ := List.mem_map.mp hd; exact .int _
    have e4 := wh_flats (γ := γ) [] 2 [dS n, .int (p : Nat)] (m + 1) rfl fun d hd => by
      simp only [List.mem_cons, List.not_mem_nil, or_false] at hd
      rcases hd with rfl | rfl
      · exact .str _
      · exact .int _
    exact e1.trans (e2.trans (e3.trans (e4.trans (wh_nil m))))
theorem same_good {d : D} (h : Good d) : (_law_same_m d d : M γ D) = ret (.bl true) := by
  have e := wh_good (γ := γ) h FUEL (by show 5000 ≤ 1000000000; omega)
  unfold _law_same_m
  have e1 : mkT [d, d] = some (pr d) := mkT_ok (lim_of (by simp))
  have e2 : okL [pr d] = some [pr d] := okL_ok (lim_of (by simp))
  rw [bnd_ret, bnd_ret]
  generalize FUEL = N at e ⊢
  simp only [bnd_ret, lft_some, e1, e2]
  have e' := congrArg (fun m : M γ (Lp (List D)) => bnd m (lpC (fun s45 => (ret (.bl true))) (fun d46 => ret d46))) e
  unfold cnd at e'
  simp only [bnd_ret] at e'
  exact e'
theorem all_good {xs : List D} (h : ∀ x ∈ xs, ∃ d, x = pr d ∧ Good d) : (_law_all_m (.lst xs) : M γ D) = ret (.bl true) := by
  unfold _law_all_m
  have e : lcM (fun d5 => bnd (lft (un2 d5)) fun p2 => bnd (bnd (bnd (bnd (ret p2.1) fun a6 => bnd (ret p2.2) fun a7 => _law_same_m a6 a7) fun a8 => lft (asB a8)) fun b9 => ret (!b9)) fun b4 => if b4 = true then bnd (ret p2.1) fun a3 => ret (some a3) else ret none) xs = (ret [] : M γ (List D)) := by
    rw [lcM_filt (p := fun _ => false) (h := id)]
    · rw [show xs.filter (fun _ => false) = [] from List.filter_eq_nil_iff.mpr (by simp)]; rfl
    · intro x hx
      obtain ⟨d, rfl, g⟩ := h x hx
      simp only [pr, un2, lft_some, bnd_ret, same_good g, asB_bl]
      rfl
  simp only [bnd_ret, lft_some, seqOf_lst] at e ⊢
  simp only [e, bnd_ret, lft_some, nil_lst, lenD_lst, eqD_int]
  rfl
end
end Lk87

set_option Elab.async false
set_option linter.all false
set_option maxRecDepth 100000
set_option maxHeartbeats 4000000
namespace Lk87
open PySem L2 Py
open SX (S)
theorem good_R {x : List Nat} (h : x.length ≤ 640) : Good (R x) := by
  unfold R
  have hc := (spl_count (b := [10]) x 0 []).1
  generalize TL.spl [10] 0 [] x = ls at hc ⊢
  cases ls with
  | nil => exact .inl .non
  | cons l ls =>
    show Good (match headO (wordsO (WT l)) with | none => D.non | some (n, p) => leafD n p (plc 0 ls))
    cases headO (wordsO (WT l)) with
    | none => exact .inl .non
    | some np =>
      have := plc_len ls 0
      exact .inr ⟨np.1, np.2, _, rfl, by simp at hc; omega⟩
def PP (xs : List D) : Prop := ∀ x ∈ xs, ∃ d, x = pr d ∧ Good d
theorem PP.app {a b : List D} (h : PP a) (h' : PP b) : PP (a ++ b) := fun x hx => (List.mem_append.mp hx).elim (h x) (h' x)
theorem pp_nil : PP [] := fun _ h => nomatch h
theorem pp_cons {d : D} {l : List D} (h : Good d) (h' : PP l) : PP (pr d :: l) := fun x hx => by
  rcases List.mem_cons.mp hx with rfl | hx
  · exact ⟨d, rfl, h⟩
  · exact h' x hx
theorem ok_chk {β : Type} {n : Nat} {m : M Dl β} {Q : β → Prop} (h : n ≤ 1000000) (hm : Ok m Q) : Ok (chk (decide (n < LIM)) m) Q := by
  unfold chk
  rw [if_pos (decide_eq_true (by show n < 16777216; omega))]
  exact hm
theorem mk2 (d : D) : mkT [d, d] = some (pr d) := mkT_ok (lim_of (by simp))
theorem ok_l2 {a b c e t : D} (f : List D) (ht : TX 640 t) (hf : f.length ≤ 100000) (hp : PP f) : Ok (law_l2 (.ptr 0) a b c e t f) fun g => g.length = f.length + 1 ∧ PP g := by
  obtain ⟨x, rfl, ox, lx⟩ := ht
  unfold law_l2
  simp only [bnd_assoc, bnd_ret]
  refine ok_eq (read_leaf_eq ox lx) (ok_eq (law_read_eq ox lx) (ok_lft (mk2 _) (ok_chk (by omega) (ok_ret ⟨by simp, hp.app (pp_cons (good_R lx) pp_nil)⟩))))
theorem ok_l1 (i : Int) (f : List D) (hf : f.length ≤ 10000) (hp : PP f) : Ok (law_l1 (.ptr 0) (.int i) f) fun g => g.length ≤ f.length + 200 ∧ PP g := by
  unfold law_l1
  simp only [bnd_assoc, bnd_ret]
  refine ok_bnd ok_leaf fun d h => ?_
  obtain ⟨n, p, ps, h, rfl⟩ := h
  have to := text_ok h
  have tl := text_len h
  have hn := (nm_len h.nm).2
  have hpl := num_len1 h.pa
  have hh := head_ok (p := p) h.nm
  have hhl := head_len h.nm h.pa
  have hrl := rowS_len (headL n p)
  have gl : Good (leafD n p ps) := .inr ⟨n, p, ps, rfl, by have := h.ln; omega⟩
  have m3 : ∀ l : List Nat, mkT [dS n, .int (p : Nat), .tup (l.map dN)] = some (leafD n p l) := fun l => mkT_ok (lim_of (by simp))
  refine ok_lft (a := (dS n, .int (p : Nat), .tup (ps.map dN))) rfl ?_
  dsimp only
  refine ok_lft eqD_int (ok_lft asB_bl ?_)
  refine ok_eq (a := dS (textL n p ps)) (by
    split
    · exact leaf_text_eq h
    · exact leaf_text_eq h) ?_
  refine ok_eq (law_text_eq h) (ok_lft (mk2 _) (ok_lft eqD_int (ok_lft asB_bl ?_)))
  refine ok_eq (a := leafD n p ps) (by
    have e : (read_leaf_m (dS (textL n p ps)) : M Dl D) = ret (leafD n p ps) := by rw [read_leaf_eq to (by omega), R_text h.nm]
    split
    · exact e
    · exact e) ?_
  refine ok_lft (m3 ps) (ok_lft (mk2 _) (ok_okL (by simp) (ok_cat (by simp; omega) ?_)))
  refine ok_bnd (ok_bent_texts h) fun d hd => ?_
  obtain ⟨ts, rfl, hts, htx⟩ := hd
  refine ok_lft seqOf_lst ?_
  refine ok_bnd (ok_forLn (P := fun j g => g.length = f.length + 2 + j ∧ PP g) (N := 200) ts _ 0 (fun d hd g j hj hg => ok_lft rfl (ok_mono (ok_l2 g (htx d hd) (by omega) hg.2) fun g' hg' => ⟨by omega, hg'.2⟩)) (by omega) ⟨by simp, hp.app (pp_cons (.inl (.str _)) (pp_cons gl pp_nil))⟩) fun g hg => ?_
  obtain ⟨hg1, hg2⟩ := hg
  have e1 : addD (D.str (Str.ofString "leaf ")) (dS n) = some (dS ([108, 101, 97, 102, 32] ++ n)) := by rw [s_leafb]; exact ad (by simp; omega)
  have e2 : addD (dS ([108, 101, 97, 102, 32] ++ n)) (D.str (Str.ofString " ")) = some (dS ([108, 101, 97, 102, 32] ++ n ++ [32])) := by rw [s_b]; exact ad (by simp; omega)
  have e3 : addD (dS ([108, 101, 97, 102, 32] ++ n ++ [32])) (dS (TL.numL p)) = some (dS (headL n p)) := by
    rw [ad (by simp; omega), headL_app]; simp [LEAF]
  refine ok_lft e1 (ok_lft e2 (ok_lft (str_N (by have := h.pa; omega)) (ok_lft e3 (ok_eq (law_summed_eq hh (by omega)) ?_))))
  refine ok_eq (a := leafD n p []) (by rw [read_leaf_eq (rowS_ok hh) (by omega), R_head h.nm]) ?_
  refine ok_lft (a := .tup []) rfl (ok_lft (m3 []) (ok_lft (mk2 _) ?_))
  refine ok_lft negD_int (ok_lft asI_int (ok_lft (slD_S (lim_of (by omega))) ?_))
  rw [show (-(1 : Int)) = -1 from rfl, cutG_butlast]
  refine ok_eq (a := .non) (by rw [read_leaf_eq (fun c hc => rowS_ok hh c ((List.dropLast_sublist _).subset hc)) (by rw [List.length_dropLast]; omega), R_cut h.nm]) (ok_lft (mk2 _) ?_)
  refine ok_lft asI_int (ok_lft slD_tup ?_)
  have hc1 : cutG (ps.map dN) none (some 1) = (ps.take 1).map dN := by rw [show (1 : Int) = ((1 : Nat) : Int) from rfl, cutG_to, List.map_take]
  rw [hc1]
  have h1 : Lf n p (ps.take 1) := ⟨h.nm, h.pa, fun q hq => h.pl q (List.mem_of_mem_take hq), by rw [List.length_take]; omega⟩
  have t1 := text_len h1
  refine ok_eq (leaf_text_eq h1) (ok_lft asS_str (ok_lft (splitD_S (b := [10]) (by decide) (by decide) (lim_of (by omega))) ?_))
  rw [text_split h.nm]
  refine ok_lft (a := dS (rowS (headL n p))) (ixD_lst (i := 0) rfl) (ok_lft (mk2 _) (ok_okL (by simp) (ok_cat (by simp; omega) ?_)))
  refine ok_lft (mkT_ok (lim_of (by simp))) (ok_okL (by simp) (ok_lft (m3 ps) (ok_okL (by simp) ?_)))
  have rleaf : R LEAF = .non := by
    have e : rf LEAF MK = -1 := by decide +kernel
    have w : WT LEAF = none := by unfold WT; rw [e]; rfl
    show (match headO (wordsO (WT LEAF)) with | none => D.non | some (n, p) => leafD n p (plc 0 [])) = _
    rw [w]; rfl
  refine ok_eq (lcM_all (h := fun _ => pr .non) _ fun d hd => ?_) ?_
  · have e : (read_leaf_m d : M Dl D) = ret .non := by
      simp only [List.mem_cons, List.not_mem_nil, or_false] at hd
      rcases hd with rfl | rfl | rfl | rfl | rfl | rfl | rfl
      · exact read_leaf_no rfl
      · exact read_leaf_no rfl
      · exact read_leaf_no rfl
      · exact read_leaf_no rfl
      · exact read_leaf_no rfl
      · exact read_leaf_no rfl
      · exact (read_leaf_eq (x := LEAF) (ok_const (by decide)) (by decide)).trans (by rw [rleaf])
    rw [e, bnd_ret, mk2]; rfl
  refine ok_okL (by simp) (ok_cat (by simp; omega) (ok_ret ⟨by simp; omega, ?_⟩))
  have gn : Good .non := .inl .non
  refine (hg2.app (pp_cons (.inr ⟨n, p, [], rfl, by simp⟩) (pp_cons gn (pp_cons (.inl (.str _)) pp_nil)))).app ?_
  simp only [List.map_cons, List.map_nil]
  exact pp_cons gn (pp_cons gn (pp_cons gn (pp_cons gn (pp_cons gn (pp_cons gn (pp_cons gn pp_nil))))))
def XT : List Nat := (Str.ofString "time 0 at 1 sum 5").cps.toList
theorem ok_lawP : Ok law_m fun d => d = .bl true := by
  unfold law_m
  simp only [bnd_assoc, bnd_ret]
  refine ok_lft (rng_ok (n := 4) (by omega)) ?_
  refine ok_bnd (ok_forLn (P := fun j g => g.length ≤ 200 * j ∧ PP g) (N := 4) _ [] 0 (fun d hd g j hj hg => ?_) (by simp) ⟨by simp, pp_nil⟩) fun g hg => ?_
  · obtain ⟨i, _, rfl⟩ := List.mem_map.mp hd
    exact ok_lft rfl (ok_mono (ok_l1 _ g (by omega) hg.2) fun g' hg' => ⟨by omega, hg'.2⟩)
  obtain ⟨hg1, hg2⟩ := hg
  have hg1 : g.length ≤ 800 := by simpa using hg1
  have hs : Lf [115, 117, 109] 1 [2, 1, 0] := ⟨by decide, by decide, by decide, by decide⟩
  have n0 := TL.numL_lt (n := 0) (by decide)
  have n1 := TL.numL_lt (n := 1) (by decide)
  have n2 := TL.numL_lt (n := 2) (by decide)
  have el : [D.str (Str.ofString "leaf sum 1"), D.str (Str.ofString "time 0 at 2"), D.str (Str.ofString "time 1 at 1"), D.str (Str.ofString "time 2 at 0")] = (linesL [115, 117, 109] 1 [2, 1, 0]).map dS := by
    simp only [linesL, rowsL, headL_app, rowL_app, n0, n1, n2]
    rfl
  have et : (leaf_text_m (D.str (Str.ofString "sum")) (D.int 1) (D.tup [D.int 2, D.int 1, D.int 0]) : M Dl D) = ret (dS (textL [115, 117, 109] 1 [2, 1, 0])) := leaf_text_eq hs
  refine ok_lft (a := D.tup [D.int 2, D.int 1, D.int 0]) (mkT_ok (lim_of (by simp))) (ok_eq et ?_)
  refine ok_lft asS_str (ok_okL (by simp) ?_)
  rw [el]
  refine ok_eq (law_sums_eq hs) (ok_lft (okL_sums hs) (ok_lft (join_rows hs) (ok_lft (mk2 _) (ok_chk (by omega) ?_))))
  have s1 : sumN [97] = 314 := by decide
  have s2 : sumN [97, 98] = 9832 := by decide
  refine ok_eq (a := .int 314) ((law_sum_eq (a := [97]) (ok_const (by decide))).trans (by rw [s1]; rfl)) (ok_lft (mk2 _) ?_)
  refine ok_eq (a := .int 9832) ((law_sum_eq (a := [97, 98]) (ok_const (by decide))).trans (by rw [s2]; rfl)) (ok_lft (mk2 _) ?_)
  have ha : isNm [97] = true := by decide
  have eh : D.str (Str.ofString "leaf a 0") = dS (headL [97] 0) := by rw [headL_app, n0]; rfl
  have lh := head_len (p := 0) ha (by decide)
  have lr := rowS_len (headL [97] 0)
  have lx := rowS_len XT
  have lxt : XT.length = 17 := by decide
  have oh := head_ok (p := 0) ha
  have ox : okT XT := ok_const (by decide)
  rw [eh]
  have a1 : addD (dS (rowS (headL [97] 0))) (D.str (Str.ofString "\n")) = some (dS (rowS (headL [97] 0) ++ [10])) := by rw [s_nl]; exact ad (by simp; omega)
  have a2 : addD (dS (rowS (headL [97] 0) ++ [10])) (dS (rowS XT)) = some (dS (rowS (headL [97] 0) ++ [10] ++ rowS XT)) := ad (by simp; omega)
  refine ok_eq (law_summed_eq oh (by omega)) (ok_lft a1 ?_)
  refine ok_eq (law_summed_eq (a := XT) ox (by omega)) (ok_lft a2 ?_)
  have rx : R (rowS (headL [97] 0) ++ [10] ++ rowS XT) = leafD [97] 0 [] := by
    have e : TL.spl [10] 0 [] (rowS (headL [97] 0) ++ [10] ++ rowS XT) = [rowS (headL [97] 0), rowS XT] := by
      rw [List.append_assoc]
      refine TL.spl_join (parts := [rowS (headL [97] 0), rowS XT]) (by simp) fun w hw => ?_
      simp only [List.mem_cons, List.not_mem_nil, or_false] at hw
      rcases hw with rfl | rfl
      · exact free_row (free_head ha)
      · exact free_row (by decide)
    have pl : placeO 0 (wordsO (WT (rowS XT))) = none := by
      rw [wt_row]
      exact placeO_ne (by show (TL.spl [32] 0 [] XT).length ≠ 4; decide +kernel)
    unfold R
    rw [e]
    show (match headO (wordsO (WT (rowS (headL [97] 0)))) with | none => D.non | some (n, p) => leafD n p (plc 0 [rowS XT])) = _
    rw [headO_head ha]
    show leafD [97] 0 (match placeO 0 (wordsO (WT (rowS XT))) with | none => [] | some p => p :: plc 1 []) = _
    rw [pl]
  refine ok_eq (a := leafD [97] 0 []) ((read_leaf_eq (okT_app (okT_app (rowS_ok oh) (ok_const (by decide))) (rowS_ok ox)) (by simp; omega)).trans (by rw [rx])) ?_
  refine ok_lft (a := .tup []) rfl (ok_lft (a := leafD [97] 0 []) (mkT_ok (lim_of (by simp))) (ok_lft (mk2 _) (ok_okL (by simp) (ok_cat (by simp; omega) ?_))))
  refine ok_cong (all_good ?_) (ok_ret rfl)
  exact (hg2.app (pp_cons (.inl (.str _)) pp_nil)).app (pp_cons (.inl (.int _)) (pp_cons (.inl (.int _)) (pp_cons (.inr ⟨[97], 0, [], rfl, by simp⟩) pp_nil)))
theorem law_pure (d : Dl) (h : okDl d) : ∃ d', law_m d = some (.bl true, d') := by
  obtain ⟨a, g', e, rfl⟩ := ok_lawP d
  exact ⟨g', e⟩
end Lk87

set_option Elab.async false
set_option linter.all false
set_option maxRecDepth 100000
set_option maxHeartbeats 4000000
namespace Lk87
open PySem L2 Py
def topS (i : Nat) : Stmt := PySem.Challenge.pw_downletsup_k87_leaves_as_texts_cut_and_b.main.body.getD i (.Pass ⟨0, 0, 0, 0⟩)
abbrev s__law_any : Stmt := topS 32
abbrev s__law_deal : Stmt := topS 31
theorem sc__law_any : FnScope ["deal", "bound", "rest"] ["deal", "bound"] (defScope s__law_any) := ⟨rfl, rfl, rfl, by decide +kernel, rfl, by decide +kernel, by decide +kernel⟩
theorem sc__law_deal : FnScope ["script", "salt", "most", "cell", "cells", "mix"] ["script", "salt"] (defScope s__law_deal) := ⟨rfl, rfl, rfl, by decide +kernel, rfl, by decide +kernel, by decide +kernel⟩
abbrev s_is_name : Stmt := topS 5
theorem sc_is_name : FnScope ["value", "sign"] ["value"] (defScope s_is_name) := ⟨rfl, rfl, rfl, by decide +kernel, rfl, by decide +kernel, by decide +kernel⟩
abbrev s_are_figures : Stmt := topS 6
theorem sc_are_figures : FnScope ["text", "sign"] ["text"] (defScope s_are_figures) := ⟨rfl, rfl, rfl, by decide +kernel, rfl, by decide +kernel, by decide +kernel⟩
abbrev s_number_of : Stmt := topS 7
theorem sc_number_of : FnScope ["text"] ["text"] (defScope s_number_of) := ⟨rfl, rfl, rfl, by decide +kernel, rfl, by decide +kernel, by decide +kernel⟩
abbrev s_sum_of : Stmt := topS 15
theorem sc_sum_of : FnScope ["text", "found", "sign"] ["text"] (defScope s_sum_of) := ⟨rfl, rfl, rfl, by decide +kernel, rfl, by decide +kernel, by decide +kernel⟩
abbrev s_summed : Stmt := topS 16
theorem sc_summed : FnScope ["text"] ["text"] (defScope s_summed) := ⟨rfl, rfl, rfl, by decide +kernel, rfl, by decide +kernel, by decide +kernel⟩
abbrev s_whole_text : Stmt := topS 17
theorem sc_whole_text : FnScope ["line", "at", "ahead", "behind"] ["line"] (defScope s_whole_text) := ⟨rfl, rfl, rfl, by decide +kernel, rfl, by decide +kernel, by decide +kernel⟩
abbrev s_leaf_text : Stmt := topS 25
theorem sc_leaf_text : FnScope ["name", "party", "leaf", "rows", "row", "time", "place"] ["name", "party", "leaf"] (defScope s_leaf_text) := ⟨rfl, rfl, rfl, by decide +kernel, rfl, by decide +kernel, by decide +kernel⟩
abbrev s_head_of : Stmt := topS 26
theorem sc_head_of : FnScope ["line", "text", "words"] ["line"] (defScope s_head_of) := ⟨rfl, rfl, rfl, by decide +kernel, rfl, by decide +kernel, by decide +kernel⟩
abbrev s_place_in : Stmt := topS 27
theorem sc_place_in : FnScope ["line", "time", "text", "words"] ["line", "time"] (defScope s_place_in) := ⟨rfl, rfl, rfl, by decide +kernel, rfl, by decide +kernel, by decide +kernel⟩
abbrev s_places_in : Stmt := topS 28
theorem sc_places_in : FnScope ["lines", "found", "time", "line", "place"] ["lines"] (defScope s_places_in) := ⟨rfl, rfl, rfl, by decide +kernel, rfl, by decide +kernel, by decide +kernel⟩
abbrev s_read_leaf : Stmt := topS 29
theorem sc_read_leaf : FnScope ["text", "lines", "head"] ["text"] (defScope s_read_leaf) := ⟨rfl, rfl, rfl, by decide +kernel, rfl, by decide +kernel, by decide +kernel⟩
abbrev s__law_of : Stmt := topS 33
theorem sc__law_of : FnScope ["deal", "some"] ["deal", "some"] (defScope s__law_of) := ⟨rfl, rfl, rfl, by decide +kernel, rfl, by decide +kernel, by decide +kernel⟩
abbrev s__law_is_kind : Stmt := topS 34
theorem sc__law_is_kind : FnScope ["told", "due"] ["told", "due"] (defScope s__law_is_kind) := ⟨rfl, rfl, rfl, by decide +kernel, rfl, by decide +kernel, by decide +kernel⟩
abbrev s__law_same : Stmt := topS 35
theorem sc__law_same : FnScope ["told", "due", "todo", "one", "other"] ["told", "due"] (defScope s__law_same) := ⟨rfl, rfl, rfl, by decide +kernel, rfl, by decide +kernel, by decide +kernel⟩
abbrev s__law_all : Stmt := topS 36
theorem sc__law_all : FnScope ["pairs", "told", "due"] ["pairs"] (defScope s__law_all) := ⟨rfl, rfl, rfl, by decide +kernel, rfl, by decide +kernel, by decide +kernel⟩
abbrev s__law_put : Stmt := topS 37
theorem sc__law_put : FnScope ["row", "at", "thing"] ["row", "at", "thing"] (defScope s__law_put) := ⟨rfl, rfl, rfl, by decide +kernel, rfl, by decide +kernel, by decide +kernel⟩
abbrev s__law_sum : Stmt := topS 38
theorem sc__law_sum : FnScope ["text", "found", "sign"] ["text"] (defScope s__law_sum) := ⟨rfl, rfl, rfl, by decide +kernel, rfl, by decide +kernel, by decide +kernel⟩
abbrev s__law_summed : Stmt := topS 39
theorem sc__law_summed : FnScope ["text"] ["text"] (defScope s__law_summed) := ⟨rfl, rfl, rfl, by decide +kernel, rfl, by decide +kernel, by decide +kernel⟩
abbrev s__law_leaf_lines : Stmt := topS 40
theorem sc__law_leaf_lines : FnScope ["name", "party", "leaf", "time", "place"] ["name", "party", "leaf"] (defScope s__law_leaf_lines) := ⟨rfl, rfl, rfl, by decide +kernel, rfl, by decide +kernel, by decide +kernel⟩
abbrev s__law_leaf_text : Stmt := topS 41
theorem sc__law_leaf_text : FnScope ["name", "party", "leaf", "line"] ["name", "party", "leaf"] (defScope s__law_leaf_text) := ⟨rfl, rfl, rfl, by decide +kernel, rfl, by decide +kernel, by decide +kernel⟩
abbrev s__law_is_number_text : Stmt := topS 42
theorem sc__law_is_number_text : FnScope ["text", "sign"] ["text"] (defScope s__law_is_number_text) := ⟨rfl, rfl, rfl, by decide +kernel, rfl, by decide +kernel, by decide +kernel⟩
abbrev s__law_is_name_text : Stmt := topS 43
theorem sc__law_is_name_text : FnScope ["text", "sign"] ["text"] (defScope s__law_is_name_text) := ⟨rfl, rfl, rfl, by decide +kernel, rfl, by decide +kernel, by decide +kernel⟩
abbrev s__law_words : Stmt := topS 44
theorem sc__law_words : FnScope ["line", "at"] ["line"] (defScope s__law_words) := ⟨rfl, rfl, rfl, by decide +kernel, rfl, by decide +kernel, by decide +kernel⟩
abbrev s__law_read : Stmt := topS 45
theorem sc__law_read : FnScope ["text", "lines", "time", "words", "found", "late"] ["text"] (defScope s__law_read) := ⟨rfl, rfl, rfl, by decide +kernel, rfl, by decide +kernel, by decide +kernel⟩
abbrev s__law_letters : Stmt := topS 46
theorem sc__law_letters : FnScope ["deal", "turn"] ["deal"] (defScope s__law_letters) := ⟨rfl, rfl, rfl, by decide +kernel, rfl, by decide +kernel, by decide +kernel⟩
abbrev s__law_leaf : Stmt := topS 47
theorem sc__law_leaf : FnScope ["deal", "places", "turn"] ["deal"] (defScope s__law_leaf) := ⟨rfl, rfl, rfl, by decide +kernel, rfl, by decide +kernel, by decide +kernel⟩
abbrev s__law_bent_lines : Stmt := topS 48
theorem sc__law_bent_lines : FnScope ["deal", "name", "party", "leaf", "lines", "at", "some"] ["deal", "name", "party", "leaf"] (defScope s__law_bent_lines) := ⟨rfl, rfl, rfl, by decide +kernel, rfl, by decide +kernel, by decide +kernel⟩
abbrev s__law_bent_texts : Stmt := topS 49
theorem sc__law_bent_texts : FnScope ["deal", "name", "party", "leaf", "found", "turn", "late", "text", "lines", "at", "sign", "one", "other", "line"] ["deal", "name", "party", "leaf"] (defScope s__law_bent_texts) := ⟨rfl, rfl, rfl, by decide +kernel, rfl, by decide +kernel, by decide +kernel⟩
abbrev s_law : Stmt := topS 50
theorem sc_law : FnScope ["script", "turn", "deal", "pairs", "told", "text", "head", "name", "party", "leaf", "value", "line"] ["script"] (defScope s_law) := ⟨rfl, rfl, rfl, by decide +kernel, rfl, by decide +kernel, by decide +kernel⟩
/-- the names of the module -/
structure Ctx (K : PySem.W.Frag) (mg : Str → Option Value) : Prop where
  f__law_any : ∃ fa fd, mg "_law_any" = some (.ref fa) ∧ Fun K "_law_any" "_law_any" s__law_any fa fd
  f__law_deal : ∃ fa fd, mg "_law_deal" = some (.ref fa) ∧ Fun K "_law_deal" "_law_deal" s__law_deal fa fd
  f_is_name : ∃ fa fd, mg "is_name" = some (.ref fa) ∧ Fun K "is_name" "is_name" s_is_name fa fd
  f_are_figures : ∃ fa fd, mg "are_figures" = some (.ref fa) ∧ Fun K "are_figures" "are_figures" s_are_figures fa fd
  f_number_of : ∃ fa fd, mg "number_of" = some (.ref fa) ∧ Fun K "number_of" "number_of" s_number_of fa fd
  f_sum_of : ∃ fa fd, mg "sum_of" = some (.ref fa) ∧ Fun K "sum_of" "sum_of" s_sum_of fa fd
  f_summed : ∃ fa fd, mg "summed" = some (.ref fa) ∧ Fun K "summed" "summed" s_summed fa fd
  f_whole_text : ∃ fa fd, mg "whole_text" = some (.ref fa) ∧ Fun K "whole_text" "whole_text" s_whole_text fa fd
  f_leaf_text : ∃ fa fd, mg "leaf_text" = some (.ref fa) ∧ Fun K "leaf_text" "leaf_text" s_leaf_text fa fd
  f_head_of : ∃ fa fd, mg "head_of" = some (.ref fa) ∧ Fun K "head_of" "head_of" s_head_of fa fd
  f_place_in : ∃ fa fd, mg "place_in" = some (.ref fa) ∧ Fun K "place_in" "place_in" s_place_in fa fd
  f_places_in : ∃ fa fd, mg "places_in" = some (.ref fa) ∧ Fun K "places_in" "places_in" s_places_in fa fd
  f_read_leaf : ∃ fa fd, mg "read_leaf" = some (.ref fa) ∧ Fun K "read_leaf" "read_leaf" s_read_leaf fa fd
  f__law_of : ∃ fa fd, mg "_law_of" = some (.ref fa) ∧ Fun K "_law_of" "_law_of" s__law_of fa fd
  f__law_is_kind : ∃ fa fd, mg "_law_is_kind" = some (.ref fa) ∧ Fun K "_law_is_kind" "_law_is_kind" s__law_is_kind fa fd
  f__law_same : ∃ fa fd, mg "_law_same" = some (.ref fa) ∧ Fun K "_law_same" "_law_same" s__law_same fa fd
  f__law_all : ∃ fa fd, mg "_law_all" = some (.ref fa) ∧ Fun K "_law_all" "_law_all" s__law_all fa fd
  f__law_put : ∃ fa fd, mg "_law_put" = some (.ref fa) ∧ Fun K "_law_put" "_law_put" s__law_put fa fd
  f__law_sum : ∃ fa fd, mg "_law_sum" = some (.ref fa) ∧ Fun K "_law_sum" "_law_sum" s__law_sum fa fd
  f__law_summed : ∃ fa fd, mg "_law_summed" = some (.ref fa) ∧ Fun K "_law_summed" "_law_summed" s__law_summed fa fd
  f__law_leaf_lines : ∃ fa fd, mg "_law_leaf_lines" = some (.ref fa) ∧ Fun K "_law_leaf_lines" "_law_leaf_lines" s__law_leaf_lines fa fd
  f__law_leaf_text : ∃ fa fd, mg "_law_leaf_text" = some (.ref fa) ∧ Fun K "_law_leaf_text" "_law_leaf_text" s__law_leaf_text fa fd
  f__law_is_number_text : ∃ fa fd, mg "_law_is_number_text" = some (.ref fa) ∧ Fun K "_law_is_number_text" "_law_is_number_text" s__law_is_number_text fa fd
  f__law_is_name_text : ∃ fa fd, mg "_law_is_name_text" = some (.ref fa) ∧ Fun K "_law_is_name_text" "_law_is_name_text" s__law_is_name_text fa fd
  f__law_words : ∃ fa fd, mg "_law_words" = some (.ref fa) ∧ Fun K "_law_words" "_law_words" s__law_words fa fd
  f__law_read : ∃ fa fd, mg "_law_read" = some (.ref fa) ∧ Fun K "_law_read" "_law_read" s__law_read fa fd
  f__law_letters : ∃ fa fd, mg "_law_letters" = some (.ref fa) ∧ Fun K "_law_letters" "_law_letters" s__law_letters fa fd
  f__law_leaf : ∃ fa fd, mg "_law_leaf" = some (.ref fa) ∧ Fun K "_law_leaf" "_law_leaf" s__law_leaf fa fd
  f__law_bent_lines : ∃ fa fd, mg "_law_bent_lines" = some (.ref fa) ∧ Fun K "_law_bent_lines" "_law_bent_lines" s__law_bent_lines fa fd
  f__law_bent_texts : ∃ fa fd, mg "_law_bent_texts" = some (.ref fa) ∧ Fun K "_law_bent_texts" "_law_bent_texts" s__law_bent_texts fa fd
  f_law : ∃ fa fd, mg "law" = some (.ref fa) ∧ Fun K "law" "law" s_law fa fd
  c_AT : ∃ u, mg "AT" = some u ∧ RelV (.str "at") u
  c_BEGIN : ∃ u, mg "BEGIN" = some u ∧ RelV (.int 7) u
  c_BLANK_leafsums : ∃ u, mg "BLANK_leafsums" = some u ∧ RelV (.str " ") u
  c_BLANK_leaftext : ∃ u, mg "BLANK_leaftext" = some u ∧ RelV (.str " ") u
  c_FIGURES : ∃ u, mg "FIGURES" = some u ∧ RelV (.str "0123456789") u
  c_HEAD : ∃ u, mg "HEAD" = some u ∧ RelV (.str "leaf") u
  c_HEAD_WORDS : ∃ u, mg "HEAD_WORDS" = some u ∧ RelV (.int 3) u
  c_MARK : ∃ u, mg "MARK" = some u ∧ RelV (.str " sum") u
  c_MOST_FIGURES : ∃ u, mg "MOST_FIGURES" = some u ∧ RelV (.int 4000) u
  c_MOST_SIGNS : ∃ u, mg "MOST_SIGNS" = some u ∧ RelV (.int 8) u
  c_MOST_SUM_FIGURES : ∃ u, mg "MOST_SUM_FIGURES" = some u ∧ RelV (.int 4) u
  c_PRIME : ∃ u, mg "PRIME" = some u ∧ RelV (.int 9973) u
  c_SMALL : ∃ u, mg "SMALL" = some u ∧ RelV (.str "abcdefghijklmnopqrstuvwxyz") u
  c_TIME : ∃ u, mg "TIME" = some u ∧ RelV (.str "time") u
  c_TIMES : ∃ u, mg "TIMES" = some u ∧ RelV (.int 31) u
  c_TIME_WORDS : ∃ u, mg "TIME_WORDS" = some u ∧ RelV (.int 4) u
  z_abs : mg "abs" = none
  z_bool : mg "bool" = none
  z_dict : mg "dict" = none
  z_enumerate : mg "enumerate" = none
  z_int : mg "int" = none
  z_isinstance : mg "isinstance" = none
  z_len : mg "len" = none
  z_list : mg "list" = none
  z_ord : mg "ord" = none
  z_range : mg "range" = none
  z_str : mg "str" = none
  z_tuple : mg "tuple" = none
  z_zip : mg "zip" = none
section
variable {P : Program} {w : World} {K : PySem.W.Frag} {mg : Str → Option Value} {base : Heap}
theorem gk__law_any (C : Ctx K mg) {cl : Nat → Option Addr} : ∃ fa fd, mg "_law_any" = some (.ref fa) ∧ Fun K "_law_any" "_law_any" s__law_any fa fd ∧ FnOk P w K mg base CX0 1 fa fd ["deal", "bound"] (spU K cl 2 (A2 any_m)) := by
  obtain ⟨fa, fd, hm, Fn0⟩ := C.f__law_any
  refine ⟨fa, fd, hm, Fn0, Fn0.ok sc__law_any spU_len (fun cdv A outer s H vs Q E hr h => ⟨_, ?_, any_sem h⟩)⟩
  exact (pss_cons (ps_while PassesOwn.never (pw_and (pt_cmpR op_gt (pe_callB (kLen (K := K)) (by rfl) C.z_len bt_len (pa_cons (pe_ix ix_list (pv 0) pe_int (fun _ _ => rfl)) pa_nil)) pe_int (nomark _)) (pw_and1 (pt_cmpR op_eq (pe_ix ix_list (pe_ix ix_list (pv 0) pe_int (fun _ _ => rfl)) (pe_un un_neg pe_int) (fun _ _ => rfl)) pe_int (nomark _)))).pt (pss_one (ps_expr (kBm0 (K := K) F.plainAttrs_list F.slot_list_pop F.type_list_pop mt_pop (pe_ix ix_list (pv 0) pe_int (fun _ _ => rfl))))))
    (pss_cons (ps_if (pt_cmpR op_gt (pe_callB (kLen (K := K)) (by rfl) C.z_len bt_len (pa_cons (pe_ix ix_list (pv 0) pe_int (fun _ _ => rfl)) pa_nil)) pe_int (nomark _))
      (pss_cons (ps_set (i := 2) sc__law_any.nd rfl (.inl rfl) (pe_callTy clInt (by rfl) C.z_int bt_int (pa_cons (kBm0 (K := K) F.plainAttrs_list F.slot_list_pop F.type_list_pop mt_pop (pe_ix ix_list (pv 0) pe_int (fun _ _ => rfl))) pa_nil)))
        (pss_cons (ps_expr (kBm (K := K) F.plainAttrs_list F.slot_list_append F.type_list_append mt_append (pe_ix ix_list (pv 0) pe_int (fun _ _ => rfl)) (pa_cons (pe_op op_fdivW (pv 2) (pv 1)) pa_nil))) (pss_one (ps_ret (pe_op op_mod (pv 2) (pv 1)))))) pss_nil)
    (pss_cons (ps_asg (pe_op op_mod (pe_callTy clInt (by rfl) C.z_int bt_int (pa_cons (pe_op op_add (pe_op op_mulW (pe_ix ix_list (pv 0) pe_int (fun _ _ => rfl)) pe_int) pe_int) pa_nil)) pe_int) (pg_sub (pv 0) pe_int set_list))
      (pss_one (ps_ret (pe_op op_mod (pe_callTy clInt (by rfl) C.z_int bt_int (pa_cons (pe_op op_fdivW (pe_ix ix_list (pv 0) pe_int (fun _ _ => rfl)) pe_int) pa_nil)) (pv 1)))))))
theorem gf__law_any (C : Ctx K mg) {cl : Nat → Option Addr} : GU P w K mg base cl "_law_any" 1 ["deal", "bound"] (A2 any_m) := by
  obtain ⟨fa, fd, hm, F, h⟩ := gk__law_any (P := P) (w := w) (base := base) C (cl := cl)
  exact ⟨fa, fd, hm, F.kp, F.binds (fun _ _ _ _ _ _ us hl => match us, hl with | [_, _], _ => rfl), h⟩
theorem gk__law_deal (C : Ctx K mg) : ∃ fa fd, mg "_law_deal" = some (.ref fa) ∧ Fun K "_law_deal" "_law_deal" s__law_deal fa fd ∧ FnOk P w K mg base CX0 1 fa fd ["script", "salt"] (spDeal K) := by
  obtain ⟨fa, fd, hm, Fn0⟩ := C.f__law_deal
  refine ⟨fa, fd, hm, Fn0, Fn0.ok sc__law_deal (fun vs H Q E h => by obtain ⟨p, ns, sl, rfl, _⟩ := h; rfl) (fun cdv A outer s H vs Q E hr h => ?_)⟩
  refine ⟨_, (pss_cons (ps_set (i := 2) sc__law_deal.nd rfl (by first | exact .inl rfl | exact .inr rfl) (pe_op opMul (pe_op opMul (pe_op opMul (pe_op opMul (pe_op opMul (pe_op op_pow pe_int pe_int) (pe_op op_pow pe_int pe_int)) (pe_op op_pow pe_int pe_int)) (pe_op op_pow pe_int pe_int)) (pe_op op_pow pe_int pe_int)) (pe_op op_pow pe_int pe_int))) (pss_cons (ps_par (i := 4) (j := 5) rfl sc__law_deal.nd rfl rfl (by decide) rfl rfl (pa_cons (pe_lc rfl sc__law_deal.nd (kSrc (K := K) (pe_slice (kSl (K := K)) (pv 0) po_none (po_some pe_int))) (blkOk_by (own := [("cell", 3)]) (by rfl)) (fun _ _ _ _ _ => (pg_name (i := 3) sc__law_deal.nd rfl (by first | exact .inl rfl | exact .inr rfl))) (fun _ _ _ _ _ => pts_nil) (fun _ _ _ _ _ => (pe_op op_mod (pe_callTy clInt (by rfl) C.z_int bt_int (pa_cons (pe_callB call_abs (by rfl) C.z_abs bt_abs (pa_cons (pe_callTy clInt (by rfl) C.z_int bt_int (pa_cons (pv 3) pa_nil)) pa_nil)) pa_nil)) (pv 2)))) (pa_cons (pe_op (oAdd (K := K)) pe_int (pe_op opMul pe_int (pv 1))) pa_nil)) rfl) (pss_cons (ps_for PassesOwn.never rfl (kSrc (K := K) (pv 4)) (pg_name (i := 3) sc__law_deal.nd rfl (by first | exact .inl rfl | exact .inr rfl)) (pss_one (ps_set (i := 5) sc__law_deal.nd rfl (by first | exact .inl rfl | exact .inr rfl) (pe_op op_mod (pe_callTy clInt (by rfl) C.z_int bt_int (pa_cons (pe_op (oAdd (K := K)) (pe_op (oAdd (K := K)) (pe_op opMul (pv 5) pe_int) (pe_op op_mod (pe_callTy clInt (by rfl) C.z_int bt_int (pa_cons (pv 3) pa_nil)) pe_int)) pe_int) pa_nil)) pe_int)))) (pss_one (ps_ret (pe_lst (pa_cons (kRev (K := K) (pe_lc rfl sc__law_deal.nd (kSrc (K := K) (pv 4)) (blkOk_by (own := [("cell", 3)]) (by rfl)) (fun _ _ _ _ _ => (pg_name (i := 3) sc__law_deal.nd rfl (by first | exact .inl rfl | exact .inr rfl))) (fun _ _ _ _ _ => (pts_one (pt_cmpR opGe (pv 3) (pe_op op_pow pe_int pe_int) (nomark _)))) (fun _ _ _ _ _ => (pv 3)))) (pa_cons (pv 5) pa_nil)))))))), seq3 (deal_run (E := fun c => [.no, .no, .no, .no, .val (.lst c.1), .val c.2]) (m1 := deal1_m) (m2 := deal2_m) rfl (fun p H0 ns sl hsq hl => ?_) (fun p H0 c => ?_) (fun _ => rfl) deal_pure h)⟩
  · unfold deal1_m
    exact (eb_seq (eb_asg (i := 2) (ev_op okMul (ev_op okMul (ev_op okMul (ev_op okMul (ev_op okMul (ev_op okPow ev_int ev_int) (ev_op okPow ev_int ev_int)) (ev_op okPow ev_int ev_int)) (ev_op okPow ev_int ev_int)) (ev_op okPow ev_int ev_int)) (ev_op okPow ev_int ev_int)) (fun v_most_23 => (eb_at [.val (.ptr 0), .val (.int sl), .val v_most_23, .no, .no, .no] (eb_seq (eb_parND (i := 4) (j := 5) (en_lc (ei_src (es_new (en_script hsq hl rfl))) (ek_1 (by decide) (fun v_cell_24 => (ev_op okMod (ev_cb okInt (ea_cons (ev_cb okAbs (ea_cons (ev_cb okInt (ea_cons (ev_var (i := 3) rfl) ea_nil)) ea_nil)) ea_nil)) (ev_var (i := 2) rfl))))) (ev_op okAdd ev_int (ev_op okMul ev_int (ev_var (i := 1) rfl))) (by decide) (fun v_cells_45 v_mix_46 => (eb_at [.val (.ptr 0), .val (.int sl), .val v_most_23, .no, .own (.lst v_cells_45), .val v_mix_46] (eb_frz (i := 4) rfl (eb_at [.val (.ptr 0), .val (.int sl), .val v_most_23, .no, .val (.lst v_cells_45), .val v_mix_46] (eb_for (gh := ghS p H0) (T := tb K (fun _ => none) (ptd p)) (k := (fun p48 s66 => _law_deal_l1 (.lst v_cells_45) p48 s66)) (fun (s66 : D) => [.val (.ptr 0), .val (.int sl), .val v_most_23, .no, .val (.lst v_cells_45), .val s66]) v_mix_46 (ei_src (es_val (ev_var (i := 4) rfl))) (Wk.eq (Wk.eq (Wk.eq (Wk.no (Wk.eq (Wk.eq Wk.nil)))))) (fun _ => (eg_1 (i := 3))) (fun s66 p48 => by unfold _law_deal_l1; exact (eb_at [.val (.ptr 0), .val (.int sl), .val v_most_23, .val p48, .val (.lst v_cells_45), .val s66] (eb_asg (i := 5) (ev_op okMod (ev_cb okInt (ea_cons (ev_op okAdd (ev_op okAdd (ev_op okMul (ev_var (i := 5) rfl) ev_int) (ev_op okMod (ev_cb okInt (ea_cons (ev_var (i := 3) rfl) ea_nil)) ev_int)) ev_int) ea_nil)) ev_int) (fun v_mix_85 => ⟨v_mix_85, (Wk.eq (Wk.eq (Wk.eq (Wk.no (Wk.eq (Wk.eq Wk.nil)))))), rfl⟩)))) (fun s66 => ⟨(v_cells_45, s66), (Wk.no (Wk.no (Wk.no (Wk.no (Wk.eq (Wk.eq Wk.nil)))))), rfl⟩))))))))))))
  · unfold deal2_m
    exact (en_rev (eq_new (en_lc (ei_src (es_val (ev_var (i := 4) rfl))) (ek_1f (by decide) (fun v_cell_87 => (et_test (ev_op okGe (ev_var (i := 3) rfl) (ev_op okPow ev_int ev_int)))) (fun v_cell_87 => (ev_var (i := 3) rfl))))))
theorem gk_is_name (C : Ctx K mg) {cl : Nat → Option Addr} : ∃ fa fd, mg "is_name" = some (.ref fa) ∧ Fun K "is_name" "is_name" s_is_name fa fd ∧ FnOk P w K mg base CX0 1 fa fd ["value"] (spU K cl 1 (A1 is_name_m)) := by
  obtain ⟨fa, fd, hm, Fn0⟩ := C.f_is_name
  refine ⟨fa, fd, hm, Fn0, Fn0.ok sc_is_name spU_len (fun cdv A outer s H vs Q E hr h => ?_)⟩
  refine ⟨_, (pss_cons (ps_if ((pw_or (pt_not (pt_val (pe_callB (kIsi (K := K)) (by rfl) C.z_isinstance bt_isinstance (pa_cons (pv 0) (pa_cons (pe_bltn (v := .ty "str") (by rfl) C.z_str bt_str rfl) pa_nil))))) (pw_or1 (pt_not (pt_chain opLe opLe pe_int (pe_callB (kLen (K := K)) (by rfl) C.z_len bt_len (pa_cons (pv 0) pa_nil)) (pe_gk C.c_MOST_SIGNS)))))).pt (pss_one (ps_ret pe_bl)) pss_nil) (pss_one (ps_ret (pe_cmpR (oEq (K := K) hr) (pe_lc rfl sc_is_name.nd (kSrc (K := K) (pv 0)) (blkOk_by (own := [("sign", 1)]) (by rfl)) (fun _ _ _ _ _ => (pg_name (i := 1) sc_is_name.nd rfl (by first | exact .inl rfl | exact .inr rfl))) (fun _ _ _ _ _ => (pts_one (pt_cmpR (oNi (K := K) hr) (pv 1) (pe_gk C.c_SMALL) (by with_unfolding_all rfl)))) (fun _ _ _ _ _ => (pv 1))) (pe_lst pa_nil) (nomark _))))), spU_run (n := 1) (by decide) (fun a l ds hl => ?_) h⟩
  match ds, hl with
  | [v_value], _ =>
    show EvB (ghd a l) (tb K cl (ptd a)) _ [.val v_value, .no] (is_name_m v_value) (cFn (ghd a l))
    unfold is_name_m
    exact (eb_seq (eb_if (et_or (et_not (et_B (ev_isi (n := .str) (ev_var (i := 0) rfl)))) (et_not (et_test (ev_chain okLe okLe ev_int (ev_cb okLen (ea_cons (ev_var (i := 0) rfl) ea_nil)) ev_int)))) (eb_retd ev_bl (fun _ => rfl)) (eb_nx (eb_at [.val v_value, .no] (eb_retd (ev_op okEq (EvN.toD (en_lc (ei_src (es_val (ev_var (i := 0) rfl))) (ek_1f (by decide) (fun v_sign_12 => (et_test (ev_op okNi (ev_var (i := 1) rfl) ev_str))) (fun v_sign_12 => (ev_var (i := 1) rfl))))) (EvN.toD (en_lst ea_nil))) (fun _ => rfl))))))
theorem gf_is_name (C : Ctx K mg) {cl : Nat → Option Addr} : GU P w K mg base cl "is_name" 1 ["value"] (A1 is_name_m) := by
  obtain ⟨fa, fd, hm, F, h⟩ := gk_is_name (P := P) (w := w) (base := base) C (cl := cl)
  exact ⟨fa, fd, hm, F.kp, F.binds (fun _ _ _ _ _ _ us hl => match us, hl with | [_], _ => rfl), h⟩
theorem gk_are_figures (C : Ctx K mg) {cl : Nat → Option Addr} : ∃ fa fd, mg "are_figures" = some (.ref fa) ∧ Fun K "are_figures" "are_figures" s_are_figures fa fd ∧ FnOk P w K mg base CX0 1 fa fd ["text"] (spU K cl 1 (A1 are_figures_m)) := by
  obtain ⟨fa, fd, hm, Fn0⟩ := C.f_are_figures
  refine ⟨fa, fd, hm, Fn0, Fn0.ok sc_are_figures spU_len (fun cdv A outer s H vs Q E hr h => ?_)⟩
  refine ⟨_, (pss_cons (ps_if ((pw_or (pt_cmpR (oEq (K := K) hr) (pv 0) pe_str (nomark _)) (pw_or (pt_cmpR opGt (pe_callB (kLen (K := K)) (by rfl) C.z_len bt_len (pa_cons (pv 0) pa_nil)) (pe_gk C.c_MOST_FIGURES) (nomark _)) (pw_or1 (pt_cmpR (oNe (K := K) hr) (pe_lc rfl sc_are_figures.nd (kSrc (K := K) (pv 0)) (blkOk_by (own := [("sign", 1)]) (by rfl)) (fun _ _ _ _ _ => (pg_name (i := 1) sc_are_figures.nd rfl (by first | exact .inl rfl | exact .inr rfl))) (fun _ _ _ _ _ => (pts_one (pt_cmpR (oNi (K := K) hr) (pv 1) (pe_gk C.c_FIGURES) (by with_unfolding_all rfl)))) (fun _ _ _ _ _ => (pv 1))) (pe_lst pa_nil) (nomark _)))))).pt (pss_one (ps_ret pe_bl)) pss_nil) (pss_one (ps_ret (pe_or (pe_cmpR (oEq (K := K) hr) (pv 0) pe_str (nomark _)) (pe_one (pe_cmpR (oNe (K := K) hr) (pe_ix (kIx (K := K)) (pv 0) pe_int (fun _ _ => rfl)) pe_str (nomark _))))))), spU_run (n := 1) (by decide) (fun a l ds hl => ?_) h⟩
  match ds, hl with
  | [v_text], _ =>
    show EvB (ghd a l) (tb K cl (ptd a)) _ [.val v_text, .no] (are_figures_m v_text) (cFn (ghd a l))
    unfold are_figures_m
    exact (eb_seq (eb_if (et_or (et_test (ev_op okEq (ev_var (i := 0) rfl) ev_str)) (et_or (et_test (ev_op okGt (ev_cb okLen (ea_cons (ev_var (i := 0) rfl) ea_nil)) ev_int)) (et_test (ev_op okNe (EvN.toD (en_lc (ei_src (es_val (ev_var (i := 0) rfl))) (ek_1f (by decide) (fun v_sign_11 => (et_test (ev_op okNi (ev_var (i := 1) rfl) ev_str))) (fun v_sign_11 => (ev_var (i := 1) rfl))))) (EvN.toD (en_lst ea_nil)))))) (eb_retd ev_bl (fun _ => rfl)) (eb_nx (eb_at [.val v_text, .no] (eb_retd (ev_or (ev_op okEq (ev_var (i := 0) rfl) ev_str) (ev_op okNe (ev_op okIx (ev_var (i := 0) rfl) ev_int) ev_str)) (fun _ => rfl))))))
theorem gf_are_figures (C : Ctx K mg) {cl : Nat → Option Addr} : GU P w K mg base cl "are_figures" 1 ["text"] (A1 are_figures_m) := by
  obtain ⟨fa, fd, hm, F, h⟩ := gk_are_figures (P := P) (w := w) (base := base) C (cl := cl)
  exact ⟨fa, fd, hm, F.kp, F.binds (fun _ _ _ _ _ _ us hl => match us, hl with | [_], _ => rfl), h⟩
theorem gk_number_of (C : Ctx K mg) {cl : Nat → Option Addr} : ∃ fa fd, mg "number_of" = some (.ref fa) ∧ Fun K "number_of" "number_of" s_number_of fa fd ∧ FnOk P w K mg base CX0 2 fa fd ["text"] (spU K cl 1 (A1 number_of_m)) := by
  have g_are_figures := gf_are_figures (P := P) (w := w) (base := base) C (cl := cl)
  obtain ⟨fa, fd, hm, Fn0⟩ := C.f_number_of
  refine ⟨fa, fd, hm, Fn0, Fn0.ok sc_number_of spU_len (fun cdv A outer s H vs Q E hr h => ?_)⟩
  refine ⟨_, (pss_one (ps_ret (pe_ifExp (pt_val (kGu (K := K) g_are_figures hr (by decide) (by rfl) (pa_cons (pv 0) pa_nil))) (pe_callTy clInt (by rfl) C.z_int bt_int (pa_cons (pv 0) pa_nil)) (pe_un un_neg pe_int)))), spU_run (n := 1) (by decide) (fun a l ds hl => ?_) h⟩
  match ds, hl with
  | [v_text], _ =>
    show EvB (ghd a l) (tb K cl (ptd a)) _ [.val v_text] (number_of_m v_text) (cFn (ghd a l))
    unfold number_of_m
    exact (eb_retd (ev_if (et_B (eu_1 (ev_var (i := 0) rfl))) (ev_cb okInt (ea_cons (ev_var (i := 0) rfl) ea_nil)) (ev_un okNeg ev_int)) (fun _ => rfl))
theorem gf_number_of (C : Ctx K mg) {cl : Nat → Option Addr} : GU P w K mg base cl "number_of" 2 ["text"] (A1 number_of_m) := by
  obtain ⟨fa, fd, hm, F, h⟩ := gk_number_of (P := P) (w := w) (base := base) C (cl := cl)
  exact ⟨fa, fd, hm, F.kp, F.binds (fun _ _ _ _ _ _ us hl => match us, hl with | [_], _ => rfl), h⟩
theorem gk_sum_of (C : Ctx K mg) {cl : Nat → Option Addr} : ∃ fa fd, mg "sum_of" = some (.ref fa) ∧ Fun K "sum_of" "sum_of" s_sum_of fa fd ∧ FnOk P w K mg base CX0 1 fa fd ["text"] (spU K cl 1 (A1 sum_of_m)) := by
  obtain ⟨fa, fd, hm, Fn0⟩ := C.f_sum_of
  refine ⟨fa, fd, hm, Fn0, Fn0.ok sc_sum_of spU_len (fun cdv A outer s H vs Q E hr h => ?_)⟩
  refine ⟨_, (pss_cons (ps_set (i := 1) sc_sum_of.nd rfl (by first | exact .inl rfl | exact .inr rfl) (pe_gk C.c_BEGIN)) (pss_cons (ps_for PassesOwn.never rfl (kSrc (K := K) (pv 0)) (pg_name (i := 2) sc_sum_of.nd rfl (by first | exact .inl rfl | exact .inr rfl)) (pss_one (ps_set (i := 1) sc_sum_of.nd rfl (by first | exact .inl rfl | exact .inr rfl) (pe_op op_mod (pe_op (oAdd (K := K)) (pe_op opMul (pv 1) (pe_gk C.c_TIMES)) (pe_callB call_ord (by rfl) C.z_ord bt_ord (pa_cons (pv 2) pa_nil))) (pe_gk C.c_PRIME))))) (pss_one (ps_ret (pv 1))))), spU_run (n := 1) (by decide) (fun a l ds hl => ?_) h⟩
  match ds, hl with
  | [v_text], _ =>
    show EvB (ghd a l) (tb K cl (ptd a)) _ [.val v_text, .no, .no] (sum_of_m v_text) (cFn (ghd a l))
    unfold sum_of_m
    exact (eb_seq (eb_asg (i := 1) ev_int (fun v_found_1 => (eb_at [.val v_text, .val v_found_1, .no] (eb_seq (eb_for (gh := ghd a l) (T := tb K cl (ptd a)) (k := (fun p3 s14 => sum_of_l1 v_text p3 s14)) (fun (s14 : D) => [.val v_text, .val s14, .no]) v_found_1 (ei_src (es_val (ev_var (i := 0) rfl))) (Wk.eq (Wk.eq (Wk.no Wk.nil))) (fun _ => (eg_1 (i := 2))) (fun s14 p3 => by unfold sum_of_l1; exact (eb_at [.val v_text, .val s14, .val p3] (eb_asg (i := 1) (ev_op okMod (ev_op okAdd (ev_op okMul (ev_var (i := 1) rfl) ev_int) (ev_cb okOrdC (ea_cons (ev_var (i := 2) rfl) ea_nil))) ev_int) (fun v_found_26 => ⟨v_found_26, (Wk.eq (Wk.eq (Wk.no Wk.nil))), rfl⟩)))) (fun s14 => (eb_at [.val v_text, .val s14, .no] (eb_retd (ev_var (i := 1) rfl) (fun _ => rfl))))))))))
theorem gf_sum_of (C : Ctx K mg) {cl : Nat → Option Addr} : GU P w K mg base cl "sum_of" 1 ["text"] (A1 sum_of_m) := by
  obtain ⟨fa, fd, hm, F, h⟩ := gk_sum_of (P := P) (w := w) (base := base) C (cl := cl)
  exact ⟨fa, fd, hm, F.kp, F.binds (fun _ _ _ _ _ _ us hl => match us, hl with | [_], _ => rfl), h⟩
theorem gk_summed (C : Ctx K mg) {cl : Nat → Option Addr} : ∃ fa fd, mg "summed" = some (.ref fa) ∧ Fun K "summed" "summed" s_summed fa fd ∧ FnOk P w K mg base CX0 2 fa fd ["text"] (spU K cl 1 (A1 summed_m)) := by
  have g_sum_of := gf_sum_of (P := P) (w := w) (base := base) C (cl := cl)
  obtain ⟨fa, fd, hm, Fn0⟩ := C.f_summed
  refine ⟨fa, fd, hm, Fn0, Fn0.ok sc_summed spU_len (fun cdv A outer s H vs Q E hr h => ?_)⟩
  refine ⟨_, (pss_one (ps_ret (pe_op (oAdd (K := K)) (pe_op (oAdd (K := K)) (pe_op (oAdd (K := K)) (pv 0) (pe_gk C.c_MARK)) (pe_gk C.c_BLANK_leafsums)) (pe_callTy call_str_int (by rfl) C.z_str bt_str (pa_cons (kGu (K := K) g_sum_of hr (by decide) (by rfl) (pa_cons (pv 0) pa_nil)) pa_nil))))), spU_run (n := 1) (by decide) (fun a l ds hl => ?_) h⟩
  match ds, hl with
  | [v_text], _ =>
    show EvB (ghd a l) (tb K cl (ptd a)) _ [.val v_text] (summed_m v_text) (cFn (ghd a l))
    unfold summed_m
    exact (eb_retd (ev_op okAdd (ev_op okAdd (ev_op okAdd (ev_var (i := 0) rfl) ev_str) ev_str) (ev_cb okStr (ea_cons (eu_1 (ev_var (i := 0) rfl)) ea_nil))) (fun _ => rfl))
theorem gf_summed (C : Ctx K mg) {cl : Nat → Option Addr} : GU P w K mg base cl "summed" 2 ["text"] (A1 summed_m) := by
  obtain ⟨fa, fd, hm, F, h⟩ := gk_summed (P := P) (w := w) (base := base) C (cl := cl)
  exact ⟨fa, fd, hm, F.kp, F.binds (fun _ _ _ _ _ _ us hl => match us, hl with | [_], _ => rfl), h⟩
theorem gk_whole_text (C : Ctx K mg) {cl : Nat → Option Addr} : ∃ fa fd, mg "whole_text" = some (.ref fa) ∧ Fun K "whole_text" "whole_text" s_whole_text fa fd ∧ FnOk P w K mg base CX0 3 fa fd ["line"] (spU K cl 1 (A1 whole_text_m)) := by
  have g_are_figures := gf_are_figures (P := P) (w := w) (base := base) C (cl := cl)
  have g_number_of := gf_number_of (P := P) (w := w) (base := base) C (cl := cl)
  have g_sum_of := gf_sum_of (P := P) (w := w) (base := base) C (cl := cl)
  obtain ⟨fa, fd, hm, Fn0⟩ := C.f_whole_text
  refine ⟨fa, fd, hm, Fn0, Fn0.ok sc_whole_text spU_len (fun cdv A outer s H vs Q E hr h => ?_)⟩
  refine ⟨_, (pss_cons (ps_set (i := 1) sc_whole_text.nd rfl (by first | exact .inl rfl | exact .inr rfl) (pe_m1 F.slot_str_rfind F.type_str_rfind mt_rfind (pv 0) (pe_gk C.c_MARK))) (pss_cons (ps_if (pt_cmpR opLt (pv 1) pe_int (nomark _)) (pss_one (ps_ret pe_non)) pss_nil) (pss_cons (ps_par (i := 2) (j := 3) rfl sc_whole_text.nd rfl rfl (by decide) rfl rfl (pa_cons (pe_slice (kSl (K := K)) (pv 0) po_none (po_some (pv 1))) (pa_cons (pe_slice (kSl (K := K)) (pv 0) (po_some (pe_op (oAdd (K := K)) (pv 1) (pe_callB (kLen (K := K)) (by rfl) C.z_len bt_len (pa_cons (pe_gk C.c_MARK) pa_nil)))) po_none) pa_nil)) rfl) (pss_cons (ps_if ((pw_or (pt_cmpR (oNe (K := K) hr) (pe_slice (kSl (K := K)) (pv 3) po_none (po_some pe_int)) (pe_gk C.c_BLANK_leafsums) (nomark _)) (pw_or (pt_cmpR opGt (pe_callB (kLen (K := K)) (by rfl) C.z_len bt_len (pa_cons (pv 3) pa_nil)) (pe_op (oAdd (K := K)) (pe_gk C.c_MOST_SUM_FIGURES) pe_int) (nomark _)) (pw_or1 (pt_not (pt_val (kGu (K := K) g_are_figures hr (by decide) (by rfl) (pa_cons (pe_slice (kSl (K := K)) (pv 3) (po_some pe_int) po_none) pa_nil)))))))).pt (pss_one (ps_ret pe_non)) pss_nil) (pss_one (ps_ret (pe_ifExp (pt_cmpR (oEq (K := K) hr) (kGu (K := K) g_number_of hr (by decide) (by rfl) (pa_cons (pe_slice (kSl (K := K)) (pv 3) (po_some pe_int) po_none) pa_nil)) (kGu (K := K) g_sum_of hr (by decide) (by rfl) (pa_cons (pv 2) pa_nil)) (nomark _)) (pv 2) pe_non))))))), spU_run (n := 1) (by decide) (fun a l ds hl => ?_) h⟩
  match ds, hl with
  | [v_line], _ =>
    show EvB (ghd a l) (tb K cl (ptd a)) _ [.val v_line, .no, .no, .no] (whole_text_m v_line) (cFn (ghd a l))
    unfold whole_text_m
    exact (eb_seq (eb_asg (i := 1) (ev_m1 okRfind (ev_var (i := 0) rfl) ev_str) (fun v_at_4 => (eb_at [.val v_line, .val v_at_4, .no, .no] (eb_seq (eb_if (et_test (ev_op okLt (ev_var (i := 1) rfl) ev_int)) (eb_retd ev_non (fun _ => rfl)) (eb_nx (eb_at [.val v_line, .val v_at_4, .no, .no] (eb_seq (eb_par (i := 2) (j := 3) (ev_sl (ev_var (i := 0) rfl) eo_none (eo_some (ev_var (i := 1) rfl))) (ev_sl (ev_var (i := 0) rfl) (eo_some (ev_op okAdd (ev_var (i := 1) rfl) (ev_cb okLen (ea_cons ev_str ea_nil)))) eo_none) (fun v_ahead_24 v_behind_25 => (eb_at [.val v_line, .val v_at_4, .val v_ahead_24, .val v_behind_25] (eb_seq (eb_if (et_or (et_test (ev_op okNe (ev_sl (ev_var (i := 3) rfl) eo_none (eo_some ev_int)) ev_str)) (et_or (et_test (ev_op okGt (ev_cb okLen (ea_cons (ev_var (i := 3) rfl) ea_nil)) (ev_op okAdd ev_int ev_int))) (et_not (et_B (eu_1 (ev_sl (ev_var (i := 3) rfl) (eo_some ev_int) eo_none)))))) (eb_retd ev_non (fun _ => rfl)) (eb_nx (eb_at [.val v_line, .val v_at_4, .val v_ahead_24, .val v_behind_25] (eb_retd (ev_if (et_test (ev_op okEq (eu_1 (ev_sl (ev_var (i := 3) rfl) (eo_some ev_int) eo_none)) (eu_1 (ev_var (i := 2) rfl)))) (ev_var (i := 2) rfl) ev_non) (fun _ => rfl))))))))))))))))))
theorem gf_whole_text (C : Ctx K mg) {cl : Nat → Option Addr} : GU P w K mg base cl "whole_text" 3 ["line"] (A1 whole_text_m) := by
  obtain ⟨fa, fd, hm, F, h⟩ := gk_whole_text (P := P) (w := w) (base := base) C (cl := cl)
  exact ⟨fa, fd, hm, F.kp, F.binds (fun _ _ _ _ _ _ us hl => match us, hl with | [_], _ => rfl), h⟩
theorem gk_leaf_text (C : Ctx K mg) {cl : Nat → Option Addr} : ∃ fa fd, mg "leaf_text" = some (.ref fa) ∧ Fun K "leaf_text" "leaf_text" s_leaf_text fa fd ∧ FnOk P w K mg base CX0 3 fa fd ["name", "party", "leaf"] (spU K cl 3 (A3 leaf_text_m)) := by
  have g_summed := gf_summed (P := P) (w := w) (base := base) C (cl := cl)
  obtain ⟨fa, fd, hm, Fn0⟩ := C.f_leaf_text
  refine ⟨fa, fd, hm, Fn0, Fn0.ok sc_leaf_text spU_len (fun cdv A outer s H vs Q E hr h => ?_)⟩
  refine ⟨_, (pss_cons (ps_set (i := 3) sc_leaf_text.nd rfl (by first | exact .inl rfl | exact .inr rfl) (pe_lst (pa_cons (pe_joined (PJ.cons (pe_fmt (pe_gk C.c_HEAD)) (PJ.cons pe_str (PJ.cons (pe_fmt (pv 0)) (PJ.cons pe_str (PJ.cons (pe_fmt (pv 1)) PJ.nil)))))) pa_nil))) (pss_cons (ps_expr (kBm (K := K) F.plainAttrs_list F.slot_list_extend F.type_list_extend mt_extend (pv 3) (pa_cons (pe_lc rfl sc_leaf_text.nd (kEnum (K := K) (by rfl) C.z_enumerate (pa_cons (pv 2) pa_nil)) (blkOk_by (own := [("time", 5), ("place", 6)]) (by rfl)) (fun _ _ _ _ _ => (kGTup (K := K) (n := 2) (pgs_cons (pg_name (i := 5) sc_leaf_text.nd rfl (by first | exact .inl rfl | exact .inr rfl)) (pgs_cons (pg_name (i := 6) sc_leaf_text.nd rfl (by first | exact .inl rfl | exact .inr rfl)) pgs_nil)))) (fun _ _ _ _ _ => pts_nil) (fun _ _ _ _ _ => (pe_joined (PJ.cons (pe_fmt (pe_gk C.c_TIME)) (PJ.cons pe_str (PJ.cons (pe_fmt (pv 5)) (PJ.cons pe_str (PJ.cons (pe_fmt (pe_gk C.c_AT)) (PJ.cons pe_str (PJ.cons (pe_fmt (pv 6)) PJ.nil)))))))))) pa_nil))) (pss_one (ps_ret (kJoin (K := K) pe_str (pe_lc rfl sc_leaf_text.nd (kSrc (K := K) (pv 3)) (blkOk_by (own := [("row", 4)]) (by rfl)) (fun _ _ _ _ _ => (pg_name (i := 4) sc_leaf_text.nd rfl (by first | exact .inl rfl | exact .inr rfl))) (fun _ _ _ _ _ => pts_nil) (fun _ _ _ _ _ => (kGu (K := K) g_summed hr (by decide) (by rfl) (pa_cons (pv 4) pa_nil))))))))), spU_run (n := 3) (by decide) (fun a l ds hl => ?_) h⟩
  match ds, hl with
  | [v_name, v_party, v_leaf], _ =>
    show EvB (ghd a l) (tb K cl (ptd a)) _ [.val v_name, .val v_party, .val v_leaf, .no, .no, .no, .no] (leaf_text_m v_name v_party v_leaf) (cFn (ghd a l))
    unfold leaf_text_m
    exact (eb_seq (eb_asgN (i := 3) (en_lst (ea_cons (ev_joined (EvJ.cons (ev_fmt ev_str) (EvJ.cons ev_str (EvJ.cons (ev_fmt (ev_var (i := 0) rfl)) (EvJ.cons ev_str (EvJ.cons (ev_fmt (ev_var (i := 1) rfl)) EvJ.nil)))))) ea_nil)) (fun v_rows_7 => (eb_at [.val v_name, .val v_party, .val v_leaf, .own (.lst v_rows_7), .no, .no, .no] (eb_seq (eb_extN (i := 3) rfl (en_lc (ei_enum (es_val (ev_var (i := 2) rfl))) (ek (eg_2 (i := 5) (j := 6)) (wp_2 (by decide) (by decide)) (fun p9 => (ev_joined (EvJ.cons (ev_fmt ev_str) (EvJ.cons ev_str (EvJ.cons (ev_fmt (ev_var (i := 5) rfl)) (EvJ.cons ev_str (EvJ.cons (ev_fmt ev_str) (EvJ.cons ev_str (EvJ.cons (ev_fmt (ev_var (i := 6) rfl)) EvJ.nil))))))))))) (fun d19 => (eb_at [.val v_name, .val v_party, .val v_leaf, .own (.lst (v_rows_7 ++ d19)), .no, .no, .no] (eb_retd (ev_m1 okJoin ev_str (EvN.toD (en_lc (ei_src (es_own (i := 3) rfl)) (ek_1 (by decide) (fun v_row_20 => (eu_1 (ev_var (i := 4) rfl))))))) (fun _ => rfl))))))))))
theorem gf_leaf_text (C : Ctx K mg) {cl : Nat → Option Addr} : GU P w K mg base cl "leaf_text" 3 ["name", "party", "leaf"] (A3 leaf_text_m) := by
  obtain ⟨fa, fd, hm, F, h⟩ := gk_leaf_text (P := P) (w := w) (base := base) C (cl := cl)
  exact ⟨fa, fd, hm, F.kp, F.binds (fun _ _ _ _ _ _ us hl => match us, hl with | [_, _, _], _ => rfl), h⟩
theorem gk_head_of (C : Ctx K mg) {cl : Nat → Option Addr} : ∃ fa fd, mg "head_of" = some (.ref fa) ∧ Fun K "head_of" "head_of" s_head_of fa fd ∧ FnOk P w K mg base CX0 4 fa fd ["line"] (spU K cl 1 (A1 head_of_m)) := by
  have g_whole_text := gf_whole_text (P := P) (w := w) (base := base) C (cl := cl)
  have g_number_of := gf_number_of (P := P) (w := w) (base := base) C (cl := cl)
  have g_is_name := gf_is_name (P := P) (w := w) (base := base) C (cl := cl)
  obtain ⟨fa, fd, hm, Fn0⟩ := C.f_head_of
  refine ⟨fa, fd, hm, Fn0, Fn0.ok sc_head_of spU_len (fun cdv A outer s H vs Q E hr h => ?_)⟩
  refine ⟨_, (pss_cons (ps_set (i := 1) sc_head_of.nd rfl (by first | exact .inl rfl | exact .inr rfl) (kGu (K := K) g_whole_text hr (by decide) (by rfl) (pa_cons (pv 0) pa_nil))) (pss_cons (ps_set (i := 2) sc_head_of.nd rfl (by first | exact .inl rfl | exact .inr rfl) (pe_ifExp (pt_cmpR opIsn (pv 1) pe_non (nomark _)) (pe_split (pv 1) (pe_gk C.c_BLANK_leaftext)) (pe_lst pa_nil))) (pss_cons (ps_if ((pw_or (pt_cmpR (oNe (K := K) hr) (pe_callB (kLen (K := K)) (by rfl) C.z_len bt_len (pa_cons (pv 2) pa_nil)) (pe_gk C.c_HEAD_WORDS) (nomark _)) (pw_or (pt_cmpR (oNe (K := K) hr) (pe_ix (kIx (K := K)) (pv 2) pe_int (fun _ _ => rfl)) (pe_gk C.c_HEAD) (nomark _)) (pw_or (pt_not (pt_val (kGu (K := K) g_is_name hr (by decide) (by rfl) (pa_cons (pe_ix (kIx (K := K)) (pv 2) pe_int (fun _ _ => rfl)) pa_nil)))) (pw_or1 (pt_cmpR opLt (kGu (K := K) g_number_of hr (by decide) (by rfl) (pa_cons (pe_ix (kIx (K := K)) (pv 2) pe_int (fun _ _ => rfl)) pa_nil)) pe_int (nomark _))))))).pt (pss_one (ps_ret pe_non)) pss_nil) (pss_one (ps_ret (pe_tup (pa_cons (pe_ix (kIx (K := K)) (pv 2) pe_int (fun _ _ => rfl)) (pa_cons (kGu (K := K) g_number_of hr (by decide) (by rfl) (pa_cons (pe_ix (kIx (K := K)) (pv 2) pe_int (fun _ _ => rfl)) pa_nil)) pa_nil)))))))), spU_run (n := 1) (by decide) (fun a l ds hl => ?_) h⟩
  match ds, hl with
  | [v_line], _ =>
    show EvB (ghd a l) (tb K cl (ptd a)) _ [.val v_line, .no, .no] (head_of_m v_line) (cFn (ghd a l))
    unfold head_of_m
    exact (eb_seq (eb_asg (i := 1) (eu_1 (ev_var (i := 0) rfl)) (fun v_text_2 => (eb_at [.val v_line, .val v_text_2, .no] (eb_seq (eb_asg (i := 2) (ev_if (et_test (ev_op okIsn (ev_var (i := 1) rfl) ev_non)) (ev_m1 okSplit (ev_var (i := 1) rfl) ev_str) (EvN.toD (en_lst ea_nil))) (fun v_words_11 => (eb_at [.val v_line, .val v_text_2, .val v_words_11] (eb_seq (eb_if (et_or (et_test (ev_op okNe (ev_cb okLen (ea_cons (ev_var (i := 2) rfl) ea_nil)) ev_int)) (et_or (et_test (ev_op okNe (ev_op okIx (ev_var (i := 2) rfl) ev_int) ev_str)) (et_or (et_not (et_B (eu_1 (ev_op okIx (ev_var (i := 2) rfl) ev_int)))) (et_test (ev_op okLt (eu_1 (ev_op okIx (ev_var (i := 2) rfl) ev_int)) ev_int))))) (eb_retd ev_non (fun _ => rfl)) (eb_nx (eb_at [.val v_line, .val v_text_2, .val v_words_11] (eb_retd (ev_tup (ea_cons (ev_op okIx (ev_var (i := 2) rfl) ev_int) (ea_cons (eu_1 (ev_op okIx (ev_var (i := 2) rfl) ev_int)) ea_nil))) (fun _ => rfl))))))))))))))
theorem gf_head_of (C : Ctx K mg) {cl : Nat → Option Addr} : GU P w K mg base cl "head_of" 4 ["line"] (A1 head_of_m) := by
  obtain ⟨fa, fd, hm, F, h⟩ := gk_head_of (P := P) (w := w) (base := base) C (cl := cl)
  exact ⟨fa, fd, hm, F.kp, F.binds (fun _ _ _ _ _ _ us hl => match us, hl with | [_], _ => rfl), h⟩
theorem gk_place_in (C : Ctx K mg) {cl : Nat → Option Addr} : ∃ fa fd, mg "place_in" = some (.ref fa) ∧ Fun K "place_in" "place_in" s_place_in fa fd ∧ FnOk P w K mg base CX0 4 fa fd ["line", "time"] (spU K cl 2 (A2 place_in_m)) := by
  have g_whole_text := gf_whole_text (P := P) (w := w) (base := base) C (cl := cl)
  have g_number_of := gf_number_of (P := P) (w := w) (base := base) C (cl := cl)
  obtain ⟨fa, fd, hm, Fn0⟩ := C.f_place_in
  refine ⟨fa, fd, hm, Fn0, Fn0.ok sc_place_in spU_len (fun cdv A outer s H vs Q E hr h => ?_)⟩
  refine ⟨_, (pss_cons (ps_set (i := 2) sc_place_in.nd rfl (by first | exact .inl rfl | exact .inr rfl) (kGu (K := K) g_whole_text hr (by decide) (by rfl) (pa_cons (pv 0) pa_nil))) (pss_cons (ps_set (i := 3) sc_place_in.nd rfl (by first | exact .inl rfl | exact .inr rfl) (pe_ifExp (pt_cmpR opIsn (pv 2) pe_non (nomark _)) (pe_split (pv 2) (pe_gk C.c_BLANK_leaftext)) (pe_lst pa_nil))) (pss_cons (ps_if ((pw_or (pt_cmpR (oNe (K := K) hr) (pe_callB (kLen (K := K)) (by rfl) C.z_len bt_len (pa_cons (pv 3) pa_nil)) (pe_gk C.c_TIME_WORDS) (nomark _)) (pw_or (pt_cmpR (oNe (K := K) hr) (pe_ix (kIx (K := K)) (pv 3) pe_int (fun _ _ => rfl)) (pe_gk C.c_TIME) (nomark _)) (pw_or (pt_cmpR (oNe (K := K) hr) (pe_ix (kIx (K := K)) (pv 3) pe_int (fun _ _ => rfl)) (pe_gk C.c_AT) (nomark _)) (pw_or1 (pt_cmpR (oNe (K := K) hr) (kGu (K := K) g_number_of hr (by decide) (by rfl) (pa_cons (pe_ix (kIx (K := K)) (pv 3) pe_int (fun _ _ => rfl)) pa_nil)) (pv 1) (nomark _))))))).pt (pss_one (ps_ret (pe_un un_neg pe_int))) pss_nil) (pss_one (ps_ret (kGu (K := K) g_number_of hr (by decide) (by rfl) (pa_cons (pe_ix (kIx (K := K)) (pv 3) pe_int (fun _ _ => rfl)) pa_nil))))))), spU_run (n := 2) (by decide) (fun a l ds hl => ?_) h⟩
  match ds, hl with
  | [v_line, v_time], _ =>
    show EvB (ghd a l) (tb K cl (ptd a)) _ [.val v_line, .val v_time, .no, .no] (place_in_m v_line v_time) (cFn (ghd a l))
    unfold place_in_m
    exact (eb_seq (eb_asg (i := 2) (eu_1 (ev_var (i := 0) rfl)) (fun v_text_2 => (eb_at [.val v_line, .val v_time, .val v_text_2, .no] (eb_seq (eb_asg (i := 3) (ev_if (et_test (ev_op okIsn (ev_var (i := 2) rfl) ev_non)) (ev_m1 okSplit (ev_var (i := 2) rfl) ev_str) (EvN.toD (en_lst ea_nil))) (fun v_words_11 => (eb_at [.val v_line, .val v_time, .val v_text_2, .val v_words_11] (eb_seq (eb_if (et_or (et_test (ev_op okNe (ev_cb okLen (ea_cons (ev_var (i := 3) rfl) ea_nil)) ev_int)) (et_or (et_test (ev_op okNe (ev_op okIx (ev_var (i := 3) rfl) ev_int) ev_str)) (et_or (et_test (ev_op okNe (ev_op okIx (ev_var (i := 3) rfl) ev_int) ev_str)) (et_test (ev_op okNe (eu_1 (ev_op okIx (ev_var (i := 3) rfl) ev_int)) (ev_var (i := 1) rfl)))))) (eb_retd (ev_un okNeg ev_int) (fun _ => rfl)) (eb_nx (eb_at [.val v_line, .val v_time, .val v_text_2, .val v_words_11] (eb_retd (eu_1 (ev_op okIx (ev_var (i := 3) rfl) ev_int)) (fun _ => rfl))))))))))))))
theorem gf_place_in (C : Ctx K mg) {cl : Nat → Option Addr} : GU P w K mg base cl "place_in" 4 ["line", "time"] (A2 place_in_m) := by
  obtain ⟨fa, fd, hm, F, h⟩ := gk_place_in (P := P) (w := w) (base := base) C (cl := cl)
  exact ⟨fa, fd, hm, F.kp, F.binds (fun _ _ _ _ _ _ us hl => match us, hl with | [_, _], _ => rfl), h⟩
theorem gk_places_in (C : Ctx K mg) {cl : Nat → Option Addr} : ∃ fa fd, mg "places_in" = some (.ref fa) ∧ Fun K "places_in" "places_in" s_places_in fa fd ∧ FnOk P w K mg base CX0 5 fa fd ["lines"] (spU K cl 1 (A1 places_in_m)) := by
  have g_place_in := gf_place_in (P := P) (w := w) (base := base) C (cl := cl)
  obtain ⟨fa, fd, hm, Fn0⟩ := C.f_places_in
  refine ⟨fa, fd, hm, Fn0, Fn0.ok sc_places_in spU_len (fun cdv A outer s H vs Q E hr h => ?_)⟩
  refine ⟨_, (pss_cons (ps_set (i := 1) sc_places_in.nd rfl (by first | exact .inl rfl | exact .inr rfl) (pe_lst pa_nil)) (pss_cons (ps_for PassesOwn.never rfl (kEnum (K := K) (by rfl) C.z_enumerate (pa_cons (pv 0) pa_nil)) (kGTup (K := K) (n := 2) (pgs_cons (pg_name (i := 2) sc_places_in.nd rfl (by first | exact .inl rfl | exact .inr rfl)) (pgs_cons (pg_name (i := 3) sc_places_in.nd rfl (by first | exact .inl rfl | exact .inr rfl)) pgs_nil))) (pss_cons (ps_set (i := 4) sc_places_in.nd rfl (by first | exact .inl rfl | exact .inr rfl) (kGu (K := K) g_place_in hr (by decide) (by rfl) (pa_cons (pv 3) (pa_cons (pv 2) pa_nil)))) (pss_cons (ps_if (pt_cmpR opLt (pv 4) pe_int (nomark _)) (pss_one (ps_ret (pe_callTy (kTupOf (K := K)) (by rfl) C.z_tuple bt_tuple (pa_cons (pv 1) pa_nil)))) pss_nil) (pss_one (ps_expr (kBm (K := K) F.plainAttrs_list F.slot_list_append F.type_list_append mt_append (pv 1) (pa_cons (pv 4) pa_nil))))))) (pss_one (ps_ret (pe_callTy (kTupOf (K := K)) (by rfl) C.z_tuple bt_tuple (pa_cons (pv 1) pa_nil)))))), spU_run (n := 1) (by decide) (fun a l ds hl => ?_) h⟩
  match ds, hl with
  | [v_lines], _ =>
    show EvB (ghd a l) (tb K cl (ptd a)) _ [.val v_lines, .no, .no, .no, .no] (places_in_m v_lines) (cFn (ghd a l))
    unfold places_in_m
    exact (eb_seq (eb_asgN (i := 1) (en_lst ea_nil) (fun v_found_2 => (eb_at [.val v_lines, .own (.lst v_found_2), .no, .no, .no] (eb_seq (eb_forM (gh := ghd a l) (T := tb K cl (ptd a)) (k := (fun p4 s14 => places_in_l1 v_lines p4 s14)) (fun (s14 : List D) => [.val v_lines, .own (.lst s14), .no, .no, .no]) v_found_2 (ei_enum (es_val (ev_var (i := 0) rfl))) (Wk.eq (Wk.eq (Wk.no (Wk.no (Wk.no Wk.nil))))) (fun _ => (eg_2 (i := 2) (j := 3))) (fun s14 p4 => by unfold places_in_l1; exact (eb_at [.val v_lines, .own (.lst s14), .val p4.1, .val p4.2, .no] (eb_seq (eb_asg (i := 4) (eu_2 (ev_var (i := 3) rfl) (ev_var (i := 2) rfl)) (fun v_place_20 => (eb_at [.val v_lines, .own (.lst s14), .val p4.1, .val p4.2, .val v_place_20] (eb_seq (eb_if (et_test (ev_op okLt (ev_var (i := 4) rfl) ev_int)) (eb_ret (ev_tupo (i := 1) rfl) (fun _ => rfl)) (eb_nx (eb_at [.val v_lines, .own (.lst s14), .val p4.1, .val p4.2, .val v_place_20] (eb_app (i := 1) rfl (ev_var (i := 4) rfl) (fun d26 => ⟨(s14 ++ [d26]), (Wk.eq (Wk.eq (Wk.no (Wk.no (Wk.no Wk.nil))))), rfl⟩)))))))))))) (fun s14 => (eb_at [.val v_lines, .own (.lst s14), .no, .no, .no] (eb_retd (ev_tupo (i := 1) rfl) (fun _ => rfl)))) (fun _ => rfl)))))))
theorem gf_places_in (C : Ctx K mg) {cl : Nat → Option Addr} : GU P w K mg base cl "places_in" 5 ["lines"] (A1 places_in_m) := by
  obtain ⟨fa, fd, hm, F, h⟩ := gk_places_in (P := P) (w := w) (base := base) C (cl := cl)
  exact ⟨fa, fd, hm, F.kp, F.binds (fun _ _ _ _ _ _ us hl => match us, hl with | [_], _ => rfl), h⟩
theorem gk_read_leaf (C : Ctx K mg) {cl : Nat → Option Addr} : ∃ fa fd, mg "read_leaf" = some (.ref fa) ∧ Fun K "read_leaf" "read_leaf" s_read_leaf fa fd ∧ FnOk P w K mg base CX0 6 fa fd ["text"] (spU K cl 1 (A1 read_leaf_m)) := by
  have g_head_of := gf_head_of (P := P) (w := w) (base := base) C (cl := cl)
  have g_places_in := gf_places_in (P := P) (w := w) (base := base) C (cl := cl)
  obtain ⟨fa, fd, hm, Fn0⟩ := C.f_read_leaf
  refine ⟨fa, fd, hm, Fn0, Fn0.ok sc_read_leaf spU_len (fun cdv A outer s H vs Q E hr h => ?_)⟩
  refine ⟨_, (pss_cons (ps_if (pt_not (pt_val (pe_callB (kIsi (K := K)) (by rfl) C.z_isinstance bt_isinstance (pa_cons (pv 0) (pa_cons (pe_bltn (v := .ty "str") (by rfl) C.z_str bt_str rfl) pa_nil))))) (pss_one (ps_ret pe_non)) pss_nil) (pss_cons (ps_set (i := 1) sc_read_leaf.nd rfl (by first | exact .inl rfl | exact .inr rfl) (pe_split (pv 0) pe_str)) (pss_cons (ps_set (i := 2) sc_read_leaf.nd rfl (by first | exact .inl rfl | exact .inr rfl) (kGu (K := K) g_head_of hr (by decide) (by rfl) (pa_cons (pe_ix (kIx (K := K)) (pv 1) pe_int (fun _ _ => rfl)) pa_nil))) (pss_one (ps_ret (pe_ifExp (pt_cmpR opIs (pv 2) pe_non (nomark _)) pe_non (pe_tup (pa_cons (pe_ix (kIx (K := K)) (pv 2) pe_int (fun _ _ => rfl)) (pa_cons (pe_ix (kIx (K := K)) (pv 2) pe_int (fun _ _ => rfl)) (pa_cons (kGu (K := K) g_places_in hr (by decide) (by rfl) (pa_cons (pe_slice (kSl (K := K)) (pv 1) (po_some pe_int) po_none) pa_nil)) pa_nil)))))))))), spU_run (n := 1) (by decide) (fun a l ds hl => ?_) h⟩
  match ds, hl with
  | [v_text], _ =>
    show EvB (ghd a l) (tb K cl (ptd a)) _ [.val v_text, .no, .no] (read_leaf_m v_text) (cFn (ghd a l))
    unfold read_leaf_m
    exact (eb_seq (eb_if (et_not (et_B (ev_isi (n := .str) (ev_var (i := 0) rfl)))) (eb_retd ev_non (fun _ => rfl)) (eb_nx (eb_at [.val v_text, .no, .no] (eb_seq (eb_asg (i := 1) (ev_m1 okSplit (ev_var (i := 0) rfl) ev_str) (fun v_lines_8 => (eb_at [.val v_text, .val v_lines_8, .no] (eb_seq (eb_asg (i := 2) (eu_1 (ev_op okIx (ev_var (i := 1) rfl) ev_int)) (fun v_head_12 => (eb_at [.val v_text, .val v_lines_8, .val v_head_12] (eb_retd (ev_if (et_test (ev_op okIs (ev_var (i := 2) rfl) ev_non)) ev_non (ev_tup (ea_cons (ev_op okIx (ev_var (i := 2) rfl) ev_int) (ea_cons (ev_op okIx (ev_var (i := 2) rfl) ev_int) (ea_cons (eu_1 (ev_sl (ev_var (i := 1) rfl) (eo_some ev_int) eo_none)) ea_nil))))) (fun _ => rfl))))))))))))))
theorem gf_read_leaf (C : Ctx K mg) {cl : Nat → Option Addr} : GU P w K mg base cl "read_leaf" 6 ["text"] (A1 read_leaf_m) := by
  obtain ⟨fa, fd, hm, F, h⟩ := gk_read_leaf (P := P) (w := w) (base := base) C (cl := cl)
  exact ⟨fa, fd, hm, F.kp, F.binds (fun _ _ _ _ _ _ us hl => match us, hl with | [_], _ => rfl), h⟩
theorem gk__law_of (C : Ctx K mg) {cl : Nat → Option Addr} : ∃ fa fd, mg "_law_of" = some (.ref fa) ∧ Fun K "_law_of" "_law_of" s__law_of fa fd ∧ FnOk P w K mg base CX0 2 fa fd ["deal", "some"] (spU K cl 2 (A2 _law_of_m)) := by
  have g__law_any := gf__law_any (P := P) (w := w) (base := base) C (cl := cl)
  obtain ⟨fa, fd, hm, Fn0⟩ := C.f__law_of
  refine ⟨fa, fd, hm, Fn0, Fn0.ok sc__law_of spU_len (fun cdv A outer s H vs Q E hr h => ?_)⟩
  refine ⟨_, (pss_one (ps_ret (pe_ix (kIx (K := K)) (pv 1) (kGu (K := K) g__law_any hr (by decide) (by rfl) (pa_cons (pv 0) (pa_cons (pe_callB (kLen (K := K)) (by rfl) C.z_len bt_len (pa_cons (pv 1) pa_nil)) pa_nil))) (fun _ _ => rfl)))), spU_run (n := 2) (by decide) (fun a l ds hl => ?_) h⟩
  match ds, hl with
  | [v_deal, v_some], _ =>
    show EvB (ghd a l) (tb K cl (ptd a)) _ [.val v_deal, .val v_some] (_law_of_m v_deal v_some) (cFn (ghd a l))
    unfold _law_of_m
    exact (eb_retd (ev_op okIx (ev_var (i := 1) rfl) (eu_2 (ev_var (i := 0) rfl) (ev_cb okLen (ea_cons (ev_var (i := 1) rfl) ea_nil)))) (fun _ => rfl))
theorem gf__law_of (C : Ctx K mg) {cl : Nat → Option Addr} : GU P w K mg base cl "_law_of" 2 ["deal", "some"] (A2 _law_of_m) := by
  obtain ⟨fa, fd, hm, F, h⟩ := gk__law_of (P := P) (w := w) (base := base) C (cl := cl)
  exact ⟨fa, fd, hm, F.kp, F.binds (fun _ _ _ _ _ _ us hl => match us, hl with | [_, _], _ => rfl), h⟩
theorem gk__law_is_kind (C : Ctx K mg) {cl : Nat → Option Addr} : ∃ fa fd, mg "_law_is_kind" = some (.ref fa) ∧ Fun K "_law_is_kind" "_law_is_kind" s__law_is_kind fa fd ∧ FnOk P w K mg base CX0 1 fa fd ["told", "due"] (spU K cl 2 (A2 _law_is_kind_m)) := by
  obtain ⟨fa, fd, hm, Fn0⟩ := C.f__law_is_kind
  refine ⟨fa, fd, hm, Fn0, Fn0.ok sc__law_is_kind spU_len (fun cdv A outer s H vs Q E hr h => ?_)⟩
  refine ⟨_, (pss_cons (ps_if (pt_cmpR opIs (pv 1) pe_non (nomark _)) (pss_one (ps_ret (pe_cmpR opIs (pv 0) pe_non (nomark _)))) pss_nil) (pss_cons (ps_if ((pw_or (pt_cmpR opIs (pv 1) pe_bl (nomark _)) (pw_or1 (pt_cmpR opIs (pv 1) pe_bl (nomark _))))).pt (pss_one (ps_ret (pe_ifExp (pt_val (pv 1)) (pe_cmpR opIs (pv 0) pe_bl (nomark _)) (pe_cmpR opIs (pv 0) pe_bl (nomark _))))) pss_nil) (pss_cons (ps_if (pt_val (pe_callB (kIsi (K := K)) (by rfl) C.z_isinstance bt_isinstance (pa_cons (pv 1) (pa_cons (pe_bltn (v := .ty "str") (by rfl) C.z_str bt_str rfl) pa_nil)))) (pss_one (ps_ret (pe_and (pe_callB (kIsi (K := K)) (by rfl) C.z_isinstance bt_isinstance (pa_cons (pv 0) (pa_cons (pe_bltn (v := .ty "str") (by rfl) C.z_str bt_str rfl) pa_nil))) (pe_one (pe_cmpR (oEq (K := K) hr) (pv 0) (pv 1) (nomark _)))))) pss_nil) (pss_one (ps_ret (pe_and (pe_callB (kIsi (K := K)) (by rfl) C.z_isinstance bt_isinstance (pa_cons (pv 0) (pa_cons (pe_bltn (v := .ty "int") (by rfl) C.z_int bt_int rfl) pa_nil))) (pe_and (pe_not (pe_callB (kIsi (K := K)) (by rfl) C.z_isinstance bt_isinstance (pa_cons (pv 0) (pa_cons (pe_bltn (v := .ty "bool") (by rfl) C.z_bool bt_bool rfl) pa_nil)))) (pe_one (pe_cmpR (oEq (K := K) hr) (pv 0) (pv 1) (nomark _)))))))))), spU_run (n := 2) (by decide) (fun a l ds hl => ?_) h⟩
  match ds, hl with
  | [v_told, v_due], _ =>
    show EvB (ghd a l) (tb K cl (ptd a)) _ [.val v_told, .val v_due] (_law_is_kind_m v_told v_due) (cFn (ghd a l))
    unfold _law_is_kind_m
    exact (eb_seq (eb_if (et_test (ev_op okIs (ev_var (i := 1) rfl) ev_non)) (eb_retd (ev_op okIs (ev_var (i := 0) rfl) ev_non) (fun _ => rfl)) (eb_nx (eb_at [.val v_told, .val v_due] (eb_seq (eb_if (et_or (et_test (ev_op okIs (ev_var (i := 1) rfl) ev_bl)) (et_test (ev_op okIs (ev_var (i := 1) rfl) ev_bl))) (eb_retd (ev_if (et_B (ev_var (i := 1) rfl)) (ev_op okIs (ev_var (i := 0) rfl) ev_bl) (ev_op okIs (ev_var (i := 0) rfl) ev_bl)) (fun _ => rfl)) (eb_nx (eb_at [.val v_told, .val v_due] (eb_seq (eb_if (et_B (ev_isi (n := .str) (ev_var (i := 1) rfl))) (eb_retd (ev_and (ev_isi (n := .str) (ev_var (i := 0) rfl)) (ev_op okEq (ev_var (i := 0) rfl) (ev_var (i := 1) rfl))) (fun _ => rfl)) (eb_nx (eb_at [.val v_told, .val v_due] (eb_retd (ev_and (ev_isi (n := .int) (ev_var (i := 0) rfl)) (ev_and (ev_notV (ev_isi (n := .bool) (ev_var (i := 0) rfl))) (ev_op okEq (ev_var (i := 0) rfl) (ev_var (i := 1) rfl)))) (fun _ => rfl))))))))))))))
theorem gf__law_is_kind (C : Ctx K mg) {cl : Nat → Option Addr} : GU P w K mg base cl "_law_is_kind" 1 ["told", "due"] (A2 _law_is_kind_m) := by
  obtain ⟨fa, fd, hm, F, h⟩ := gk__law_is_kind (P := P) (w := w) (base := base) C (cl := cl)
  exact ⟨fa, fd, hm, F.kp, F.binds (fun _ _ _ _ _ _ us hl => match us, hl with | [_, _], _ => rfl), h⟩
theorem gk__law_same (C : Ctx K mg) {cl : Nat → Option Addr} : ∃ fa fd, mg "_law_same" = some (.ref fa) ∧ Fun K "_law_same" "_law_same" s__law_same fa fd ∧ FnOk P w K mg base CX0 2 fa fd ["told", "due"] (spU K cl 2 (A2 _law_same_m)) := by
  have g__law_is_kind := gf__law_is_kind (P := P) (w := w) (base := base) C (cl := cl)
  obtain ⟨fa, fd, hm, Fn0⟩ := C.f__law_same
  refine ⟨fa, fd, hm, Fn0, Fn0.ok sc__law_same spU_len (fun cdv A outer s H vs Q E hr h => ?_)⟩
  refine ⟨_, (pss_cons (ps_set (i := 2) sc__law_same.nd rfl (by first | exact .inl rfl | exact .inr rfl) (pe_lst (pa_cons (pe_tup (pa_cons (pv 0) (pa_cons (pv 1) pa_nil))) pa_nil))) (pss_cons (ps_while PassesOwn.never (pt_cmpR opGt (pe_callB (kLen (K := K)) (by rfl) C.z_len bt_len (pa_cons (pv 2) pa_nil)) pe_int (nomark _)) (pss_cons (ps_asg (kBm0 (K := K) F.plainAttrs_list F.slot_list_pop F.type_list_pop mt_pop (pv 2)) (kGTup (K := K) (n := 2) (pgs_cons (pg_name (i := 3) sc__law_same.nd rfl (by first | exact .inl rfl | exact .inr rfl)) (pgs_cons (pg_name (i := 4) sc__law_same.nd rfl (by first | exact .inl rfl | exact .inr rfl)) pgs_nil)))) (pss_one (ps_if (pt_val (pe_callB (kIsi (K := K)) (by rfl) C.z_isinstance bt_isinstance (pa_cons (pv 4) (pa_cons (pe_bltn (v := .ty "tuple") (by rfl) C.z_tuple bt_tuple rfl) pa_nil)))) (pss_cons (ps_if ((pw_or (pt_not (pt_val (pe_callB (kIsi (K := K)) (by rfl) C.z_isinstance bt_isinstance (pa_cons (pv 3) (pa_cons (pe_bltn (v := .ty "tuple") (by rfl) C.z_tuple bt_tuple rfl) pa_nil))))) (pw_or1 (pt_cmpR (oNe (K := K) hr) (pe_callB (kLen (K := K)) (by rfl) C.z_len bt_len (pa_cons (pv 3) pa_nil)) (pe_callB (kLen (K := K)) (by rfl) C.z_len bt_len (pa_cons (pv 4) pa_nil)) (nomark _))))).pt (pss_one (ps_ret pe_bl)) pss_nil) (pss_one (ps_set (i := 2) sc__law_same.nd rfl (by first | exact .inl rfl | exact .inr rfl) (pe_op (oAdd (K := K)) (pv 2) (kListzip (K := K) (by rfl) C.z_list (by rfl) C.z_zip (pa_cons (pv 3) (pa_cons (pv 4) pa_nil))))))) (pss_one (ps_if ((pw_or (pt_val (pe_callB (kIsiT (K := K)) (by rfl) C.z_isinstance bt_isinstance (pa_cons (pv 3) (pa_cons (pe_tup (pa_cons (pe_bltn (v := .ty "tuple") (by rfl) C.z_tuple bt_tuple rfl) (pa_cons (pe_bltn (v := .ty "list") (by rfl) C.z_list bt_list rfl) (pa_cons (pe_bltn (v := .ty "dict") (by rfl) C.z_dict bt_dict rfl) pa_nil)))) pa_nil)))) (pw_or1 (pt_not (pt_val (kGu (K := K) g__law_is_kind hr (by decide) (by rfl) (pa_cons (pv 3) (pa_cons (pv 4) pa_nil)))))))).pt (pss_one (ps_ret pe_bl)) pss_nil)))))) (pss_one (ps_ret pe_bl)))), spU_run (n := 2) (by decide) (fun a l ds hl => ?_) h⟩
  match ds, hl with
  | [v_told, v_due], _ =>
    show EvB (ghd a l) (tb K cl (ptd a)) _ [.val v_told, .val v_due, .no, .no, .no] (_law_same_m v_told v_due) (cFn (ghd a l))
    unfold _law_same_m
    exact (eb_seq (eb_asgN (i := 2) (en_lst (ea_cons (ev_tup (ea_cons (ev_var (i := 0) rfl) (ea_cons (ev_var (i := 1) rfl) ea_nil))) ea_nil)) (fun v_todo_9 => (eb_at [.val v_told, .val v_due, .own (.lst v_todo_9), .no, .no] (eb_seq (eb_whileM (gh := ghd a l) (T := tb K cl (ptd a)) (k := (fun s45 => _law_same_l1  s45)) (fun (s45 : List D) => [.val v_told, .val v_due, .own (.lst s45), .no, .no]) v_todo_9 FUEL (Wk.eq (Wk.eq (Wk.eq (Wk.no (Wk.no Wk.nil))))) (fun s45 => (et_test (ev_op okGt (ev_borrow (i := 2) rfl (ev_cb okLen (ea_cons (ev_var (i := 2) rfl) ea_nil))) ev_int))) (fun s45 => by unfold _law_same_l1; exact (eb_at [.val v_told, .val v_due, .own (.lst s45), .no, .no] (eb_seq (eb_popG (i := 2) rfl (eg_2 (i := 3) (j := 4)) (fun p55 => (eb_at [.val v_told, .val v_due, .own (.lst (s45).dropLast), .val p55.1, .val p55.2] (eb_if (et_B (ev_isi (n := .tuple) (ev_var (i := 4) rfl))) (eb_seq (eb_if (et_or (et_not (et_B (ev_isi (n := .tuple) (ev_var (i := 3) rfl)))) (et_test (ev_op okNe (ev_cb okLen (ea_cons (ev_var (i := 3) rfl) ea_nil)) (ev_cb okLen (ea_cons (ev_var (i := 4) rfl) ea_nil))))) (eb_ret ev_bl (fun _ => rfl)) (eb_nx (eb_at [.val v_told, .val v_due, .own (.lst (s45).dropLast), .val p55.1, .val p55.2] (eb_asgN (i := 2) (en_cat (eq_own (i := 2) rfl) (eq_new (en_listzip (ev_var (i := 3) rfl) (ev_var (i := 4) rfl)))) (fun v_todo_79 => ⟨v_todo_79, (Wk.eq (Wk.eq (Wk.eq (Wk.no (Wk.no Wk.nil))))), rfl⟩)))))) (eb_if (et_or (et_B (ev_isi3 (n := .tuple) (n' := .list) (n'' := .dict) (ev_var (i := 3) rfl))) (et_not (et_B (eu_2 (ev_var (i := 3) rfl) (ev_var (i := 4) rfl))))) (eb_ret ev_bl (fun _ => rfl)) (eb_nx ⟨(s45).dropLast, (Wk.eq (Wk.eq (Wk.eq (Wk.no (Wk.no Wk.nil))))), rfl⟩))))))))) (fun s45 => (eb_at [.val v_told, .val v_due, .own (.lst s45), .no, .no] (eb_retd ev_bl (fun _ => rfl)))) (fun _ => rfl)))))))
theorem gf__law_same (C : Ctx K mg) {cl : Nat → Option Addr} : GU P w K mg base cl "_law_same" 2 ["told", "due"] (A2 _law_same_m) := by
  obtain ⟨fa, fd, hm, F, h⟩ := gk__law_same (P := P) (w := w) (base := base) C (cl := cl)
  exact ⟨fa, fd, hm, F.kp, F.binds (fun _ _ _ _ _ _ us hl => match us, hl with | [_, _], _ => rfl), h⟩
theorem gk__law_all (C : Ctx K mg) {cl : Nat → Option Addr} : ∃ fa fd, mg "_law_all" = some (.ref fa) ∧ Fun K "_law_all" "_law_all" s__law_all fa fd ∧ FnOk P w K mg base CX0 3 fa fd ["pairs"] (spU K cl 1 (A1 _law_all_m)) := by
  have g__law_same := gf__law_same (P := P) (w := w) (base := base) C (cl := cl)
  obtain ⟨fa, fd, hm, Fn0⟩ := C.f__law_all
  refine ⟨fa, fd, hm, Fn0, Fn0.ok sc__law_all spU_len (fun cdv A outer s H vs Q E hr h => ?_)⟩
  refine ⟨_, (pss_one (ps_ret (pe_cmpR (oEq (K := K) hr) (pe_callB (kLen (K := K)) (by rfl) C.z_len bt_len (pa_cons (pe_lc rfl sc__law_all.nd (kSrc (K := K) (pv 0)) (blkOk_by (own := [("told", 1), ("due", 2)]) (by rfl)) (fun _ _ _ _ _ => (kGTup (K := K) (n := 2) (pgs_cons (pg_name (i := 1) sc__law_all.nd rfl (by first | exact .inl rfl | exact .inr rfl)) (pgs_cons (pg_name (i := 2) sc__law_all.nd rfl (by first | exact .inl rfl | exact .inr rfl)) pgs_nil)))) (fun _ _ _ _ _ => (pts_one (pt_not (pt_val (kGu (K := K) g__law_same hr (by decide) (by rfl) (pa_cons (pv 1) (pa_cons (pv 2) pa_nil))))))) (fun _ _ _ _ _ => (pv 1))) pa_nil)) pe_int (nomark _)))), spU_run (n := 1) (by decide) (fun a l ds hl => ?_) h⟩
  match ds, hl with
  | [v_pairs], _ =>
    show EvB (ghd a l) (tb K cl (ptd a)) _ [.val v_pairs, .no, .no] (_law_all_m v_pairs) (cFn (ghd a l))
    unfold _law_all_m
    exact (eb_retd (ev_op okEq (ev_cb okLen (ea_cons (EvN.toD (en_lc (ei_src (es_val (ev_var (i := 0) rfl))) (ekf (eg_2 (i := 1) (j := 2)) (wp_2 (by decide) (by decide)) (fun p2 => (et_not (et_B (eu_2 (ev_var (i := 1) rfl) (ev_var (i := 2) rfl))))) (fun p2 => (ev_var (i := 1) rfl))))) ea_nil)) ev_int) (fun _ => rfl))
theorem gf__law_all (C : Ctx K mg) {cl : Nat → Option Addr} : GU P w K mg base cl "_law_all" 3 ["pairs"] (A1 _law_all_m) := by
  obtain ⟨fa, fd, hm, F, h⟩ := gk__law_all (P := P) (w := w) (base := base) C (cl := cl)
  exact ⟨fa, fd, hm, F.kp, F.binds (fun _ _ _ _ _ _ us hl => match us, hl with | [_], _ => rfl), h⟩
theorem gk__law_put (C : Ctx K mg) {cl : Nat → Option Addr} : ∃ fa fd, mg "_law_put" = some (.ref fa) ∧ Fun K "_law_put" "_law_put" s__law_put fa fd ∧ FnOk P w K mg base CX0 1 fa fd ["row", "at", "thing"] (spU K cl 3 (A3 _law_put_m)) := by
  obtain ⟨fa, fd, hm, Fn0⟩ := C.f__law_put
  refine ⟨fa, fd, hm, Fn0, Fn0.ok sc__law_put spU_len (fun cdv A outer s H vs Q E hr h => ?_)⟩
  refine ⟨_, (pss_one (ps_ret (pe_op (oAdd (K := K)) (pe_op (oAdd (K := K)) (pe_slice (kSl (K := K)) (pv 0) po_none (po_some (pv 1))) (pe_tup (pa_cons (pv 2) pa_nil))) (pe_slice (kSl (K := K)) (pv 0) (po_some (pe_op (oAdd (K := K)) (pv 1) pe_int)) po_none)))), spU_run (n := 3) (by decide) (fun a l ds hl => ?_) h⟩
  match ds, hl with
  | [v_row, v_at, v_thing], _ =>
    show EvB (ghd a l) (tb K cl (ptd a)) _ [.val v_row, .val v_at, .val v_thing] (_law_put_m v_row v_at v_thing) (cFn (ghd a l))
    unfold _law_put_m
    exact (eb_retd (ev_op okAdd (ev_op okAdd (ev_sl (ev_var (i := 0) rfl) eo_none (eo_some (ev_var (i := 1) rfl))) (ev_tup (ea_cons (ev_var (i := 2) rfl) ea_nil))) (ev_sl (ev_var (i := 0) rfl) (eo_some (ev_op okAdd (ev_var (i := 1) rfl) ev_int)) eo_none)) (fun _ => rfl))
theorem gf__law_put (C : Ctx K mg) {cl : Nat → Option Addr} : GU P w K mg base cl "_law_put" 1 ["row", "at", "thing"] (A3 _law_put_m) := by
  obtain ⟨fa, fd, hm, F, h⟩ := gk__law_put (P := P) (w := w) (base := base) C (cl := cl)
  exact ⟨fa, fd, hm, F.kp, F.binds (fun _ _ _ _ _ _ us hl => match us, hl with | [_, _, _], _ => rfl), h⟩
theorem gk__law_sum (C : Ctx K mg) {cl : Nat → Option Addr} : ∃ fa fd, mg "_law_sum" = some (.ref fa) ∧ Fun K "_law_sum" "_law_sum" s__law_sum fa fd ∧ FnOk P w K mg base CX0 1 fa fd ["text"] (spU K cl 1 (A1 _law_sum_m)) := by
  obtain ⟨fa, fd, hm, Fn0⟩ := C.f__law_sum
  refine ⟨fa, fd, hm, Fn0, Fn0.ok sc__law_sum spU_len (fun cdv A outer s H vs Q E hr h => ?_)⟩
  refine ⟨_, (pss_cons (ps_set (i := 1) sc__law_sum.nd rfl (by first | exact .inl rfl | exact .inr rfl) pe_int) (pss_cons (ps_for PassesOwn.never rfl (kSrc (K := K) (pv 0)) (pg_name (i := 2) sc__law_sum.nd rfl (by first | exact .inl rfl | exact .inr rfl)) (pss_one (ps_set (i := 1) sc__law_sum.nd rfl (by first | exact .inl rfl | exact .inr rfl) (pe_op op_mod (pe_callTy clInt (by rfl) C.z_int bt_int (pa_cons (pe_op (oAdd (K := K)) (pe_op opMul pe_int (pv 1)) (pe_callB call_ord (by rfl) C.z_ord bt_ord (pa_cons (pv 2) pa_nil))) pa_nil)) pe_int)))) (pss_one (ps_ret (pv 1))))), spU_run (n := 1) (by decide) (fun a l ds hl => ?_) h⟩
  match ds, hl with
  | [v_text], _ =>
    show EvB (ghd a l) (tb K cl (ptd a)) _ [.val v_text, .no, .no] (_law_sum_m v_text) (cFn (ghd a l))
    unfold _law_sum_m
    exact (eb_seq (eb_asg (i := 1) ev_int (fun v_found_1 => (eb_at [.val v_text, .val v_found_1, .no] (eb_seq (eb_for (gh := ghd a l) (T := tb K cl (ptd a)) (k := (fun p3 s17 => _law_sum_l1 v_text p3 s17)) (fun (s17 : D) => [.val v_text, .val s17, .no]) v_found_1 (ei_src (es_val (ev_var (i := 0) rfl))) (Wk.eq (Wk.eq (Wk.no Wk.nil))) (fun _ => (eg_1 (i := 2))) (fun s17 p3 => by unfold _law_sum_l1; exact (eb_at [.val v_text, .val s17, .val p3] (eb_asg (i := 1) (ev_op okMod (ev_cb okInt (ea_cons (ev_op okAdd (ev_op okMul ev_int (ev_var (i := 1) rfl)) (ev_cb okOrdC (ea_cons (ev_var (i := 2) rfl) ea_nil))) ea_nil)) ev_int) (fun v_found_32 => ⟨v_found_32, (Wk.eq (Wk.eq (Wk.no Wk.nil))), rfl⟩)))) (fun s17 => (eb_at [.val v_text, .val s17, .no] (eb_retd (ev_var (i := 1) rfl) (fun _ => rfl))))))))))
theorem gf__law_sum (C : Ctx K mg) {cl : Nat → Option Addr} : GU P w K mg base cl "_law_sum" 1 ["text"] (A1 _law_sum_m) := by
  obtain ⟨fa, fd, hm, F, h⟩ := gk__law_sum (P := P) (w := w) (base := base) C (cl := cl)
  exact ⟨fa, fd, hm, F.kp, F.binds (fun _ _ _ _ _ _ us hl => match us, hl with | [_], _ => rfl), h⟩
theorem gk__law_summed (C : Ctx K mg) {cl : Nat → Option Addr} : ∃ fa fd, mg "_law_summed" = some (.ref fa) ∧ Fun K "_law_summed" "_law_summed" s__law_summed fa fd ∧ FnOk P w K mg base CX0 2 fa fd ["text"] (spU K cl 1 (A1 _law_summed_m)) := by
  have g__law_sum := gf__law_sum (P := P) (w := w) (base := base) C (cl := cl)
  obtain ⟨fa, fd, hm, Fn0⟩ := C.f__law_summed
  refine ⟨fa, fd, hm, Fn0, Fn0.ok sc__law_summed spU_len (fun cdv A outer s H vs Q E hr h => ?_)⟩
  refine ⟨_, (pss_one (ps_ret (pe_op (oAdd (K := K)) (pe_op (oAdd (K := K)) (pv 0) pe_str) (pe_callTy call_str_int (by rfl) C.z_str bt_str (pa_cons (kGu (K := K) g__law_sum hr (by decide) (by rfl) (pa_cons (pv 0) pa_nil)) pa_nil))))), spU_run (n := 1) (by decide) (fun a l ds hl => ?_) h⟩
  match ds, hl with
  | [v_text], _ =>
    show EvB (ghd a l) (tb K cl (ptd a)) _ [.val v_text] (_law_summed_m v_text) (cFn (ghd a l))
    unfold _law_summed_m
    exact (eb_retd (ev_op okAdd (ev_op okAdd (ev_var (i := 0) rfl) ev_str) (ev_cb okStr (ea_cons (eu_1 (ev_var (i := 0) rfl)) ea_nil))) (fun _ => rfl))
theorem gf__law_summed (C : Ctx K mg) {cl : Nat → Option Addr} : GU P w K mg base cl "_law_summed" 2 ["text"] (A1 _law_summed_m) := by
  obtain ⟨fa, fd, hm, F, h⟩ := gk__law_summed (P := P) (w := w) (base := base) C (cl := cl)
  exact ⟨fa, fd, hm, F.kp, F.binds (fun _ _ _ _ _ _ us hl => match us, hl with | [_], _ => rfl), h⟩
theorem gk__law_leaf_lines (C : Ctx K mg) {cl : Nat → Option Addr} : ∃ fa fd, mg "_law_leaf_lines" = some (.ref fa) ∧ Fun K "_law_leaf_lines" "_law_leaf_lines" s__law_leaf_lines fa fd ∧ FnOk P w K mg base CX0 1 fa fd ["name", "party", "leaf"] (spU K cl 3 (A3 _law_leaf_lines_m)) := by
  obtain ⟨fa, fd, hm, Fn0⟩ := C.f__law_leaf_lines
  refine ⟨fa, fd, hm, Fn0, Fn0.ok sc__law_leaf_lines spU_len (fun cdv A outer s H vs Q E hr h => ?_)⟩
  refine ⟨_, (pss_one (ps_ret (pe_op (oAdd (K := K)) (pe_lst (pa_cons (pe_op (oAdd (K := K)) (pe_op (oAdd (K := K)) (pe_op (oAdd (K := K)) pe_str (pv 0)) pe_str) (pe_callTy call_str_int (by rfl) C.z_str bt_str (pa_cons (pv 1) pa_nil))) pa_nil)) (pe_lc rfl sc__law_leaf_lines.nd (kEnum (K := K) (by rfl) C.z_enumerate (pa_cons (pv 2) pa_nil)) (blkOk_by (own := [("time", 3), ("place", 4)]) (by rfl)) (fun _ _ _ _ _ => (kGTup (K := K) (n := 2) (pgs_cons (pg_name (i := 3) sc__law_leaf_lines.nd rfl (by first | exact .inl rfl | exact .inr rfl)) (pgs_cons (pg_name (i := 4) sc__law_leaf_lines.nd rfl (by first | exact .inl rfl | exact .inr rfl)) pgs_nil)))) (fun _ _ _ _ _ => pts_nil) (fun _ _ _ _ _ => (pe_op (oAdd (K := K)) (pe_op (oAdd (K := K)) (pe_op (oAdd (K := K)) pe_str (pe_callTy call_str_int (by rfl) C.z_str bt_str (pa_cons (pv 3) pa_nil))) pe_str) (pe_callTy call_str_int (by rfl) C.z_str bt_str (pa_cons (pv 4) pa_nil)))))))), spU_run (n := 3) (by decide) (fun a l ds hl => ?_) h⟩
  match ds, hl with
  | [v_name, v_party, v_leaf], _ =>
    show EvB (ghd a l) (tb K cl (ptd a)) _ [.val v_name, .val v_party, .val v_leaf, .no, .no] (_law_leaf_lines_m v_name v_party v_leaf) (cFn (ghd a l))
    unfold _law_leaf_lines_m
    exact (eb_retd (EvN.toD (en_cat (eq_new (en_lst (ea_cons (ev_op okAdd (ev_op okAdd (ev_op okAdd ev_str (ev_var (i := 0) rfl)) ev_str) (ev_cb okStr (ea_cons (ev_var (i := 1) rfl) ea_nil))) ea_nil))) (eq_new (en_lc (ei_enum (es_val (ev_var (i := 2) rfl))) (ek (eg_2 (i := 3) (j := 4)) (wp_2 (by decide) (by decide)) (fun p14 => (ev_op okAdd (ev_op okAdd (ev_op okAdd ev_str (ev_cb okStr (ea_cons (ev_var (i := 3) rfl) ea_nil))) ev_str) (ev_cb okStr (ea_cons (ev_var (i := 4) rfl) ea_nil))))))))) (fun _ => rfl))
theorem gf__law_leaf_lines (C : Ctx K mg) {cl : Nat → Option Addr} : GU P w K mg base cl "_law_leaf_lines" 1 ["name", "party", "leaf"] (A3 _law_leaf_lines_m) := by
  obtain ⟨fa, fd, hm, F, h⟩ := gk__law_leaf_lines (P := P) (w := w) (base := base) C (cl := cl)
  exact ⟨fa, fd, hm, F.kp, F.binds (fun _ _ _ _ _ _ us hl => match us, hl with | [_, _, _], _ => rfl), h⟩
theorem gk__law_leaf_text (C : Ctx K mg) {cl : Nat → Option Addr} : ∃ fa fd, mg "_law_leaf_text" = some (.ref fa) ∧ Fun K "_law_leaf_text" "_law_leaf_text" s__law_leaf_text fa fd ∧ FnOk P w K mg base CX0 3 fa fd ["name", "party", "leaf"] (spU K cl 3 (A3 _law_leaf_text_m)) := by
  have g__law_summed := gf__law_summed (P := P) (w := w) (base := base) C (cl := cl)
  have g__law_leaf_lines := gf__law_leaf_lines (P := P) (w := w) (base := base) C (cl := cl)
  obtain ⟨fa, fd, hm, Fn0⟩ := C.f__law_leaf_text
  refine ⟨fa, fd, hm, Fn0, Fn0.ok sc__law_leaf_text spU_len (fun cdv A outer s H vs Q E hr h => ?_)⟩
  refine ⟨_, (pss_one (ps_ret (kJoin (K := K) pe_str (pe_lc rfl sc__law_leaf_text.nd (kSrc (K := K) (kGu (K := K) g__law_leaf_lines hr (by decide) (by rfl) (pa_cons (pv 0) (pa_cons (pv 1) (pa_cons (pv 2) pa_nil))))) (blkOk_by (own := [("line", 3)]) (by rfl)) (fun _ _ _ _ _ => (pg_name (i := 3) sc__law_leaf_text.nd rfl (by first | exact .inl rfl | exact .inr rfl))) (fun _ _ _ _ _ => pts_nil) (fun _ _ _ _ _ => (kGu (K := K) g__law_summed hr (by decide) (by rfl) (pa_cons (pv 3) pa_nil))))))), spU_run (n := 3) (by decide) (fun a l ds hl => ?_) h⟩
  match ds, hl with
  | [v_name, v_party, v_leaf], _ =>
    show EvB (ghd a l) (tb K cl (ptd a)) _ [.val v_name, .val v_party, .val v_leaf, .no] (_law_leaf_text_m v_name v_party v_leaf) (cFn (ghd a l))
    unfold _law_leaf_text_m
    exact (eb_retd (ev_m1 okJoin ev_str (EvN.toD (en_lc (ei_src (es_val (eu_3 (ev_var (i := 0) rfl) (ev_var (i := 1) rfl) (ev_var (i := 2) rfl)))) (ek_1 (by decide) (fun v_line_5 => (eu_1 (ev_var (i := 3) rfl))))))) (fun _ => rfl))
theorem gf__law_leaf_text (C : Ctx K mg) {cl : Nat → Option Addr} : GU P w K mg base cl "_law_leaf_text" 3 ["name", "party", "leaf"] (A3 _law_leaf_text_m) := by
  obtain ⟨fa, fd, hm, F, h⟩ := gk__law_leaf_text (P := P) (w := w) (base := base) C (cl := cl)
  exact ⟨fa, fd, hm, F.kp, F.binds (fun _ _ _ _ _ _ us hl => match us, hl with | [_, _, _], _ => rfl), h⟩
theorem gk__law_is_number_text (C : Ctx K mg) {cl : Nat → Option Addr} : ∃ fa fd, mg "_law_is_number_text" = some (.ref fa) ∧ Fun K "_law_is_number_text" "_law_is_number_text" s__law_is_number_text fa fd ∧ FnOk P w K mg base CX0 1 fa fd ["text"] (spU K cl 1 (A1 _law_is_number_text_m)) := by
  obtain ⟨fa, fd, hm, Fn0⟩ := C.f__law_is_number_text
  refine ⟨fa, fd, hm, Fn0, Fn0.ok sc__law_is_number_text spU_len (fun cdv A outer s H vs Q E hr h => ?_)⟩
  refine ⟨_, (pss_one (ps_ret (pe_and (pe_cmpR (oNe (K := K) hr) (pv 0) pe_str (nomark _)) (pe_and (pe_cmpR (oEq (K := K) hr) (pe_callB (kLen (K := K)) (by rfl) C.z_len bt_len (pa_cons (pe_lc rfl sc__law_is_number_text.nd (kSrc (K := K) (pv 0)) (blkOk_by (own := [("sign", 1)]) (by rfl)) (fun _ _ _ _ _ => (pg_name (i := 1) sc__law_is_number_text.nd rfl (by first | exact .inl rfl | exact .inr rfl))) (fun _ _ _ _ _ => (pts_one (pt_cmpR (oNi (K := K) hr) (pv 1) pe_str (by with_unfolding_all rfl)))) (fun _ _ _ _ _ => (pv 1))) pa_nil)) pe_int (nomark _)) (pe_one (pe_or (pe_cmpR (oEq (K := K) hr) (pv 0) pe_str (nomark _)) (pe_one (pe_cmpR (oNe (K := K) hr) (pe_ix (kIx (K := K)) (pv 0) pe_int (fun _ _ => rfl)) pe_str (nomark _))))))))), spU_run (n := 1) (by decide) (fun a l ds hl => ?_) h⟩
  match ds, hl with
  | [v_text], _ =>
    show EvB (ghd a l) (tb K cl (ptd a)) _ [.val v_text, .no] (_law_is_number_text_m v_text) (cFn (ghd a l))
    unfold _law_is_number_text_m
    exact (eb_retd (ev_and (ev_op okNe (ev_var (i := 0) rfl) ev_str) (ev_and (ev_op okEq (ev_cb okLen (ea_cons (EvN.toD (en_lc (ei_src (es_val (ev_var (i := 0) rfl))) (ek_1f (by decide) (fun v_sign_4 => (et_test (ev_op okNi (ev_var (i := 1) rfl) ev_str))) (fun v_sign_4 => (ev_var (i := 1) rfl))))) ea_nil)) ev_int) (ev_or (ev_op okEq (ev_var (i := 0) rfl) ev_str) (ev_op okNe (ev_op okIx (ev_var (i := 0) rfl) ev_int) ev_str)))) (fun _ => rfl))
theorem gf__law_is_number_text (C : Ctx K mg) {cl : Nat → Option Addr} : GU P w K mg base cl "_law_is_number_text" 1 ["text"] (A1 _law_is_number_text_m) := by
  obtain ⟨fa, fd, hm, F, h⟩ := gk__law_is_number_text (P := P) (w := w) (base := base) C (cl := cl)
  exact ⟨fa, fd, hm, F.kp, F.binds (fun _ _ _ _ _ _ us hl => match us, hl with | [_], _ => rfl), h⟩
theorem gk__law_is_name_text (C : Ctx K mg) {cl : Nat → Option Addr} : ∃ fa fd, mg "_law_is_name_text" = some (.ref fa) ∧ Fun K "_law_is_name_text" "_law_is_name_text" s__law_is_name_text fa fd ∧ FnOk P w K mg base CX0 1 fa fd ["text"] (spU K cl 1 (A1 _law_is_name_text_m)) := by
  obtain ⟨fa, fd, hm, Fn0⟩ := C.f__law_is_name_text
  refine ⟨fa, fd, hm, Fn0, Fn0.ok sc__law_is_name_text spU_len (fun cdv A outer s H vs Q E hr h => ?_)⟩
  refine ⟨_, (pss_one (ps_ret (pe_and (pe_chain opLt opLt pe_int (pe_callB (kLen (K := K)) (by rfl) C.z_len bt_len (pa_cons (pv 0) pa_nil)) pe_int) (pe_one (pe_cmpR (oEq (K := K) hr) (pe_callB (kLen (K := K)) (by rfl) C.z_len bt_len (pa_cons (pe_lc rfl sc__law_is_name_text.nd (kSrc (K := K) (pv 0)) (blkOk_by (own := [("sign", 1)]) (by rfl)) (fun _ _ _ _ _ => (pg_name (i := 1) sc__law_is_name_text.nd rfl (by first | exact .inl rfl | exact .inr rfl))) (fun _ _ _ _ _ => (pts_one (pt_cmpR (oNi (K := K) hr) (pv 1) pe_str (by with_unfolding_all rfl)))) (fun _ _ _ _ _ => (pv 1))) pa_nil)) pe_int (nomark _)))))), spU_run (n := 1) (by decide) (fun a l ds hl => ?_) h⟩
  match ds, hl with
  | [v_text], _ =>
    show EvB (ghd a l) (tb K cl (ptd a)) _ [.val v_text, .no] (_law_is_name_text_m v_text) (cFn (ghd a l))
    unfold _law_is_name_text_m
    exact (eb_retd (ev_and (ev_chain okLt okLt ev_int (ev_cb okLen (ea_cons (ev_var (i := 0) rfl) ea_nil)) ev_int) (ev_op okEq (ev_cb okLen (ea_cons (EvN.toD (en_lc (ei_src (es_val (ev_var (i := 0) rfl))) (ek_1f (by decide) (fun v_sign_5 => (et_test (ev_op okNi (ev_var (i := 1) rfl) ev_str))) (fun v_sign_5 => (ev_var (i := 1) rfl))))) ea_nil)) ev_int)) (fun _ => rfl))
theorem gf__law_is_name_text (C : Ctx K mg) {cl : Nat → Option Addr} : GU P w K mg base cl "_law_is_name_text" 1 ["text"] (A1 _law_is_name_text_m) := by
  obtain ⟨fa, fd, hm, F, h⟩ := gk__law_is_name_text (P := P) (w := w) (base := base) C (cl := cl)
  exact ⟨fa, fd, hm, F.kp, F.binds (fun _ _ _ _ _ _ us hl => match us, hl with | [_], _ => rfl), h⟩
theorem gk__law_words (C : Ctx K mg) {cl : Nat → Option Addr} : ∃ fa fd, mg "_law_words" = some (.ref fa) ∧ Fun K "_law_words" "_law_words" s__law_words fa fd ∧ FnOk P w K mg base CX0 2 fa fd ["line"] (spU K cl 1 (A1 _law_words_m)) := by
  have g__law_is_number_text := gf__law_is_number_text (P := P) (w := w) (base := base) C (cl := cl)
  have g__law_sum := gf__law_sum (P := P) (w := w) (base := base) C (cl := cl)
  obtain ⟨fa, fd, hm, Fn0⟩ := C.f__law_words
  refine ⟨fa, fd, hm, Fn0, Fn0.ok sc__law_words spU_len (fun cdv A outer s H vs Q E hr h => ?_)⟩
  refine ⟨_, (pss_cons (ps_set (i := 1) sc__law_words.nd rfl (by first | exact .inl rfl | exact .inr rfl) (pe_m1 F.slot_str_rfind F.type_str_rfind mt_rfind (pv 0) pe_str)) (pss_cons (ps_if ((pw_or (pt_cmpR opLt (pv 1) pe_int (nomark _)) (pw_or (pt_cmpR (oNe (K := K) hr) (pe_slice (kSl (K := K)) (pv 0) (po_some (pe_op (oAdd (K := K)) (pv 1) pe_int)) (po_some (pe_op (oAdd (K := K)) (pv 1) pe_int))) pe_str (nomark _)) (pw_or (pt_not (pt_val (kGu (K := K) g__law_is_number_text hr (by decide) (by rfl) (pa_cons (pe_slice (kSl (K := K)) (pv 0) (po_some (pe_op (oAdd (K := K)) (pv 1) pe_int)) po_none) pa_nil)))) (pw_or1 (pt_cmpR (oNe (K := K) hr) (pe_slice (kSl (K := K)) (pv 0) (po_some (pe_op (oAdd (K := K)) (pv 1) pe_int)) po_none) (pe_callTy call_str_int (by rfl) C.z_str bt_str (pa_cons (kGu (K := K) g__law_sum hr (by decide) (by rfl) (pa_cons (pe_slice (kSl (K := K)) (pv 0) po_none (po_some (pv 1))) pa_nil)) pa_nil)) (nomark _))))))).pt (pss_one (ps_ret (pe_tup pa_nil))) pss_nil) (pss_one (ps_ret (pe_callTy (kTupOf (K := K)) (by rfl) C.z_tuple bt_tuple (pa_cons (pe_split (pe_slice (kSl (K := K)) (pv 0) po_none (po_some (pv 1))) pe_str) pa_nil)))))), spU_run (n := 1) (by decide) (fun a l ds hl => ?_) h⟩
  match ds, hl with
  | [v_line], _ =>
    show EvB (ghd a l) (tb K cl (ptd a)) _ [.val v_line, .no] (_law_words_m v_line) (cFn (ghd a l))
    unfold _law_words_m
    exact (eb_seq (eb_asg (i := 1) (ev_m1 okRfind (ev_var (i := 0) rfl) ev_str) (fun v_at_4 => (eb_at [.val v_line, .val v_at_4] (eb_seq (eb_if (et_or (et_test (ev_op okLt (ev_var (i := 1) rfl) ev_int)) (et_or (et_test (ev_op okNe (ev_sl (ev_var (i := 0) rfl) (eo_some (ev_op okAdd (ev_var (i := 1) rfl) ev_int)) (eo_some (ev_op okAdd (ev_var (i := 1) rfl) ev_int))) ev_str)) (et_or (et_not (et_B (eu_1 (ev_sl (ev_var (i := 0) rfl) (eo_some (ev_op okAdd (ev_var (i := 1) rfl) ev_int)) eo_none)))) (et_test (ev_op okNe (ev_sl (ev_var (i := 0) rfl) (eo_some (ev_op okAdd (ev_var (i := 1) rfl) ev_int)) eo_none) (ev_cb okStr (ea_cons (eu_1 (ev_sl (ev_var (i := 0) rfl) eo_none (eo_some (ev_var (i := 1) rfl)))) ea_nil))))))) (eb_retd (ev_tup ea_nil) (fun _ => rfl)) (eb_nx (eb_at [.val v_line, .val v_at_4] (eb_retd (ev_cb okTup (ea_cons (ev_m1 okSplit (ev_sl (ev_var (i := 0) rfl) eo_none (eo_some (ev_var (i := 1) rfl))) ev_str) ea_nil)) (fun _ => rfl))))))))))
theorem gf__law_words (C : Ctx K mg) {cl : Nat → Option Addr} : GU P w K mg base cl "_law_words" 2 ["line"] (A1 _law_words_m) := by
  obtain ⟨fa, fd, hm, F, h⟩ := gk__law_words (P := P) (w := w) (base := base) C (cl := cl)
  exact ⟨fa, fd, hm, F.kp, F.binds (fun _ _ _ _ _ _ us hl => match us, hl with | [_], _ => rfl), h⟩
theorem gk__law_read (C : Ctx K mg) {cl : Nat → Option Addr} : ∃ fa fd, mg "_law_read" = some (.ref fa) ∧ Fun K "_law_read" "_law_read" s__law_read fa fd ∧ FnOk P w K mg base CX0 3 fa fd ["text"] (spU K cl 1 (A1 _law_read_m)) := by
  have g__law_words := gf__law_words (P := P) (w := w) (base := base) C (cl := cl)
  have g__law_is_name_text := gf__law_is_name_text (P := P) (w := w) (base := base) C (cl := cl)
  have g__law_is_number_text := gf__law_is_number_text (P := P) (w := w) (base := base) C (cl := cl)
  obtain ⟨fa, fd, hm, Fn0⟩ := C.f__law_read
  refine ⟨fa, fd, hm, Fn0, Fn0.ok sc__law_read spU_len (fun cdv A outer s H vs Q E hr h => ?_)⟩
  refine ⟨_, (pss_cons (ps_if (pt_not (pt_val (pe_callB (kIsi (K := K)) (by rfl) C.z_isinstance bt_isinstance (pa_cons (pv 0) (pa_cons (pe_bltn (v := .ty "str") (by rfl) C.z_str bt_str rfl) pa_nil))))) (pss_one (ps_ret pe_non)) pss_nil) (pss_cons (ps_set (i := 1) sc__law_read.nd rfl (by first | exact .inl rfl | exact .inr rfl) (pe_split (pv 0) pe_str)) (pss_cons (ps_par (i := 3) (j := 4) rfl sc__law_read.nd rfl rfl (by decide) rfl rfl (pa_cons (kGu (K := K) g__law_words hr (by decide) (by rfl) (pa_cons (pe_ix (kIx (K := K)) (pv 1) pe_int (fun _ _ => rfl)) pa_nil)) (pa_cons (pe_tup pa_nil) pa_nil)) rfl) (pss_cons (ps_if ((pw_or (pt_cmpR (oNe (K := K) hr) (pe_callB (kLen (K := K)) (by rfl) C.z_len bt_len (pa_cons (pv 3) pa_nil)) pe_int (nomark _)) (pw_or (pt_cmpR (oNe (K := K) hr) (pe_ix (kIx (K := K)) (pv 3) pe_int (fun _ _ => rfl)) pe_str (nomark _)) (pw_or (pt_not (pt_val (kGu (K := K) g__law_is_name_text hr (by decide) (by rfl) (pa_cons (pe_ix (kIx (K := K)) (pv 3) pe_int (fun _ _ => rfl)) pa_nil)))) (pw_or1 (pt_not (pt_val (kGu (K := K) g__law_is_number_text hr (by decide) (by rfl) (pa_cons (pe_ix (kIx (K := K)) (pv 3) pe_int (fun _ _ => rfl)) pa_nil))))))))).pt (pss_one (ps_ret pe_non)) pss_nil) (pss_cons (ps_for PassesOwn.never rfl (pi_range1 (by rfl) C.z_range (pa_cons (pe_op opSub (pe_callB (kLen (K := K)) (by rfl) C.z_len bt_len (pa_cons (pv 1) pa_nil)) pe_int) pa_nil)) (pg_name (i := 2) sc__law_read.nd rfl (by first | exact .inl rfl | exact .inr rfl)) (pss_cons (ps_set (i := 5) sc__law_read.nd rfl (by first | exact .inl rfl | exact .inr rfl) (kGu (K := K) g__law_words hr (by decide) (by rfl) (pa_cons (pe_ix (kIx (K := K)) (pv 1) (pe_op (oAdd (K := K)) (pv 2) pe_int) (fun _ _ => rfl)) pa_nil))) (pss_cons (ps_if ((pw_or (pt_cmpR (oNe (K := K) hr) (pe_callB (kLen (K := K)) (by rfl) C.z_len bt_len (pa_cons (pv 5) pa_nil)) pe_int (nomark _)) (pw_or (pt_cmpR (oNe (K := K) hr) (pe_ix (kIx (K := K)) (pv 5) pe_int (fun _ _ => rfl)) pe_str (nomark _)) (pw_or (pt_cmpR (oNe (K := K) hr) (pe_ix (kIx (K := K)) (pv 5) pe_int (fun _ _ => rfl)) (pe_callTy call_str_int (by rfl) C.z_str bt_str (pa_cons (pv 2) pa_nil)) (nomark _)) (pw_or (pt_cmpR (oNe (K := K) hr) (pe_ix (kIx (K := K)) (pv 5) pe_int (fun _ _ => rfl)) pe_str (nomark _)) (pw_or1 (pt_not (pt_val (kGu (K := K) g__law_is_number_text hr (by decide) (by rfl) (pa_cons (pe_ix (kIx (K := K)) (pv 5) pe_int (fun _ _ => rfl)) pa_nil)))))))))).pt (pss_one (ps_ret (pe_tup (pa_cons (pe_ix (kIx (K := K)) (pv 3) pe_int (fun _ _ => rfl)) (pa_cons (pe_callTy clInt (by rfl) C.z_int bt_int (pa_cons (pe_ix (kIx (K := K)) (pv 3) pe_int (fun _ _ => rfl)) pa_nil)) (pa_cons (pv 4) pa_nil)))))) pss_nil) (pss_one (ps_set (i := 4) sc__law_read.nd rfl (by first | exact .inl rfl | exact .inr rfl) (pe_op (oAdd (K := K)) (pv 4) (pe_tup (pa_cons (pe_callTy clInt (by rfl) C.z_int bt_int (pa_cons (pe_ix (kIx (K := K)) (pv 5) pe_int (fun _ _ => rfl)) pa_nil)) pa_nil)))))))) (pss_one (ps_ret (pe_tup (pa_cons (pe_ix (kIx (K := K)) (pv 3) pe_int (fun _ _ => rfl)) (pa_cons (pe_callTy clInt (by rfl) C.z_int bt_int (pa_cons (pe_ix (kIx (K := K)) (pv 3) pe_int (fun _ _ => rfl)) pa_nil)) (pa_cons (pv 4) pa_nil))))))))))), spU_run (n := 1) (by decide) (fun a l ds hl => ?_) h⟩
  match ds, hl with
  | [v_text], _ =>
    show EvB (ghd a l) (tb K cl (ptd a)) _ [.val v_text, .no, .no, .no, .no, .no] (_law_read_m v_text) (cFn (ghd a l))
    unfold _law_read_m
    exact (eb_seq (eb_if (et_not (et_B (ev_isi (n := .str) (ev_var (i := 0) rfl)))) (eb_retd ev_non (fun _ => rfl)) (eb_nx (eb_at [.val v_text, .no, .no, .no, .no, .no] (eb_seq (eb_asg (i := 1) (ev_m1 okSplit (ev_var (i := 0) rfl) ev_str) (fun v_lines_8 => (eb_at [.val v_text, .val v_lines_8, .no, .no, .no, .no] (eb_seq (eb_par (i := 3) (j := 4) (eu_1 (ev_op okIx (ev_var (i := 1) rfl) ev_int)) (ev_tup ea_nil) (fun v_words_13 v_found_14 => (eb_at [.val v_text, .val v_lines_8, .no, .val v_words_13, .val v_found_14, .no] (eb_seq (eb_if (et_or (et_test (ev_op okNe (ev_cb okLen (ea_cons (ev_var (i := 3) rfl) ea_nil)) ev_int)) (et_or (et_test (ev_op okNe (ev_op okIx (ev_var (i := 3) rfl) ev_int) ev_str)) (et_or (et_not (et_B (eu_1 (ev_op okIx (ev_var (i := 3) rfl) ev_int)))) (et_not (et_B (eu_1 (ev_op okIx (ev_var (i := 3) rfl) ev_int))))))) (eb_retd ev_non (fun _ => rfl)) (eb_nx (eb_at [.val v_text, .val v_lines_8, .no, .val v_words_13, .val v_found_14, .no] (eb_seq (eb_forM (gh := ghd a l) (T := tb K cl (ptd a)) (k := (fun p46 s113 => _law_read_l1 v_lines_8 v_words_13 p46 s113)) (fun (s113 : D) => [.val v_text, .val v_lines_8, .no, .val v_words_13, .val s113, .no]) v_found_14 (ei_rng1 (ev_op okSub (ev_cb okLen (ea_cons (ev_var (i := 1) rfl) ea_nil)) ev_int)) (Wk.eq (Wk.eq (Wk.no (Wk.eq (Wk.eq (Wk.no Wk.nil)))))) (fun _ => (eg_1 (i := 2))) (fun s113 p46 => by unfold _law_read_l1; exact (eb_at [.val v_text, .val v_lines_8, .val p46, .val v_words_13, .val s113, .no] (eb_seq (eb_asg (i := 5) (eu_1 (ev_op okIx (ev_var (i := 1) rfl) (ev_op okAdd (ev_var (i := 2) rfl) ev_int))) (fun v_late_136 => (eb_at [.val v_text, .val v_lines_8, .val p46, .val v_words_13, .val s113, .val v_late_136] (eb_seq (eb_if (et_or (et_test (ev_op okNe (ev_cb okLen (ea_cons (ev_var (i := 5) rfl) ea_nil)) ev_int)) (et_or (et_test (ev_op okNe (ev_op okIx (ev_var (i := 5) rfl) ev_int) ev_str)) (et_or (et_test (ev_op okNe (ev_op okIx (ev_var (i := 5) rfl) ev_int) (ev_cb okStr (ea_cons (ev_var (i := 2) rfl) ea_nil)))) (et_or (et_test (ev_op okNe (ev_op okIx (ev_var (i := 5) rfl) ev_int) ev_str)) (et_not (et_B (eu_1 (ev_op okIx (ev_var (i := 5) rfl) ev_int)))))))) (eb_ret (ev_tup (ea_cons (ev_op okIx (ev_var (i := 3) rfl) ev_int) (ea_cons (ev_cb okInt (ea_cons (ev_op okIx (ev_var (i := 3) rfl) ev_int) ea_nil)) (ea_cons (ev_var (i := 4) rfl) ea_nil)))) (fun _ => rfl)) (eb_nx (eb_at [.val v_text, .val v_lines_8, .val p46, .val v_words_13, .val s113, .val v_late_136] (eb_asg (i := 4) (ev_op okAdd (ev_var (i := 4) rfl) (ev_tup (ea_cons (ev_cb okInt (ea_cons (ev_op okIx (ev_var (i := 5) rfl) ev_int) ea_nil)) ea_nil))) (fun v_found_196 => ⟨v_found_196, (Wk.eq (Wk.eq (Wk.no (Wk.eq (Wk.eq (Wk.no Wk.nil)))))), rfl⟩)))))))))))) (fun s113 => (eb_at [.val v_text, .val v_lines_8, .no, .val v_words_13, .val s113, .no] (eb_retd (ev_tup (ea_cons (ev_op okIx (ev_var (i := 3) rfl) ev_int) (ea_cons (ev_cb okInt (ea_cons (ev_op okIx (ev_var (i := 3) rfl) ev_int) ea_nil)) (ea_cons (ev_var (i := 4) rfl) ea_nil)))) (fun _ => rfl)))) (fun _ => rfl)))))))))))))))))))
theorem gf__law_read (C : Ctx K mg) {cl : Nat → Option Addr} : GU P w K mg base cl "_law_read" 3 ["text"] (A1 _law_read_m) := by
  obtain ⟨fa, fd, hm, F, h⟩ := gk__law_read (P := P) (w := w) (base := base) C (cl := cl)
  exact ⟨fa, fd, hm, F.kp, F.binds (fun _ _ _ _ _ _ us hl => match us, hl with | [_], _ => rfl), h⟩
theorem gk__law_letters (C : Ctx K mg) {cl : Nat → Option Addr} : ∃ fa fd, mg "_law_letters" = some (.ref fa) ∧ Fun K "_law_letters" "_law_letters" s__law_letters fa fd ∧ FnOk P w K mg base CX0 3 fa fd ["deal"] (spU K cl 1 (A1 _law_letters_m)) := by
  have g__law_any := gf__law_any (P := P) (w := w) (base := base) C (cl := cl)
  have g__law_of := gf__law_of (P := P) (w := w) (base := base) C (cl := cl)
  obtain ⟨fa, fd, hm, Fn0⟩ := C.f__law_letters
  refine ⟨fa, fd, hm, Fn0, Fn0.ok sc__law_letters spU_len (fun cdv A outer s H vs Q E hr h => ?_)⟩
  refine ⟨_, (pss_cons (ps_if (pt_cmpR (oEq (K := K) hr) (kGu (K := K) g__law_any hr (by decide) (by rfl) (pa_cons (pv 0) (pa_cons pe_int pa_nil))) pe_int (nomark _)) (pss_one (ps_ret (kGu (K := K) g__law_of hr (by decide) (by rfl) (pa_cons (pv 0) (pa_cons (pe_lst (pa_cons pe_str (pa_cons pe_str (pa_cons pe_str (pa_cons pe_str (pa_cons pe_str pa_nil)))))) pa_nil))))) pss_nil) (pss_one (ps_ret (kJoin (K := K) pe_str (pe_lc rfl sc__law_letters.nd (pi_range1 (by rfl) C.z_range (pa_cons (pe_op (oAdd (K := K)) pe_int (kGu (K := K) g__law_any hr (by decide) (by rfl) (pa_cons (pv 0) (pa_cons pe_int pa_nil)))) pa_nil)) (blkOk_by (own := [("turn", 1)]) (by rfl)) (fun _ _ _ _ _ => (pg_name (i := 1) sc__law_letters.nd rfl (by first | exact .inl rfl | exact .inr rfl))) (fun _ _ _ _ _ => pts_nil) (fun _ _ _ _ _ => (pe_ix (kIx (K := K)) pe_str (kGu (K := K) g__law_any hr (by decide) (by rfl) (pa_cons (pv 0) (pa_cons pe_int pa_nil))) (fun _ _ => rfl)))))))), spU_run (n := 1) (by decide) (fun a l ds hl => ?_) h⟩
  match ds, hl with
  | [v_deal], _ =>
    show EvB (ghd a l) (tb K cl (ptd a)) _ [.val v_deal, .no] (_law_letters_m v_deal) (cFn (ghd a l))
    unfold _law_letters_m
    exact (eb_seq (eb_if (et_test (ev_op okEq (eu_2 (ev_var (i := 0) rfl) ev_int) ev_int)) (eb_retd (eu_2 (ev_var (i := 0) rfl) (EvN.toD (en_lst (ea_cons ev_str (ea_cons ev_str (ea_cons ev_str (ea_cons ev_str (ea_cons ev_str ea_nil)))))))) (fun _ => rfl)) (eb_nx (eb_at [.val v_deal, .no] (eb_retd (ev_m1 okJoin ev_str (EvN.toD (en_lc (ei_rng1 (ev_op okAdd ev_int (eu_2 (ev_var (i := 0) rfl) ev_int))) (ek_1 (by decide) (fun v_turn_25 => (ev_op okIx ev_str (eu_2 (ev_var (i := 0) rfl) ev_int))))))) (fun _ => rfl))))))
theorem gf__law_letters (C : Ctx K mg) {cl : Nat → Option Addr} : GU P w K mg base cl "_law_letters" 3 ["deal"] (A1 _law_letters_m) := by
  obtain ⟨fa, fd, hm, F, h⟩ := gk__law_letters (P := P) (w := w) (base := base) C (cl := cl)
  exact ⟨fa, fd, hm, F.kp, F.binds (fun _ _ _ _ _ _ us hl => match us, hl with | [_], _ => rfl), h⟩
theorem gk__law_leaf (C : Ctx K mg) {cl : Nat → Option Addr} : ∃ fa fd, mg "_law_leaf" = some (.ref fa) ∧ Fun K "_law_leaf" "_law_leaf" s__law_leaf fa fd ∧ FnOk P w K mg base CX0 4 fa fd ["deal"] (spU K cl 1 (A1 _law_leaf_m)) := by
  have g__law_of := gf__law_of (P := P) (w := w) (base := base) C (cl := cl)
  have g__law_letters := gf__law_letters (P := P) (w := w) (base := base) C (cl := cl)
  have g__law_any := gf__law_any (P := P) (w := w) (base := base) C (cl := cl)
  obtain ⟨fa, fd, hm, Fn0⟩ := C.f__law_leaf
  refine ⟨fa, fd, hm, Fn0, Fn0.ok sc__law_leaf spU_len (fun cdv A outer s H vs Q E hr h => ?_)⟩
  refine ⟨_, (pss_cons (ps_setLc (i := 1) rfl sc__law_leaf.nd rfl rfl (sw_true rfl rfl rfl rfl) (pi_range1 (by rfl) C.z_range (pa_cons (pe_op (oAdd (K := K)) pe_int (kGu (K := K) g__law_any hr (by decide) (by rfl) (pa_cons (pv 0) (pa_cons pe_int pa_nil)))) pa_nil)) (blkOk_by (own := [("turn", 2)]) (by rfl)) (fun _ _ _ _ _ => (pg_name (i := 2) sc__law_leaf.nd rfl (by first | exact .inl rfl | exact .inr rfl))) (fun _ _ _ _ _ => pts_nil) (fun _ _ _ _ _ => (kGu (K := K) g__law_of hr (by decide) (by rfl) (pa_cons (pv 0) (pa_cons (pe_lst (pa_cons (kGu (K := K) g__law_any hr (by decide) (by rfl) (pa_cons (pv 0) (pa_cons pe_int pa_nil))) (pa_cons (kGu (K := K) g__law_any hr (by decide) (by rfl) (pa_cons (pv 0) (pa_cons pe_int pa_nil))) (pa_cons pe_int (pa_cons pe_int pa_nil))))) pa_nil))))) (pss_one (ps_ret (pe_tup (pa_cons (kGu (K := K) g__law_letters hr (by decide) (by rfl) (pa_cons (pv 0) pa_nil)) (pa_cons (kGu (K := K) g__law_any hr (by decide) (by rfl) (pa_cons (pv 0) (pa_cons pe_int pa_nil))) (pa_cons (pe_callTy (kTupOf (K := K)) (by rfl) C.z_tuple bt_tuple (pa_cons (pv 1) pa_nil)) pa_nil))))))), spU_run (n := 1) (by decide) (fun a l ds hl => ?_) h⟩
  match ds, hl with
  | [v_deal], _ =>
    show EvB (ghd a l) (tb K cl (ptd a)) _ [.val v_deal, .no, .no] (_law_leaf_m v_deal) (cFn (ghd a l))
    unfold _law_leaf_m
    exact (eb_seq (eb_asgN (i := 1) (en_lc (ei_rng1 (ev_op okAdd ev_int (eu_2 (ev_var (i := 0) rfl) ev_int))) (ek_1 (by decide) (fun v_turn_6 => (eu_2 (ev_var (i := 0) rfl) (EvN.toD (en_lst (ea_cons (eu_2 (ev_var (i := 0) rfl) ev_int) (ea_cons (eu_2 (ev_var (i := 0) rfl) ev_int) (ea_cons ev_int (ea_cons ev_int ea_nil)))))))))) (fun v_places_27 => (eb_at [.val v_deal, .own (.lst v_places_27), .no] (eb_retd (ev_tup (ea_cons (eu_1 (ev_var (i := 0) rfl)) (ea_cons (eu_2 (ev_var (i := 0) rfl) ev_int) (ea_cons (ev_tupo (i := 1) rfl) ea_nil)))) (fun _ => rfl))))))
theorem gf__law_leaf (C : Ctx K mg) {cl : Nat → Option Addr} : GU P w K mg base cl "_law_leaf" 4 ["deal"] (A1 _law_leaf_m) := by
  obtain ⟨fa, fd, hm, F, h⟩ := gk__law_leaf (P := P) (w := w) (base := base) C (cl := cl)
  exact ⟨fa, fd, hm, F.kp, F.binds (fun _ _ _ _ _ _ us hl => match us, hl with | [_], _ => rfl), h⟩
theorem gk__law_bent_lines (C : Ctx K mg) {cl : Nat → Option Addr} : ∃ fa fd, mg "_law_bent_lines" = some (.ref fa) ∧ Fun K "_law_bent_lines" "_law_bent_lines" s__law_bent_lines fa fd ∧ FnOk P w K mg base CX0 3 fa fd ["deal", "name", "party", "leaf"] (spU K cl 4 (A4 _law_bent_lines_m)) := by
  have g__law_leaf_lines := gf__law_leaf_lines (P := P) (w := w) (base := base) C (cl := cl)
  have g__law_any := gf__law_any (P := P) (w := w) (base := base) C (cl := cl)
  have g__law_of := gf__law_of (P := P) (w := w) (base := base) C (cl := cl)
  obtain ⟨fa, fd, hm, Fn0⟩ := C.f__law_bent_lines
  refine ⟨fa, fd, hm, Fn0, Fn0.ok sc__law_bent_lines spU_len (fun cdv A outer s H vs Q E hr h => ?_)⟩
  refine ⟨_, (pss_cons (ps_set (i := 4) sc__law_bent_lines.nd rfl (by first | exact .inl rfl | exact .inr rfl) (kGu (K := K) g__law_leaf_lines hr (by decide) (by rfl) (pa_cons (pv 1) (pa_cons (pv 2) (pa_cons (pv 3) pa_nil))))) (pss_cons (ps_set (i := 5) sc__law_bent_lines.nd rfl (by first | exact .inl rfl | exact .inr rfl) (kGu (K := K) g__law_any hr (by decide) (by rfl) (pa_cons (pv 0) (pa_cons (pe_callB (kLen (K := K)) (by rfl) C.z_len bt_len (pa_cons (pv 4) pa_nil)) pa_nil)))) (pss_cons (ps_set (i := 6) sc__law_bent_lines.nd rfl (by first | exact .inl rfl | exact .inr rfl) (pe_lst (pa_strT (pat_cons (CwR.PET.of pe_str) (pat_cons (CwR.PET.of (pe_op (oAdd (K := K)) (pe_ix (kIx (K := K)) (pv 4) (pv 5) (fun _ _ => rfl)) pe_str)) (pat_cons (CwR.PET.of (pe_op (oAdd (K := K)) pe_str (pe_ix (kIx (K := K)) (pv 4) (pv 5) (fun _ _ => rfl)))) (pat_cons (CwR.pet_replC (pe_ix (kIx (K := K)) (pv 4) (pv 5) (fun _ _ => rfl))) (pat_cons (CwR.pet_replC (pe_ix (kIx (K := K)) (pv 4) (pv 5) (fun _ _ => rfl))) (pat_cons (CwR.PET.of (pe_op (oAdd (K := K)) (pe_ix (kIx (K := K)) (pv 4) (pv 5) (fun _ _ => rfl)) pe_str)) (pat_cons (CwR.PET.of (pe_slice (kSl (K := K)) (pe_ix (kIx (K := K)) (pv 4) (pv 5) (fun _ _ => rfl)) po_none (po_some (pe_un un_neg pe_int)))) pat_nil)))))))))) (pss_cons (ps_set (i := 6) sc__law_bent_lines.nd rfl (by first | exact .inl rfl | exact .inr rfl) (pe_op (oAdd (K := K)) (pv 6) (pe_lst (pa_cons (pe_op (oAdd (K := K)) pe_str (pv 1)) (pa_cons (pe_op (oAdd (K := K)) (pe_op (oAdd (K := K)) (pe_op (oAdd (K := K)) pe_str (pv 1)) (pe_op opMul pe_str pe_int)) pe_str) (pa_cons pe_str (pa_cons pe_str (pa_cons pe_str (pa_cons pe_str (pa_cons pe_str (pa_cons pe_str (pa_cons pe_str pa_nil)))))))))))) (pss_cons (ps_set (i := 6) sc__law_bent_lines.nd rfl (by first | exact .inl rfl | exact .inr rfl) (pe_op (oAdd (K := K)) (pv 6) (pe_lst (pa_cons (pe_op (oAdd (K := K)) (pe_op (oAdd (K := K)) pe_str (pe_callTy call_str_int (by rfl) C.z_str bt_str (pa_cons (pe_callB (kLen (K := K)) (by rfl) C.z_len bt_len (pa_cons (pv 3) pa_nil)) pa_nil))) pe_str) (pa_cons pe_str (pa_cons pe_str (pa_cons pe_str (pa_cons pe_str (pa_cons pe_str (pa_cons (pe_op (oAdd (K := K)) (pe_ix (kIx (K := K)) (pv 4) (pv 5) (fun _ _ => rfl)) pe_str) (pa_cons pe_str pa_nil))))))))))) (pss_one (ps_ret (pe_op (oAdd (K := K)) (pe_op (oAdd (K := K)) (pe_slice (kSl (K := K)) (pv 4) po_none (po_some (pv 5))) (pe_lst (pa_cons (kGu (K := K) g__law_of hr (by decide) (by rfl) (pa_cons (pv 0) (pa_cons (pv 6) pa_nil))) pa_nil))) (pe_slice (kSl (K := K)) (pv 4) (po_some (pe_op (oAdd (K := K)) (pv 5) pe_int)) po_none))))))))), spU_run (n := 4) (by decide) (fun a l ds hl => ?_) h⟩
  match ds, hl with
  | [v_deal, v_name, v_party, v_leaf], _ =>
    show EvB (ghd a l) (tb K cl (ptd a)) _ [.val v_deal, .val v_name, .val v_party, .val v_leaf, .no, .no, .no] (_law_bent_lines_m v_deal v_name v_party v_leaf) (cFn (ghd a l))
    unfold _law_bent_lines_m
    exact (eb_seq (eb_asg (i := 4) (eu_3 (ev_var (i := 1) rfl) (ev_var (i := 2) rfl) (ev_var (i := 3) rfl)) (fun v_lines_4 => (eb_at [.val v_deal, .val v_name, .val v_party, .val v_leaf, .val v_lines_4, .no, .no] (eb_seq (eb_asg (i := 5) (eu_2 (ev_var (i := 0) rfl) (ev_cb okLen (ea_cons (ev_var (i := 4) rfl) ea_nil))) (fun v_at_10 => (eb_at [.val v_deal, .val v_name, .val v_party, .val v_leaf, .val v_lines_4, .val v_at_10, .no] (eb_seq (eb_asgN (i := 6) (en_lst (ea_cons ev_str (ea_cons ev_str (ea_cons (ev_op okAdd (ev_op okIx (ev_var (i := 4) rfl) (ev_var (i := 5) rfl)) ev_str) (ea_cons (ev_op okAdd ev_str (ev_op okIx (ev_var (i := 4) rfl) (ev_var (i := 5) rfl))) (ea_cons (ev_replC (y := " ") (z := "  ") (ev_op okIx (ev_var (i := 4) rfl) (ev_var (i := 5) rfl))) (ea_cons (ev_replC (y := " ") (z := " 0") (ev_op okIx (ev_var (i := 4) rfl) (ev_var (i := 5) rfl))) (ea_cons (ev_op okAdd (ev_op okIx (ev_var (i := 4) rfl) (ev_var (i := 5) rfl)) ev_str) (ea_cons (ev_sl (ev_op okIx (ev_var (i := 4) rfl) (ev_var (i := 5) rfl)) eo_none (eo_some (ev_un okNeg ev_int))) ea_nil))))))))) (fun v_some_55 => (eb_at [.val v_deal, .val v_name, .val v_party, .val v_leaf, .val v_lines_4, .val v_at_10, .own (.lst v_some_55)] (eb_seq (eb_asgN (i := 6) (en_cat (eq_own (i := 6) rfl) (eq_new (en_lst (ea_cons (ev_op okAdd ev_str (ev_var (i := 1) rfl)) (ea_cons (ev_op okAdd (ev_op okAdd (ev_op okAdd ev_str (ev_var (i := 1) rfl)) (ev_op okMul ev_str ev_int)) ev_str) (ea_cons ev_str (ea_cons ev_str (ea_cons ev_str (ea_cons ev_str (ea_cons ev_str (ea_cons ev_str (ea_cons ev_str ea_nil)))))))))))) (fun v_some_87 => (eb_at [.val v_deal, .val v_name, .val v_party, .val v_leaf, .val v_lines_4, .val v_at_10, .own (.lst v_some_87)] (eb_seq (eb_asgN (i := 6) (en_cat (eq_own (i := 6) rfl) (eq_new (en_lst (ea_cons (ev_op okAdd (ev_op okAdd ev_str (ev_cb okStr (ea_cons (ev_cb okLen (ea_cons (ev_var (i := 3) rfl) ea_nil)) ea_nil))) ev_str) (ea_cons ev_str (ea_cons ev_str (ea_cons ev_str (ea_cons ev_str (ea_cons ev_str (ea_cons (ev_op okAdd (ev_op okIx (ev_var (i := 4) rfl) (ev_var (i := 5) rfl)) ev_str) (ea_cons ev_str ea_nil))))))))))) (fun v_some_121 => (eb_at [.val v_deal, .val v_name, .val v_party, .val v_leaf, .val v_lines_4, .val v_at_10, .own (.lst v_some_121)] (eb_frz (i := 6) rfl (eb_at [.val v_deal, .val v_name, .val v_party, .val v_leaf, .val v_lines_4, .val v_at_10, .val (.lst v_some_121)] (eb_retd (EvN.toD (en_cat (eq_new (en_cat (eq_val (ev_sl (ev_var (i := 4) rfl) eo_none (eo_some (ev_var (i := 5) rfl)))) (eq_new (en_lst (ea_cons (eu_2 (ev_var (i := 0) rfl) (ev_var (i := 6) rfl)) ea_nil))))) (eq_val (ev_sl (ev_var (i := 4) rfl) (eo_some (ev_op okAdd (ev_var (i := 5) rfl) ev_int)) eo_none)))) (fun _ => rfl))))))))))))))))))))))))
theorem gf__law_bent_lines (C : Ctx K mg) {cl : Nat → Option Addr} : GU P w K mg base cl "_law_bent_lines" 3 ["deal", "name", "party", "leaf"] (A4 _law_bent_lines_m) := by
  obtain ⟨fa, fd, hm, F, h⟩ := gk__law_bent_lines (P := P) (w := w) (base := base) C (cl := cl)
  exact ⟨fa, fd, hm, F.kp, F.binds (fun _ _ _ _ _ _ us hl => match us, hl with | [_, _, _, _], _ => rfl), h⟩
theorem gk__law_bent_texts (C : Ctx K mg) {cl : Nat → Option Addr} : ∃ fa fd, mg "_law_bent_texts" = some (.ref fa) ∧ Fun K "_law_bent_texts" "_law_bent_texts" s__law_bent_texts fa fd ∧ FnOk P w K mg base CX0 4 fa fd ["deal", "name", "party", "leaf"] (spU K cl 4 (A4 _law_bent_texts_m)) := by
  have g__law_leaf_text := gf__law_leaf_text (P := P) (w := w) (base := base) C (cl := cl)
  have g__law_any := gf__law_any (P := P) (w := w) (base := base) C (cl := cl)
  have g__law_of := gf__law_of (P := P) (w := w) (base := base) C (cl := cl)
  have g__law_summed := gf__law_summed (P := P) (w := w) (base := base) C (cl := cl)
  have g__law_leaf_lines := gf__law_leaf_lines (P := P) (w := w) (base := base) C (cl := cl)
  have g__law_put := gf__law_put (P := P) (w := w) (base := base) C (cl := cl)
  have g__law_bent_lines := gf__law_bent_lines (P := P) (w := w) (base := base) C (cl := cl)
  obtain ⟨fa, fd, hm, Fn0⟩ := C.f__law_bent_texts
  refine ⟨fa, fd, hm, Fn0, Fn0.ok sc__law_bent_texts spU_len (fun cdv A outer s H vs Q E hr h => ?_)⟩
  refine ⟨_, (pss_cons (ps_par (i := 7) (j := 8) rfl sc__law_bent_texts.nd rfl rfl (by decide) rfl rfl (pa_cons (kGu (K := K) g__law_leaf_text hr (by decide) (by rfl) (pa_cons (pv 1) (pa_cons (pv 2) (pa_cons (pv 3) pa_nil)))) (pa_cons (pe_lc rfl sc__law_bent_texts.nd (kSrc (K := K) (kGu (K := K) g__law_leaf_lines hr (by decide) (by rfl) (pa_cons (pv 1) (pa_cons (pv 2) (pa_cons (pv 3) pa_nil))))) (blkOk_by (own := [("line", 13)]) (by rfl)) (fun _ _ _ _ _ => (pg_name (i := 13) sc__law_bent_texts.nd rfl (by first | exact .inl rfl | exact .inr rfl))) (fun _ _ _ _ _ => pts_nil) (fun _ _ _ _ _ => (kGu (K := K) g__law_summed hr (by decide) (by rfl) (pa_cons (pv 13) pa_nil)))) pa_nil)) rfl) (pss_cons (ps_set (i := 4) sc__law_bent_texts.nd rfl (by first | exact .inl rfl | exact .inr rfl) (pe_lst pa_nil)) (pss_cons (ps_for PassesOwn.never rfl (pi_range1 (by rfl) C.z_range (pa_cons pe_int pa_nil)) (pg_name (i := 5) sc__law_bent_texts.nd rfl (by first | exact .inl rfl | exact .inr rfl)) (pss_cons (ps_set (i := 9) sc__law_bent_texts.nd rfl (by first | exact .inl rfl | exact .inr rfl) (kGu (K := K) g__law_any hr (by decide) (by rfl) (pa_cons (pv 0) (pa_cons (pe_callB (kLen (K := K)) (by rfl) C.z_len bt_len (pa_cons (pv 7) pa_nil)) pa_nil)))) (pss_cons (ps_set (i := 10) sc__law_bent_texts.nd rfl (by first | exact .inl rfl | exact .inr rfl) (kGu (K := K) g__law_of hr (by decide) (by rfl) (pa_cons (pv 0) (pa_cons (pe_lst (pa_cons pe_str (pa_cons pe_str (pa_cons pe_str (pa_cons pe_str (pa_cons pe_str (pa_cons pe_str (pa_cons pe_str (pa_cons pe_str (pa_cons pe_str pa_nil)))))))))) pa_nil)))) (pss_cons (ps_set (i := 4) sc__law_bent_texts.nd rfl (by first | exact .inl rfl | exact .inr rfl) (pe_op (oAdd (K := K)) (pv 4) (pe_lst (pa_cons (pe_slice (kSl (K := K)) (pv 7) po_none (po_some (pv 9))) (pa_cons (pe_op (oAdd (K := K)) (pe_op (oAdd (K := K)) (pe_slice (kSl (K := K)) (pv 7) po_none (po_some (pv 9))) (pv 10)) (pe_slice (kSl (K := K)) (pv 7) (po_some (pe_op (oAdd (K := K)) (pv 9) pe_int)) po_none)) (pa_cons (pe_op (oAdd (K := K)) (pe_op (oAdd (K := K)) (pe_slice (kSl (K := K)) (pv 7) po_none (po_some (pv 9))) (pv 10)) (pe_slice (kSl (K := K)) (pv 7) (po_some (pv 9)) po_none)) (pa_cons (pe_op (oAdd (K := K)) (pe_slice (kSl (K := K)) (pv 7) po_none (po_some (pv 9))) (pe_slice (kSl (K := K)) (pv 7) (po_some (pe_op (oAdd (K := K)) (pv 9) pe_int)) po_none)) pa_nil))))))) (pss_cons (ps_par (i := 11) (j := 12) rfl sc__law_bent_texts.nd rfl rfl (by decide) rfl rfl (pa_cons (kGu (K := K) g__law_any hr (by decide) (by rfl) (pa_cons (pv 0) (pa_cons (pe_callB (kLen (K := K)) (by rfl) C.z_len bt_len (pa_cons (pv 8) pa_nil)) pa_nil))) (pa_cons (kGu (K := K) g__law_any hr (by decide) (by rfl) (pa_cons (pv 0) (pa_cons (pe_callB (kLen (K := K)) (by rfl) C.z_len bt_len (pa_cons (pv 8) pa_nil)) pa_nil))) pa_nil)) rfl) (pss_cons (ps_set (i := 4) sc__law_bent_texts.nd rfl (by first | exact .inl rfl | exact .inr rfl) (pe_op (oAdd (K := K)) (pv 4) (pe_lst (pa_cons (kJoin (K := K) pe_str (kGu (K := K) g__law_put hr (by decide) (by rfl) (pa_cons (pe_callTy (kTupOf (K := K)) (by rfl) C.z_tuple bt_tuple (pa_cons (pv 8) pa_nil)) (pa_cons (pv 11) (pa_cons (pe_ix (kIx (K := K)) (pv 8) (pv 12) (fun _ _ => rfl)) pa_nil))))) (pa_cons (kJoin (K := K) pe_str (pe_op (oAdd (K := K)) (pe_slice (kSl (K := K)) (pv 8) po_none (po_some (pv 11))) (pe_slice (kSl (K := K)) (pv 8) (po_some (pv 12)) po_none))) pa_nil))))) (pss_one (ps_expr (kBm (K := K) F.plainAttrs_list F.slot_list_append F.type_list_append mt_append (pv 4) (pa_cons (kJoin (K := K) pe_str (pe_lc rfl sc__law_bent_texts.nd (kSrc (K := K) (kGu (K := K) g__law_bent_lines hr (by decide) (by rfl) (pa_cons (pv 0) (pa_cons (pv 1) (pa_cons (pv 2) (pa_cons (pv 3) pa_nil)))))) (blkOk_by (own := [("line", 13)]) (by rfl)) (fun _ _ _ _ _ => (pg_name (i := 13) sc__law_bent_texts.nd rfl (by first | exact .inl rfl | exact .inr rfl))) (fun _ _ _ _ _ => pts_nil) (fun _ _ _ _ _ => (kGu (K := K) g__law_summed hr (by decide) (by rfl) (pa_cons (pv 13) pa_nil))))) pa_nil)))))))))) (pss_cons (ps_set (i := 6) sc__law_bent_texts.nd rfl (by first | exact .inl rfl | exact .inr rfl) (kJoin (K := K) pe_str (pe_slice (kSl (K := K)) (pe_split (pe_ix (kIx (K := K)) (pv 8) (pe_un un_neg pe_int) (fun _ _ => rfl)) pe_str) po_none (po_some (pe_un un_neg pe_int))))) (pss_cons (ps_set (i := 4) sc__law_bent_texts.nd rfl (by first | exact .inl rfl | exact .inr rfl) (pe_op (oAdd (K := K)) (pv 4) (pe_lst (pa_cons (kJoin (K := K) pe_str (pe_op (oAdd (K := K)) (pe_slice (kSl (K := K)) (pv 8) po_none (po_some (pe_un un_neg pe_int))) (pe_lst (pa_cons (pe_op (oAdd (K := K)) (pe_op (oAdd (K := K)) (pv 6) pe_str) (pe_slice (kSl (K := K)) (pe_ix (kIx (K := K)) (pv 8) (pe_un un_neg pe_int) (fun _ _ => rfl)) (po_some (pe_op (oAdd (K := K)) (pe_callB (kLen (K := K)) (by rfl) C.z_len bt_len (pa_cons (pv 6) pa_nil)) pe_int)) po_none)) pa_nil)))) (pa_cons (kJoin (K := K) pe_str (pe_op (oAdd (K := K)) (pe_slice (kSl (K := K)) (pv 8) po_none (po_some (pe_un un_neg pe_int))) (pe_lst (pa_cons (pv 6) pa_nil)))) pa_nil))))) (pss_one (ps_ret (pe_op (oAdd (K := K)) (pv 4) (pe_lst (pa_cons (pe_op (oAdd (K := K)) (pv 7) pe_str) (pa_cons (pe_op (oAdd (K := K)) (pv 7) pe_str) (pa_cons (pe_op (oAdd (K := K)) (pv 7) pe_str) (pa_cons (pe_op (oAdd (K := K)) pe_str (pv 7)) (pa_cons (pe_op (oAdd (K := K)) pe_str (pv 7)) (pa_cons (pe_op (oAdd (K := K)) (pv 7) (pv 7)) (pa_cons pe_str pa_nil)))))))))))))))), spU_run (n := 4) (by decide) (fun a l ds hl => ?_) h⟩
  match ds, hl with
  | [v_deal, v_name, v_party, v_leaf], _ =>
    show EvB (ghd a l) (tb K cl (ptd a)) _ [.val v_deal, .val v_name, .val v_party, .val v_leaf, .no, .no, .no, .no, .no, .no, .no, .no, .no, .no] (_law_bent_texts_m v_deal v_name v_party v_leaf) (cFn (ghd a l))
    unfold _law_bent_texts_m
    exact (eb_seq (eb_parDN (i := 7) (j := 8) (eu_3 (ev_var (i := 1) rfl) (ev_var (i := 2) rfl) (ev_var (i := 3) rfl)) (en_lc (ei_src (es_val (eu_3 (ev_var (i := 1) rfl) (ev_var (i := 2) rfl) (ev_var (i := 3) rfl)))) (ek_1 (by decide) (fun v_line_5 => (eu_1 (ev_var (i := 13) rfl))))) (fun v_text_15 v_lines_16 => (eb_at [.val v_deal, .val v_name, .val v_party, .val v_leaf, .no, .no, .no, .val v_text_15, .own (.lst v_lines_16), .no, .no, .no, .no, .no] (eb_seq (eb_asgN (i := 4) (en_lst ea_nil) (fun v_found_18 => (eb_at [.val v_deal, .val v_name, .val v_party, .val v_leaf, .own (.lst v_found_18), .no, .no, .val v_text_15, .own (.lst v_lines_16), .no, .no, .no, .no, .no] (eb_seq (eb_for (gh := ghd a l) (T := tb K cl (ptd a)) (k := (fun p20 s171 => _law_bent_texts_l1 v_deal v_name v_party v_leaf v_text_15 v_lines_16 p20 s171)) (fun (s171 : List D) => [.val v_deal, .val v_name, .val v_party, .val v_leaf, .own (.lst s171), .no, .no, .val v_text_15, .own (.lst v_lines_16), .no, .no, .no, .no, .no]) v_found_18 (ei_rng1 ev_int) (Wk.eq (Wk.eq (Wk.eq (Wk.eq (Wk.eq (Wk.no (Wk.no (Wk.eq (Wk.eq (Wk.no (Wk.no (Wk.no (Wk.no (Wk.no Wk.nil)))))))))))))) (fun _ => (eg_1 (i := 5))) (fun s171 p20 => by unfold _law_bent_texts_l1; exact (eb_at [.val v_deal, .val v_name, .val v_party, .val v_leaf, .own (.lst s171), .val p20, .no, .val v_text_15, .own (.lst v_lines_16), .no, .no, .no, .no, .no] (eb_seq (eb_asg (i := 9) (eu_2 (ev_var (i := 0) rfl) (ev_cb okLen (ea_cons (ev_var (i := 7) rfl) ea_nil))) (fun v_at_284 => (eb_at [.val v_deal, .val v_name, .val v_party, .val v_leaf, .own (.lst s171), .val p20, .no, .val v_text_15, .own (.lst v_lines_16), .val v_at_284, .no, .no, .no, .no] (eb_seq (eb_asg (i := 10) (eu_2 (ev_var (i := 0) rfl) (EvN.toD (en_lst (ea_cons ev_str (ea_cons ev_str (ea_cons ev_str (ea_cons ev_str (ea_cons ev_str (ea_cons ev_str (ea_cons ev_str (ea_cons ev_str (ea_cons ev_str ea_nil)))))))))))) (fun v_sign_306 => (eb_at [.val v_deal, .val v_name, .val v_party, .val v_leaf, .own (.lst s171), .val p20, .no, .val v_text_15, .own (.lst v_lines_16), .val v_at_284, .val v_sign_306, .no, .no, .no] (eb_seq (eb_asgN (i := 4) (en_cat (eq_own (i := 4) rfl) (eq_new (en_lst (ea_cons (ev_sl (ev_var (i := 7) rfl) eo_none (eo_some (ev_var (i := 9) rfl))) (ea_cons (ev_op okAdd (ev_op okAdd (ev_sl (ev_var (i := 7) rfl) eo_none (eo_some (ev_var (i := 9) rfl))) (ev_var (i := 10) rfl)) (ev_sl (ev_var (i := 7) rfl) (eo_some (ev_op okAdd (ev_var (i := 9) rfl) ev_int)) eo_none)) (ea_cons (ev_op okAdd (ev_op okAdd (ev_sl (ev_var (i := 7) rfl) eo_none (eo_some (ev_var (i := 9) rfl))) (ev_var (i := 10) rfl)) (ev_sl (ev_var (i := 7) rfl) (eo_some (ev_var (i := 9) rfl)) eo_none)) (ea_cons (ev_op okAdd (ev_sl (ev_var (i := 7) rfl) eo_none (eo_some (ev_var (i := 9) rfl))) (ev_sl (ev_var (i := 7) rfl) (eo_some (ev_op okAdd (ev_var (i := 9) rfl) ev_int)) eo_none)) ea_nil))))))) (fun v_found_367 => (eb_at [.val v_deal, .val v_name, .val v_party, .val v_leaf, .own (.lst v_found_367), .val p20, .no, .val v_text_15, .own (.lst v_lines_16), .val v_at_284, .val v_sign_306, .no, .no, .no] (eb_seq (eb_par (i := 11) (j := 12) (eu_2 (ev_var (i := 0) rfl) (ev_borrow (i := 8) rfl (ev_cb okLen (ea_cons (ev_var (i := 8) rfl) ea_nil)))) (eu_2 (ev_var (i := 0) rfl) (ev_borrow (i := 8) rfl (ev_cb okLen (ea_cons (ev_var (i := 8) rfl) ea_nil)))) (fun v_one_380 v_other_381 => (eb_at [.val v_deal, .val v_name, .val v_party, .val v_leaf, .own (.lst v_found_367), .val p20, .no, .val v_text_15, .own (.lst v_lines_16), .val v_at_284, .val v_sign_306, .val v_one_380, .val v_other_381, .no] (eb_seq (eb_asgN (i := 4) (en_cat (eq_own (i := 4) rfl) (eq_new (en_lst (ea_cons (ev_m1 okJoin ev_str (eu_3 (ev_tupo (i := 8) rfl) (ev_var (i := 11) rfl) (ev_ixo (i := 8) rfl (ev_var (i := 12) rfl)))) (ea_cons (ev_m1 okJoin ev_str (ev_op okAdd (ev_slo (i := 8) rfl eo_none (eo_some (ev_var (i := 11) rfl))) (ev_slo (i := 8) rfl (eo_some (ev_var (i := 12) rfl)) eo_none))) ea_nil))))) (fun v_found_412 => (eb_at [.val v_deal, .val v_name, .val v_party, .val v_leaf, .own (.lst v_found_412), .val p20, .no, .val v_text_15, .own (.lst v_lines_16), .val v_at_284, .val v_sign_306, .val v_one_380, .val v_other_381, .no] (eb_app (i := 4) rfl (ev_m1 okJoin ev_str (EvN.toD (en_lc (ei_src (es_val (eu_4 (ev_var (i := 0) rfl) (ev_var (i := 1) rfl) (ev_var (i := 2) rfl) (ev_var (i := 3) rfl)))) (ek_1 (by decide) (fun v_line_418 => (eu_1 (ev_var (i := 13) rfl))))))) (fun d428 => ⟨(v_found_412 ++ [d428]), (Wk.eq (Wk.eq (Wk.eq (Wk.eq (Wk.eq (Wk.no (Wk.no (Wk.eq (Wk.eq (Wk.no (Wk.no (Wk.no (Wk.no (Wk.no Wk.nil)))))))))))))), rfl⟩)))))))))))))))))))))))) (fun s171 => (eb_at [.val v_deal, .val v_name, .val v_party, .val v_leaf, .own (.lst s171), .no, .no, .val v_text_15, .own (.lst v_lines_16), .no, .no, .no, .no, .no] (eb_seq (eb_asg (i := 6) (ev_m1 okJoin ev_str (ev_sl (ev_m1 okSplit (ev_ixo (i := 8) rfl (ev_un okNeg ev_int)) ev_str) eo_none (eo_some (ev_un okNeg ev_int)))) (fun v_late_189 => (eb_at [.val v_deal, .val v_name, .val v_party, .val v_leaf, .own (.lst s171), .no, .val v_late_189, .val v_text_15, .own (.lst v_lines_16), .no, .no, .no, .no, .no] (eb_seq (eb_asgN (i := 4) (en_cat (eq_own (i := 4) rfl) (eq_new (en_lst (ea_cons (ev_m1 okJoin ev_str (EvN.toD (en_cat (eq_val (ev_slo (i := 8) rfl eo_none (eo_some (ev_un okNeg ev_int)))) (eq_new (en_lst (ea_cons (ev_op okAdd (ev_op okAdd (ev_var (i := 6) rfl) ev_str) (ev_sl (ev_ixo (i := 8) rfl (ev_un okNeg ev_int)) (eo_some (ev_op okAdd (ev_cb okLen (ea_cons (ev_var (i := 6) rfl) ea_nil)) ev_int)) eo_none)) ea_nil)))))) (ea_cons (ev_m1 okJoin ev_str (EvN.toD (en_cat (eq_val (ev_slo (i := 8) rfl eo_none (eo_some (ev_un okNeg ev_int)))) (eq_new (en_lst (ea_cons (ev_var (i := 6) rfl) ea_nil)))))) ea_nil))))) (fun v_found_247 => (eb_at [.val v_deal, .val v_name, .val v_party, .val v_leaf, .own (.lst v_found_247), .no, .val v_late_189, .val v_text_15, .own (.lst v_lines_16), .no, .no, .no, .no, .no] (eb_retd (EvN.toD (en_cat (eq_own (i := 4) rfl) (eq_new (en_lst (ea_cons (ev_op okAdd (ev_var (i := 7) rfl) ev_str) (ea_cons (ev_op okAdd (ev_var (i := 7) rfl) ev_str) (ea_cons (ev_op okAdd (ev_var (i := 7) rfl) ev_str) (ea_cons (ev_op okAdd ev_str (ev_var (i := 7) rfl)) (ea_cons (ev_op okAdd ev_str (ev_var (i := 7) rfl)) (ea_cons (ev_op okAdd (ev_var (i := 7) rfl) (ev_var (i := 7) rfl)) (ea_cons ev_str ea_nil))))))))))) (fun _ => rfl))))))))))))))))))))))
theorem gf__law_bent_texts (C : Ctx K mg) {cl : Nat → Option Addr} : GU P w K mg base cl "_law_bent_texts" 4 ["deal", "name", "party", "leaf"] (A4 _law_bent_texts_m) := by
  obtain ⟨fa, fd, hm, F, h⟩ := gk__law_bent_texts (P := P) (w := w) (base := base) C (cl := cl)
  exact ⟨fa, fd, hm, F.kp, F.binds (fun _ _ _ _ _ _ us hl => match us, hl with | [_, _, _, _], _ => rfl), h⟩
theorem ok_law (C : Ctx K mg) {cl : Nat → Option Addr} (hm : ∀ d : Dl, okDl d → ∃ d', law_m d = some (.bl true, d')) : ∃ fa fd, mg "law" = some (.ref fa) ∧ Fun K "law" "law" s_law fa fd ∧ FnOk P w K mg base CX0 7 fa fd ["script"] (spLaw K) := by
  have g__law_all := gf__law_all (P := P) (w := w) (base := base) C (cl := cl)
  have g__law_leaf := gf__law_leaf (P := P) (w := w) (base := base) C (cl := cl)
  have g__law_bent_texts := gf__law_bent_texts (P := P) (w := w) (base := base) C (cl := cl)
  have g__law_summed := gf__law_summed (P := P) (w := w) (base := base) C (cl := cl)
  have g_leaf_text := gf_leaf_text (P := P) (w := w) (base := base) C (cl := cl)
  have k_leaf_text := gk_leaf_text (P := P) (w := w) (base := base) C (cl := cl)
  have g__law_leaf_text := gf__law_leaf_text (P := P) (w := w) (base := base) C (cl := cl)
  have g_read_leaf := gf_read_leaf (P := P) (w := w) (base := base) C (cl := cl)
  have k_read_leaf := gk_read_leaf (P := P) (w := w) (base := base) C (cl := cl)
  have g__law_read := gf__law_read (P := P) (w := w) (base := base) C (cl := cl)
  have g__law_sum := gf__law_sum (P := P) (w := w) (base := base) C (cl := cl)
  obtain ⟨fD, fdD, hmD, FD, okD⟩ := gk__law_deal (P := P) (w := w) (base := base) C
  have bD := FD.binds (ps := ["script", "salt"]) (fun _ _ _ _ _ _ us hl => match us, hl with | [_, _], _ => rfl)
  obtain ⟨fa, fd, hm1, Fn0⟩ := C.f_law
  refine ⟨fa, fd, hm1, Fn0, Fn0.ok sc_law (fun vs H Q E h => by obtain ⟨a, ns, rfl, _⟩ := h; rfl) (fun cdv A outer s H vs Q E hr h => ?_)⟩
  refine ⟨_, pss_cons (ps_par (i := 2) (j := 3) rfl sc_law.nd rfl rfl (by decide) rfl rfl (pa_cons (pe_call okD (hr.mono (by decide)) (by rfl) hmD FD.kp bD .nil pass0 (pa_cons (pv 0) (pa_cons pe_int pa_nil))) (pa_cons (pe_lst pa_nil) pa_nil)) rfl) (pss_cons (ps_for PassesOwn.never rfl (pi_range1 (by rfl) C.z_range (pa_cons pe_int pa_nil)) (pg_name (i := 1) sc_law.nd rfl (by first | exact .inl rfl | exact .inr rfl)) (pss_cons (ps_asg (kGu (K := K) g__law_leaf hr (by decide) (by rfl) (pa_cons (pv 2) pa_nil)) (kGTup (K := K) (n := 3) (pgs_cons (pg_name (i := 7) sc_law.nd rfl (by first | exact .inl rfl | exact .inr rfl)) (pgs_cons (pg_name (i := 8) sc_law.nd rfl (by first | exact .inl rfl | exact .inr rfl)) (pgs_cons (pg_name (i := 9) sc_law.nd rfl (by first | exact .inl rfl | exact .inr rfl)) pgs_nil))))) (pss_cons (ps_set (i := 4) sc_law.nd rfl (by first | exact .inl rfl | exact .inr rfl) (pe_ifExp (pt_cmpR (oEq (K := K) hr) (pv 1) pe_int (nomark _)) (pe_guk (ks := ["leaf", "party", "name"]) [2, 1, 0] k_leaf_text hr (by decide) (by rfl) (fun _ _ _ _ _ _ ws hl => match ws, hl with | [_, _, _], _ => rfl) (pk_cons (pv 9) (pk_cons (pv 8) (pk_cons (pv 7) pk_nil)))) (kGu (K := K) g_leaf_text hr (by decide) (by rfl) (pa_cons (pv 7) (pa_cons (pv 8) (pa_cons (pv 9) pa_nil)))))) (pss_cons (ps_set (i := 3) sc_law.nd rfl (by first | exact .inl rfl | exact .inr rfl) (pe_op (oAdd (K := K)) (pv 3) (pe_lst (pa_cons (pe_tup (pa_cons (pv 4) (pa_cons (kGu (K := K) g__law_leaf_text hr (by decide) (by rfl) (pa_cons (pv 7) (pa_cons (pv 8) (pa_cons (pv 9) pa_nil)))) pa_nil))) (pa_cons (pe_tup (pa_cons (pe_ifExp (pt_cmpR (oEq (K := K) hr) (pv 1) pe_int (nomark _)) (pe_guk (ks := ["text"]) [0] k_read_leaf hr (by decide) (by rfl) (fun _ _ _ _ _ _ ws hl => match ws, hl with | [_], _ => rfl) (pk_cons (pv 4) pk_nil)) (kGu (K := K) g_read_leaf hr (by decide) (by rfl) (pa_cons (pv 4) pa_nil))) (pa_cons (pe_tup (pa_cons (pv 7) (pa_cons (pv 8) (pa_cons (pv 9) pa_nil)))) pa_nil))) pa_nil))))) (pss_cons (ps_for PassesOwn.never rfl (kSrc (K := K) (kGu (K := K) g__law_bent_texts hr (by decide) (by rfl) (pa_cons (pv 2) (pa_cons (pv 7) (pa_cons (pv 8) (pa_cons (pv 9) pa_nil)))))) (pg_name (i := 5) sc_law.nd rfl (by first | exact .inl rfl | exact .inr rfl)) (pss_one (ps_expr (kBm (K := K) F.plainAttrs_list F.slot_list_append F.type_list_append mt_append (pv 3) (pa_cons (pe_tup (pa_cons (kGu (K := K) g_read_leaf hr (by decide) (by rfl) (pa_cons (pv 5) pa_nil)) (pa_cons (kGu (K := K) g__law_read hr (by decide) (by rfl) (pa_cons (pv 5) pa_nil)) pa_nil))) pa_nil))))) (pss_cons (ps_set (i := 6) sc_law.nd rfl (by first | exact .inl rfl | exact .inr rfl) (kGu (K := K) g__law_summed hr (by decide) (by rfl) (pa_cons (pe_op (oAdd (K := K)) (pe_op (oAdd (K := K)) (pe_op (oAdd (K := K)) pe_str (pv 7)) pe_str) (pe_callTy call_str_int (by rfl) C.z_str bt_str (pa_cons (pv 8) pa_nil))) pa_nil))) (pss_cons (ps_set (i := 3) sc_law.nd rfl (by first | exact .inl rfl | exact .inr rfl) (pe_op (oAdd (K := K)) (pv 3) (pe_lst (pa_cons (pe_tup (pa_cons (kGu (K := K) g_read_leaf hr (by decide) (by rfl) (pa_cons (pv 6) pa_nil)) (pa_cons (pe_tup (pa_cons (pv 7) (pa_cons (pv 8) (pa_cons (pe_tup pa_nil) pa_nil)))) pa_nil))) (pa_cons (pe_tup (pa_cons (kGu (K := K) g_read_leaf hr (by decide) (by rfl) (pa_cons (pe_slice (kSl (K := K)) (pv 6) po_none (po_some (pe_un un_neg pe_int))) pa_nil)) (pa_cons pe_non pa_nil))) (pa_cons (pe_tup (pa_cons (pe_ix (kIx (K := K)) (pe_split (kGu (K := K) g_leaf_text hr (by decide) (by rfl) (pa_cons (pv 7) (pa_cons (pv 8) (pa_cons (pe_slice (kSl (K := K)) (pv 9) po_none (po_some pe_int)) pa_nil)))) pe_str) pe_int (fun _ _ => rfl)) (pa_cons (pv 6) pa_nil))) pa_nil)))))) (pss_one (ps_set (i := 3) sc_law.nd rfl (by first | exact .inl rfl | exact .inr rfl) (pe_op (oAdd (K := K)) (pv 3) (pe_lc rfl sc_law.nd (kSrc (K := K) (pe_lst (pa_cons pe_non (pa_cons pe_int (pa_cons pe_bl (pa_cons (pe_tup (pa_cons (pv 4) pa_nil)) (pa_cons (pe_lst (pa_cons (pv 4) pa_nil)) (pa_cons (pe_tup (pa_cons (pv 7) (pa_cons (pv 8) (pa_cons (pv 9) pa_nil)))) (pa_cons pe_str pa_nil))))))))) (blkOk_by (own := [("value", 10)]) (by rfl)) (fun _ _ _ _ _ => (pg_name (i := 10) sc_law.nd rfl (by first | exact .inl rfl | exact .inr rfl))) (fun _ _ _ _ _ => pts_nil) (fun _ _ _ _ _ => (pe_tup (pa_cons (kGu (K := K) g_read_leaf hr (by decide) (by rfl) (pa_cons (pv 10) pa_nil)) (pa_cons pe_non pa_nil))))))))))))))) (pss_cons (ps_expr (kBm (K := K) F.plainAttrs_list F.slot_list_append F.type_list_append mt_append (pv 3) (pa_cons (pe_tup (pa_cons (kGu (K := K) g_leaf_text hr (by decide) (by rfl) (pa_cons pe_str (pa_cons pe_int (pa_cons (pe_tup (pa_cons pe_int (pa_cons pe_int (pa_cons pe_int pa_nil)))) pa_nil)))) (pa_cons (kJoin (K := K) pe_str (pe_lc rfl sc_law.nd (kSrc (K := K) (pe_lst (pa_cons pe_str (pa_cons pe_str (pa_cons pe_str (pa_cons pe_str pa_nil)))))) (blkOk_by (own := [("line", 11)]) (by rfl)) (fun _ _ _ _ _ => (pg_name (i := 11) sc_law.nd rfl (by first | exact .inl rfl | exact .inr rfl))) (fun _ _ _ _ _ => pts_nil) (fun _ _ _ _ _ => (kGu (K := K) g__law_summed hr (by decide) (by rfl) (pa_cons (pv 11) pa_nil))))) pa_nil))) pa_nil))) (pss_one (ps_ret (kGu (K := K) g__law_all hr (by decide) (by rfl) (pa_cons (pe_op (oAdd (K := K)) (pv 3) (pe_lst (pa_cons (pe_tup (pa_cons (kGu (K := K) g__law_sum hr (by decide) (by rfl) (pa_cons pe_str pa_nil)) (pa_cons pe_int pa_nil))) (pa_cons (pe_tup (pa_cons (kGu (K := K) g__law_sum hr (by decide) (by rfl) (pa_cons pe_str pa_nil)) (pa_cons pe_int pa_nil))) (pa_cons (pe_tup (pa_cons (kGu (K := K) g_read_leaf hr (by decide) (by rfl) (pa_cons (pe_op (oAdd (K := K)) (pe_op (oAdd (K := K)) (kGu (K := K) g__law_summed hr (by decide) (by rfl) (pa_cons pe_str pa_nil)) pe_str) (kGu (K := K) g__law_summed hr (by decide) (by rfl) (pa_cons pe_str pa_nil))) pa_nil)) (pa_cons (pe_tup (pa_cons pe_str (pa_cons pe_int (pa_cons (pe_tup pa_nil) pa_nil)))) pa_nil))) pa_nil))))) pa_nil)))))), law_run (cl := cl) (i := 2) (j := 3) (salt := 87) (by decide) (by decide) (by decide) (by decide) (fun a l => ?_) hm h⟩
  show EvB (ghd a l) (tb K cl (ptd a)) _ [.no, .no, .val (.ptr 0), .own (.lst []), .no, .no, .no, .no, .no, .no, .no, .no] law_m (cFn (ghd a l))
  unfold law_m
  exact (eb_seq (eb_for (gh := ghd a l) (T := tb K cl (ptd a)) (k := (fun p2 s183 => law_l1 (.ptr 0) p2 s183)) (fun (s183 : List D) => [.no, .no, .val (.ptr 0), .own (.lst s183), .no, .no, .no, .no, .no, .no, .no, .no]) [] (ei_rng1 ev_int) (Wk.no (Wk.no (Wk.eq (Wk.eq (Wk.no (Wk.no (Wk.no (Wk.no (Wk.no (Wk.no (Wk.no (Wk.no Wk.nil)))))))))))) (fun _ => (eg_1 (i := 1))) (fun s183 p2 => by unfold law_l1; exact (eb_at [.no, .val p2, .val (.ptr 0), .own (.lst s183), .no, .no, .no, .no, .no, .no, .no, .no] (eb_seq (eb_asgG (eu_1 (ev_var (i := 2) rfl)) (eg_3 (i := 7) (j := 8) (l := 9)) (fun p263 => (eb_at [.no, .val p2, .val (.ptr 0), .own (.lst s183), .no, .no, .no, .val p263.1, .val p263.2.1, .val p263.2.2, .no, .no] (eb_seq (eb_asg (i := 4) (ev_if (et_test (ev_op okEq (ev_var (i := 1) rfl) ev_int)) (eu_callP (ea_cons (ev_var (i := 9) rfl) (ea_cons (ev_var (i := 8) rfl) (ea_cons (ev_var (i := 7) rfl) ea_nil)))) (eu_3 (ev_var (i := 7) rfl) (ev_var (i := 8) rfl) (ev_var (i := 9) rfl))) (fun v_told_280 => (eb_at [.no, .val p2, .val (.ptr 0), .own (.lst s183), .val v_told_280, .no, .no, .val p263.1, .val p263.2.1, .val p263.2.2, .no, .no] (eb_seq (eb_asgN (i := 3) (en_cat (eq_own (i := 3) rfl) (eq_new (en_lst (ea_cons (ev_tup (ea_cons (ev_var (i := 4) rfl) (ea_cons (eu_3 (ev_var (i := 7) rfl) (ev_var (i := 8) rfl) (ev_var (i := 9) rfl)) ea_nil))) (ea_cons (ev_tup (ea_cons (ev_if (et_test (ev_op okEq (ev_var (i := 1) rfl) ev_int)) (eu_callP (ea_cons (ev_var (i := 4) rfl) ea_nil)) (eu_1 (ev_var (i := 4) rfl))) (ea_cons (ev_tup (ea_cons (ev_var (i := 7) rfl) (ea_cons (ev_var (i := 8) rfl) (ea_cons (ev_var (i := 9) rfl) ea_nil)))) ea_nil))) ea_nil))))) (fun v_pairs_316 => (eb_at [.no, .val p2, .val (.ptr 0), .own (.lst v_pairs_316), .val v_told_280, .no, .no, .val p263.1, .val p263.2.1, .val p263.2.2, .no, .no] (eb_seq (eb_for (gh := ghd a l) (T := tb K cl (ptd a)) (k := (fun p322 s323 => law_l2 (.ptr 0) v_told_280 p263.1 p263.2.1 p263.2.2 p322 s323)) (fun (s323 : List D) => [.no, .val p2, .val (.ptr 0), .own (.lst s323), .val v_told_280, .no, .no, .val p263.1, .val p263.2.1, .val p263.2.2, .no, .no]) v_pairs_316 (ei_src (es_val (eu_4 (ev_var (i := 2) rfl) (ev_var (i := 7) rfl) (ev_var (i := 8) rfl) (ev_var (i := 9) rfl)))) (Wk.no (Wk.eq (Wk.eq (Wk.eq (Wk.eq (Wk.no (Wk.no (Wk.eq (Wk.eq (Wk.eq (Wk.no (Wk.no Wk.nil)))))))))))) (fun _ => (eg_1 (i := 5))) (fun s323 p322 => by unfold law_l2; exact (eb_at [.no, .val p2, .val (.ptr 0), .own (.lst s323), .val v_told_280, .val p322, .no, .val p263.1, .val p263.2.1, .val p263.2.2, .no, .no] (eb_app (i := 3) rfl (ev_tup (ea_cons (eu_1 (ev_var (i := 5) rfl)) (ea_cons (eu_1 (ev_var (i := 5) rfl)) ea_nil))) (fun d442 => ⟨(s323 ++ [d442]), (Wk.no (Wk.eq (Wk.eq (Wk.eq (Wk.eq (Wk.no (Wk.no (Wk.eq (Wk.eq (Wk.eq (Wk.no (Wk.no Wk.nil)))))))))))), rfl⟩)))) (fun s323 => (eb_at [.no, .val p2, .val (.ptr 0), .own (.lst s323), .val v_told_280, .no, .no, .val p263.1, .val p263.2.1, .val p263.2.2, .no, .no] (eb_seq (eb_asg (i := 6) (eu_1 (ev_op okAdd (ev_op okAdd (ev_op okAdd ev_str (ev_var (i := 7) rfl)) ev_str) (ev_cb okStr (ea_cons (ev_var (i := 8) rfl) ea_nil)))) (fun v_head_334 => (eb_at [.no, .val p2, .val (.ptr 0), .own (.lst s323), .val v_told_280, .no, .val v_head_334, .val p263.1, .val p263.2.1, .val p263.2.2, .no, .no] (eb_seq (eb_asgN (i := 3) (en_cat (eq_own (i := 3) rfl) (eq_new (en_lst (ea_cons (ev_tup (ea_cons (eu_1 (ev_var (i := 6) rfl)) (ea_cons (ev_tup (ea_cons (ev_var (i := 7) rfl) (ea_cons (ev_var (i := 8) rfl) (ea_cons (ev_tup ea_nil) ea_nil)))) ea_nil))) (ea_cons (ev_tup (ea_cons (eu_1 (ev_sl (ev_var (i := 6) rfl) eo_none (eo_some (ev_un okNeg ev_int)))) (ea_cons ev_non ea_nil))) (ea_cons (ev_tup (ea_cons (ev_op okIx (ev_m1 okSplit (eu_3 (ev_var (i := 7) rfl) (ev_var (i := 8) rfl) (ev_sl (ev_var (i := 9) rfl) eo_none (eo_some ev_int))) ev_str) ev_int) (ea_cons (ev_var (i := 6) rfl) ea_nil))) ea_nil)))))) (fun v_pairs_389 => (eb_at [.no, .val p2, .val (.ptr 0), .own (.lst v_pairs_389), .val v_told_280, .no, .val v_head_334, .val p263.1, .val p263.2.1, .val p263.2.2, .no, .no] (eb_asgN (i := 3) (en_cat (eq_own (i := 3) rfl) (eq_new (en_lc (ei_src (es_new (en_lst (ea_cons ev_non (ea_cons ev_int (ea_cons ev_bl (ea_cons (ev_tup (ea_cons (ev_var (i := 4) rfl) ea_nil)) (ea_cons (EvN.toD (en_lst (ea_cons (ev_var (i := 4) rfl) ea_nil))) (ea_cons (ev_tup (ea_cons (ev_var (i := 7) rfl) (ea_cons (ev_var (i := 8) rfl) (ea_cons (ev_var (i := 9) rfl) ea_nil)))) (ea_cons ev_str ea_nil)))))))))) (ek_1 (by decide) (fun v_value_418 => (ev_tup (ea_cons (eu_1 (ev_var (i := 10) rfl)) (ea_cons ev_non ea_nil)))))))) (fun v_pairs_432 => ⟨v_pairs_432, (Wk.no (Wk.no (Wk.eq (Wk.eq (Wk.no (Wk.no (Wk.no (Wk.no (Wk.no (Wk.no (Wk.no (Wk.no Wk.nil)))))))))))), rfl⟩)))))))))))))))))))))))))))) (fun s183 => (eb_at [.no, .no, .val (.ptr 0), .own (.lst s183), .no, .no, .no, .no, .no, .no, .no, .no] (eb_seq (eb_app (i := 3) rfl (ev_tup (ea_cons (eu_3 ev_str ev_int (ev_tup (ea_cons ev_int (ea_cons ev_int (ea_cons ev_int ea_nil))))) (ea_cons (ev_m1 okJoin ev_str (EvN.toD (en_lc (ei_src (es_new (en_lst (ea_cons ev_str (ea_cons ev_str (ea_cons ev_str (ea_cons ev_str ea_nil))))))) (ek_1 (by decide) (fun v_line_203 => (eu_1 (ev_var (i := 11) rfl))))))) ea_nil))) (fun d218 => (eb_at [.no, .no, .val (.ptr 0), .own (.lst (s183 ++ [d218])), .no, .no, .no, .no, .no, .no, .no, .no] (eb_retd (eu_1 (EvN.toD (en_cat (eq_own (i := 3) rfl) (eq_new (en_lst (ea_cons (ev_tup (ea_cons (eu_1 ev_str) (ea_cons ev_int ea_nil))) (ea_cons (ev_tup (ea_cons (eu_1 ev_str) (ea_cons ev_int ea_nil))) (ea_cons (ev_tup (ea_cons (eu_1 (ev_op okAdd (ev_op okAdd (eu_1 ev_str) ev_str) (eu_1 ev_str))) (ea_cons (ev_tup (ea_cons ev_str (ea_cons ev_int (ea_cons (ev_tup ea_nil) ea_nil)))) ea_nil))) ea_nil)))))))) (fun _ => rfl))))))))))
end
end Lk87

set_option Elab.async false
set_option linter.all false
set_option maxRecDepth 100000
set_option maxHeartbeats 4000000
namespace Lk87
open PySem L2 Py
theorem all_mk {l : PySem.W.OpenLaw} {w : World} {K : PySem.W.Frag} {h : Heap} {mg : Str → Option Value} {fa : Addr} (X : K.In h) (G : h.Ns mainGlobals mg) (hfa : mg "law" = some (.ref fa))
    {f0 : Addr} {od0 an0 : Option Addr} {sl0 : Array (Option Value)} {oc0 kV0 dc0 pm0 cd0 ct0 : Value}
    (a0 : PySem.W.nsIn K mainGlobals "_law_any" = some (some (.ref f0))) (l0 : K.lookup f0 = some ⟨oc0, od0, .func (PySem.W.fnOf "_law_any" "_law_any" (defArgs s__law_any) (defBody s__law_any) (defScope s__law_any) .none kV0 dc0 pm0 an0 cd0 ct0), sl0⟩) (c0 : PySem.W.codeIn K cd0 "_law_any" = true) (k0 : PySem.W.keepIn K (.ref f0) = true)
    {f1 : Addr} {od1 an1 : Option Addr} {sl1 : Array (Option Value)} {oc1 kV1 dc1 pm1 cd1 ct1 : Value}
    (a1 : PySem.W.nsIn K mainGlobals "_law_deal" = some (some (.ref f1))) (l1 : K.lookup f1 = some ⟨oc1, od1, .func (PySem.W.fnOf "_law_deal" "_law_deal" (defArgs s__law_deal) (defBody s__law_deal) (defScope s__law_deal) .none kV1 dc1 pm1 an1 cd1 ct1), sl1⟩) (c1 : PySem.W.codeIn K cd1 "_law_deal" = true) (k1 : PySem.W.keepIn K (.ref f1) = true)
    {f2 : Addr} {od2 an2 : Option Addr} {sl2 : Array (Option Value)} {oc2 kV2 dc2 pm2 cd2 ct2 : Value}
    (a2 : PySem.W.nsIn K mainGlobals "is_name" = some (some (.ref f2))) (l2 : K.lookup f2 = some ⟨oc2, od2, .func (PySem.W.fnOf "is_name" "is_name" (defArgs s_is_name) (defBody s_is_name) (defScope s_is_name) .none kV2 dc2 pm2 an2 cd2 ct2), sl2⟩) (c2 : PySem.W.codeIn K cd2 "is_name" = true) (k2 : PySem.W.keepIn K (.ref f2) = true)
    {f3 : Addr} {od3 an3 : Option Addr} {sl3 : Array (Option Value)} {oc3 kV3 dc3 pm3 cd3 ct3 : Value}
    (a3 : PySem.W.nsIn K mainGlobals "are_figures" = some (some (.ref f3))) (l3 : K.lookup f3 = some ⟨oc3, od3, .func (PySem.W.fnOf "are_figures" "are_figures" (defArgs s_are_figures) (defBody s_are_figures) (defScope s_are_figures) .none kV3 dc3 pm3 an3 cd3 ct3), sl3⟩) (c3 : PySem.W.codeIn K cd3 "are_figures" = true) (k3 : PySem.W.keepIn K (.ref f3) = true)
    {f4 : Addr} {od4 an4 : Option Addr} {sl4 : Array (Option Value)} {oc4 kV4 dc4 pm4 cd4 ct4 : Value}
    (a4 : PySem.W.nsIn K mainGlobals "number_of" = some (some (.ref f4))) (l4 : K.lookup f4 = some ⟨oc4, od4, .func (PySem.W.fnOf "number_of" "number_of" (defArgs s_number_of) (defBody s_number_of) (defScope s_number_of) .none kV4 dc4 pm4 an4 cd4 ct4), sl4⟩) (c4 : PySem.W.codeIn K cd4 "number_of" = true) (k4 : PySem.W.keepIn K (.ref f4) = true)
    {f5 : Addr} {od5 an5 : Option Addr} {sl5 : Array (Option Value)} {oc5 kV5 dc5 pm5 cd5 ct5 : Value}
    (a5 : PySem.W.nsIn K mainGlobals "sum_of" = some (some (.ref f5))) (l5 : K.lookup f5 = some ⟨oc5, od5, .func (PySem.W.fnOf "sum_of" "sum_of" (defArgs s_sum_of) (defBody s_sum_of) (defScope s_sum_of) .none kV5 dc5 pm5 an5 cd5 ct5), sl5⟩) (c5 : PySem.W.codeIn K cd5 "sum_of" = true) (k5 : PySem.W.keepIn K (.ref f5) = true)
    {f6 : Addr} {od6 an6 : Option Addr} {sl6 : Array (Option Value)} {oc6 kV6 dc6 pm6 cd6 ct6 : Value}
    (a6 : PySem.W.nsIn K mainGlobals "summed" = some (some (.ref f6))) (l6 : K.lookup f6 = some ⟨oc6, od6, .func (PySem.W.fnOf "summed" "summed" (defArgs s_summed) (defBody s_summed) (defScope s_summed) .none kV6 dc6 pm6 an6 cd6 ct6), sl6⟩) (c6 : PySem.W.codeIn K cd6 "summed" = true) (k6 : PySem.W.keepIn K (.ref f6) = true)
    {f7 : Addr} {od7 an7 : Option Addr} {sl7 : Array (Option Value)} {oc7 kV7 dc7 pm7 cd7 ct7 : Value}
    (a7 : PySem.W.nsIn K mainGlobals "whole_text" = some (some (.ref f7))) (l7 : K.lookup f7 = some ⟨oc7, od7, .func (PySem.W.fnOf "whole_text" "whole_text" (defArgs s_whole_text) (defBody s_whole_text) (defScope s_whole_text) .none kV7 dc7 pm7 an7 cd7 ct7), sl7⟩) (c7 : PySem.W.codeIn K cd7 "whole_text" = true) (k7 : PySem.W.keepIn K (.ref f7) = true)
    {f8 : Addr} {od8 an8 : Option Addr} {sl8 : Array (Option Value)} {oc8 kV8 dc8 pm8 cd8 ct8 : Value}
    (a8 : PySem.W.nsIn K mainGlobals "leaf_text" = some (some (.ref f8))) (l8 : K.lookup f8 = some ⟨oc8, od8, .func (PySem.W.fnOf "leaf_text" "leaf_text" (defArgs s_leaf_text) (defBody s_leaf_text) (defScope s_leaf_text) .none kV8 dc8 pm8 an8 cd8 ct8), sl8⟩) (c8 : PySem.W.codeIn K cd8 "leaf_text" = true) (k8 : PySem.W.keepIn K (.ref f8) = true)
    {f9 : Addr} {od9 an9 : Option Addr} {sl9 : Array (Option Value)} {oc9 kV9 dc9 pm9 cd9 ct9 : Value}
    (a9 : PySem.W.nsIn K mainGlobals "head_of" = some (some (.ref f9))) (l9 : K.lookup f9 = some ⟨oc9, od9, .func (PySem.W.fnOf "head_of" "head_of" (defArgs s_head_of) (defBody s_head_of) (defScope s_head_of) .none kV9 dc9 pm9 an9 cd9 ct9), sl9⟩) (c9 : PySem.W.codeIn K cd9 "head_of" = true) (k9 : PySem.W.keepIn K (.ref f9) = true)
    {f10 : Addr} {od10 an10 : Option Addr} {sl10 : Array (Option Value)} {oc10 kV10 dc10 pm10 cd10 ct10 : Value}
    (a10 : PySem.W.nsIn K mainGlobals "place_in" = some (some (.ref f10))) (l10 : K.lookup f10 = some ⟨oc10, od10, .func (PySem.W.fnOf "place_in" "place_in" (defArgs s_place_in) (defBody s_place_in) (defScope s_place_in) .none kV10 dc10 pm10 an10 cd10 ct10), sl10⟩) (c10 : PySem.W.codeIn K cd10 "place_in" = true) (k10 : PySem.W.keepIn K (.ref f10) = true)
    {f11 : Addr} {od11 an11 : Option Addr} {sl11 : Array (Option Value)} {oc11 kV11 dc11 pm11 cd11 ct11 : Value}
    (a11 : PySem.W.nsIn K mainGlobals "places_in" = some (some (.ref f11))) (l11 : K.lookup f11 = some ⟨oc11, od11, .func (PySem.W.fnOf "places_in" "places_in" (defArgs s_places_in) (defBody s_places_in) (defScope s_places_in) .none kV11 dc11 pm11 an11 cd11 ct11), sl11⟩) (c11 : PySem.W.codeIn K cd11 "places_in" = true) (k11 : PySem.W.keepIn K (.ref f11) = true)
    {f12 : Addr} {od12 an12 : Option Addr} {sl12 : Array (Option Value)} {oc12 kV12 dc12 pm12 cd12 ct12 : Value}
    (a12 : PySem.W.nsIn K mainGlobals "read_leaf" = some (some (.ref f12))) (l12 : K.lookup f12 = some ⟨oc12, od12, .func (PySem.W.fnOf "read_leaf" "read_leaf" (defArgs s_read_leaf) (defBody s_read_leaf) (defScope s_read_leaf) .none kV12 dc12 pm12 an12 cd12 ct12), sl12⟩) (c12 : PySem.W.codeIn K cd12 "read_leaf" = true) (k12 : PySem.W.keepIn K (.ref f12) = true)
    {f13 : Addr} {od13 an13 : Option Addr} {sl13 : Array (Option Value)} {oc13 kV13 dc13 pm13 cd13 ct13 : Value}
    (a13 : PySem.W.nsIn K mainGlobals "_law_of" = some (some (.ref f13))) (l13 : K.lookup f13 = some ⟨oc13, od13, .func (PySem.W.fnOf "_law_of" "_law_of" (defArgs s__law_of) (defBody s__law_of) (defScope s__law_of) .none kV13 dc13 pm13 an13 cd13 ct13), sl13⟩) (c13 : PySem.W.codeIn K cd13 "_law_of" = true) (k13 : PySem.W.keepIn K (.ref f13) = true)
    {f14 : Addr} {od14 an14 : Option Addr} {sl14 : Array (Option Value)} {oc14 kV14 dc14 pm14 cd14 ct14 : Value}
    (a14 : PySem.W.nsIn K mainGlobals "_law_is_kind" = some (some (.ref f14))) (l14 : K.lookup f14 = some ⟨oc14, od14, .func (PySem.W.fnOf "_law_is_kind" "_law_is_kind" (defArgs s__law_is_kind) (defBody s__law_is_kind) (defScope s__law_is_kind) .none kV14 dc14 pm14 an14 cd14 ct14), sl14⟩) (c14 : PySem.W.codeIn K cd14 "_law_is_kind" = true) (k14 : PySem.W.keepIn K (.ref f14) = true)
    {f15 : Addr} {od15 an15 : Option Addr} {sl15 : Array (Option Value)} {oc15 kV15 dc15 pm15 cd15 ct15 : Value}
    (a15 : PySem.W.nsIn K mainGlobals "_law_same" = some (some (.ref f15))) (l15 : K.lookup f15 = some ⟨oc15, od15, .func (PySem.W.fnOf "_law_same" "_law_same" (defArgs s__law_same) (defBody s__law_same) (defScope s__law_same) .none kV15 dc15 pm15 an15 cd15 ct15), sl15⟩) (c15 : PySem.W.codeIn K cd15 "_law_same" = true) (k15 : PySem.W.keepIn K (.ref f15) = true)
    {f16 : Addr} {od16 an16 : Option Addr} {sl16 : Array (Option Value)} {oc16 kV16 dc16 pm16 cd16 ct16 : Value}
    (a16 : PySem.W.nsIn K mainGlobals "_law_all" = some (some (.ref f16))) (l16 : K.lookup f16 = some ⟨oc16, od16, .func (PySem.W.fnOf "_law_all" "_law_all" (defArgs s__law_all) (defBody s__law_all) (defScope s__law_all) .none kV16 dc16 pm16 an16 cd16 ct16), sl16⟩) (c16 : PySem.W.codeIn K cd16 "_law_all" = true) (k16 : PySem.W.keepIn K (.ref f16) = true)
    {f17 : Addr} {od17 an17 : Option Addr} {sl17 : Array (Option Value)} {oc17 kV17 dc17 pm17 cd17 ct17 : Value}
    (a17 : PySem.W.nsIn K mainGlobals "_law_put" = some (some (.ref f17))) (l17 : K.lookup f17 = some ⟨oc17, od17, .func (PySem.W.fnOf "_law_put" "_law_put" (defArgs s__law_put) (defBody s__law_put) (defScope s__law_put) .none kV17 dc17 pm17 an17 cd17 ct17), sl17⟩) (c17 : PySem.W.codeIn K cd17 "_law_put" = true) (k17 : PySem.W.keepIn K (.ref f17) = true)
    {f18 : Addr} {od18 an18 : Option Addr} {sl18 : Array (Option Value)} {oc18 kV18 dc18 pm18 cd18 ct18 : Value}
    (a18 : PySem.W.nsIn K mainGlobals "_law_sum" = some (some (.ref f18))) (l18 : K.lookup f18 = some ⟨oc18, od18, .func (PySem.W.fnOf "_law_sum" "_law_sum" (defArgs s__law_sum) (defBody s__law_sum) (defScope s__law_sum) .none kV18 dc18 pm18 an18 cd18 ct18), sl18⟩) (c18 : PySem.W.codeIn K cd18 "_law_sum" = true) (k18 : PySem.W.keepIn K (.ref f18) = true)
    {f19 : Addr} {od19 an19 : Option Addr} {sl19 : Array (Option Value)} {oc19 kV19 dc19 pm19 cd19 ct19 : Value}
    (a19 : PySem.W.nsIn K mainGlobals "_law_summed" = some (some (.ref f19))) (l19 : K.lookup f19 = some ⟨oc19, od19, .func (PySem.W.fnOf "_law_summed" "_law_summed" (defArgs s__law_summed) (defBody s__law_summed) (defScope s__law_summed) .none kV19 dc19 pm19 an19 cd19 ct19), sl19⟩) (c19 : PySem.W.codeIn K cd19 "_law_summed" = true) (k19 : PySem.W.keepIn K (.ref f19) = true)
    {f20 : Addr} {od20 an20 : Option Addr} {sl20 : Array (Option Value)} {oc20 kV20 dc20 pm20 cd20 ct20 : Value}
    (a20 : PySem.W.nsIn K mainGlobals "_law_leaf_lines" = some (some (.ref f20))) (l20 : K.lookup f20 = some ⟨oc20, od20, .func (PySem.W.fnOf "_law_leaf_lines" "_law_leaf_lines" (defArgs s__law_leaf_lines) (defBody s__law_leaf_lines) (defScope s__law_leaf_lines) .none kV20 dc20 pm20 an20 cd20 ct20), sl20⟩) (c20 : PySem.W.codeIn K cd20 "_law_leaf_lines" = true) (k20 : PySem.W.keepIn K (.ref f20) = true)
    {f21 : Addr} {od21 an21 : Option Addr} {sl21 : Array (Option Value)} {oc21 kV21 dc21 pm21 cd21 ct21 : Value}
    (a21 : PySem.W.nsIn K mainGlobals "_law_leaf_text" = some (some (.ref f21))) (l21 : K.lookup f21 = some ⟨oc21, od21, .func (PySem.W.fnOf "_law_leaf_text" "_law_leaf_text" (defArgs s__law_leaf_text) (defBody s__law_leaf_text) (defScope s__law_leaf_text) .none kV21 dc21 pm21 an21 cd21 ct21), sl21⟩) (c21 : PySem.W.codeIn K cd21 "_law_leaf_text" = true) (k21 : PySem.W.keepIn K (.ref f21) = true)
    {f22 : Addr} {od22 an22 : Option Addr} {sl22 : Array (Option Value)} {oc22 kV22 dc22 pm22 cd22 ct22 : Value}
    (a22 : PySem.W.nsIn K mainGlobals "_law_is_number_text" = some (some (.ref f22))) (l22 : K.lookup f22 = some ⟨oc22, od22, .func (PySem.W.fnOf "_law_is_number_text" "_law_is_number_text" (defArgs s__law_is_number_text) (defBody s__law_is_number_text) (defScope s__law_is_number_text) .none kV22 dc22 pm22 an22 cd22 ct22), sl22⟩) (c22 : PySem.W.codeIn K cd22 "_law_is_number_text" = true) (k22 : PySem.W.keepIn K (.ref f22) = true)
    {f23 : Addr} {od23 an23 : Option Addr} {sl23 : Array (Option Value)} {oc23 kV23 dc23 pm23 cd23 ct23 : Value}
    (a23 : PySem.W.nsIn K mainGlobals "_law_is_name_text" = some (some (.ref f23))) (l23 : K.lookup f23 = some ⟨oc23, od23, .func (PySem.W.fnOf "_law_is_name_text" "_law_is_name_text" (defArgs s__law_is_name_text) (defBody s__law_is_name_text) (defScope s__law_is_name_text) .none kV23 dc23 pm23 an23 cd23 ct23), sl23⟩) (c23 : PySem.W.codeIn K cd23 "_law_is_name_text" = true) (k23 : PySem.W.keepIn K (.ref f23) = true)
    {f24 : Addr} {od24 an24 : Option Addr} {sl24 : Array (Option Value)} {oc24 kV24 dc24 pm24 cd24 ct24 : Value}
    (a24 : PySem.W.nsIn K mainGlobals "_law_words" = some (some (.ref f24))) (l24 : K.lookup f24 = some ⟨oc24, od24, .func (PySem.W.fnOf "_law_words" "_law_words" (defArgs s__law_words) (defBody s__law_words) (defScope s__law_words) .none kV24 dc24 pm24 an24 cd24 ct24), sl24⟩) (c24 : PySem.W.codeIn K cd24 "_law_words" = true) (k24 : PySem.W.keepIn K (.ref f24) = true)
    {f25 : Addr} {od25 an25 : Option Addr} {sl25 : Array (Option Value)} {oc25 kV25 dc25 pm25 cd25 ct25 : Value}
    (a25 : PySem.W.nsIn K mainGlobals "_law_read" = some (some (.ref f25))) (l25 : K.lookup f25 = some ⟨oc25, od25, .func (PySem.W.fnOf "_law_read" "_law_read" (defArgs s__law_read) (defBody s__law_read) (defScope s__law_read) .none kV25 dc25 pm25 an25 cd25 ct25), sl25⟩) (c25 : PySem.W.codeIn K cd25 "_law_read" = true) (k25 : PySem.W.keepIn K (.ref f25) = true)
    {f26 : Addr} {od26 an26 : Option Addr} {sl26 : Array (Option Value)} {oc26 kV26 dc26 pm26 cd26 ct26 : Value}
    (a26 : PySem.W.nsIn K mainGlobals "_law_letters" = some (some (.ref f26))) (l26 : K.lookup f26 = some ⟨oc26, od26, .func (PySem.W.fnOf "_law_letters" "_law_letters" (defArgs s__law_letters) (defBody s__law_letters) (defScope s__law_letters) .none kV26 dc26 pm26 an26 cd26 ct26), sl26⟩) (c26 : PySem.W.codeIn K cd26 "_law_letters" = true) (k26 : PySem.W.keepIn K (.ref f26) = true)
    {f27 : Addr} {od27 an27 : Option Addr} {sl27 : Array (Option Value)} {oc27 kV27 dc27 pm27 cd27 ct27 : Value}
    (a27 : PySem.W.nsIn K mainGlobals "_law_leaf" = some (some (.ref f27))) (l27 : K.lookup f27 = some ⟨oc27, od27, .func (PySem.W.fnOf "_law_leaf" "_law_leaf" (defArgs s__law_leaf) (defBody s__law_leaf) (defScope s__law_leaf) .none kV27 dc27 pm27 an27 cd27 ct27), sl27⟩) (c27 : PySem.W.codeIn K cd27 "_law_leaf" = true) (k27 : PySem.W.keepIn K (.ref f27) = true)
    {f28 : Addr} {od28 an28 : Option Addr} {sl28 : Array (Option Value)} {oc28 kV28 dc28 pm28 cd28 ct28 : Value}
    (a28 : PySem.W.nsIn K mainGlobals "_law_bent_lines" = some (some (.ref f28))) (l28 : K.lookup f28 = some ⟨oc28, od28, .func (PySem.W.fnOf "_law_bent_lines" "_law_bent_lines" (defArgs s__law_bent_lines) (defBody s__law_bent_lines) (defScope s__law_bent_lines) .none kV28 dc28 pm28 an28 cd28 ct28), sl28⟩) (c28 : PySem.W.codeIn K cd28 "_law_bent_lines" = true) (k28 : PySem.W.keepIn K (.ref f28) = true)
    {f29 : Addr} {od29 an29 : Option Addr} {sl29 : Array (Option Value)} {oc29 kV29 dc29 pm29 cd29 ct29 : Value}
    (a29 : PySem.W.nsIn K mainGlobals "_law_bent_texts" = some (some (.ref f29))) (l29 : K.lookup f29 = some ⟨oc29, od29, .func (PySem.W.fnOf "_law_bent_texts" "_law_bent_texts" (defArgs s__law_bent_texts) (defBody s__law_bent_texts) (defScope s__law_bent_texts) .none kV29 dc29 pm29 an29 cd29 ct29), sl29⟩) (c29 : PySem.W.codeIn K cd29 "_law_bent_texts" = true) (k29 : PySem.W.keepIn K (.ref f29) = true)
    {f30 : Addr} {od30 an30 : Option Addr} {sl30 : Array (Option Value)} {oc30 kV30 dc30 pm30 cd30 ct30 : Value}
    (a30 : PySem.W.nsIn K mainGlobals "law" = some (some (.ref f30))) (l30 : K.lookup f30 = some ⟨oc30, od30, .func (PySem.W.fnOf "law" "law" (defArgs s_law) (defBody s_law) (defScope s_law) .none kV30 dc30 pm30 an30 cd30 ct30), sl30⟩) (c30 : PySem.W.codeIn K cd30 "law" = true) (k30 : PySem.W.keepIn K (.ref f30) = true)
    {t_AT : Tok} (m_AT : PySem.W.nsIn K mainGlobals "AT" = some (some (.str "at" t_AT)))
    {t_BEGIN : Tok} (m_BEGIN : PySem.W.nsIn K mainGlobals "BEGIN" = some (some (.int 7 t_BEGIN)))
    {t_BLANK_leafsums : Tok} (m_BLANK_leafsums : PySem.W.nsIn K mainGlobals "BLANK_leafsums" = some (some (.str " " t_BLANK_leafsums)))
    {t_BLANK_leaftext : Tok} (m_BLANK_leaftext : PySem.W.nsIn K mainGlobals "BLANK_leaftext" = some (some (.str " " t_BLANK_leaftext)))
    {t_FIGURES : Tok} (m_FIGURES : PySem.W.nsIn K mainGlobals "FIGURES" = some (some (.str "0123456789" t_FIGURES)))
    {t_HEAD : Tok} (m_HEAD : PySem.W.nsIn K mainGlobals "HEAD" = some (some (.str "leaf" t_HEAD)))
    {t_HEAD_WORDS : Tok} (m_HEAD_WORDS : PySem.W.nsIn K mainGlobals "HEAD_WORDS" = some (some (.int 3 t_HEAD_WORDS)))
    {t_MARK : Tok} (m_MARK : PySem.W.nsIn K mainGlobals "MARK" = some (some (.str " sum" t_MARK)))
    {t_MOST_FIGURES : Tok} (m_MOST_FIGURES : PySem.W.nsIn K mainGlobals "MOST_FIGURES" = some (some (.int 4000 t_MOST_FIGURES)))
    {t_MOST_SIGNS : Tok} (m_MOST_SIGNS : PySem.W.nsIn K mainGlobals "MOST_SIGNS" = some (some (.int 8 t_MOST_SIGNS)))
    {t_MOST_SUM_FIGURES : Tok} (m_MOST_SUM_FIGURES : PySem.W.nsIn K mainGlobals "MOST_SUM_FIGURES" = some (some (.int 4 t_MOST_SUM_FIGURES)))
    {t_PRIME : Tok} (m_PRIME : PySem.W.nsIn K mainGlobals "PRIME" = some (some (.int 9973 t_PRIME)))
    {t_SMALL : Tok} (m_SMALL : PySem.W.nsIn K mainGlobals "SMALL" = some (some (.str "abcdefghijklmnopqrstuvwxyz" t_SMALL)))
    {t_TIME : Tok} (m_TIME : PySem.W.nsIn K mainGlobals "TIME" = some (some (.str "time" t_TIME)))
    {t_TIMES : Tok} (m_TIMES : PySem.W.nsIn K mainGlobals "TIMES" = some (some (.int 31 t_TIMES)))
    {t_TIME_WORDS : Tok} (m_TIME_WORDS : PySem.W.nsIn K mainGlobals "TIME_WORDS" = some (some (.int 4 t_TIME_WORDS)))
    (z_abs : PySem.W.nsIn K mainGlobals "abs" = some none)
    (z_bool : PySem.W.nsIn K mainGlobals "bool" = some none)
    (z_dict : PySem.W.nsIn K mainGlobals "dict" = some none)
    (z_enumerate : PySem.W.nsIn K mainGlobals "enumerate" = some none)
    (z_int : PySem.W.nsIn K mainGlobals "int" = some none)
    (z_isinstance : PySem.W.nsIn K mainGlobals "isinstance" = some none)
    (z_len : PySem.W.nsIn K mainGlobals "len" = some none)
    (z_list : PySem.W.nsIn K mainGlobals "list" = some none)
    (z_ord : PySem.W.nsIn K mainGlobals "ord" = some none)
    (z_range : PySem.W.nsIn K mainGlobals "range" = some none)
    (z_str : PySem.W.nsIn K mainGlobals "str" = some none)
    (z_tuple : PySem.W.nsIn K mainGlobals "tuple" = some none)
    (z_zip : PySem.W.nsIn K mainGlobals "zip" = some none)
    : ∃ fd : FuncData, (∀ (s : Shared) (v : Value), BindsTo s fd ⟨[v], []⟩ [("script", v)]) ∧ ∀ base : Heap, K.In base → base.Ns mainGlobals mg → FnOk l.prog w K mg base CX0 7 fa fd ["script"] (spLaw K) := by
  have C : Ctx K mg := {
    f__law_any := ⟨_, _, PySem.W.mg_of X G a0, fun_mk (st := s__law_any) l0 c0 k0⟩
    f__law_deal := ⟨_, _, PySem.W.mg_of X G a1, fun_mk (st := s__law_deal) l1 c1 k1⟩
    f_is_name := ⟨_, _, PySem.W.mg_of X G a2, fun_mk (st := s_is_name) l2 c2 k2⟩
    f_are_figures := ⟨_, _, PySem.W.mg_of X G a3, fun_mk (st := s_are_figures) l3 c3 k3⟩
    f_number_of := ⟨_, _, PySem.W.mg_of X G a4, fun_mk (st := s_number_of) l4 c4 k4⟩
    f_sum_of := ⟨_, _, PySem.W.mg_of X G a5, fun_mk (st := s_sum_of) l5 c5 k5⟩
    f_summed := ⟨_, _, PySem.W.mg_of X G a6, fun_mk (st := s_summed) l6 c6 k6⟩
    f_whole_text := ⟨_, _, PySem.W.mg_of X G a7, fun_mk (st := s_whole_text) l7 c7 k7⟩
    f_leaf_text := ⟨_, _, PySem.W.mg_of X G a8, fun_mk (st := s_leaf_text) l8 c8 k8⟩
    f_head_of := ⟨_, _, PySem.W.mg_of X G a9, fun_mk (st := s_head_of) l9 c9 k9⟩
    f_place_in := ⟨_, _, PySem.W.mg_of X G a10, fun_mk (st := s_place_in) l10 c10 k10⟩
    f_places_in := ⟨_, _, PySem.W.mg_of X G a11, fun_mk (st := s_places_in) l11 c11 k11⟩
    f_read_leaf := ⟨_, _, PySem.W.mg_of X G a12, fun_mk (st := s_read_leaf) l12 c12 k12⟩
    f__law_of := ⟨_, _, PySem.W.mg_of X G a13, fun_mk (st := s__law_of) l13 c13 k13⟩
    f__law_is_kind := ⟨_, _, PySem.W.mg_of X G a14, fun_mk (st := s__law_is_kind) l14 c14 k14⟩
    f__law_same := ⟨_, _, PySem.W.mg_of X G a15, fun_mk (st := s__law_same) l15 c15 k15⟩
    f__law_all := ⟨_, _, PySem.W.mg_of X G a16, fun_mk (st := s__law_all) l16 c16 k16⟩
    f__law_put := ⟨_, _, PySem.W.mg_of X G a17, fun_mk (st := s__law_put) l17 c17 k17⟩
    f__law_sum := ⟨_, _, PySem.W.mg_of X G a18, fun_mk (st := s__law_sum) l18 c18 k18⟩
    f__law_summed := ⟨_, _, PySem.W.mg_of X G a19, fun_mk (st := s__law_summed) l19 c19 k19⟩
    f__law_leaf_lines := ⟨_, _, PySem.W.mg_of X G a20, fun_mk (st := s__law_leaf_lines) l20 c20 k20⟩
    f__law_leaf_text := ⟨_, _, PySem.W.mg_of X G a21, fun_mk (st := s__law_leaf_text) l21 c21 k21⟩
    f__law_is_number_text := ⟨_, _, PySem.W.mg_of X G a22, fun_mk (st := s__law_is_number_text) l22 c22 k22⟩
    f__law_is_name_text := ⟨_, _, PySem.W.mg_of X G a23, fun_mk (st := s__law_is_name_text) l23 c23 k23⟩
    f__law_words := ⟨_, _, PySem.W.mg_of X G a24, fun_mk (st := s__law_words) l24 c24 k24⟩
    f__law_read := ⟨_, _, PySem.W.mg_of X G a25, fun_mk (st := s__law_read) l25 c25 k25⟩
    f__law_letters := ⟨_, _, PySem.W.mg_of X G a26, fun_mk (st := s__law_letters) l26 c26 k26⟩
    f__law_leaf := ⟨_, _, PySem.W.mg_of X G a27, fun_mk (st := s__law_leaf) l27 c27 k27⟩
    f__law_bent_lines := ⟨_, _, PySem.W.mg_of X G a28, fun_mk (st := s__law_bent_lines) l28 c28 k28⟩
    f__law_bent_texts := ⟨_, _, PySem.W.mg_of X G a29, fun_mk (st := s__law_bent_texts) l29 c29 k29⟩
    f_law := ⟨_, _, PySem.W.mg_of X G a30, fun_mk (st := s_law) l30 c30 k30⟩
    c_AT := ⟨_, PySem.W.mg_of X G m_AT, ⟨_, rfl⟩⟩
    c_BEGIN := ⟨_, PySem.W.mg_of X G m_BEGIN, ⟨_, rfl⟩⟩
    c_BLANK_leafsums := ⟨_, PySem.W.mg_of X G m_BLANK_leafsums, ⟨_, rfl⟩⟩
    c_BLANK_leaftext := ⟨_, PySem.W.mg_of X G m_BLANK_leaftext, ⟨_, rfl⟩⟩
    c_FIGURES := ⟨_, PySem.W.mg_of X G m_FIGURES, ⟨_, rfl⟩⟩
    c_HEAD := ⟨_, PySem.W.mg_of X G m_HEAD, ⟨_, rfl⟩⟩
    c_HEAD_WORDS := ⟨_, PySem.W.mg_of X G m_HEAD_WORDS, ⟨_, rfl⟩⟩
    c_MARK := ⟨_, PySem.W.mg_of X G m_MARK, ⟨_, rfl⟩⟩
    c_MOST_FIGURES := ⟨_, PySem.W.mg_of X G m_MOST_FIGURES, ⟨_, rfl⟩⟩
    c_MOST_SIGNS := ⟨_, PySem.W.mg_of X G m_MOST_SIGNS, ⟨_, rfl⟩⟩
    c_MOST_SUM_FIGURES := ⟨_, PySem.W.mg_of X G m_MOST_SUM_FIGURES, ⟨_, rfl⟩⟩
    c_PRIME := ⟨_, PySem.W.mg_of X G m_PRIME, ⟨_, rfl⟩⟩
    c_SMALL := ⟨_, PySem.W.mg_of X G m_SMALL, ⟨_, rfl⟩⟩
    c_TIME := ⟨_, PySem.W.mg_of X G m_TIME, ⟨_, rfl⟩⟩
    c_TIMES := ⟨_, PySem.W.mg_of X G m_TIMES, ⟨_, rfl⟩⟩
    c_TIME_WORDS := ⟨_, PySem.W.mg_of X G m_TIME_WORDS, ⟨_, rfl⟩⟩
    z_abs := PySem.W.mg_none_of X G z_abs
    z_bool := PySem.W.mg_none_of X G z_bool
    z_dict := PySem.W.mg_none_of X G z_dict
    z_enumerate := PySem.W.mg_none_of X G z_enumerate
    z_int := PySem.W.mg_none_of X G z_int
    z_isinstance := PySem.W.mg_none_of X G z_isinstance
    z_len := PySem.W.mg_none_of X G z_len
    z_list := PySem.W.mg_none_of X G z_list
    z_ord := PySem.W.mg_none_of X G z_ord
    z_range := PySem.W.mg_none_of X G z_range
    z_str := PySem.W.mg_none_of X G z_str
    z_tuple := PySem.W.mg_none_of X G z_tuple
    z_zip := PySem.W.mg_none_of X G z_zip
  }
  obtain ⟨fa1, fd, hm, F, _⟩ := ok_law (P := l.prog) (w := w) (base := h) C (cl := fun _ => none) law_pure
  have e := hfa.symm.trans hm
  cases e
  refine ⟨fd, fun s v => ?_, fun base _ _ => ?_⟩
  · obtain ⟨oc, od, kV, doc, pm, an, cdv, ct, osl, rfl, _, _⟩ := F.ex
    exact .of_eq rfl
  · obtain ⟨fa2, fd2, hm2, F2, ok⟩ := ok_law (P := l.prog) (w := w) (base := base) C (cl := fun _ => none) law_pure
    rw [hm] at hm2
    cases hm2
    obtain ⟨oc, od, kV, doc, pm, an, cdv, ct, osl, rfl, lk, _⟩ := F.ex
    obtain ⟨oc2, od2, kV2, doc2, pm2, an2, cdv2, ct2, osl2, rfl, lk2, _⟩ := F2.ex
    rw [lk] at lk2
    cases lk2
    exact ok
end Lk87
open PySem PySem.W PyProof.Rows
set_option maxHeartbeats 0 in
theorem PySem.Challenge.cw_downletsup_k87_leaves_as_texts_cut_and_b_holds : PySem.Challenge.rw_downletsup_k87_leaves_as_texts_cut_and_b.Holds := by
  w_on; o_law; k_head; (case hw => w_witness2)
  k_fill
  refine L2.walk_of (l := PySem.Challenge.rw_downletsup_k87_leaves_as_texts_cut_and_b) (n := 63) (k := 7) (x := "script") (CX := fun _ => L2.CX0) (sp := fun w => Py.spLaw _) rfl (by decide) rfl ⟨rfl, by decide, by decide⟩ (fun w h Y => PySem.W.kIn_of Y) ?F (fun _ _ a ns hl _ hS => ⟨a, ns, rfl, hS, hl, fun _ => rfl⟩) (fun _ _ _ _ _ h => h)
  case F =>
    intro w mg fa h KX G hmg
    refine' Lk87.all_mk KX G hmg ?a0 ?l0 ?c0 ?k0 ?a1 ?l1 ?c1 ?k1 ?a2 ?l2 ?c2 ?k2 ?a3 ?l3 ?c3 ?k3 ?a4 ?l4 ?c4 ?k4 ?a5 ?l5 ?c5 ?k5 ?a6 ?l6 ?c6 ?k6 ?a7 ?l7 ?c7 ?k7 ?a8 ?l8 ?c8 ?k8 ?a9 ?l9 ?c9 ?k9 ?a10 ?l10 ?c10 ?k10 ?a11 ?l11 ?c11 ?k11 ?a12 ?l12 ?c12 ?k12 ?a13 ?l13 ?c13 ?k13 ?a14 ?l14 ?c14 ?k14 ?a15 ?l15 ?c15 ?k15 ?a16 ?l16 ?c16 ?k16 ?a17 ?l17 ?c17 ?k17 ?a18 ?l18 ?c18 ?k18 ?a19 ?l19 ?c19 ?k19 ?a20 ?l20 ?c20 ?k20 ?a21 ?l21 ?c21 ?k21 ?a22 ?l22 ?c22 ?k22 ?a23 ?l23 ?c23 ?k23 ?a24 ?l24 ?c24 ?k24 ?a25 ?l25 ?c25 ?k25 ?a26 ?l26 ?c26 ?k26 ?a27 ?l27 ?c27 ?k27 ?a28 ?l28 ?c28 ?k28 ?a29 ?l29 ?c29 ?k29 ?a30 ?l30 ?c30 ?k30 ?m_AT ?m_BEGIN ?m_BLANK_leafsums ?m_BLANK_leaftext ?m_FIGURES ?m_HEAD ?m_HEAD_WORDS ?m_MARK ?m_MOST_FIGURES ?m_MOST_SIGNS ?m_MOST_SUM_FIGURES ?m_PRIME ?m_SMALL ?m_TIME ?m_TIMES ?m_TIME_WORDS ?z_abs ?z_bool ?z_dict ?z_enumerate ?z_int ?z_isinstance ?z_len ?z_list ?z_ord ?z_range ?z_str ?z_tuple ?z_zip
    (case a0 => k_is); (case l0 => k_is); (case c0 => k_is); (case k0 => k_is); (case a1 => k_is); (case l1 => k_is); (case c1 => k_is); (case k1 => k_is); (case a2 => k_is); (case l2 => k_is); (case c2 => k_is); (case k2 => k_is); (case a3 => k_is); (case l3 => k_is); (case c3 => k_is); (case k3 => k_is); (case a4 => k_is); (case l4 => k_is); (case c4 => k_is); (case k4 => k_is); (case a5 => k_is); (case l5 => k_is); (case c5 => k_is); (case k5 => k_is); (case a6 => k_is); (case l6 => k_is); (case c6 => k_is); (case k6 => k_is); (case a7 => k_is); (case l7 => k_is); (case c7 => k_is); (case k7 => k_is); (case a8 => k_is); (case l8 => k_is); (case c8 => k_is); (case k8 => k_is); (case a9 => k_is); (case l9 => k_is); (case c9 => k_is); (case k9 => k_is); (case a10 => k_is); (case l10 => k_is); (case c10 => k_is); (case k10 => k_is); (case a11 => k_is); (case l11 => k_is); (case c11 => k_is); (case k11 => k_is); (case a12 => k_is); (case l12 => k_is); (case c12 => k_is); (case k12 => k_is); (case a13 => k_is); (case l13 => k_is); (case c13 => k_is); (case k13 => k_is); (case a14 => k_is); (case l14 => k_is); (case c14 => k_is); (case k14 => k_is); (case a15 => k_is); (case l15 => k_is); (case c15 => k_is); (case k15 => k_is); (case a16 => k_is); (case l16 => k_is); (case c16 => k_is); (case k16 => k_is); (case a17 => k_is); (case l17 => k_is); (case c17 => k_is); (case k17 => k_is); (case a18 => k_is); (case l18 => k_is); (case c18 => k_is); (case k18 => k_is); (case a19 => k_is); (case l19 => k_is); (case c19 => k_is); (case k19 => k_is); (case a20 => k_is); (case l20 => k_is); (case c20 => k_is); (case k20 => k_is); (case a21 => k_is); (case l21 => k_is); (case c21 => k_is); (case k21 => k_is); (case a22 => k_is); (case l22 => k_is); (case c22 => k_is); (case k22 => k_is); (case a23 => k_is); (case l23 => k_is); (case c23 => k_is); (case k23 => k_is); (case a24 => k_is); (case l24 => k_is); (case c24 => k_is); (case k24 => k_is); (case a25 => k_is); (case l25 => k_is); (case c25 => k_is); (case k25 => k_is); (case a26 => k_is); (case l26 => k_is); (case c26 => k_is); (case k26 => k_is); (case a27 => k_is); (case l27 => k_is); (case c27 => k_is); (case k27 => k_is); (case a28 => k_is); (case l28 => k_is); (case c28 => k_is); (case k28 => k_is); (case a29 => k_is); (case l29 => k_is); (case c29 => k_is); (case k29 => k_is); (case a30 => k_is); (case l30 => k_is); (case c30 => k_is); (case k30 => k_is); (case m_AT => k_is); (case m_BEGIN => k_is); (case m_BLANK_leafsums => k_is); (case m_BLANK_leaftext => k_is); (case m_FIGURES => k_is); (case m_HEAD => k_is); (case m_HEAD_WORDS => k_is); (case m_MARK => k_is); (case m_MOST_FIGURES => k_is); (case m_MOST_SIGNS => k_is); (case m_MOST_SUM_FIGURES => k_is); (case m_PRIME => k_is); (case m_SMALL => k_is); (case m_TIME => k_is); (case m_TIMES => k_is); (case m_TIME_WORDS => k_is); (case z_abs => k_is); (case z_bool => k_is); (case z_dict => k_is); (case z_enumerate => k_is); (case z_int => k_is); (case z_isinstance => k_is); (case z_len => k_is); (case z_list => k_is); (case z_ord => k_is); (case z_range => k_is); (case z_str => k_is); (case z_tuple => k_is); (case z_zip => k_is)

